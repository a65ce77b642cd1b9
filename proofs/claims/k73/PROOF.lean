import PyProof.Rows.All
import Wide.All
import OpenK.AllK
import Wide.FinOn
import KE.KStateDown
import HandS.ForMost
import HandS.Ends
import HandS.Defaults
import HandS.Head0
import HandS.Head1
import HandS.Head2
import HandS.HeadEnd
import HandS.HeadHook1
import HandS.HeadHook2
import HandS.HeadHook4
import PyProof.TableCode
import HandS.Exc
import HandS.ExcOwn
import HandS.Flow
import HandS.TupAny
import HandS.Style
import HandS.Deep
import HandS.CallSlots
import HandS.Iter
import HandS.Zip
import HandS.Zip0
import HandS.Comp
import HandS.DictComp
import HandS.AnyAll
import HandS.More
import HandS.TupLen
import KE.KDictKeyed
import KE.KDictList
import KE.KDictWalk
import KE.KDictCopyH
import HandS.IsInst
import KE.SortCalls
import KE.SortKeyed
import KE.KDictSum
import PyProof.Rows.SortWalk
import HandS.ExcInit
import HandS.Words
import HandS.WordsExc
import HandS.ExcField
import HandS.TryMany
import HandS.Head3
import PySem.Challenge.RW_worldsalike_k73_whole_exact_chances
set_option linter.all false
/-! WaDat: data, code and the evaluator (plain Lean, no program in sight). -/
namespace Wa

abbrev Txt := List Nat
/-- the longest list, tuple, text, dict that is made -/
def line : Nat := 16777216

/-- data that stand still -/
inductive D where
  | non | bl (b : Bool) | int (i : Int) | str (s : Txt)
  | tup (xs : List D) | lst (xs : List D) | dct (ks vs : List D) | ins (c : Nat) (vs : List D) | ref (i : Nat)
deriving Inhabited

/-- what a name holds: data, or a list, a dict, an instance of its own that it may change -/
inductive S where
  | val (d : D) | olst (xs : List D) | odct (ks vs : List D) | oins (c : Nat) (vs : List D)
deriving Inhabited

/-- an object that several may change -/
inductive Cell where
  | lst (xs : List D) | dct (ks vs : List D) | ins (c : Nat) (vs : List D)
deriving Inhabited

abbrev Env := List (Option S)

inductive R (α : Type) where
  | ok (a : α) (L : List Cell) | exc (c : Nat) (vs : List D) (L : List Cell) | bad
def R.bind {α β : Type} (r : R α) (f : α → List Cell → R β) : R β :=
  match r with
  | .ok a L => f a L
  | .exc c vs L => .exc c vs L
  | .bad => .bad

/-! ### Python's == on data -/
mutual
def D.eqv : D → D → Bool
  | .non, .non => true
  | .bl a, .bl b => a == b
  | .bl a, .int j => (if a then 1 else 0) == j
  | .int i, .bl b => i == (if b then 1 else 0)
  | .int i, .int j => i == j
  | .str x, .str y => x == y
  | .tup xs, .tup ys => eqvs xs ys
  | .lst xs, .lst ys => eqvs xs ys
  | _, _ => false
def eqvs : List D → List D → Bool
  | [], [] => true
  | x :: xs, y :: ys => D.eqv x y && eqvs xs ys
  | _, _ => false
end
/- may be compared: nothing in it but None, bools, intsD, texts, tuples, lists, not too deep -/
mutual
def D.plain : Nat → D → Bool
  | _, .non => true
  | _, .bl _ => true
  | _, .int _ => true
  | _, .str _ => true
  | n + 1, .tup xs => plains n xs
  | n + 1, .lst xs => plains n xs
  | _, _ => false
def plains : Nat → List D → Bool
  | _, [] => true
  | n, x :: xs => D.plain n x && plains n xs
end
/- within a tuple that is a key: intsD, texts, bools, tuples -/
mutual
def D.keyin : Nat → D → Bool
  | _, .int _ => true
  | _, .str _ => true
  | _, .bl _ => true
  | n + 1, .tup xs => keyins n xs
  | _, _ => false
def keyins : Nat → List D → Bool
  | _, [] => true
  | n, x :: xs => D.keyin n x && keyins n xs
end
/-- a key of a dict: an int, a text, a tuple of such and bools -/
def D.key : D → Bool
  | .int _ => true
  | .str _ => true
  | .tup xs => keyins 6 xs
  | _ => false
/-- no list, dict, instance -/
def D.leaf : D → Bool
  | .lst _ => false
  | .dct _ _ => false
  | .ins _ _ => false
  | _ => true
def D.isTup : D → Bool
  | .tup _ => true
  | _ => false
/-- keys of one sort -/
def kok (k : D) (ks : List D) : Bool :=
  match ks with
  | [] => D.key k
  | x :: _ => D.key k && (D.isTup x == D.isTup k)
/- a key, bools told as intsD -/
mutual
def D.nrm : D → D
  | .bl b => .int (if b then 1 else 0)
  | .tup xs => .tup (nrms xs)
  | d => d
def nrms : List D → List D
  | [] => []
  | x :: xs => D.nrm x :: nrms xs
end
/-! ### order -/
mutual
def D.ltb : D → D → Bool
  | .bl a, .bl b => !a && b
  | .bl a, .int j => decide ((if a then 1 else 0) < j)
  | .int i, .bl b => decide (i < (if b then 1 else 0))
  | .int i, .int j => decide (i < j)
  | .str x, .str y => decide (x < y)
  | .tup xs, .tup ys => ltbs xs ys
  | .lst xs, .lst ys => ltbs xs ys
  | _, _ => false
def ltbs : List D → List D → Bool
  | [], [] => false
  | [], _ :: _ => true
  | _ :: _, [] => false
  | x :: xs, y :: ys => if D.eqv x y then ltbs xs ys else D.ltb x y
end
/- may be ordered: place by place of one kind -/
mutual
def D.ordk : Nat → D → D → Bool
  | _, .non, .non => true
  | _, .bl _, .bl _ => true
  | _, .int _, .int _ => true
  | _, .str _, .str _ => true
  | n + 1, .tup xs, .tup ys => ordks n xs ys
  | n + 1, .lst xs, .lst ys => ordks n xs ys
  | _, _, _ => false
def ordks : Nat → List D → List D → Bool
  | n, x :: xs, y :: ys => D.ordk n x y && ordks n xs ys
  | _, _, _ => true
end
def D.tup1 : D → Bool
  | .tup (_ :: _) => true
  | _ => false
def D.notup : D → Bool
  | .tup _ => false
  | .non => false
  | _ => true
/-- sorted, what is alike in its order -/
def sortD : List D → List D
  | [] => []
  | x :: xs => insR x (sortD xs)
where insR (x : D) : List D → List D
  | [] => [x]
  | y :: ys => if D.ltb y x then y :: insR x ys else x :: y :: ys
end Wa

set_option linter.all false
/-! WaEval: the code and its evaluator. -/
namespace Wa

inductive Op where | add | sub | mul | fdiv | mod | pow | shl | shr | band
inductive Cm where | eq | ne | lt | le | gt | ge | is | isn | isin | notin
inductive Tag where | int | bool | str | tup | lst | dct
inductive Bi where | len | all | any | sum | int | tup | lst | dct | sorted | max2 | min2 | maxL | minL | lenset
inductive Bm where | index | count | get1 | get2

mutual
inductive CT where
  | v (i : Nat) | tup (ts : CTs)
inductive CTs where
  | nil | cons (t : CT) (ts : CTs)
end

mutual
inductive CE where
  | var (i : Nat) | non | bl (b : Bool) | int (i : Int) | str (s : Txt) | glob (d : D)
  | tup (es : CEs) | fr (f : CF)
  | op (o : Op) (a b : CO) | neg (a : CO)
  | cmp (o : Cm) (a b : CO) | chain (o p : Cm) (a b c : CO)
  | not (a : CE) | and (a b : CE) | or (a b : CE) | ite (c a b : CE)
  | ix (a : CO) (i : CE) | sl (a : CO) (lo hi : CEo) | isi (a : CO) (ts : List Tag)
  | bi (b : Bi) (es : COs) | bm (m : Bm) (o : CO) (es : COs)
  | call (f : Nat) (es : CEs) | callP (f : Nat) (es : COs)
  | meth (c f : Nat) (o : CE) (es : CEs) | methP (c f : Nat) (o : CE) (es : COs)
  | make (c : Nat) (es : CEs) | makeR (c : Nat) (es : CEs)
  | fld (o : CO) (c f : Nat)
  | rlst (es : CEs) | rdct
inductive CEs where
  | nil | cons (e : CE) (es : CEs)
inductive CEo where
  | none | some (e : CE)
inductive CO where
  | e (e : CE) | pk (i : Nat)
inductive COs where
  | nil | cons (e : CO) (es : COs)
inductive CF where
  | lst (es : CEs) | dct (ks vs : CEs)
  | comp (own : List Nat) (elt : CE) (t : CT) (it : CI) (tst : CEo)
  | comp2 (own own2 : List Nat) (elt : CE) (t : CT) (it : CI) (tst : CEo) (t2 : CT) (it2 : CI) (tst2 : CEo)
  | dcomp (own : List Nat) (k v : CE) (t : CT) (it : CI) (tst : CEo)
  | bi (b : Bi) (es : COs) | op (o : Op) (a b : CO) | sl (a : CO) (lo hi : CEo)
inductive CI where
  | seq (a : CO) | rng (es : COs) | enum (a : CO) | enumF (a : CO) (s : CE) | zip (es : COs) | keys (a : CO) | items (a : CO) | values (a : CO)
end

mutual
inductive CS where
  | set (t : CT) (e : CE) | setF (i : Nat) (f : CF) | pop (t : CT) (i : Nat)
  | aug (i : Nat) (o : Op) (e : CE)
  | app (i : Nat) (e : CE) | ext (i : Nat) (e : CE) | dput (i : Nat) (k e : CE) | dupd (i : Nat) (e : CE) | lput (i : Nat) (k e : CE)
  | rapp (o e : CE) | rput (o k e : CE) | rfld (o : CE) (c f : Nat) (e : CE)
  | self (c f : Nat) (e : CE) | frz (i : Nat)
  | ite (c : CE) (a b : CSs) | loop (t : CT) (it : CI) (b : CSs) | while (c : CE) (b : CSs)
  | ret (e : CE) | retN | expr (e : CE) | raise (c : Nat) (es : CEs)
  | pass | brk | cont | try_ (b : CSs) (known : List Nat) (hs : CHs)
inductive CSs where
  | nil | cons (s : CS) (ss : CSs)
/-- an except clause: return a constant, or a field of the exception -/
inductive CH where
  | ret (s : Txt) | fld (i f : Nat)
inductive CHs where
  | nil | cons (c : Nat) (h : CH) (hs : CHs)
end

def CEs.of : List CE → CEs
  | [] => .nil
  | e :: es => .cons e (CEs.of es)

/-! ### operators on data -/
def intOf : D → Option Int
  | .int i => some i
  | .bl b => some (if b then 1 else 0)
  | _ => none
def fitsMul (a b : Int) : Bool := (decide (-(2 ^ 64) < a) && decide (a < 2 ^ 64)) || (decide (-(2 ^ 64) < b) && decide (b < 2 ^ 64))
def opD : Op → D → D → Option D
  | .add, .int a, .int b => some (.int (a + b))
  | .add, .str a, .str b => if a.length + b.length ≤ line then some (.str (a ++ b)) else none
  | .add, .tup a, .tup b => if a.length + b.length ≤ line then some (.tup (a ++ b)) else none
  | .add, .lst a, .lst b => if a.length + b.length ≤ line then some (.lst (a ++ b)) else none
  | .sub, .int a, .int b => some (.int (a - b))
  | .mul, .int a, .int b => if fitsMul a b then some (.int (a * b)) else none
  | .fdiv, .int a, .int b => if b ≠ 0 ∧ b.natAbs < 1073741824 then some (.int (a.fdiv b)) else none
  | .mod, .int a, .int b => if b ≠ 0 then some (.int (a.fmod b)) else none
  | .pow, .int a, .int b => if 0 ≤ b ∧ b ≤ 1000000 ∧ a.natAbs < 2 ^ 64 then some (.int (a ^ b.toNat)) else none
  | .shl, .int a, .int b => if 0 ≤ b ∧ b ≤ 1000000 ∧ a.natAbs < 2 ^ 64 then some (.int (a * 2 ^ b.toNat)) else none
  | .shr, .int a, .int b => if 0 ≤ b then some (.int (a / 2 ^ b.toNat)) else none
  | .band, .int (.ofNat a), .int (.ofNat b) => some (.int (.ofNat (a &&& b)))
  | _, _, _ => none

/-- where a key stands -/
def atK (k : D) : List D → List D → Option D
  | x :: xs, v :: vs => if D.eqv x k then some v else atK k xs vs
  | _, _ => none
def inL (x : D) (xs : List D) : Bool := xs.any fun y => D.eqv y x
def same : D → D → Option Bool
  | .non, .non => some true
  | .bl a, .bl b => some (a == b)
  | _, .non => some false
  | _, _ => none
/-- how deep data may be that are compared -/
def deep : Nat := 40
def cmpD : Cm → D → D → Option Bool
  | .eq, a, b => if D.plain deep a && D.plain deep b then some (D.eqv a b) else none
  | .ne, a, b => if D.plain deep a && D.plain deep b then some (!D.eqv a b) else none
  | .lt, .int a, .int b => some (decide (a < b))
  | .gt, .int a, .int b => some (decide (b < a))
  | .le, .int a, .int b => some (decide (a ≤ b))
  | .ge, .int a, .int b => some (decide (b ≤ a))
  | .is, a, b => same a b
  | .isn, a, b => (same a b).map not
  | .isin, .str [c], .str y => some (y.contains c)
  | .isin, x, .lst ys => if D.plain deep x && plains deep ys then some (inL x ys) else none
  | .isin, x, .tup ys => if D.plain deep x && plains deep ys then some (inL x ys) else none
  | .isin, x, .dct ks vs => if kok x ks then some (atK x ks vs).isSome else none
  | .notin, .str [c], .str y => some (!y.contains c)
  | .notin, x, .lst ys => if D.plain deep x && plains deep ys then some (!inL x ys) else none
  | .notin, x, .tup ys => if D.plain deep x && plains deep ys then some (!inL x ys) else none
  | .notin, x, .dct ks vs => if kok x ks then some (!(atK x ks vs).isSome) else none
  | _, _, _ => none
def truth : D → Option Bool
  | .non => some false
  | .bl b => some b
  | .int i => some (decide (i ≠ 0))
  | .str s => some (!s.isEmpty)
  | .tup xs => some (!xs.isEmpty)
  | .lst xs => some (!xs.isEmpty)
  | _ => none
def ixN (n : Nat) (i : Int) : Option Nat := if 0 ≤ i then (if i < n then some i.toNat else none) else if -(n : Int) ≤ i then some (i + n).toNat else none
def atI {α : Type} (xs : List α) (i : Int) : Option α := (ixN xs.length i).bind fun j => xs[j]?
def ixD : D → D → Option D
  | .tup xs, .int i => atI xs i
  | .lst xs, .int i => atI xs i
  | .str s, .int i => (atI s i).map fun c => .str [c]
  | .dct ks vs, k => if kok k ks then atK k ks vs else none
  | _, _ => none
def sIx (n d : Nat) : Option Int → Nat
  | none => d
  | some i => if i < 0 then (i + n).toNat else min i.toNat n
def cutL {α : Type} (xs : List α) (lo hi : Option Int) : List α := (xs.drop (sIx xs.length 0 lo)).take (sIx xs.length xs.length hi - sIx xs.length 0 lo)
def slD (d : D) (lo hi : Option Int) : Option D :=
  match d with
  | .tup xs => some (.tup (cutL xs lo hi))
  | .lst xs => some (.lst (cutL xs lo hi))
  | .str s => some (.str (cutL s lo hi))
  | _ => none
def isTag : D → Tag → Option Bool
  | .non, _ => some false
  | .bl _, t => some (match t with | .int => true | .bool => true | _ => false)
  | .int _, t => some (match t with | .int => true | _ => false)
  | .str _, t => some (match t with | .str => true | _ => false)
  | .tup _, t => some (match t with | .tup => true | _ => false)
  | .lst _, t => some (match t with | .lst => true | _ => false)
  | _, _ => none
def isTags (d : D) : List Tag → Option Bool
  | [] => some false
  | t :: ts => match isTag d t with
    | some true => some true
    | some false => isTags d ts
    | none => none

def bools : List D → Option (List Bool)
  | [] => some []
  | .bl b :: r => (bools r).map (b :: ·)
  | _ => none
def intsD : List D → Option (List Int)
  | [] => some []
  | .int i :: r => (intsD r).map (i :: ·)
  | _ => none
def okSort (xs : List D) : Bool := (xs.all D.tup1 || xs.all D.notup) && xs.all fun x => xs.all fun y => D.ordk deep x y
def itemsOf : D → Option (List D)
  | .lst xs => some xs
  | .tup xs => some xs
  | .dct ks _ => some ks
  | .str s => some (s.map fun c => .str [c])
  | _ => none
def lenD : D → Option Nat
  | .lst xs => some xs.length
  | .tup xs => some xs.length
  | .dct ks _ => some ks.length
  | .str s => some s.length
  | _ => none
/-- different ones, each at its first place -/
def once : List D → List D → List D
  | acc, [] => acc
  | acc, x :: xs => if inL x acc then once acc xs else once (acc ++ [x]) xs
/-- intsD and texts -/
def atoms (ks : List D) : Bool := ks.all fun k => k.key && !k.isTup
def bi1 : Bi → D → Option D
  | .len, a => (lenD a).map fun (n : Nat) => D.int (n : Int)
  | .all, .lst xs => (bools xs).map fun bs => .bl (bs.all id)
  | .any, .lst xs => (bools xs).map fun bs => .bl (bs.any id)
  | .sum, .lst xs => (intsD xs).map fun is => .int is.sum
  | .int, a => (intOf a).map .int
  | .tup, .lst xs => some (.tup xs)
  | .tup, .tup xs => some (.tup xs)
  | .lst, .lst xs => some (.lst xs)
  | .lst, .tup xs => some (.lst xs)
  | .lst, .dct ks _ => some (.lst ks)
  | .dct, .dct ks vs => if atoms ks then some (.dct ks vs) else none
  | .sorted, .lst xs => if okSort xs then some (.lst (sortD xs)) else none
  | .sorted, .dct ks _ => if okSort ks then some (.lst (sortD ks)) else none
  | .lenset, a => match itemsOf a with
    | some xs => if xs.all D.key then some (.int (once [] xs).length) else none
    | none => none
  | _, _ => none
def bi2 : Bi → D → D → Option D
  | .max2, .int a, .int b => some (.int (if b > a then b else a))
  | .min2, .int a, .int b => some (.int (if b < a then b else a))
  | _, _, _ => none
def biD (b : Bi) (ds : List D) : Option D :=
  match ds with
  | [x] => bi1 b x
  | [x, y] => bi2 b x y
  | _ => none
def idxOf (x : D) : List D → Option Nat
  | [] => none
  | y :: ys => if D.eqv y x then some 0 else (idxOf x ys).map (· + 1)
def bmD : Bm → D → List D → Option D
  | .index, .lst xs, [x] => if D.plain deep x && D.plain deep (.lst xs) then (idxOf x xs).map fun (n : Nat) => D.int (n : Int) else none
  | _, _, _ => none
/-- the kind of a receiver -/
def bmk : D → Nat
  | .lst _ => 1
  | .tup _ => 2
  | .dct _ _ => 3
  | _ => 0
def bmOk (m : Bm) (d : D) : Bool :=
  match m with
  | .index => bmk d == 1
  | _ => false
/-- a dict's entry stored -/
def putK (k v : D) : List D → List D → List D × List D
  | x :: xs, w :: ws => if D.eqv x k then (x :: xs, v :: ws) else let r := putK k v xs ws; (x :: r.1, w :: r.2)
  | _, _ => ([k], [v])
/-- x op= y of intsD -/
def augD : Op → D → D → Option D
  | .add, .int a, .int b => some (.int (a + b))
  | .sub, .int a, .int b => some (.int (a - b))
  | _, _, _ => none
def putC (k v : D) (ks vs : List D) : Option (List D × List D) := if kok k ks && decide (ks.length < line) then some (putK k v ks vs) else none
def putAll : List D → List D → List D → List D → Option (List D × List D)
  | k :: ks, v :: vs, xs, ws => match putC k v xs ws with
    | some r => putAll ks vs r.1 r.2
    | none => none
  | _, _, xs, ws => some (xs, ws)

/-- a field stored, as data -/
def setN {α : Type} (xs : List α) (f : Nat) (v : α) : List α := if f = xs.length then xs ++ [v] else xs.set f v

/-! ### names -/
mutual
def CT.put : CT → D → Env → Option Env
  | .v i, d, env => some (env.set i (some (.val d)))
  | .tup ts, .tup ds, env => CTs.put ts ds env
  | .tup _, _, _ => none
def CTs.put : CTs → List D → Env → Option Env
  | .nil, [], env => some env
  | .cons t ts, d :: ds, env => match CT.put t d env with
    | some env => CTs.put ts ds env
    | none => none
  | _, _, _ => none
end
def wipe (env : Env) : List Nat → Env
  | [] => env
  | i :: is => (wipe env is).set i none
def frz : S → D
  | .val d => d
  | .olst xs => .lst xs
  | .odct ks vs => .dct ks vs
  | .oins c vs => .ins c vs

/-- what a name holds -/
def slot : Env → Nat → Option S
  | [], _ => none
  | x :: _, 0 => x
  | _ :: r, i + 1 => slot r i
/-! ### the evaluator -/
structure Cfg where
  /-- a def called: whether it must leave all as it is, its number, its arguments -/
  call : Bool → Nat → List D → List Cell → R D
  /-- an instance's fields made -/
  init : Bool → Nat → List D → List Cell → R (List D)
  /-- nothing may be changed but what is new -/
  ro : Bool
  /-- how many turns a while may take -/
  turns : Nat

def opt {α : Type} (x : Option α) (L : List Cell) : R α :=
  match x with
  | some a => .ok a L
  | none => .bad
def evVar (env : Env) (i : Nat) (L : List Cell) : R D :=
  match slot env i with
  | some (.val d) => .ok d L
  | _ => .bad
def evPk (env : Env) (i : Nat) (L : List Cell) : R D :=
  match slot env i with
  | some s => .ok (frz s) L
  | _ => .bad
def fldD (c f : Nat) (d : D) (L : List Cell) : Option D :=
  match d with
  | .ins c' vs => if c' = c then vs[f]? else none
  | .ref i => match L[i]? with
    | some (.ins c' vs) => if c' = c then vs[f]? else none
    | _ => none
  | _ => none
def isCls (c : Nat) (d : D) (L : List Cell) : Bool :=
  match d with
  | .ins c' _ => c' == c
  | .ref i => match L[i]? with
    | some (.ins c' _) => c' == c
    | _ => false
  | _ => false
/-- what a cell holds, as data (to be read at once) -/
def seen (d : D) (L : List Cell) : D :=
  match d with
  | .ref i => match L[i]? with
    | some (.lst xs) => .lst xs
    | some (.dct ks vs) => .dct ks vs
    | _ => d
  | _ => d
mutual
def D.flat : D → Bool
  | .lst _ => false
  | .dct _ _ => false
  | .ins _ _ => false
  | .tup xs => flats xs
  | _ => true
def flats : List D → Bool
  | [] => true
  | x :: xs => D.flat x && flats xs
end
def anyPk : COs → Bool
  | .nil => false
  | .cons (.pk _) _ => true
  | .cons (.e _) es => anyPk es
/-- behind a call that changes nothing; where something was lent, what comes back must not hold it -/
def lent (b : Bool) (r : R D) (L : List Cell) : R D :=
  match r with
  | .ok d _ => if b && !D.flat d then .bad else .ok d L
  | .exc c vs _ => if b then .bad else .exc c vs L
  | .bad => .bad
def nox {α : Type} (r : R α) : R α :=
  match r with
  | .exc _ _ _ => .bad
  | r => r
def rngL (lo : Int) (n : Nat) : List D := (List.range n).map fun k => D.int (lo + (k : Nat))
def small (i : Int) : Bool := decide (-(2 ^ 62) ≤ i) && decide (i < 2 ^ 62)
def rngD : List D → Option (List D)
  | [.int n] => if small n then some (rngL 0 n.toNat) else none
  | [.int a, .int b] => if small a && small b then some (rngL a (b - a).toNat) else none
  | _ => none
def enumL (i : Int) : List D → List D
  | [] => []
  | x :: xs => .tup [.int i, x] :: enumL (i + 1) xs
def zip2 : List D → List D → List D
  | x :: xs, y :: ys => .tup [x, y] :: zip2 xs ys
  | _, _ => []
def seqOf : D → Option (List D)
  | .lst xs => some xs
  | .tup xs => some xs
  | _ => none
def seqI : D → Option (List D)
  | .lst xs => some xs
  | .tup xs => some xs
  | .str s => some (s.map fun c => .str [c])
  | _ => none
def zipD : List D → Option (List D)
  | [.lst xs, .lst ys] => some (zip2 xs ys)
  | [.tup xs, .tup ys] => some (zip2 xs ys)
  | _ => none
/-- a comprehension's loop: the names as they are ahead of each turn -/
def compL {α : Type} (t : CT) (tst : Env → List Cell → R Bool) (el : Env → List Cell → R α) (env : Env) : List D → List Cell → R (List α)
  | [], L => .ok [] L
  | x :: xs, L => match t.put x env with
    | none => .bad
    | some env' => (tst env' L).bind fun b L => if b then (el env' L).bind fun d L => (compL t tst el env xs L).bind fun ds L => .ok (d :: ds) L else compL t tst el env xs L
def joinL {α : Type} : List (List α) → List α
  | [] => []
  | x :: xs => x ++ joinL xs
def leafD (x : Option D) : Option D := x.bind fun d => if d.leaf then some d else none
def sized (n : Nat) {α : Type} (a : α) (L : List Cell) : R α := if n ≤ line then .ok a L else .bad

mutual
def ev (G : Cfg) : CE → Env → List Cell → R D
  | .var i, env, L => evVar env i L
  | .non, _, L => .ok .non L
  | .bl b, _, L => .ok (.bl b) L
  | .int i, _, L => .ok (.int i) L
  | .str s, _, L => .ok (.str s) L
  | .glob d, _, L => .ok d L
  | .tup es, env, L => (evs G es env L).bind fun ds L => sized ds.length (.tup ds) L
  | .fr f, env, L => (evF G f env L).bind fun s L => .ok (frz s) L
  | .op o a b, env, L => (evO G a env L).bind fun x L => (evO G b env L).bind fun y L => opt (opD o x y) L
  | .neg a, env, L => (evO G a env L).bind fun x L => match x with
    | .int i => .ok (.int (-i)) L
    | _ => .bad
  | .cmp o a b, env, L => (evO G a env L).bind fun x L => (evO G b env L).bind fun y L => opt ((cmpD o x (seen y L)).map .bl) L
  | .chain o p a b c, env, L => (evO G a env L).bind fun x L => (evO G b env L).bind fun y L => (opt (cmpD o x y) L).bind fun k L =>
      if k then (evO G c env L).bind fun z L => opt ((cmpD p y z).map .bl) L else .ok (.bl false) L
  | .not a, env, L => (ev G a env L).bind fun x L => (opt (truth x) L).bind fun k L => .ok (.bl (!k)) L
  | .and a b, env, L => (ev G a env L).bind fun x L => (opt (truth x) L).bind fun k L => if k then ev G b env L else .ok x L
  | .or a b, env, L => (ev G a env L).bind fun x L => (opt (truth x) L).bind fun k L => if k then .ok x L else ev G b env L
  | .ite c a b, env, L => (ev G c env L).bind fun x L => (opt (truth x) L).bind fun k L => if k then ev G a env L else ev G b env L
  | .ix a i, env, L => (evO G a env L).bind fun x L => (ev G i env L).bind fun y L => opt (ixD (seen x L) y) L
  | .sl a lo hi, env, L => (evO G a env L).bind fun x L => (evP G lo env L).bind fun l L => (evP G hi env L).bind fun h L => opt (slD x l h) L
  | .isi a ts, env, L => (evO G a env L).bind fun x L => opt ((isTags (seen x L) ts).map .bl) L
  | .bi b es, env, L => (evOs G es env L).bind fun xs L => opt (leafD (biD b (xs.map fun x => seen x L))) L
  | .bm m o es, env, L => (evO G o env L).bind fun x L1 => if bmOk m (seen x L1) then (evOs G es env L1).bind fun xs L2 => if bmk (seen x L1) = bmk (seen x L2) then opt (bmD m (seen x L2) xs) L2 else .bad else .bad
  | .call f es, env, L => (evs G es env L).bind fun xs L => G.call G.ro f xs L
  | .callP f es, env, L => (evOs G es env L).bind fun xs L => lent (anyPk es) (G.call true f xs L) L
  | .meth c f o es, env, L => (ev G o env L).bind fun x L => if isCls c x L then (evs G es env L).bind fun xs L => G.call G.ro f (x :: xs) L else .bad
  | .methP c f o es, env, L => (ev G o env L).bind fun x L => if isCls c x L then (evOs G es env L).bind fun xs L => lent (anyPk es) (G.call true f (x :: xs) L) L else .bad
  | .make c es, env, L => (evs G es env L).bind fun xs L => (G.init G.ro c xs L).bind fun vs L => .ok (.ins c vs) L
  | .makeR c es, env, L => if G.ro then .bad else (evs G es env L).bind fun xs L => (G.init G.ro c xs L).bind fun vs L => .ok (.ref L.length) (L ++ [.ins c vs])
  | .fld o c f, env, L => (evO G o env L).bind fun x L => opt (fldD c f x L) L
  | .rlst es, env, L => if G.ro then .bad else (evs G es env L).bind fun xs L => sized xs.length (.ref L.length) (L ++ [.lst xs])
  | .rdct, _, L => if G.ro then .bad else .ok (.ref L.length) (L ++ [.dct [] []])
def evs (G : Cfg) : CEs → Env → List Cell → R (List D)
  | .nil, _, L => .ok [] L
  | .cons e es, env, L => (ev G e env L).bind fun x L => (evs G es env L).bind fun xs L => .ok (x :: xs) L
/-- a test -/
def evB (G : Cfg) : CEo → Env → List Cell → R Bool
  | .none, _, L => .ok true L
  | .some e, env, L => (ev G e env L).bind fun x L => opt (truth x) L
/-- a part of a slice -/
def evP (G : Cfg) : CEo → Env → List Cell → R (Option Int)
  | .none, _, L => .ok none L
  | .some e, env, L => (ev G e env L).bind fun x L => match x with
    | .int i => .ok (some i) L
    | _ => .bad
def evO (G : Cfg) : CO → Env → List Cell → R D
  | .e e, env, L => ev G e env L
  | .pk i, env, L => evPk env i L
def evOs (G : Cfg) : COs → Env → List Cell → R (List D)
  | .nil, _, L => .ok [] L
  | .cons e es, env, L => (evO G e env L).bind fun x L => (evOs G es env L).bind fun xs L => .ok (x :: xs) L
def evF (G : Cfg) : CF → Env → List Cell → R S
  | .lst es, env, L => (evs G es env L).bind fun ds L => sized ds.length (.olst ds) L
  | .dct ks vs, env, L => (evs G ks env L).bind fun xs L => (evs G vs env L).bind fun ys L =>
      if decide (xs.length = ys.length) && decide (xs.length ≤ 15) then (opt (putAll xs ys [] []) L).bind fun r L => .ok (.odct r.1 r.2) L else .bad
  | .comp own elt t it tst, env, L => (evI G it env L).bind fun xs L =>
      (nox (compL t (evB G tst) (ev G elt) (wipe env own) xs L)).bind fun ds L => sized ds.length (.olst ds) L
  | .comp2 own own2 elt t it tst t2 it2 tst2, env, L => (evI G it env L).bind fun xs L =>
      (nox (compL t (evB G tst) (fun env L => (evI G it2 env L).bind fun ys L => compL t2 (evB G tst2) (ev G elt) (wipe env own2) ys L) (wipe env own) xs L)).bind fun dss L =>
        let ds := joinL dss; sized ds.length (.olst ds) L
  | .dcomp own k v t it tst, env, L => (evI G it env L).bind fun xs L =>
      (nox (compL t (evB G tst) (fun env L => (ev G k env L).bind fun x L => (ev G v env L).bind fun y L => .ok (x, y) L) (wipe env own) xs L)).bind fun kvs L =>
        (opt (putAll (kvs.map (·.1)) (kvs.map (·.2)) [] []) L).bind fun r L => .ok (.odct r.1 r.2) L
  | .bi b es, env, L => (evOs G es env L).bind fun xs L => match biD b (xs.map fun x => seen x L) with
    | some (.lst ys) => .ok (.olst ys) L
    | some (.dct ks vs) => .ok (.odct ks vs) L
    | _ => .bad
  | .op o a b, env, L => (evO G a env L).bind fun x L => (evO G b env L).bind fun y L => match opD o x y with
    | some (.lst ys) => .ok (.olst ys) L
    | _ => .bad
  | .sl a lo hi, env, L => (evO G a env L).bind fun x L => (evP G lo env L).bind fun l L => (evP G hi env L).bind fun h L => match slD x l h with
    | some (.lst ys) => .ok (.olst ys) L
    | _ => .bad
/-- what is walked -/
def evI (G : Cfg) : CI → Env → List Cell → R (List D)
  | .seq a, env, L => (evO G a env L).bind fun x L => opt (seqI x) L
  | .keys a, env, L => (evO G a env L).bind fun x L => match x with
    | .dct ks _ => .ok ks L
    | _ => .bad
  | .rng es, env, L => (evOs G es env L).bind fun xs L => opt (rngD xs) L
  | .enum a, env, L => (evO G a env L).bind fun x L => match x with
    | .lst xs => .ok (enumL 0 xs) L
    | _ => .bad
  | .enumF a s, env, L => (evO G a env L).bind fun x L => (ev G s env L).bind fun y L => (opt (seqOf x) L).bind fun xs L => match y with
    | .int i => .ok (enumL i xs) L
    | _ => .bad
  | .zip es, env, L => (evOs G es env L).bind fun xs L => opt (zipD xs) L
  | .items a, env, L => (evO G a env L).bind fun x L => match x with
    | .dct ks vs => .ok (zip2 ks vs) L
    | _ => .bad
  | .values a, env, L => (evO G a env L).bind fun x L => match x with
    | .dct _ vs => .ok vs L
    | _ => .bad
end

inductive Fl where | next | ret (d : D) | brk | cont
inductive RS where
  | ok (f : Fl) (env : Env) (L : List Cell) | exc (c : Nat) (vs : List D) (env : Env) (L : List Cell) | bad
def RS.bind (r : RS) (k : Env → List Cell → RS) : RS :=
  match r with
  | .ok .next env L => k env L
  | r => r
/-- an expression in a statement -/
def within {α : Type} (env : Env) (r : R α) (k : α → List Cell → RS) : RS :=
  match r with
  | .ok a L => k a L
  | .exc c vs L => .exc c vs env L
  | .bad => .bad
def optS {α : Type} (x : Option α) (k : α → RS) : RS :=
  match x with
  | some a => k a
  | none => .bad
def loopS (t : CT) (body : Env → List Cell → RS) : List D → Env → List Cell → RS
  | [], env, L => .ok .next env L
  | x :: xs, env, L => match t.put x env with
    | none => .bad
    | some env => match body env L with
      | .ok .next env L => loopS t body xs env L
      | .ok .cont env L => loopS t body xs env L
      | .ok .brk env L => .ok .next env L
      | r => r
/-- classes of exceptions: 0 is the base of 1 to 4 -/
def subC (c k : Nat) : Bool := c == k || (k == 0 && c ≤ 4)
/-- what the except clauses make of an exception; sub: a class is (derived from) one -/
def catchS (sub : Nat → Nat → Bool) : CHs → Nat → List D → Env → List Cell → RS
  | .nil, c, vs, env, L => .exc c vs env L
  | .cons k h hs, c, vs, env, L => if sub c k then (match h with
      | .ret s => .ok (.ret (.str s)) env L
      | .fld i f => if c = k ∧ i < env.length then (match vs[f]? with
        | some d => .ok (.ret d) env L
        | none => .bad) else .bad) else catchS sub hs c vs env L
def whileS (c : Env → List Cell → R Bool) (body : Env → List Cell → RS) : Nat → Env → List Cell → RS
  | 0, _, _ => .bad
  | n + 1, env, L => within env (c env L) fun b L => if b then (match body env L with
      | .ok .next env L => whileS c body n env L
      | .ok .cont env L => whileS c body n env L
      | .ok .brk env L => .ok .next env L
      | r => r) else .ok .next env L

mutual
def ex (G : Cfg) : CS → Env → List Cell → RS
  | .set t e, env, L => within env (ev G e env L) fun d L => optS (t.put d env) fun env => .ok .next env L
  | .setF i f, env, L => within env (evF G f env L) fun s L => .ok .next (env.set i (some s)) L
  | .pop t i, env, L => match slot env i with
    | some (.olst xs) => match xs[xs.length - 1]? with
      | some x => optS (t.put x (env.set i (some (.olst xs.dropLast)))) fun env => .ok .next env L
      | none => .bad
    | _ => .bad
  | .aug i o e, env, L => within env (evVar env i L) fun x L => within env (ev G e env L) fun y L => optS (augD o x y) fun z => .ok .next (env.set i (some (.val z))) L
  | .app i e, env, L => match slot env i with
    | some (.olst xs) => within env (ev G e env L) fun d L => if xs.length < line then .ok .next (env.set i (some (.olst (xs ++ [d])))) L else .bad
    | _ => .bad
  | .ext i e, env, L => match slot env i with
    | some (.olst xs) => within env (ev G e env L) fun d L => match d with
      | .lst ys => if xs.length + ys.length ≤ line then .ok .next (env.set i (some (.olst (xs ++ ys)))) L else .bad
      | _ => .bad
    | _ => .bad
  | .dput i k e, env, L => match slot env i with
    | some (.odct ks vs) => within env (ev G e env L) fun v L => within env (ev G k env L) fun k L => optS (putC k v ks vs) fun r => .ok .next (env.set i (some (.odct r.1 r.2))) L
    | _ => .bad
  | .dupd i e, env, L => match slot env i with
    | some (.odct ks vs) => within env (ev G e env L) fun d L => match d with
      | .dct xs ys => if atoms xs && atoms ks && decide (ks.length + xs.length ≤ line) then optS (putAll xs ys ks vs) fun r => .ok .next (env.set i (some (.odct r.1 r.2))) L else .bad
      | _ => .bad
    | _ => .bad
  | .lput i k e, env, L => match slot env i with
    | some (.olst xs) => within env (ev G e env L) fun v L => within env (ev G k env L) fun k L => match k with
      | .int j => optS (ixN xs.length j) fun j => .ok .next (env.set i (some (.olst (xs.set j v)))) L
      | _ => .bad
    | _ => .bad
  | .rapp o e, env, L => if G.ro then .bad else within env (ev G o env L) fun x L => match x with
    | .ref i => match L[i]? with
      | some (.lst _) => within env (ev G e env L) fun d L => match L[i]? with
        | some (.lst xs) => if xs.length < line then .ok .next env (L.set i (.lst (xs ++ [d]))) else .bad
        | _ => .bad
      | _ => .bad
    | _ => .bad
  | .rput o k e, env, L => if G.ro then .bad else within env (ev G e env L) fun v L => within env (ev G o env L) fun x L => within env (ev G k env L) fun k L => match x with
    | .ref i => match L[i]? with
      | some (.lst xs) => match k with
        | .int j => optS (ixN xs.length j) fun j => .ok .next env (L.set i (.lst (xs.set j v)))
        | _ => .bad
      | some (.dct ks vs) => optS (putC k v ks vs) fun r => .ok .next env (L.set i (.dct r.1 r.2))
      | _ => .bad
    | _ => .bad
  | .rfld o c f e, env, L => if G.ro then .bad else within env (ev G e env L) fun v L => within env (ev G o env L) fun x L => match x with
    | .ref i => match L[i]? with
      | some (.ins c' vs) => if c' = c ∧ f < vs.length then .ok .next env (L.set i (.ins c (vs.set f v))) else .bad
      | _ => .bad
    | _ => .bad
  | .self c f e, env, L => match slot env 0 with
    | some (.oins c' vs) => if c' = c then within env (ev G e env L) fun v L => if f ≤ vs.length then .ok .next (env.set 0 (some (.oins c' (setN vs f v)))) L else .bad else .bad
    | _ => .bad
  | .frz i, env, L => match slot env i with
    | some (.val d) => .ok .next env L
    | some (.olst xs) => .ok .next (env.set i (some (.val (.lst xs)))) L
    | some (.odct ks vs) => .ok .next (env.set i (some (.val (.dct ks vs)))) L
    | _ => .bad
  | .ite c a b, env, L => within env (ev G c env L) fun x L => optS (truth x) fun k => if k then exs G a env L else exs G b env L
  | .loop t it b, env, L => within env (evI G it env L) fun xs L => loopS t (fun env L => exs G b env L) xs env L
  | .while c b, env, L => whileS (fun env L => (ev G c env L).bind fun x L => opt (truth x) L) (fun env L => exs G b env L) G.turns env L
  | .ret e, env, L => within env (ev G e env L) fun d L => .ok (.ret d) env L
  | .retN, env, L => .ok (.ret .non) env L
  | .expr e, env, L => within env (ev G e env L) fun _ L => .ok .next env L
  | .raise c es, env, L => within env (evs G es env L) fun xs L => .exc c xs env L
  | .pass, env, L => .ok .next env L
  | .brk, env, L => .ok .brk env L
  | .cont, env, L => .ok .cont env L
  | .try_ b known hs, env, L => match exs G b env L with
      | .exc c vs env L => if known.contains c then catchS subC hs c vs env L else .bad
      | r => r
def exs (G : Cfg) : CSs → Env → List Cell → RS
  | .nil, env, L => .ok .next env L
  | .cons s ss, env, L => (ex G s env L).bind fun env L => exs G ss env L
end

/-! ### defs -/
structure Fn where
  /-- how many parameters, and the values of the last ones where they are not given -/
  ps : Nat
  dfl : List D
  /-- how many names -/
  ns : Nat
  body : CSs
structure Tab where
  fn : Nat → Option Fn
  /-- a class's __init__ -/
  ini : Nat → Option Fn
def enter (ps : Nat) (dfl : List D) (ns : Nat) (args : List D) : Option Env :=
  let all := args ++ dfl.drop (dfl.length + args.length - ps)
  if all.length = ps then some (all.map (fun d => some (S.val d)) ++ List.replicate (ns - ps) none) else none
structure Orc where
  call : Bool → Nat → List D → List Cell → R D
  init : Bool → Nat → List D → List Cell → R (List D)
def noOrc : Orc := ⟨fun _ _ _ _ => .bad, fun _ _ _ _ => .bad⟩
def runFn (G : Cfg) (fn : Fn) (args : List D) (L : List Cell) : R D :=
  match enter fn.ps fn.dfl fn.ns args with
  | none => .bad
  | some env => match exs G fn.body env L with
    | .ok (.ret d) _ L => .ok d L
    | .ok .next _ L => .ok .non L
    | .exc c vs _ L => .exc c vs L
    | _ => .bad
def runIni (G : Cfg) (fn : Fn) (c : Nat) (args : List D) (L : List Cell) : R (List D) :=
  match enter fn.ps fn.dfl fn.ns (.non :: args) with
  | none => .bad
  | some env => match exs G fn.body (env.set 0 (some (.oins c []))) L with
    | .ok .next env L => match slot env 0 with
      | some (.oins k vs) => if k = c then .ok vs L else .bad
      | _ => .bad
    | .exc c vs _ L => .exc c vs L
    | _ => .bad
/-- the defs at a depth, and at one less -/
def orcs (T : Tab) (turns : Nat) : Nat → Orc × Orc
  | 0 => (noOrc, noOrc)
  | n + 1 => let p := orcs T turns n
    (⟨fun ro f args L => match T.fn f with
        | none => .bad
        | some fn => runFn ⟨p.1.call, p.2.init, ro, turns⟩ fn args L,
      fun ro c args L => match T.ini c with
        | none => .bad
        | some fn => runIni ⟨p.1.call, p.2.init, ro, turns⟩ fn c args L⟩, p.1)
def callN (T : Tab) (turns n : Nat) : Bool → Nat → List D → List Cell → R D := (orcs T turns n).1.call
def initN (T : Tab) (turns n : Nat) : Bool → Nat → List D → List Cell → R (List D) := (orcs T turns n).1.init
def cfgN (T : Tab) (turns n : Nat) (ro : Bool) : Cfg := ⟨callN T turns n, initN T turns (n - 1), ro, turns⟩
end Wa

set_option Elab.async false
set_option linter.all false
set_option maxRecDepth 100000
/-! WaRep: how data stand in the abstract heap. -/
namespace Wa
open PySem PySem.Spec PyProof.Rows L2

abbrev tx (s : Txt) : Str := ⟨s.toArray⟩
theorem tx_inj {a b : Txt} (h : tx a = tx b) : a = b := by
  have := congrArg (fun z : Str => z.cps.toList) h
  simpa [tx] using this
def Fine (s : Txt) : Prop := PyData.strOk (tx s) = true ∧ s.length ≤ line

/-- the classes of the text: where they stand, their fields in order -/
structure View where
  w : World
  K : PySem.W.Frag
  adr : Nat → Addr
  flds : Nat → List Str

/-- a key of a dict, as data -/
def keyD : Key → D
  | .inl i => .int i
  | .inr x => .str x.cps.toList
def keyFine : Key → Prop
  | .inl _ => True
  | .inr x => Fine x.cps.toList
/-- the keys of a dict of intsD and texts -/
def KOk (ks : List Key) : Prop := ks.Nodup ∧ ∀ k ∈ ks, keyFine k
theorem KOk.nil : KOk [] := ⟨List.nodup_nil, fun _ h => by cases h⟩
/-! a key's hash -/
mutual
def hashD (w : World) : D → Int
  | .int i => hashInt i
  | .bl b => hashInt (if b then 1 else 0)
  | .str s => hashStr w (tx s)
  | .tup xs => reduceHash (Builtin.Tuple.tupleHashOf (hashDs w xs))
  | _ => 0
def hashDs (w : World) : List D → List Int
  | [] => []
  | x :: xs => hashD w x :: hashDs w xs
end
/-- an entry of a dict whose keys are tuples: the key's items, where the key stands, the value -/
structure Row where
  k : List D
  a : Addr
  u : Value
  x : V
def Row.ent (w : World) (r : Row) : DictEntry := ⟨hashD w (.tup (nrms r.k)), .ref r.a, r.u⟩
/-- a dict by its entries -/
def rawT (w : World) (p : Addr) (rows : List Row) (h : Heap) : Prop :=
  ∃ o es ep, h.get? p = some o ∧ o.ExactDict ∧ o.data = .dict es ep ∧ es.toList = rows.map (Row.ent w) ∧ (p == sysModules) = false
/-- rows that are right by themselves -/
structure RowsOk (rows : List Row) : Prop where
  rel : ∀ r ∈ rows, RelV r.x r.u
  key : ∀ r ∈ rows, keyins 6 r.k = true
  nd : (rows.map fun r => nrms r.k).Nodup
  len : rows.length ≤ line

mutual
inductive Rep (T : View) (F : Addr → Prop) (I : List Addr) (H : Hp) : D → V → Prop
  | non : Rep T F I H .non .non
  | bl (b : Bool) : Rep T F I H (.bl b) (.bl b)
  | int (i : Int) : Rep T F I H (.int i) (.int i)
  | str (s : Txt) : Fine s → Rep T F I H (.str s) (.str (tx s))
  | tup {p : Addr} {xs : List V} {ds : List D} : SqT T.K H p xs → Reps T F I H ds xs → Rep T F I H (.tup ds) (.ref p)
  | lst {p : Addr} {xs : List V} {ds : List D} : F p → Rd H p (.lst xs) → Reps T F I H ds xs → Rep T F I H (.lst ds) (.ref p)
  | dk {p : Addr} {kvs : List (Key × V)} {ks vs : List D} : F p → H p = some (.dK kvs) → ks = kvs.map (fun e => keyD e.1) → KOk (kvs.map (·.1)) → Reps T F I H vs (kvs.map (·.2)) → Rep T F I H (.dct ks vs) (.ref p)
  | dt {p : Addr} {rows : List Row} {ks vs : List D} : F p → H p = some (.ext (rawT T.w p rows)) → RowsOk rows → ks = rows.map (fun r => D.tup r.k) → Reps T F I H ks (rows.map fun r => V.ref r.a) → Reps T F I H vs (rows.map (·.x)) → Rep T F I H (.dct ks vs) (.ref p)
  | ins {p : Addr} {dx : Addr} {fs : List (Str × V)} {c : Nat} {vs : List D} : F p → H p = some (.ins (T.adr c) dx fs) → fs.map (·.1) = (T.flds c).take vs.length → Reps T F I H vs (fs.map (·.2)) → Rep T F I H (.ins c vs) (.ref p)
  | ref {i : Nat} {p : Addr} : I[i]? = some p → Rep T F I H (.ref i) (.ref p)
inductive Reps (T : View) (F : Addr → Prop) (I : List Addr) (H : Hp) : List D → List V → Prop
  | nil : Reps T F I H [] []
  | cons {d : D} {v : V} {ds : List D} {vs : List V} : Rep T F I H d v → Reps T F I H ds vs → Reps T F I H (d :: ds) (v :: vs)
end

/-- nobody changes it: a tuple, what is locked -/
def Still : HO → Prop
  | .tup _ => True
  | .frz _ _ => True
  | _ => False
/-- what is frozen, and the tuples, stand as before -/
structure Keeps (F : Addr → Prop) (I : List Addr) (H : Hp) (F' : Addr → Prop) (I' : List Addr) (H' : Hp) : Prop where
  keep : ∀ p u, H p = some u → F p ∨ Still u → H' p = some u
  more : ∀ p, F p → F' p
  pre : ∃ m, I' = I ++ m
section
variable {T : View} {F F' F'' : Addr → Prop} {I I' I'' : List Addr} {H H' H'' : Hp}
theorem Keeps.refl : Keeps F I H F I H := ⟨fun _ _ h _ => h, fun _ h => h, [], by simp⟩
theorem Keeps.trans (a : Keeps F I H F' I' H') (b : Keeps F' I' H' F'' I'' H'') : Keeps F I H F'' I'' H'' := by
  refine ⟨fun p u h k => b.keep p u (a.keep p u h k) (k.imp (a.more p) id), fun p h => b.more p (a.more p h), ?_⟩
  obtain ⟨m, e⟩ := a.pre
  obtain ⟨n, e'⟩ := b.pre
  exact ⟨m ++ n, by rw [e', e, List.append_assoc]⟩
theorem Keeps.sqT (k : Keeps F I H F' I' H') {p : Addr} {xs : List V} (h : SqT T.K H p xs) : SqT T.K H' p xs := by
  rcases h with (h | ⟨o, h⟩) | h
  · exact .inl (.inl (k.keep _ _ h (.inr trivial)))
  · exact .inl (.inr ⟨o, k.keep _ _ h (.inr trivial)⟩)
  · exact .inr h
theorem Keeps.rd (k : Keeps F I H F' I' H') {p : Addr} {u : HO} (f : F p) (h : Rd H p u) : Rd H' p u := by
  rcases h with h | ⟨o, h⟩
  · exact .inl (k.keep _ _ h (.inl f))
  · exact .inr ⟨o, k.keep _ _ h (.inl f)⟩
mutual
theorem Rep.keeps (k : Keeps F I H F' I' H') : ∀ {d : D} {v : V}, Rep T F I H d v → Rep T F' I' H' d v
  | _, _, .non => .non
  | _, _, .bl b => .bl b
  | _, _, .int i => .int i
  | _, _, .str s h => .str s h
  | _, _, .tup h r => .tup (k.sqT h) (Reps.keeps k r)
  | _, _, .lst f h r => .lst (k.more _ f) (k.rd f h) (Reps.keeps k r)
  | _, _, .dk f h e n r => .dk (k.more _ f) (k.keep _ _ h (.inl f)) e n (Reps.keeps k r)
  | _, _, .dt f h o e q r => .dt (k.more _ f) (k.keep _ _ h (.inl f)) o e (Reps.keeps k q) (Reps.keeps k r)
  | _, _, .ins f h e r => .ins (k.more _ f) (k.keep _ _ h (.inl f)) e (Reps.keeps k r)
  | _, _, .ref h => .ref (by
      obtain ⟨m, e⟩ := k.pre
      rw [e, List.getElem?_append_left (List.getElem?_eq_some_iff.mp h).1]
      exact h)
theorem Reps.keeps (k : Keeps F I H F' I' H') : ∀ {ds : List D} {vs : List V}, Reps T F I H ds vs → Reps T F' I' H' ds vs
  | _, _, .nil => .nil
  | _, _, .cons h r => .cons (Rep.keeps k h) (Reps.keeps k r)
end
theorem Reps.length {ds : List D} {vs : List V} (h : Reps T F I H ds vs) : ds.length = vs.length := by
  induction ds generalizing vs with
  | nil => cases h; rfl
  | cons d ds ih => cases h with | cons _ r => simp [ih r]
theorem Reps.get {ds : List D} {vs : List V} (h : Reps T F I H ds vs) {i : Nat} {d : D} (e : ds[i]? = some d) : ∃ v, vs[i]? = some v ∧ Rep T F I H d v := by
  induction ds generalizing vs i with
  | nil => simp at e
  | cons x ds ih =>
    cases h with
    | cons a r =>
      cases i with
      | zero => simp at e; subst e; exact ⟨_, rfl, a⟩
      | succ i => simpa using ih r (by simpa using e)
theorem Reps.none {ds : List D} {vs : List V} (h : Reps T F I H ds vs) {i : Nat} (e : ds[i]? = none) : vs[i]? = none := by
  have := h.length
  have := List.getElem?_eq_none_iff.mp e
  exact List.getElem?_eq_none_iff.mpr (by omega)
theorem Reps.append {ds es : List D} {vs us : List V} (h : Reps T F I H ds vs) (k : Reps T F I H es us) : Reps T F I H (ds ++ es) (vs ++ us) := by
  induction ds generalizing vs with
  | nil => cases h; exact k
  | cons d ds ih => cases h with | cons a r => exact .cons a (ih r)
theorem Reps.set {ds : List D} {vs : List V} (h : Reps T F I H ds vs) (i : Nat) {d : D} {v : V} (k : Rep T F I H d v) : Reps T F I H (ds.set i d) (vs.set i v) := by
  induction ds generalizing vs i with
  | nil => cases h; exact .nil
  | cons x ds ih =>
    cases h with
    | cons a r =>
      cases i with
      | zero => exact .cons k r
      | succ i => exact .cons a (ih r i)
theorem Reps.take {ds : List D} {vs : List V} (h : Reps T F I H ds vs) (n : Nat) : Reps T F I H (ds.take n) (vs.take n) := by
  induction ds generalizing vs n with
  | nil => cases h; simp; exact .nil
  | cons x ds ih =>
    cases h with
    | cons a r =>
      cases n with
      | zero => simp; exact .nil
      | succ n => simp; exact .cons a (ih r n)
theorem Reps.drop {ds : List D} {vs : List V} (h : Reps T F I H ds vs) (n : Nat) : Reps T F I H (ds.drop n) (vs.drop n) := by
  induction ds generalizing vs n with
  | nil => cases h; simp; exact .nil
  | cons x ds ih =>
    cases h with
    | cons a r =>
      cases n with
      | zero => exact .cons a r
      | succ n => simpa using ih r n
theorem Reps.split {es ds : List D} {vs : List V} (h : Reps T F I H (es ++ ds) vs) : ∃ us ws, vs = us ++ ws ∧ Reps T F I H es us ∧ Reps T F I H ds ws := by
  induction es generalizing vs with
  | nil => exact ⟨[], vs, rfl, .nil, h⟩
  | cons e es ih =>
    cases h with
    | cons a r =>
      obtain ⟨us, ws, e1, h1, h2⟩ := ih r
      exact ⟨_ :: us, ws, by rw [e1]; rfl, .cons a h1, h2⟩
/-- one value stands for what was seen of one datum -/
theorem Reps.intsD {is : List Int} {vs : List V} (h : Reps T F I H (is.map D.int) vs) : vs = is.map V.int := by
  induction is generalizing vs with
  | nil => cases h; rfl
  | cons i is ih => cases h with | cons a r => cases a; rw [ih r]; rfl
theorem Reps.of_ints (is : List Int) : Reps T F I H (is.map D.int) (is.map V.int) := by
  induction is with
  | nil => exact .nil
  | cons i is ih => exact .cons (.int i) ih
end

/-! ### what a body knows of the heap -/
/-- cells are objects that may be changed -/
def Moves : HO → Prop
  | .lst _ => True
  | .dK _ => True
  | .dT _ => True
  | .ins _ _ _ => True
  | .ext _ => True
  | _ => False
/-- a dict at an address -/
def DctAt (T : View) (F : Addr → Prop) (I : List Addr) (H : Hp) (p : Addr) (ks vs : List D) : Prop :=
  (∃ kvs : List (Key × V), H p = some (.dK kvs) ∧ ks = kvs.map (fun e => keyD e.1) ∧ KOk (kvs.map (·.1)) ∧ Reps T F I H vs (kvs.map (·.2))) ∨
  ∃ rows : List Row, H p = some (.ext (rawT T.w p rows)) ∧ RowsOk rows ∧ ks = rows.map (fun r => D.tup r.k) ∧ Reps T F I H ks (rows.map fun r => V.ref r.a) ∧ Reps T F I H vs (rows.map (·.x))
theorem DctAt.keeps {T : View} {F F' : Addr → Prop} {I I' : List Addr} {H H' : Hp} {p : Addr} {ks vs : List D} (h : DctAt T F I H p ks vs) (k : Keeps F I H F' I' H') (e : ∀ u, H p = some u → H' p = some u) : DctAt T F' I' H' p ks vs := by
  rcases h with ⟨kvs, h1, h2, h3, h4⟩ | ⟨rows, h1, h2, h3, h4, h5⟩
  · exact .inl ⟨kvs, e _ h1, h2, h3, h4.keeps k⟩
  · exact .inr ⟨rows, e _ h1, h2, h3, h4.keeps k, h5.keeps k⟩
theorem DctAt.some {T : View} {F : Addr → Prop} {I : List Addr} {H : Hp} {p : Addr} {ks vs : List D} (h : DctAt T F I H p ks vs) : ∃ u, H p = some u ∧ Moves u := by
  rcases h with ⟨kvs, h1, _⟩ | ⟨rows, h1, _⟩
  · exact ⟨_, h1, trivial⟩
  · exact ⟨_, h1, trivial⟩
theorem Rep.of_dct {T : View} {F : Addr → Prop} {I : List Addr} {H : Hp} {p : Addr} {ks vs : List D} (f : F p) (h : DctAt T F I H p ks vs) : Rep T F I H (.dct ks vs) (.ref p) := by
  rcases h with ⟨kvs, h1, h2, h3, h4⟩ | ⟨rows, h1, h2, h3, h4, h5⟩
  · exact .dk f h1 h2 h3 h4
  · exact .dt f h1 h2 h3 h4 h5
theorem Rep.dct_at {T : View} {F : Addr → Prop} {I : List Addr} {H : Hp} {v : V} {ks vs : List D} (h : Rep T F I H (.dct ks vs) v) : ∃ p, v = .ref p ∧ F p ∧ DctAt T F I H p ks vs := by
  cases h with
  | dk f h1 h2 h3 h4 => exact ⟨_, rfl, f, .inl ⟨_, h1, h2, h3, h4⟩⟩
  | dt f h1 h2 h3 h4 h5 => exact ⟨_, rfl, f, .inr ⟨_, h1, h2, h3, h4, h5⟩⟩
/-- a cell's content at an address -/
def CellAt (T : View) (F : Addr → Prop) (I : List Addr) (H : Hp) (a : Addr) : Cell → Prop
  | .lst ds => ∃ xs, H a = some (.lst xs) ∧ Reps T F I H ds xs
  | .dct ks vs => DctAt T F I H a ks vs
  | .ins c vs => ∃ dx fs, H a = some (.ins (T.adr c) dx fs) ∧ fs.map (·.1) = (T.flds c).take vs.length ∧ Reps T F I H vs (fs.map (·.2))
theorem CellAt.keeps {T : View} {F F' : Addr → Prop} {I I' : List Addr} {H H' : Hp} {a : Addr} {c : Cell} (h : CellAt T F I H a c) (k : Keeps F I H F' I' H') (e : ∀ u, H a = some u → H' a = some u) : CellAt T F' I' H' a c := by
  cases c with
  | lst ds => obtain ⟨xs, h1, h2⟩ := h; exact ⟨xs, e _ h1, h2.keeps k⟩
  | dct ks vs => exact DctAt.keeps h k e
  | ins c vs => obtain ⟨dx, fs, h1, h2, h3⟩ := h; exact ⟨dx, fs, e _ h1, h2, h3.keeps k⟩
/-- the world of a body: what is frozen is tracked, the cells stand apart -/
structure Wf (T : View) (F : Addr → Prop) (I : List Addr) (H : Hp) (L : List Cell) : Prop where
  fr : ∀ p, F p → ∃ u, H p = some u
  ap : ∀ p ∈ I, ¬ F p
  nd : I.Nodup
  len : I.length = L.length
  at_ : ∀ (i : Nat) a c, I[i]? = some a → L[i]? = some c → CellAt T F I H a c
/-- from H to H': all that is tracked stands but the cells and what ex names; what is newly frozen is new -/
structure Step (ro : Bool) (ex : Addr → Prop) (F : Addr → Prop) (I : List Addr) (H : Hp) (F' : Addr → Prop) (I' : List Addr) (H' : Hp) : Prop where
  keep : ∀ p u, H p = some u → p ∉ I → ¬ ex p → H' p = some u
  there : ∀ p u, H p = some u → ∃ u', H' p = some u'
  still : ∀ p u, H p = some u → Still u → H' p = some u
  more : ∀ p, F p → F' p
  new : ∀ p, F' p → F p ∨ H p = none ∨ ex p
  pre : ∃ m, I' = I ++ m ∧ ∀ a ∈ m, H a = none
  rok : ro = true → (∀ p u, H p = some u → ¬ ex p → H' p = some u) ∧ I' = I
abbrev noEx : Addr → Prop := fun _ => False
section
variable {ro : Bool} {T : View} {ex : Addr → Prop} {F F' F'' : Addr → Prop} {I I' I'' : List Addr} {H H' H'' : Hp} {L L' : List Cell}
theorem Step.refl : Step ro ex F I H F I H := ⟨fun _ _ h _ _ => h, fun _ u h => ⟨u, h⟩, fun _ _ h _ => h, fun _ h => h, fun _ h => .inl h, ⟨[], by simp, fun _ h => by cases h⟩, fun _ => ⟨fun _ _ h _ => h, rfl⟩⟩
theorem none_back (h : ∀ p u, H p = some u → ∃ u', H' p = some u') {p : Addr} (n : H' p = none) : H p = none := by
  cases e : H p with
  | none => rfl
  | some u => obtain ⟨u', e'⟩ := h p u e; rw [e'] at n; cases n
theorem Step.trans (a : Step ro ex F I H F' I' H') (b : Step ro ex F' I' H' F'' I'' H'') : Step ro ex F I H F'' I'' H'' := by
  obtain ⟨m, e, hm⟩ := a.pre
  obtain ⟨n, e', hn⟩ := b.pre
  refine ⟨fun p u h i x => b.keep p u (a.keep p u h i x) ?_ x, fun p u h => ?_, fun p u h s => b.still p u (a.still p u h s) s, fun p h => b.more p (a.more p h), fun p h => ?_, ⟨m ++ n, by rw [e', e, List.append_assoc], fun c hc => ?_⟩, fun z => ⟨fun p u h x => (b.rok z).1 p u ((a.rok z).1 p u h x) x, (b.rok z).2.trans (a.rok z).2⟩⟩
  · rw [e, List.mem_append]
    rintro (z | z)
    · exact i z
    · rw [hm p z] at h; cases h
  · obtain ⟨u', h'⟩ := a.there p u h
    exact b.there p u' h'
  · rcases b.new p h with z | z | z
    · exact a.new p z
    · exact .inr (.inl (none_back a.there z))
    · exact .inr (.inr z)
  · rcases List.mem_append.mp hc with z | z
    · exact hm c z
    · exact none_back a.there (hn c z)
theorem Step.new0 (a : Step ro noEx F I H F' I' H') (p : Addr) (h : F' p) : F p ∨ H p = none := (a.new p h).imp id fun z => z.elim id False.elim
theorem Step.weak (a : Step ro noEx F I H F' I' H') : Step ro ex F I H F' I' H' := ⟨fun p u h i _ => a.keep p u h i id, a.there, a.still, a.more, fun p h => (a.new0 p h).imp id .inl, a.pre, fun z => ⟨fun p u h _ => (a.rok z).1 p u h id, (a.rok z).2⟩⟩
theorem Step.free (a : Step true ex F I H F' I' H') : Step ro ex F I H F' I' H' := ⟨a.keep, a.there, a.still, a.more, a.new, a.pre, fun _ => a.rok rfl⟩
theorem Step.keeps (a : Step ro ex F I H F' I' H') (hi : ∀ p ∈ I, ¬ F p) (hx : ∀ p, ex p → ¬ F p) : Keeps F I H F' I' H' := by
  obtain ⟨m, e, _⟩ := a.pre
  refine ⟨fun p u h k => ?_, a.more, m, e⟩
  rcases k with k | k
  · exact a.keep p u h (fun z => hi p z k) (fun z => hx p z k)
  · exact a.still p u h k
theorem Step.keeps0 (a : Step ro noEx F I H F' I' H') (w : Wf T F I H L) : Keeps F I H F' I' H' := a.keeps w.ap fun _ z => z.elim
end

/-! ### a body's names -/
theorem slot_get {env : Env} {i : Nat} {s : S} (h : slot env i = some s) : env[i]? = some (some s) := by
  induction env generalizing i with
  | nil => simp [slot] at h
  | cons x r ih =>
    cases i with
    | zero => simp [slot] at h; simp [h]
    | succ i => simpa using ih h
theorem slot_of {env : Env} {i : Nat} {s : S} (h : env[i]? = some (some s)) : slot env i = some s := by
  induction env generalizing i with
  | nil => simp at h
  | cons x r ih =>
    cases i with
    | zero => simpa [slot] using h
    | succ i => exact ih (by simpa using h)
theorem slot_lt {env : Env} {i : Nat} {s : S} (h : slot env i = some s) : i < env.length := (List.getElem?_eq_some_iff.mp (slot_get h)).1
theorem slot_set {env : Env} {i j : Nat} {x : Option S} {s : S} (h : slot (env.set i x) j = some s) : (j = i ∧ x = some s ∧ i < env.length) ∨ (j ≠ i ∧ slot env j = some s) := by
  have e := slot_get h
  by_cases k : i = j
  · subst k
    have hl : i < env.length := by
      have := (List.getElem?_eq_some_iff.mp e).1
      simpa using this
    rw [List.getElem?_set_self hl] at e
    exact .inl ⟨rfl, Option.some.inj e, hl⟩
  · rw [List.getElem?_set_ne k] at e
    exact .inr ⟨fun z => k z.symm, slot_of e⟩
def isOwn : S → Bool
  | .val _ => false
  | _ => true
/-- an object of the body's own -/
structure Own (F : Addr → Prop) (I : List Addr) (M : Addr → Prop) (p : Addr) : Prop where
  nf : ¬ F p
  ni : p ∉ I
  mine : M p
def SRep (T : View) (F : Addr → Prop) (I : List Addr) (H : Hp) (M ex : Addr → Prop) : S → V → Prop
  | .val d, v => Rep T F I H d v
  | .olst ds, v => ∃ p xs, v = .ref p ∧ Own F I M p ∧ H p = some (.lst xs) ∧ Reps T F I H ds xs
  | .odct ks vs, v => ∃ p, v = .ref p ∧ Own F I M p ∧ DctAt T F I H p ks vs
  | .oins c vs, v => ∃ p dx fs, v = .ref p ∧ Own F I ex p ∧ H p = some (.ins (T.adr c) dx fs) ∧ fs.map (·.1) = (T.flds c).take vs.length ∧ Reps T F I H vs (fs.map (·.2))
/-- the entry of a body -/
structure Ent where
  ex : Addr → Prop
  F : Addr → Prop
  I : List Addr
  H : Hp
  /-- the instance that an __init__ fills -/
  sf : Addr → Prop
/-- what the body may change besides the cells: what is new since the entry, and what is its own from there on -/
def Ent.M (E : Ent) : Addr → Prop := fun p => E.H p = none ∨ E.ex p
def Ent.sx (E : Ent) : Addr → Prop := fun p => (E.H p = none ∨ E.ex p) ∧ E.sf p
structure Fr (ro : Bool) (T : View) (E : Ent) (F : Addr → Prop) (I : List Addr) (H : Hp) (L : List Cell) (σ : L2.St) (env : Env) : Prop where
  wf : Wf T F I H L
  len : env.length = σ.length
  sl : ∀ i s, slot env i = some s → ∃ v, σ[i]? = some (some v) ∧ SRep T F I H E.M E.sx s v
  ap : ∀ i j s t p, slot env i = some s → slot env j = some t → isOwn s = true → isOwn t = true → σ[i]? = some (some (V.ref p)) → σ[j]? = some (some (V.ref p)) → i = j
  st : Step ro E.ex E.F E.I E.H F I H
  exo : ∀ p, E.ex p → ∃ u, E.H p = some u ∧ Moves u
section
variable {ro : Bool} {T : View} {E : Ent} {F F' : Addr → Prop} {I I' : List Addr} {H H' : Hp} {L L' : List Cell} {σ : L2.St} {env : Env}
theorem Own.step {M : Addr → Prop} {p : Addr} (o : Own F I M p) {u : HO} (h : H p = some u) (st : Step ro noEx F I H F' I' H') : Own F' I' M p ∧ H' p = some u := by
  refine ⟨⟨fun z => ?_, ?_, o.mine⟩, st.keep p u h o.ni id⟩
  · rcases st.new0 p z with z | z
    · exact o.nf z
    · rw [z] at h; cases h
  · obtain ⟨m, e, hm⟩ := st.pre
    rw [e, List.mem_append]
    rintro (z | z)
    · exact o.ni z
    · rw [hm p z] at h; cases h
theorem SRep.step {M ex : Addr → Prop} {s : S} {v : V} (h : SRep T F I H M ex s v) (st : Step ro noEx F I H F' I' H') (w : Wf T F I H L) : SRep T F' I' H' M ex s v := by
  have k := st.keeps0 w
  cases s with
  | val d => exact Rep.keeps k h
  | olst ds =>
    obtain ⟨p, xs, e, o, h1, h2⟩ := h
    obtain ⟨o', h1'⟩ := o.step h1 st
    exact ⟨p, xs, e, o', h1', h2.keeps k⟩
  | odct ks vs =>
    obtain ⟨p, e, o, h1⟩ := h
    obtain ⟨u, hu, _⟩ := h1.some
    obtain ⟨o', _⟩ := o.step hu st
    exact ⟨p, e, o', h1.keeps k fun v hv => (o.step hv st).2⟩
  | oins c vs =>
    obtain ⟨p, dx, fs, e, o, h1, h2, h3⟩ := h
    obtain ⟨o', h1'⟩ := o.step h1 st
    exact ⟨p, dx, fs, e, o', h1', h2, h3.keeps k⟩
theorem Fr.step (fr : Fr ro T E F I H L σ env) (st : Step ro noEx F I H F' I' H') (w : Wf T F' I' H' L') : Fr ro T E F' I' H' L' σ env :=
  ⟨w, fr.len, fun i s h => by
    obtain ⟨v, e, r⟩ := fr.sl i s h
    exact ⟨v, e, r.step st fr.wf⟩, fr.ap, fr.st.trans st.weak, fr.exo⟩
end

/-! ### what an evaluation leaves -/
/-- a made exception: its class, its own dict, what it bears -/
def XRep (T : View) (F : Addr → Prop) (I : List Addr) (H : Hp) (c : Nat) (vs : List D) (cls : Value) (d : Option Addr) : Prop :=
  cls = .ref (T.adr c) ∧ ((vs = [] ∧ d = none) ∨ ∃ a fs, d = some a ∧ H a = some (.xd fs) ∧ fs.map (·.1) = (T.flds c).take vs.length ∧ Reps T F I H vs (fs.map (·.2)))
def Post {α β : Type} (ro : Bool) (T : View) (W : Value → Option Addr → Hp → Prop) (F : Addr → Prop) (I : List Addr) (H : Hp) (RA : (Addr → Prop) → List Addr → Hp → α → β → Prop) (r : R α) (Q : β → Hp → Prop) : Prop :=
  match r with
  | .ok a L' => ∀ F' I' H' b, Step ro noEx F I H F' I' H' → Wf T F' I' H' L' → RA F' I' H' a b → Q b H'
  | .exc c vs L' => ∀ F' I' H' cls d, Step ro noEx F I H F' I' H' → Wf T F' I' H' L' → XRep T F' I' H' c vs cls d → W cls d H'
  | .bad => False
section
variable {α β γ δ : Type} {ro : Bool} {T : View} {W : Value → Option Addr → Hp → Prop} {F F' : Addr → Prop} {I I' : List Addr} {H H' : Hp} {RA : (Addr → Prop) → List Addr → Hp → α → γ → Prop} {RB : (Addr → Prop) → List Addr → Hp → β → δ → Prop}
theorem Post.from {r : R α} {Q : γ → Hp → Prop} (h : Post ro T W F I H RA r Q) (st : Step ro noEx F I H F' I' H') : Post ro T W F' I' H' RA r Q := by
  cases r with
  | ok a L => exact fun F2 I2 H2 b s => h F2 I2 H2 b (st.trans s)
  | exc c vs L => exact fun F2 I2 H2 cls d s => h F2 I2 H2 cls d (st.trans s)
  | bad => exact h
theorem Post.seq {r : R α} {f : α → List Cell → R β} {Q : δ → Hp → Prop} {Q1 : γ → Hp → Prop} (h : Post ro T W F I H RB (r.bind f) Q)
    (k : ∀ a L1 F1 I1 H1 b, Step ro noEx F I H F1 I1 H1 → Wf T F1 I1 H1 L1 → RA F1 I1 H1 a b → Post ro T W F1 I1 H1 RB (f a L1) Q → Q1 b H1) : Post ro T W F I H RA r Q1 := by
  cases r with
  | ok a L => exact fun F1 I1 H1 b st wf ra => k a L F1 I1 H1 b st wf ra (Post.from h st)
  | exc c vs L => exact h
  | bad => exact h
theorem Post.opt {x : Option α} {L : List Cell} {Q : γ → Hp → Prop} (h : Post ro T W F I H RA (Wa.opt x L) Q) : ∃ a, x = some a ∧ ∀ F' I' H' b, Step ro noEx F I H F' I' H' → Wf T F' I' H' L → RA F' I' H' a b → Q b H' := by
  cases x with
  | none => exact h.elim
  | some a => exact ⟨a, rfl, h⟩
end
end Wa

set_option Elab.async false
set_option linter.all false
set_option maxRecDepth 100000
set_option maxHeartbeats 4000000
/-! WaOps: operators, comparisons, built-ins at data. -/
namespace Wa
open PySem PySem.Spec PyProof.Rows L2

/-! ### data as the library has them -/
mutual
def D.py : D → PyData
  | .non => .none
  | .bl b => .bool b
  | .int i => .int i
  | .str s => .str (tx s)
  | .tup xs => .tuple (pys xs)
  | .lst xs => .list (pys xs)
  | _ => .none
def pys : List D → List PyData
  | [] => []
  | x :: xs => D.py x :: pys xs
end
theorem tx_beq (a b : Txt) : (tx a == tx b) = (a == b) := by
  by_cases h : a = b
  · subst h; simp
  · have h2 : tx a ≠ tx b := fun e => h (tx_inj e)
    rw [beq_eq_false_iff_ne.mpr h2, beq_eq_false_iff_ne.mpr h]
theorem pys_map (xs : List D) : pys xs = xs.map D.py := by
  induction xs with
  | nil => rfl
  | cons x xs ih => simp [pys, ih]
mutual
theorem py_eqv : ∀ (n m : Nat) (a b : D), a.plain n = true → b.plain m = true → PyData.eqv a.py b.py = a.eqv b
  | n, m, .non, b, ha, hb => by cases b <;> first | rfl | simp [D.plain] at hb
  | n, m, .bl x, b, ha, hb => by cases b <;> first | rfl | simp [D.plain] at hb
  | n, m, .int x, b, ha, hb => by cases b <;> first | rfl | simp [D.plain] at hb
  | n, m, .str x, b, ha, hb => by
    cases b <;> first | rfl | (simp [D.plain] at hb; done) | exact tx_beq _ _
  | n, m, .tup xs, b, ha, hb => by
    cases b <;> first | rfl | (simp [D.plain] at hb; done) | skip
    cases n with
    | zero => simp [D.plain] at ha
    | succ n => cases m with
      | zero => simp [D.plain] at hb
      | succ m => exact pys_eqv n m _ _ (by simpa [D.plain] using ha) (by simpa [D.plain] using hb)
  | n, m, .lst xs, b, ha, hb => by
    cases b <;> first | rfl | (simp [D.plain] at hb; done) | skip
    cases n with
    | zero => simp [D.plain] at ha
    | succ n => cases m with
      | zero => simp [D.plain] at hb
      | succ m => exact pys_eqv n m _ _ (by simpa [D.plain] using ha) (by simpa [D.plain] using hb)
  | n, m, .dct _ _, b, ha, hb => by simp [D.plain] at ha
  | n, m, .ins _ _, b, ha, hb => by simp [D.plain] at ha
  | n, m, .ref _, b, ha, hb => by simp [D.plain] at ha
theorem pys_eqv : ∀ (n m : Nat) (as bs : List D), plains n as = true → plains m bs = true → PyData.eqvAll (pys as) (pys bs) = eqvs as bs
  | n, m, [], [], _, _ => rfl
  | n, m, [], _ :: _, _, _ => rfl
  | n, m, _ :: _, [], _, _ => rfl
  | n, m, a :: as, b :: bs, ha, hb => by
    simp only [plains, Bool.and_eq_true] at ha hb
    show (PyData.eqv a.py b.py && PyData.eqvAll (pys as) (pys bs)) = (a.eqv b && eqvs as bs)
    rw [py_eqv n m a b ha.1 hb.1, pys_eqv n m as bs ha.2 hb.2]
end
mutual
theorem plain_deep : ∀ (n : Nat) (a : D), a.plain n = true → a.py.depth ≤ n
  | n, .non, _ => Nat.zero_le _
  | n, .bl _, _ => Nat.zero_le _
  | n, .int _, _ => Nat.zero_le _
  | n, .str _, _ => Nat.zero_le _
  | n + 1, .tup xs, h => Nat.succ_le_succ (plains_deep n xs (by simpa [D.plain] using h))
  | n + 1, .lst xs, h => Nat.succ_le_succ (plains_deep n xs (by simpa [D.plain] using h))
  | 0, .tup xs, h => by simp [D.plain] at h
  | 0, .lst xs, h => by simp [D.plain] at h
  | n, .dct _ _, h => by simp [D.plain] at h
  | n, .ins _ _, h => by simp [D.plain] at h
  | n, .ref _, h => by simp [D.plain] at h
theorem plains_deep : ∀ (n : Nat) (xs : List D), plains n xs = true → PyData.depthAll (pys xs) ≤ n
  | n, [], _ => Nat.zero_le _
  | n, x :: xs, h => by
    simp only [plains, Bool.and_eq_true] at h
    exact Nat.max_le.mpr ⟨plain_deep n x h.1, plains_deep n xs h.2⟩
end
/-! ### what may be read: frozen, or the body's own -/
def RepO (T : View) (F : Addr → Prop) (I : List Addr) (H : Hp) (d : D) (v : V) : Prop :=
  Rep T F I H d v ∨ ∃ M ex s, isOwn s = true ∧ frz s = d ∧ SRep T F I H M ex s v
section
variable {ro : Bool} {T : View} {F F' : Addr → Prop} {I I' : List Addr} {H H' : Hp} {L : List Cell} {v : V} {d : D}
theorem RepO.step (h : RepO T F I H d v) (st : Step ro noEx F I H F' I' H') (w : Wf T F I H L) : RepO T F' I' H' d v := by
  rcases h with h | ⟨M, ex, s, a, b, h⟩
  · exact .inl (h.keeps (st.keeps0 w))
  · exact .inr ⟨M, ex, s, a, b, h.step st w⟩
/-- .. or a cell's content at this moment -/
def RepV (T : View) (F : Addr → Prop) (I : List Addr) (H : Hp) (d : D) (v : V) : Prop :=
  RepO T F I H d v ∨ ∃ p, v = .ref p ∧ ((∃ ds, d = .lst ds ∧ CellAt T F I H p (.lst ds)) ∨ ∃ ks vs, d = .dct ks vs ∧ CellAt T F I H p (.dct ks vs))
theorem RepV.lst {ds : List D} (h : RepV T F I H (.lst ds) v) : ∃ p xs, v = .ref p ∧ Rd H p (.lst xs) ∧ Reps T F I H ds xs := by
  rcases h with (h | ⟨M, ex, s, a, b, h⟩) | ⟨p, e, ⟨ds', e', xs, h1, h2⟩ | ⟨_, _, e', _⟩⟩
  · cases h with | lst f h r => exact ⟨_, _, rfl, h, r⟩
  · cases s <;> simp [frz, isOwn] at a b
    subst b
    obtain ⟨p, xs, e, _, h1, h2⟩ := h
    exact ⟨p, xs, e, .inl h1, h2⟩
  · cases e'
    exact ⟨p, xs, e, .inl h1, h2⟩
  · cases e'
theorem RepV.dct {ks vs : List D} (h : RepV T F I H (.dct ks vs) v) : ∃ p, v = .ref p ∧ DctAt T F I H p ks vs := by
  rcases h with (h | ⟨M, ex, s, a, b, h⟩) | ⟨p, e, ⟨_, e', _⟩ | ⟨ks', vs', e', h1⟩⟩
  · obtain ⟨p, e, _, h⟩ := h.dct_at
    exact ⟨p, e, h⟩
  · cases s <;> simp [frz, isOwn] at a b
    obtain ⟨rfl, rfl⟩ := b
    obtain ⟨p, e, _, h1⟩ := h
    exact ⟨p, e, h1⟩
  · cases e'
  · cases e'
    exact ⟨p, e, h1⟩
theorem RepV.ins {c : Nat} {vs : List D} (h : RepV T F I H (.ins c vs) v) : ∃ p dx fs, v = .ref p ∧ H p = some (.ins (T.adr c) dx fs) ∧ fs.map (·.1) = (T.flds c).take vs.length ∧ Reps T F I H vs (fs.map (·.2)) := by
  rcases h with (h | ⟨M, ex, s, a, b, h⟩) | ⟨p, e, ⟨_, e', _⟩ | ⟨_, _, e', _⟩⟩
  · cases h with | ins f h e r => exact ⟨_, _, _, rfl, h, e, r⟩
  · cases s <;> simp [frz, isOwn] at a b
    obtain ⟨rfl, rfl⟩ := b
    obtain ⟨p, dx, fs, e, _, h1, h2, h3⟩ := h
    exact ⟨p, dx, fs, e, h1, h2, h3⟩
  · cases e'
  · cases e'
/-- what is no list, dict, instance is frozen -/
theorem RepV.rep (h : RepV T F I H d v) (n : d.leaf = true) : Rep T F I H d v := by
  rcases h with (h | ⟨M, ex, s, a, b, h⟩) | ⟨p, e, ⟨_, e', _⟩ | ⟨_, _, e', _⟩⟩
  · exact h
  · cases s <;> simp [frz, isOwn] at a b <;> subst b <;> cases n
  · subst e'; cases n
  · subst e'; cases n
theorem RepV.int {i : Int} (h : RepV T F I H (.int i) v) : v = .int i := by cases h.rep rfl; rfl
theorem RepV.bl {b : Bool} (h : RepV T F I H (.bl b) v) : v = .bl b := by cases h.rep rfl; rfl
theorem RepV.non (h : RepV T F I H .non v) : v = .non := by cases h.rep rfl; rfl
theorem RepV.str {s : Txt} (h : RepV T F I H (.str s) v) : v = .str (tx s) ∧ Fine s := by cases h.rep rfl; exact ⟨rfl, by assumption⟩
theorem RepV.tup {ds : List D} (h : RepV T F I H (.tup ds) v) : ∃ p xs, v = .ref p ∧ SqT T.K H p xs ∧ Reps T F I H ds xs := by
  cases h.rep rfl with | tup h1 r => exact ⟨_, _, rfl, h1, r⟩
mutual
theorem Rep.dp : ∀ (n : Nat) {d : D} {v : V}, d.plain n = true → Rep T F I H d v → Dp T.K H v d.py ∧ d.py.canLay0 = true
  | _, .non, _, _, h => by cases h; exact ⟨.non, rfl⟩
  | _, .bl b, _, _, h => by cases h; exact ⟨.bl b, rfl⟩
  | _, .int i, _, _, h => by cases h; exact ⟨.int i, rfl⟩
  | _, .str s, _, _, h => by cases h with | str _ f => exact ⟨.str _, f.1⟩
  | n + 1, .tup ds, _, p, h => by
    cases h with
    | tup h r =>
      obtain ⟨a, b⟩ := Reps.dp n (by simpa [D.plain] using p) r
      exact ⟨.tup h a, b⟩
  | n + 1, .lst ds, _, p, h => by
    cases h with
    | lst _ h r =>
      obtain ⟨a, b⟩ := Reps.dp n (by simpa [D.plain] using p) r
      exact ⟨.lst (.inl h) a, b⟩
  | 0, .tup ds, _, p, h => by simp [D.plain] at p
  | 0, .lst ds, _, p, h => by simp [D.plain] at p
  | _, .dct _ _, _, p, h => by simp [D.plain] at p
  | _, .ins _ _, _, p, h => by simp [D.plain] at p
  | _, .ref _, _, p, h => by simp [D.plain] at p
theorem Reps.dp : ∀ (n : Nat) {ds : List D} {vs : List V}, plains n ds = true → Reps T F I H ds vs → DpAll T.K H vs (pys ds) ∧ PyData.canLayAll0 (pys ds) = true
  | _, [], _, _, h => by cases h; exact ⟨.nil, rfl⟩
  | n, d :: ds, _, p, h => by
    simp only [plains, Bool.and_eq_true] at p
    cases h with
    | cons h r =>
      obtain ⟨a, b⟩ := Rep.dp n p.1 h
      obtain ⟨a', b'⟩ := Reps.dp n p.2 r
      exact ⟨.cons a a', by show (_ && _) = true; rw [b, b']; rfl⟩
end
theorem RepV.dp (p : d.plain deep = true) (h : RepV T F I H d v) : Dp T.K H v d.py ∧ SeqAt.shaped d.py = true := by
  have fin : d.py.canLay0 = true → SeqAt.shaped d.py = true := fun c => by
    have := plain_deep deep d p
    unfold SeqAt.shaped
    rw [c, decide_eq_true (Nat.le_trans this (by decide))]
    rfl
  by_cases l : ∃ ds, d = .lst ds
  · obtain ⟨ds, rfl⟩ := l
    obtain ⟨q, xs, rfl, h1, h2⟩ := h.lst
    obtain ⟨a, b⟩ := Reps.dp 39 (show plains 39 ds = true by simpa [D.plain, deep] using p) h2
    exact ⟨.lst (.inl h1) a, fin b⟩
  · have r : Rep T F I H d v := h.rep (by
      cases d <;> first | rfl | (exact absurd ⟨_, rfl⟩ l) | simp [D.plain] at p)
    obtain ⟨a, b⟩ := Rep.dp deep p r
    exact ⟨a, fin b⟩
end
/-! ### new objects -/
section
variable {ro : Bool} {T : View} {F : Addr → Prop} {I : List Addr} {H : Hp} {L : List Cell} {p : Addr} {o : HO}
theorem Step.laid (h : H p = none) : Step ro noEx F I H F I (upd H p o) := by
  refine ⟨fun q u e _ _ => ?_, fun q u e => ⟨u, ?_⟩, fun q u e _ => ?_, fun _ h => h, fun _ h => .inl h, ⟨[], by simp, fun _ h => by cases h⟩, fun _ => ⟨fun q u e _ => ?_, rfl⟩⟩ <;>
  · rw [upd_ne (ne_of_none e h)]
    exact e
theorem Step.laidF (h : H p = none) : Step ro noEx F I H (fun q => F q ∨ q = p) I (upd H p o) := by
  have s : Step ro noEx F I H F I (upd H p o) := Step.laid h
  exact ⟨s.keep, s.there, s.still, fun _ h => .inl h, fun q k => k.imp id (fun e => .inl (by rw [e]; exact h)), s.pre, s.rok⟩
theorem Wf.of_step {ex : Addr → Prop} {F' : Addr → Prop} {H' : Hp} (w : Wf T F I H L) (s : Step ro ex F I H F' I H') (hx : ∀ p, ex p → ¬ F p) (hi : ∀ p ∈ I, H' p = H p) (hF : ∀ q, F' q → q ∉ I ∧ ∃ u, H' q = some u) : Wf T F' I H' L :=
  ⟨fun q h => (hF q h).2, fun q m z => (hF q z).1 m, w.nd, w.len, fun i a c e1 e2 => (w.at_ i a c e1 e2).keeps (s.keeps w.ap hx) (fun u e => by rw [hi a (List.mem_of_getElem? e1)]; exact e)⟩
theorem CellAt.some {T : View} {F : Addr → Prop} {I : List Addr} {H : Hp} {a : Addr} {c : Cell} (h : CellAt T F I H a c) : ∃ u, H a = some u ∧ Moves u := by
  cases c with
  | lst ds => obtain ⟨xs, h1, _⟩ := h; exact ⟨_, h1, trivial⟩
  | dct ks vs => exact DctAt.some h
  | ins c vs => obtain ⟨dx, fs, h1, _⟩ := h; exact ⟨_, h1, trivial⟩
theorem Wf.cell (w : Wf T F I H L) {a : Addr} (h : a ∈ I) : ∃ u, H a = some u ∧ Moves u := by
  obtain ⟨i, e⟩ := List.getElem?_of_mem h
  have hl : i < L.length := by rw [← w.len]; exact (List.getElem?_eq_some_iff.mp e).1
  exact (w.at_ i a _ e (List.getElem?_eq_getElem hl)).some
theorem Wf.laid (w : Wf T F I H L) (h : H p = none) : Wf T F I (upd H p o) L := by
  have ne : ∀ q ∈ I, q ≠ p := fun q m => by
    obtain ⟨u, e, _⟩ := w.cell m
    exact ne_of_none e h
  refine w.of_step (Step.laid (ro := true) h) (fun _ z => z.elim) (fun q m => upd_ne (ne q m)) fun q f => ⟨fun m => w.ap q m f, ?_⟩
  obtain ⟨u, e⟩ := w.fr q f
  exact ⟨u, by rw [upd_ne (ne_of_none e h)]; exact e⟩
theorem Wf.laidF (w : Wf T F I H L) (h : H p = none) : Wf T (fun q => F q ∨ q = p) I (upd H p o) L := by
  have ne : ∀ q ∈ I, q ≠ p := fun q m => by
    obtain ⟨u, e, _⟩ := w.cell m
    exact ne_of_none e h
  refine w.of_step (Step.laidF (ro := true) h) (fun _ z => z.elim) (fun q m => upd_ne (ne q m)) fun q f => ?_
  rcases f with f | rfl
  · obtain ⟨u, e⟩ := w.fr q f
    exact ⟨fun m => w.ap q m f, u, by rw [upd_ne (ne_of_none e h)]; exact e⟩
  · exact ⟨fun m => ne q m rfl, o, upd_same⟩
end

/-! ### two-place operators -/
def Op.ast : Op → Operator
  | .add => .Add | .sub => .Sub | .mul => .Mult | .fdiv => .FloorDiv | .mod => .Mod | .pow => .Pow | .shl => .LShift | .shr => .RShift | .band => .BitAnd
/-- what is wanted of a result that is data -/
def Ans (ro : Bool) (T : View) (F : Addr → Prop) (I : List Addr) (H : Hp) (L : List Cell) (d : D) (Q : VK) : Prop :=
  ∀ F' I' H' v, Step ro noEx F I H F' I' H' → Wf T F' I' H' L → Rep T F' I' H' d v → Q v H'
def rD2 (ro : Bool) (T : View) (f : D → D → Option D) : R2 := fun x y H Q => ∃ F I L a b d, Wf T F I H L ∧ RepV T F I H a x ∧ RepV T F I H b y ∧ f a b = some d ∧ Ans ro T F I H L d Q
section
variable {ro : Bool} {T : View} {F : Addr → Prop} {I : List Addr} {H : Hp} {L : List Cell} {Q : VK} {p : Addr}
theorem Ans.now {d : D} {v : V} (a : Ans ro T F I H L d Q) (w : Wf T F I H L) (r : Rep T F I H d v) : Q v H := a F I H v Step.refl w r
theorem Ans.tup {ds : List D} {xs : List V} (a : Ans ro T F I H L (.tup ds) Q) (w : Wf T F I H L) (r : Reps T F I H ds xs) (h : H p = none) : Q (.ref p) (upd H p (.tup xs)) :=
  a F I _ _ (Step.laid h) (w.laid h) (.tup (SqT.of upd_same) (r.keeps ((Step.laid (ro := true) h).keeps0 w)))
theorem Ans.lst {ds : List D} {xs : List V} (a : Ans ro T F I H L (.lst ds) Q) (w : Wf T F I H L) (r : Reps T F I H ds xs) (h : H p = none) : Q (.ref p) (upd H p (.lst xs)) :=
  a (fun q => F q ∨ q = p) I _ _ (Step.laidF h) (w.laidF h) (.lst (.inr rfl) (.inl upd_same) (r.keeps ((Step.laidF (ro := true) h).keeps0 w)))
end
/-- a list and a list, whatever locks them -/
def rCatR : R2 := fun x y H Q => ∃ l b xs zs, x = .ref l ∧ y = .ref b ∧ Rd H l (.lst xs) ∧ Rd H b (.lst zs) ∧ xs.length + zs.length ≤ sizeLine ∧ ∀ p, H p = none → Q (.ref p) (upd H p (.lst (xs ++ zs)))
theorem Rd.its {X : Cx} {pins : List (Addr × Obj)} {σ : L2.St} {H : Hp} {s : Shared} {l : Addr} {xs : List V} (I : Inv X pins σ H s) (h : Rd H l (.lst xs)) :
    xs.length ≤ sizeLine ∧ ∃ (its : List Value) (n : Nat), Vals xs its ∧ xs.length = its.length ∧ s.heap.get? l = some { cls := .type "list", data := .seq its.toArray n } := by
  obtain ⟨z, its, n, r, e⟩ := (show ObjOk X.prog X.w H s.heap l (.lst xs) from h.ok I.hok)
  exact ⟨z, its, n, r, r.length, e⟩
theorem op_catR {X : Cx} : OpR X (binaryOp .Add) rCatR := fun pins s σ H x y v u Q I rx ry h => by
  obtain ⟨l, b, xs, zs, rfl, rfl, h1, h2, hz, q⟩ := h
  obtain rfl : v = Value.ref l := rx
  obtain rfl : u = Value.ref b := ry
  obtain ⟨_, is1, n1, r1, e1, g1⟩ := Rd.its I h1
  obtain ⟨_, is2, n2, r2, e2, g2⟩ := Rd.its I h2
  have app : is1.toArray ++ is2.toArray = (is1 ++ is2).toArray := by simp
  refine PySem.P.add_list g1 g2 ?_ (by simp only [List.size_toArray]; omega)
  rw [app]
  exact ⟨V.ref _, _, I.lnew (t' := s.toks) (r1.append r2) (by simp only [List.length_append]; omega), rfl, q _ I.fresh⟩

theorem line_eq : line = sizeLine := rfl
theorem tx_append (a b : Txt) : tx a ++ tx b = tx (a ++ b) := by
  show (⟨a.toArray ++ b.toArray⟩ : Str) = ⟨(a ++ b).toArray⟩
  simp
theorem tx_len (a : Txt) : (tx a).length = a.length := by
  show a.toArray.size = a.length
  simp
theorem fine_append {a b : Txt} (ha : Fine a) (hb : Fine b) (h : a.length + b.length ≤ line) : Fine (a ++ b) := by
  refine ⟨?_, by simpa using h⟩
  have h1 := ha.1
  have h2 := hb.1
  simp only [PyData.strOk, List.all_toArray, List.all_append] at h1 h2 ⊢
  rw [h1, h2]
  rfl
theorem mul_fits {a b : Int} (h : fitsMul a b = true) : CMul a b := by
  unfold fitsMul at h
  simp only [Bool.or_eq_true, Bool.and_eq_true, decide_eq_true_eq] at h
  exact h
theorem op_data {X : Cx} {ro : Bool} {T : View} (hK : X.K = T.K) (o : Op) : OpR X (binaryOp o.ast) (rD2 ro T (opD o)) := fun pins s σ H x y v u Q J rx ry h => by
  obtain ⟨F, I, L, a, b, d, w, ra, rb, e, q⟩ := h
  have hKT : T.K = X.K := hK.symm
  unfold opD at e
  split at e
  · cases ra.int; cases rb.int; cases e
    exact op_add pins s σ H _ _ v u Q J rx ry ⟨_, _, rfl, rfl, q.now w (.int _)⟩
  · obtain ⟨rfl, fa⟩ := ra.str
    obtain ⟨rfl, fb⟩ := rb.str
    split at e
    · rename_i hl
      cases e
      refine op_add_str pins s σ H _ _ v u Q J rx ry ⟨_, _, rfl, rfl, by rw [tx_len, tx_len]; exact hl, ?_⟩
      rw [tx_append]
      exact q.now w (.str _ (fine_append fa fb hl))
    · cases e
  · obtain ⟨p1, xs, rfl, s1, r1⟩ := ra.tup
    obtain ⟨p2, ys, rfl, s2, r2⟩ := rb.tup
    rw [hKT] at s1 s2
    split at e
    · rename_i hl
      cases e
      refine op_catA pins s σ H _ _ v u Q J rx ry ⟨_, _, xs, ys, rfl, rfl, s1, s2, by rw [← r1.length, ← r2.length]; exact hl, ?_⟩
      refine ⟨fun hx => ?_, fun _ hy => ?_, fun _ _ p hp => q.tup w (r1.append r2) hp⟩
      · subst hx
        cases r1
        exact q.now w (.tup (by rw [hKT]; exact s2) r2)
      · subst hy
        cases r2
        rw [List.append_nil] at q
        exact q.now w (.tup (by rw [hKT]; exact s1) r1)
    · cases e
  · obtain ⟨p1, xs, rfl, s1, r1⟩ := ra.lst
    obtain ⟨p2, ys, rfl, s2, r2⟩ := rb.lst
    split at e
    · rename_i hl
      cases e
      exact op_catR pins s σ H _ _ v u Q J rx ry ⟨_, _, xs, ys, rfl, rfl, s1, s2, by rw [← r1.length, ← r2.length]; exact hl, fun p hp => q.lst w (r1.append r2) hp⟩
    · cases e
  · cases ra.int; cases rb.int; cases e
    exact op_sub pins s σ H _ _ v u Q J rx ry ⟨_, _, rfl, rfl, q.now w (.int _)⟩
  · cases ra.int; cases rb.int
    split at e
    · rename_i hl
      cases e
      exact op_mul pins s σ H _ _ v u Q J rx ry ⟨_, _, rfl, rfl, mul_fits hl, q.now w (.int _)⟩
    · cases e
  · cases ra.int; cases rb.int
    split at e
    · rename_i hl
      cases e
      exact op_fdivN pins s σ H _ _ v u Q J rx ry ⟨_, _, rfl, rfl, hl, q.now w (.int _)⟩
    · cases e
  · cases ra.int; cases rb.int
    split at e
    · rename_i hl
      cases e
      exact op_modN pins s σ H _ _ v u Q J rx ry ⟨_, _, rfl, rfl, hl, q.now w (.int _)⟩
    · cases e
  · cases ra.int; cases rb.int
    split at e
    · rename_i hl
      cases e
      exact op_pow pins s σ H _ _ v u Q J rx ry ⟨_, _, rfl, rfl, hl, q.now w (.int _)⟩
    · cases e
  · cases ra.int; cases rb.int
    split at e
    · rename_i hl
      cases e
      exact op_shl pins s σ H _ _ v u Q J rx ry ⟨_, _, rfl, rfl, hl, q.now w (.int _)⟩
    · cases e
  · cases ra.int; cases rb.int
    split at e
    · rename_i hl
      cases e
      exact op_shr pins s σ H _ _ v u Q J rx ry ⟨_, _, rfl, rfl, hl, q.now w (.int _)⟩
    · cases e
  · cases ra.int; cases rb.int; cases e
    refine op_and pins s σ H _ _ v u Q J rx ry ⟨_, _, rfl, rfl, ?_⟩
    show Q (V.int (Builtin.bitAnd ((_ : Nat) : Int) ((_ : Nat) : Int))) H
    rw [bitAnd_pp (Int.natCast_nonneg _) (Int.natCast_nonneg _)]
    exact q.now w (.int _)
  · cases e

end Wa

set_option Elab.async false
set_option linter.all false
set_option maxRecDepth 100000
set_option maxHeartbeats 4000000
/-! WaKey: tuples of intsD, texts, bools, tuples as keys of dicts. -/
namespace Wa
open PySem PySem.Spec PyProof.Rows L2

mutual
def toksD : D → Nat
  | .tup xs => toksDs xs + 1
  | _ => 1
def toksDs : List D → Nat
  | [] => 0
  | x :: xs => toksD x + toksDs xs
end
/- a key at a value of the heap -/
mutual
inductive KV (h : Heap) : D → Value → Prop
  | int (i : Int) (t : Tok) : KV h (.int i) (.int i t)
  | bool (b : Bool) : KV h (.int (if b then 1 else 0)) (.bool b)
  | str (s : Txt) (t : Tok) : PyData.strOk (tx s) = true → KV h (.str s) (.str (tx s) t)
  | tup {ds : List D} {a : Addr} {o : Obj} {its : Array Value} {n : Nat} : h.get? a = some o → o.cls = .type "tuple" → o.data = .seq its n → KVs h ds its.toList → KV h (.tup ds) (.ref a)
inductive KVs (h : Heap) : List D → List Value → Prop
  | nil : KVs h [] []
  | cons {d : D} {v : Value} {ds : List D} {vs : List Value} : KV h d v → KVs h ds vs → KVs h (d :: ds) (v :: vs)
end

mutual
theorem KV.inj {h : Heap} : ∀ {x y : D} {v : Value}, KV h x v → KV h y v → x = y
  | _, _, _, .int i t, b => by cases b; rfl
  | _, _, _, .bool c, b => by cases b; rfl
  | _, _, _, .str s t f, b => by
    generalize e : (Value.str (tx s) t) = v at b
    cases b with
    | str s' t' f' =>
      injection e with e1 _
      rw [tx_inj e1]
    | _ => cases e
  | _, _, _, .tup g c d ks, b => by
    cases b with
    | tup g' c' d' ks' =>
      obtain rfl := Option.some.inj (g.symm.trans g')
      rw [d] at d'
      injection d' with e1 _
      subst e1
      rw [KVs.inj ks ks']
theorem KVs.inj {h : Heap} : ∀ {x y : List D} {vs : List Value}, KVs h x vs → KVs h y vs → x = y
  | _, _, _, .nil, b => by cases b; rfl
  | _, _, _, .cons k ks, b => by
    cases b with
    | cons k' ks' => rw [KV.inj k k', KVs.inj ks ks']
end
mutual
theorem KV.keeps {h h' : Heap} {d : Addr} {o : Obj} {es ep} (ho : h.get? d = some o) (hd : o.data = .dict es ep) (hs : Heap.SameBut d h h') : ∀ {x : D} {v : Value}, KV h x v → KV h' x v
  | _, _, .int i t => .int i t
  | _, _, .bool b => .bool b
  | _, _, .str s t f => .str s t f
  | _, _, .tup (a := a) g c e ks => by
    refine .tup ((hs.2 a ?_).trans g) c e (KVs.keeps ho hd hs ks)
    rintro rfl
    obtain rfl := Option.some.inj (g.symm.trans ho)
    rw [hd] at e
    cases e
theorem KVs.keeps {h h' : Heap} {d : Addr} {o : Obj} {es ep} (ho : h.get? d = some o) (hd : o.data = .dict es ep) (hs : Heap.SameBut d h h') : ∀ {x : List D} {vs : List Value}, KVs h x vs → KVs h' x vs
  | _, _, .nil => .nil
  | _, _, .cons k ks => .cons (KV.keeps ho hd hs k) (KVs.keeps ho hd hs ks)
end
/- how deep tuples stand within one another -/
mutual
def depD : D → Nat
  | .tup xs => depDs xs + 1
  | _ => 0
def depDs : List D → Nat
  | [] => 0
  | x :: xs => max (depD x) (depDs xs)
end
section
variable {prog : Program} {w : World}
/-- what is asked of each item's hash -/
def HashOk (prog : Program) (w : World) (d : D) : Prop := ∀ {A : Around} {E : Value → Shared → Prop} {s : Shared} {v : Value} {Q : Int → Shared → Prop}, A.units + depD d ≤ cLine → KV s.heap d v → Q (hashD w d) { s with toks := s.toks + toksD d } → wpAny (model prog w) A (pyHash v) Q E s
theorem hash_loop {A : Around} {E : Value → Shared → Prop} {f : Value → Array Int → Sem (ForInStep (Array Int))} (hf : ∀ v b, f v b = (do let h ← pyHash v; pure (ForInStep.yield (b.push h)))) :
    ∀ (ds : List D), (∀ d ∈ ds, HashOk prog w d) → ∀ {s : Shared} {its : List Value} {acc : Array Int} {done : List Int} {Q : Array Int → Shared → Prop}, A.units + depDs ds ≤ cLine → KVs s.heap ds its → acc.toList = done →
    (∀ r : Array Int, r.toList = done ++ hashDs w ds → Q r { s with toks := s.toks + toksDs ds }) → wpAny (model prog w) A (forIn its acc f) Q E s
  | [], _, s, its, acc, done, Q, _, k, e, h => by
    cases k
    exact wpAny_pure (h acc (by rw [e]; simp [hashDs]))
  | d :: ds, hd, s, its, acc, done, Q, hu, k, e, h => by
    cases k with
    | cons k ks =>
      have h1 : depD d ≤ depDs (d :: ds) := Nat.le_max_left _ _
      have h2 : depDs ds ≤ depDs (d :: ds) := Nat.le_max_right _ _
      rw [List.forIn_cons, hf]
      refine wpAny_bind (wpAny_bind (hd d List.mem_cons_self (by omega) k (wpAny_pure ?_)))
      refine hash_loop hf ds (fun x m => hd x (List.mem_cons_of_mem _ m)) (done := done ++ [hashD w d]) (by omega) ks (by simp [e]) fun r er => ?_
      have q := h r (by rw [er]; simp [hashDs])
      simpa [toksDs, Nat.add_assoc] using q
theorem pyHash_bool {A : Around} {E : Value → Shared → Prop} {s : Shared} {b : Bool} {Q : Int → Shared → Prop} (h : Q (hashInt (if b then 1 else 0)) { s with toks := s.toks + 1 }) :
    wpAny (model prog w) A (pyHash (.bool b)) Q E s := by
  have rr := rawHash_range (if b then 1 else 0)
  have tyB : s.TypeIs (.bool b) "bool" := rfl
  unfold pyHash
  refine wpAny_bind ?_
  rw [cRoomFor, if_neg (by show ¬ false = true; decide)]
  refine wpAny_pure (wpAny_bind (wpAny_specialOf tyB F.slot_bool_hash.lookup ?_))
  show wpAny _ _ (if (some (Value.builtin "int.__hash__") == some Value.none) = true then _ else _) _ _ _
  rw [if_neg (by rw [beq_builtin_none]; decide)]
  refine wpAny_bind (wpAny_specialOf tyB F.slot_bool_hash.lookup ?_)
  show wpAny _ _ (callSpecialIfBoundUnlessNone? (.bool b) "__hash__" _ >>= _) _ _ _
  refine wpAny_bind (wpAny_callSpecialIfBoundUnlessNone?_slot tyB F.slot_bool_hash (wpAny_call_entry F.slot_bool_hash tyB F.entry_int_hash
    (show wpAny _ _ (do ret (← mkInt (rawHash (if b then 1 else 0)))) _ _ s from wpAny_ret_mkInt ?_) (F.args_int_hash_1 _)))
  show wpAny _ _ (if (decide (-(2 : Int) ^ 63 ≤ rawHash (if b then 1 else 0)) && decide (rawHash (if b then 1 else 0) < 2 ^ 63)) = true then _ else _) _ _ _
  rw [if_pos (by rw [decide_eq_true rr.1, decide_eq_true rr.2]; rfl)]
  exact wpAny_pure h
theorem hash_tup {ds : List D} (hd : ∀ d ∈ ds, HashOk prog w d) : HashOk prog w (.tup ds) := fun {A E s v Q} hu k h => by
  cases k with
  | @tup _ a o its n g c e ks =>
    have hu' : A.units + (depDs ds + 1) ≤ cLine := hu
    have tyT : s.TypeIs (.ref a) "tuple" := ⟨o, g, c⟩
    unfold pyHash
    first | unfold pyHashByItsType | skip
    first | refine wpAny_bind (wpAny_cRoomFor_or (.inr (by omega)) ?_) | skip
    refine wpAny_bind (wpAny_specialOf tyT F.slot_tuple_hash.lookup ?_)
    show wpAny _ _ (if (some (Value.builtin "tuple.__hash__") == some Value.none) = true then _ else _) _ _ _
    rw [if_neg (by rw [beq_builtin_none]; decide)]
    refine wpAny_bind (wpAny_specialOf tyT F.slot_tuple_hash.lookup ?_)
    show wpAny _ _ (callSpecialIfBoundUnlessNone? (.ref a) "__hash__" _ >>= _) _ _ _
    refine wpAny_bind (wpAny_callSpecialIfBoundUnlessNone?_slot tyT F.slot_tuple_hash (wpAny_call_entry F.slot_tuple_hash tyT F.entry_tuple_hash ?_ (F.args_tuple_hash_1 _)))
    show wpAny _ _ (Builtin.Tuple.tupleItemsOf (.ref a) >>= _) _ _ _
    refine wpAny_bind (wpAny_tupleItemsOf g e (wpAny_bind ?_))
    rw [← Array.forIn_toList]
    refine hash_loop (prog := prog) (w := w) (A := A.in1) ?_ ds hd (done := []) ?_ ks rfl fun r er => ?_
    · intro v b
      rfl
    · show A.units + 1 + depDs ds ≤ cLine
      omega
    · show wpAny _ _ (retInt (Builtin.Tuple.tupleHashOf r.toList)) _ _ _
      rw [er, List.nil_append]
      refine wpAny_ret_mkInt ?_
      show wpAny _ _ (if (decide (-(2 : Int) ^ 63 ≤ Builtin.Tuple.tupleHashOf (hashDs w ds)) && decide (Builtin.Tuple.tupleHashOf (hashDs w ds) < 2 ^ 63)) = true then _ else _) _ _ _
      unfold hashD reduceHash at h
      by_cases hr : (decide (-(2 : Int) ^ 63 ≤ Builtin.Tuple.tupleHashOf (hashDs w ds)) && decide (Builtin.Tuple.tupleHashOf (hashDs w ds) < 2 ^ 63)) = true
      · rw [if_pos hr] at h ⊢
        exact wpAny_pure (by simpa [toksD, Nat.add_assoc] using h)
      · rw [if_neg hr] at h ⊢
        exact wpAny_bind (wpAny_rule (wpAny_pure (by simpa [toksD, Nat.add_assoc] using h)))
theorem depD_mem {x : D} : ∀ {ds : List D}, x ∈ ds → depD x ≤ depDs ds
  | d :: ds, h => by
    rcases List.mem_cons.mp h with e | h
    · rw [e]; exact Nat.le_max_left _ _
    · exact Nat.le_trans (depD_mem h) (Nat.le_max_right _ _)
theorem hash_int (i : Int) : HashOk prog w (.int i) := by
  intro A E s v Q _ k h
  generalize e : D.int i = d at k
  cases k with
  | int j t => cases e; exact wpAny_pyHash_int h
  | bool b => cases e; exact pyHash_bool h
  | _ => cases e
theorem hash_str (x : Txt) : HashOk prog w (.str x) := by
  intro A E s v Q _ k h
  cases k with | str _ t f => exact wpAny_pyHash_str h
theorem hash_ok : ∀ (n : Nat) (d : D), depD d ≤ n → HashOk prog w d := by
  intro n
  induction n with
  | zero =>
    intro d hd
    cases d with
    | int i => exact hash_int i
    | str x => exact hash_str x
    | tup ds => exact absurd hd (Nat.not_succ_le_zero _)
    | _ => intro A E s v Q _ k _; cases k
  | succ n ih =>
    intro d hd
    cases d with
    | int i => exact hash_int i
    | str x => exact hash_str x
    | tup ds => exact hash_tup fun d m => ih d (Nat.le_trans (depD_mem m) (Nat.le_of_succ_le_succ hd))
    | _ => intro A E s v Q _ k _; cases k

/-! ### equality -/
noncomputable instance decD : DecidableEq D := fun a b => Classical.propDecidable (a = b)
mutual
inductive Sees : D → PyData → Prop
  | int (i : Int) : Sees (.int i) (.int i)
  | bool (b : Bool) : Sees (.int (if b then 1 else 0)) (.bool b)
  | str (s : Txt) : Sees (.str s) (.str (tx s))
  | tup {ds : List D} {es : List PyData} : Seess ds es → Sees (.tup ds) (.tuple es)
inductive Seess : List D → List PyData → Prop
  | nil : Seess [] []
  | cons {d : D} {e : PyData} {ds : List D} {es : List PyData} : Sees d e → Seess ds es → Seess (d :: ds) (e :: es)
end
mutual
theorem KV.reads {h : Heap} : ∀ {d : D} {v : Value}, KV h d v → ∃ e as, Reads h v e as ∧ e.canLay0 = true ∧ e.depth = depD d ∧ Sees d e
  | _, _, .int i t => ⟨_, _, Reads.int i t, rfl, rfl, .int i⟩
  | _, _, .bool b => ⟨_, _, Reads.bool b, rfl, rfl, .bool b⟩
  | _, _, .str s t f => ⟨_, _, Reads.str (tx s) t, f, rfl, .str s⟩
  | _, _, .tup g c d ks => by
    obtain ⟨es, as, r, l, e, z⟩ := KVs.reads ks
    exact ⟨_, _, Reads.tuple g c d r, l, congrArg (· + 1) e, .tup z⟩
theorem KVs.reads {h : Heap} : ∀ {ds : List D} {vs : List Value}, KVs h ds vs → ∃ es as, ReadsAll h vs es as ∧ PyData.canLayAll0 es = true ∧ PyData.depthAll es = depDs ds ∧ Seess ds es
  | _, _, .nil => ⟨[], _, ReadsAll.nil, rfl, rfl, .nil⟩
  | _, _, .cons k ks => by
    obtain ⟨e, as, r, l, q, z⟩ := KV.reads k
    obtain ⟨es, bs, rs, ls, qs, zs⟩ := KVs.reads ks
    exact ⟨e :: es, _, ReadsAll.cons r rs, by show (_ && _) = true; rw [l, ls]; rfl, by show max _ _ = max _ _; rw [q, qs], .cons z zs⟩
end
end
theorem dec_and {p q : Prop} [Decidable p] [Decidable q] : decide (p ∧ q) = (decide p && decide q) := by
  by_cases h : p <;> by_cases k : q <;> simp [h, k]
theorem dec_iff {p q : Prop} [Decidable p] [Decidable q] (h : p ↔ q) : decide p = decide q := by
  by_cases k : p
  · rw [decide_eq_true k, decide_eq_true (h.mp k)]
  · rw [decide_eq_false k, decide_eq_false fun z => k (h.mpr z)]
theorem beq_dec (i j : Int) : (i == j) = decide (D.int i = D.int j) := by
  exact (show (i == j) = decide (i = j) from by by_cases e : i = j <;> simp [e]).trans (dec_iff ⟨fun e => by rw [e], fun e => by injection e⟩)
section
mutual
theorem Sees.eqv : ∀ {x y : D} {e f : PyData}, Sees x e → Sees y f → PyData.eqv e f = decide (x = y)
  | _, _, _, _, .int i, .int j => beq_dec i j
  | _, _, _, _, .int i, .bool b => beq_dec i _
  | _, _, _, _, .bool a, .int j => beq_dec _ j
  | _, _, _, _, .bool a, .bool b => by cases a <;> cases b <;> simp [PyData.eqv]
  | _, _, _, _, .str s, .str t => by
    refine (tx_beq s t).trans ?_
    by_cases h : s = t
    · subst h; simp
    · rw [beq_eq_false_iff_ne.mpr h, decide_eq_false fun z => h (by injection z)]
  | _, _, _, _, .tup a, .tup b => (Seess.eqv a b).trans (dec_iff ⟨fun e => by rw [e], fun e => by injection e⟩)
  | _, _, _, _, .int i, .str t => (decide_eq_false fun z => nomatch z).symm
  | _, _, _, _, .int i, .tup b => (decide_eq_false fun z => nomatch z).symm
  | _, _, _, _, .bool a, .str t => (decide_eq_false fun z => nomatch z).symm
  | _, _, _, _, .bool a, .tup b => (decide_eq_false fun z => nomatch z).symm
  | _, _, _, _, .str s, .int j => (decide_eq_false fun z => nomatch z).symm
  | _, _, _, _, .str s, .bool b => (decide_eq_false fun z => nomatch z).symm
  | _, _, _, _, .str s, .tup b => (decide_eq_false fun z => nomatch z).symm
  | _, _, _, _, .tup a, .int j => (decide_eq_false fun z => nomatch z).symm
  | _, _, _, _, .tup a, .bool b => (decide_eq_false fun z => nomatch z).symm
  | _, _, _, _, .tup a, .str t => (decide_eq_false fun z => nomatch z).symm
theorem Seess.eqv : ∀ {x y : List D} {e f : List PyData}, Seess x e → Seess y f → PyData.eqvAll e f = decide (x = y)
  | _, _, _, _, .nil, .nil => (decide_eq_true rfl).symm
  | _, _, _, _, .nil, .cons _ _ => (decide_eq_false fun z => nomatch z).symm
  | _, _, _, _, .cons _ _, .nil => (decide_eq_false fun z => nomatch z).symm
  | _, _, _, _, .cons a as, .cons b bs => by
    show (PyData.eqv _ _ && PyData.eqvAll _ _) = _
    rw [Sees.eqv a b, Seess.eqv as bs]
    exact dec_and.symm.trans (dec_iff (by rw [List.cons.injEq]))
end
end
section
variable {prog : Program} {w : World} {A : Around} {E : Value → Shared → Prop} {s : Shared}
theorem eq_keys {x y : D} {u v : Value} {Q : Bool → Shared → Prop} (hu : A.units + depD x < cLine) (hx : KV s.heap x u) (hy : KV s.heap y v) (h : Q (decide (x = y)) s) : wpAny (model prog w) A (eqBool u v) Q E s := by
  obtain ⟨e, as, r, l, q, z⟩ := hx.reads
  obtain ⟨f, bs, r', l', q', z'⟩ := hy.reads
  unfold eqBool
  try with_reducible refine wpAny_holding ?_
  by_cases huv : (u == v) = true
  · have e1 := eq_of_beq huv
    subst e1
    obtain rfl := hx.inj hy
    show wpAny _ _ (if (u == u) = true then _ else _) Q E s
    rw [if_pos huv]
    exact wpAny_bind (wpAny_rule (wpAny_pure (by simpa using h)))
  · show wpAny _ _ (if (u == v) = true then _ else _) Q E s
    rw [if_neg huv]
    have fin : wpAny (model prog w) A (richCompare .Eq u v) (fun r s' => wpAny (model prog w) A (truthOfDropped r) Q E s') E s := by
      refine SeqAt.eqOverData prog w A E s u v e f as bs _ r r' l l' ?_ ?_
      · have := Nat.min_le_left e.depth f.depth
        omega
      · rw [z.eqv z']
        exact wpAny_truthy_bool h
    cases hx <;> exact wpAny_bind fin
/-- no object of one's own that asks back -/
theorem quiet_keys : ∀ (n : Nat) (d : D) {s : Shared} {v : Value} {Q : Bool → Shared → Prop}, depD d ≤ n → KV s.heap d v → Q true s → wpAny (model prog w) A (eqIsQuiet n v) Q E s := by
  intro n
  induction n with
  | zero =>
    intro d s v Q hd k h
    cases k with
    | int i t => rw [eqIsQuiet_byValue _ rfl]; exact wpAny_pure h
    | bool b => rw [eqIsQuiet_byValue _ rfl]; exact wpAny_pure h
    | str x t _ => rw [eqIsQuiet_byValue _ rfl]; exact wpAny_pure h
    | tup => exact absurd hd (Nat.not_succ_le_zero _)
  | succ n ih =>
    intro d s v Q hd k h
    cases k with
    | int i t => rw [eqIsQuiet_byValue _ rfl]; exact wpAny_pure h
    | bool b => rw [eqIsQuiet_byValue _ rfl]; exact wpAny_pure h
    | str x t _ => rw [eqIsQuiet_byValue _ rfl]; exact wpAny_pure h
    | @tup ds a o its m g c e ks =>
      have tyT : s.TypeIs (.ref a) "tuple" := ⟨o, g, c⟩
      have hds : depDs ds ≤ n := Nat.le_of_succ_le_succ hd
      unfold eqIsQuiet
      refine wpAny_bind (wpAny_specialOf tyT F.slot_tuple_eq.lookup ?_)
      show wpAny _ _ (isInstance (.ref a) (.type "tuple") >>= _) _ _ _
      refine wpAny_bind (wpAny_isInstance tyT isSubtype_tuple_tuple ?_)
      simp only [Bool.not_true, Bool.false_eq_true, if_false]
      refine wpAny_bind (wpAny_seqItems g e (wpAny_bind ?_))
      show wpAny _ _ (forIn its _ _) _ _ _
      rw [← Array.forIn_toList]
      refine wpAny_forIn_list _ (fun rest r s' => r.1 = none ∧ s' = s ∧ ∃ es, KVs s.heap es rest ∧ depDs es ≤ n) _ ?_ ?_ _ _ ⟨rfl, rfl, ds, ks, hds⟩
      · rintro u rest r s' ⟨hr, rfl, es, kes, he⟩
        cases kes with
        | @cons d1 _ es1 _ k1 kes1 =>
          refine wpAny_bind (ih d1 (Nat.le_trans (Nat.le_max_left _ _) he) k1 ?_)
          simp only [Bool.not_true, Bool.false_eq_true, if_false]
          exact wpAny_pure ⟨rfl, rfl, es1, kes1, Nat.le_trans (Nat.le_max_right _ _) he⟩
      · rintro ⟨r1, r2⟩ s' ⟨hr, rfl, _⟩
        simp only at hr
        subst hr
        exact wpAny_pure h
end
/-- tuples of data as keys: at most six deep -/
noncomputable def dataKind (prog : Program) (w : World) : HeapKind prog w (List D) where
  is := fun h ds a => KV h (.tup ds) (.ref a) ∧ depDs ds ≤ 6
  hash := fun ds => hashD w (.tup ds)
  draws := fun ds => toksD (.tup ds)
  room := fun A => A.units + 8 < cLine
  inj := fun hx hy => by have := hx.1.inj hy.1; injection this
  keeps := fun x ho hd hs => ⟨x.1.keeps ho hd hs, x.2⟩
  pyHash := fun hu hk h => hash_ok _ _ (Nat.le_refl _) (by show _ + (depDs _ + 1) ≤ cLine; have := hk.2; omega) hk.1 h
  eqBool := fun hu hx hy h => eq_keys (by show _ + (depDs _ + 1) < cLine; have := hx.2; omega) hx.1 hy.1 (by
    rw [dec_iff (show (D.tup _ = D.tup _) ↔ _ from ⟨fun e => by injection e, fun e => by rw [e]⟩)]
    exact h)
  quiet := fun hk h => quiet_keys 8 _ (by show depDs _ + 1 ≤ 8; have := hk.2; omega) hk.1 h
end Wa

set_option Elab.async false
set_option linter.all false
set_option maxRecDepth 100000
set_option maxHeartbeats 4000000
/-! WaDict: dicts at data. -/
namespace Wa
open PySem PySem.Spec PyProof.Rows L2

section
mutual
theorem eqv_nrm : ∀ (n m : Nat) (a b : D), a.keyin n = true → b.keyin m = true → a.eqv b = decide (a.nrm = b.nrm)
  | n, m, .int i, b, ha, hb => by
    cases b with
    | int j => exact beq_dec i j
    | bl c => exact beq_dec i _
    | str s => exact (decide_eq_false fun z => nomatch z).symm
    | tup ds => exact (decide_eq_false fun z => nomatch z).symm
    | _ => cases m <;> cases hb
  | n, m, .bl c, b, ha, hb => by
    cases b with
    | int j => exact beq_dec _ j
    | bl c' => cases c <;> cases c' <;> simp [D.eqv, D.nrm]
    | str s => exact (decide_eq_false fun z => nomatch z).symm
    | tup ds => exact (decide_eq_false fun z => nomatch z).symm
    | _ => cases m <;> cases hb
  | n, m, .str s, b, ha, hb => by
    cases b with
    | int j => exact (decide_eq_false fun z => nomatch z).symm
    | bl c' => exact (decide_eq_false fun z => nomatch z).symm
    | str t =>
      show (s == t) = _
      by_cases h : s = t
      · subst h; simp [D.nrm]
      · rw [beq_eq_false_iff_ne.mpr h, decide_eq_false fun z => h (by injection z)]
    | tup ds => exact (decide_eq_false fun z => nomatch z).symm
    | _ => cases m <;> cases hb
  | n, m, .tup xs, b, ha, hb => by
    cases b with
    | int j => exact (decide_eq_false fun z => nomatch z).symm
    | bl c' => exact (decide_eq_false fun z => nomatch z).symm
    | str t => exact (decide_eq_false fun z => nomatch z).symm
    | tup ys =>
      cases n with
      | zero => cases ha
      | succ n => cases m with
        | zero => cases hb
        | succ m => exact (eqvs_nrm n m xs ys ha hb).trans (dec_iff ⟨fun e => congrArg D.tup e, fun e => by injection e⟩)
    | _ => cases m <;> cases hb
  | n, m, .non, b, ha, hb => by cases n <;> cases ha
  | n, m, .lst _, b, ha, hb => by cases n <;> cases ha
  | n, m, .dct _ _, b, ha, hb => by cases n <;> cases ha
  | n, m, .ins _ _, b, ha, hb => by cases n <;> cases ha
  | n, m, .ref _, b, ha, hb => by cases n <;> cases ha
theorem eqvs_nrm : ∀ (n m : Nat) (xs ys : List D), keyins n xs = true → keyins m ys = true → eqvs xs ys = decide (nrms xs = nrms ys)
  | n, m, [], [], _, _ => (decide_eq_true rfl).symm
  | n, m, [], _ :: _, _, _ => (decide_eq_false fun z => nomatch z).symm
  | n, m, _ :: _, [], _, _ => (decide_eq_false fun z => nomatch z).symm
  | n, m, x :: xs, y :: ys, hx, hy => by
    simp only [keyins, Bool.and_eq_true] at hx hy
    show (x.eqv y && eqvs xs ys) = _
    rw [eqv_nrm n m x y hx.1 hy.1, eqvs_nrm n m xs ys hx.2 hy.2]
    exact dec_and.symm.trans (dec_iff (by
      show _ ↔ (x.nrm :: nrms xs = y.nrm :: nrms ys)
      rw [List.cons.injEq]))
end
end
/-! ### a key in the heap -/
section
variable {X : Cx} {pins : List (Addr × Obj)} {σ : L2.St} {H : Hp} {s : Shared} {T : View} {F : Addr → Prop} {I : List Addr}
mutual
theorem Rep.kv (J : Inv X pins σ H s) (hK : T.K = X.K) : ∀ (n : Nat) {d : D} {v : V} {u : Value}, d.keyin n = true → Rep T F I H d v → RelV v u → KV s.heap d.nrm u ∧ depD d.nrm ≤ n
  | n, .int i, _, _, _, h, r => by
    cases h
    obtain ⟨t, rfl⟩ := r
    exact ⟨.int i t, Nat.zero_le _⟩
  | n, .bl b, _, _, _, h, r => by
    cases h
    cases r
    exact ⟨.bool b, Nat.zero_le _⟩
  | n, .str x, _, _, _, h, r => by
    cases h with | str _ f =>
    obtain ⟨t, rfl⟩ := r
    exact ⟨.str x t f.1, Nat.zero_le _⟩
  | n + 1, .tup ds, _, _, k, h, r => by
    cases h with
    | tup q rs =>
      rw [hK] at q
      obtain ⟨its, rv, ⟨o, g, c, m, e⟩, _⟩ := J.tuple q
      obtain rfl := r
      obtain ⟨a, b⟩ := Reps.kv J hK n k rs rv
      exact ⟨.tup g c e (by simpa using a), Nat.succ_le_succ b⟩
  | 0, .tup ds, _, _, k, _, _ => by cases k
  | n, .non, _, _, k, _, _ => by cases n <;> cases k
  | n, .lst _, _, _, k, _, _ => by cases n <;> cases k
  | n, .dct _ _, _, _, k, _, _ => by cases n <;> cases k
  | n, .ins _ _, _, _, k, _, _ => by cases n <;> cases k
  | n, .ref _, _, _, k, _, _ => by cases n <;> cases k
theorem Reps.kv (J : Inv X pins σ H s) (hK : T.K = X.K) : ∀ (n : Nat) {ds : List D} {vs : List V} {us : List Value}, keyins n ds = true → Reps T F I H ds vs → Vals vs us → KVs s.heap (nrms ds) us ∧ depDs (nrms ds) ≤ n
  | n, [], _, _, _, h, r => by
    cases h
    cases r
    exact ⟨.nil, Nat.zero_le _⟩
  | n, d :: ds, _, _, k, h, r => by
    simp only [keyins, Bool.and_eq_true] at k
    cases h with
    | cons h hs =>
      cases r with
      | cons r rs =>
        obtain ⟨a, b⟩ := Rep.kv J hK n k.1 h r
        obtain ⟨a', b'⟩ := Reps.kv J hK n k.2 hs rs
        exact ⟨.cons a a', Nat.max_le.mpr ⟨b, b'⟩⟩
end
theorem Rep.is_key (J : Inv X pins σ H s) (hK : T.K = X.K) {ds : List D} {a : Addr} (k : keyins 6 ds = true) (h : Rep T F I H (.tup ds) (.ref a)) : (dataKind X.prog X.w).is s.heap (nrms ds) a := by
  cases h with
  | tup q rs =>
    rw [hK] at q
    obtain ⟨its, rv, ⟨o, g, c, m, e⟩, _⟩ := J.tuple q
    obtain ⟨a', b'⟩ := Reps.kv J hK 6 k rs rv
    exact ⟨.tup g c e (by simpa using a'), b'⟩
/-! ### a dict whose keys are tuples -/
abbrev Row.at_ (r : Row) : List D × Addr × Value := (nrms r.k, r.a, r.u)
theorem rows_dict (J : Inv X pins σ H s) (hK : T.K = X.K) {p : Addr} {rows : List Row} (ok : RowsOk rows) (kr : Reps T F I H (rows.map fun r => D.tup r.k) (rows.map fun r => V.ref r.a)) (h : rawT X.w p rows s.heap) :
    (p == sysModules) = false ∧ s.heap.DictOfH (dataKind X.prog X.w) p (rows.map Row.at_) := by
  obtain ⟨o, es, ep, g, x, d, e, n⟩ := h
  refine ⟨n, o, es, ep, g, x, d, ?_, ?_, ?_⟩
  · rw [e, List.map_map]
    rfl
  · have all : ∀ l : List Row, (∀ r ∈ l, keyins 6 r.k = true) → Reps T F I H (l.map fun r => D.tup r.k) (l.map fun r => V.ref r.a) → ∀ z ∈ l.map Row.at_, (dataKind X.prog X.w).is s.heap z.1 z.2.1 := by
      intro l
      induction l with
      | nil => intro _ _ z hz; cases hz
      | cons r l ih =>
        intro hk hr z hz
        cases hr with
        | cons h1 h2 =>
          rcases List.mem_cons.mp hz with rfl | hz
          · exact h1.is_key J hK (hk r List.mem_cons_self)
          · exact ih (fun r m => hk r (List.mem_cons_of_mem _ m)) h2 z hz
    exact all rows ok.key kr
  · rw [List.map_map]
    exact ok.nd
end
theorem at_row {T : View} {F : Addr → Prop} {I : List Addr} {H : Hp} {k : List D} (hk : keyins 6 k = true) : ∀ {rows : List Row} {vs : List D}, (∀ r ∈ rows, keyins 6 r.k = true) → Reps T F I H vs (rows.map (·.x)) →
    (∃ r d, r ∈ rows ∧ atKey (rows.map Row.at_) (nrms k) = some (r.a, r.u) ∧ atK (.tup k) (rows.map fun r => D.tup r.k) vs = some d ∧ Rep T F I H d r.x) ∨
    (atKey (rows.map Row.at_) (nrms k) = none ∧ atK (.tup k) (rows.map fun r => D.tup r.k) vs = none)
  | [], vs, _, h => by
    cases h
    exact .inr ⟨rfl, rfl⟩
  | r :: rows, vs, hr, h => by
    cases h with
    | @cons d _ ds _ h hs =>
      have e : (D.tup r.k).eqv (.tup k) = decide (nrms r.k = nrms k) := by
        exact eqvs_nrm 6 6 r.k k (hr r List.mem_cons_self) hk
      by_cases q : nrms r.k = nrms k
      · refine .inl ⟨r, d, List.mem_cons_self, ?_, ?_, h⟩
        · simp [atKey, List.find?_cons, q]
        · show (if (D.tup r.k).eqv (.tup k) = true then _ else _) = _
          rw [e, decide_eq_true q, if_pos rfl]
      · have a1 : atKey ((r :: rows).map Row.at_) (nrms k) = atKey (rows.map Row.at_) (nrms k) := by simp [atKey, List.find?_cons, q]
        have a2 : atK (.tup k) ((r :: rows).map fun r => D.tup r.k) (d :: ds) = atK (.tup k) (rows.map fun r => D.tup r.k) ds := by
          show (if (D.tup r.k).eqv (.tup k) = true then _ else _) = _
          rw [e, decide_eq_false q, if_neg (by decide)]
        rw [a1, a2]
        rcases at_row hk (fun r m => hr r (List.mem_cons_of_mem _ m)) hs with ⟨r', d', m, z⟩ | z
        · exact .inl ⟨r', d', List.mem_cons_of_mem _ m, z⟩
        · exact .inr z

/-! ### a dict whose keys are intsD and texts -/
theorem keyD_eqv (a : Key) (k : Key) : (keyD a).eqv (keyD k) = decide (a = k) := by
  cases a with
  | inl i => cases k with
    | inl j => exact (key_ll i j).symm
    | inr y => exact (key_lr i y).symm
  | inr x => cases k with
    | inl j => exact (key_rl x j).symm
    | inr y =>
      rw [key_rr]
      show (x.cps.toList == y.cps.toList) = decide (x = y)
      by_cases h : x = y
      · subst h; simp
      · rw [decide_eq_false h]
        refine beq_eq_false_iff_ne.mpr fun z => h ?_
        obtain ⟨⟨a⟩⟩ := x
        obtain ⟨⟨b⟩⟩ := y
        exact congrArg (fun l : List Nat => (⟨⟨l⟩⟩ : Str)) z
theorem at_kvs {T : View} {F : Addr → Prop} {I : List Addr} {H : Hp} (k : Key) : ∀ {kvs : List (Key × V)} {vs : List D}, Reps T F I H vs (kvs.map (·.2)) →
    (∃ x d, valV kvs k = some x ∧ atK (keyD k) (kvs.map fun e => keyD e.1) vs = some d ∧ Rep T F I H d x) ∨ (valV kvs k = none ∧ atK (keyD k) (kvs.map fun e => keyD e.1) vs = none)
  | [], vs, h => by
    cases h
    exact .inr ⟨rfl, rfl⟩
  | e :: kvs, vs, h => by
    cases h with
    | @cons d _ ds _ h hs =>
      have q := keyD_eqv e.1 k
      by_cases z : e.1 = k
      · refine .inl ⟨e.2, d, valV_pos z, ?_, h⟩
        show (if (keyD e.1).eqv (keyD k) = true then _ else _) = _
        rw [q, decide_eq_true z, if_pos rfl]
      · have a2 : atK (keyD k) ((e :: kvs).map fun e => keyD e.1) (d :: ds) = atK (keyD k) (kvs.map fun e => keyD e.1) ds := by
          show (if (keyD e.1).eqv (keyD k) = true then _ else _) = _
          rw [q, decide_eq_false z, if_neg (by decide)]
        rw [valV_neg z, a2]
        exact at_kvs k hs
theorem atom_key {k : D} (h : k.key = true) (n : k.isTup = false) : ∃ a : Key, k = keyD a := by
  cases k with
  | int i => exact ⟨.inl i, rfl⟩
  | str s => exact ⟨.inr (tx s), by simp [keyD, tx]⟩
  | tup ds => cases n
  | _ => cases h
theorem keyD_tup (a : Key) : (keyD a).isTup = false := by cases a <;> rfl
theorem Rep.keyV {T : View} {F : Addr → Prop} {I : List Addr} {H : Hp} {a : Key} {v : V} (h : Rep T F I H (keyD a) v) : v = kV a := by
  cases a with
  | inl i => cases h; rfl
  | inr x =>
    obtain ⟨⟨l⟩⟩ := x
    cases h
    rfl
section
variable {X : Cx} {pins : List (Addr × Obj)} {σ : L2.St} {H : Hp} {s : Shared} {T : View} {F : Addr → Prop} {I : List Addr}
/-- what is found, as data and as it stands -/
def Found (T : View) (F : Addr → Prop) (I : List Addr) (H : Hp) (o : Option D) (r : Option Value) : Prop :=
  match o, r with
  | none, none => True
  | some d, some u => ∃ x, RelV x u ∧ Rep T F I H d x
  | _, _ => False
theorem Found.isSome {o : Option D} {r : Option Value} (h : Found T F I H o r) : r.isSome = o.isSome := by
  cases o <;> cases r <;> first | rfl | exact h.elim
/-- the two sorts of dicts, for a key -/
theorem dict_two (J : Inv X pins σ H s) (hK : T.K = X.K) (hw : T.w = X.w) {p : Addr} {ks vs : List D} {k : D} {y : V} {u : Value} (h : DctAt T F I H p ks vs) (hk : kok k ks = true) (rk : Rep T F I H k y) (ry : RelV y u) :
    (p == sysModules) = false ∧ ((∃ key ws, (mixKind X.prog X.w).is key u = true ∧ s.heap.DictOf (mixKind X.prog X.w) p ws ∧ Found T F I H (atK k ks vs) (valueAt ws key)) ∨
    ∃ kd a xs, u = .ref a ∧ (dataKind X.prog X.w).is s.heap kd a ∧ s.heap.DictOfH (dataKind X.prog X.w) p xs ∧ Found T F I H (atK k ks vs) ((atKey xs kd).map (·.2))) := by
  rcases h with ⟨kvs, h1, rfl, nd, r⟩ | ⟨rows, h1, ok, rfl, kr, r⟩
  · obtain ⟨z, hp, ws, rel, dd⟩ := dk_of J.hok h1
    refine ⟨hp, ?_⟩
    by_cases t : k.isTup = true
    · cases kvs with
      | cons e kvs =>
        have q : (k.key && ((keyD e.1).isTup == k.isTup)) = true := hk
        rw [keyD_tup, t, show (false == true) = false from rfl, Bool.and_false] at q
        cases q
      | nil =>
        cases k with
        | tup ds =>
          have hk' : keyins 6 ds = true := hk
          cases rk with
          | tup sq rs =>
            obtain rfl := ry
            have e := rel.length
            have : ws = [] := List.eq_nil_of_length_eq_zero e.symm
            subst this
            obtain ⟨o, es, ep, g, x, d, _, ps, _⟩ := dd
            have hes : es.toList = [] := by
              generalize es.toList = l at ps
              cases ps
              rfl
            cases r
            exact .inr ⟨nrms ds, _, [], rfl, (Rep.tup sq rs).is_key J hK hk', ⟨o, es, ep, g, x, d, hes, by simp⟩, trivial⟩
        | _ => cases t
    · have kk : k.key = true := by
        cases kvs with
        | nil => exact hk
        | cons e kvs => exact (Bool.and_eq_true_iff.mp hk).1
      obtain ⟨a, rfl⟩ := atom_key kk (by simpa using t)
      obtain rfl := rk.keyV
      refine .inl ⟨a, ws, kV_is ry, dd, ?_⟩
      have q := rel.val a
      rcases at_kvs a r with ⟨x, d, e1, e2, e3⟩ | ⟨e1, e2⟩
      · rw [e1] at q
        rw [e2]
        cases e4 : valueAt ws a with
        | none => rw [e4] at q; exact q.elim
        | some u' => rw [e4] at q; exact ⟨x, q, e3⟩
      · rw [e1] at q
        rw [e2]
        cases e4 : valueAt ws a with
        | none => trivial
        | some u' => rw [e4] at q; exact q.elim
  · have hraw : rawT X.w p rows s.heap := by
      obtain ⟨q, _⟩ := (show ObjOk X.prog X.w H s.heap p (.ext (rawT T.w p rows)) from J.hok p _ h1)
      rw [hw] at q
      exact q
    obtain ⟨hp, dd⟩ := rows_dict J hK ok kr hraw
    refine ⟨hp, ?_⟩
    by_cases t : k.isTup = true
    · cases k with
      | tup ds =>
        have hk' : keyins 6 ds = true := by
          cases rows with
          | nil => exact hk
          | cons e rows => exact (Bool.and_eq_true_iff.mp hk).1
        cases rk with
        | tup sq rs =>
          obtain rfl := ry
          refine .inr ⟨nrms ds, _, _, rfl, (Rep.tup sq rs).is_key J hK hk', dd, ?_⟩
          rcases at_row hk' ok.key r with ⟨rw', d, m, e1, e2, e3⟩ | ⟨e1, e2⟩
          · rw [e1, e2]
            exact ⟨_, ok.rel _ m, e3⟩
          · rw [e1, e2]
            trivial
      | _ => cases t
    · cases rows with
      | cons e rows =>
        have q : (k.key && (true == k.isTup)) = true := hk
        cases e5 : k.isTup with
        | true => exact absurd e5 t
        | false => rw [e5, show (true == false) = false from rfl, Bool.and_false] at q; cases q
      | nil =>
        obtain ⟨a, rfl⟩ := atom_key hk (by simpa using t)
        obtain rfl := rk.keyV
        cases r
        obtain ⟨o, es, ep, g, x, d, e, _⟩ := hraw
        refine .inl ⟨a, [], kV_is ry, ⟨o, es, ep, g, x, d, ?_, ?_, List.nodup_nil⟩, trivial⟩
        · intro e' m
          have : e' ∈ es.toList := by simpa using m
          rw [e] at this
          cases this
        · rw [e]
          exact .nil
end

/-! ### an entry stored -/
theorem put_kvs {T : View} {F : Addr → Prop} {I : List Addr} {H : Hp} (a : Key) {d : D} {x : V} (hx : Rep T F I H d x) : ∀ {kvs : List (Key × V)} {vs : List D}, (kvs.map (·.1)).Nodup → Reps T F I H vs (kvs.map (·.2)) →
    (putK (keyD a) d (kvs.map fun e => keyD e.1) vs).1 = (L2.putK kvs a x).map (fun e => keyD e.1) ∧ Reps T F I H (putK (keyD a) d (kvs.map fun e => keyD e.1) vs).2 ((L2.putK kvs a x).map (·.2)) ∧ ((L2.putK kvs a x).map (·.1)).Nodup
  | [], vs, _, h => by
    cases h
    exact ⟨rfl, .cons hx .nil, by simp [L2.putK]⟩
  | e :: kvs, vs, nd, h => by
    cases h with
    | @cons w _ ws _ h hs =>
      have q := keyD_eqv e.1 a
      have nd' := List.nodup_cons.mp nd
      by_cases z : e.1 = a
      · have hp : L2.putK (e :: kvs) a x = (e.1, x) :: kvs := by
          have same : kvs.map (fun kv => if kv.1 = a then (kv.1, x) else kv) = kvs := by
            refine (List.map_congr_left fun kv m => ?_).trans (List.map_id _)
            rw [if_neg (fun c => nd'.1 (by show e.1 ∈ _; rw [z, ← c]; exact List.mem_map_of_mem (f := fun x : Key × V => x.1) m))]
            rfl
          unfold L2.putK
          rw [if_pos (by simp [z]), List.map_cons, if_pos z, same]
        have hm : putK (keyD a) d ((e :: kvs).map fun e => keyD e.1) (w :: ws) = (keyD e.1 :: kvs.map (fun e => keyD e.1), d :: ws) := by
          show (if (keyD e.1).eqv (keyD a) = true then _ else _) = _
          rw [q, decide_eq_true z, if_pos rfl]
        rw [hp, hm]
        exact ⟨rfl, .cons hx hs, nd⟩
      · obtain ⟨i1, i2, i3⟩ := put_kvs a hx nd'.2 hs
        have hp : L2.putK (e :: kvs) a x = e :: L2.putK kvs a x := by
          unfold L2.putK
          by_cases c : (kvs.any fun kv => decide (kv.1 = a)) = true
          · rw [if_pos c, if_pos (by rw [List.any_cons, c, Bool.or_true]), List.map_cons, if_neg z]
          · rw [if_neg c, if_neg (by rw [List.any_cons, decide_eq_false z]; simpa using c)]
            rfl
        have hm : putK (keyD a) d ((e :: kvs).map fun e => keyD e.1) (w :: ws) = (keyD e.1 :: (putK (keyD a) d (kvs.map fun e => keyD e.1) ws).1, w :: (putK (keyD a) d (kvs.map fun e => keyD e.1) ws).2) := by
          show (if (keyD e.1).eqv (keyD a) = true then _ else _) = _
          rw [q, decide_eq_false z, if_neg (by decide)]
        rw [hp, hm]
        refine ⟨by rw [List.map_cons, ← i1], .cons h i2, List.nodup_cons.mpr ⟨fun m => ?_, i3⟩⟩
        obtain ⟨kv, m1, m2⟩ := List.mem_map.mp m
        unfold L2.putK at m1
        split at m1
        · obtain ⟨kv', m3, m4⟩ := List.mem_map.mp m1
          refine nd'.1 (List.mem_map.mpr ⟨kv', m3, ?_⟩)
          rw [← m2, ← m4]
          split <;> rfl
        · rcases List.mem_append.mp m1 with m1 | m1
          · exact nd'.1 (List.mem_map.mpr ⟨kv, m1, m2⟩)
          · rw [List.mem_singleton.mp m1] at m2
            exact z m2.symm
theorem putK_fine {kvs : List (Key × V)} {a : Key} {x : V} (h : ∀ k ∈ kvs.map (·.1), keyFine k) (ha : keyFine a) : ∀ k ∈ (L2.putK kvs a x).map (·.1), keyFine k := by
  intro k m
  obtain ⟨kv, m1, rfl⟩ := List.mem_map.mp m
  unfold L2.putK at m1
  split at m1
  · obtain ⟨kv', m3, m4⟩ := List.mem_map.mp m1
    have : kv.1 = kv'.1 := by rw [← m4]; split <;> rfl
    rw [this]
    exact h _ (List.mem_map_of_mem (f := fun x : Key × V => x.1) m3)
  · rcases List.mem_append.mp m1 with m1 | m1
    · exact h _ (List.mem_map_of_mem (f := fun x : Key × V => x.1) m1)
    · rw [List.mem_singleton.mp m1]
      exact ha
theorem Rep.keyFine {T : View} {F : Addr → Prop} {I : List Addr} {H : Hp} {a : Key} {v : V} (h : Rep T F I H (keyD a) v) : Wa.keyFine a := by
  cases a with
  | inl i => trivial
  | inr x =>
    have : ∀ {d : D} {v : V}, Rep T F I H d v → d = .str x.cps.toList → Fine x.cps.toList := fun r e => by
      cases r <;> cases e
      assumption
    exact this h rfl
/-- a row stored -/
noncomputable def putR (rows : List Row) (k : List D) (a : Addr) (u : Value) (x : V) : List Row :=
  match rows with
  | [] => [⟨k, a, u, x⟩]
  | r :: rows => if nrms r.k = nrms k then ⟨r.k, r.a, u, x⟩ :: rows else r :: putR rows k a u x
theorem putR_key {rows : List Row} {k : List D} {a : Addr} {u : Value} {x : V} (hk : keyins 6 k = true) (h : ∀ r ∈ rows, keyins 6 r.k = true) : ∀ r ∈ putR rows k a u x, keyins 6 r.k = true := by
  induction rows with
  | nil => intro r m; rw [List.mem_singleton.mp m]; exact hk
  | cons r rows ih =>
    intro r' m
    unfold putR at m
    split at m
    · rcases List.mem_cons.mp m with rfl | m
      · exact h r List.mem_cons_self
      · exact h r' (List.mem_cons_of_mem _ m)
    · rcases List.mem_cons.mp m with rfl | m
      · exact h _ List.mem_cons_self
      · exact ih (fun r m => h r (List.mem_cons_of_mem _ m)) r' m
theorem putR_rel {rows : List Row} {k : List D} {a : Addr} {u : Value} {x : V} (hx : RelV x u) (h : ∀ r ∈ rows, RelV r.x r.u) : ∀ r ∈ putR rows k a u x, RelV r.x r.u := by
  induction rows with
  | nil => intro r m; rw [List.mem_singleton.mp m]; exact hx
  | cons r rows ih =>
    intro r' m
    unfold putR at m
    split at m
    · rcases List.mem_cons.mp m with rfl | m
      · exact hx
      · exact h r' (List.mem_cons_of_mem _ m)
    · rcases List.mem_cons.mp m with rfl | m
      · exact h _ List.mem_cons_self
      · exact ih (fun r m => h r (List.mem_cons_of_mem _ m)) r' m
theorem putR_len {rows : List Row} {k : List D} {a : Addr} {u : Value} {x : V} : (putR rows k a u x).length ≤ rows.length + 1 := by
  induction rows with
  | nil => exact Nat.le_refl _
  | cons r rows ih =>
    unfold putR
    split
    · exact Nat.le_succ _
    · exact Nat.succ_le_succ ih
theorem putR_mem {rows : List Row} {k : List D} {a : Addr} {u : Value} {x : V} {z : List D} (h : z ∈ (putR rows k a u x).map fun r => nrms r.k) : z ∈ (rows.map fun r => nrms r.k) ∨ z = nrms k := by
  induction rows with
  | nil => rw [List.mem_singleton.mp h]; exact .inr rfl
  | cons r rows ih =>
    unfold putR at h
    split at h
    · exact .inl h
    · rcases List.mem_cons.mp h with rfl | h
      · exact .inl List.mem_cons_self
      · exact (ih h).imp (fun m => List.mem_cons_of_mem _ m) id
theorem putR_nd {rows : List Row} {k : List D} {a : Addr} {u : Value} {x : V} (h : (rows.map fun r => nrms r.k).Nodup) : ((putR rows k a u x).map fun r => nrms r.k).Nodup := by
  induction rows with
  | nil => simp [putR]
  | cons r rows ih =>
    have nd := List.nodup_cons.mp h
    unfold putR
    split
    · exact h
    · rename_i z
      refine List.nodup_cons.mpr ⟨fun m => ?_, ih nd.2⟩
      rcases putR_mem m with m | m
      · exact nd.1 m
      · exact z m
theorem putR_ents {rows : List Row} {k : List D} {a : Addr} {u : Value} {x : V} (h : (rows.map fun r => nrms r.k).Nodup) : (putR rows k a u x).map Row.at_ = storedH (rows.map Row.at_) (nrms k) a u := by
  induction rows with
  | nil => rfl
  | cons r rows ih =>
    have nd := List.nodup_cons.mp h
    unfold putR
    by_cases z : nrms r.k = nrms k
    · rw [if_pos z]
      have e1 : atKey ((r :: rows).map Row.at_) (nrms k) = some (r.a, r.u) := by simp [atKey, List.find?_cons, z]
      have e2 : (rows.map Row.at_).map (putAt (nrms k) u) = rows.map Row.at_ := map_putAt_of_not_mem _ _ _ (by
        rw [List.map_map, ← z]
        exact nd.1)
      rw [storedH_old e1, List.map_cons, List.map_cons, List.map_cons, e2]
      simp [putAt, z]
    · rw [if_neg z]
      have e1 : atKey ((r :: rows).map Row.at_) (nrms k) = atKey (rows.map Row.at_) (nrms k) := by simp [atKey, List.find?_cons, z]
      rw [List.map_cons, ih nd.2]
      cases e2 : atKey (rows.map Row.at_) (nrms k) with
      | none => rw [storedH_new e2, storedH_new (e1.trans e2)]; rfl
      | some q =>
        rw [storedH_old e2, storedH_old (e1.trans e2), List.map_cons, List.map_cons]
        simp [putAt, z]
theorem put_rows {T : View} {F : Addr → Prop} {I : List Addr} {H : Hp} {k : List D} (hk : keyins 6 k = true) {a : Addr} {u : Value} {d : D} {x : V} (hx : Rep T F I H d x) (ha : Rep T F I H (.tup k) (.ref a)) : ∀ {rows : List Row} {vs : List D}, (∀ r ∈ rows, keyins 6 r.k = true) →
    Reps T F I H (rows.map fun r => D.tup r.k) (rows.map fun r => V.ref r.a) → Reps T F I H vs (rows.map (·.x)) →
    (putK (.tup k) d (rows.map fun r => D.tup r.k) vs).1 = (putR rows k a u x).map (fun r => D.tup r.k) ∧ Reps T F I H ((putR rows k a u x).map fun r => D.tup r.k) ((putR rows k a u x).map fun r => V.ref r.a) ∧
      Reps T F I H (putK (.tup k) d (rows.map fun r => D.tup r.k) vs).2 ((putR rows k a u x).map (·.x))
  | [], vs, _, _, h => by
    cases h
    exact ⟨rfl, .cons ha .nil, .cons hx .nil⟩
  | r :: rows, vs, hr, kr, h => by
    cases h with
    | @cons w _ ws _ h hs =>
      cases kr with
      | cons k1 ks1 =>
        have q : (D.tup r.k).eqv (.tup k) = decide (nrms r.k = nrms k) := eqvs_nrm 6 6 r.k k (hr r List.mem_cons_self) hk
        unfold putR
        by_cases z : nrms r.k = nrms k
        · have hm : putK (.tup k) d ((r :: rows).map fun r => D.tup r.k) (w :: ws) = (D.tup r.k :: rows.map (fun r => D.tup r.k), d :: ws) := by
            show (if (D.tup r.k).eqv (.tup k) = true then _ else _) = _
            rw [q, decide_eq_true z, if_pos rfl]
          rw [hm, if_pos z]
          exact ⟨rfl, .cons k1 ks1, .cons hx hs⟩
        · obtain ⟨i1, i2, i3⟩ := put_rows (u := u) hk hx ha (fun r m => hr r (List.mem_cons_of_mem _ m)) ks1 hs
          have hm : putK (.tup k) d ((r :: rows).map fun r => D.tup r.k) (w :: ws) = (D.tup r.k :: (putK (.tup k) d (rows.map fun r => D.tup r.k) ws).1, w :: (putK (.tup k) d (rows.map fun r => D.tup r.k) ws).2) := by
            show (if (D.tup r.k).eqv (.tup k) = true then _ else _) = _
            rw [q, decide_eq_false z, if_neg (by decide)]
          rw [hm, if_neg z]
          exact ⟨by rw [List.map_cons, ← i1], .cons k1 i2, .cons h i3⟩
theorem keeps_upd {F : Addr → Prop} {I : List Addr} {H : Hp} {p : Addr} {o u : HO} (nf : ¬ F p) (h : H p = some u) (hm : Moves u) : Keeps F I H F I (upd H p o) := by
  refine ⟨fun q v e k => ?_, fun _ h => h, [], by simp⟩
  have : q ≠ p := by
    rintro rfl
    rcases k with k | k
    · exact nf k
    · rw [h] at e
      cases e
      cases u <;> first | exact hm.elim | exact k.elim
  rw [upd_ne this]
  exact e
section
variable {X : Cx} {pins : List (Addr × Obj)} {σ : L2.St} {H : Hp} {s : Shared} {T : View} {F : Addr → Prop} {I : List Addr}
theorem dk_mut {p : Addr} {ks vs : List D} (h : DctAt T F I H p ks vs) : Mut (H p) := by
  rcases h with ⟨kvs, h1, _⟩ | ⟨rows, h1, _⟩ <;> rw [h1] <;> trivial
theorem ext_ok {P : Program} {w : World} {H' : Hp} {h' : Heap} {p : Addr} {rows : List Row} (h : rawT w p rows h') : ObjOk P w H' h' p (.ext (rawT w p rows)) := by
  refine ⟨h, ?_, ?_⟩
  · obtain ⟨o, _, _, g, _⟩ := h
    exact ⟨o, g⟩
  · rintro h1 h2 ⟨o, es, ep, g, r⟩ k
    exact ⟨o, es, ep, k o g, r⟩
theorem raw_of {w : World} {P : Program} {p : Addr} {rows : List Row} {h' : Heap} {xs : List (List D × Addr × Value)} (e : rows.map Row.at_ = xs) (hp : (p == sysModules) = false) (h : h'.DictOfH (dataKind P w) p xs) : rawT w p rows h' := by
  subst e
  obtain ⟨o, es, ep, g, x, d, e, _⟩ := h
  refine ⟨o, es, ep, g, x, d, ?_, hp⟩
  rw [e, List.map_map]
  rfl
theorem d_put (J : Inv X pins σ H s) (hK : T.K = X.K) (hw : T.w = X.w) (hu : X.A.units + 10 < cLine) {p : Addr} {ks vs : List D} {k d : D} {r : List D × List D} {y x : V} {u w : Value} (nf : ¬ F p) (h : DctAt T F I H p ks vs) (hc : putC k d ks vs = some r)
    (rk : Rep T F I H k y) (ry : RelV y u) (rd : Rep T F I H d x) (rx : RelV x w) {E : Value → Shared → Prop} {Q : Unit → Shared → Prop}
    (q : ∀ s' o', Inv X pins σ (upd H p o') s' → Moves o' → DctAt T F I (upd H p o') p r.1 r.2 → Q () s') : wpAny (model X.prog X.w) X.A (setItem (.ref p) u w) Q E s := by
  unfold putC at hc
  split at hc
  · rename_i c
    cases hc
    obtain ⟨hk, hl⟩ := Bool.and_eq_true_iff.mp c
    have hl : ks.length < line := of_decide_eq_true hl
    have kp : ∀ o, Keeps F I H F I (upd H p o) := fun o => by
      obtain ⟨u', e, m⟩ := h.some
      exact keeps_upd nf e m
    have mu := dk_mut h
    by_cases t : k.isTup = true
    · -- a tuple
      obtain ⟨kd, rfl⟩ : ∃ kd, k = .tup kd := by cases k <;> first | exact ⟨_, rfl⟩ | cases t
      obtain ⟨rows, ok, e1, kr, vr, raw⟩ : ∃ rows, RowsOk rows ∧ ks = rows.map (fun r => D.tup r.k) ∧ Reps T F I H (rows.map fun r => D.tup r.k) (rows.map fun r => V.ref r.a) ∧ Reps T F I H vs (rows.map (·.x)) ∧ rawT X.w p rows s.heap := by
        rcases h with ⟨kvs, h1, rfl, nd, r⟩ | ⟨rows, h1, ok, rfl, kr, r⟩
        · cases kvs with
          | cons e kvs =>
            have q : ((D.tup kd).key && ((keyD e.1).isTup == true)) = true := hk
            rw [keyD_tup, show (false == true) = false from rfl, Bool.and_false] at q
            cases q
          | nil =>
            obtain ⟨z, hp, ws, rel, dd⟩ := dk_of J.hok h1
            have e := rel.length
            have : ws = [] := List.eq_nil_of_length_eq_zero e.symm
            subst this
            obtain ⟨o, es, ep, g, x, d, _, ps, _⟩ := dd
            have hes : es.toList = [] := by
              generalize es.toList = l at ps
              cases ps
              rfl
            exact ⟨[], ⟨by simp, by simp, List.nodup_nil, Nat.zero_le _⟩, rfl, .nil, r, o, es, ep, g, x, d, hes, hp⟩
        · obtain ⟨q, _⟩ := (show ObjOk X.prog X.w H s.heap p (.ext (rawT T.w p rows)) from J.hok p _ h1)
          rw [hw] at q
          exact ⟨rows, ok, rfl, kr, r, q⟩
      subst e1
      have hk' : keyins 6 kd = true := by
        cases rows with
        | nil => exact hk
        | cons e rows => exact (Bool.and_eq_true_iff.mp hk).1
      cases rk with
      | @tup a its _ sq rs =>
        obtain rfl := ry
        have rk : Rep T F I H (.tup kd) (.ref a) := .tup sq rs
        obtain ⟨hp, dd⟩ := rows_dict J hK ok kr raw
        have hsz : (rows.map Row.at_).length ≤ sizeLine := by
          rw [List.length_map] at hl ⊢
          exact Nat.le_of_lt hl
        refine wpAny_setItem_heap (hsz := hsz) (knd := dataKind X.prog X.w) (by show X.A.units + 1 + 8 < cLine; omega) (rk.is_key J hK hk') dd fun h' dd' hs => ?_
        have he : ∃ q, h'.get? p = some q := let ⟨q, _, _, hq, _⟩ := dd'; ⟨q, hq⟩
        have raw' : rawT X.w p (putR rows kd a w x) h' := raw_of (putR_ents ok.nd) hp dd'
        obtain ⟨i1, i2, i3⟩ := put_rows (u := w) hk' rd rk ok.key kr vr
        refine q _ (.ext (rawT X.w p (putR rows kd a w x))) (d_write J mu hs he (ext_ok raw')) trivial (.inr ⟨putR rows kd a w x, by rw [upd_same, hw], ⟨putR_rel rx ok.rel, putR_key hk' ok.key, putR_nd ok.nd, ?_⟩, i1, ?_, i3.keeps (kp _)⟩)
        · have := putR_len (rows := rows) (k := kd) (a := a) (u := w) (x := x)
          rw [List.length_map] at hl
          omega
        · rw [i1]
          exact i2.keeps (kp _)
    · -- an int, a text
      have t : k.isTup = false := by simpa using t
      have kk : k.key = true := by
        cases ks with
        | nil => exact hk
        | cons e ks => exact (Bool.and_eq_true_iff.mp hk).1
      obtain ⟨a, rfl⟩ := atom_key kk t
      have fa := rk.keyFine
      obtain rfl := rk.keyV
      obtain ⟨kvs, ws, hp, rel, dd, e1, nd, vr⟩ : ∃ (kvs : List (Key × V)) (ws : List (Key × Value)), (p == sysModules) = false ∧ L2.KV kvs ws ∧ s.heap.DictOf (mixKind X.prog X.w) p ws ∧ ks = kvs.map (fun e => keyD e.1) ∧ KOk (kvs.map (·.1)) ∧ Reps T F I H vs (kvs.map (·.2)) := by
        rcases h with ⟨kvs, h1, rfl, nd, r⟩ | ⟨rows, h1, ok, rfl, kr, r⟩
        · obtain ⟨z, hp, ws, rel, dd⟩ := dk_of J.hok h1
          exact ⟨kvs, ws, hp, rel, dd, rfl, nd, r⟩
        · cases rows with
          | cons e rows =>
            have q : ((keyD a).key && (true == (keyD a).isTup)) = true := hk
            rw [t, show (true == false) = false from rfl, Bool.and_false] at q
            cases q
          | nil =>
            obtain ⟨q, _⟩ := (show ObjOk X.prog X.w H s.heap p (.ext (rawT T.w p [])) from J.hok p _ h1)
            obtain ⟨o, es, ep, g, x, d, e, hp⟩ := q
            refine ⟨[], [], hp, .nil, ⟨o, es, ep, g, x, d, ?_, ?_, List.nodup_nil⟩, rfl, KOk.nil, r⟩
            · intro e' m
              have : e' ∈ es.toList := by simpa using m
              rw [e] at this
              cases this
            · rw [e]
              exact .nil
      subst e1
      have hl' : kvs.length < sizeLine := by rw [List.length_map] at hl; exact hl
      have hz : ws.length ≤ sizeLine := by rw [← rel.length]; exact Nat.le_of_lt hl'
      obtain ⟨i1, i2, i3⟩ := put_kvs a rd nd.1 vr
      refine wpAny_setItem_pairs (hsz := hz) (kV_is ry) dd fun h' dd' hs => ?_
      have he : ∃ q, h'.get? p = some q := let ⟨q, _, _, hq, _⟩ := dd'; ⟨q, hq⟩
      have hl2 : (L2.putK kvs a x).length ≤ sizeLine := by have := length_putK kvs a x; omega
      exact q _ (.dK (L2.putK kvs a x)) (d_write J mu hs he (dk_new hl2 hp (rel.put a rx) dd')) trivial (.inl ⟨_, upd_same, i1, ⟨i3, putK_fine nd.2 fa⟩, i2.keeps (kp _)⟩)
  · cases hc
end
end Wa

set_option Elab.async false
set_option linter.all false
set_option maxRecDepth 100000
set_option maxHeartbeats 4000000
/-! WaCmp: comparisons, items, lengths, truth at data. -/
namespace Wa
open PySem PySem.Spec PyProof.Rows L2

def Cm.ast : Cm → CmpOp
  | .eq => .Eq | .ne => .NotEq | .lt => .Lt | .le => .LtE | .gt => .Gt | .ge => .GtE | .is => .Is | .isn => .IsNot | .isin => .In | .notin => .NotIn
def rC2 (T : View) (f : D → D → Option Bool) : R2 := fun x y H Q => ∃ F I a b k, RepV T F I H a x ∧ RepV T F I H b y ∧ f a b = some k ∧ Q (.bl k) H
section
variable {X : Cx} {ro : Bool} {T : View} {F : Addr → Prop} {I : List Addr} {H : Hp}
theorem pys_any (n m : Nat) (x : D) : ∀ (ys : List D), x.plain m = true → plains n ys = true → ((pys ys).any fun z => PyData.eqv z x.py) = inL x ys
  | [], _, _ => rfl
  | y :: ys, hx, hy => by
    simp only [plains, Bool.and_eq_true] at hy
    show (PyData.eqv y.py x.py || (pys ys).any fun z => PyData.eqv z x.py) = (y.eqv x || inL x ys)
    rw [py_eqv n m y x hy.1 hx, pys_any n m x ys hx hy.2]
theorem seq_dp {x y : V} {a : D} {ds : List D} (t : Bool) (p : a.plain deep = true) (ps : plains deep ds = true) (ra : RepV T F I H a x) (rb : RepV T F I H (if t then .tup ds else .lst ds) y) :
    Dp T.K H x a.py ∧ SeqAt.shaped a.py = true ∧ (∃ p xs, y = .ref p ∧ (if t then SqT T.K H p xs else SqL T.K H p xs) ∧ DpAll T.K H xs (pys ds)) ∧ PyData.canLayAll0 (pys ds) = true := by
  obtain ⟨h1, h2⟩ := ra.dp p
  refine ⟨h1, h2, ?_⟩
  cases t with
  | true =>
    obtain ⟨q, xs, e, h3, h4⟩ := rb.tup
    obtain ⟨h5, h6⟩ := h4.dp deep ps
    exact ⟨⟨q, xs, e, h3, h5⟩, h6⟩
  | false =>
    obtain ⟨q, xs, e, h3, h4⟩ := rb.lst
    obtain ⟨h5, h6⟩ := h4.dp deep ps
    exact ⟨⟨q, xs, e, .inl h3, h5⟩, h6⟩
theorem isin_key {k : D} {ks : List D} (h : kok k ks = true) : k.leaf = true := by
  have : k.key = true := by
    cases ks with
    | nil => exact h
    | cons x ks => exact (Bool.and_eq_true_iff.mp h).1
  cases k <;> first | rfl | cases this
theorem elem_tx (c : Nat) (s : Txt) : decide (c ∈ (tx s).cps.toList) = s.contains c := by
  show decide (c ∈ s.toArray.toList) = _
  rw [List.contains_eq_mem]
theorem is_two {x y : V} {a b : D} {k : Bool} (ra : RepV T F I H a x) (rb : RepV T F I H b y) (e : same a b = some k) : ∃ z : Unit, (y = .non ∧ k = decide (x = .non)) ∨ ∃ i j : Bool, x = .bl i ∧ y = .bl j ∧ k = decide (i = j) := by
  refine ⟨(), ?_⟩
  unfold same at e
  split at e
  · cases ra.non; cases rb.non; cases e
    exact .inl ⟨rfl, rfl⟩
  · cases ra.bl; cases rb.bl; cases e
    exact .inr ⟨_, _, rfl, rfl, by rename_i i j; cases i <;> cases j <;> rfl⟩
  · rename_i hn
    cases rb.non; cases e
    refine .inl ⟨rfl, (decide_eq_false ?_).symm⟩
    rintro rfl
    cases a with
    | non => exact hn rfl
    | lst ds => obtain ⟨_, _, z, _⟩ := ra.lst; cases z
    | dct ks vs => obtain ⟨_, z, _⟩ := ra.dct; cases z
    | ins c vs => obtain ⟨_, _, _, z, _⟩ := ra.ins; cases z
    | _ => cases ra.rep rfl
  · cases e
theorem cmp_data (hK : X.K = T.K) (hw : T.w = X.w) (hu : X.A.units + 70 < cLine) (o : Cm) : OpR X (compareOp o.ast) (rC2 T (cmpD o)) := fun pins s σ H x y v u Q J rx ry h => by
  obtain ⟨F, I, a, b, k, ra, rb, e, q⟩ := h
  have hKT : T.K = X.K := hK.symm
  have dat : (t : Bool) → (neg : Bool) → ∀ ds, b = (if t then .tup ds else .lst ds) → a.plain deep = true → plains deep ds = true → (k = if neg then !inL a ds else inL a ds) → wpAny (model X.prog X.w) X.A (compareOp (if neg then .NotIn else .In) v u) (EP X pins σ Q) X.xe s := by
    intro t neg ds hb p ps hk
    subst hb
    obtain ⟨h1, h2, ⟨pp, xs, rfl, h3, h4⟩, h5⟩ := seq_dp t p ps ra rb
    have hany := pys_any deep deep a ds p ps
    rw [hKT] at h1 h3 h4
    obtain ⟨as, r1⟩ := Dp.reads J a.py x v h1 rx
    have fin : Q (.bl k) H → EP X pins σ Q (Value.bool k) s := fun z => ⟨.bl k, H, J, rfl, z⟩
    have room := PyProof.Rows.room_in_shaped (A := X.A) (xs := pys ds) h2 (by omega)
    cases t with
    | true =>
      obtain ⟨bs, r2⟩ := Dp.reads J (.tuple (pys ds)) _ u (.tup h3 h4) ry
      cases neg with
      | true =>
        refine SeqAt.notIn_tuple_reads r2 r1 h5 (SeqAt.canLay_of_shaped h2) room ?_
        rw [hany]
        subst hk
        exact fin q
      | false =>
        refine SeqAt.in_tuple_reads r2 r1 h5 (SeqAt.canLay_of_shaped h2) room ?_
        rw [hany]
        subst hk
        exact fin q
    | false =>
      obtain ⟨bs, r2⟩ := Dp.reads J (.list (pys ds)) _ u (.lst h3 h4) ry
      cases neg with
      | true =>
        refine SeqAt.notIn_list_reads r2 r1 h5 (SeqAt.canLay_of_shaped h2) room ?_
        rw [hany]
        subst hk
        exact fin q
      | false =>
        refine SeqAt.in_list_reads r2 r1 h5 (SeqAt.canLay_of_shaped h2) room ?_
        rw [hany]
        subst hk
        exact fin q
  unfold cmpD at e
  split at e
  · -- ==
    split at e
    · rename_i c
      cases e
      obtain ⟨pa, pb⟩ := Bool.and_eq_true_iff.mp c
      obtain ⟨d1, s1⟩ := ra.dp pa
      obtain ⟨d2, s2⟩ := rb.dp pb
      rw [hKT] at d1 d2
      refine op_eqD (by omega) pins s σ H _ _ v u Q J rx ry ⟨_, _, d1, d2, s1, s2, ?_⟩
      rw [py_eqv deep deep _ _ pa pb]
      exact q
    · cases e
  · -- !=
    split at e
    · rename_i c
      cases e
      obtain ⟨pa, pb⟩ := Bool.and_eq_true_iff.mp c
      obtain ⟨d1, s1⟩ := ra.dp pa
      obtain ⟨d2, s2⟩ := rb.dp pb
      rw [hKT] at d1 d2
      refine op_neD (by omega) pins s σ H _ _ v u Q J rx ry ⟨_, _, d1, d2, s1, s2, ?_⟩
      rw [py_eqv deep deep _ _ pa pb]
      exact q
    · cases e
  · cases ra.int; cases rb.int; cases e
    exact op_lt pins s σ H _ _ v u Q J rx ry ⟨_, _, rfl, rfl, q⟩
  · cases ra.int; cases rb.int; cases e
    exact op_gt pins s σ H _ _ v u Q J rx ry ⟨_, _, rfl, rfl, q⟩
  · cases ra.int; cases rb.int; cases e
    exact op_le pins s σ H _ _ v u Q J rx ry ⟨_, _, rfl, rfl, q⟩
  · cases ra.int; cases rb.int; cases e
    exact op_ge pins s σ H _ _ v u Q J rx ry ⟨_, _, rfl, rfl, q⟩
  · -- is
    obtain ⟨y', rel⟩ := is_two ra rb e
    rcases rel with ⟨rfl, z⟩ | ⟨i, j, rfl, rfl, z⟩
    · exact op_isN pins s σ H _ _ v u Q J rx ry ⟨rfl, by rw [← z]; exact q⟩
    · exact op_isBl pins s σ H _ _ v u Q J rx ry ⟨_, _, rfl, rfl, by rw [← z]; exact q⟩
  · obtain ⟨k', e1, e2⟩ := Option.map_eq_some_iff.mp e
    subst e2
    obtain ⟨y', rel⟩ := is_two ra rb e1
    rcases rel with ⟨rfl, z⟩ | ⟨i, j, rfl, rfl, z⟩
    · exact op_notN pins s σ H _ _ v u Q J rx ry ⟨rfl, by rw [← z]; exact q⟩
    · exact op_notBl pins s σ H _ _ v u Q J rx ry ⟨_, _, rfl, rfl, by rw [← z]; exact q⟩
  · -- in a text
    obtain ⟨rfl, _⟩ := ra.str
    obtain ⟨rfl, _⟩ := rb.str
    cases e
    refine op_in_sign pins s σ H _ _ v u Q J rx ry ⟨_, _, rfl, rfl, ?_⟩
    rw [show decide (_ ∈ (tx _).cps.toList) = _ from elem_tx _ _]
    exact q
  · split at e
    · rename_i c
      cases e
      obtain ⟨pa, pb⟩ := Bool.and_eq_true_iff.mp c
      exact dat false false _ rfl pa pb rfl
    · cases e
  · split at e
    · rename_i c
      cases e
      obtain ⟨pa, pb⟩ := Bool.and_eq_true_iff.mp c
      exact dat true false _ rfl pa pb rfl
    · cases e
  · -- in a dict
    split at e
    · rename_i c
      cases e
      obtain ⟨p, rfl, hd⟩ := rb.dct
      obtain rfl := ry
      obtain ⟨hp, z⟩ := dict_two J hK.symm hw hd c (ra.rep (isin_key c)) rx
      rcases z with ⟨key, ws, z1, z2, z3⟩ | ⟨kd, b, xs, rfl, z1, z2, z3⟩
      · refine wpAny_in_of z1 hp z2.mapOf ?_
        rw [z3.isSome]
        exact ⟨V.bl _, H, J.tok _, rfl, q⟩
      · refine wpAny_in_heap (knd := dataKind X.prog X.w) (by show X.A.units + 1 + 8 < cLine; omega) z1 hp z2 ?_
        have := z3.isSome
        rw [Option.isSome_map] at this
        rw [this]
        exact ⟨V.bl _, H, J.tok _, rfl, q⟩
    · cases e
  · obtain ⟨rfl, _⟩ := ra.str
    obtain ⟨rfl, _⟩ := rb.str
    cases e
    refine op_notIn_sign pins s σ H _ _ v u Q J rx ry ⟨_, _, rfl, rfl, ?_⟩
    rw [show decide (_ ∈ (tx _).cps.toList) = _ from elem_tx _ _]
    exact q
  · split at e
    · rename_i c
      cases e
      obtain ⟨pa, pb⟩ := Bool.and_eq_true_iff.mp c
      exact dat false true _ rfl pa pb rfl
    · cases e
  · split at e
    · rename_i c
      cases e
      obtain ⟨pa, pb⟩ := Bool.and_eq_true_iff.mp c
      exact dat true true _ rfl pa pb rfl
    · cases e
  · split at e
    · rename_i c
      cases e
      obtain ⟨p, rfl, hd⟩ := rb.dct
      obtain rfl := ry
      obtain ⟨hp, z⟩ := dict_two J hK.symm hw hd c (ra.rep (isin_key c)) rx
      rcases z with ⟨key, ws, z1, z2, z3⟩ | ⟨kd, b, xs, rfl, z1, z2, z3⟩
      · refine wpAny_notIn_of z1 hp z2.mapOf ?_
        rw [z3.isSome]
        exact ⟨V.bl _, H, J.tok _, rfl, q⟩
      · refine wpAny_notIn_heap (knd := dataKind X.prog X.w) (by show X.A.units + 1 + 8 < cLine; omega) z1 hp z2 ?_
        have := z3.isSome
        rw [Option.isSome_map] at this
        rw [this]
        exact ⟨V.bl _, H, J.tok _, rfl, q⟩
    · cases e
  · cases e

/-! ### items -/
def rI2 (ro : Bool) (T : View) : R2 := fun x y H Q => ∃ F I L a b d, Wf T F I H L ∧ RepV T F I H a x ∧ RepV T F I H b y ∧ ixD a b = some d ∧ Ans ro T F I H L d Q
theorem atI_eq {α : Type} (xs : List α) (i : Int) : atI xs i = L2.atI xs i := rfl
theorem atI_get_rep {ds : List D} {xs : List V} (h : Reps T F I H ds xs) {i : Int} {d : D} (e : atI ds i = some d) : ∃ v, L2.atI xs i = some v ∧ Rep T F I H d v := by
  unfold atI at e
  obtain ⟨j, e1, e2⟩ := Option.bind_eq_some_iff.mp e
  obtain ⟨v, e3, r⟩ := h.get e2
  refine ⟨v, ?_, r⟩
  unfold L2.atI
  rw [← h.length]
  exact Option.bind_eq_some_iff.mpr ⟨j, e1, e3⟩
theorem atI_mem {α : Type} {xs : List α} {i : Int} {c : α} (e : atI xs i = some c) : c ∈ xs := by
  unfold atI at e
  obtain ⟨j, _, e3⟩ := Option.bind_eq_some_iff.mp e
  exact List.mem_of_getElem? e3
theorem fine_mem {s : Txt} {c : Nat} (h : Fine s) (m : c ∈ s) : Fine [c] := by
  have h1 := h.1
  simp only [PyData.strOk, List.all_toArray, List.all_eq_true] at h1
  refine ⟨?_, by show 1 ≤ line; decide⟩
  simpa [PyData.strOk] using h1 c m
theorem ix_data (hK : X.K = T.K) (hw : T.w = X.w) (hu : X.A.units + 70 < cLine) : IxR X (rI2 ro T) := fun value slice pins s σ H x y v u Q J rx ry h hs => by
  obtain ⟨F, I, L, a, b, d, w, ra, rb, e, q⟩ := h
  have hKT : T.K = X.K := hK.symm
  unfold ixD at e
  split at e
  · cases rb.int
    obtain ⟨p, xs, rfl, h1, h2⟩ := ra.tup
    rw [hKT] at h1
    obtain ⟨z, e1, r1⟩ := atI_get_rep h2 e
    exact ix_tup value slice pins s σ H _ _ v u Q J rx ry ⟨p, xs, _, z, rfl, rfl, h1, e1, q.now w r1⟩ hs
  · cases rb.int
    obtain ⟨p, xs, rfl, h1, h2⟩ := ra.lst
    obtain ⟨z, e1, r1⟩ := atI_get_rep h2 e
    exact ix_list value slice pins s σ H _ _ v u Q J rx ry ⟨p, xs, _, z, rfl, rfl, .inl h1, e1, q.now w r1⟩ hs
  · cases rb.int
    obtain ⟨rfl, fs⟩ := ra.str
    obtain ⟨c, e1, e2⟩ := Option.map_eq_some_iff.mp e
    subst e2
    have m := atI_mem e1
    exact ix_str value slice pins s σ H _ _ v u Q J rx ry ⟨_, _, c, rfl, rfl, by rw [tx_len]; exact fs.2, e1, q.now w (.str [c] (fine_mem fs m))⟩ hs
  · split at e
    · rename_i c
      obtain ⟨p, rfl, hd⟩ := ra.dct
      obtain rfl := rx
      obtain ⟨hp, z⟩ := dict_two J hKT hw hd c (rb.rep (isin_key c)) ry
      rw [e] at z
      rcases z with ⟨key, ws, z1, z2, z3⟩ | ⟨kd, b', xs, rfl, z1, z2, z3⟩
      · cases e4 : valueAt ws key with
        | none => rw [e4] at z3; exact z3.elim
        | some w' =>
          rw [e4] at z3
          obtain ⟨xv, rxv, rd⟩ := z3
          exact subscriptTail_builtinR (x := w') z2.typeIs PySem.F.slot_dict_getitem.lookup
            (wpAny_getItem_of (Q := fun r s' => r = w' ∧ EP X pins σ Q r s') z1 z2.mapOf e4 ⟨rfl, xv, H, J.tok _, rxv, q.now w rd⟩) hs
      · cases e4 : atKey xs kd with
        | none => rw [e4] at z3; exact z3.elim
        | some w' =>
          rw [e4] at z3
          obtain ⟨xv, rxv, rd⟩ := z3
          exact subscriptTail_builtinR (x := w'.2) z2.typeIs PySem.F.slot_dict_getitem.lookup
            (wpAny_getItem_heap (knd := dataKind X.prog X.w) (Q := fun r s' => r = w'.2 ∧ EP X pins σ Q r s') (by show X.A.units + 1 + 8 < cLine; omega) z1 z2 e4 ⟨rfl, xv, H, J.tok _, rxv, q.now w rd⟩) hs
    · cases e
  · cases e
/-! ### slices -/
def rS2 (ro : Bool) (T : View) : V → Option Int → Option Int → Hp → VK → Prop := fun x lo hi H Q => ∃ F I L a d, Wf T F I H L ∧ RepV T F I H a x ∧ slD a lo hi = some d ∧ Ans ro T F I H L d Q
theorem sIx_eq (n d : Nat) (i : Option Int) : sIx n d i = HT.sIx n d i := by
  cases i <;> rfl
theorem cutL_eq {α : Type} (xs : List α) (lo hi : Option Int) : cutL xs lo hi = (xs.drop (HT.sIx xs.length 0 lo)).take (HT.sIx xs.length xs.length hi - HT.sIx xs.length 0 lo) := by
  unfold cutL
  rw [sIx_eq, sIx_eq]
theorem fine_sub {s t : Txt} (h : Fine s) (m : ∀ c ∈ t, c ∈ s) (l : t.length ≤ s.length) : Fine t := by
  have h1 := h.1
  simp only [PyData.strOk, List.all_toArray, List.all_eq_true] at h1
  refine ⟨?_, Nat.le_trans l h.2⟩
  simp only [PyData.strOk, List.all_toArray, List.all_eq_true]
  exact fun c hc => h1 c (m c hc)
theorem Reps.cut {ds : List D} {xs : List V} (h : Reps T F I H ds xs) (lo hi : Option Int) : Reps T F I H (cutL ds lo hi) (cutV xs lo hi) := by
  rw [cutL_eq, h.length]
  exact (h.drop _).take _
theorem cutL_len {α : Type} (xs : List α) (lo hi : Option Int) : (cutL xs lo hi).length ≤ xs.length := by
  unfold cutL
  rw [List.length_take, List.length_drop]
  omega
theorem cutL_mem {α : Type} {xs : List α} {lo hi : Option Int} {c : α} (h : c ∈ cutL xs lo hi) : c ∈ xs := List.mem_of_mem_drop (List.mem_of_mem_take h)
theorem cutS_tx (s : Txt) (lo hi : Option Int) : cutS (tx s) lo hi = tx (cutL s lo hi) := by
  rw [cutL_eq]
  unfold cutS
  rw [tx_len]
theorem cut_whole {α : Type} {xs : List α} {lo hi : Option Int} (a : HT.sIx xs.length 0 lo = 0) (b : HT.sIx xs.length xs.length hi = xs.length) : cutL xs lo hi = xs := by
  rw [cutL_eq, a, b]
  simp
theorem sl_data (hK : X.K = T.K) : SlR X (rS2 ro T) := fun pins s σ H x v vl vu lo hi sl Q J rx hs pl pu h => by
  obtain ⟨F, I, L, a, d, w, ra, e, q⟩ := h
  have hKT : T.K = X.K := hK.symm
  unfold slD at e
  split at e
  · cases e
    obtain ⟨p, xs, rfl, h1, h2⟩ := ra.tup
    rw [hKT] at h1
    refine sl_tupA pins s σ H _ v vl vu lo hi sl Q J rx hs pl pu ⟨p, xs, rfl, h1, fun z => ?_, fun _ p' hp => q.tup w (h2.cut lo hi) hp⟩
    rw [← h2.length] at z
    rw [cut_whole z.1 z.2] at q
    exact q.now w (.tup (by rw [hKT]; exact h1) h2)
  · cases e
    obtain ⟨p, xs, rfl, h1, h2⟩ := ra.lst
    exact sl_list pins s σ H _ v vl vu lo hi sl Q J rx hs pl pu ⟨p, xs, rfl, .inl h1, fun p' hp => q.lst w (h2.cut lo hi) hp⟩
  · cases e
    obtain ⟨rfl, fs⟩ := ra.str
    refine sl_str pins s σ H _ v vl vu lo hi sl Q J rx hs pl pu ⟨_, rfl, by rw [tx_len]; exact fs.2, ?_⟩
    rw [cutS_tx]
    exact q.now w (.str _ (fine_sub fs (fun c m => cutL_mem m) (cutL_len _ _ _)))
  · cases e
/-! ### truth -/
theorem truth_data {a : D} {x : V} {k : Bool} (hK : X.K = T.K) (ra : RepV T F I H a x) (e : truth a = some k) : TruV X.K x H k := by
  unfold truth at e
  split at e
  · cases ra.non; cases e; rfl
  · cases ra.bl; cases e; rfl
  · cases ra.int
    cases e
    rename_i i
    show decide (i ≠ 0) = (i != 0)
    by_cases z : i = 0 <;> simp [z]
  · obtain ⟨rfl, fs⟩ := ra.str
    cases e
    rename_i s
    refine ⟨by rw [tx_len]; exact fs.2, ?_⟩
    rw [tx_len]
    cases s with
    | nil => rfl
    | cons c s =>
      refine (bne_iff_ne.mpr ?_).symm
      simp only [List.length_cons]
      omega
  · obtain ⟨p, xs, rfl, h1, h2⟩ := ra.tup
    cases e
    refine .inr (.inl ⟨xs, by rw [hK]; exact h1, ?_⟩)
    cases h2 <;> rfl
  · obtain ⟨p, xs, rfl, h1, h2⟩ := ra.lst
    cases e
    refine .inl ⟨xs, .inl h1, ?_⟩
    cases h2 <;> rfl
  · cases e
end
end Wa

set_option Elab.async false
set_option linter.all false
set_option maxRecDepth 100000
set_option maxHeartbeats 4000000
/-! WaSnd: expressions do what the evaluator says. -/
namespace Wa
open PySem PySem.Spec PyProof.Rows L2

structure Bd where
  T : View
  E : Ent
  G : Cfg
  W : WX
abbrev Bd.fr (B : Bd) := Fr B.G.ro B.T B.E
abbrev Bd.post {α β : Type} (B : Bd) (σ : L2.St) := Post (α := α) (β := β) B.G.ro B.T (fun c d H => B.W c d σ H)
abbrev rE (B : Bd) (F : Addr → Prop) (I : List Addr) (H : Hp) (d : D) (v : V) : Prop := Rep B.T F I H d v
abbrev rO (B : Bd) (F : Addr → Prop) (I : List Addr) (H : Hp) (d : D) (v : V) : Prop := RepO B.T F I H d v
abbrev rEs (B : Bd) (F : Addr → Prop) (I : List Addr) (H : Hp) (d : List D) (v : List V) : Prop := Reps B.T F I H d v
/-- arguments: frozen, but those that are lent -/
inductive RepQ (T : View) (F : Addr → Prop) (I : List Addr) (H : Hp) : COs → List D → List V → Prop
  | nil : RepQ T F I H .nil [] []
  | e {c : CE} {es : COs} {d : D} {v : V} {ds : List D} {vs : List V} : Rep T F I H d v → RepQ T F I H es ds vs → RepQ T F I H (.cons (.e c) es) (d :: ds) (v :: vs)
  | pk {i : Nat} {es : COs} {d : D} {v : V} {ds : List D} {vs : List V} : RepO T F I H d v → RepQ T F I H es ds vs → RepQ T F I H (.cons (.pk i) es) (d :: ds) (v :: vs)
abbrev rB (F : Addr → Prop) (I : List Addr) (H : Hp) (k : Bool) (b : Bool) : Prop := b = k
/-- the reading of a part that is evaluated -/
def tR {α β : Type} (B : Bd) (RA : (Addr → Prop) → List Addr → Hp → α → β → Prop) (r : Env → List Cell → R α) : L2.St → Hp → (β → Hp → Prop) → Prop :=
  fun σ H Q => ∃ F I L env, B.fr F I H L σ env ∧ B.post σ F I H RA (r env L) Q
abbrev tEv (B : Bd) (c : CE) : TE := tR B (rE B) (ev B.G c)
abbrev tEvO (B : Bd) (c : CO) : TE := tR B (rO B) (evO B.G c)
abbrev tEvs (B : Bd) (c : CEs) : TA := tR B (rEs B) (evs B.G c)
abbrev tEvOs (B : Bd) (c : COs) : TA := tR B (fun F I H => RepQ B.T F I H c) (evOs B.G c)
abbrev tTs (B : Bd) (c : CE) : TT := tR B rB fun env L => (ev B.G c env L).bind fun x L => opt (truth x) L
theorem PEimp {X : Cx} {e : Expr} {t t' : TE} (h : PE X e t) (k : ∀ σ H Q, t' σ H Q → t σ H Q) : PE X e t' := ⟨fun pins s σ H Q I q => h.run pins s σ H Q I (k _ _ _ q)⟩
theorem PTimp {X : Cx} {e : Expr} {t t' : TT} (h : PT X e t) (k : ∀ σ H Q, t' σ H Q → t σ H Q) : PT X e t' := ⟨fun pins s σ H Q I q => h.run pins s σ H Q I (k _ _ _ q)⟩
theorem PAimp {X : Cx} {e : List Expr} {t t' : TA} (h : PA X e t) (k : ∀ σ H Q, t' σ H Q → t σ H Q) : PA X e t' := ⟨fun pos pins s σ H Q I q => h.run pos pins s σ H Q I (k _ _ _ q)⟩
/-- what is known of where one stands -/
structure Sx (B : Bd) (X : Cx) (n : Nat) : Prop where
  K : X.K = B.T.K
  w : B.T.w = X.w
  nd : X.N.Nodup
  tk : Takes X B.W
  room : Room n X.A
  po : PassesOwn (model X.prog X.w) X.A X.env X.xe
theorem Sx.un {B : Bd} {X : Cx} {n : Nat} (S : Sx B X n) : X.A.units + 200 < cLine := by have := S.room.un; omega
section
variable {B : Bd} {X : Cx} {n : Nat} {e a b c : Expr} {es : List Expr} {p : Pos} {ca cb cc : CE} {oa ob oc : CO}
theorem now {α β : Type} {σ : L2.St} {F : Addr → Prop} {I : List Addr} {H : Hp} {L : List Cell} {env : Env} {RA : (Addr → Prop) → List Addr → Hp → α → β → Prop} {x : α} {v : β} {Q : β → Hp → Prop} (fr : B.fr F I H L σ env) (h : B.post σ F I H RA (.ok x L) Q) (r : RA F I H x v) : Q v H :=
  h F I H v Step.refl fr.wf r
theorem s_non (S : Sx B X n) {j} : PE X (.Constant .none j p) (tEv B .non) := PEimp pe_non fun _ _ _ ⟨_, _, _, _, fr, h⟩ => now fr h .non
theorem s_bl (S : Sx B X n) {k : Bool} {j} : PE X (.Constant (.bool k) j p) (tEv B (.bl k)) := PEimp pe_bl fun _ _ _ ⟨_, _, _, _, fr, h⟩ => now fr h (.bl k)
theorem s_int (S : Sx B X n) {i : Int} {j} : PE X (.Constant (.int i) j p) (tEv B (.int i)) := PEimp pe_int fun _ _ _ ⟨_, _, _, _, fr, h⟩ => now fr h (.int i)
theorem s_str (S : Sx B X n) {s : Txt} {j} (f : Fine s) : PE X (.Constant (.str (tx s)) j p) (tEv B (.str s)) := PEimp pe_str fun _ _ _ ⟨_, _, _, _, fr, h⟩ => now fr h (.str s f)
theorem s_var (S : Sx B X n) {i : Nat} {x : Str} (hN : X.N[i]? = some x) (hv : Vis X.env.scope x) (hd : (x == ("__debug__" : Str)) = false) (hc : (x == ("__classdict__" : Str)) = false) : PE X (.Name x p) (tEv B (.var i)) :=
  PEimp (pe_var (i := i) hN hv hd hc) fun σ H Q ⟨F, I, L, env, fr, h⟩ => by
    unfold ev evVar at h
    split at h
    · rename_i d hs
      obtain ⟨v, e1, r⟩ := fr.sl i _ hs
      exact ⟨v, e1, now fr h r⟩
    · exact h.elim
theorem s_pk (S : Sx B X n) {i : Nat} {x : Str} (hN : X.N[i]? = some x) (hv : Vis X.env.scope x) (hd : (x == ("__debug__" : Str)) = false) (hc : (x == ("__classdict__" : Str)) = false) : PE X (.Name x p) (tEvO B (.pk i)) :=
  PEimp (pe_var (i := i) hN hv hd hc) fun σ H Q ⟨F, I, L, env, fr, h⟩ => by
    unfold evO evPk at h
    split at h
    · rename_i s hs
      obtain ⟨v, e1, r⟩ := fr.sl i _ hs
      refine ⟨v, e1, now fr h ?_⟩
      cases s with
      | val d => exact .inl r
      | olst ds => exact .inr ⟨_, _, _, rfl, rfl, r⟩
      | odct ks vs => exact .inr ⟨_, _, _, rfl, rfl, r⟩
      | oins c vs => exact .inr ⟨_, _, _, rfl, rfl, r⟩
    · exact h.elim
theorem s_O (h : PE X e (tEv B ca)) : PE X e (tEvO B (.e ca)) := PEimp h fun σ H Q ⟨F, I, L, env, fr, q⟩ => ⟨F, I, L, env, fr, by
    unfold evO at q
    cases r : ev B.G ca env L with
    | ok d L' => rw [r] at q; exact fun F' I' H' v st wf ra => q F' I' H' v st wf (.inl ra)
    | exc c vs L' => rw [r] at q; exact q
    | bad => rw [r] at q; exact q⟩
theorem s_op (S : Sx B X n) {o : Op} (ha : PE X a (tEvO B oa)) (hb : PE X b (tEvO B ob)) : PE X (.BinOp a o.ast b p) (tEv B (.op o oa ob)) :=
  PEimp (pe_op (op_data (ro := B.G.ro) S.K o) ha hb) fun σ H Q ⟨F, I, L, env, fr, h⟩ => ⟨F, I, L, env, fr, h.seq fun x L1 F1 I1 H1 vx st1 w1 rx h1 =>
    ⟨F1, I1, L1, env, fr.step st1 w1, h1.seq fun y L2 F2 I2 H2 vy st2 w2 ry h2 => by
      obtain ⟨d, e, q⟩ := h2.opt
      exact ⟨F2, I2, L2, x, y, d, w2, .inl (rx.step st2 w1), .inl ry, e, q⟩⟩⟩
theorem seen_rep {T : View} {F : Addr → Prop} {I : List Addr} {H : Hp} {L : List Cell} {d : D} {v : V} (w : Wf T F I H L) (r : RepO T F I H d v) : RepV T F I H (seen d L) v := by
  unfold seen
  split
  · rename_i i
    have r' : Rep T F I H (.ref i) v := (RepV.rep (.inl r) rfl)
    cases r' with
    | ref hi =>
      split
      · rename_i ds e
        exact .inr ⟨_, rfl, .inl ⟨ds, rfl, w.at_ i _ _ hi e⟩⟩
      · rename_i ks vs e
        exact .inr ⟨_, rfl, .inr ⟨ks, vs, rfl, w.at_ i _ _ hi e⟩⟩
      · exact .inl r
  · exact .inl r
theorem s_cmp (S : Sx B X n) {o : Cm} (ha : PE X a (tEvO B oa)) (hb : PE X b (tEvO B ob)) (hm : behindInMarks o.ast b = false) : PE X (.Compare a [o.ast] [b] p) (tEv B (.cmp o oa ob)) :=
  PEimp (pe_cmpR (cmp_data S.K S.w (by have := S.un; omega) o) ha hb hm) fun σ H Q ⟨F, I, L, env, fr, h⟩ => ⟨F, I, L, env, fr, h.seq fun x L1 F1 I1 H1 vx st1 w1 rx h1 =>
    ⟨F1, I1, L1, env, fr.step st1 w1, h1.seq fun y L2 F2 I2 H2 vy st2 w2 ry h2 => by
      obtain ⟨d, e, q⟩ := h2.opt
      obtain ⟨k, e1, e2⟩ := Option.map_eq_some_iff.mp e
      subst e2
      exact ⟨F2, I2, x, _, k, .inl (rx.step st2 w1), seen_rep w2 ry, e1, q F2 I2 H2 _ Step.refl w2 (.bl k)⟩⟩⟩
theorem t_cmp (S : Sx B X n) {o : Cm} (ha : PE X a (tEvO B oa)) (hb : PE X b (tEvO B ob)) (hm : behindInMarks o.ast b = false) : PT X (.Compare a [o.ast] [b] p) (tTs B (.cmp o oa ob)) :=
  PTimp (pt_cmpR (cmp_data S.K S.w (by have := S.un; omega) o) ha hb hm) fun σ H Q ⟨F, I, L, env, fr, h⟩ => ⟨F, I, L, env, fr, by
    have h' : B.post σ F I H rB ((evO B.G oa env L).bind fun x L => (evO B.G ob env L).bind fun y L => opt (cmpD o x (seen y L)) L) Q := by
      unfold ev at h
      dsimp only at h
      cases r1 : evO B.G oa env L with
      | ok x L1 =>
        rw [r1] at h
        simp only [R.bind] at h ⊢
        cases r2 : evO B.G ob env L1 with
        | ok y L2 =>
          rw [r2] at h
          simp only [R.bind] at h ⊢
          cases r3 : cmpD o x (seen y L2) with
          | some k => rw [r3] at h; exact h
          | none => rw [r3] at h; exact h.elim
        | exc c vs L2 => rw [r2] at h; exact h
        | bad => rw [r2] at h; exact h.elim
      | exc c vs L1 => rw [r1] at h; exact h
      | bad => rw [r1] at h; exact h.elim
    exact h'.seq fun x L1 F1 I1 H1 vx st1 w1 rx h1 => ⟨F1, I1, L1, env, fr.step st1 w1, h1.seq fun y L2 F2 I2 H2 vy st2 w2 ry h2 => by
      obtain ⟨k, e1, q⟩ := h2.opt
      exact ⟨F2, I2, x, _, k, .inl (rx.step st2 w1), seen_rep w2 ry, e1, k, rfl, q F2 I2 H2 _ Step.refl w2 rfl⟩⟩⟩
/-- a test by its value's truth -/
theorem t_of (S : Sx B X n) (h : PE X e (tEv B ca)) (he : ∀ whole, isTrue e X.env whole = (do let v ← whole; standAt e.pos; holding [v] (truthy v))) : PT X e (tTs B ca) :=
  PTimp (pt_truth h he) fun σ H Q ⟨F, I, L, env, fr, q⟩ => ⟨F, I, L, env, fr, q.seq fun x L1 F1 I1 H1 v st1 w1 r1 h1 => by
    obtain ⟨k, e1, q1⟩ := h1.opt
    exact ⟨k, truth_data S.K (.inl (.inl r1)) e1, q1 F1 I1 H1 k Step.refl w1 rfl⟩⟩
theorem s_not (S : Sx B X n) (h : PE X a (tEv B ca)) : PE X (.UnaryOp .Not a p) (tEv B (.not ca)) :=
  PEimp (pe_notT h) fun σ H Q ⟨F, I, L, env, fr, q⟩ => ⟨F, I, L, env, fr, q.seq fun x L1 F1 I1 H1 v st1 w1 r1 h1 => by
    cases e1 : truth x with
    | none => rw [e1] at h1; exact h1.elim
    | some k =>
      rw [e1] at h1
      exact ⟨k, truth_data S.K (.inl (.inl r1)) e1, h1 F1 I1 H1 _ Step.refl w1 (.bl _)⟩⟩
theorem t_not (S : Sx B X n) (h : PT X a (tTs B ca)) : PT X (.UnaryOp .Not a p) (tTs B (.not ca)) :=
  PTimp (pt_not h) fun σ H Q ⟨F, I, L, env, fr, q⟩ => ⟨F, I, L, env, fr, by
    unfold ev at q
    show B.post σ F I H rB ((ev B.G ca env L).bind fun x L => opt (truth x) L) _
    dsimp only at q
    cases r1 : ev B.G ca env L with
    | ok x L1 =>
      rw [r1] at q
      simp only [R.bind] at q ⊢
      cases r2 : truth x with
      | some k =>
        rw [r2] at q
        exact fun F' I' H' b st wf (e : b = k) => by subst e; exact q F' I' H' (!b) st wf rfl
      | none => rw [r2] at q; exact q.elim
    | exc c vs L1 => rw [r1] at q; exact q
    | bad => rw [r1] at q; exact q.elim⟩
theorem s_and (S : Sx B X n) {rest : List Expr} (ha : PE X a (tEv B ca)) (hb : PE X (.BoolOp .And (b :: rest) p) (tEv B cb)) : PE X (.BoolOp .And (a :: b :: rest) p) (tEv B (.and ca cb)) :=
  PEimp (pe_andT ha hb) fun σ H Q ⟨F, I, L, env, fr, q⟩ => ⟨F, I, L, env, fr, q.seq fun x L1 F1 I1 H1 v st1 w1 r1 h1 => by
    cases e1 : truth x with
    | none => rw [e1] at h1; exact h1.elim
    | some k =>
      rw [e1] at h1
      refine ⟨k, truth_data S.K (.inl (.inl r1)) e1, ?_⟩
      cases k with
      | true => exact ⟨F1, I1, L1, env, fr.step st1 w1, h1⟩
      | false => exact h1 F1 I1 H1 v Step.refl w1 r1⟩
theorem s_or (S : Sx B X n) {rest : List Expr} (ha : PE X a (tEv B ca)) (hb : PE X (.BoolOp .Or (b :: rest) p) (tEv B cb)) : PE X (.BoolOp .Or (a :: b :: rest) p) (tEv B (.or ca cb)) :=
  PEimp (pe_orT ha hb) fun σ H Q ⟨F, I, L, env, fr, q⟩ => ⟨F, I, L, env, fr, q.seq fun x L1 F1 I1 H1 v st1 w1 r1 h1 => by
    cases e1 : truth x with
    | none => rw [e1] at h1; exact h1.elim
    | some k =>
      rw [e1] at h1
      refine ⟨k, truth_data S.K (.inl (.inl r1)) e1, ?_⟩
      cases k with
      | false => exact ⟨F1, I1, L1, env, fr.step st1 w1, h1⟩
      | true => exact h1 F1 I1 H1 v Step.refl w1 r1⟩
end
end Wa

set_option Elab.async false
set_option linter.all false
set_option maxRecDepth 100000
set_option maxHeartbeats 4000000
/-! WaCall: more expressions; calls. -/
namespace Wa
open PySem PySem.Spec PyProof.Rows L2

section
variable {B : Bd} {X : Cx} {n : Nat} {e a b c : Expr} {es : List Expr} {p : Pos} {ca cb cc : CE} {oa ob oc : CO} {cs : CEs} {os : COs}
/-! ### tests -/
theorem PWimp {e : Expr} {t t' : TT} (h : PW X e t) (k : ∀ σ H Q, t' σ H Q → t σ H Q) : PW X e t' := ⟨fun wh pins s σ H Q I q => h.run wh pins s σ H Q I (k _ _ _ q)⟩
theorem tts_and {σ : L2.St} {H : Hp} {Q : Bool → Hp → Prop} (h : tTs B (.and ca cb) σ H Q) : tAnd (tTs B ca) (tTs B cb) σ H Q := by
  obtain ⟨F, I, L, env, fr, q⟩ := h
  refine ⟨F, I, L, env, fr, ?_⟩
  unfold ev at q
  show B.post σ F I H rB ((ev B.G ca env L).bind fun x L => opt (truth x) L) _
  dsimp only at q
  cases r1 : ev B.G ca env L with
  | ok x L1 =>
    rw [r1] at q
    simp only [R.bind] at q ⊢
    cases r2 : truth x with
    | none => rw [r2] at q; exact q.elim
    | some k =>
      rw [r2] at q
      intro F1 I1 H1 k' st1 w1 e1
      obtain rfl : k' = k := e1
      cases k' with
      | true => exact ⟨F1, I1, L1, env, fr.step st1 w1, Post.from q st1⟩
      | false =>
        have q2 : B.post σ F I H rB (opt (truth x) L1) Q := q
        rw [r2] at q2
        exact q2 F1 I1 H1 false st1 w1 rfl
  | exc c vs L1 => rw [r1] at q; exact q
  | bad => rw [r1] at q; exact q.elim
theorem tts_or {σ : L2.St} {H : Hp} {Q : Bool → Hp → Prop} (h : tTs B (.or ca cb) σ H Q) : tOr (tTs B ca) (tTs B cb) σ H Q := by
  obtain ⟨F, I, L, env, fr, q⟩ := h
  refine ⟨F, I, L, env, fr, ?_⟩
  unfold ev at q
  show B.post σ F I H rB ((ev B.G ca env L).bind fun x L => opt (truth x) L) _
  dsimp only at q
  cases r1 : ev B.G ca env L with
  | ok x L1 =>
    rw [r1] at q
    simp only [R.bind] at q ⊢
    cases r2 : truth x with
    | none => rw [r2] at q; exact q.elim
    | some k =>
      rw [r2] at q
      intro F1 I1 H1 k' st1 w1 e1
      obtain rfl : k' = k := e1
      cases k' with
      | false => exact ⟨F1, I1, L1, env, fr.step st1 w1, Post.from q st1⟩
      | true =>
        have q2 : B.post σ F I H rB (opt (truth x) L1) Q := q
        rw [r2] at q2
        exact q2 F1 I1 H1 true st1 w1 rfl
  | exc c vs L1 => rw [r1] at q; exact q
  | bad => rw [r1] at q; exact q.elim
theorem w_and {rest : List Expr} (ha : PT X a (tTs B ca)) (hb : PW X (.BoolOp .And (b :: rest) p) (tTs B cb)) : PW X (.BoolOp .And (a :: b :: rest) p) (tTs B (.and ca cb)) := PWimp (pw_and ha hb) fun _ _ _ h => tts_and h
theorem w_or {rest : List Expr} (ha : PT X a (tTs B ca)) (hb : PW X (.BoolOp .Or (b :: rest) p) (tTs B cb)) : PW X (.BoolOp .Or (a :: b :: rest) p) (tTs B (.or ca cb)) := PWimp (pw_or ha hb) fun _ _ _ h => tts_or h
/-! ### a if c else b -/
theorem s_ite (S : Sx B X n) (hc : PT X c (tTs B cc)) (ha : PE X a (tEv B ca)) (hb : PE X b (tEv B cb)) : PE X (.IfExp c a b p) (tEv B (.ite cc ca cb)) :=
  PEimp (pe_ifExp hc ha hb) fun σ H Q ⟨F, I, L, env, fr, q⟩ => ⟨F, I, L, env, fr, by
    unfold ev at q
    show B.post σ F I H rB ((ev B.G cc env L).bind fun x L => opt (truth x) L) _
    cases r1 : ev B.G cc env L with
    | ok x L1 =>
      rw [r1] at q
      simp only [R.bind] at q ⊢
      cases r2 : truth x with
      | none => rw [r2] at q; exact q.elim
      | some k =>
        rw [r2] at q
        intro F1 I1 H1 k' st1 w1 e1
        obtain rfl : k' = k := e1
        cases k' with
        | true => exact ⟨F1, I1, L1, env, fr.step st1 w1, Post.from q st1⟩
        | false => exact ⟨F1, I1, L1, env, fr.step st1 w1, Post.from q st1⟩
    | exc c vs L1 => rw [r1] at q; exact q
    | bad => rw [r1] at q; exact q.elim⟩
/-! ### a < b < c -/
theorem s_chain (S : Sx B X n) {o o' : Cm} (ha : PE X a (tEvO B oa)) (hb : PE X b (tEvO B ob)) (hc : PE X c (tEvO B oc)) (hm : lastMarks [o.ast, o'.ast] [b, c] = false) : PE X (.Compare a [o.ast, o'.ast] [b, c] p) (tEv B (.chain o o' oa ob oc)) :=
  PEimp (pe_chain (cmp_data S.K S.w (by have := S.un; omega) o) (cmp_data S.K S.w (by have := S.un; omega) o') ha hb hc hm) fun σ H Q ⟨F, I, L, env, fr, h⟩ => ⟨F, I, L, env, fr, h.seq fun x L1 F1 I1 H1 vx st1 w1 rx h1 =>
    ⟨F1, I1, L1, env, fr.step st1 w1, h1.seq fun y L2 F2 I2 H2 vy st2 w2 ry h2 => by
      cases e1 : cmpD o x y with
      | none => rw [e1] at h2; exact h2.elim
      | some k =>
        rw [e1] at h2
        refine ⟨F2, I2, x, y, k, .inl (rx.step st2 w1), .inl ry, e1, k, rfl, ?_⟩
        cases k with
        | false => exact h2 F2 I2 H2 _ Step.refl w2 (.bl false)
        | true =>
          refine ⟨F2, I2, L2, env, (fr.step st1 w1).step st2 w2, Post.seq (RA := rO B) h2 fun z L3 F3 I3 H3 vz st3 w3 rz h3 => ?_⟩
          obtain ⟨d, e, q⟩ := h3.opt
          obtain ⟨k2, e2, e3⟩ := Option.map_eq_some_iff.mp e
          subst e3
          exact ⟨F3, I3, y, z, k2, .inl (ry.step st3 w2), .inl rz, e2, q F3 I3 H3 _ Step.refl w3 (.bl k2)⟩⟩⟩
/-! ### items, slices -/
theorem s_ix (S : Sx B X n) (ha : PE X a (tEvO B oa)) (hb : PE X b (tEv B cb)) (hs : PlainIx b) : PE X (.Subscript a b p) (tEv B (.ix oa cb)) :=
  PEimp (pe_ix (ix_data (ro := B.G.ro) S.K S.w (by have := S.un; omega)) ha hb hs) fun σ H Q ⟨F, I, L, env, fr, h⟩ => ⟨F, I, L, env, fr, h.seq fun x L1 F1 I1 H1 vx st1 w1 rx h1 =>
    ⟨F1, I1, L1, env, fr.step st1 w1, h1.seq fun y L2 F2 I2 H2 vy st2 w2 ry h2 => by
      obtain ⟨d, e, q⟩ := h2.opt
      exact ⟨F2, I2, L2, _, y, d, w2, seen_rep w2 (rx.step st2 w1), .inl (.inl ry), e, q⟩⟩⟩
end
/-- a part of a slice -/
structure POw (B : Bd) (X : Cx) (e : Option Expr) (c : CEo) : Prop where
  po : PO X e (tR B (fun F I H (x : Option Int) y => y = x) (evP B.G c))
section
variable {B : Bd} {X : Cx} {n : Nat} {e a b c : Expr} {es : List Expr} {p p2 : Pos} {ca cb cc : CE} {oa ob oc : CO} {cs : CEs} {os : COs}
theorem POimp {e : Option Expr} {t t' : TO} (h : PO X e t) (k : ∀ σ H Q, t' σ H Q → t σ H Q) : PO X e t' := ⟨fun pins s σ H Q I q => h.run pins s σ H Q I (k _ _ _ q)⟩
theorem p_none : POw B X none .none := ⟨POimp po_none fun σ H Q ⟨F, I, L, env, fr, h⟩ => now fr h rfl⟩
theorem p_some (h : PE X e (tEv B ca)) : POw B X (some e) (.some ca) := ⟨POimp (po_some h) fun σ H Q ⟨F, I, L, env, fr, q⟩ => ⟨F, I, L, env, fr, q.seq fun x L1 F1 I1 H1 v st1 w1 r1 h1 => by
  cases x with
  | int i =>
    cases r1
    exact ⟨i, rfl, h1 F1 I1 H1 _ Step.refl w1 rfl⟩
  | _ => exact h1.elim⟩⟩
theorem s_sl (S : Sx B X n) {lo hi : Option Expr} {cl ch : CEo} (ha : PE X a (tEvO B oa)) (hl : POw B X lo cl) (hh : POw B X hi ch) : PE X (.Subscript a (.Slice lo hi none p2) p) (tEv B (.sl oa cl ch)) :=
  PEimp (pe_slice (sl_data (ro := B.G.ro) S.K) ha hl.po hh.po) fun σ H Q ⟨F, I, L, env, fr, h⟩ => ⟨F, I, L, env, fr, h.seq fun x L1 F1 I1 H1 vx st1 w1 rx h1 =>
    ⟨F1, I1, L1, env, fr.step st1 w1, h1.seq fun y L2 F2 I2 H2 vy st2 w2 (ry : vy = y) h2 => by
      subst ry
      exact ⟨F2, I2, L2, env, (fr.step st1 w1).step st2 w2, h2.seq fun z L3 F3 I3 H3 vz st3 w3 (rz : vz = z) h3 => by
        subst rz
        obtain ⟨d, e, q⟩ := h3.opt
        exact ⟨F3, I3, L3, _, d, w3, .inl ((rx.step st2 w1).step st3 w2), e, q⟩⟩⟩⟩
/-! ### lists of arguments -/
theorem starE {es : List Expr} {env : PySem.Env} (h : ∀ v q, e ≠ .Starred v q) : starEach (e :: es) env = (false, eval e env) :: starEach es env := by
  cases e <;> first | rfl | exact absurd rfl (h _ _)
theorem a_nil : PA X [] (tEvs B .nil) := PAimp pa_nil fun σ H Q ⟨F, I, L, env, fr, h⟩ => now fr h .nil
theorem a_cons (h : PE X e (tEv B ca)) (hr : PA X es (tEvs B cs)) (hs : ∀ v q, e ≠ .Starred v q) : PA X (e :: es) (tEvs B (.cons ca cs)) :=
  PAimp (pa_cons h hr (starE hs)) fun σ H Q ⟨F, I, L, env, fr, q⟩ => ⟨F, I, L, env, fr, q.seq fun x L1 F1 I1 H1 vx st1 w1 rx h1 =>
    ⟨F1, I1, L1, env, fr.step st1 w1, h1.seq fun xs L2 F2 I2 H2 vs st2 w2 rs h2 => h2 F2 I2 H2 _ Step.refl w2 (.cons (rx.keeps (st2.keeps0 w1)) rs)⟩⟩
theorem o_nil : PA X [] (tEvOs B .nil) := PAimp pa_nil fun σ H Q ⟨F, I, L, env, fr, h⟩ => now fr h .nil
theorem o_consE (h : PE X e (tEv B ca)) (hr : PA X es (tEvOs B os)) (hs : ∀ v q, e ≠ .Starred v q) : PA X (e :: es) (tEvOs B (.cons (.e ca) os)) :=
  PAimp (pa_cons h hr (starE hs)) fun σ H Q ⟨F, I, L, env, fr, q⟩ => ⟨F, I, L, env, fr, q.seq fun x L1 F1 I1 H1 vx st1 w1 rx h1 =>
    ⟨F1, I1, L1, env, fr.step st1 w1, h1.seq fun xs L2 F2 I2 H2 vs st2 w2 rs h2 => h2 F2 I2 H2 _ Step.refl w2 (.e (rx.keeps (st2.keeps0 w1)) rs)⟩⟩
theorem o_consP {i : Nat} (h : PE X e (tEvO B (.pk i))) (hr : PA X es (tEvOs B os)) (hs : ∀ v q, e ≠ .Starred v q) : PA X (e :: es) (tEvOs B (.cons (.pk i) os)) :=
  PAimp (pa_cons h hr (starE hs)) fun σ H Q ⟨F, I, L, env, fr, q⟩ => ⟨F, I, L, env, fr, q.seq fun x L1 F1 I1 H1 vx st1 w1 rx h1 =>
    ⟨F1, I1, L1, env, fr.step st1 w1, h1.seq fun xs L2 F2 I2 H2 vs st2 w2 rs h2 => h2 F2 I2 H2 _ Step.refl w2 (.pk (rx.step st2 w1) rs)⟩⟩
theorem s_tup (S : Sx B X n) {k : Nat} (h : PA X es (tEvs B cs)) : PE X (.Tuple es k p) (tEv B (.tup cs)) :=
  PEimp (pe_tup h) fun σ H Q ⟨F, I, L, env, fr, q⟩ => ⟨F, I, L, env, fr, q.seq fun xs L1 F1 I1 H1 vs st1 w1 rs h1 => by
    unfold sized at h1
    split at h1
    · rename_i hl
      refine ⟨by rw [← rs.length]; exact hl, fun q hq => ?_⟩
      exact h1 F1 I1 _ _ (Step.laid hq) (w1.laid hq) (.tup (SqT.of upd_same) (rs.keeps ((Step.laid (ro := true) hq).keeps0 w1)))
    · exact h1.elim⟩
/-! ### fields -/
structure ClsAt (T : View) (c : Nat) : Prop where
  cls : Cls T.K (T.adr c)
  no : ∀ f ∈ T.flds c, NoAttr T.K (T.adr c) f
  nd : (T.flds c).Nodup
  few : (T.flds c).length < 1000
theorem lookup_at {fs : List (Str × V)} {names : List Str} {i : Nat} {x : Str} {v : V} (nd : names.Nodup) (h : fs.map (·.1) = names.take fs.length) (hx : names[i]? = some x) (hv : (fs.map (·.2))[i]? = some v) : fs.lookup x = some v := by
  induction fs generalizing names i with
  | nil => simp at hv
  | cons q fs ih =>
    cases names with
    | nil => simp at hx
    | cons y names =>
      simp only [List.map_cons, List.length_cons, List.take_succ_cons, List.cons.injEq] at h
      obtain ⟨h1, h2⟩ := h
      have nd' := List.nodup_cons.mp nd
      obtain ⟨q1, q2⟩ := q
      simp only at h1
      subst h1
      cases i with
      | zero =>
        simp at hx hv
        subst hx hv
        simp
      | succ i =>
        simp at hx hv
        have ne : x ≠ q1 := by
          rintro rfl
          exact nd'.1 (List.mem_of_getElem? hx)
        rw [List.lookup_cons, show (x == q1) = false from beq_eq_false_iff_ne.mpr ne]
        exact ih nd'.2 h2 hx (by simpa using hv)
theorem abase {o : Expr} {f : Str} {env : PySem.Env} (h : ∀ x q q', o ≠ .Call (.Name x q) [] [] q') : attributeBase o f env (eval o env) = eval o env := by
  unfold attributeBase
  split
  · exact absurd rfl (h _ _ _)
  · rfl
theorem s_fld (S : Sx B X n) {cl f : Nat} {x : Str} (hc : ClsAt B.T cl) (hf : (B.T.flds cl)[f]? = some x) (ho : PE X a (tEvO B oa)) (hb : ∀ x q q', a ≠ .Call (.Name x q) [] [] q') : PE X (.Attribute a x p) (tEv B (.fld oa cl f)) :=
  PEimp (pe_fld ho (abase hb)) fun σ H Q ⟨F, I, L, env, fr, q⟩ => ⟨F, I, L, env, fr, q.seq fun d L1 F1 I1 H1 v st1 w1 r1 h1 => by
    obtain ⟨z, e, q⟩ := h1.opt
    have key : ∀ (pp dx : Addr) (fs : List (Str × V)) (vs : List D), v = .ref pp → H1 pp = some (.ins (B.T.adr cl) dx fs) → fs.map (·.1) = (B.T.flds cl).take vs.length → Reps B.T F1 I1 H1 vs (fs.map (·.2)) → vs[f]? = some z →
        ∃ a C dx fs v', v = .ref a ∧ H1 a = some (.ins C dx fs) ∧ Cls X.K C ∧ NoAttr X.K C x ∧ fs.lookup x = some v' ∧ Q v' H1 := fun pp dx fs vs e1 e2 e3 e4 e5 => by
      obtain ⟨v', e6, r6⟩ := e4.get e5
      refine ⟨pp, _, dx, fs, v', e1, e2, by rw [S.K]; exact hc.cls, by rw [S.K]; exact hc.no x (List.mem_of_getElem? hf), lookup_at hc.nd ?_ hf e6, q F1 I1 H1 v' Step.refl w1 r6⟩
      rw [e3, e4.length, List.length_map]
    unfold fldD at e
    split at e
    · split at e
      · rename_i hcc
        subst hcc
        obtain ⟨pp, dx, fs, e1, e2, e3, e4⟩ := RepV.ins (.inl r1)
        exact key pp dx fs _ e1 e2 e3 e4 e
      · cases e
    · rename_i i
      have r' : Rep B.T F1 I1 H1 (.ref i) v := RepV.rep (.inl r1) rfl
      split at e
      · rename_i c' vs hL
        split at e
        · rename_i hcc
          subst hcc
          cases r' with
          | ref hi =>
            obtain ⟨dx, fs, e2, e3, e4⟩ := w1.at_ i _ _ hi hL
            exact key _ dx fs vs rfl e2 e3 e4 e
        · cases e
      · cases e
    · cases e⟩
end
end Wa

set_option Elab.async false
set_option linter.all false
set_option maxRecDepth 100000
set_option maxHeartbeats 4000000
/-! WaFn: calls of defs, methods, classes. -/
namespace Wa
open PySem PySem.Spec PyProof.Rows L2

/-- a def's promise -/
def spF (T : View) (call : Bool → Nat → List D → List Cell → R D) (f m : Nat) : Sp := fun vs H Q E =>
  vs.length = m ∧ ∃ ro F I L ds, Wf T F I H L ∧ Reps T F I H ds vs ∧ Post ro T (fun c d H => E c d H) F I H (fun F I H d v => Rep T F I H d v) (call ro f ds L) Q
/-- an __init__'s promise: the fields of a new instance -/
def spI (T : View) (init : Bool → Nat → List D → List Cell → R (List D)) (c m : Nat) : Sp := fun vs H Q E =>
  vs.length = m ∧ ∃ ro F I L ds x dx rest, vs = .ref x :: rest ∧ H x = some (.ins (T.adr c) dx []) ∧ ¬ F x ∧ x ∉ I ∧ Wf T F I H L ∧ Reps T F I H ds rest ∧
    match init ro c ds L with
    | .ok fs L' => ∀ F' I' H' dx' fs', Step ro (fun q => q = x) F I H F' I' H' → Wf T F' I' H' L' → ¬ F' x → x ∉ I' → H' x = some (.ins (T.adr c) dx' fs') → fs'.map (·.1) = (T.flds c).take fs.length → Reps T F' I' H' fs (fs'.map (·.2)) → Q .non H'
    | .exc k vs L' => ∀ F' I' H' cls d, Step ro (fun q => q = x) F I H F' I' H' → Wf T F' I' H' L' → XRep T F' I' H' k vs cls d → E cls d H'
    | .bad => False
/-- a function of the text as the caller sees it: j arguments may be given -/
structure FnIs (B : Bd) (X : Cx) (n : Nat) (f : Nat) (fa : Addr) (j : Nat) : Prop where
  keep : PySem.W.keepIn X.K (.ref fa) = true
  ok : ∃ fd ps dvs ds tail, FnOk X.prog X.w X.K X.mg X.base (L2.CX X.prog X.w) n fa fd ps (spF B.T B.G.call f ps.length) ∧ Binds X.K fd ps ds ∧ Vals dvs ds ∧ j + dvs.length = ps.length ∧
    (∀ F I H, Reps B.T F I H tail dvs) ∧ ∀ ro xs L, xs.length = j → B.G.call ro f xs L = B.G.call ro f (xs ++ tail) L
theorem RepQ.length {T : View} {F : Addr → Prop} {I : List Addr} {H : Hp} {os : COs} {ds : List D} {vs : List V} (h : RepQ T F I H os ds vs) : ds.length = vs.length := by
  induction h with
  | nil => rfl
  | e _ _ ih => simp [ih]
  | pk _ _ ih => simp [ih]
theorem RepQ.reps {T : View} {F : Addr → Prop} {I : List Addr} {H : Hp} {os : COs} {ds : List D} {vs : List V} (h : RepQ T F I H os ds vs) (n : anyPk os = false) : Reps T F I H ds vs := by
  induction h with
  | nil => exact .nil
  | e a _ ih => exact .cons a (ih n)
  | pk _ _ _ => cases n
mutual
theorem Rep.flat {T : View} {F F' : Addr → Prop} {I : List Addr} {H : Hp} : ∀ {d : D} {v : V}, d.flat = true → Rep T F I H d v → Rep T F' I H d v
  | .non, _, _, h => by cases h; exact .non
  | .bl b, _, _, h => by cases h; exact .bl b
  | .int i, _, _, h => by cases h; exact .int i
  | .str s, _, _, h => by cases h with | str _ f => exact .str s f
  | .tup ds, _, k, h => by cases h with | tup a r => exact .tup a (Reps.flat k r)
  | .ref i, _, _, h => by cases h with | ref a => exact .ref a
  | .lst _, _, k, _ => by cases k
  | .dct _ _, _, k, _ => by cases k
  | .ins _ _, _, k, _ => by cases k
theorem Reps.flat {T : View} {F F' : Addr → Prop} {I : List Addr} {H : Hp} : ∀ {ds : List D} {vs : List V}, flats ds = true → Reps T F I H ds vs → Reps T F' I H ds vs
  | [], _, _, h => by cases h; exact .nil
  | d :: ds, _, k, h => by
    simp only [flats, Bool.and_eq_true] at k
    cases h with | cons a r => exact .cons (Rep.flat k.1 a) (Reps.flat k.2 r)
end
theorem Keeps.grow {F F' : Addr → Prop} {I : List Addr} {H : Hp} (h : ∀ p, F p → F' p) : Keeps F I H F' I H := ⟨fun _ _ e _ => e, h, [], by simp⟩
/-- what is lent is frozen for the time of the call -/
theorem RepQ.lend {T : View} {F : Addr → Prop} {I : List Addr} {H : Hp} {os : COs} {ds : List D} {vs : List V} (h : RepQ T F I H os ds vs) : ∃ bs : List Addr, (∀ b ∈ bs, ¬ F b ∧ b ∉ I ∧ ∃ u, H b = some u) ∧ Reps T (fun p => F p ∨ p ∈ bs) I H ds vs := by
  induction h with
  | nil => exact ⟨[], by simp, .nil⟩
  | e a _ ih =>
    obtain ⟨bs, h1, h2⟩ := ih
    exact ⟨bs, h1, .cons (a.keeps (Keeps.grow fun _ z => .inl z)) h2⟩
  | @pk i es d v ds vs a _ ih =>
    obtain ⟨bs, h1, h2⟩ := ih
    rcases a with a | ⟨M, ex, s, o, e, r⟩
    · exact ⟨bs, h1, .cons (a.keeps (Keeps.grow fun _ z => .inl z)) h2⟩
    · have g1 : ∀ b, Keeps F I H (fun p => F p ∨ p ∈ b :: bs) I H := fun b => Keeps.grow fun _ z => .inl z
      have g2 : ∀ b, Keeps (fun p => F p ∨ p ∈ bs) I H (fun p => F p ∨ p ∈ b :: bs) I H := fun b => Keeps.grow fun _ z => z.imp id (List.mem_cons_of_mem b)
      have hin : ∀ b, F b ∨ b ∈ b :: bs := fun b => .inr List.mem_cons_self
      cases s with
      | val d => cases o
      | olst xs =>
        subst e
        obtain ⟨b, ys, rfl, ow, h3, h4⟩ := r
        refine ⟨b :: bs, fun c hc => ?_, .cons (.lst (hin b) (.inl h3) (h4.keeps (g1 b))) (h2.keeps (g2 b))⟩
        rcases List.mem_cons.mp hc with rfl | hc
        · exact ⟨ow.nf, ow.ni, _, h3⟩
        · exact h1 c hc
      | odct ks ws =>
        subst e
        obtain ⟨b, rfl, ow, h3⟩ := r
        refine ⟨b :: bs, fun c hc => ?_, .cons (.of_dct (hin b) (h3.keeps (g1 b) fun _ z => z)) (h2.keeps (g2 b))⟩
        rcases List.mem_cons.mp hc with rfl | hc
        · obtain ⟨u, hu, _⟩ := h3.some
          exact ⟨ow.nf, ow.ni, u, hu⟩
        · exact h1 c hc
      | oins k ws =>
        subst e
        obtain ⟨b, dx, fs, rfl, ow, h3, h4, h5⟩ := r
        refine ⟨b :: bs, fun c hc => ?_, .cons (.ins (hin b) h3 h4 (h5.keeps (g1 b))) (h2.keeps (g2 b))⟩
        rcases List.mem_cons.mp hc with rfl | hc
        · exact ⟨ow.nf, ow.ni, _, h3⟩
        · exact h1 c hc
section
variable {B : Bd} {X : Cx} {n : Nat} {e a b c : Expr} {es : List Expr} {p p2 apos : Pos} {ca cb cc : CE} {oa ob oc : CO} {cs : CEs} {os : COs}
theorem noStar {es : List Expr} {env : PySem.Env} {pos : Pos} (h : ∀ e ∈ es, ∀ v q, e ≠ .Starred v q) : (backTo pos (starEach es env)).any (·.1) = false := by
  induction es with
  | nil => rfl
  | cons e es ih =>
    rw [starE (h e List.mem_cons_self)]
    have q := ih fun e m => h e (List.mem_cons_of_mem _ m)
    have : (backTo pos ((false, eval e env) :: starEach es env)).any (·.1) = (backTo pos (starEach es env)).any (·.1) := by
      simp [backTo]
    rw [this]
    exact q
/-- what a call of f makes of values -/
theorem call_run (S : Sx B X n) {f j : Nat} {fa : Addr} (fi : FnIs B X n f fa j) {ro : Bool} {pins : List (Addr × Obj)} {σ : L2.St} {H : Hp} {s : Shared} {us : List Value} {vs : List V} {F : Addr → Prop} {I : List Addr} {L : List Cell} {ds : List D} {Q : VK}
    (J : Inv X pins σ H s) (r : Vals vs us) (w : Wf B.T F I H L) (rs : Reps B.T F I H ds vs) (hj : ds.length = j) (h : Post ro B.T (fun c d H => B.W c d σ H) F I H (rE B) (B.G.call ro f ds L) Q) :
    wpAny (model X.prog X.w) X.A (call (.ref fa) us) (EP X pins σ Q) X.xe s := by
  obtain ⟨fd, ps, dvs, dV, tail, ok, bd, dv, hl, tr, he⟩ := fi.ok
  refine run_fnSD (E := WE B.W) ok S.room bd dv (passAt S.tk σ) J r ⟨?_, ro, F, I, L, ds ++ tail, w, rs.append (tr F I H), ?_⟩
  · rw [List.length_append, ← rs.length, hj]
    exact hl
  · rw [← he ro ds L hj]
    exact h
theorem s_call (S : Sx B X n) {f j : Nat} {fa : Addr} {x : Str} (fi : FnIs B X n f fa j) (hg : Gl X x) (hm : X.mg x = some (.ref fa)) (hd : (x == ("__debug__" : Str)) = false)
    (ha : PA X (e :: es) (tEvs B cs)) (hs : ∀ y ∈ e :: es, ∀ v q, y ≠ .Starred v q) (hl : ∀ env L ds L', evs B.G cs env L = .ok ds L' → ds.length = j) : PE X (.Call (.Name x p2) (e :: es) [] p) (tEv B (.call f cs)) := by
  refine ⟨fun pins s σ H Q J h => ?_⟩
  obtain ⟨F, I, L, env, fr, q⟩ := h
  refine wpAny_Call_Name_kw (ld_glob J hg hm ?_ hd)
  refine PySem.W.callWith_K (h₀ := X.base) J.ok.mod.kin fi.keep (thn (ha.run p pins s σ H (fun vs H1 => ∃ ds F1 I1 L1, Wf B.T F1 I1 H1 L1 ∧ Reps B.T F1 I1 H1 ds vs ∧ ds.length = j ∧ Post B.G.ro B.T (fun c d H => B.W c d σ H) F1 I1 H1 (rE B) (B.G.call B.G.ro f ds L1) Q) J ⟨F, I, L, env, fr, ?_⟩) fun us s1 ⟨vs, H1, I1, r, ds, F2, I2, L2, w2, rs, hj, q2⟩ => ⟨I1.kIn, ?_⟩)
    (starE (hs e List.mem_cons_self)) (noStar fun y m => hs y (List.mem_cons_of_mem _ m))
  · cases r1 : evs B.G cs env L with
    | ok ds L1 =>
      have q' : B.post σ F I H (rE B) ((evs B.G cs env L).bind fun xs L => B.G.call B.G.ro f xs L) Q := q
      rw [r1] at q'
      exact fun F1 I1 H1 vs st1 w1 rs => ⟨ds, F1, I1, L1, w1, rs, hl _ _ _ _ r1, Post.from q' st1⟩
    | exc c vs L1 =>
      have q' : B.post σ F I H (rE B) ((evs B.G cs env L).bind fun xs L => B.G.call B.G.ro f xs L) Q := q
      rw [r1] at q'
      exact q'
    | bad =>
      have q' : B.post σ F I H (rE B) ((evs B.G cs env L).bind fun xs L => B.G.call B.G.ro f xs L) Q := q
      rw [r1] at q'
      exact q'
  · exact call_run S fi I1 r w2 rs hj q2
theorem s_call0 (S : Sx B X n) {f : Nat} {fa : Addr} {x : Str} (fi : FnIs B X n f fa 0) (hg : Gl X x) (hm : X.mg x = some (.ref fa)) (hd : (x == ("__debug__" : Str)) = false) : PE X (.Call (.Name x p2) [] [] p) (tEv B (.call f .nil)) := by
  refine ⟨fun pins s σ H Q J h => ?_⟩
  obtain ⟨F, I, L, env, fr, q⟩ := h
  refine wpAny_Call_Name_kw (ld_glob J hg hm ?_ hd)
  exact PySem.W.callWith_K0 J.kIn fi.keep (call_run (us := []) (vs := []) (ds := []) S fi J .nil fr.wf .nil rfl q)
/-- the way into a call that changes nothing, and back -/
theorem lent_post {σ : L2.St} {F : Addr → Prop} {I : List Addr} {H : Hp} {L : List Cell} {os : COs} {ds : List D} {vs : List V} {r : R D} {Q : VK} (w : Wf B.T F I H L) (h : RepQ B.T F I H os ds vs) (q : B.post σ F I H (rE B) (lent (anyPk os) r L) Q) :
    ∃ F1, Wf B.T F1 I H L ∧ Reps B.T F1 I H ds vs ∧ Post true B.T (fun c d H => B.W c d σ H) F1 I H (rE B) r Q := by
  cases e : anyPk os with
  | false =>
    rw [e] at q
    refine ⟨F, w, h.reps e, ?_⟩
    cases r with
    | ok d L' =>
      intro F' I' H' v st wf rep
      have hI : I' = I := (st.rok rfl).2
      subst hI
      refine q F' I' H' v st.free ⟨wf.fr, wf.ap, wf.nd, w.len, fun i a c e1 e2 => (w.at_ i a c e1 e2).keeps (st.keeps0 w) fun u e => (st.rok rfl).1 a u e id⟩ rep
    | exc c vs L' =>
      intro F' I' H' cls d st wf rep
      have hI : I' = I := (st.rok rfl).2
      subst hI
      exact q F' I' H' cls d st.free ⟨wf.fr, wf.ap, wf.nd, w.len, fun i a c e1 e2 => (w.at_ i a c e1 e2).keeps (st.keeps0 w) fun u e => (st.rok rfl).1 a u e id⟩ rep
    | bad => exact q
  | true =>
    rw [e] at q
    obtain ⟨bs, hb, rs⟩ := h.lend
    refine ⟨fun p => F p ∨ p ∈ bs, ⟨fun p f => ?_, fun p m f => ?_, w.nd, w.len, fun i a c e1 e2 => (w.at_ i a c e1 e2).keeps (Keeps.grow fun _ z => .inl z) fun _ z => z⟩, rs, ?_⟩
    · rcases f with f | f
      · exact w.fr p f
      · exact (hb p f).2.2
    · rcases f with f | f
      · exact w.ap p m f
      · exact (hb p f).2.1 m
    · cases r with
      | ok d L' =>
        unfold lent at q
        simp only [Bool.true_and] at q
        cases fd : d.flat with
        | false => rw [fd] at q; exact q.elim
        | true =>
          rw [fd] at q
          intro F' I' H' v st wf rep
          have hI : I' = I := (st.rok rfl).2
          subst hI
          have st' : Step B.G.ro noEx F I' H (fun p => F' p ∧ p ∉ bs) I' H' := by
            refine ⟨fun p u h i x => st.keep p u h i x, st.there, st.still, fun p f => ⟨st.more p (.inl f), fun m => (hb p m).1 f⟩, fun p f => ?_, st.pre, fun _ => st.rok rfl⟩
            rcases st.new0 p f.1 with (z | z) | z
            · exact .inl z
            · exact absurd z f.2
            · exact .inr (.inl z)
          refine q _ I' H' v st' ⟨fun p f => wf.fr p f.1, fun p m f => wf.ap p m f.1, wf.nd, w.len, fun i a c e1 e2 => (w.at_ i a c e1 e2).keeps (st'.keeps0 w) fun u e => (st.rok rfl).1 a u e id⟩ (rep.flat fd)
      | exc c vs L' => exact q.elim
      | bad => exact q
theorem s_callP (S : Sx B X n) {f j : Nat} {fa : Addr} {x : Str} (fi : FnIs B X n f fa j) (hg : Gl X x) (hm : X.mg x = some (.ref fa)) (hd : (x == ("__debug__" : Str)) = false)
    (ha : PA X (e :: es) (tEvOs B os)) (hs : ∀ y ∈ e :: es, ∀ v q, y ≠ .Starred v q) (hl : ∀ env L ds L', evOs B.G os env L = .ok ds L' → ds.length = j) : PE X (.Call (.Name x p2) (e :: es) [] p) (tEv B (.callP f os)) := by
  refine ⟨fun pins s σ H Q J h => ?_⟩
  obtain ⟨F, I, L, env, fr, q⟩ := h
  refine wpAny_Call_Name_kw (ld_glob J hg hm ?_ hd)
  refine PySem.W.callWith_K (h₀ := X.base) J.ok.mod.kin fi.keep (thn (ha.run p pins s σ H (fun vs H1 => ∃ ds F1 I1 L1, Wf B.T F1 I1 H1 L1 ∧ Reps B.T F1 I1 H1 ds vs ∧ ds.length = j ∧ Post true B.T (fun c d H => B.W c d σ H) F1 I1 H1 (rE B) (B.G.call true f ds L1) Q) J ⟨F, I, L, env, fr, ?_⟩) fun us s1 ⟨vs, H1, I1, r, ds, F2, I2, L2, w2, rs, hj, q2⟩ => ⟨I1.kIn, ?_⟩)
    (starE (hs e List.mem_cons_self)) (noStar fun y m => hs y (List.mem_cons_of_mem _ m))
  · have q' : B.post σ F I H (rE B) ((evOs B.G os env L).bind fun xs L => lent (anyPk os) (B.G.call true f xs L) L) Q := q
    cases r1 : evOs B.G os env L with
    | ok ds L1 =>
      rw [r1] at q'
      intro F1 I1 H1 vs st1 w1 rs
      obtain ⟨F2, w2, rs2, q2⟩ := lent_post w1 rs (Post.from q' st1)
      exact ⟨ds, F2, I1, L1, w2, rs2, hl _ _ _ _ r1, q2⟩
    | exc c vs L1 =>
      rw [r1] at q'
      exact q'
    | bad =>
      rw [r1] at q'
      exact q'
  · exact call_run S fi I1 r w2 rs hj q2
/-! ### methods -/
/-- a method of a class -/
structure MethIs (B : Bd) (X : Cx) (n : Nat) (cl f : Nat) (m : Str) (fa : Addr) (j : Nat) : Prop where
  fn : FnIs B X n f fa j
  cls : ClsAt B.T cl
  at_ : Meth X.K (B.T.adr cl) m fa
  no : m ∉ B.T.flds cl
theorem is_cls {F : Addr → Prop} {I : List Addr} {H : Hp} {L : List Cell} {d : D} {v : V} {cl : Nat} (w : Wf B.T F I H L) (r : Rep B.T F I H d v) (h : isCls cl d L = true) : ∃ p dx fs k, v = .ref p ∧ H p = some (.ins (B.T.adr cl) dx fs) ∧ fs.map (·.1) = (B.T.flds cl).take k := by
  unfold isCls at h
  split at h
  · have h := beq_iff_eq.mp h
    subst h
    cases r with | ins f h1 h2 h3 => exact ⟨_, _, _, _, rfl, h1, h2⟩
  · split at h
    · rename_i hL
      have h := beq_iff_eq.mp h
      subst h
      cases r with
      | ref hi =>
        obtain ⟨dx, fs, e2, e3, e4⟩ := w.at_ _ _ _ hi hL
        exact ⟨_, dx, fs, _, rfl, e2, e3⟩
    · cases h
  · cases h
theorem lookup_no {fs : List (Str × V)} {names : List Str} {k : Nat} {m : Str} (h : fs.map (·.1) = names.take k) (n : m ∉ names) : fs.lookup m = none := by
  have n' : m ∉ fs.map (·.1) := fun z => n (List.mem_of_mem_take (by rw [← h]; exact z))
  clear h n
  induction fs with
  | nil => rfl
  | cons q fs ih =>
    simp only [List.map_cons, List.mem_cons, not_or] at n'
    rw [List.lookup_cons, show (m == q.1) = false from beq_eq_false_iff_ne.mpr n'.1]
    exact ih n'.2
/-- the forms that a method's call has -/
def MCall (a : Expr) (m : Str) (apos p : Pos) (es : List Expr) (env : PySem.Env) : Prop :=
  ∃ pl : Sem Bool, eval (.Call (.Attribute a m apos) es [] p) env = (do
      let ov ← eval a env
      standAt apos.atName
      let (f, first) ← holding [ov] (getMethod ov m pl)
      callWith p f first (backTo p (starEach es env)) (backToKw p (keywordEach [] env)))
theorem meth_go (S : Sx B X n) {cl f j : Nat} {m : Str} {fa : Addr} (M : MethIs B X n cl f m fa j) {ro : Bool} {pins : List (Addr × Obj)} {σ : L2.St} {H : Hp} {s : Shared} {Q : VK}
    (hm : MCall a m apos p (e :: es) X.env) (hs : ∀ y ∈ e :: es, ∀ v q, y ≠ .Starred v q) {ta : TE} {ta2 : TA} (ha : PE X a ta) (hes : PA X (e :: es) ta2) (J : Inv X pins σ H s)
    (h : ta σ H fun x H1 => (∃ p dx fs k, x = .ref p ∧ H1 p = some (.ins (B.T.adr cl) dx fs) ∧ fs.map (·.1) = (B.T.flds cl).take k) ∧ ta2 σ H1 fun vs H2 => ∃ ds F2 I2 L2, Wf B.T F2 I2 H2 L2 ∧ Reps B.T F2 I2 H2 ds (x :: vs) ∧ ds.length = j ∧ Post ro B.T (fun c d H => B.W c d σ H) F2 I2 H2 (rE B) (B.G.call ro f ds L2) Q) :
    wpAny (model X.prog X.w) X.A (eval (.Call (.Attribute a m apos) (e :: es) [] p) X.env) (EP X pins σ Q) X.xe s := by
  obtain ⟨pl, ht⟩ := hm
  refine PySem.W.methodCall_KW (pl := pl) (thn (ha.run pins s σ H _ J h) fun u s1 ⟨x, H1, J1, rx, ⟨q, dx, fs, k, ex, eq, en⟩, z⟩ => ?_) ht
  subst ex
  obtain rfl : u = Value.ref q := rx
  refine getmeth_ok J1 eq (by rw [S.K]; exact M.cls.cls) M.at_ (lookup_no en M.no) ?_
  refine PySem.W.callWith_K (first := [.ref q]) (h₀ := X.base) J.ok.mod.kin M.fn.keep (thn (hes.run p pins s1 σ H1 _ J1 z) fun us s2 ⟨vs, H2, J2, r, ds, F2, I2, L2, w2, rs, hj, q2⟩ => ⟨J2.kIn, ?_⟩) (starE (hs e List.mem_cons_self)) (noStar fun y m => hs y (List.mem_cons_of_mem _ m))
  exact call_run (us := .ref q :: us) (vs := .ref q :: vs) S M.fn J2 (.cons rfl r) w2 rs hj q2
theorem s_meth (S : Sx B X n) {cl f j : Nat} {m : Str} {fa : Addr} (M : MethIs B X n cl f m fa j) (hm : MCall a m apos p (e :: es) X.env) (hs : ∀ y ∈ e :: es, ∀ v q, y ≠ .Starred v q) (ha : PE X a (tEv B ca)) (hes : PA X (e :: es) (tEvs B cs))
    (hl : ∀ env L ds L', evs B.G cs env L = .ok ds L' → ds.length + 1 = j) : PE X (.Call (.Attribute a m apos) (e :: es) [] p) (tEv B (.meth cl f ca cs)) := by
  refine ⟨fun pins s σ H Q J h => ?_⟩
  obtain ⟨F, I, L, env, fr, q⟩ := h
  refine meth_go S M (ro := B.G.ro) hm hs ha hes J ⟨F, I, L, env, fr, Post.seq q fun x L1 F1 I1 H1 v st1 w1 r1 h1 => ?_⟩
  split at h1
  · rename_i hc
    refine ⟨let ⟨p, dx, fs, k, z⟩ := is_cls w1 r1 hc; ⟨p, dx, fs, k, z⟩, F1, I1, L1, env, fr.step st1 w1, ?_⟩
    cases r2 : evs B.G cs env L1 with
    | ok ds L2 =>
      rw [r2] at h1
      exact fun F2 I2 H2 vs st2 w2 rs => ⟨x :: ds, F2, I2, L2, w2, .cons (r1.keeps (st2.keeps0 w1)) rs, hl _ _ _ _ r2, Post.from h1 st2⟩
    | exc c vs L2 => rw [r2] at h1; exact h1
    | bad => rw [r2] at h1; exact h1
  · exact h1.elim
theorem s_methP (S : Sx B X n) {cl f j : Nat} {m : Str} {fa : Addr} (M : MethIs B X n cl f m fa j) (hm : MCall a m apos p (e :: es) X.env) (hs : ∀ y ∈ e :: es, ∀ v q, y ≠ .Starred v q) (ha : PE X a (tEv B ca)) (hes : PA X (e :: es) (tEvOs B os))
    (hl : ∀ env L ds L', evOs B.G os env L = .ok ds L' → ds.length + 1 = j) : PE X (.Call (.Attribute a m apos) (e :: es) [] p) (tEv B (.methP cl f ca os)) := by
  refine ⟨fun pins s σ H Q J h => ?_⟩
  obtain ⟨F, I, L, env, fr, q⟩ := h
  refine meth_go S M (ro := true) hm hs ha hes J ⟨F, I, L, env, fr, Post.seq q fun x L1 F1 I1 H1 v st1 w1 r1 h1 => ?_⟩
  split at h1
  · rename_i hc
    refine ⟨let ⟨p, dx, fs, k, z⟩ := is_cls w1 r1 hc; ⟨p, dx, fs, k, z⟩, F1, I1, L1, env, fr.step st1 w1, ?_⟩
    cases r2 : evOs B.G os env L1 with
    | ok ds L2 =>
      rw [r2] at h1
      intro F2 I2 H2 vs st2 w2 rs
      have rx : RepQ B.T F2 I2 H2 (.cons (.e ca) os) (x :: ds) (v :: vs) := .e (r1.keeps (st2.keeps0 w1)) rs
      obtain ⟨F3, w3, rs3, q3⟩ := lent_post (os := .cons (.e ca) os) w2 rx (Post.from h1 st2)
      exact ⟨x :: ds, F3, I2, L2, w3, rs3, hl _ _ _ _ r2, q3⟩
    | exc c vs L2 => rw [r2] at h1; exact h1
    | bad => rw [r2] at h1; exact h1
  · exact h1.elim
theorem s_meth0 (S : Sx B X n) {cl f : Nat} {m : Str} {fa : Addr} (M : MethIs B X n cl f m fa 1) (hm : MCall a m apos p [] X.env) (ha : PE X a (tEv B ca)) : PE X (.Call (.Attribute a m apos) [] [] p) (tEv B (.meth cl f ca .nil)) := by
  refine ⟨fun pins s σ H Q J h => ?_⟩
  obtain ⟨F, I, L, env, fr, q⟩ := h
  obtain ⟨pl, ht⟩ := hm
  have z : tEv B ca σ H fun x H1 => (∃ p dx fs k, x = .ref p ∧ H1 p = some (.ins (B.T.adr cl) dx fs) ∧ fs.map (·.1) = (B.T.flds cl).take k) ∧ ∃ ds F2 I2 L2, Wf B.T F2 I2 H1 L2 ∧ Reps B.T F2 I2 H1 ds [x] ∧ ds.length = 1 ∧ Post B.G.ro B.T (fun c d H => B.W c d σ H) F2 I2 H1 (rE B) (B.G.call B.G.ro f ds L2) Q := by
    refine ⟨F, I, L, env, fr, Post.seq q fun x L1 F1 I1 H1 v st1 w1 r1 h1 => ?_⟩
    split at h1
    · rename_i hc
      exact ⟨let ⟨p, dx, fs, k, z⟩ := is_cls w1 r1 hc; ⟨p, dx, fs, k, z⟩, [x], F1, I1, L1, w1, .cons r1 .nil, rfl, h1⟩
    · exact h1.elim
  refine PySem.W.methodCall_KW (pl := pl) (thn (ha.run pins s σ H _ J z) fun u s1 ⟨x, H1, J1, rx, ⟨q, dx, fs, k, ex, eq, en⟩, ds, F2, I2, L2, w2, rs, hj, q2⟩ => ?_) ht
  subst ex
  obtain rfl : u = Value.ref q := rx
  refine getmeth_ok J1 eq (by rw [S.K]; exact M.cls.cls) M.at_ (lookup_no en M.no) ?_
  exact PySem.W.callWith_K0 (first := [.ref q]) J1.kIn M.fn.keep (call_run (us := [.ref q]) (vs := [.ref q]) S M.fn J1 (.cons rfl .nil) w2 rs hj q2)
/-! ### instances -/
structure IniIs (B : Bd) (X : Cx) (n : Nat) (cl : Nat) (j : Nat) : Prop where
  cls : ClsAt B.T cl
  ok : ∃ k fa fd ps dvs ds tail, n = k + 1 ∧ Mk X.K (B.T.adr cl) fa ∧ FnOk X.prog X.w X.K X.mg X.base (L2.CX X.prog X.w) k fa fd ps (spI B.T B.G.init cl ps.length) ∧ Binds X.K fd ps ds ∧ Vals dvs ds ∧ 1 + j + dvs.length = ps.length ∧
    (∀ F I H, Reps B.T F I H tail dvs) ∧ ∀ ro xs L, xs.length = j → B.G.init ro cl xs L = B.G.init ro cl (xs ++ tail) L
/-- a new instance, its fields made: x stands at an address that was free -/
theorem ini_run (S : Sx B X n) {cl j : Nat} (M : IniIs B X n cl j) {pins : List (Addr × Obj)} {σ : L2.St} {H : Hp} {s : Shared} {us : List Value} {vs : List V} {F : Addr → Prop} {I : List Addr} {L : List Cell} {ds : List D} {Q : VK}
    (J : Inv X pins σ H s) (r : Vals vs us) (w : Wf B.T F I H L) (rs : Reps B.T F I H ds vs) (hj : ds.length = j)
    (h : match B.G.init B.G.ro cl ds L with
      | .ok fs L' => ∀ F' I' H' x dx fs', Step B.G.ro noEx F I H F' I' H' → Wf B.T F' I' H' L' → H x = none → ¬ F' x → x ∉ I' → H' x = some (.ins (B.T.adr cl) dx fs') → fs'.map (·.1) = (B.T.flds cl).take fs.length → Reps B.T F' I' H' fs (fs'.map (·.2)) → Q (.ref x) H'
      | .exc k vs L' => ∀ F' I' H' cls d, Step B.G.ro noEx F I H F' I' H' → Wf B.T F' I' H' L' → XRep B.T F' I' H' k vs cls d → B.W cls d σ H'
      | .bad => False) :
    wpAny (model X.prog X.w) X.A (call (.ref (B.T.adr cl)) us) (EP X pins σ Q) X.xe s := by
  obtain ⟨k, fa, fd, ps, dvs, dV, tail, rfl, mk, ok, bd, dv, hl, tr, he⟩ := M.ok
  have fr1 : H (s.heap.objs.size + 1) = none := J.hok.fresh (Nat.le_succ _)
  have fr0 : H s.heap.objs.size = none := J.hok.fresh (Nat.le_refl _)
  have nx : s.heap.objs.size ≠ s.heap.objs.size + 1 := Nat.ne_of_lt (Nat.lt_succ_self _)
  generalize hx : s.heap.objs.size + 1 = x at *
  generalize hdx : s.heap.objs.size = dx at *
  have s0 : Step B.G.ro noEx F I H F I (upd H dx (.own x)) := Step.laid fr0
  have w0 := w.laid (o := .own x) fr0
  have fr1' : (upd H dx (.own x)) x = none := by rw [upd_ne nx.symm]; exact fr1
  have s1 : Step B.G.ro noEx F I H F I (upd (upd H dx (.own x)) x (.ins (B.T.adr cl) dx [])) := s0.trans (Step.laid fr1')
  have w1 := w0.laid (o := .ins (B.T.adr cl) dx []) fr1'
  have nF : ¬ F x := fun z => by obtain ⟨u, e⟩ := w.fr x z; rw [fr1] at e; cases e
  have nI : x ∉ I := fun z => by obtain ⟨u, e, _⟩ := w.cell z; rw [fr1] at e; cases e
  have J2 := Inv.made (C := B.T.adr cl) J
  rw [hdx, hx] at J2
  have hq : spI B.T B.G.init cl ps.length (V.ref x :: (vs ++ dvs)) (upd (upd H dx (.own x)) x (.ins (B.T.adr cl) dx [])) (fun v H2 => v = .non ∧ Q (.ref x) H2) (WE B.W σ) := by
    refine ⟨by rw [List.length_cons, List.length_append, ← rs.length, hj]; omega, B.G.ro, F, I, L, ds ++ tail, x, dx, vs ++ dvs, rfl, upd_same, nF, nI, w1, (rs.append (tr F I H)).keeps (s1.keeps0 w), ?_⟩
    rw [← he B.G.ro ds L hj]
    have back : ∀ {F' I' H'}, Step B.G.ro (fun q => q = x) F I (upd (upd H dx (.own x)) x (.ins (B.T.adr cl) dx [])) F' I' H' → Step B.G.ro noEx F I H F' I' H' := fun {F' I' H'} st => by
      have old : ∀ p u, H p = some u → p ≠ x ∧ (upd (upd H dx (.own x)) x (.ins (B.T.adr cl) dx [])) p = some u := fun p u e => by
        have h1 : p ≠ x := ne_of_none e fr1
        have h2 : p ≠ dx := ne_of_none e fr0
        exact ⟨h1, by rw [upd_ne h1, upd_ne h2]; exact e⟩
      have none' : ∀ p, (upd (upd H dx (.own x)) x (.ins (B.T.adr cl) dx [])) p = none → H p = none := fun p e => by
        cases e1 : H p with
        | none => rfl
        | some u => rw [(old p u e1).2] at e; cases e
      refine ⟨fun p u e i _ => st.keep p u (old p u e).2 i (old p u e).1, fun p u e => st.there p u (old p u e).2, fun p u e z => st.still p u (old p u e).2 z, st.more, fun p f => (st.new p f).imp id (fun z => .inl (z.elim (none' p) fun z => by rw [z]; exact fr1)), ?_, fun z => ⟨fun p u e _ => (st.rok z).1 p u (old p u e).2 (old p u e).1, (st.rok z).2⟩⟩
      obtain ⟨m, e1, e2⟩ := st.pre
      exact ⟨m, e1, fun a ha => none' a (e2 a ha)⟩
    cases r1 : B.G.init B.G.ro cl ds L with
    | ok fs L' =>
      rw [r1] at h
      exact fun F' I' H' dx' fs' st wf nf ni e1 e2 e3 => ⟨rfl, h F' I' H' x dx' fs' (back st) wf fr1 nf ni e1 e2 e3⟩
    | exc c cs L' =>
      rw [r1] at h
      exact fun F' I' H' cls d st wf xr => h F' I' H' cls d (back st) wf xr
    | bad =>
      rw [r1] at h
      exact h
  have r2 : Vals (V.ref x :: (vs ++ dvs)) (Value.ref x :: (us ++ dV)) := .cons rfl (r.append dv)
  have hl2 : (Value.ref x :: us ++ dV).length = ps.length := by
    have e := r2.length
    rw [ok.len _ _ _ _ hq] at e
    exact e.symm
  refine wpAny_call (make_map (f := fa) J.kIn mk.makes mk.init (beq_iff_eq.mp mk.fn) ?_)
  rw [hdx, hx]
  refine codeAny_mono (ok.run _ X.stack _ _ ⟨Value.ref x :: us, []⟩ (Value.ref x :: (us ++ dV)) _ _ (WE B.W σ) (S.room.make (B.T.adr cl) us []) (J2.env0.make (B.T.adr cl) us []) (bd _ (Value.ref x :: us) J2.kIn hl2) r2 hq) fun r s' hq' => ?_
  cases r with
  | error e => exact passAt S.tk σ pins _ _ e s' J2 hq'
  | ok fl =>
    cases fl with
    | ret u =>
      obtain ⟨v, H', J3, rv, ev, q3⟩ := J2.after hq'
      subst ev
      exact ⟨rv, ⟨V.ref x, H', J3, rfl, q3⟩⟩
    | next => exact False.elim hq'
    | brk => exact False.elim hq'
    | cont => exact False.elim hq'
/-- the new instance is frozen -/
theorem new_ins {ro : Bool} {T : View} {F F' : Addr → Prop} {I I' : List Addr} {H H' : Hp} {L' : List Cell} {x : Addr} {u : HO} (st : Step ro noEx F I H F' I' H') (w : Wf T F' I' H' L') (hx : H x = none) (ni : x ∉ I') (e : H' x = some u) :
    Step ro noEx F I H (fun p => F' p ∨ p = x) I' H' ∧ Wf T (fun p => F' p ∨ p = x) I' H' L' ∧ Keeps F' I' H' (fun p => F' p ∨ p = x) I' H' := by
  refine ⟨⟨st.keep, st.there, st.still, fun p f => .inl (st.more p f), fun p f => ?_, st.pre, st.rok⟩, ⟨fun p f => ?_, fun p m f => ?_, w.nd, w.len, fun i a c e1 e2 => (w.at_ i a c e1 e2).keeps (Keeps.grow fun _ z => .inl z) fun _ z => z⟩, Keeps.grow fun _ z => .inl z⟩
  · rcases f with f | rfl
    · exact st.new p f
    · exact .inr (.inl hx)
  · rcases f with f | rfl
    · exact w.fr p f
    · exact ⟨u, e⟩
  · rcases f with f | rfl
    · exact w.ap p m f
    · exact ni m
/-- the new object is a cell -/
theorem new_cell {T : View} {F F' : Addr → Prop} {I I' : List Addr} {H H' : Hp} {L' : List Cell} {x : Addr} {c : Cell} (st : Step false noEx F I H F' I' H') (w : Wf T F' I' H' L') (hx : H x = none) (nf : ¬ F' x) (ni : x ∉ I') (e : CellAt T F' I' H' x c) :
    Step false noEx F I H F' (I' ++ [x]) H' ∧ Wf T F' (I' ++ [x]) H' (L' ++ [c]) ∧ (I' ++ [x])[L'.length]? = some x := by
  have k : Keeps F' I' H' F' (I' ++ [x]) H' := ⟨fun _ _ e _ => e, fun _ h => h, [x], rfl⟩
  obtain ⟨m, e1, e2⟩ := st.pre
  refine ⟨⟨st.keep, st.there, st.still, st.more, st.new, ⟨m ++ [x], by rw [e1, List.append_assoc], fun a ha => ?_⟩, fun z => by cases z⟩, ⟨w.fr, fun p hm => ?_, ?_, by simp [w.len], fun i a c' h1 h2 => ?_⟩, by rw [← w.len]; simp⟩
  · rcases List.mem_append.mp ha with ha | ha
    · exact e2 a ha
    · rw [List.mem_singleton.mp ha]; exact hx
  · rcases List.mem_append.mp hm with hm | hm
    · exact w.ap p hm
    · rw [List.mem_singleton.mp hm]; exact nf
  · exact List.nodup_append.mpr ⟨w.nd, by simp, fun a ha b hb => by rw [List.mem_singleton.mp hb]; rintro rfl; exact ni ha⟩
  · by_cases hi : i < I'.length
    · rw [List.getElem?_append_left hi] at h1
      rw [List.getElem?_append_left (by rw [← w.len]; exact hi)] at h2
      exact (w.at_ i a c' h1 h2).keeps k fun _ z => z
    · have hi' : i = I'.length := by
        have := (List.getElem?_eq_some_iff.mp h1).1
        simp at this
        omega
      subst hi'
      rw [List.getElem?_append_right (Nat.le_refl _)] at h1
      rw [w.len, List.getElem?_append_right (Nat.le_refl _)] at h2
      simp at h1 h2
      subst h1 h2
      exact e.keeps k fun _ z => z
theorem args_go {β : Type} {RA : (Addr → Prop) → List Addr → Hp → D → β → Prop} {σ : L2.St} {H : Hp} {F : Addr → Prop} {I : List Addr} {L : List Cell} {env : Env} {f : List D → List Cell → R D} {Q : β → Hp → Prop} {Q1 : List V → Hp → Prop} (fr : B.fr F I H L σ env) (q : B.post σ F I H RA ((evs B.G cs env L).bind f) Q)
    (k : ∀ ds L1 F1 I1 H1 vs, evs B.G cs env L = .ok ds L1 → Step B.G.ro noEx F I H F1 I1 H1 → Wf B.T F1 I1 H1 L1 → Reps B.T F1 I1 H1 ds vs → B.post σ F1 I1 H1 RA (f ds L1) Q → Q1 vs H1) : tEvs B cs σ H Q1 := by
  refine ⟨F, I, L, env, fr, ?_⟩
  cases r1 : evs B.G cs env L with
  | ok ds L1 =>
    rw [r1] at q
    exact fun F1 I1 H1 vs st1 w1 rs => k ds L1 F1 I1 H1 vs r1 st1 w1 rs (Post.from q st1)
  | exc c vs L1 =>
    rw [r1] at q
    exact q
  | bad =>
    rw [r1] at q
    exact q
theorem s_make (S : Sx B X n) {cl j : Nat} {x : Str} (M : IniIs B X n cl j) (hg : Gl X x) (hm : X.mg x = some (.ref (B.T.adr cl))) (hd : (x == ("__debug__" : Str)) = false)
    (ha : PA X (e :: es) (tEvs B cs)) (hs : ∀ y ∈ e :: es, ∀ v q, y ≠ .Starred v q) (hl : ∀ env L ds L', evs B.G cs env L = .ok ds L' → ds.length = j) : PE X (.Call (.Name x p2) (e :: es) [] p) (tEv B (.make cl cs)) := by
  refine ⟨fun pins s σ H Q J h => ?_⟩
  obtain ⟨F, I, L, env, fr, q⟩ := h
  have kp : PySem.W.keepIn X.K (.ref (B.T.adr cl)) = true := by obtain ⟨_, _, _, _, _, _, _, _, mk, _⟩ := M.ok; exact mk.kp
  refine wpAny_Call_Name_kw (ld_glob J hg hm ?_ hd)
  refine PySem.W.callWith_K (h₀ := X.base) J.ok.mod.kin kp (thn (ha.run p pins s σ H (fun vs H1 => ∃ ds F1 I1 L1, Wf B.T F1 I1 H1 L1 ∧ Reps B.T F1 I1 H1 ds vs ∧ ds.length = j ∧ B.post σ F1 I1 H1 (rE B) ((B.G.init B.G.ro cl ds L1).bind fun vs L => .ok (.ins cl vs) L) Q) J (args_go (f := fun xs L => (B.G.init B.G.ro cl xs L).bind fun vs L => .ok (.ins cl vs) L) fr q fun ds L1 F1 I1 H1 vs r1 st1 w1 rs h1 => ⟨ds, F1, I1, L1, w1, rs, hl _ _ _ _ r1, h1⟩)) fun us s1 ⟨vs, H1, J1, r, ds, F2, I2, L2, w2, rs, hj, q2⟩ => ⟨J1.kIn, ?_⟩)
    (starE (hs e List.mem_cons_self)) (noStar fun y m => hs y (List.mem_cons_of_mem _ m))
  refine ini_run S M J1 r w2 rs hj ?_
  cases r1 : B.G.init B.G.ro cl ds L2 with
  | ok fs L' =>
    rw [r1] at q2
    intro F' I' H' x dx fs' st wf hx nf ni e1 e2 e3
    obtain ⟨s1, s2, s3⟩ := new_ins st wf hx ni e1
    exact q2 _ I' H' _ s1 s2 (.ins (.inr rfl) e1 e2 (e3.keeps s3))
  | exc k cs L' =>
    rw [r1] at q2
    exact q2
  | bad =>
    rw [r1] at q2
    exact q2
theorem s_makeR (S : Sx B X n) {cl j : Nat} {x : Str} (M : IniIs B X n cl j) (hg : Gl X x) (hm : X.mg x = some (.ref (B.T.adr cl))) (hd : (x == ("__debug__" : Str)) = false)
    (ha : PA X (e :: es) (tEvs B cs)) (hs : ∀ y ∈ e :: es, ∀ v q, y ≠ .Starred v q) (hl : ∀ env L ds L', evs B.G cs env L = .ok ds L' → ds.length = j) : PE X (.Call (.Name x p2) (e :: es) [] p) (tEv B (.makeR cl cs)) := by
  refine ⟨fun pins s σ H Q J h => ?_⟩
  obtain ⟨F, I, L, env, fr, q⟩ := h
  have kp : PySem.W.keepIn X.K (.ref (B.T.adr cl)) = true := by obtain ⟨_, _, _, _, _, _, _, _, mk, _⟩ := M.ok; exact mk.kp
  unfold ev at q
  split at q
  · exact q.elim
  · rename_i hro
    refine wpAny_Call_Name_kw (ld_glob J hg hm ?_ hd)
    refine PySem.W.callWith_K (h₀ := X.base) J.ok.mod.kin kp (thn (ha.run p pins s σ H (fun vs H1 => ∃ ds F1 I1 L1, Wf B.T F1 I1 H1 L1 ∧ Reps B.T F1 I1 H1 ds vs ∧ ds.length = j ∧ B.post σ F1 I1 H1 (rE B) ((B.G.init B.G.ro cl ds L1).bind fun vs L => .ok (.ref L.length) (L ++ [.ins cl vs])) Q) J (args_go (f := fun xs L => (B.G.init B.G.ro cl xs L).bind fun vs L => .ok (.ref L.length) (L ++ [.ins cl vs])) fr q fun ds L1 F1 I1 H1 vs r1 st1 w1 rs h1 => ⟨ds, F1, I1, L1, w1, rs, hl _ _ _ _ r1, h1⟩)) fun us s1 ⟨vs, H1, J1, r, ds, F2, I2, L2, w2, rs, hj, q2⟩ => ⟨J1.kIn, ?_⟩)
      (starE (hs e List.mem_cons_self)) (noStar fun y m => hs y (List.mem_cons_of_mem _ m))
    have hro : B.G.ro = false := by simpa using hro
    refine ini_run S M J1 r w2 rs hj ?_
    cases r1 : B.G.init B.G.ro cl ds L2 with
    | ok fs L' =>
      rw [r1] at q2
      intro F' I' H' x dx fs' st wf hx nf ni e1 e2 e3
      rw [hro] at st
      obtain ⟨s1, s2, s3⟩ := new_cell (c := .ins cl fs) st wf hx nf ni ⟨dx, fs', e1, e2, e3⟩
      unfold Bd.post at q2
      rw [hro] at q2
      exact q2 _ _ H' _ s1 s2 (.ref s3)
    | exc k cs L' =>
      rw [r1] at q2
      exact q2
    | bad =>
      rw [r1] at q2
      exact q2
theorem s_rlst (S : Sx B X n) (h : PA X es (tEvs B cs)) : PE X (.List es p) (tEv B (.rlst cs)) :=
  PEimp (pe_lst h) fun σ H Q ⟨F, I, L, env, fr, q⟩ => by
    unfold ev at q
    split at q
    · exact q.elim
    · rename_i hro
      have hro : B.G.ro = false := by simpa using hro
      refine args_go (f := fun xs L => sized xs.length (.ref L.length) (L ++ [.lst xs])) fr q fun ds L1 F1 I1 H1 vs r1 st1 w1 rs h1 => ?_
      unfold sized at h1
      split at h1
      · rename_i hl
        refine ⟨by rw [← rs.length]; exact hl, fun q hq => ?_⟩
        have ni : q ∉ I1 := fun z => by obtain ⟨u, e, _⟩ := w1.cell z; rw [hq] at e; cases e
        have nf : ¬ F1 q := fun z => by obtain ⟨u, e⟩ := w1.fr q z; rw [hq] at e; cases e
        obtain ⟨s1, s2, s3⟩ := new_cell (c := .lst ds) (Step.laid (o := .lst vs) hq) (w1.laid hq) hq nf ni ⟨vs, upd_same, rs.keeps ((Step.laid (ro := true) hq).keeps0 w1)⟩
        unfold Bd.post at h1
        rw [hro] at h1
        exact h1 _ _ _ _ s1 s2 (.ref s3)
      · exact h1.elim
theorem s_rdct (S : Sx B X n) : PE X (.Dict [] [] p) (tEv B .rdct) :=
  PEimp pe_dnewK fun σ H Q ⟨F, I, L, env, fr, q⟩ => by
    unfold ev at q
    split at q
    · exact q.elim
    · rename_i hro
      have hro : B.G.ro = false := by simpa using hro
      intro q' hq
      have w1 := fr.wf
      have ni : q' ∉ I := fun z => by obtain ⟨u, e, _⟩ := w1.cell z; rw [hq] at e; cases e
      have nf : ¬ F q' := fun z => by obtain ⟨u, e⟩ := w1.fr q' z; rw [hq] at e; cases e
      obtain ⟨s1, s2, s3⟩ := new_cell (c := .dct [] []) (Step.laid (o := .dK []) hq) (w1.laid hq) hq nf ni (.inl ⟨[], upd_same, rfl, KOk.nil, .nil⟩)
      unfold Bd.post at q
      rw [hro] at q
      exact q _ _ _ _ s1 s2 (.ref s3)
end
end Wa

set_option Elab.async false
set_option linter.all false
set_option maxRecDepth 100000
set_option maxHeartbeats 4000000
/-! WaStm: statements do what the evaluator says. -/
namespace Wa
open PySem PySem.Spec PyProof.Rows L2

def PostS (B : Bd) (D : Ends) (r : RS) : Prop :=
  match r with
  | .ok .next env L => ∀ F I H σ, B.fr F I H L σ env → D.nx σ H
  | .ok .brk env L => ∀ F I H σ, B.fr F I H L σ env → D.bk σ H
  | .ok .cont env L => ∀ F I H σ, B.fr F I H L σ env → D.ct σ H
  | .ok (.ret d) env L => ∀ F I H σ v, B.fr F I H L σ env → Rep B.T F I H d v → D.rt v H
  | .exc c vs env L => ∀ F I H σ cls d, B.fr F I H L σ env → XRep B.T F I H c vs cls d → B.W cls d σ H
  | .bad => False
def tS (B : Bd) (r : Env → List Cell → RS) : TS := fun D σ H => ∃ F I L env, B.fr F I H L σ env ∧ PostS B D (r env L)
abbrev tEx (B : Bd) (s : CS) : TS := tS B (ex B.G s)
abbrev tExs (B : Bd) (s : CSs) : TS := tS B (exs B.G s)
theorem PSimp {X : Cx} {s : Stmt} {t t' : TS} (h : PS X s t) (k : ∀ D σ H, t' D σ H → t D σ H) : PS X s t' := ⟨fun pins s σ H D I q => h.run pins s σ H D I (k _ _ _ q)⟩
theorem PSsimp {X : Cx} {s : List Stmt} {t t' : TS} (h : PSs X s t) (k : ∀ D σ H, t' D σ H → t D σ H) : PSs X s t' := ⟨fun pins s σ H D I q => h.run pins s σ H D I (k _ _ _ q)⟩
section
variable {B : Bd} {X : Cx} {n : Nat} {e a b c : Expr} {es : List Expr} {p p2 apos : Pos} {ca cb cc : CE} {oa ob oc : CO} {cs : CEs} {os : COs} {D : Ends} {σ : L2.St} {H : Hp} {F : Addr → Prop} {I : List Addr} {L : List Cell} {env : Env}
/-- an expression within a statement -/
theorem withinS {α β : Type} {RA : (Addr → Prop) → List Addr → Hp → α → β → Prop} {r : R α} {k : α → List Cell → RS} {Q1 : β → Hp → Prop} (fr : B.fr F I H L σ env) (h : PostS B D (within env r k))
    (kk : ∀ x L1 F1 I1 H1 v, Step B.G.ro noEx F I H F1 I1 H1 → B.fr F1 I1 H1 L1 σ env → RA F1 I1 H1 x v → PostS B D (k x L1) → Q1 v H1) : B.post σ F I H RA r Q1 := by
  cases r with
  | ok x L1 => exact fun F1 I1 H1 v st w ra => kk x L1 F1 I1 H1 v st (fr.step st w) ra h
  | exc c vs L1 => exact fun F1 I1 H1 cls d st w xr => h F1 I1 H1 σ cls d (fr.step st w) xr
  | bad => exact h
theorem s_nil : PSs X [] (tExs B .nil) := PSsimp pss_nil fun D σ H ⟨F, I, L, env, fr, h⟩ => h F I H σ fr
theorem s_cons {s : Stmt} {ss : List Stmt} {c : CS} {cs : CSs} (h1 : PS X s (tEx B c)) (h2 : PSs X ss (tExs B cs)) : PSs X (s :: ss) (tExs B (.cons c cs)) :=
  PSsimp (pss_cons h1 h2) fun D σ H ⟨F, I, L, env, fr, h⟩ => ⟨F, I, L, env, fr, by
    have h' : PostS B D ((ex B.G c env L).bind fun env L => exs B.G cs env L) := h
    cases r : ex B.G c env L with
    | ok fl env' L' =>
      rw [r] at h'
      cases fl with
      | next => exact fun F1 I1 H1 σ1 fr1 => ⟨F1, I1, L', env', fr1, h'⟩
      | brk => exact h'
      | cont => exact h'
      | ret d => exact h'
    | exc k vs env' L' => rw [r] at h'; exact h'
    | bad => rw [r] at h'; exact h'⟩
/-- another name's content stays, where p's object is frozen -/
theorem fr_freeze {i : Nat} {p : Addr} {u : HO} {s : S} {d : Wa.D} (fr : B.fr F I H L σ env) (e : slot env i = some s) (os : isOwn s = true) (e1 : σ[i]? = some (some (.ref p))) (ow : Own F I B.E.M p) (hp : H p = some u)
    (mk : Keeps F I H (fun q => F q ∨ q = p) I H → Rep B.T (fun q => F q ∨ q = p) I H d (.ref p)) : B.fr (fun q => F q ∨ q = p) I H L σ (env.set i (some (.val d))) := by
  have kg : Keeps F I H (fun q => F q ∨ q = p) I H := Keeps.grow fun _ z => .inl z
  refine ⟨⟨fun q f => ?_, fun q m f => ?_, fr.wf.nd, fr.wf.len, fun i a c e1 e2 => (fr.wf.at_ i a c e1 e2).keeps kg fun _ z => z⟩, by simp [fr.len], fun j t ht => ?_, fun j k t t' q ht ht' o o' q1 q2 => ?_, ⟨fr.st.keep, fr.st.there, fr.st.still, fun q f => .inl (fr.st.more q f), fun q f => ?_, fr.st.pre, fr.st.rok⟩, fr.exo⟩
  · rcases f with f | rfl
    · exact fr.wf.fr q f
    · exact ⟨u, hp⟩
  · rcases f with f | rfl
    · exact fr.wf.ap q m f
    · exact ow.ni m
  · rcases slot_set ht with ⟨rfl, et, _⟩ | ⟨ne, et⟩
    · cases et
      exact ⟨_, e1, mk kg⟩
    · obtain ⟨v', e2, r'⟩ := fr.sl j t et
      refine ⟨v', e2, ?_⟩
      have nq : ∀ q, isOwn t = true → v' = .ref q → q ≠ p := by
        rintro q ot rfl rfl
        exact ne (fr.ap j i t s q et e ot os e2 e1)
      cases t with
      | val d => exact Rep.keeps kg r'
      | olst ds =>
        obtain ⟨q, xs, ev, o2, h3, h4⟩ := r'
        exact ⟨q, xs, ev, ⟨fun z => z.elim o2.nf (nq q rfl ev), o2.ni, o2.mine⟩, h3, h4.keeps kg⟩
      | odct ks vs =>
        obtain ⟨q, ev, o2, h3⟩ := r'
        exact ⟨q, ev, ⟨fun z => z.elim o2.nf (nq q rfl ev), o2.ni, o2.mine⟩, h3.keeps kg fun _ z => z⟩
      | oins k vs =>
        obtain ⟨q, dx, fs, ev, o2, h3, h4, h5⟩ := r'
        exact ⟨q, dx, fs, ev, ⟨fun z => z.elim o2.nf (nq q rfl ev), o2.ni, o2.mine⟩, h3, h4, h5.keeps kg⟩
  · rcases slot_set ht with ⟨_, et, _⟩ | ⟨_, et⟩
    · cases et; cases o
    · rcases slot_set ht' with ⟨_, et', _⟩ | ⟨_, et'⟩
      · cases et'; cases o'
      · exact fr.ap j k t t' q et et' o o' q1 q2
  · rcases f with f | rfl
    · exact fr.st.new q f
    · exact .inr ow.mine
/-- a step of the code alone -/
theorem s_frz {ss : List Stmt} {i : Nat} {cs : CSs} (h2 : PSs X ss (tExs B cs)) : PSs X ss (tExs B (.cons (.frz i) cs)) :=
  PSsimp h2 fun D σ H ⟨F, I, L, env, fr, h⟩ => by
    have h' : PostS B D ((ex B.G (.frz i) env L).bind fun env L => exs B.G cs env L) := h
    unfold ex at h'
    split at h'
    · exact ⟨F, I, L, env, fr, h'⟩
    · rename_i xs e
      obtain ⟨v, e1, p, ys, rfl, ow, h3, h4⟩ := fr.sl i _ e
      exact ⟨_, I, L, _, fr_freeze fr e rfl e1 ow h3 (d := .lst xs) fun kg => .lst (.inr rfl) (.inl h3) (h4.keeps kg), h'⟩
    · rename_i ks vs e
      obtain ⟨v, e1, p, rfl, ow, h3⟩ := fr.sl i _ e
      obtain ⟨u, hu, _⟩ := h3.some
      exact ⟨_, I, L, _, fr_freeze fr e rfl e1 ow hu (d := .dct ks vs) fun kg => .of_dct (.inr rfl) (h3.keeps kg fun _ z => z), h'⟩
    · exact h'.elim
/-! ### small statements -/
theorem s_pass : PS X (.Pass p) (tEx B .pass) := PSimp ps_pass fun D σ H ⟨F, I, L, env, fr, h⟩ => h F I H σ fr
theorem s_brk : PS X (.Break p) (tEx B .brk) := PSimp ps_break fun D σ H ⟨F, I, L, env, fr, h⟩ => h F I H σ fr
theorem s_cont : PS X (.Continue p) (tEx B .cont) := PSimp ps_continue fun D σ H ⟨F, I, L, env, fr, h⟩ => h F I H σ fr
theorem s_retN : PS X (.Return none p) (tEx B .retN) := PSimp ps_retN fun D σ H ⟨F, I, L, env, fr, h⟩ => h F I H σ .non fr .non
theorem s_ret (h : PE X e (tEv B ca)) : PS X (.Return (some e) p) (tEx B (.ret ca)) :=
  PSimp (ps_ret h) fun D σ H ⟨F, I, L, env, fr, q⟩ => ⟨F, I, L, env, fr, withinS fr q fun x L1 F1 I1 H1 v st fr1 ra h1 => h1 F1 I1 H1 σ v fr1 ra⟩
/-- nothing is swapped into its place -/
def noSwap : Expr → Bool
  | .ListComp _ _ _ _ => false
  | .SetComp _ _ _ _ => false
  | .DictComp _ _ _ _ _ => false
  | _ => true
theorem swaps_none {e : Expr} {t : Option Expr} {l : Nat} {env : PySem.Env} (h : noSwap e = true) : swapsWith e t l env = pure false := by
  cases e <;> first | rfl | cases h
theorem s_expr (h : PE X e (tEv B ca)) (hn : noSwap e = true) : PS X (.Expr e p) (tEx B (.expr ca)) :=
  PSimp (ps_expr h (swaps_none hn)) fun D σ H ⟨F, I, L, env, fr, q⟩ => ⟨F, I, L, env, fr, withinS fr q fun x L1 F1 I1 H1 v st fr1 ra h1 => h1 F1 I1 H1 σ fr1⟩
theorem s_if {a b : List Stmt} {sa sb : CSs} (hc : PT X c (tTs B cc)) (ha : PSs X a (tExs B sa)) (hb : PSs X b (tExs B sb)) : PS X (.If c a b p) (tEx B (.ite cc sa sb)) :=
  PSimp (ps_if hc ha hb) fun D σ H ⟨F, I, L, env, fr, q⟩ => ⟨F, I, L, env, fr, by
    have q' : PostS B D (within env (ev B.G cc env L) fun x L => optS (truth x) fun k => if k then exs B.G sa env L else exs B.G sb env L) := q
    show B.post σ F I H rB ((ev B.G cc env L).bind fun x L => opt (truth x) L) _
    cases r : ev B.G cc env L with
    | ok x L1 =>
      rw [r] at q'
      cases r2 : truth x with
      | none =>
        have q2 : PostS B D (optS (truth x) fun k => if k then exs B.G sa env L1 else exs B.G sb env L1) := q'
        rw [r2] at q2
        exact q2.elim
      | some k =>
        have q2 : PostS B D (optS (truth x) fun k => if k then exs B.G sa env L1 else exs B.G sb env L1) := q'
        rw [r2] at q2
        show B.post σ F I H rB (opt (truth x) L1) _
        rw [r2]
        intro F1 I1 H1 k' st w ek
        obtain rfl : k' = k := ek
        cases k' with
        | true => exact ⟨F1, I1, L1, env, fr.step st w, q2⟩
        | false => exact ⟨F1, I1, L1, env, fr.step st w, q2⟩
    | exc k vs L1 =>
      rw [r] at q'
      exact fun F1 I1 H1 cls d st w xr => q' F1 I1 H1 σ cls d (fr.step st w) xr
    | bad => rw [r] at q'; exact q'.elim⟩
/-! ### names stored -/
theorem fr_set {i : Nat} {d : Wa.D} {v : V} (fr : B.fr F I H L σ env) (r : Rep B.T F I H d v) : B.fr F I H L (σ.set i (some v)) (env.set i (some (.val d))) := by
  refine ⟨fr.wf, by simp [fr.len], fun j t ht => ?_, fun j k t t' q ht ht' o o' q1 q2 => ?_, fr.st, fr.exo⟩
  · rcases slot_set ht with ⟨rfl, et, hl⟩ | ⟨ne, et⟩
    · cases et
      exact ⟨v, List.getElem?_set_self (by rw [← fr.len]; exact hl), r⟩
    · obtain ⟨v', e2, r'⟩ := fr.sl j t et
      exact ⟨v', by rw [List.getElem?_set_ne (Ne.symm ne)]; exact e2, r'⟩
  · rcases slot_set ht with ⟨_, et, _⟩ | ⟨ne, et⟩
    · cases et; cases o
    · rcases slot_set ht' with ⟨_, et', _⟩ | ⟨ne', et'⟩
      · cases et'; cases o'
      · rw [List.getElem?_set_ne (Ne.symm ne)] at q1
        rw [List.getElem?_set_ne (Ne.symm ne')] at q2
        exact fr.ap j k t t' q et et' o o' q1 q2
/-- an object of the body's own, at an address that no other name has -/
theorem fr_own {i : Nat} {s : S} {p : Addr} {L' : List Cell} (fr : B.fr F I H L σ env) (r : SRep B.T F I H B.E.M B.E.sx s (.ref p)) (ne : ∀ j t, slot env j = some t → isOwn t = true → σ[j]? ≠ some (some (.ref p))) : B.fr F I H L (σ.set i (some (.ref p))) (env.set i (some s)) := by
  refine ⟨fr.wf, by simp [fr.len], fun j t ht => ?_, fun j k t t' q ht ht' o o' q1 q2 => ?_, fr.st, fr.exo⟩
  · rcases slot_set ht with ⟨rfl, et, hl⟩ | ⟨ne, et⟩
    · cases et
      exact ⟨_, List.getElem?_set_self (by rw [← fr.len]; exact hl), r⟩
    · obtain ⟨v', e2, r'⟩ := fr.sl j t et
      exact ⟨v', by rw [List.getElem?_set_ne (Ne.symm ne)]; exact e2, r'⟩
  · rcases slot_set ht with ⟨rfl, et, hl⟩ | ⟨ne1, et⟩
    · rw [List.getElem?_set_self (by rw [← fr.len]; exact hl)] at q1
      cases q1
      rcases slot_set ht' with ⟨rfl, et', _⟩ | ⟨ne', et'⟩
      · rfl
      · rw [List.getElem?_set_ne (Ne.symm ne')] at q2
        exact absurd q2 (ne k t' et' o')
    · rw [List.getElem?_set_ne (Ne.symm ne1)] at q1
      rcases slot_set ht' with ⟨rfl, et', hl⟩ | ⟨ne', et'⟩
      · rw [List.getElem?_set_self (by rw [← fr.len]; exact hl)] at q2
        cases q2
        exact absurd q1 (ne j t et o)
      · rw [List.getElem?_set_ne (Ne.symm ne')] at q2
        exact fr.ap j k t t' q et et' o o' q1 q2
mutual
def CT.names : CT → List Nat
  | .v i => [i]
  | .tup ts => CTs.names ts
def CTs.names : CTs → List Nat
  | .nil => []
  | .cons t ts => CT.names t ++ CTs.names ts
end
/-- but for these names all stands -/
def SameBut (ns : List Nat) (σ σ' : L2.St) : Prop := σ'.length = σ.length ∧ ∀ j, j ∉ ns → σ'[j]? = σ[j]?
def tPat (B : Bd) (t : CT) : TG := fun v σ H Q => ∃ F I L env d env', B.fr F I H L σ env ∧ Rep B.T F I H d v ∧ t.put d env = some env' ∧ ∀ σ', B.fr F I H L σ' env' → SameBut t.names σ σ' → Q σ' H
def tPats (B : Bd) (t : CTs) : TGs := fun vs σ H Q => ∃ F I L env ds env', B.fr F I H L σ env ∧ Reps B.T F I H ds vs ∧ t.put ds env = some env' ∧ ∀ σ', B.fr F I H L σ' env' → SameBut t.names σ σ' → Q σ' H
theorem PGimp {X : Cx} {e : Expr} {t t' : TG} (h : PG X e t) (k : ∀ v σ H Q, t' v σ H Q → t v σ H Q) : PG X e t' := ⟨fun pins s σ H v u Q I r q => h.run pins s σ H v u Q I r (k _ _ _ _ q)⟩
theorem PGsimp {X : Cx} {e : List Expr} {t t' : TGs} (h : PGs X e t) (k : ∀ v σ H Q, t' v σ H Q → t v σ H Q) : PGs X e t' := ⟨fun pins s σ H v u Q I r q => h.run pins s σ H v u Q I r (k _ _ _ _ q)⟩
theorem g_v {i : Nat} {x : Str} (nd : X.N.Nodup) (hi : X.N[i]? = some x) (hx : Loc X.env.scope x) (hf : X.fn x = true ∨ X.env.scope.names.lookup x = some .local) : PG X (.Name x p) (tPat B (.v i)) :=
  PGimp (pg_name nd hi hx hf) fun v σ H Q ⟨F, I, L, env, d, env', fr, r, e, q⟩ => by
    cases e
    refine q _ (fr_set fr r) ⟨by simp, fun j hj => ?_⟩
    have : j ≠ i := fun z => hj (by rw [z]; exact List.mem_cons_self)
    rw [List.getElem?_set_ne (Ne.symm this)]
theorem g_nil : PGs X [] (tPats B .nil) := PGsimp pgs_nil fun v σ H Q ⟨F, I, L, env, ds, env', fr, r, e, q⟩ => by
  cases ds with
  | nil =>
    cases r
    cases e
    exact ⟨rfl, q _ fr ⟨rfl, fun _ _ => rfl⟩⟩
  | cons d ds => cases e
theorem assE {e : Expr} {es : List Expr} {env : PySem.Env} (h : ∀ v q, e ≠ .Starred v q) : (assignEach (e :: es) env).map (·.2) = assign e env :: (assignEach es env).map (·.2) := by
  cases e <;> first | rfl | exact absurd rfl (h _ _)
theorem g_cons {t : CT} {ts : CTs} (h1 : PG X e (tPat B t)) (h2 : PGs X es (tPats B ts)) (hs : ∀ v q, e ≠ .Starred v q) : PGs X (e :: es) (tPats B (.cons t ts)) :=
  PGsimp (pgs_cons h1 h2 (assE hs)) fun v σ H Q ⟨F, I, L, env, ds, env', fr, r, e, q⟩ => by
    cases ds with
    | nil => cases e
    | cons d ds =>
      cases r with
      | cons r rs =>
        unfold CTs.put at e
        split at e
        · rename_i env1 e1
          exact ⟨_, _, rfl, F, I, L, env, d, env1, fr, r, e1, fun σ1 fr1 s1 => ⟨F, I, L, env1, ds, env', fr1, rs, e, fun σ2 fr2 s2 => q σ2 fr2 ⟨s2.1.trans s1.1, fun j hj => (s2.2 j fun z => hj (List.mem_append_right _ z)).trans (s1.2 j fun z => hj (List.mem_append_left _ z))⟩⟩⟩
        · cases e
theorem CTs.put_len : ∀ {ts : CTs} {ds : List Wa.D} {env env' : Env} {n : Nat}, ts.put ds env = some env' → (∀ (es : List Wa.D) env1 env2, ts.put es env1 = some env2 → es.length = n) → ds.length = n := fun h k => k _ _ _ h
def CTs.count : CTs → Nat
  | .nil => 0
  | .cons _ ts => ts.count + 1
theorem CTs.put_count : ∀ {ts : CTs} {ds : List Wa.D} {env env' : Env}, ts.put ds env = some env' → ds.length = ts.count
  | .nil, [], _, _, _ => rfl
  | .nil, _ :: _, _, _, h => by cases h
  | .cons _ _, [], _, _, h => by cases h
  | .cons t ts, d :: ds, env, env', h => by
    unfold CTs.put at h
    split at h
    · exact congrArg (· + 1) (CTs.put_count h)
    · cases h
theorem assLen {es : List Expr} {env : PySem.Env} : (assignEach es env).length = es.length := by
  induction es with
  | nil => rfl
  | cons e es ih => cases e <;> simp [assignEach, ih]
theorem assStar {es : List Expr} {env : PySem.Env} (h : ∀ e ∈ es, ∀ v q, e ≠ .Starred v q) : (assignEach es env).findIdx? (·.1) = none := by
  rw [List.findIdx?_eq_none_iff]
  induction es with
  | nil => intro x hx; cases hx
  | cons e es ih =>
    intro x hx
    have : assignEach (e :: es) env = (false, assign e env) :: assignEach es env := by
      have := h e List.mem_cons_self
      cases e <;> first | rfl | exact absurd rfl (this _ _)
    rw [this] at hx
    rcases List.mem_cons.mp hx with rfl | hx
    · rfl
    · exact ih (fun e m => h e (List.mem_cons_of_mem _ m)) x hx
theorem g_tup {ts : CTs} {k : Nat} (S : Sx B X n) (hc : X.calm = true) (h : PGs X es (tPats B ts)) (hl : es.length = ts.count) (hs : ∀ e ∈ es, ∀ v q, e ≠ .Starred v q) : PG X (.Tuple es k p) (tPat B (.tup ts)) :=
  PGimp (pg_tup (n := ts.count) hc h (by rw [assLen, hl]) (assStar hs)) fun v σ H Q ⟨F, I, L, env, d, env', fr, r, e, q⟩ => by
    cases d with
    | tup ds =>
      cases r with
      | tup sq rs =>
        refine ⟨_, _, rfl, by rw [S.K]; exact sq, ?_, F, I, L, env, ds, env', fr, rs, e, q⟩
        rw [← rs.length]
        exact CTs.put_count (show ts.put ds env = some env' from e)
    | _ => cases e
theorem swapsSole {t e : Expr} {l : Nat} {env : PySem.Env} (h : noSwap e = true) : swapsWithSole [t] e l env = pure false := swaps_none h
theorem s_set {tg : Expr} {t : CT} (h : PE X e (tEv B ca)) (hg : PG X tg (tPat B t)) (hn : noSwap e = true) (hw : swappedStores [tg] e X.env = pure none) (hs : ∀ v q, tg ≠ .Starred v q) : PS X (.Assign [tg] e p) (tEx B (.set t ca)) :=
  PSimp (ps_asg h hg (swapsSole hn) hw (by rw [assE hs]; rfl)) fun D σ H ⟨F, I, L, env, fr, q⟩ => ⟨F, I, L, env, fr, withinS fr q fun x L1 F1 I1 H1 v st fr1 ra h1 => by
    cases e1 : t.put x env with
    | none => rw [e1] at h1; exact h1.elim
    | some env' =>
      rw [e1] at h1
      exact ⟨F1, I1, L1, env, x, env', fr1, ra, e1, fun σ' fr2 _ => h1 F1 I1 H1 σ' fr2⟩⟩
theorem s_par {i j : Nat} {x y : Str} {px py pt pt2 : Pos} {kt k2 : Nat} (S : Sx B X n) (hc : X.calm = true) (hi : X.N[i]? = some x) (hj : X.N[j]? = some y) (hij : i ≠ j)
    (hx : X.env.scope.names.lookup x = some .local) (hy : X.env.scope.names.lookup y = some .local) (ha : PA X [a, b] (tEvs B cs)) (hw : swappedStores [.Tuple [.Name x px, .Name y py] kt pt] (.Tuple [a, b] k2 pt2) X.env = pure (some [x, y])) :
    PS X (.Assign [.Tuple [.Name x px, .Name y py] kt pt] (.Tuple [a, b] k2 pt2) p) (tEx B (.set (.tup (.cons (.v i) (.cons (.v j) .nil))) (.tup cs))) :=
  PSimp (ps_par hc S.nd hi hj hij hx hy ha hw) fun D σ H ⟨F, I, L, env, fr, q⟩ => by
    have q' : PostS B D (within env ((evs B.G cs env L).bind fun ds L => sized ds.length (.tup ds) L) fun d L => optS ((CT.tup (.cons (.v i) (.cons (.v j) .nil))).put d env) fun env => .ok .next env L) := q
    refine ⟨F, I, L, env, fr, ?_⟩
    cases r : evs B.G cs env L with
    | ok ds L1 =>
      rw [r] at q'
      intro F1 I1 H1 vs st w rs
      have fr1 := fr.step st w
      have q2 : PostS B D (within env (sized ds.length (.tup ds) L1) fun d L => optS ((CT.tup (.cons (.v i) (.cons (.v j) .nil))).put d env) fun env => .ok .next env L) := q'
      unfold sized at q2
      split at q2
      · match ds, rs, q2 with
        | [d1, d2], .cons r1 (.cons r2 .nil), q2 => exact ⟨_, _, rfl, q2 F1 I1 H1 _ (fr_set (fr_set fr1 r1) r2)⟩
        | [], _, q2 => exact q2.elim
        | [_], _, q2 => exact q2.elim
        | _ :: _ :: _ :: _, _, q2 => exact q2.elim
      · exact q2.elim
    | exc k vs L1 =>
      rw [r] at q'
      exact fun F1 I1 H1 cls d st w xr => q' F1 I1 H1 σ cls d (fr.step st w) xr
    | bad => rw [r] at q'; exact q'.elim
theorem s_par3 {i j l : Nat} {x y z : Str} {px py pz pt pt2 : Pos} {kt k2 : Nat} (S : Sx B X n) (hc : X.calm = true) (hi : X.N[i]? = some x) (hj : X.N[j]? = some y) (hl : X.N[l]? = some z) (hij : i ≠ j) (hil : i ≠ l) (hjl : j ≠ l)
    (hx : X.env.scope.names.lookup x = some .local) (hy : X.env.scope.names.lookup y = some .local) (hz : X.env.scope.names.lookup z = some .local) (ha : PA X [a, b, c] (tEvs B cs)) (hw : swappedStores [.Tuple [.Name x px, .Name y py, .Name z pz] kt pt] (.Tuple [a, b, c] k2 pt2) X.env = pure (some [x, y, z])) :
    PS X (.Assign [.Tuple [.Name x px, .Name y py, .Name z pz] kt pt] (.Tuple [a, b, c] k2 pt2) p) (tEx B (.set (.tup (.cons (.v i) (.cons (.v j) (.cons (.v l) .nil)))) (.tup cs))) :=
  PSimp (ps_par3 hc S.nd hi hj hl hij hil hjl hx hy hz ha hw) fun D σ H ⟨F, I, L, env, fr, q⟩ => by
    have q' : PostS B D (within env ((evs B.G cs env L).bind fun ds L => sized ds.length (.tup ds) L) fun d L => optS ((CT.tup (.cons (.v i) (.cons (.v j) (.cons (.v l) .nil)))).put d env) fun env => .ok .next env L) := q
    refine ⟨F, I, L, env, fr, ?_⟩
    cases r : evs B.G cs env L with
    | ok ds L1 =>
      rw [r] at q'
      intro F1 I1 H1 vs st w rs
      have fr1 := fr.step st w
      have q2 : PostS B D (within env (sized ds.length (.tup ds) L1) fun d L => optS ((CT.tup (.cons (.v i) (.cons (.v j) (.cons (.v l) .nil)))).put d env) fun env => .ok .next env L) := q'
      unfold sized at q2
      split at q2
      · match ds, rs, q2 with
        | [d1, d2, d3], .cons r1 (.cons r2 (.cons r3 .nil)), q2 => exact ⟨_, _, _, rfl, q2 F1 I1 H1 _ (fr_set (fr_set (fr_set fr1 r1) r2) r3)⟩
        | [], _, q2 => exact q2.elim
        | [_], _, q2 => exact q2.elim
        | [_, _], _, q2 => exact q2.elim
        | _ :: _ :: _ :: _ :: _, _, q2 => exact q2.elim
      · exact q2.elim
    | exc k vs L1 =>
      rw [r] at q'
      exact fun F1 I1 H1 cls d st w xr => q' F1 I1 H1 σ cls d (fr.step st w) xr
    | bad => rw [r] at q'; exact q'.elim
/-! ### the body's own objects changed -/
theorem still_not {u : HO} (m : Moves u) : ¬ Still u := by cases u <;> first | exact m.elim | exact fun z => z
/-- H with the object at p changed: what the entry had stands but the cells and what is the body's own -/
theorem step_upd {ro : Bool} {E : Ent} {F : Addr → Prop} {I : List Addr} {H : Hp} {p : Addr} {u o' : HO} (st : Step ro E.ex E.F E.I E.H F I H) (exo : ∀ p, E.ex p → ∃ u, E.H p = some u ∧ Moves u) (hp : H p = some u) (mu : Moves u)
    (mine : (E.H p = none ∨ E.ex p) ∨ (ro = false ∧ p ∈ I)) : Step ro E.ex E.F E.I E.H F I (upd H p o') := by
  refine ⟨fun q w e i x => ?_, fun q w e => ?_, fun q w e s => ?_, st.more, st.new, st.pre, fun z => ⟨fun q w e x => ?_, (st.rok z).2⟩⟩
  · have ne : q ≠ p := by
      rintro rfl
      rcases mine with (m | m) | ⟨_, m⟩
      · rw [m] at e; cases e
      · exact x m
      · obtain ⟨k, e1, e2⟩ := st.pre
        rw [e1, List.mem_append] at m
        rcases m with m | m
        · exact i m
        · rw [e2 q m] at e; cases e
    rw [upd_ne ne]
    exact st.keep q w e i x
  · by_cases q1 : q = p
    · subst q1
      exact ⟨o', upd_same⟩
    · rw [upd_ne q1]
      exact st.there q w e
  · have e1 := st.still q w e s
    have ne : q ≠ p := by
      rintro rfl
      rw [hp] at e1
      cases e1
      exact still_not mu s
    rw [upd_ne ne]
    exact e1
  · have ne : q ≠ p := by
      rintro rfl
      rcases mine with (m | m) | ⟨m, _⟩
      · rw [m] at e; cases e
      · exact x m
      · rw [z] at m; cases m
    rw [upd_ne ne]
    exact (st.rok z).1 q w e x
theorem SRep.upd {T : View} {F : Addr → Prop} {I : List Addr} {H : Hp} {M ex : Addr → Prop} {s : S} {v : V} {p : Addr} {o' : HO} (kp : Keeps F I H F I (L2.upd H p o')) (r : SRep T F I H M ex s v) (ne : isOwn s = true → v ≠ .ref p) : SRep T F I (L2.upd H p o') M ex s v := by
  cases s with
  | val d => exact Rep.keeps kp r
  | olst ds =>
    obtain ⟨q, xs, rfl, o, h1, h2⟩ := r
    exact ⟨q, xs, rfl, o, by rw [upd_ne (fun z => ne rfl (by rw [z]))]; exact h1, h2.keeps kp⟩
  | odct ks vs =>
    obtain ⟨q, rfl, o, h1⟩ := r
    exact ⟨q, rfl, o, h1.keeps kp fun w e => by rw [upd_ne (fun z => ne rfl (by rw [z]))]; exact e⟩
  | oins c vs =>
    obtain ⟨q, dx, fs, rfl, o, h1, h2, h3⟩ := r
    exact ⟨q, dx, fs, rfl, o, by rw [upd_ne (fun z => ne rfl (by rw [z]))]; exact h1, h2, h3.keeps kp⟩
theorem fr_upd {i : Nat} {p : Addr} {u o' : HO} {s s' : S} (fr : B.fr F I H L σ env) (e : slot env i = some s) (os : isOwn s = true) (e1 : σ[i]? = some (some (.ref p))) (nf : ¬ F p) (ni : p ∉ I) (mine : E.H p = none ∨ E.ex p) (hE : E = B.E) (hp : H p = some u) (mu : Moves u) (os' : isOwn s' = true)
    (r' : SRep B.T F I (L2.upd H p o') B.E.M B.E.sx s' (.ref p)) : B.fr F I (L2.upd H p o') L σ (env.set i (some s')) := by
  subst hE
  have kp : Keeps F I H F I (L2.upd H p o') := keeps_upd nf hp mu
  refine ⟨⟨fun q f => ?_, fr.wf.ap, fr.wf.nd, fr.wf.len, fun k a c h1 h2 => ?_⟩, by simp [fr.len], fun j t ht => ?_, fun j k t t' q ht ht' o o' q1 q2 => ?_, step_upd fr.st fr.exo hp mu (.inl mine), fr.exo⟩
  · have ne : q ≠ p := fun z => nf (by rw [← z]; exact f)
    rw [upd_ne ne]
    exact fr.wf.fr q f
  · refine (fr.wf.at_ k a c h1 h2).keeps kp fun w hw => ?_
    rw [upd_ne (fun z => ni (by rw [← z]; exact List.mem_of_getElem? h1))]
    exact hw
  · rcases slot_set ht with ⟨rfl, et, hl⟩ | ⟨ne, et⟩
    · cases et
      exact ⟨_, e1, r'⟩
    · obtain ⟨v', e2, r2⟩ := fr.sl j t et
      refine ⟨v', e2, r2.upd kp fun ot ev => ?_⟩
      subst ev
      exact ne (fr.ap j i t s p et e ot os e2 e1)
  · rcases slot_set ht with ⟨rfl, et, _⟩ | ⟨ne, et⟩
    · rcases slot_set ht' with ⟨rfl, et', _⟩ | ⟨ne', et'⟩
      · rfl
      · exact fr.ap _ _ s t' q e et' os o' q1 q2
    · rcases slot_set ht' with ⟨rfl, et', _⟩ | ⟨ne', et'⟩
      · exact fr.ap _ _ t s q et e o os q1 q2
      · exact fr.ap j k t t' q et et' o o' q1 q2
end
end Wa

set_option Elab.async false
set_option linter.all false
set_option maxRecDepth 100000
set_option maxHeartbeats 4000000
/-! WaStm2: lists, dicts, fields changed. -/
namespace Wa
open PySem PySem.Spec PyProof.Rows L2

section
variable {B : Bd} {X : Cx} {n : Nat} {e a b c : Expr} {es : List Expr} {p p2 apos : Pos} {ca cb cc : CE} {oa ob oc : CO} {cs : CEs} {os : COs} {D : Ends} {σ : L2.St} {H : Hp} {F : Addr → Prop} {I : List Addr} {L : List Cell} {env : Env}
/-- a method call that is a statement -/
structure StmCall (apos cpos : Pos) (es : List Expr) : Prop where
  line : (apos.endLine == cpos.line) = true
  few : es.length < 29
  star : ∀ e ∈ es, ∀ v q, e ≠ .Starred v q
theorem few_ok {es : List Expr} {env : PySem.Env} {cpos : Pos} (hs : ∀ e ∈ es, ∀ v q, e ≠ .Starred v q) (hl : es.length < 29) : ((backTo cpos (starEach es env)).all (fun x => !x.1) && (backToKw cpos (keywordEach [] env)).all (fun x => x.1.isSome)
      && decide (es.length + ([] : List Keyword).length + (if ([] : List Keyword).isEmpty then 0 else 1) < 30)) = true := by
  have h1 : (backTo cpos (starEach es env)).all (fun x => !x.1) = true := by
    have := noStar (env := env) (pos := cpos) hs
    rw [List.all_eq_true]
    intro x hx
    rw [List.any_eq_false] at this
    simpa using this x hx
  have h2 : decide (es.length + ([] : List Keyword).length + (if ([] : List Keyword).isEmpty then 0 else 1) < 30) = true := decide_eq_true (by simp; omega)
  rw [h1, h2]
  rfl
theorem nameBase {x f : Str} {q : Pos} {env : PySem.Env} : attributeBase (.Name x q) f env (eval (.Name x q) env) = eval (.Name x q) env := abase fun _ _ _ h => by cases h
/-- the slot of a list of the body's own -/
theorem own_lst {i : Nat} {ds : List Wa.D} (fr : B.fr F I H L σ env) (e : slot env i = some (.olst ds)) : ∃ p xs, σ[i]? = some (some (.ref p)) ∧ Own F I B.E.M p ∧ H p = some (.lst xs) ∧ Reps B.T F I H ds xs := by
  obtain ⟨v, e1, p, xs, rfl, o, h1, h2⟩ := fr.sl i _ e
  exact ⟨p, xs, e1, o, h1, h2⟩
theorem own_dct {i : Nat} {ks vs : List Wa.D} (fr : B.fr F I H L σ env) (e : slot env i = some (.odct ks vs)) : ∃ p, σ[i]? = some (some (.ref p)) ∧ Own F I B.E.M p ∧ DctAt B.T F I H p ks vs := by
  obtain ⟨v, e1, p, rfl, o, h1⟩ := fr.sl i _ e
  exact ⟨p, e1, o, h1⟩
theorem own_lstAt {i : Nat} {ds : List Wa.D} {pa : Addr} (fr : B.fr F I H L σ env) (e : slot env i = some (.olst ds)) (e1 : σ[i]? = some (some (.ref pa))) : ∃ xs, Own F I B.E.M pa ∧ H pa = some (.lst xs) ∧ Reps B.T F I H ds xs := by
  obtain ⟨p, xs, e2, h⟩ := own_lst fr e
  rw [e1] at e2
  cases e2
  exact ⟨xs, h⟩
theorem own_dctAt {i : Nat} {ks vs : List Wa.D} {pa : Addr} (fr : B.fr F I H L σ env) (e : slot env i = some (.odct ks vs)) (e1 : σ[i]? = some (some (.ref pa))) : Own F I B.E.M pa ∧ DctAt B.T F I H pa ks vs := by
  obtain ⟨p, e2, h⟩ := own_dct fr e
  rw [e1] at e2
  cases e2
  exact h
theorem fr_lst {i : Nat} {ds ds' : List Wa.D} {pa : Addr} {xs ys : List V} (fr : B.fr F I H L σ env) (e : slot env i = some (.olst ds)) (e1 : σ[i]? = some (some (.ref pa))) (o : Own F I B.E.M pa) (h1 : H pa = some (.lst xs)) (r : Reps B.T F I H ds' ys) :
    B.fr F I (L2.upd H pa (.lst ys)) L σ (env.set i (some (.olst ds'))) :=
  fr_upd fr e rfl e1 o.nf o.ni o.mine rfl h1 trivial rfl ⟨pa, ys, rfl, o, upd_same, r.keeps (keeps_upd o.nf h1 trivial)⟩
theorem one_arg {Q : List V → Hp → Prop} (h : B.post σ F I H (rE B) (ev B.G ca env L) fun v H => Q [v] H) : B.post σ F I H (rEs B) (evs B.G (.cons ca .nil) env L) Q := by
  show B.post σ F I H (rEs B) ((ev B.G ca env L).bind fun x L => .ok [x] L) Q
  cases r : ev B.G ca env L with
  | ok d L1 =>
    rw [r] at h
    exact fun F1 I1 H1 vs st w ra => by
      cases ra with
      | cons ra r0 => cases r0; exact h F1 I1 H1 _ st w ra
  | exc c vs L1 => rw [r] at h; exact h
  | bad => rw [r] at h; exact h
theorem one_argO {Q : List V → Hp → Prop} {oa : CO} (h : B.post σ F I H (rO B) (evO B.G oa env L) fun v H => Q [v] H) : B.post σ F I H (fun F I H => RepQ B.T F I H (.cons oa .nil)) (evOs B.G (.cons oa .nil) env L) Q := by
  show B.post σ F I H (fun F I H => RepQ B.T F I H (.cons oa .nil)) ((evO B.G oa env L).bind fun x L => .ok [x] L) Q
  cases r : evO B.G oa env L with
  | ok d L1 =>
    rw [r] at h
    exact fun F1 I1 H1 vs st w ra => by
      cases ra with
      | e ra r0 => cases r0; exact h F1 I1 H1 _ st w (.inl ra)
      | pk ra r0 => cases r0; exact h F1 I1 H1 _ st w ra
  | exc c vs L1 => rw [r] at h; exact h
  | bad => rw [r] at h; exact h
theorem s_app (S : Sx B X n) {i : Nat} {x : Str} {xp : Pos} (hN : X.N[i]? = some x) (hv : Vis X.env.scope x) (hd : (x == ("__debug__" : Str)) = false) (hc : (x == ("__classdict__" : Str)) = false) (sc : StmCall apos p2 [e]) (h : PE X e (tEv B ca)) :
    PS X (.Expr (.Call (.Attribute (.Name x xp) "append" apos) [e] [] p2) p) (tEx B (.app i ca)) :=
  PSimp (ps_expr (pe_bm PySem.F.plainAttrs_list PySem.F.slot_list_append PySem.F.type_list_append mt_append (pe_var (i := i) hN hv hd hc) (a_cons h a_nil (sc.star e List.mem_cons_self)) nameBase (few_ok sc.star sc.few) sc.line (starE (sc.star e List.mem_cons_self)) rfl) (swaps_none rfl)) fun D σ H ⟨F, I, L, env, fr, q⟩ => by
    have q' : PostS B D (ex B.G _ env L) := q
    unfold ex at q'
    split at q'
    · rename_i xs es
      obtain ⟨pa, ys, e1, o, h1, rs⟩ := own_lst fr es
      refine ⟨_, e1, .inl ⟨rfl, _, .inl (.inl h1)⟩, F, I, L, env, fr, one_arg (withinS fr q' fun d L1 F1 I1 H1 v st fr1 ra h1 => ?_)⟩
      split at h1
      · rename_i hl
        obtain ⟨zs, o, h2, rs⟩ := own_lstAt fr1 es e1
        exact ⟨pa, zs, v, rfl, rfl, h2, by rw [← rs.length]; exact hl, h1 _ _ _ _ (fr_lst fr1 es e1 o h2 (rs.append (.cons ra .nil)))⟩
      · exact h1.elim
    · exact q'.elim
/-! ### extend -/
theorem mt_extendR : MtM X "list.extend" fun x vs H Q => ∃ l b xs zs, x = .ref l ∧ vs = [.ref b] ∧ H l = some (.lst xs) ∧ Rd H b (.lst zs) ∧ xs.length + zs.length ≤ sizeLine ∧ Q .non (L2.upd H l (.lst (xs ++ zs))) := by
  rintro pins s σ H x vs v us Q J rx rv ⟨l, b, xs, zs, rfl, rfl, hH, hB, hz, q⟩
  obtain rfl := rx
  cases rv with
  | cons r1 r0 =>
    cases r0
    obtain rfl := r1
    obtain ⟨z1, its, n1, r1, hl1, e1⟩ := J.lstM hH
    obtain ⟨z2, its2, n2, r2, hl2, e2⟩ := Rd.its J hB
    have hn : ¬ ((!its.toArray.isEmpty && Builtin.List.listTooLong (its.toArray.size + its2.toArray.size)) = true) := by
      rw [notLongL (by simp only [List.size_toArray]; omega), Bool.and_false]
      exact Bool.false_ne_true
    refine PySem.call_meets PySem.F.slot_list_extend ⟨_, e1, rfl⟩ PySem.F.entry_list_extend (PySem.F.args_list_extend_2 _ _) (PySem.AutoSeq1.list_extend_list_list_0 l its.toArray n1 b its2.toArray n2 hn (by simp only [List.size_toArray]; omega) (by simp only [List.size_toArray]; omega)) ⟨e1, e2, ?_⟩
    refine ⟨.non, _, J.lset (its' := its ++ its2) hH e1 (by simp) (r1.append r2) (by rw [List.length_append]; omega), rfl, q⟩
theorem s_ext (S : Sx B X n) {i : Nat} {x : Str} {xp : Pos} (hN : X.N[i]? = some x) (hv : Vis X.env.scope x) (hd : (x == ("__debug__" : Str)) = false) (hc : (x == ("__classdict__" : Str)) = false) (sc : StmCall apos p2 [e]) (h : PE X e (tEv B ca)) :
    PS X (.Expr (.Call (.Attribute (.Name x xp) "extend" apos) [e] [] p2) p) (tEx B (.ext i ca)) :=
  PSimp (ps_expr (pe_bm PySem.F.plainAttrs_list PySem.F.slot_list_extend PySem.F.type_list_extend mt_extendR (pe_var (i := i) hN hv hd hc) (a_cons h a_nil (sc.star e List.mem_cons_self)) nameBase (few_ok sc.star sc.few) sc.line (starE (sc.star e List.mem_cons_self)) rfl) (swaps_none rfl)) fun D σ H ⟨F, I, L, env, fr, q⟩ => by
    have q' : PostS B D (ex B.G _ env L) := q
    unfold ex at q'
    split at q'
    · rename_i xs es
      obtain ⟨pa, ys, e1, o, h1, rs⟩ := own_lst fr es
      refine ⟨_, e1, .inl ⟨rfl, _, .inl (.inl h1)⟩, F, I, L, env, fr, one_arg (withinS fr q' fun d L1 F1 I1 H1 v st fr1 ra h1 => ?_)⟩
      split at h1
      · rename_i zs'
        split at h1
        · rename_i hl
          obtain ⟨zs, o, h2, rs⟩ := own_lstAt fr1 es e1
          cases ra with
          | @lst pb us _ fb hb rb => exact ⟨pa, pb, zs, us, rfl, rfl, h2, hb, by rw [← rs.length, ← rb.length]; exact hl, h1 _ _ _ _ (fr_lst fr1 es e1 o h2 (rs.append rb))⟩
        · exact h1.elim
      · exact h1.elim
    · exact q'.elim
/-! ### stores by [] -/
theorem ps_put {o i value : Expr} {pos pos' : Pos} {to ti tv : TE} {r : TSet} (hr : PSet X r) (ho : PE X o to) (hi : PE X i ti) (hv : PE X value tv) (hn : noSwap value = true) :
    PS X (.Assign [.Subscript o i pos'] value pos) (fun D σ H => tv σ H fun v H1 => to σ H1 fun x H2 => ti σ H2 fun y H3 => r x y v H3 fun H4 => D.nx σ H4) :=
  ⟨fun pins s σ H D J q => wpAny_Assign_Subscript (thn (hv.run pins s σ H _ J q) fun u s1 ⟨v, H1, J1, r1, q1⟩ => thn (ho.run pins s1 σ H1 _ J1 q1) fun ov s2 ⟨x, H2, J2, r2, q2⟩ =>
    thn (hi.run pins s2 σ H2 _ J2 q2) fun iv s3 ⟨y, H3, J3, r3, q3⟩ => thn (hr pins s3 σ H3 x y v ov iv u _ J3 r2 r3 r1 q3) fun _ s4 ⟨H4, J4, q4⟩ => ⟨σ, H4, J4, q4⟩) (swaps_none hn)⟩
def rPut (T : View) : TSet := fun o i v H Q => ∃ F I p, o = .ref p ∧ ¬ F p ∧
  ((∃ xs k j, i = .int k ∧ H p = some (.lst xs) ∧ Wa.ixN xs.length k = some j ∧ Q (L2.upd H p (.lst (xs.set j v)))) ∨
   ∃ ks vs k d r, DctAt T F I H p ks vs ∧ putC k d ks vs = some r ∧ Rep T F I H k i ∧ Rep T F I H d v ∧ ∀ o', Moves o' → DctAt T F I (L2.upd H p o') p r.1 r.2 → Q (L2.upd H p o'))
theorem set_data (S : Sx B X n) : PSet X (rPut B.T) := by
  rintro pins s σ H o i v ov iv u Q J ro ri rv ⟨F, I, p, rfl, nf, h⟩
  rcases h with ⟨xs, k, j, rfl, hp, hj, q⟩ | ⟨ks, vs, k, d, r, h1, h2, h3, h4, q⟩
  · exact set_list pins s σ H _ _ v ov iv u Q J ro ri rv ⟨p, xs, k, j, rfl, rfl, hp, hj, q⟩
  · obtain rfl := ro
    exact d_put J S.K.symm S.w (by have := S.un; omega) nf h1 h2 h3 ri h4 rv fun s' o' J' m d' => ⟨_, J', q o' m d'⟩
theorem s_lput (S : Sx B X n) {i : Nat} {x : Str} {xp pos' : Pos} (hN : X.N[i]? = some x) (hv : Vis X.env.scope x) (hd : (x == ("__debug__" : Str)) = false) (hc : (x == ("__classdict__" : Str)) = false) (hk : PE X a (tEv B ca)) (h : PE X b (tEv B cb)) (hn : noSwap b = true) :
    PS X (.Assign [.Subscript (.Name x xp) a pos'] b p) (tEx B (.lput i ca cb)) :=
  PSimp (ps_put (set_data S) (pe_var (i := i) hN hv hd hc) hk h hn) fun D σ H ⟨F, I, L, env, fr, q⟩ => by
    have q' : PostS B D (ex B.G _ env L) := q
    unfold ex at q'
    split at q'
    · rename_i xs es
      obtain ⟨pa, ys, e1, o, h1, rs⟩ := own_lst fr es
      refine ⟨F, I, L, env, fr, withinS fr q' fun d L1 F1 I1 H1 v st fr1 ra h1 => ⟨_, e1, F1, I1, L1, env, fr1, withinS fr1 h1 fun k L2 F2 I2 H2 y st2 fr2 rk h2 => ?_⟩⟩
      split at h2
      · rename_i j
        cases rk
        obtain ⟨zs, o, h3, rs⟩ := own_lstAt fr2 es e1
        cases ej : Wa.ixN xs.length j with
        | none => rw [ej] at h2; exact h2.elim
        | some m =>
          rw [ej] at h2
          exact ⟨F2, I2, pa, rfl, o.nf, .inl ⟨zs, j, m, rfl, h3, by rw [← rs.length]; exact ej, h2 _ _ _ _ (fr_lst fr2 es e1 o h3 (rs.set m (ra.keeps (st2.keeps0 fr1.wf))))⟩⟩
      · exact h2.elim
    · exact q'.elim
theorem fr_dct {i : Nat} {ks vs : List Wa.D} {r : List Wa.D × List Wa.D} {pa : Addr} {o' : HO} (fr : B.fr F I H L σ env) (e : slot env i = some (.odct ks vs)) (e1 : σ[i]? = some (some (.ref pa))) (o : Own F I B.E.M pa) (h1 : DctAt B.T F I H pa ks vs) (rr : DctAt B.T F I (L2.upd H pa o') pa r.1 r.2) :
    B.fr F I (L2.upd H pa o') L σ (env.set i (some (.odct r.1 r.2))) := by
  obtain ⟨u, hu, mu⟩ := h1.some
  exact fr_upd fr e rfl e1 o.nf o.ni o.mine rfl hu mu rfl ⟨pa, rfl, o, rr⟩
theorem s_dput (S : Sx B X n) {i : Nat} {x : Str} {xp pos' : Pos} (hN : X.N[i]? = some x) (hv : Vis X.env.scope x) (hd : (x == ("__debug__" : Str)) = false) (hc : (x == ("__classdict__" : Str)) = false) (hk : PE X a (tEv B ca)) (h : PE X b (tEv B cb)) (hn : noSwap b = true) :
    PS X (.Assign [.Subscript (.Name x xp) a pos'] b p) (tEx B (.dput i ca cb)) :=
  PSimp (ps_put (set_data S) (pe_var (i := i) hN hv hd hc) hk h hn) fun D σ H ⟨F, I, L, env, fr, q⟩ => by
    have q' : PostS B D (ex B.G _ env L) := q
    unfold ex at q'
    split at q'
    · rename_i ks vs es
      obtain ⟨pa, e1, o, h1⟩ := own_dct fr es
      refine ⟨F, I, L, env, fr, withinS fr q' fun d L1 F1 I1 H1 v st fr1 ra h1 => ⟨_, e1, F1, I1, L1, env, fr1, withinS fr1 h1 fun k L2 F2 I2 H2 y st2 fr2 rk h2 => ?_⟩⟩
      obtain ⟨o, h3⟩ := own_dctAt fr2 es e1
      cases ej : putC k d ks vs with
      | none => rw [ej] at h2; exact h2.elim
      | some r =>
        rw [ej] at h2
        exact ⟨F2, I2, pa, rfl, o.nf, .inr ⟨ks, vs, k, d, r, h3, ej, rk, ra.keeps (st2.keeps0 fr1.wf), fun o' m d' => h2 _ _ _ _ (fr_dct fr2 es e1 o h3 d')⟩⟩
    · exact q'.elim
/-! ### cells -/
theorem fr_cell {i : Nat} {pa : Addr} {c c' : Cell} {o' : HO} (fr : B.fr F I H L σ env) (hr : B.G.ro = false) (e1 : I[i]? = some pa) (e2 : L[i]? = some c) (r : CellAt B.T F I (L2.upd H pa o') pa c') : B.fr F I (L2.upd H pa o') (L.set i c') σ env := by
  have mem : pa ∈ I := List.mem_of_getElem? e1
  have nf : ¬ F pa := fr.wf.ap pa mem
  obtain ⟨u, hp, mu⟩ := (fr.wf.at_ i pa c e1 e2).some
  have kp : Keeps F I H F I (L2.upd H pa o') := keeps_upd nf hp mu
  refine ⟨⟨fun q f => ?_, fr.wf.ap, fr.wf.nd, by rw [List.length_set]; exact fr.wf.len, fun k a d h1 h2 => ?_⟩, fr.len, fun j t ht => ?_, fr.ap, step_upd fr.st fr.exo hp mu (.inr ⟨hr, mem⟩), fr.exo⟩
  · have ne : q ≠ pa := fun z => nf (by rw [← z]; exact f)
    rw [upd_ne ne]
    exact fr.wf.fr q f
  · by_cases z : i = k
    · subst z
      rw [e1] at h1
      cases h1
      have hl : i < L.length := (List.getElem?_eq_some_iff.mp e2).1
      rw [List.getElem?_set_self hl] at h2
      cases h2
      exact r
    · rw [List.getElem?_set_ne z] at h2
      refine (fr.wf.at_ k a d h1 h2).keeps kp fun w hw => ?_
      have ne : a ≠ pa := by
        rintro rfl
        have i1 := (List.getElem?_eq_some_iff.mp e1)
        have i2 := (List.getElem?_eq_some_iff.mp h1)
        exact z ((List.getElem_inj fr.wf.nd).mp (i1.2.trans i2.2.symm))
      rw [upd_ne ne]
      exact hw
  · obtain ⟨v', e3, r'⟩ := fr.sl j t ht
    refine ⟨v', e3, r'.upd kp fun ot ev => ?_⟩
    subst ev
    cases t with
    | val d => cases ot
    | olst ds => obtain ⟨q, xs, ev, o, _⟩ := r'; cases ev; exact o.ni mem
    | odct ks vs => obtain ⟨q, ev, o, _⟩ := r'; cases ev; exact o.ni mem
    | oins k vs => obtain ⟨q, dx, fs, ev, o, _⟩ := r'; cases ev; exact o.ni mem
theorem ref_at {i : Nat} {v : V} (r : Rep B.T F I H (.ref i) v) : ∃ pa, v = .ref pa ∧ I[i]? = some pa := by
  cases r with
  | ref h => exact ⟨_, rfl, h⟩
theorem s_rput (S : Sx B X n) {pos' : Pos} (ho : PE X c (tEv B cc)) (hk : PE X a (tEv B ca)) (h : PE X b (tEv B cb)) (hn : noSwap b = true) :
    PS X (.Assign [.Subscript c a pos'] b p) (tEx B (.rput cc ca cb)) :=
  PSimp (ps_put (set_data S) ho hk h hn) fun D σ H ⟨F, I, L, env, fr, q⟩ => by
    have q' : PostS B D (ex B.G _ env L) := q
    unfold ex at q'
    split at q'
    · exact q'.elim
    · rename_i hro
      have hro : B.G.ro = false := by simpa using hro
      refine ⟨F, I, L, env, fr, withinS fr q' fun d L1 F1 I1 H1 v st fr1 ra h1 => ⟨F1, I1, L1, env, fr1, withinS fr1 h1 fun x L2 F2 I2 H2 vx st2 fr2 rx h2 => ⟨F2, I2, L2, env, fr2, withinS fr2 h2 fun k L3 F3 I3 H3 y st3 fr3 rk h3 => ?_⟩⟩⟩
      have rd := (ra.keeps (st2.keeps0 fr1.wf)).keeps (st3.keeps0 fr2.wf)
      have rx := rx.keeps (st3.keeps0 fr2.wf)
      split at h3
      · rename_i i
        obtain ⟨pa, rfl, ei⟩ := ref_at rx
        have nf : ¬ F3 pa := fr3.wf.ap pa (List.mem_of_getElem? ei)
        split at h3
        · rename_i xs el
          split at h3
          · rename_i j
            cases rk
            obtain ⟨zs, hz, rs⟩ := fr3.wf.at_ _ pa _ ei el
            cases ej : Wa.ixN xs.length j with
            | none => rw [ej] at h3; exact h3.elim
            | some m =>
              rw [ej] at h3
              exact ⟨F3, I3, pa, rfl, nf, .inl ⟨zs, j, m, rfl, hz, by rw [← rs.length]; exact ej, h3 _ _ _ _ (fr_cell fr3 hro ei el ⟨_, upd_same, (rs.set m rd).keeps (keeps_upd nf hz trivial)⟩)⟩⟩
          · exact h3.elim
        · rename_i ks vs el
          have dd : DctAt B.T F3 I3 H3 pa ks vs := fr3.wf.at_ _ pa _ ei el
          cases ej : putC k d ks vs with
          | none => rw [ej] at h3; exact h3.elim
          | some r =>
            rw [ej] at h3
            exact ⟨F3, I3, pa, rfl, nf, .inr ⟨ks, vs, k, d, r, dd, ej, rk, rd, fun o' m d' => h3 _ _ _ _ (fr_cell fr3 hro ei el d')⟩⟩
        · exact h3.elim
      · exact h3.elim
theorem s_rapp (S : Sx B X n) (sc : StmCall apos p2 [e]) (hb : ∀ x q q', a ≠ .Call (.Name x q) [] [] q') (ho : PE X a (tEv B ca)) (h : PE X e (tEv B cb)) :
    PS X (.Expr (.Call (.Attribute a "append" apos) [e] [] p2) p) (tEx B (.rapp ca cb)) :=
  PSimp (ps_expr (pe_bm PySem.F.plainAttrs_list PySem.F.slot_list_append PySem.F.type_list_append mt_append ho (a_cons h a_nil (sc.star e List.mem_cons_self)) (abase hb) (few_ok sc.star sc.few) sc.line (starE (sc.star e List.mem_cons_self)) rfl) (swaps_none rfl)) fun D σ H ⟨F, I, L, env, fr, q⟩ => by
    have q' : PostS B D (ex B.G _ env L) := q
    unfold ex at q'
    split at q'
    · exact q'.elim
    · rename_i hro
      have hro : B.G.ro = false := by simpa using hro
      refine ⟨F, I, L, env, fr, withinS fr q' fun x L1 F1 I1 H1 vx st fr1 rx h1 => ?_⟩
      split at h1
      · rename_i i
        obtain ⟨pa, rfl, ei⟩ := ref_at rx
        split at h1
        · rename_i xs0 el0
          obtain ⟨zs0, hz0, _⟩ := fr1.wf.at_ _ pa _ ei el0
          refine ⟨.inl ⟨rfl, _, .inl (.inl hz0)⟩, F1, I1, L1, env, fr1, one_arg (withinS fr1 h1 fun d L2 F2 I2 H2 v st2 fr2 ra h2 => ?_)⟩
          obtain ⟨pb, eb, ei⟩ := ref_at (rx.keeps (st2.keeps0 fr1.wf))
          cases eb
          split at h2
          · rename_i xs el
            obtain ⟨zs, hz, rs⟩ := fr2.wf.at_ _ pa _ ei el
            split at h2
            · rename_i hl
              exact ⟨pa, zs, v, rfl, rfl, hz, by rw [← rs.length]; exact hl, h2 _ _ _ _ (fr_cell fr2 hro ei el ⟨_, upd_same, (rs.append (.cons ra .nil)).keeps (keeps_upd (fr2.wf.ap pa (List.mem_of_getElem? ei)) hz trivial)⟩)⟩
            · exact h2.elim
          · exact h2.elim
        · exact h1.elim
      · exact h1.elim
/-! ### fields -/
theorem putF_new {f : Str} {v : V} : ∀ {fs : List (Str × V)}, f ∉ fs.map (·.1) → L2.putF f v fs = fs ++ [(f, v)]
  | [], _ => rfl
  | (g, x) :: r, h => by
    have hg : g ≠ f := fun z => h (by simp [z])
    have hr : f ∉ r.map (·.1) := fun z => h (by simp only [List.map_cons, List.mem_cons]; exact .inr z)
    show (if g = f then (g, v) :: r else (g, x) :: L2.putF f v r) = _
    rw [if_neg hg, putF_new hr]
    rfl
theorem putF_at {f : Str} {v : V} : ∀ {fs : List (Str × V)} {i : Nat}, (fs.map (·.1)).Nodup → (fs.map (·.1))[i]? = some f → (L2.putF f v fs).map (·.1) = fs.map (·.1) ∧ (L2.putF f v fs).map (·.2) = (fs.map (·.2)).set i v
  | [], i, _, h => by simp at h
  | (g, x) :: r, i, nd, h => by
    obtain ⟨n1, n2⟩ := List.nodup_cons.mp nd
    have e : L2.putF f v ((g, x) :: r) = if g = f then (g, v) :: r else (g, x) :: L2.putF f v r := rfl
    cases i with
    | zero =>
      obtain rfl : g = f := by simpa using h
      rw [e, if_pos rfl]
      exact ⟨rfl, rfl⟩
    | succ i =>
      have h' : (r.map (·.1))[i]? = some f := by simpa using h
      have hg : g ≠ f := fun z => n1 (by rw [z]; exact List.mem_of_getElem? h')
      obtain ⟨i1, i2⟩ := putF_at (v := v) n2 h'
      rw [e, if_neg hg]
      exact ⟨by simp only [List.map_cons, i1], by simp only [List.map_cons, i2, List.set_cons_succ]⟩
theorem take_get {α : Type} {xs : List α} {n : Nat} {x : α} (h : xs[n]? = some x) : xs.take (n + 1) = xs.take n ++ [x] := by
  rw [List.take_add_one, h]
  rfl
theorem flds_put {T : View} {H' : Hp} {cl f : Nat} {x : Str} {fs : List (Str × V)} {vs : List Wa.D} {d : Wa.D} {v : V} (hc : ClsAt T cl) (hf : (T.flds cl)[f]? = some x) (e : fs.map (·.1) = (T.flds cl).take vs.length) (r : Reps T F I H' vs (fs.map (·.2))) (rd : Rep T F I H' d v) (hl : f ≤ vs.length) :
    (L2.putF x v fs).map (·.1) = (T.flds cl).take (setN vs f d).length ∧ Reps T F I H' (setN vs f d) ((L2.putF x v fs).map (·.2)) := by
  have hlen : fs.length = vs.length := by rw [r.length, List.length_map]
  have hlt := (List.getElem?_eq_some_iff.mp hf).1
  unfold setN
  by_cases z : f = vs.length
  · rw [if_pos z]
    have nm : x ∉ fs.map (·.1) := by
      rw [e]
      intro m
      obtain ⟨j, hj, ej⟩ := List.mem_iff_getElem.mp m
      rw [List.length_take] at hj
      rw [List.getElem_take] at ej
      have := (List.getElem?_eq_some_iff.mp hf).2
      have := (List.getElem_inj hc.nd).mp (ej.trans this.symm)
      omega
    rw [putF_new nm]
    refine ⟨?_, ?_⟩
    · rw [List.map_append, e, List.length_append, ← z]
      exact (take_get hf).symm
    · rw [List.map_append]
      exact r.append (.cons rd .nil)
  · rw [if_neg z]
    have hl' : f < vs.length := by omega
    have nd : (fs.map (·.1)).Nodup := by
      rw [e]
      exact List.Sublist.nodup (List.take_sublist _ _) hc.nd
    have g : (fs.map (·.1))[f]? = some x := by
      rw [e, List.getElem?_take, if_pos hl']
      exact hf
    obtain ⟨i1, i2⟩ := putF_at (v := v) nd g
    refine ⟨by rw [i1, e, List.length_set], ?_⟩
    rw [i2]
    exact r.set f rd
theorem swapsAttr {e o : Expr} {f : Str} {q : Pos} {l : Nat} {env : PySem.Env} : swapsWith e (some (.Attribute o f q)) l env = pure false := by
  cases e <;> rfl
theorem s_self (S : Sx B X n) {cl f : Nat} {x y : Str} {xp pos' : Pos} (hc : ClsAt B.T cl) (hf : (B.T.flds cl)[f]? = some y) (hN : X.N[0]? = some x) (hv : Vis X.env.scope x) (hd : (x == ("__debug__" : Str)) = false) (hcd : (x == ("__classdict__" : Str)) = false) (h : PE X e (tEv B ca)) :
    PS X (.Assign [.Attribute (.Name x xp) y pos'] e p) (tEx B (.self cl f ca)) :=
  PSimp (ps_fld (pe_var (i := 0) hN hv hd hcd) h swapsAttr) fun D σ H ⟨F, I, L, env, fr, q⟩ => by
    have q' : PostS B D (ex B.G _ env L) := q
    unfold ex at q'
    split at q'
    · rename_i c' vs es
      split at q'
      · rename_i hcc
        subst hcc
        obtain ⟨v0, e1, pa, dx, fs, rfl, o, h1, h2, h3⟩ := fr.sl 0 _ es
        refine ⟨F, I, L, env, fr, withinS fr q' fun d L1 F1 I1 H1 v st fr1 ra h1 => ⟨_, e1, ?_⟩⟩
        obtain ⟨v0', e1', pa', dx, fs, rfl, o, h2, h3, h4⟩ := fr1.sl 0 _ es
        rw [e1] at e1'
        cases e1'
        split at h1
        · rename_i hl
          have kp : Keeps F1 I1 H1 F1 I1 (L2.upd H1 pa (.ins (B.T.adr c') dx (L2.putF y v fs))) := keeps_upd o.nf h2 trivial
          obtain ⟨i1, i2⟩ := flds_put hc hf h3 (h4.keeps kp) (ra.keeps kp) hl
          refine ⟨pa, _, dx, fs, rfl, h2, by rw [S.K]; exact hc.cls, by rw [S.K]; exact hc.no y (List.mem_of_getElem? hf), ?_, h1 _ _ _ _ (fr_upd fr1 es rfl e1 o.nf o.ni o.mine.1 rfl h2 trivial rfl ⟨pa, dx, _, rfl, o, upd_same, i1, i2⟩)⟩
          have := congrArg List.length h3
          rw [List.length_map, List.length_take] at this
          have := hc.few
          omega
        · exact h1.elim
      · exact q'.elim
    · exact q'.elim
theorem s_rfld (S : Sx B X n) {cl f : Nat} {y : Str} {pos' : Pos} (hc : ClsAt B.T cl) (hf : (B.T.flds cl)[f]? = some y) (ho : PE X a (tEv B ca)) (h : PE X e (tEv B cb)) :
    PS X (.Assign [.Attribute a y pos'] e p) (tEx B (.rfld ca cl f cb)) :=
  PSimp (ps_fld ho h swapsAttr) fun D σ H ⟨F, I, L, env, fr, q⟩ => by
    have q' : PostS B D (ex B.G _ env L) := q
    unfold ex at q'
    split at q'
    · exact q'.elim
    · rename_i hro
      have hro : B.G.ro = false := by simpa using hro
      refine ⟨F, I, L, env, fr, withinS fr q' fun d L1 F1 I1 H1 v st fr1 ra h1 => ⟨F1, I1, L1, env, fr1, withinS fr1 h1 fun x L2 F2 I2 H2 vx st2 fr2 rx h2 => ?_⟩⟩
      have rd := ra.keeps (st2.keeps0 fr1.wf)
      split at h2
      · rename_i i
        obtain ⟨pa, rfl, ei⟩ := ref_at rx
        split at h2
        · rename_i c' vs el
          split at h2
          · rename_i hcl
            obtain ⟨rfl, hl⟩ := hcl
            obtain ⟨dx, fs, h3, h4, h5⟩ := fr2.wf.at_ _ pa _ ei el
            have kp : Keeps F2 I2 H2 F2 I2 (_root_.L2.upd H2 pa (.ins (B.T.adr c') dx (_root_.L2.putF y v fs))) := keeps_upd (fr2.wf.ap pa (List.mem_of_getElem? ei)) h3 trivial
            obtain ⟨i1, i2⟩ := flds_put hc hf h4 (h5.keeps kp) (rd.keeps kp) (Nat.le_of_lt hl)
            have es : setN vs f d = vs.set f d := by unfold setN; rw [if_neg (by omega)]
            rw [es] at i1 i2
            refine ⟨pa, _, dx, fs, rfl, h3, by rw [S.K]; exact hc.cls, by rw [S.K]; exact hc.no y (List.mem_of_getElem? hf), ?_, h2 _ _ _ _ (fr_cell fr2 hro ei el ⟨dx, _, upd_same, i1, i2⟩)⟩
            have := congrArg List.length h4
            rw [List.length_map, List.length_take] at this
            have := hc.few
            omega
          · exact h2.elim
        · exact h2.elim
      · exact h2.elim
/-! ### x op= y; pop -/
theorem s_augA (S : Sx B X n) {i : Nat} {x : Str} {pos' : Pos} {o : Op} {op : Operator} {f : Int → Int → Int} (hi : PIp X op (ipI f)) (ho : ∀ x y, augD o x y = match x, y with | .int a, .int b => some (.int (f a b)) | _, _ => none) (hN : X.N[i]? = some x) (hl : L2.Loc X.env.scope x) (hf : X.fn x = true ∨ X.env.scope.names.lookup x = some .local) (h : PE X e (tEv B ca)) :
    PS X (.AugAssign (.Name x pos') op e p) (tEx B (.aug i o ca)) :=
  PSimp (ps_aug S.nd hN hl h hi hf) fun D σ H ⟨F, I, L, env, fr, q⟩ => by
    have q' : PostS B D (ex B.G _ env L) := q
    unfold ex evVar at q'
    split at q'
    · rename_i d hs
      obtain ⟨v, e1, r⟩ := fr.sl i _ hs
      refine ⟨v, e1, F, I, L, env, fr, withinS fr q' fun y L1 F1 I1 H1 w st fr1 ra h1 => ?_⟩
      have r1 := Rep.keeps (st.keeps0 fr.wf) r
      rw [ho] at h1
      split at h1
      · rename_i a b
        cases r1
        cases ra
        exact ⟨a, b, rfl, rfl, h1 _ _ _ _ (fr_set fr1 (.int _))⟩
      · exact h1.elim
    · exact q'.elim
theorem s_pop (S : Sx B X n) {i : Nat} {x : Str} {xp : Pos} {tg : Expr} {t : CT} (hN : X.N[i]? = some x) (hv : Vis X.env.scope x) (hd : (x == ("__debug__" : Str)) = false) (hc : (x == ("__classdict__" : Str)) = false) (hline : (apos.endLine == p2.line) = true)
    (hg : PG X tg (tPat B t)) (hw : swappedStores [tg] (.Call (.Attribute (.Name x xp) "pop" apos) [] [] p2) X.env = pure none) (hs : ∀ v q, tg ≠ .Starred v q) :
    PS X (.Assign [tg] (.Call (.Attribute (.Name x xp) "pop" apos) [] [] p2) p) (tEx B (.pop t i)) :=
  PSimp (ps_asg (pe_bm0 PySem.F.plainAttrs_list PySem.F.slot_list_pop PySem.F.type_list_pop mt_pop (pe_var (i := i) hN hv hd hc) nameBase hline) hg (swapsSole rfl) hw (by rw [assE hs]; rfl)) fun D σ H ⟨F, I, L, env, fr, q⟩ => by
    have q' : PostS B D (ex B.G _ env L) := q
    unfold ex at q'
    split at q'
    · rename_i xs es
      obtain ⟨pa, ys, e1, o, h1, rs⟩ := own_lst fr es
      split at q'
      · rename_i d ed
        have ed' := ed
        rw [rs.length] at ed'
        obtain ⟨v, ev, rv⟩ := rs.get (i := ys.length - 1) (by rw [← rs.length]; exact ed)
        refine ⟨_, e1, .inl ⟨rfl, _, .inl (.inl h1)⟩, pa, ys, v, rfl, rfl, h1, ev, ?_⟩
        cases ep : t.put d (env.set i (some (.olst xs.dropLast))) with
        | none => rw [ep] at q'; exact q'.elim
        | some env' =>
          rw [ep] at q'
          have rs' : Reps B.T F I H xs.dropLast ys.dropLast := by
            rw [List.dropLast_eq_take, List.dropLast_eq_take, ← rs.length]
            exact rs.take _
          exact ⟨F, I, L, _, d, env', fr_lst fr es e1 o h1 rs', rv.keeps (keeps_upd o.nf h1 trivial), ep, fun σ' fr' _ => q' _ _ _ _ fr'⟩
      · exact q'.elim
    · exact q'.elim
end
end Wa

set_option Elab.async false
set_option linter.all false
set_option maxRecDepth 100000
set_option maxHeartbeats 4000000
/-! WaLoop: what is walked; loops. -/
namespace Wa
open PySem PySem.Spec PyProof.Rows L2

/-! ### a body within a body -/
/-- what was made or may be changed up to here is one's own from here on -/
def Ent.at_ (E : Ent) (F : Addr → Prop) (I : List Addr) (H : Hp) : Ent := ⟨fun p => (E.H p = none ∨ E.ex p) ∧ (∃ u, H p = some u ∧ Moves u) ∧ ¬ F p ∧ p ∉ I, F, I, H, E.sf⟩
def Bd.at_ (B : Bd) (F : Addr → Prop) (I : List Addr) (H : Hp) : Bd := { B with E := B.E.at_ F I H }
section
variable {B : Bd} {X : Cx} {n : Nat} {e a b c : Expr} {es : List Expr} {p p2 apos : Pos} {ca cb cc : CE} {oa ob oc : CO} {cs : CEs} {os : COs} {D : Ends} {σ σ' : L2.St} {H H' : Hp} {F F' : Addr → Prop} {I I' : List Addr} {L L' : List Cell} {env env' : Env}
theorem fr_in (fr : B.fr F I H L σ env) : (B.at_ F I H).fr F I H L σ env := by
  refine ⟨fr.wf, fr.len, fun i s h => ?_, fr.ap, Step.refl, fun p h => h.2.1⟩
  obtain ⟨v, e, r⟩ := fr.sl i s h
  refine ⟨v, e, ?_⟩
  have mine : ∀ {p u}, Own F I B.E.M p → H p = some u → Moves u → Own F I (B.E.at_ F I H).M p := fun o h m => ⟨o.nf, o.ni, .inr ⟨o.mine, ⟨_, h, m⟩, o.nf, o.ni⟩⟩
  cases s with
  | val d => exact r
  | olst ds =>
    obtain ⟨p, xs, e1, o, h1, h2⟩ := r
    exact ⟨p, xs, e1, mine o h1 trivial, h1, h2⟩
  | odct ks vs =>
    obtain ⟨p, e1, o, h1⟩ := r
    obtain ⟨u, hu, mu⟩ := h1.some
    exact ⟨p, e1, mine o hu mu, h1⟩
  | oins k vs =>
    obtain ⟨p, dx, fs, e1, o, h1, h2, h3⟩ := r
    exact ⟨p, dx, fs, e1, ⟨o.nf, o.ni, .inr ⟨o.mine.1, ⟨_, h1, trivial⟩, o.nf, o.ni⟩, o.mine.2⟩, h1, h2, h3⟩
theorem fr_out (fr : B.fr F I H L σ env) (fr' : (B.at_ F I H).fr F' I' H' L' σ' env') : B.fr F' I' H' L' σ' env' := by
  have old : ∀ p, (B.E.at_ F I H).M p → B.E.M p := fun p h => h.elim (fun z => .inl (none_back fr.st.there z)) fun z => z.1
  have oldx : ∀ p, (B.E.at_ F I H).ex p → B.E.M p := fun p h => h.1
  refine ⟨fr'.wf, fr'.len, fun i s h => ?_, fr'.ap, ?_, fr.exo⟩
  · obtain ⟨v, e, r⟩ := fr'.sl i s h
    refine ⟨v, e, ?_⟩
    cases s with
    | val d => exact r
    | olst ds =>
      obtain ⟨p, xs, e1, o, h1, h2⟩ := r
      exact ⟨p, xs, e1, ⟨o.nf, o.ni, old p o.mine⟩, h1, h2⟩
    | odct ks vs =>
      obtain ⟨p, e1, o, h1⟩ := r
      exact ⟨p, e1, ⟨o.nf, o.ni, old p o.mine⟩, h1⟩
    | oins k vs =>
      obtain ⟨p, dx, fs, e1, o, h1, h2, h3⟩ := r
      exact ⟨p, dx, fs, e1, ⟨o.nf, o.ni, old p o.mine.1, o.mine.2⟩, h1, h2, h3⟩
  · have s1 := fr.st
    have s2 := fr'.st
    obtain ⟨m, e1, hm⟩ := s1.pre
    have nx : ∀ p u, B.E.H p = some u → ¬ B.E.ex p → ¬ (B.E.at_ F I H).ex p := fun p u e x z => z.1.elim (fun z => by rw [z] at e; cases e) x
    refine ⟨fun p u e i x => s2.keep p u (s1.keep p u e i x) ?_ (nx p u e x), fun p u e => ?_, fun p u e z => s2.still p u (s1.still p u e z) z, fun p f => s2.more p (s1.more p f), fun p f => ?_, ?_, fun z => ⟨fun p u e x => (s2.rok z).1 p u ((s1.rok z).1 p u e x) (nx p u e x), (s2.rok z).2.trans (s1.rok z).2⟩⟩
    · show p ∉ I
      rw [e1, List.mem_append]
      rintro (z | z)
      · exact i z
      · rw [hm p z] at e; cases e
    · obtain ⟨u', e'⟩ := s1.there p u e
      exact s2.there p u' e'
    · rcases s2.new p f with z | z | z
      · exact s1.new p z
      · exact .inr (.inl (none_back s1.there z))
      · exact .inr (oldx p z)
    · obtain ⟨k, e2, hk⟩ := s2.pre
      refine ⟨m ++ k, by rw [e2]; show I ++ k = _; rw [e1, List.append_assoc], fun a ha => ?_⟩
      rcases List.mem_append.mp ha with z | z
      · exact hm a z
      · exact none_back s1.there (hk a z)
theorem at_keeps (fr : B.fr F I H L σ env) (fr' : (B.at_ F I H).fr F' I' H' L' σ' env') : Keeps F I H F' I' H' := fr'.st.keeps fr.wf.ap fun p h => h.2.2.1
theorem posts_in {r : RS} (fr : B.fr F I H L σ env) (h : PostS B D r) : PostS (B.at_ F I H) D r := by
  cases r with
  | ok fl env' L' =>
    cases fl with
    | next => exact fun F' I' H' σ' fr' => h F' I' H' σ' (fr_out fr fr')
    | brk => exact fun F' I' H' σ' fr' => h F' I' H' σ' (fr_out fr fr')
    | cont => exact fun F' I' H' σ' fr' => h F' I' H' σ' (fr_out fr fr')
    | ret d => exact fun F' I' H' σ' v fr' => h F' I' H' σ' v (fr_out fr fr')
  | exc c vs env' L' => exact fun F' I' H' σ' cls d fr' => h F' I' H' σ' cls d (fr_out fr fr')
  | bad => exact h
/-! ### what is walked -/
/-- an iterator yields these; true: while the body may change what is its own -/
def KR (k ro : Bool) (F : Addr → Prop) (I : List Addr) (H : Hp) (F' : Addr → Prop) (I' : List Addr) (H' : Hp) : Prop := if k then Keeps F I H F' I' H' else Step ro noEx F I H F' I' H'
def ItRep (k ro : Bool) (T : View) (F : Addr → Prop) (I : List Addr) (H : Hp) (ds : List Wa.D) (J : It) : Prop :=
  ∀ i F' I' H' L, KR k ro F I H F' I' H' → Wf T F' I' H' L → (ds.length ≤ i → J.stop i H') ∧ ∀ d, ds[i]? = some d → J.go i H' ∧ ∀ x H'', J.yld i H' x H'' → ∃ F'', Step ro noEx F' I' H' F'' I' H'' ∧ Wf T F'' I' H'' L ∧ Rep T F'' I' H'' d x
def tI (B : Bd) (k : Bool) (ci : CI) : TI := fun σ H R => ∃ F I L env, B.fr F I H L σ env ∧ B.post σ F I H (ItRep k B.G.ro B.T) (evI B.G ci env L) R
theorem PIimp {X : Cx} {tg e : Expr} {t t' : TI} (h : PI X tg e t) (k : ∀ σ H R, t' σ H R → t σ H R) : PI X tg e t' := ⟨fun pins s σ H R J q => h.run pins s σ H R J (k _ _ _ q)⟩
/-- a sequence of any sort -/
def iSeq (K : PySem.W.Frag) (te : TE) : TI := fun σ H R => te σ H fun x H1 => (∃ a xs, x = .ref a ∧ SqL K H1 a xs ∧ R (Itl K a) H1) ∨ (∃ a xs, x = .ref a ∧ SqT K H1 a xs ∧ R (Itt K a) H1) ∨ ∃ s, x = .str s ∧ R (Its s) H1
theorem pi_seq {tg : Expr} {te : TE} (h : PE X e te) : PI X tg e (iSeq X.K te) := ⟨fun pins s σ H R J q => thn (h.run pins s σ H _ J q) fun v s1 ⟨x, H1, J1, rx, q1⟩ => by
  rcases q1 with ⟨a, xs, rfl, hq, q⟩ | ⟨a, xs, rfl, hq, q⟩ | ⟨x, rfl, q⟩
  · obtain rfl := rx
    obtain ⟨its, rv, pl, hz⟩ := J1.list hq
    exact wpAny_pyIter_list pl.isList (pi_one (tn := fun i h => h.IsListIter s1.heap.objs.size a i) J1 _ (turn_list a _) ⟨_, Heap.get?_push_size _ rfl, rfl, rfl⟩ q)
  · obtain rfl := rx
    obtain ⟨its, rv, pl, hz⟩ := J1.tuple hq
    exact wpAny_pyIter_tuple (by obtain ⟨o, n, e1, e2, e3⟩ := pl; exact ⟨o, n, e1, e2, e3⟩) (pi_one (tn := fun i h => h.IsTupleIter s1.heap.objs.size a i) J1 _ (turn_tuple a _) ⟨_, Heap.get?_push_size _ rfl, rfl, rfl⟩ q)
  · obtain ⟨t, rfl⟩ := rx
    cases hw : x.cps.all fun x => decide (x < 128) with
    | true => exact wpAny_pyIter_ascii hw (pi_one (tn := fun i h => h.IsStrIter s1.heap.objs.size "str_ascii_iterator" x t i) J1 _ (turn_str _ x t _ (.inl rfl)) ⟨_, Heap.get?_push_size _ rfl, rfl, rfl⟩ q)
    | false => exact wpAny_pyIter_wide hw (pi_one (tn := fun i h => h.IsStrIter s1.heap.objs.size "str_iterator" x t i) J1 _ (turn_str _ x t _ (.inr rfl)) ⟨_, Heap.get?_push_size _ rfl, rfl, rfl⟩ q)⟩
section
variable {k ro : Bool} {T : View} {ds ds2 : List Wa.D} {pa pb : Addr}
theorem kr_mono {F : Addr → Prop} {I : List Addr} {H : Hp} {F' : Addr → Prop} {I' : List Addr} {H' : Hp} (w : Wf T F I H L) (h : KR k ro F I H F' I' H') : Keeps F I H F' I' H' := by
  unfold KR at h
  split at h
  · exact h
  · exact h.keeps0 w
/-- a list that stands, as data, for all that comes -/
def LstAt (k ro : Bool) (T : View) (F : Addr → Prop) (I : List Addr) (H : Hp) (ds : List Wa.D) (pa : Addr) : Prop := ∀ F' I' H', KR k ro F I H F' I' H' → ∃ us, SqL T.K H' pa us ∧ Reps T F' I' H' ds us
def TupAt (k ro : Bool) (T : View) (F : Addr → Prop) (I : List Addr) (H : Hp) (ds : List Wa.D) (pa : Addr) : Prop := ∀ F' I' H', KR k ro F I H F' I' H' → ∃ us, SqT T.K H' pa us ∧ Reps T F' I' H' ds us
theorem it_lst (h : LstAt k ro T F I H ds pa) : ItRep k ro T F I H ds (Itl T.K pa) := fun i F' I' H' L kr w => by
  obtain ⟨us, sq, rs⟩ := h F' I' H' kr
  refine ⟨fun hi => ⟨us, sq, by rw [← rs.length]; exact hi⟩, fun d hd => ?_⟩
  obtain ⟨v, ev, rv⟩ := rs.get hd
  refine ⟨⟨us, v, sq, ev⟩, fun x H'' ⟨e1, e2⟩ => ?_⟩
  subst e1
  have := e2 us sq
  rw [ev] at this
  cases this
  exact ⟨F', Step.refl, w, rv⟩
theorem it_tup (h : TupAt k ro T F I H ds pa) : ItRep k ro T F I H ds (Itt T.K pa) := fun i F' I' H' L kr w => by
  obtain ⟨us, sq, rs⟩ := h F' I' H' kr
  refine ⟨fun hi => ⟨us, sq, by rw [← rs.length]; exact hi⟩, fun d hd => ?_⟩
  obtain ⟨v, ev, rv⟩ := rs.get hd
  refine ⟨⟨us, v, sq, ev⟩, fun x H'' ⟨e1, e2⟩ => ?_⟩
  subst e1
  have := e2 us sq
  rw [ev] at this
  cases this
  exact ⟨F', Step.refl, w, rv⟩
theorem it_str {s : Txt} (f : Fine s) : ItRep k ro T F I H (s.map fun c => .str [c]) (Its (tx s)) := fun i F' I' H' L kr w => by
  refine ⟨fun hi => ?_, fun d hd => ?_⟩
  · show (tx s).cps.size ≤ i
    simpa [tx] using hi
  · rw [List.getElem?_map] at hd
    cases hc : s[i]? with
    | none => rw [hc] at hd; cases hd
    | some c =>
      rw [hc] at hd
      cases hd
      have hl := (List.getElem?_eq_some_iff.mp hc).1
      refine ⟨by show i < (tx s).cps.size; simpa [tx] using hl, fun x H'' ⟨e1, c', e2, e3⟩ => ?_⟩
      subst e1 e3
      have : c' = c := by
        have e4 : s[i]? = some c' := by simpa [tx] using e2
        rw [hc] at e4
        exact (Option.some.inj e4).symm
      subst this
      exact ⟨F', Step.refl, w, .str [c'] (fine_mem f (List.mem_of_getElem? hc))⟩
theorem it_rng {lo : Int} {n : Nat} : ItRep k ro T F I H (rngL lo n) (Itr lo n) := fun i F' I' H' L kr w => by
  unfold rngL
  refine ⟨fun hi => by show n ≤ i; simpa using hi, fun d hd => ?_⟩
  rw [List.getElem?_map] at hd
  by_cases hi : i < n
  · rw [List.getElem?_range hi] at hd
    cases hd
    exact ⟨hi, fun x H'' ⟨e1, e2⟩ => ⟨F', by rw [e1]; exact Step.refl, by rw [e1]; exact w, by rw [e2]; exact .int _⟩⟩
  · rw [List.getElem?_eq_none_iff.mpr (by simpa using hi)] at hd
    cases hd
theorem tup2_new {d1 d2 : Wa.D} {x y : V} {Ta : Addr} (w : Wf T F I H L) (h : H Ta = none) (r1 : Rep T F I H d1 x) (r2 : Rep T F I H d2 y) : ∃ F'', Step ro noEx F I H F'' I (L2.upd H Ta (.tup [x, y])) ∧ Wf T F'' I (L2.upd H Ta (.tup [x, y])) L ∧ Rep T F'' I (L2.upd H Ta (.tup [x, y])) (.tup [d1, d2]) (.ref Ta) := by
  have kp : Keeps F I H F I (L2.upd H Ta (.tup [x, y])) := (Step.laid (ro := true) h).keeps0 w
  exact ⟨F, Step.laid h, w.laid h, .tup (SqT.of upd_same) (.cons (r1.keeps kp) (.cons (r2.keeps kp) .nil))⟩
theorem enumL_at : ∀ (j : Int) (xs : List Wa.D) (i : Nat), (enumL j xs)[i]? = xs[i]?.map fun x => .tup [.int (j + i), x]
  | _, [], i => by simp [enumL]
  | j, x :: xs, 0 => by simp [enumL]
  | j, x :: xs, i + 1 => by
    show (enumL (j + 1) xs)[i]? = _
    rw [enumL_at (j + 1) xs i]
    simp only [List.getElem?_cons_succ]
    congr 1
    funext z
    have : j + 1 + (i : Int) = j + ((i + 1 : Nat) : Int) := by push_cast; omega
    rw [this]
theorem it_enum (h : LstAt k ro T F I H ds pa) : ItRep k ro T F I H (enumL 0 ds) (Ite T.K pa) := fun i F' I' H' L kr w => by
  obtain ⟨us, sq, rs⟩ := h F' I' H' kr
  have hl : (enumL 0 ds).length = ds.length := by
    have : ∀ (j : Int) (xs : List Wa.D), (enumL j xs).length = xs.length := fun j xs => by
      induction xs generalizing j with
      | nil => rfl
      | cons x xs ih => simp [enumL, ih]
    exact this 0 ds
  refine ⟨fun hi => ⟨us, sq, by rw [← rs.length, ← hl]; exact hi⟩, fun d hd => ?_⟩
  rw [enumL_at] at hd
  cases hz : ds[i]? with
  | none => rw [hz] at hd; cases hd
  | some z =>
    rw [hz] at hd
    cases hd
    obtain ⟨v, ev, rv⟩ := rs.get hz
    refine ⟨⟨us, v, sq, ev⟩, fun x H'' ⟨Ta, y, e1, e2, e3, e4⟩ => ?_⟩
    have := e4 us sq
    rw [ev] at this
    cases this
    subst e1 e3
    obtain ⟨F'', h1, h2, h3⟩ := tup2_new (ro := ro) (d1 := .int (0 + i)) (x := .int i) w e2 (by have := Rep.int (T := T) (F := F') (I := I') (H := H') (0 + i); rwa [Int.zero_add] at this ⊢) rv
    exact ⟨F'', h1, h2, h3⟩
theorem zip2_at : ∀ (xs ys : List Wa.D) (i : Nat), (zip2 xs ys)[i]? = match xs[i]?, ys[i]? with | some x, some y => some (.tup [x, y]) | _, _ => none
  | [], _, i => by simp [zip2]
  | x :: xs, [], i => by cases h : (x :: xs)[i]? <;> simp [zip2]
  | x :: xs, y :: ys, 0 => by simp [zip2]
  | x :: xs, y :: ys, i + 1 => by
    show (zip2 xs ys)[i]? = _
    rw [zip2_at xs ys i]
    simp
theorem zip2_len : ∀ (xs ys : List Wa.D), (zip2 xs ys).length = min xs.length ys.length
  | [], _ => by simp [zip2]
  | x :: xs, [] => by simp [zip2]
  | x :: xs, y :: ys => by simp [zip2, zip2_len xs ys]
theorem it_zip (h : LstAt k ro T F I H ds pa) (h2 : LstAt k ro T F I H ds2 pb) : ItRep k ro T F I H (zip2 ds ds2) (Itz T.K pa pb) := fun i F' I' H' L kr w => by
  obtain ⟨us, sq, rs⟩ := h F' I' H' kr
  obtain ⟨us2, sq2, rs2⟩ := h2 F' I' H' kr
  refine ⟨fun hi => ⟨us, us2, sq, sq2, by rw [← rs.length, ← rs2.length]; rw [zip2_len] at hi; omega⟩, fun d hd => ?_⟩
  rw [zip2_at] at hd
  split at hd
  · rename_i x y hx hy
    cases hd
    obtain ⟨v, ev, rv⟩ := rs.get hx
    obtain ⟨v2, ev2, rv2⟩ := rs2.get hy
    refine ⟨⟨us, us2, v, v2, sq, sq2, ev, ev2⟩, fun x H'' ⟨Ta, y1, y2, e1, e2, e3, e4, e5⟩ => ?_⟩
    have h1 := e4 us sq
    have h2 := e5 us2 sq2
    rw [ev] at h1
    rw [ev2] at h2
    cases h1
    cases h2
    subst e1 e3
    exact tup2_new w e2 rv rv2
  · cases hd
theorem it_zipT (h : TupAt k ro T F I H ds pa) (h2 : TupAt k ro T F I H ds2 pb) : ItRep k ro T F I H (zip2 ds ds2) (RZ.ItzT T.K pa pb) := fun i F' I' H' L kr w => by
  obtain ⟨us, sq, rs⟩ := h F' I' H' kr
  obtain ⟨us2, sq2, rs2⟩ := h2 F' I' H' kr
  refine ⟨fun hi => ⟨us, us2, sq, sq2, by rw [← rs.length, ← rs2.length]; rw [zip2_len] at hi; omega⟩, fun d hd => ?_⟩
  rw [zip2_at] at hd
  split at hd
  · rename_i x y hx hy
    cases hd
    obtain ⟨v, ev, rv⟩ := rs.get hx
    obtain ⟨v2, ev2, rv2⟩ := rs2.get hy
    refine ⟨⟨us, us2, v, v2, sq, sq2, ev, ev2⟩, fun x H'' ⟨Ta, y1, y2, e1, e2, e3, e4, e5⟩ => ?_⟩
    have h1 := e4 us sq
    have h2 := e5 us2 sq2
    rw [ev] at h1
    rw [ev2] at h2
    cases h1
    cases h2
    subst e1 e3
    exact tup2_new w e2 rv rv2
  · cases hd
/-- what is evaluated for a walk: no name of the body's own where the body may change it -/
def CO.fixed : CO → Bool
  | .e _ => true
  | .pk _ => false
theorem lst_at {v : V} (w : Wf T F I H L) (r : RepO T F I H (.lst ds) v) (hk : k = true → Rep T F I H (.lst ds) v) : ∃ pa, v = .ref pa ∧ LstAt k ro T F I H ds pa := by
  have one : ∀ {v}, Rep T F I H (.lst ds) v → ∃ pa, v = .ref pa ∧ LstAt k ro T F I H ds pa := fun {v} r => by
    cases r with
    | @lst pa us _ f hr rs => exact ⟨pa, rfl, fun F' I' H' kr => ⟨us, .inl ((kr_mono w kr).rd f hr), rs.keeps (kr_mono w kr)⟩⟩
  rcases r with r | ⟨M, ex, s, os, e, r⟩
  · exact one r
  · cases k with
    | true => exact one (hk rfl)
    | false =>
      cases s <;> simp [frz, isOwn] at e os
      subst e
      obtain ⟨pa, us, rfl, o, h1, h2⟩ := r
      exact ⟨pa, rfl, fun F' I' H' kr => by
        have kr' : Step ro noEx F I H F' I' H' := kr
        exact ⟨us, .inl (.inl (kr'.keep pa _ h1 o.ni id)), h2.keeps (kr'.keeps0 w)⟩⟩
theorem tup_at {v : V} (w : Wf T F I H L) (r : RepO T F I H (.tup ds) v) : ∃ pa, v = .ref pa ∧ TupAt k ro T F I H ds pa := by
  have r' : Rep T F I H (.tup ds) v := RepV.rep (.inl r) rfl
  cases r' with
  | @tup pa us _ sq rs => exact ⟨pa, rfl, fun F' I' H' kr => ⟨us, (kr_mono w kr).sqT sq, rs.keeps (kr_mono w kr)⟩⟩
end
/-- behind what is walked: frozen, where it must be -/
abbrev rF (B : Bd) (k : Bool) (F : Addr → Prop) (I : List Addr) (H : Hp) (d : Wa.D) (v : V) : Prop := RepO B.T F I H d v ∧ (k = true → Rep B.T F I H d v)
abbrev tEvF (B : Bd) (k : Bool) (c : CO) : TE := tR B (rF B k) (evO B.G c)
theorem s_fx {k : Bool} (h : PE X e (tEv B ca)) : PE X e (tEvF B k (.e ca)) := PEimp h fun σ H Q ⟨F, I, L, env, fr, q⟩ => ⟨F, I, L, env, fr, by
    unfold evO at q
    cases r : ev B.G ca env L with
    | ok d L' => rw [r] at q; exact fun F' I' H' v st wf ra => q F' I' H' v st wf ⟨.inl ra, fun _ => ra⟩
    | exc c vs L' => rw [r] at q; exact q
    | bad => rw [r] at q; exact q⟩
theorem s_fp (h : PE X e (tEvO B oa)) : PE X e (tEvF B false oa) := PEimp h fun σ H Q ⟨F, I, L, env, fr, q⟩ => ⟨F, I, L, env, fr, by
    cases r : evO B.G oa env L with
    | ok d L' => rw [r] at q; exact fun F' I' H' v st wf ra => q F' I' H' v st wf ⟨ra, fun z => by cases z⟩
    | exc c vs L' => rw [r] at q; exact q
    | bad => rw [r] at q; exact q⟩
theorem i_seq (S : Sx B X n) {k : Bool} {tg : Expr} (h : PE X e (tEvF B k oa)) : PI X tg e (tI B k (.seq oa)) :=
  PIimp (pi_seq h) fun σ H R ⟨F, I, L, env, fr, q⟩ => ⟨F, I, L, env, fr, by
    rw [S.K]
    exact q.seq fun x L1 F1 I1 H1 v st1 w1 r1 h1 => by
      obtain ⟨z, e, q⟩ := h1.opt
      cases x with
      | lst ds =>
        cases e
        obtain ⟨pa, rfl, hl⟩ := lst_at (k := k) (ro := B.G.ro) w1 r1.1 r1.2
        obtain ⟨us, sq, _⟩ := hl F1 I1 H1 (by unfold KR; split; exact Keeps.refl; exact Step.refl)
        exact .inl ⟨pa, us, rfl, sq, q F1 I1 H1 _ Step.refl w1 (it_lst hl)⟩
      | tup ds =>
        cases e
        obtain ⟨pa, rfl, hl⟩ := tup_at (k := k) (ro := B.G.ro) w1 r1.1
        obtain ⟨us, sq, _⟩ := hl F1 I1 H1 (by unfold KR; split; exact Keeps.refl; exact Step.refl)
        exact .inr (.inl ⟨pa, us, rfl, sq, q F1 I1 H1 _ Step.refl w1 (it_tup hl)⟩)
      | str s =>
        cases e
        obtain ⟨rfl, f⟩ := RepV.str (.inl r1.1)
        exact .inr (.inr ⟨_, rfl, q F1 I1 H1 _ Step.refl w1 (it_str f)⟩)
      | _ => cases e⟩
theorem kr_refl {k ro : Bool} : KR k ro F I H F I H := by unfold KR; split; exact Keeps.refl; exact Step.refl
theorem small_of {i : Int} (h : small i = true) : -2 ^ 62 ≤ i ∧ i < 2 ^ 62 := by
  unfold small at h
  obtain ⟨h1, h2⟩ := Bool.and_eq_true_iff.mp h
  exact ⟨of_decide_eq_true h1, of_decide_eq_true h2⟩
theorem i_rng1 (S : Sx B X n) {k : Bool} {tg : Expr} {pos : Pos} (hg : Gl X "range") (hm : X.mg "range" = none) (h : PE X a (tEv B ca)) (hs : ∀ v q, a ≠ .Starred v q) : PI X tg (.Call (.Name "range" p) [a] [] pos) (tI B k (.rng (.cons (.e ca) .nil))) :=
  PIimp (pi_range1 hg hm (o_consE h o_nil hs) (starE hs)) fun σ H R ⟨F, I, L, env, fr, q⟩ => ⟨F, I, L, env, fr, q.seq fun xs L1 F1 I1 H1 vs st1 w1 r1 h1 => by
    obtain ⟨z, e, q⟩ := h1.opt
    cases r1 with
    | e r1 r0 =>
      cases r0
      unfold rngD at e
      split at e
      · rename_i m heq
        cases heq
        cases r1
        split at e
        · rename_i hs
          cases e
          exact ⟨m, rfl, (small_of hs).1, (small_of hs).2, q F1 I1 H1 _ Step.refl w1 it_rng⟩
        · cases e
      · rename_i heq; cases heq
      · cases e⟩
theorem i_rng2 (S : Sx B X n) {k : Bool} {tg : Expr} {pos : Pos} (hg : Gl X "range") (hm : X.mg "range" = none) (h : PE X a (tEv B ca)) (h2 : PE X b (tEv B cb)) (hs : ∀ v q, a ≠ .Starred v q) (hs2 : ∀ v q, b ≠ .Starred v q) :
    PI X tg (.Call (.Name "range" p) [a, b] [] pos) (tI B k (.rng (.cons (.e ca) (.cons (.e cb) .nil)))) :=
  PIimp (pi_range2 hg hm (o_consE h (o_consE h2 o_nil hs2) hs) (by rw [starE hs, starE hs2]; rfl) (starE hs2)) fun σ H R ⟨F, I, L, env, fr, q⟩ => ⟨F, I, L, env, fr, q.seq fun xs L1 F1 I1 H1 vs st1 w1 r1 h1 => by
    obtain ⟨z, e, q⟩ := h1.opt
    cases r1 with
    | e r1 r0 =>
      cases r0 with
      | e r2 r0 =>
        cases r0
        unfold rngD at e
        split at e
        · rename_i heq; cases heq
        · rename_i m l heq
          cases heq
          cases r1
          cases r2
          split at e
          · rename_i hs
            obtain ⟨s1, s2⟩ := Bool.and_eq_true_iff.mp hs
            cases e
            exact ⟨m, l, rfl, ⟨(small_of s1).1, (small_of s1).2, (small_of s2).1, (small_of s2).2⟩, q F1 I1 H1 _ Step.refl w1 it_rng⟩
          · cases e
        · cases e⟩
theorem i_enum (S : Sx B X n) {k : Bool} {pos tpos : Pos} {elts : List Expr} {kk : Nat} (hg : Gl X "enumerate") (hm : X.mg "enumerate" = none) (h : PE X a (tEvF B k oa)) (hs : ∀ v q, a ≠ .Starred v q) :
    PI X (.Tuple elts kk tpos) (.Call (.Name "enumerate" p) [a] [] pos) (tI B k (.enum oa)) :=
  PIimp (pi_enum hg hm (pa_cons h pa_nil (starE hs)) (starE hs)) fun σ H R ⟨F, I, L, env, fr, q⟩ => by
    refine ⟨F, I, L, env, fr, q.seq fun x L1 F1 I1 H1 v st1 w1 r1 h1 => ?_⟩
    show ∃ a xs, [v] = [V.ref a] ∧ SqL X.K H1 a xs ∧ R (Ite X.K a) H1
    cases x with
    | lst ds =>
      obtain ⟨pa, rfl, hl⟩ := lst_at (k := k) (ro := B.G.ro) w1 r1.1 r1.2
      obtain ⟨us, sq, _⟩ := hl F1 I1 H1 kr_refl
      exact ⟨pa, us, rfl, by rw [S.K]; exact sq, by rw [S.K]; exact h1 F1 I1 H1 _ Step.refl w1 (it_enum hl)⟩
    | _ => exact h1.elim
theorem i_zip (S : Sx B X n) {k : Bool} {pos tpos : Pos} {elts : List Expr} {kk : Nat} (hg : Gl X "zip") (hm : X.mg "zip" = none) (h : PE X a (tEvF B k oa)) (h2 : PE X b (tEvF B k ob)) (hs : ∀ v q, a ≠ .Starred v q) (hs2 : ∀ v q, b ≠ .Starred v q) :
    PI X (.Tuple elts kk tpos) (.Call (.Name "zip" p) [a, b] [] pos) (tI B k (.zip (.cons oa (.cons ob .nil)))) :=
  PIimp (RZ.pi_zipA hg hm (pa_cons h (pa_cons h2 pa_nil (starE hs2)) (starE hs)) (starE hs) (by rw [starE hs2]; rfl)) fun σ H R ⟨F, I, L, env, fr, q⟩ => by
    have q' : B.post σ F I H (ItRep k B.G.ro B.T) ((evO B.G oa env L).bind fun x L => (evO B.G ob env L).bind fun y L => opt (zipD [x, y]) L) R := by
      have : evI B.G (.zip (.cons oa (.cons ob .nil))) env L = (evO B.G oa env L).bind fun x L => (evO B.G ob env L).bind fun y L => opt (zipD [x, y]) L := by
        unfold evI
        unfold evOs
        unfold evOs
        unfold evOs
        cases evO B.G oa env L with
        | ok x L1 =>
          simp only [Wa.R.bind]
          cases evO B.G ob env L1 <;> rfl
        | exc c vs L1 => rfl
        | bad => rfl
      rw [← this]
      exact q
    refine ⟨F, I, L, env, fr, q'.seq fun x L1 F1 I1 H1 v st1 w1 r1 h1 => ⟨F1, I1, L1, env, fr.step st1 w1, h1.seq fun y L2 F2 I2 H2 u st2 w2 r2 h2 => ?_⟩⟩
    obtain ⟨z, e, q⟩ := h2.opt
    have r1' : rF B k F2 I2 H2 x v := ⟨r1.1.step st2 w1, fun z => (r1.2 z).keeps (st2.keeps0 w1)⟩
    show ∃ a b xs ys, [v, u] = [V.ref a, V.ref b] ∧ _
    unfold zipD at e
    split at e
    · rename_i ds ds2 heq
      cases heq
      cases e
      obtain ⟨pa, rfl, hl⟩ := lst_at (k := k) (ro := B.G.ro) w2 r1'.1 r1'.2
      obtain ⟨pb, rfl, hl2⟩ := lst_at (k := k) (ro := B.G.ro) w2 r2.1 r2.2
      obtain ⟨us, sq, _⟩ := hl F2 I2 H2 kr_refl
      obtain ⟨us2, sq2, _⟩ := hl2 F2 I2 H2 kr_refl
      exact ⟨pa, pb, us, us2, rfl, .inl ⟨by rw [S.K]; exact sq, by rw [S.K]; exact sq2, by rw [S.K]; exact q F2 I2 H2 _ Step.refl w2 (it_zip hl hl2)⟩⟩
    · rename_i ds ds2 heq
      cases heq
      cases e
      obtain ⟨pa, rfl, hl⟩ := tup_at (k := k) (ro := B.G.ro) w2 r1'.1
      obtain ⟨pb, rfl, hl2⟩ := tup_at (k := k) (ro := B.G.ro) w2 r2.1
      obtain ⟨us, sq, _⟩ := hl F2 I2 H2 kr_refl
      obtain ⟨us2, sq2, _⟩ := hl2 F2 I2 H2 kr_refl
      exact ⟨pa, pb, us, us2, rfl, .inr ⟨by rw [S.K]; exact sq, by rw [S.K]; exact sq2, by rw [S.K]; exact q F2 I2 H2 _ Step.refl w2 (it_zipT hl hl2)⟩⟩
    · cases e
/-! ### loops -/
/-- a reading whatever the entry -/
theorem PSs_all {ι : Type} {s : List Stmt} {t : ι → TS} (h : ∀ i, PSs X s (t i)) : PSs X s (fun D σ H => ∃ i, t i D σ H) := ⟨fun pins s σ H D J ⟨i, q⟩ => (h i).run pins s σ H D J q⟩
theorem PG_all {ι : Type} {t : ι → TG} (h : ∀ i, PG X e (t i)) : PG X e (fun v σ H Q => ∃ i, t i v σ H Q) := ⟨fun pins s σ H v u Q J r ⟨i, q⟩ => (h i).run pins s σ H v u Q J r q⟩
theorem s_loop (S : Sx B X n) (hcalm : X.calm = true) {tg iter : Expr} {body : List Stmt} {ci : CI} {t : CT} {cb : CSs} (hi : PI X tg iter (tI B true ci)) (hg : ∀ E, PG X tg (tPat { B with E := E } t)) (hb : ∀ E, PSs X body (tExs { B with E := E } cb)) (hf : ∀ x, foldedSetIterable iter X.env x = pure x) :
    PS X (.For tg iter body [] p) (tEx B (.loop t ci cb)) :=
  PSimp (ps_for S.po hcalm hi (PG_all hg) (PSs_all hb) hf) fun D σ H ⟨F, I, L, env, fr, q⟩ => by
    have q' : PostS B D (within env (evI B.G ci env L) fun xs L => loopS t (fun env L => exs B.G cb env L) xs env L) := q
    refine ⟨F, I, L, env, fr, withinS fr q' fun ds L1 F1 I1 H1 J st fr1 it h1 => ?_⟩
    refine ⟨fun i m σ H => ∃ F' I' L' env', (B.at_ F1 I1 H1).fr F' I' H L' σ env' ∧ m = ds.length - i ∧ PostS B D (loopS t (fun env L => exs B.G cb env L) (ds.drop i) env' L'), ⟨_, F1, I1, L1, env, fr_in fr1, rfl, h1⟩, ?_⟩
    rintro i m σ2 H2 ⟨F2, I2, L2, env2, fr2, rfl, h2⟩
    obtain ⟨hstop, hgo⟩ := it i F2 I2 H2 L2 (at_keeps fr1 fr2) fr2.wf
    by_cases hl : ds.length ≤ i
    · left
      rw [List.drop_eq_nil_of_le hl] at h2
      exact ⟨hstop hl, h2 _ _ _ _ (fr_out fr1 fr2)⟩
    · right
      have hl : i < ds.length := by omega
      obtain ⟨d, hd⟩ : ∃ d, ds[i]? = some d := ⟨ds[i], List.getElem?_eq_getElem hl⟩
      obtain ⟨go, yl⟩ := hgo d hd
      refine ⟨go, fun σ3 H3 => ∃ F3 I3 L3 env3, (B.at_ F1 I1 H1).fr F3 I3 H3 L3 σ3 env3 ∧ PostS B D (loopS t (fun env L => exs B.G cb env L) (ds.drop (i + 1)) env3 L3), fun σ3 H3 ⟨F3, I3, L3, env3, fr3, h3⟩ => ⟨ds.length - (i + 1), by omega, F3, I3, L3, env3, fr3, rfl, h3⟩, fun x H3 hy => ?_⟩
      obtain ⟨F3, st3, w3, r3⟩ := yl x H3 hy
      have ed : ds.drop i = d :: ds.drop (i + 1) := by
        rw [List.drop_eq_getElem_cons hl]
        rw [List.getElem?_eq_getElem hl] at hd
        cases hd
        rfl
      rw [ed] at h2
      unfold loopS at h2
      cases ep : t.put d env2 with
      | none => rw [ep] at h2; exact h2.elim
      | some env3 =>
        rw [ep] at h2
        have fr3 : (B.at_ F1 I1 H1).fr F3 I2 H3 L2 σ2 env2 := fr2.step st3 w3
        refine ⟨B.E.at_ F1 I1 H1, F3, I2, L2, env2, d, env3, fr3, r3, ep, fun σ4 fr4 _ => ⟨B.E.at_ F1 I1 H1, F3, I2, L2, env3, fr4, ?_⟩⟩
        have h3 : PostS B D (match exs B.G cb env3 L2 with
          | .ok .next env L => loopS t (fun env L => exs B.G cb env L) (ds.drop (i + 1)) env L
          | .ok .cont env L => loopS t (fun env L => exs B.G cb env L) (ds.drop (i + 1)) env L
          | .ok .brk env L => .ok .next env L
          | r => r) := h2
        show PostS (B.at_ F1 I1 H1) _ (exs B.G cb env3 L2)
        cases r : exs B.G cb env3 L2 with
        | ok fl env4 L4 =>
          rw [r] at h3
          cases fl with
          | next => exact fun F4 I4 H4 σ4 fr4 => ⟨F4, I4, L4, env4, fr4, h3⟩
          | cont => exact fun F4 I4 H4 σ4 fr4 => ⟨F4, I4, L4, env4, fr4, h3⟩
          | brk => exact fun F4 I4 H4 σ4 fr4 => h3 F4 I4 H4 σ4 (fr_out fr1 fr4)
          | ret d => exact fun F4 I4 H4 σ4 v fr4 rv => h3 F4 I4 H4 σ4 v (fr_out fr1 fr4) rv
        | exc c vs env4 L4 =>
          rw [r] at h3
          exact fun F4 I4 H4 σ4 cls d fr4 xr => h3 F4 I4 H4 σ4 cls d (fr_out fr1 fr4) xr
        | bad => rw [r] at h3; exact h3.elim
theorem s_while (S : Sx B X n) {body : List Stmt} {cb : CSs} (hc : PT X c (tTs B cc)) (hb : PSs X body (tExs B cb)) : PS X (.While c body [] p) (tEx B (.while cc cb)) :=
  PSimp (ps_while S.po hc hb) fun D σ H ⟨F, I, L, env, fr, q⟩ => by
    have q' : PostS B D (whileS (fun env L => (ev B.G cc env L).bind fun x L => opt (truth x) L) (fun env L => exs B.G cb env L) B.G.turns env L) := q
    refine ⟨fun m σ H => ∃ F' I' L' env', B.fr F' I' H L' σ env' ∧ PostS B D (whileS (fun env L => (ev B.G cc env L).bind fun x L => opt (truth x) L) (fun env L => exs B.G cb env L) m env' L'), ⟨_, F, I, L, env, fr, q'⟩, ?_⟩
    rintro m σ2 H2 ⟨F2, I2, L2, env2, fr2, h2⟩
    cases m with
    | zero => exact h2.elim
    | succ m =>
      refine ⟨F2, I2, L2, env2, fr2, withinS fr2 h2 fun k L3 F3 I3 H3 b st3 fr3 eb h3 => ?_⟩
      obtain rfl : b = k := eb
      cases b with
      | false =>
        rw [if_neg (by decide)] at h3 ⊢
        exact h3 _ _ _ _ fr3
      | true =>
        rw [if_pos rfl] at h3 ⊢
        replace h3 : PostS B D (match exs B.G cb env2 L3 with
          | .ok .next env L => whileS (fun env L => (ev B.G cc env L).bind fun x L => opt (truth x) L) (fun env L => exs B.G cb env L) m env L
          | .ok .cont env L => whileS (fun env L => (ev B.G cc env L).bind fun x L => opt (truth x) L) (fun env L => exs B.G cb env L) m env L
          | .ok .brk env L => .ok .next env L
          | r => r) := h3
        refine ⟨fun σ4 H4 => ∃ F' I' L' env', B.fr F' I' H4 L' σ4 env' ∧ PostS B D (whileS (fun env L => (ev B.G cc env L).bind fun x L => opt (truth x) L) (fun env L => exs B.G cb env L) m env' L'), fun σ4 H4 h => ⟨m, by omega, h⟩, F3, I3, L3, env2, fr3, ?_⟩
        cases r : exs B.G cb env2 L3 with
        | ok fl env4 L4 =>
          rw [r] at h3
          cases fl with
          | next => exact fun F4 I4 H4 σ4 fr4 => ⟨F4, I4, L4, env4, fr4, h3⟩
          | cont => exact fun F4 I4 H4 σ4 fr4 => ⟨F4, I4, L4, env4, fr4, h3⟩
          | brk => exact h3
          | ret d => exact h3
        | exc c vs env4 L4 => rw [r] at h3; exact h3
        | bad => rw [r] at h3; exact h3.elim
end
end Wa

set_option Elab.async false
set_option linter.all false
set_option maxRecDepth 100000
set_option maxHeartbeats 4000000
/-! WaFresh: objects made anew. -/
namespace Wa
open PySem PySem.Spec PyProof.Rows L2

section
variable {B : Bd} {X : Cx} {n : Nat} {e a b c : Expr} {es : List Expr} {p p2 apos : Pos} {ca cb cc : CE} {oa ob oc : CO} {cs : CEs} {os : COs} {D : Ends} {σ σ' : L2.St} {H H' : Hp} {F F' : Addr → Prop} {I I' : List Addr} {L L' : List Cell} {env env' : Env} {cf : CF}
/-- an object that is new since H0 -/
def rNew (B : Bd) (H0 : Hp) (F : Addr → Prop) (I : List Addr) (H : Hp) (s : Wa.S) (v : V) : Prop := isOwn s = true ∧ SRep B.T F I H (fun p => H0 p = none) noEx s v
def tNew (B : Bd) (c : CF) : TE := fun σ H Q => ∃ F I L env, B.fr F I H L σ env ∧ B.post σ F I H (rNew B H) (evF B.G c env L) Q
theorem own_new {H0 : Hp} {pa : Addr} (st : ∀ p u, H0 p = some u → ∃ u', H p = some u') (w : Wf B.T F I H L) (h : H pa = none) : Own F I (fun p => H0 p = none) pa :=
  ⟨fun z => by (obtain ⟨u, e⟩ := w.fr pa z; rw [h] at e; cases e), fun z => by (obtain ⟨u, e, _⟩ := w.cell z; rw [h] at e; cases e), none_back st h⟩
theorem new_lst {H0 : Hp} {pa : Addr} {ds : List Wa.D} {xs : List V} (st : ∀ p u, H0 p = some u → ∃ u', H p = some u') (w : Wf B.T F I H L) (h : H pa = none) (r : Reps B.T F I H ds xs) : rNew B H0 F I (L2.upd H pa (.lst xs)) (.olst ds) (.ref pa) :=
  ⟨rfl, pa, xs, rfl, own_new (B := B) st w h, upd_same, r.keeps ((Step.laid (ro := true) h).keeps0 w)⟩
/-- frozen at once -/
theorem s_fr (h : PE X e (tNew B cf)) : PE X e (tEv B (.fr cf)) :=
  PEimp h fun σ H Q ⟨F, I, L, env, fr, q⟩ => ⟨F, I, L, env, fr, by
    have q' : B.post σ F I H (rE B) ((evF B.G cf env L).bind fun s L => .ok (frz s) L) Q := q
    cases r : evF B.G cf env L with
    | ok s L1 =>
      rw [r] at q'
      intro F1 I1 H1 v st w ⟨os, rs⟩
      have grow : ∀ {pa : Addr} {u : HO}, Own F1 I1 (fun p => H p = none) pa → H1 pa = some u → Step B.G.ro noEx F I H (fun q => F1 q ∨ q = pa) I1 H1 ∧ Wf B.T (fun q => F1 q ∨ q = pa) I1 H1 L1 := fun {pa u} o hu => by
        refine ⟨⟨st.keep, st.there, st.still, fun q f => .inl (st.more q f), fun q f => ?_, st.pre, st.rok⟩, ⟨fun q f => ?_, fun q m f => ?_, w.nd, w.len, fun i a c e1 e2 => (w.at_ i a c e1 e2).keeps (Keeps.grow fun _ z => .inl z) fun _ z => z⟩⟩
        · rcases f with f | rfl
          · exact st.new q f
          · exact .inr (.inl o.mine)
        · rcases f with f | rfl
          · exact w.fr q f
          · exact ⟨u, hu⟩
        · rcases f with f | rfl
          · exact w.ap q m f
          · exact o.ni m
      cases s with
      | val d => cases os
      | olst ds =>
        obtain ⟨pa, xs, rfl, o, h1, h2⟩ := rs
        obtain ⟨g1, g2⟩ := grow o h1
        exact q' _ I1 H1 _ g1 g2 (.lst (.inr rfl) (.inl h1) (h2.keeps (Keeps.grow fun _ z => .inl z)))
      | odct ks vs =>
        obtain ⟨pa, rfl, o, h1⟩ := rs
        obtain ⟨u, hu, _⟩ := h1.some
        obtain ⟨g1, g2⟩ := grow o hu
        exact q' _ I1 H1 _ g1 g2 (.of_dct (.inr rfl) (h1.keeps (Keeps.grow fun _ z => .inl z) fun _ z => z))
      | oins k vs =>
        obtain ⟨pa, dx, fs, rfl, o, h1, h2, h3⟩ := rs
        have o' : Own F1 I1 (fun p => H p = none) pa := ⟨o.nf, o.ni, o.mine.elim⟩
        obtain ⟨g1, g2⟩ := grow o' h1
        exact q' _ I1 H1 _ g1 g2 (.ins (.inr rfl) h1 h2 (h3.keeps (Keeps.grow fun _ z => .inl z)))
    | exc c vs L1 => rw [r] at q'; exact q'
    | bad => rw [r] at q'; exact q'⟩
/-- bound to a name -/
theorem fr_new {i : Nat} {s : Wa.S} {v : V} (fr0 : B.fr F I H L σ env) (fr : B.fr F' I' H' L' σ env) (r : rNew B H F' I' H' s v) : B.fr F' I' H' L' (σ.set i (some v)) (env.set i (some s)) := by
  obtain ⟨os, rs⟩ := r
  have mine : ∀ {p : Addr}, Own F' I' (fun p => H p = none) p → Own F' I' B.E.M p := fun o => ⟨o.nf, o.ni, .inl (none_back fr0.st.there o.mine)⟩
  have ne : ∀ {p : Addr}, H p = none → ∀ j t, slot env j = some t → isOwn t = true → σ[j]? ≠ some (some (.ref p)) := fun {p} hp j t et ot e => by
    obtain ⟨v', e', r'⟩ := fr0.sl j t et
    rw [e] at e'
    cases e'
    cases t with
    | val d => cases ot
    | olst ds => obtain ⟨q, xs, ev, o, h1, _⟩ := r'; cases ev; rw [hp] at h1; cases h1
    | odct ks vs => obtain ⟨q, ev, o, h1⟩ := r'; cases ev; obtain ⟨u, hu, _⟩ := h1.some; rw [hp] at hu; cases hu
    | oins k vs => obtain ⟨q, dx, fs, ev, o, h1, _⟩ := r'; cases ev; rw [hp] at h1; cases h1
  cases s with
  | val d => cases os
  | olst ds =>
    obtain ⟨pa, xs, rfl, o, h1, h2⟩ := rs
    exact fr_own (L' := L) fr ⟨pa, xs, rfl, mine o, h1, h2⟩ (ne o.mine)
  | odct ks vs =>
    obtain ⟨pa, rfl, o, h1⟩ := rs
    exact fr_own (L' := L) fr ⟨pa, rfl, mine o, h1⟩ (ne o.mine)
  | oins k vs =>
    obtain ⟨pa, dx, fs, rfl, o, h1, h2, h3⟩ := rs
    have o' : Own F' I' (fun p => H p = none) pa := ⟨o.nf, o.ni, o.mine.elim⟩
    exact fr_own (L' := L) fr ⟨pa, dx, fs, rfl, ⟨o.nf, o.ni, o.mine.elim⟩, h1, h2, h3⟩ (ne o'.mine)
theorem s_setF (S : Sx B X n) {i : Nat} {x : Str} {px : Pos} (h : PE X e (tNew B cf)) (hN : X.N[i]? = some x) (hx : L2.Loc X.env.scope x) (hf : X.fn x = true ∨ X.env.scope.names.lookup x = some .local) (hn : swapsWith e (some (.Name x px)) p.line X.env = pure false) :
    PS X (.Assign [.Name x px] e p) (tEx B (.setF i cf)) :=
  PSimp (ps_set S.nd hN hx h hn hf) fun D σ H ⟨F, I, L, env, fr, q⟩ => by
    have q' : PostS B D (within env (evF B.G cf env L) fun s L => .ok .next (env.set i (some s)) L) := q
    exact ⟨F, I, L, env, fr, withinS fr q' fun s L1 F1 I1 H1 v st fr1 rn h1 => h1 _ _ _ _ (fr_new fr fr1 rn)⟩
/-! ### displays, sums, slices -/
theorem s_lstF (S : Sx B X n) (h : PA X es (tEvs B cs)) : PE X (.List es p) (tNew B (.lst cs)) :=
  PEimp (pe_lst h) fun σ H Q ⟨F, I, L, env, fr, q⟩ => ⟨F, I, L, env, fr, by
    have q' : B.post σ F I H (rNew B H) ((evs B.G cs env L).bind fun ds L => sized ds.length (.olst ds) L) Q := q
    exact q'.seq fun ds L1 F1 I1 H1 xs st1 w1 rs h1 => by
      unfold sized at h1
      split at h1
      · rename_i hl
        refine ⟨by rw [← rs.length]; exact hl, fun pa hp => ?_⟩
        exact h1 F1 I1 _ _ (Step.laid hp) (w1.laid hp) (new_lst st1.there w1 hp rs)
      · exact h1.elim⟩
theorem s_opF (S : Sx B X n) {oa ob : CO} (ha : PE X a (tEvO B oa)) (hb : PE X b (tEvO B ob)) : PE X (.BinOp a .Add b p) (tNew B (.op .add oa ob)) :=
  PEimp (pe_op op_catR ha hb) fun σ H Q ⟨F, I, L, env, fr, h⟩ => ⟨F, I, L, env, fr, by
    have h' : B.post σ F I H (rNew B H) ((evO B.G oa env L).bind fun x L => (evO B.G ob env L).bind fun y L => match opD .add x y with | some (.lst ys) => .ok (.olst ys) L | _ => .bad) Q := h
    exact h'.seq fun x L1 F1 I1 H1 vx st1 w1 rx h1 => ⟨F1, I1, L1, env, fr.step st1 w1, h1.seq fun y L2 F2 I2 H2 vy st2 w2 ry h2 => by
      have rx2 := rx.step st2 w1
      cases x <;> cases y <;> first | exact h2.elim | skip
      · simp only [opD] at h2
        split at h2
        · rename_i heq; split at heq <;> cases heq
        · exact h2.elim
      · simp only [opD] at h2
        split at h2
        · rename_i heq; split at heq <;> cases heq
        · exact h2.elim
      · rename_i xs ys
        simp only [opD] at h2
        by_cases hl : xs.length + ys.length ≤ line
        · rw [if_pos hl] at h2
          obtain ⟨pa, us, rfl, h3, h4⟩ := RepV.lst (.inl rx2)
          obtain ⟨pb, vs, rfl, h5, h6⟩ := RepV.lst (.inl ry)
          refine ⟨pa, pb, us, vs, rfl, rfl, h3, h5, by rw [← h4.length, ← h6.length]; exact hl, fun pc hp => ?_⟩
          exact h2 F2 I2 _ _ (Step.laid hp) (w2.laid hp) (new_lst (st1.trans st2).there w2 hp (h4.append h6))
        · rw [if_neg hl] at h2
          exact h2.elim⟩⟩
/-! ### list comprehensions -/
def Bd.blk (B : Bd) : Bd := { B with W := fun _ _ _ _ => False }
theorem fr_wipe (fr : B.fr F I H L σ env) (own : List Nat) : B.fr F I H L (L2.wipe σ own) (Wa.wipe env own) := by
  induction own with
  | nil => exact fr
  | cons i is ih =>
    have e1 : L2.wipe σ (i :: is) = (L2.wipe σ is).set i none := rfl
    have e2 : Wa.wipe env (i :: is) = (Wa.wipe env is).set i none := rfl
    rw [e1, e2]
    refine ⟨ih.wf, by simp [ih.len], fun j s h => ?_, fun j k s t q h1 h2 o1 o2 q1 q2 => ?_, ih.st, ih.exo⟩
    · rcases slot_set h with ⟨_, e, _⟩ | ⟨ne, h⟩
      · cases e
      · obtain ⟨v, e, r⟩ := ih.sl j s h
        exact ⟨v, by rw [List.getElem?_set_ne (Ne.symm ne)]; exact e, r⟩
    · rcases slot_set h1 with ⟨_, e, _⟩ | ⟨n1, h1⟩
      · cases e
      · rcases slot_set h2 with ⟨_, e, _⟩ | ⟨n2, h2⟩
        · cases e
        · rw [List.getElem?_set_ne (Ne.symm n1)] at q1
          rw [List.getElem?_set_ne (Ne.symm n2)] at q2
          exact ih.ap j k s t q h1 h2 o1 o2 q1 q2
theorem wipe_len (σ : L2.St) (own : List Nat) : (L2.wipe σ own).length = σ.length := by
  induction own with
  | nil => rfl
  | cons i is ih =>
    show ((L2.wipe σ is).set i none).length = _
    rw [List.length_set, ih]
theorem wipe_at (σ : L2.St) (own : List Nat) (j : Nat) : (L2.wipe σ own)[j]? = if j ∈ own ∧ j < σ.length then some none else σ[j]? := by
  induction own with
  | nil => simp; rfl
  | cons i is ih =>
    show ((L2.wipe σ is).set i none)[j]? = _
    by_cases h : i = j
    · subst h
      by_cases hl : i < σ.length
      · rw [List.getElem?_set_self (by rw [wipe_len]; exact hl), if_pos ⟨List.mem_cons_self, hl⟩]
      · rw [if_neg (fun z => hl z.2), List.getElem?_eq_none_iff.mpr (by rw [List.length_set, wipe_len]; omega), List.getElem?_eq_none_iff.mpr (by omega)]
    · rw [List.getElem?_set_ne h, ih]
      have : (j ∈ i :: is) ↔ j ∈ is := by
        rw [List.mem_cons]
        exact ⟨fun z => z.elim (fun z => absurd z.symm h) id, .inr⟩
      simp only [this]
theorem wipe_same {own ns : List Nat} {σ σ2 : L2.St} (h : SameBut ns (L2.wipe σ own) σ2) (hn : ∀ i ∈ ns, i ∈ own) : L2.wipe σ2 own = L2.wipe σ own := by
  apply List.ext_getElem?
  intro j
  have hl : σ2.length = σ.length := by rw [h.1, wipe_len]
  rw [wipe_at, wipe_at, hl]
  by_cases hj : j ∈ own ∧ j < σ.length
  · rw [if_pos hj, if_pos hj]
  · rw [if_neg hj, if_neg hj]
    by_cases hm : j ∈ own
    · have : ¬ j < σ.length := fun z => hj ⟨hm, z⟩
      rw [List.getElem?_eq_none_iff.mpr (by omega), List.getElem?_eq_none_iff.mpr (by omega)]
    · rw [h.2 j fun z => hm (hn j z), wipe_at, if_neg hj]
theorem step_newobj {ro : Bool} {pa : Addr} {o' : HO} (st : Step ro noEx F I H F' I' H') (h : H pa = none) : Step ro noEx F I H F' I' (L2.upd H' pa o') := by
  have ne : ∀ {p u}, H p = some u → p ≠ pa := fun e z => by rw [z, h] at e; cases e
  refine ⟨fun p u e i x => by rw [upd_ne (ne e)]; exact st.keep p u e i x, fun p u e => by rw [upd_ne (ne e)]; exact st.there p u e, fun p u e z => by rw [upd_ne (ne e)]; exact st.still p u e z, st.more, st.new, st.pre, fun z => ⟨fun p u e x => by rw [upd_ne (ne e)]; exact (st.rok z).1 p u e x, (st.rok z).2⟩⟩
theorem Wf.own_upd {T : View} {pa : Addr} {u o' : HO} (w : Wf T F I H L) (nf : ¬ F pa) (ni : pa ∉ I) (hp : H pa = some u) (m : Moves u) : Wf T F I (L2.upd H pa o') L := by
  refine ⟨fun q f => ?_, w.ap, w.nd, w.len, fun i a c e1 e2 => (w.at_ i a c e1 e2).keeps (keeps_upd nf hp m) fun v e => ?_⟩
  · have ne : q ≠ pa := fun z => nf (by rw [← z]; exact f)
    rw [upd_ne ne]
    exact w.fr q f
  · have ne : a ≠ pa := fun z => ni (by rw [← z]; exact List.mem_of_getElem? e1)
    rw [upd_ne ne]
    exact e
abbrev tTst (B : Bd) (c : CEo) : TT := tR B rB (evB B.G c)
theorem ts_nil : PTs X [] (tTst B .none) := ⟨fun pins s σ H Q J q => pts_nil.run pins s σ H Q J (by
  obtain ⟨F, I, L, env, fr, h⟩ := q
  exact h F I H true Step.refl fr.wf rfl)⟩
theorem ts_one (h : PT X e (tTs B ca)) : PTs X [e] (tTst B (.some ca)) := pts_one h
/-- the list that a comprehension makes, so far -/
structure Acc (B : Bd) (F1 : Addr → Prop) (I1 : List Addr) (H1 : Hp) (Da : Addr) (F : Addr → Prop) (I : List Addr) (H : Hp) (L : List Cell) (acc : List V) (done : List Wa.D) : Prop where
  st : Step B.G.ro noEx F1 I1 H1 F I H
  wf : Wf B.T F I H L
  nf : ¬ F Da
  ni : Da ∉ I
  at_ : H Da = some (.lst acc)
  rs : Reps B.T F I H done acc
theorem Acc.go {F1 : Addr → Prop} {I1 : List Addr} {H1 : Hp} {Da : Addr} {acc : List V} {done : List Wa.D} (a : Acc B F1 I1 H1 Da F I H L acc done) (st : Step B.G.ro noEx F I H F' I' H') (w : Wf B.T F' I' H' L') : Acc B F1 I1 H1 Da F' I' H' L' acc done := by
  have o : Own F I (fun _ => True) Da := ⟨a.nf, a.ni, trivial⟩
  obtain ⟨o', h'⟩ := o.step a.at_ st
  exact ⟨a.st.trans st, w, o'.nf, o'.ni, h', a.rs.keeps (st.keeps0 a.wf)⟩
theorem Acc.put {F1 : Addr → Prop} {I1 : List Addr} {H1 : Hp} {Da : Addr} {acc : List V} {done : List Wa.D} {d : Wa.D} {y : V} (hD : H1 Da = none) (a : Acc B F1 I1 H1 Da F I H L acc done) (r : Rep B.T F I H d y) : Acc B F1 I1 H1 Da F I (L2.upd H Da (.lst (acc ++ [y]))) L (acc ++ [y]) (done ++ [d]) :=
  ⟨step_newobj a.st hD, a.wf.own_upd a.nf a.ni a.at_ trivial, a.nf, a.ni, upd_same, (a.rs.append (.cons r .nil)).keeps (keeps_upd a.nf a.at_ trivial)⟩
theorem lc_read (S : Sx B X n) {ci : CI} {t : CT} {tst : CEo} {own : List Nat} (hn : ∀ i ∈ t.names, i ∈ own) {σ : L2.St} {H : Hp} {Q : VK} (h : tNew B (.comp own ca t ci tst) σ H Q) :
    tLc (tI B false ci) (tPat B.blk t) (tTst B.blk tst) (tEv B.blk ca) own σ H Q := by
  obtain ⟨F, I, L, env, fr, q⟩ := h
  have q' : B.post σ F I H (rNew B H) ((evI B.G ci env L).bind fun xs L => (nox (compL t (evB B.G tst) (ev B.G ca) (Wa.wipe env own) xs L)).bind fun ds L => sized ds.length (.olst ds) L) Q := q
  refine ⟨F, I, L, env, fr, q'.seq fun xs L1 F1 I1 H1 J st1 w1 it q1 Da hD => ?_⟩
  have hD0 : H Da = none := none_back st1.there hD
  have tl : ∀ {L' : List Cell} {i : Nat}, ∀ done : List Wa.D, B.post σ F1 I1 H1 (rNew B H) ((nox (compL t (evB B.G tst) (ev B.G ca) (Wa.wipe env own) (xs.drop i) L')).bind fun ds L => sized (done ++ ds).length (.olst (done ++ ds)) L) Q → ∃ ds L'', compL t (evB B.G tst) (ev B.G ca) (Wa.wipe env own) (xs.drop i) L' = .ok ds L'' ∧ (done ++ ds).length ≤ line := fun {L' i} done h => by
    cases r : compL t (evB B.G tst) (ev B.G ca) (Wa.wipe env own) (xs.drop i) L' with
    | ok ds L'' =>
      rw [r] at h
      have h' : B.post σ F1 I1 H1 (rNew B H) (sized (done ++ ds).length (.olst (done ++ ds)) L'') Q := h
      unfold sized at h'
      split at h'
      · rename_i hl; exact ⟨ds, L'', rfl, hl⟩
      · exact h'.elim
    | exc c vs L'' => rw [r] at h; exact h.elim
    | bad => rw [r] at h; exact h.elim
  let W : Nat → Nat → Hp → Prop := fun i m H' => ∃ F' I' L' acc done, Acc B F1 I1 H1 Da F' I' H' L' acc done ∧ m = xs.length - i ∧ B.post σ F1 I1 H1 (rNew B H) ((nox (compL t (evB B.G tst) (ev B.G ca) (Wa.wipe env own) (xs.drop i) L')).bind fun ds L => sized (done ++ ds).length (.olst (done ++ ds)) L) Q
  refine ⟨W, ⟨_, F1, I1, L1, [], [], ⟨Step.laid hD, w1.laid hD, (own_new (B := B) (H0 := H) st1.there w1 hD).nf, (own_new (B := B) (H0 := H) st1.there w1 hD).ni, upd_same, .nil⟩, rfl, q1⟩, ?_⟩
  rintro i m H2 ⟨F2, I2, L2, acc, done, A2, rfl, q2⟩
  obtain ⟨hstop, hgo⟩ := it i F2 I2 H2 L2 A2.st A2.wf
  by_cases hl : xs.length ≤ i
  · left
    obtain ⟨ds, L'', _, hz⟩ := tl done q2
    rw [List.drop_eq_nil_of_le hl] at q2
    have q3 : B.post σ F1 I1 H1 (rNew B H) (sized (done ++ []).length (.olst (done ++ [])) L2) Q := q2
    rw [List.append_nil] at q3
    unfold sized at q3
    rw [if_pos (by rw [List.length_append] at hz; omega)] at q3
    exact ⟨hstop hl, q3 F2 I2 H2 _ A2.st A2.wf ⟨rfl, Da, acc, rfl, ⟨A2.nf, A2.ni, hD0⟩, A2.at_, A2.rs⟩⟩
  · right
    have hl : i < xs.length := by omega
    obtain ⟨d, hd⟩ : ∃ d, xs[i]? = some d := ⟨xs[i], List.getElem?_eq_getElem hl⟩
    obtain ⟨go, yl⟩ := hgo d hd
    have ed : xs.drop i = d :: xs.drop (i + 1) := by
      rw [List.drop_eq_getElem_cons hl]
      rw [List.getElem?_eq_getElem hl] at hd
      cases hd
      rfl
    refine ⟨go, fun H' => ∃ F' I' L' acc done, Acc B F1 I1 H1 Da F' I' H' L' acc done ∧ B.post σ F1 I1 H1 (rNew B H) ((nox (compL t (evB B.G tst) (ev B.G ca) (Wa.wipe env own) (xs.drop (i + 1)) L')).bind fun ds L => sized (done ++ ds).length (.olst (done ++ ds)) L) Q, fun H' ⟨F', I', L', acc, done, h1, h2⟩ => ⟨xs.length - (i + 1), by omega, F', I', L', acc, done, h1, rfl, h2⟩, fun x H3 hy => ?_⟩
    obtain ⟨F3, st3, w3, r3⟩ := yl x H3 hy
    have A3 := A2.go st3 w3
    have fr3 : B.fr F3 I2 H3 L2 (_root_.L2.wipe σ own) (Wa.wipe env own) := fr_wipe (fr.step (st1.trans A3.st) w3) own
    rw [ed] at q2
    unfold compL at q2
    cases ep : t.put d (Wa.wipe env own) with
    | none => rw [ep] at q2; exact q2.elim
    | some env' =>
      rw [ep] at q2
      refine ⟨F3, I2, L2, _, d, env', fr3, r3, ep, fun σ4 fr4 same => ⟨wipe_same same hn, F3, I2, L2, env', fr4, ?_⟩⟩
      have q3 : B.post σ F1 I1 H1 (rNew B H) ((nox ((evB B.G tst env' L2).bind fun b L => if b then (ev B.G ca env' L).bind fun d L => (compL t (evB B.G tst) (ev B.G ca) (Wa.wipe env own) (xs.drop (i + 1)) L).bind fun ds L => .ok (d :: ds) L else compL t (evB B.G tst) (ev B.G ca) (Wa.wipe env own) (xs.drop (i + 1)) L)).bind fun ds L => sized (done ++ ds).length (.olst (done ++ ds)) L) Q := q2
      show B.blk.post σ4 F3 I2 H3 rB (evB B.G tst env' L2) _
      cases r : evB B.G tst env' L2 with
      | exc c vs L'' => rw [r] at q3; exact q3.elim
      | bad => rw [r] at q3; exact q3.elim
      | ok k L4 =>
        rw [r] at q3
        intro F4 I4 H4 k' st4 w4 ek
        obtain rfl : k' = k := ek
        have A4 := A3.go st4 w4
        cases k' with
        | false =>
          rw [if_neg (by decide)]
          exact ⟨F4, I4, L4, acc, done, A4, q3⟩
        | true =>
          rw [if_pos rfl]
          refine ⟨F4, I4, L4, env', fr4.step st4 w4, ?_⟩
          have q4 : B.post σ F1 I1 H1 (rNew B H) ((nox ((ev B.G ca env' L4).bind fun d L => (compL t (evB B.G tst) (ev B.G ca) (Wa.wipe env own) (xs.drop (i + 1)) L).bind fun ds L => .ok (d :: ds) L)).bind fun ds L => sized (done ++ ds).length (.olst (done ++ ds)) L) Q := q3
          show B.blk.post σ4 F4 I4 H4 (rE B) (ev B.G ca env' L4) _
          cases r2 : ev B.G ca env' L4 with
          | exc c vs L'' => rw [r2] at q4; exact q4.elim
          | bad => rw [r2] at q4; exact q4.elim
          | ok z L5 =>
            rw [r2] at q4
            intro F5 I5 H5 y st5 w5 ry
            have A5 := A4.go st5 w5
            have q5 : B.post σ F1 I1 H1 (rNew B H) ((nox (compL t (evB B.G tst) (ev B.G ca) (Wa.wipe env own) (xs.drop (i + 1)) L5)).bind fun ds L => sized ((done ++ [z]) ++ ds).length (.olst ((done ++ [z]) ++ ds)) L) Q := by
              simp only [Wa.R.bind] at q4
              cases r3 : compL t (evB B.G tst) (ev B.G ca) (Wa.wipe env own) (xs.drop (i + 1)) L5 with
              | ok ds L6 =>
                rw [r3] at q4
                have q6 : B.post σ F1 I1 H1 (rNew B H) (sized (done ++ z :: ds).length (.olst (done ++ z :: ds)) L6) Q := q4
                show B.post σ F1 I1 H1 (rNew B H) (sized ((done ++ [z]) ++ ds).length (.olst ((done ++ [z]) ++ ds)) L6) Q
                rw [List.append_assoc]
                exact q6
              | exc c vs L'' => rw [r3] at q4; exact q4.elim
              | bad => rw [r3] at q4; exact q4.elim
            obtain ⟨ds, L'', _, hz⟩ := tl (done ++ [z]) q5
            refine ⟨acc, A5.at_, ?_, F5, I5, L5, acc ++ [y], done ++ [z], A5.put hD ry, q5⟩
            rw [← A5.rs.length]
            rw [List.length_append, List.length_append] at hz
            have : ([z] : List Wa.D).length = 1 := rfl
            have : line = sizeLine := rfl
            omega
end
end Wa

set_option Elab.async false
set_option linter.all false
set_option maxRecDepth 100000
set_option maxHeartbeats 4000000
/-! WaDc: dict comprehensions, whatever the keys are. -/
namespace Wa
open PySem PySem.Spec PyProof.Rows L2

/-- how a dict's entry is stored while the dict is made -/
abbrev PD := Addr → V → V → Hp → (Hp → Prop) → Prop
def tDcS (pd : PD) (wi : TI) (g : TG) (tt : TT) (tk tv : TE) (vs : List Nat) : TE := fun σ H Q => wi σ H fun J H1 => ∀ Da, H1 Da = none → ∃ W : Nat → Nat → Hp → Prop, (∃ m, W 0 m (upd H1 Da (.dK []))) ∧
  ∀ i m H, W i m H → (J.stop i H ∧ Q (.ref Da) H) ∨ (J.go i H ∧ ∃ Nx : Hp → Prop, (∀ H', Nx H' → ∃ m', m' < m ∧ W (i + 1) m' H') ∧ ∀ x H', J.yld i H x H' → g x (L2.wipe σ vs) H' fun σ2 H2 => L2.wipe σ2 vs = L2.wipe σ vs ∧
    tt σ2 H2 fun b H3 => if b = true then tk σ2 H3 fun y H4 => tv σ2 H4 fun z H5 => pd Da y z H5 Nx else Nx H3)
/-- .. and what stands at the machine -/
def PDok (X : Cx) (pd : PD) : Prop := ∀ (pins : List (Addr × Obj)) (s : Shared) (σ : L2.St) (H : Hp) (Da : Addr) (y z : V) (u r : Value) (Q : Hp → Prop) (E : Value → Shared → Prop), Inv X pins σ H s → RelV y u → RelV z r → pd Da y z H Q →
  wpAny (model X.prog X.w) X.A (dictSet Da u r) (fun _ s' => ∃ H', Inv X pins σ H' s' ∧ Q H') E s
theorem dcS_core {X : Cx} {pins : List (Addr × Obj)} {s : Shared} {σ : L2.St} {H : Hp} {Q : VK} {kx vx tg iter : Expr} {ifs : List Expr} {scope : Scope} {own : List (Str × Nat)} {pos pos' : Pos} {wi : TI} {g : TG} {tt : TT} {tk tv : TE} {use : Option (Value → Sem Unit)} {Qf : Value → Shared → Prop} {pd : PD}
    (hc : X.calm = true) (hN : X.N.Nodup) (I : Inv X pins σ H s) (hi : PI X tg iter wi) (ok : BlkOk X.N X.env.scope scope own)
    (hg : ∀ (s : Shared) (H : Hp) (C : Addr) (cl : List (Str × Addr)) (fp : List Addr), PG (X.blk s H scope (compEnvC scope cl C X.env) fp) tg g)
    (ht : ∀ (s : Shared) (H : Hp) (C : Addr) (cl : List (Str × Addr)) (fp : List Addr), PTs (X.blk s H scope (compEnvC scope cl C X.env) fp) ifs tt)
    (hk : ∀ (s : Shared) (H : Hp) (C : Addr) (cl : List (Str × Addr)) (fp : List Addr), PE (X.blk s H scope (compEnvC scope cl C X.env) fp) kx tk)
    (he : ∀ (s : Shared) (H : Hp) (C : Addr) (cl : List (Str × Addr)) (fp : List Addr), PE (X.blk s H scope (compEnvC scope cl C X.env) fp) vx tv)
    (hp : ∀ (s : Shared) (H : Hp) (C : Addr) (cl : List (Str × Addr)) (fp : List Addr), PDok (X.blk s H scope (compEnvC scope cl C X.env) fp) pd)
    (hs : ∀ x, foldedSetIterable iter X.env x = pure x) (h : tDcS pd wi g tt tk tv (own.map (·.2)) σ H Q)
    (hRR : ∀ (D C : Addr) (s' : Shared) (m : Str → Option Value) (H' : Hp), Inv X pins σ H' s' → Q (.ref D) H' → s'.heap.Ns C m → FpOk X pins H' C → compPost (model X.prog X.w) X.A X.xe use Qf (.ref D) C (.ok .next) s') :
    wpAny (model X.prog X.w) X.A (comprehension (.DictComp kx vx [⟨tg, iter, ifs, 0⟩] scope pos) scope X.env pos' newDict false (eval iter X.env) use) Qf X.xe s := by
  have hfree : ∀ y ∈ scope.names, y.2 = NameKind.free → ∃ c, X.env.cells.lookup y.1 = some c := fun y hy e => (ok.free y hy e).elim (fun k => I.ok.has y.1 (.inl k)) fun k => I.ok.has y.1 (.inr k)
  refine wpAny_comprehension_free rfl hs (closure_ok hfree) ok.kind (fun y hy e => by rw [ok.uniq y hy, e]) (thn (hi.run pins s σ H _ I h) fun xv s1 hx => thn hx fun itv s2 h2 => ?_)
  obtain ⟨it, fp, tn, J, H2, e, I2, T, st2, f2, q⟩ := h2
  subst e
  refine wpAny_newObj_type (newEnv_comp ?_) (by show ([] : List DictEntry).toArray.size ≤ _; simp)
  have hDn : H2 s2.heap.objs.size = none := I2.hok.fresh (Nat.le_refl _)
  obtain ⟨W, ⟨m0, w0⟩, turn⟩ := q _ hDn
  have I3 : Inv X pins σ (upd H2 s2.heap.objs.size (.dK [])) { s2 with heap := s2.heap.push { cls := .type "dict", data := .dict #[] } } := Inv.laid I2 (fun b o e => Heap.get?_push_of_some _ e) (Nat.le_refl _) (dk_empty s2.heap I2.big)
  generalize h3 : ({ s2 with heap := s2.heap.push { cls := .type "dict", data := .dict #[] } } : Shared) = s3 at *
  have e3 : s3.heap = s2.heap.push { cls := .type "dict", data := .dict #[] } := by rw [← h3]
  generalize hDa : s2.heap.objs.size = Da at *
  have sz : ∀ b ∈ fp, b < Da := fun b hb => by
    obtain ⟨o, e, _⟩ := T.obj 0 s2.heap st2 b hb
    rw [← hDa]
    exact Heap.lt_size e
  have f3 : ∀ b ∈ fp, FpOk X pins (upd H2 Da (.dK [])) b ∧ b < s3.heap.objs.size := fun b hb => by
    have hlt := sz b hb
    obtain ⟨z1, z2⟩ := f2 b hb
    refine ⟨⟨by rw [upd_ne (Nat.ne_of_lt hlt)]; exact z1, z2⟩, ?_⟩
    rw [e3, Heap.size_push, hDa]
    exact Nat.lt_succ_of_lt hlt
  have st3 : tn 0 s3.heap := T.keep 0 s2.heap s3.heap st2 fun b _ o e => by rw [e3]; exact Heap.get?_push_of_some _ e
  have I4 := block_start I3 ok hN f3
  have pg := hg s3 (upd H2 Da (.dK [])) s3.heap.objs.size (cellsFrom (s3.heap.objs.size + 1) scope.names (cloFrom X.env.cells scope.names [])) fp
  have pt := ht s3 (upd H2 Da (.dK [])) s3.heap.objs.size (cellsFrom (s3.heap.objs.size + 1) scope.names (cloFrom X.env.cells scope.names [])) fp
  have pk := hk s3 (upd H2 Da (.dK [])) s3.heap.objs.size (cellsFrom (s3.heap.objs.size + 1) scope.names (cloFrom X.env.cells scope.names [])) fp
  have pe := he s3 (upd H2 Da (.dK [])) s3.heap.objs.size (cellsFrom (s3.heap.objs.size + 1) scope.names (cloFrom X.env.cells scope.names [])) fp
  have pp := hp s3 (upd H2 Da (.dK [])) s3.heap.objs.size (cellsFrom (s3.heap.objs.size + 1) scope.names (cloFrom X.env.cells scope.names [])) fp
  have nfp : ∀ b ∈ fp, (upd H2 Da (.dK [])) b = none := fun b hb => (f3 b hb).1.1
  show codeAny _ _ (Code.compStart _ 0 (.ref it) (.ref Da) (compEnvC scope (cellsFrom (s3.heap.objs.size + 1) scope.names (cloFrom X.env.cells scope.names [])) s3.heap.objs.size X.env)) (compPost _ _ _ _ _ _ s3.heap.objs.size) _
  generalize hce : compEnvC scope (cellsFrom (s3.heap.objs.size + 1) scope.names (cloFrom X.env.cells scope.names [])) s3.heap.objs.size X.env = ce at *
  have cL : ce.locals = s3.heap.objs.size := by rw [← hce]; rfl
  have st4 : tn 0 (pushCells (s3.heap.push { cls := .type "dict", data := .dict #[] }) scope.names) := T.keep 0 s3.heap _ st3 fun b _ o e => pushCells_keeps scope.names _ b o (Heap.get?_push_of_some _ e)
  generalize hXB : X.blk s3 (upd H2 Da (.dK [])) scope ce fp = XB at *
  have stat : ∀ {σ' : L2.St} {H' : Hp} {s' : Shared}, Inv XB [] σ' H' s' → (∀ b ∈ fp, H' b = none) → ∀ b ∈ fp, FpOk XB [] H' b := fun {σ' H' s'} I' hn b hb => by
    subst hXB
    exact ⟨hn b hb, (I'.ok.exf b hb).1, I'.ok.exfs b hb, .inl hb, fun x c e => (I'.ok.exf b hb).2 x c e, fun p hp => absurd hp (by simp)⟩
  have loop : codeAny (model X.prog X.w) X.A (Code.compLoop (.DictComp kx vx [⟨tg, iter, ifs, 0⟩] scope pos) 0 (.ref it) (.ref Da) ce) (compPost (model X.prog X.w) X.A X.xe use Qf (.ref Da) s3.heap.objs.size) { s3 with heap := pushCells (s3.heap.push { cls := .type "dict", data := .dict #[] }) scope.names } := by
    refine compLoop_anyD (fun n s' => ∃ i H', Inv XB [] (L2.wipe σ (own.map (·.2))) H' s' ∧ tn i s'.heap ∧ (∀ b ∈ fp, H' b = none) ∧ W i n H') (fun n s5 ⟨i, H5, I5, st5, n5, w5⟩ => ?_) m0 ⟨0, _, I4, st4, nfp, w0⟩
    rcases turn i n H5 w5 with ⟨stop, qq⟩ | ⟨go, Nx, hNx, step⟩
    · have td := T.done XB (by rw [← hXB]) (by rw [← hXB]) (by rw [← hXB]) (by rw [← hXB]; exact hc) i [] s5 (L2.wipe σ (own.map (·.2))) H5 (fun _ _ => False) I5 (stat I5 n5) st5 stop
      have td' : wpAny (model X.prog X.w) X.A (pyNext (.ref it)) (fun r s1 => r = none ∧ Inv XB [] (L2.wipe σ (own.map (·.2))) H5 s1) (fun _ _ => False) s5 := by subst hXB; exact td
      refine thnF td' fun r s6 ⟨hr, I6⟩ => ?_
      subst hr
      show compPost _ _ _ _ _ _ _ _ _
      subst hXB
      have I7 : Inv X pins σ H5 s6 := Inv.call' I3 I6.os I6.base I6.hok I6.bare fun b hb => ⟨(f3 b hb).1.2.2.2.1, (f3 b hb).1.2.1, (f3 b hb).1.2.2.2.2.1, (f3 b hb).1.2.2.2.2.2⟩
      have nC : H5 s3.heap.objs.size = none := by
        have z := I6.free
        rw [← cL]
        exact z
      obtain ⟨m, hn, _⟩ := I6.loc
      exact hRR Da s3.heap.objs.size s6 m H5 I7 qq (by rw [← cL]; exact hn) (Inv.fpOk I3 (Nat.le_refl _) nC)
    · have ti := T.item XB (by rw [← hXB]) (by rw [← hXB]) (by rw [← hXB]) (by rw [← hXB]; exact hc) i [] s5 (L2.wipe σ (own.map (·.2))) H5 (fun _ _ => False) I5 (stat I5 n5) st5 go
      have hA : XB.A = X.A := by rw [← hXB]
      have hP : XB.prog = X.prog := by rw [← hXB]
      have hW : XB.w = X.w := by rw [← hXB]
      have hE : XB.env = ce := by rw [← hXB]
      have hF : XB.xe = fun _ _ => False := by rw [← hXB]
      rw [hA] at ti
      refine thnF ti fun r s6 ⟨u, hr, h6⟩ => ?_
      subst hr
      refine thnF h6 fun _ s7 ⟨x, H7, I7, r7, y7, st7, n7⟩ => ?_
      have I7' := Inv.pinned I7 (stat I7 n7) (T.obj (i + 1) s7.heap st7)
      have g1 := pg.run _ s7 _ H7 x u _ I7' r7 (step x H7 y7)
      rw [hA, hP, hW, hE, hF] at g1
      refine thnF g1 fun _ s8 ⟨σ8, H8, I8, hw8, q8⟩ => ?_
      have g2 := pt.run _ s8 σ8 H8 _ I8 q8
      rw [hA, hP, hW, hE, hF] at g2
      refine thnF g2 fun b s9 ⟨H9, I9, q9⟩ => ?_
      have fin : ∀ {s' : Shared} {H' : Hp}, Inv XB ([] ++ pinsAt fp s7.heap) σ8 H' s' → Nx H' → ∃ m, m < n ∧ ∃ i H', Inv XB [] (L2.wipe σ (own.map (·.2))) H' s' ∧ tn i s'.heap ∧ (∀ b ∈ fp, H' b = none) ∧ W i m H' := fun {s' H'} I' nx => by
        obtain ⟨m', hm, w'⟩ := hNx H' nx
        have pin' : ∀ b ∈ fp, ∀ o, s7.heap.get? b = some o → s'.heap.get? b = some o ∧ H' b = none := fun b hb o e => by
          have z := I'.pin (b, o) (List.mem_append_right _ (List.mem_append_right _ (mem_pinsAt hb e)))
          exact ⟨z.1, z.2.1⟩
        refine ⟨m', hm, i + 1, H', Inv.weak (Inv.unpinned I') ?_ ?_, T.keep (i + 1) s7.heap s'.heap st7 fun b hb o e => (pin' b hb o e).1, fun b hb => ?_, w'⟩
        · rw [← hw8, wipe_length]
        · intro j v e
          rw [← hw8] at e
          exact (wipe_some e).1
        · obtain ⟨o, e, _⟩ := T.obj (i + 1) s7.heap st7 b hb
          exact (pin' b hb o e).2
      cases b with
      | false =>
        rw [if_neg (by decide)] at q9 ⊢
        exact fin I9 q9
      | true =>
        rw [if_pos rfl] at q9 ⊢
        have g3 := pk.run _ s9 σ8 H9 _ I9 q9
        rw [hA, hP, hW, hE, hF] at g3
        refine thnF g3 fun z s10 ⟨yk, H10, I10, r10, q10⟩ => ?_
        have g4 := pe.run _ s10 σ8 H10 _ I10 q10
        rw [hA, hP, hW, hE, hF] at g4
        refine thnF g4 fun z2 s11 ⟨yv, H11, I11, r11, q11⟩ => ?_
        have g5 := pp _ s11 σ8 H11 Da yk yv z z2 Nx (fun _ _ => False) I11 r10 r11 q11
        rw [hA, hP, hW] at g5
        exact thnF g5 fun _ s12 ⟨H12, I12, nx⟩ => fin I12 nx
  exact codeAny_compStart_dict loop (T.self X.A 0 _ _ _ st4 loop)
theorem pe_dcS {X : Cx} {kx vx tg iter : Expr} {ifs : List Expr} {scope : Scope} {own : List (Str × Nat)} {pos : Pos} {wi : TI} {g : TG} {tt : TT} {tk tv : TE} {pd : PD}
    (hc : X.calm = true) (hN : X.N.Nodup) (hi : PI X tg iter wi) (ok : BlkOk X.N X.env.scope scope own)
    (hg : ∀ (s : Shared) (H : Hp) (C : Addr) (cl : List (Str × Addr)) (fp : List Addr), PG (X.blk s H scope (compEnvC scope cl C X.env) fp) tg g)
    (ht : ∀ (s : Shared) (H : Hp) (C : Addr) (cl : List (Str × Addr)) (fp : List Addr), PTs (X.blk s H scope (compEnvC scope cl C X.env) fp) ifs tt)
    (hk : ∀ (s : Shared) (H : Hp) (C : Addr) (cl : List (Str × Addr)) (fp : List Addr), PE (X.blk s H scope (compEnvC scope cl C X.env) fp) kx tk)
    (he : ∀ (s : Shared) (H : Hp) (C : Addr) (cl : List (Str × Addr)) (fp : List Addr), PE (X.blk s H scope (compEnvC scope cl C X.env) fp) vx tv)
    (hp : ∀ (s : Shared) (H : Hp) (C : Addr) (cl : List (Str × Addr)) (fp : List Addr), PDok (X.blk s H scope (compEnvC scope cl C X.env) fp) pd)
    (hs : ∀ x, foldedSetIterable iter X.env x = pure x) : PE X (.DictComp kx vx [⟨tg, iter, ifs, 0⟩] scope pos) (tDcS pd wi g tt tk tv (own.map (·.2))) :=
  ⟨fun pins s σ H Q I h => by
    rw [PySem.arm_eval_DictComp]
    refine dcS_core (use := none) hc hN I hi ok hg ht hk he hp hs h fun Da C s' m H' I' q hn hf => ⟨m, hn, fun h' hs' => ⟨.ref Da, H', ?_, rfl, q⟩⟩
    obtain ⟨f0, f1, f2, f3, f4, f5⟩ := hf
    exact Inv.turned I' (fun b o hb e => (hs'.2 b hb).trans e) f0 f1 f3 f4 f5⟩
/-- .. bound to a name at once -/
theorem ps_setDcS {X : Cx} {i : Nat} {y : Str} {py : Pos} {kx vx tg iter : Expr} {ifs : List Expr} {scope : Scope} {own : List (Str × Nat)} {pos spos : Pos} {wi : TI} {g : TG} {tt : TT} {tk tv : TE} {pd : PD}
    (hc : X.calm = true) (hN : X.N.Nodup) (hy : X.N[i]? = some y) (hyl : X.env.scope.names.lookup y = some .local) (hsw : swapsWith (.DictComp kx vx [⟨tg, iter, ifs, 0⟩] scope pos) (some (.Name y py)) spos.line X.env = pure true)
    (hi : PI X tg iter wi) (ok : BlkOk X.N X.env.scope scope own)
    (hg : ∀ (s : Shared) (H : Hp) (C : Addr) (cl : List (Str × Addr)) (fp : List Addr), PG (X.blk s H scope (compEnvC scope cl C X.env) fp) tg g)
    (ht : ∀ (s : Shared) (H : Hp) (C : Addr) (cl : List (Str × Addr)) (fp : List Addr), PTs (X.blk s H scope (compEnvC scope cl C X.env) fp) ifs tt)
    (hk : ∀ (s : Shared) (H : Hp) (C : Addr) (cl : List (Str × Addr)) (fp : List Addr), PE (X.blk s H scope (compEnvC scope cl C X.env) fp) kx tk)
    (he : ∀ (s : Shared) (H : Hp) (C : Addr) (cl : List (Str × Addr)) (fp : List Addr), PE (X.blk s H scope (compEnvC scope cl C X.env) fp) vx tv)
    (hp : ∀ (s : Shared) (H : Hp) (C : Addr) (cl : List (Str × Addr)) (fp : List Addr), PDok (X.blk s H scope (compEnvC scope cl C X.env) fp) pd)
    (hs : ∀ x, foldedSetIterable iter X.env x = pure x) : PS X (.Assign [.Name y py] (.DictComp kx vx [⟨tg, iter, ifs, 0⟩] scope pos) spos) (tAsg (tDcS pd wi g tt tk tv (own.map (·.2))) (gName i)) :=
  ⟨fun pins s σ H D I h => by
    rw [exec_Assign_Name_used y py _ spos hsw]
    refine wpAny_bind (wpAny_standAt (wpAny_bind ?_))
    refine wpAny_bind (thn (dcS_core hc hN I hi ok hg ht hk he hp hs h fun Da C s' m H' I' q hn f => ?_) fun x s' hq => wpAny_pure (wpAny_pure hq))
    refine wpAny_assign_Name (store_ok2 I' hN hy (.inl hyl) (show RelV (.ref Da) (.ref Da) from rfl) (fun s2 I2 ⟨a, sb, ha⟩ => ?_) (.inr hyl))
    obtain ⟨f0, f1, f2, f3, f4, f5⟩ := f
    have haC : C ≠ a := ha.elim (fun z => by rw [z]; exact f1) fun z e => f4 y a z e.symm
    exact ⟨m, hn.sameBut sb haC, fun h3 sb3 => ⟨σ.set i (some (.ref Da)), H', Inv.turned I2 (fun b o hb e => (sb3.2 b hb).trans e) f0 f1 f3 f4 f5, q⟩⟩⟩
end Wa

set_option Elab.async false
set_option linter.all false
set_option maxRecDepth 100000
set_option maxHeartbeats 4000000
/-! WaDc2: dict comprehensions and displays, as data. -/
namespace Wa
open PySem PySem.Spec PyProof.Rows L2

section
variable {X : Cx} {pins : List (Addr × Obj)} {σ : L2.St} {H : Hp} {s : Shared} {T : View} {F : Addr → Prop} {I : List Addr}
theorem d_set (J : Inv X pins σ H s) (hK : T.K = X.K) (hw : T.w = X.w) (hu : X.A.units + 10 < cLine) {p : Addr} {ks vs : List D} {k d : D} {r : List D × List D} {y x : V} {u w : Value} (nf : ¬ F p) (h : DctAt T F I H p ks vs) (hc : putC k d ks vs = some r)
    (rk : Rep T F I H k y) (ry : RelV y u) (rd : Rep T F I H d x) (rx : RelV x w) {E : Value → Shared → Prop} {Q : Unit → Shared → Prop}
    (q : ∀ s' o', Inv X pins σ (upd H p o') s' → Moves o' → DctAt T F I (upd H p o') p r.1 r.2 → Q () s') : wpAny (model X.prog X.w) X.A (dictSet p u w) Q E s := by
  unfold putC at hc
  split at hc
  · rename_i c
    cases hc
    obtain ⟨hk, hl⟩ := Bool.and_eq_true_iff.mp c
    have hl : ks.length < line := of_decide_eq_true hl
    have kp : ∀ o, Keeps F I H F I (upd H p o) := fun o => by
      obtain ⟨u', e, m⟩ := h.some
      exact keeps_upd nf e m
    have mu := dk_mut h
    by_cases t : k.isTup = true
    · -- a tuple
      obtain ⟨kd, rfl⟩ : ∃ kd, k = .tup kd := by cases k <;> first | exact ⟨_, rfl⟩ | cases t
      obtain ⟨rows, ok, e1, kr, vr, raw⟩ : ∃ rows, RowsOk rows ∧ ks = rows.map (fun r => D.tup r.k) ∧ Reps T F I H (rows.map fun r => D.tup r.k) (rows.map fun r => V.ref r.a) ∧ Reps T F I H vs (rows.map (·.x)) ∧ rawT X.w p rows s.heap := by
        rcases h with ⟨kvs, h1, rfl, nd, r⟩ | ⟨rows, h1, ok, rfl, kr, r⟩
        · cases kvs with
          | cons e kvs =>
            have q : ((D.tup kd).key && ((keyD e.1).isTup == true)) = true := hk
            rw [keyD_tup, show (false == true) = false from rfl, Bool.and_false] at q
            cases q
          | nil =>
            obtain ⟨z, hp, ws, rel, dd⟩ := dk_of J.hok h1
            have e := rel.length
            have : ws = [] := List.eq_nil_of_length_eq_zero e.symm
            subst this
            obtain ⟨o, es, ep, g, x, d, _, ps, _⟩ := dd
            have hes : es.toList = [] := by
              generalize es.toList = l at ps
              cases ps
              rfl
            exact ⟨[], ⟨by simp, by simp, List.nodup_nil, Nat.zero_le _⟩, rfl, .nil, r, o, es, ep, g, x, d, hes, hp⟩
        · obtain ⟨q, _⟩ := (show ObjOk X.prog X.w H s.heap p (.ext (rawT T.w p rows)) from J.hok p _ h1)
          rw [hw] at q
          exact ⟨rows, ok, rfl, kr, r, q⟩
      subst e1
      have hk' : keyins 6 kd = true := by
        cases rows with
        | nil => exact hk
        | cons e rows => exact (Bool.and_eq_true_iff.mp hk).1
      cases rk with
      | @tup a its _ sq rs =>
        obtain rfl := ry
        have rk : Rep T F I H (.tup kd) (.ref a) := .tup sq rs
        obtain ⟨hp, dd⟩ := rows_dict J hK ok kr raw
        have hsz : (rows.map Row.at_).length ≤ sizeLine := by
          rw [List.length_map] at hl ⊢
          exact Nat.le_of_lt hl
        refine wpAny_dictSet_heap (hsz := hsz) (knd := dataKind X.prog X.w) (by show X.A.units + 8 < cLine; omega) (rk.is_key J hK hk') dd fun h' dd' hs => ?_
        have he : ∃ q, h'.get? p = some q := let ⟨q, _, _, hq, _⟩ := dd'; ⟨q, hq⟩
        have raw' : rawT X.w p (putR rows kd a w x) h' := raw_of (putR_ents ok.nd) hp dd'
        obtain ⟨i1, i2, i3⟩ := put_rows (u := w) hk' rd rk ok.key kr vr
        refine q _ (.ext (rawT X.w p (putR rows kd a w x))) (d_write J mu hs he (ext_ok raw')) trivial (.inr ⟨putR rows kd a w x, by rw [upd_same, hw], ⟨putR_rel rx ok.rel, putR_key hk' ok.key, putR_nd ok.nd, ?_⟩, i1, ?_, i3.keeps (kp _)⟩)
        · have := putR_len (rows := rows) (k := kd) (a := a) (u := w) (x := x)
          rw [List.length_map] at hl
          omega
        · rw [i1]
          exact i2.keeps (kp _)
    · -- an int, a text
      have t : k.isTup = false := by simpa using t
      have kk : k.key = true := by
        cases ks with
        | nil => exact hk
        | cons e ks => exact (Bool.and_eq_true_iff.mp hk).1
      obtain ⟨a, rfl⟩ := atom_key kk t
      have fa := rk.keyFine
      obtain rfl := rk.keyV
      obtain ⟨kvs, ws, hp, rel, dd, e1, nd, vr⟩ : ∃ (kvs : List (Key × V)) (ws : List (Key × Value)), (p == sysModules) = false ∧ L2.KV kvs ws ∧ s.heap.DictOf (mixKind X.prog X.w) p ws ∧ ks = kvs.map (fun e => keyD e.1) ∧ KOk (kvs.map (·.1)) ∧ Reps T F I H vs (kvs.map (·.2)) := by
        rcases h with ⟨kvs, h1, rfl, nd, r⟩ | ⟨rows, h1, ok, rfl, kr, r⟩
        · obtain ⟨z, hp, ws, rel, dd⟩ := dk_of J.hok h1
          exact ⟨kvs, ws, hp, rel, dd, rfl, nd, r⟩
        · cases rows with
          | cons e rows =>
            have q : ((keyD a).key && (true == (keyD a).isTup)) = true := hk
            rw [t, show (true == false) = false from rfl, Bool.and_false] at q
            cases q
          | nil =>
            obtain ⟨q, _⟩ := (show ObjOk X.prog X.w H s.heap p (.ext (rawT T.w p [])) from J.hok p _ h1)
            obtain ⟨o, es, ep, g, x, d, e, hp⟩ := q
            refine ⟨[], [], hp, .nil, ⟨o, es, ep, g, x, d, ?_, ?_, List.nodup_nil⟩, rfl, KOk.nil, r⟩
            · intro e' m
              have : e' ∈ es.toList := by simpa using m
              rw [e] at this
              cases this
            · rw [e]
              exact .nil
      subst e1
      have hl' : kvs.length < sizeLine := by rw [List.length_map] at hl; exact hl
      have hz : ws.length ≤ sizeLine := by rw [← rel.length]; exact Nat.le_of_lt hl'
      obtain ⟨i1, i2, i3⟩ := put_kvs a rd nd.1 vr
      refine wpAny_dictSet_pairs (hsz := hz) (kV_is ry) dd fun h' dd' hs => ?_
      have he : ∃ q, h'.get? p = some q := let ⟨q, _, _, hq, _⟩ := dd'; ⟨q, hq⟩
      have hl2 : (L2.putK kvs a x).length ≤ sizeLine := by have := length_putK kvs a x; omega
      exact q _ (.dK (L2.putK kvs a x)) (d_write J mu hs he (dk_new hl2 hp (rel.put a rx) dd')) trivial (.inl ⟨_, upd_same, i1, ⟨i3, putK_fine nd.2 fa⟩, i2.keeps (kp _)⟩)
  · cases hc
end
def pdD (T : View) : PD := fun Da y z H Q => ∃ F I ks vs k d r, ¬ F Da ∧ DctAt T F I H Da ks vs ∧ putC k d ks vs = some r ∧ Rep T F I H k y ∧ Rep T F I H d z ∧ ∀ o', Moves o' → DctAt T F I (upd H Da o') Da r.1 r.2 → Q (upd H Da o')
theorem pd_ok {B : Bd} {X : Cx} {n : Nat} (S : Sx B X n) : PDok X (pdD B.T) := by
  rintro pins s σ H Da y z u r Q E J ry rz ⟨F, I, ks, vs, k, d, r', nf, h1, h2, h3, h4, q⟩
  exact d_set J S.K.symm S.w (by have := S.un; omega) nf h1 h2 h3 ry h4 rz fun s' o' J' m d' => ⟨_, J', q o' m d'⟩
theorem blk_sx {B : Bd} {X : Cx} {n : Nat} (S : Sx B X n) (s : Shared) (H : Hp) (scope : Scope) (ce : PySem.Env) (fp : List Addr) : Sx B.blk (X.blk s H scope ce fp) n :=
  ⟨S.K, S.w, S.nd, fun u s' ⟨_, _, _, _, _, _, _, _, _, _, _, _, _, _, _, _, w⟩ => w.elim, S.room, PassesOwn.never⟩
section
variable {B : Bd} {X : Cx} {n : Nat} {e a b c : Expr} {es : List Expr} {p p2 apos : Pos} {ca cb cc : CE} {oa ob oc : CO} {cs : CEs} {os : COs} {D : Ends} {σ σ' : L2.St} {H H' : Hp} {F F' : Addr → Prop} {I I' : List Addr} {L L' : List Cell} {env env' : Env} {cf : CF}
/-- the dict that a comprehension makes, so far -/
structure AccD (B : Bd) (F1 : Addr → Prop) (I1 : List Addr) (H1 : Hp) (Da : Addr) (F : Addr → Prop) (I : List Addr) (H : Hp) (L : List Cell) (r : List Wa.D × List Wa.D) : Prop where
  st : Step B.G.ro noEx F1 I1 H1 F I H
  wf : Wf B.T F I H L
  nf : ¬ F Da
  ni : Da ∉ I
  at_ : DctAt B.T F I H Da r.1 r.2
theorem AccD.go {F1 : Addr → Prop} {I1 : List Addr} {H1 : Hp} {Da : Addr} {r : List Wa.D × List Wa.D} (a : AccD B F1 I1 H1 Da F I H L r) (st : Step B.G.ro noEx F I H F' I' H') (w : Wf B.T F' I' H' L') : AccD B F1 I1 H1 Da F' I' H' L' r := by
  have o : Own F I (fun _ => True) Da := ⟨a.nf, a.ni, trivial⟩
  obtain ⟨u, hu, mu⟩ := a.at_.some
  obtain ⟨o', h'⟩ := o.step hu st
  exact ⟨a.st.trans st, w, o'.nf, o'.ni, a.at_.keeps (st.keeps0 a.wf) fun v e => by rw [hu] at e; cases e; exact h'⟩
theorem AccD.put {F1 : Addr → Prop} {I1 : List Addr} {H1 : Hp} {Da : Addr} {r r' : List Wa.D × List Wa.D} {o' : HO} (hD : H1 Da = none) (a : AccD B F1 I1 H1 Da F I H L r) (d : DctAt B.T F I (_root_.L2.upd H Da o') Da r'.1 r'.2) : AccD B F1 I1 H1 Da F I (_root_.L2.upd H Da o') L r' := by
  obtain ⟨u, hu, mu⟩ := a.at_.some
  exact ⟨step_newobj a.st hD, a.wf.own_upd a.nf a.ni hu mu, a.nf, a.ni, d⟩
abbrev fin (r : List Wa.D × List Wa.D) (kvs : List (Wa.D × Wa.D)) (L : List Cell) : R Wa.S := (opt (putAll (kvs.map (·.1)) (kvs.map (·.2)) r.1 r.2) L).bind fun r L => .ok (.odct r.1 r.2) L
theorem dc_read (S : Sx B X n) {ci : CI} {t : CT} {tst : CEo} {own : List Nat} (hn : ∀ i ∈ t.names, i ∈ own) {σ : L2.St} {H : Hp} {Q : VK} (h : tNew B (.dcomp own ca cb t ci tst) σ H Q) :
    tDcS (pdD B.T) (tI B false ci) (tPat B.blk t) (tTst B.blk tst) (tEv B.blk ca) (tEv B.blk cb) own σ H Q := by
  obtain ⟨F, I, L, env, fr, q⟩ := h
  let el : Env → List Cell → R (Wa.D × Wa.D) := fun env L => (ev B.G ca env L).bind fun x L => (ev B.G cb env L).bind fun y L => .ok (x, y) L
  have q' : B.post σ F I H (rNew B H) ((evI B.G ci env L).bind fun xs L => (nox (compL t (evB B.G tst) el (Wa.wipe env own) xs L)).bind fun kvs L => fin ([], []) kvs L) Q := q
  refine ⟨F, I, L, env, fr, q'.seq fun xs L1 F1 I1 H1 J st1 w1 it q1 Da hD => ?_⟩
  have hD0 : H Da = none := none_back st1.there hD
  let W : Nat → Nat → Hp → Prop := fun i m H' => ∃ F' I' L' r, AccD B F1 I1 H1 Da F' I' H' L' r ∧ m = xs.length - i ∧ B.post σ F1 I1 H1 (rNew B H) ((nox (compL t (evB B.G tst) el (Wa.wipe env own) (xs.drop i) L')).bind (fin r)) Q
  have o1 := own_new (B := B) (H0 := H) st1.there w1 hD
  refine ⟨W, ⟨_, F1, I1, L1, ([], []), ⟨Step.laid hD, w1.laid hD, o1.nf, o1.ni, .inl ⟨[], upd_same, rfl, KOk.nil, .nil⟩⟩, rfl, q1⟩, ?_⟩
  rintro i m H2 ⟨F2, I2, L2, r0, A2, rfl, q2⟩
  obtain ⟨hstop, hgo⟩ := it i F2 I2 H2 L2 A2.st A2.wf
  by_cases hl : xs.length ≤ i
  · left
    rw [List.drop_eq_nil_of_le hl] at q2
    have q3 : B.post σ F1 I1 H1 (rNew B H) (.ok (.odct r0.1 r0.2) L2) Q := q2
    exact ⟨hstop hl, q3 F2 I2 H2 _ A2.st A2.wf ⟨rfl, Da, rfl, ⟨A2.nf, A2.ni, hD0⟩, A2.at_⟩⟩
  · right
    have hl : i < xs.length := by omega
    obtain ⟨d, hd⟩ : ∃ d, xs[i]? = some d := ⟨xs[i], List.getElem?_eq_getElem hl⟩
    obtain ⟨go, yl⟩ := hgo d hd
    have ed : xs.drop i = d :: xs.drop (i + 1) := by
      rw [List.drop_eq_getElem_cons hl]
      rw [List.getElem?_eq_getElem hl] at hd
      cases hd
      rfl
    refine ⟨go, fun H' => ∃ F' I' L' r, AccD B F1 I1 H1 Da F' I' H' L' r ∧ B.post σ F1 I1 H1 (rNew B H) ((nox (compL t (evB B.G tst) el (Wa.wipe env own) (xs.drop (i + 1)) L')).bind (fin r)) Q, fun H' ⟨F', I', L', r, h1, h2⟩ => ⟨xs.length - (i + 1), by omega, F', I', L', r, h1, rfl, h2⟩, fun x H3 hy => ?_⟩
    obtain ⟨F3, st3, w3, r3⟩ := yl x H3 hy
    have A3 := A2.go st3 w3
    have fr3 : B.fr F3 I2 H3 L2 (_root_.L2.wipe σ own) (Wa.wipe env own) := fr_wipe (fr.step (st1.trans A3.st) w3) own
    rw [ed] at q2
    unfold compL at q2
    cases ep : t.put d (Wa.wipe env own) with
    | none => rw [ep] at q2; exact q2.elim
    | some env' =>
      rw [ep] at q2
      refine ⟨F3, I2, L2, _, d, env', fr3, r3, ep, fun σ4 fr4 same => ⟨wipe_same same hn, F3, I2, L2, env', fr4, ?_⟩⟩
      have q3 : B.post σ F1 I1 H1 (rNew B H) ((nox ((evB B.G tst env' L2).bind fun b L => if b then (el env' L).bind fun d L => (compL t (evB B.G tst) el (Wa.wipe env own) (xs.drop (i + 1)) L).bind fun ds L => .ok (d :: ds) L else compL t (evB B.G tst) el (Wa.wipe env own) (xs.drop (i + 1)) L)).bind (fin r0)) Q := q2
      show B.blk.post σ4 F3 I2 H3 rB (evB B.G tst env' L2) _
      cases r : evB B.G tst env' L2 with
      | exc c vs L'' => rw [r] at q3; exact q3.elim
      | bad => rw [r] at q3; exact q3.elim
      | ok k L4 =>
        rw [r] at q3
        intro F4 I4 H4 k' st4 w4 ek
        obtain rfl : k' = k := ek
        have A4 := A3.go st4 w4
        cases k' with
        | false =>
          rw [if_neg (by decide)]
          exact ⟨F4, I4, L4, r0, A4, q3⟩
        | true =>
          rw [if_pos rfl]
          refine ⟨F4, I4, L4, env', fr4.step st4 w4, ?_⟩
          have q4 : B.post σ F1 I1 H1 (rNew B H) ((nox (((ev B.G ca env' L4).bind fun x L => (ev B.G cb env' L).bind fun y L => .ok (x, y) L).bind fun d L => (compL t (evB B.G tst) el (Wa.wipe env own) (xs.drop (i + 1)) L).bind fun ds L => .ok (d :: ds) L)).bind (fin r0)) Q := q3
          show B.blk.post σ4 F4 I4 H4 (rE B) (ev B.G ca env' L4) _
          cases r2 : ev B.G ca env' L4 with
          | exc c vs L'' => rw [r2] at q4; exact q4.elim
          | bad => rw [r2] at q4; exact q4.elim
          | ok zk L5 =>
            rw [r2] at q4
            intro F5 I5 H5 y st5 w5 ry
            have A5 := A4.go st5 w5
            refine ⟨F5, I5, L5, env', (fr4.step st4 w4).step st5 w5, ?_⟩
            have q5 : B.post σ F1 I1 H1 (rNew B H) ((nox (((ev B.G cb env' L5).bind fun y L => .ok (zk, y) L).bind fun d L => (compL t (evB B.G tst) el (Wa.wipe env own) (xs.drop (i + 1)) L).bind fun ds L => .ok (d :: ds) L)).bind (fin r0)) Q := q4
            show B.blk.post σ4 F5 I5 H5 (rE B) (ev B.G cb env' L5) _
            cases r3 : ev B.G cb env' L5 with
            | exc c vs L'' => rw [r3] at q5; exact q5.elim
            | bad => rw [r3] at q5; exact q5.elim
            | ok zv L6 =>
              rw [r3] at q5
              intro F6 I6 H6 z st6 w6 rz
              have A6 := A5.go st6 w6
              have q6 : B.post σ F1 I1 H1 (rNew B H) ((nox ((compL t (evB B.G tst) el (Wa.wipe env own) (xs.drop (i + 1)) L6).bind fun ds L => .ok ((zk, zv) :: ds) L)).bind (fin r0)) Q := q5
              obtain ⟨r1, er1, q7⟩ : ∃ r1, putC zk zv r0.1 r0.2 = some r1 ∧ B.post σ F1 I1 H1 (rNew B H) ((nox (compL t (evB B.G tst) el (Wa.wipe env own) (xs.drop (i + 1)) L6)).bind (fin r1)) Q := by
                cases r4 : compL t (evB B.G tst) el (Wa.wipe env own) (xs.drop (i + 1)) L6 with
                | ok ds L7 =>
                  rw [r4] at q6
                  have q8 : B.post σ F1 I1 H1 (rNew B H) ((opt (match putC zk zv r0.1 r0.2 with | some r => putAll (ds.map (·.1)) (ds.map (·.2)) r.1 r.2 | none => none) L7).bind fun r L => .ok (.odct r.1 r.2) L) Q := q6
                  cases r5 : putC zk zv r0.1 r0.2 with
                  | none => rw [r5] at q8; exact q8.elim
                  | some r1 => rw [r5] at q8; exact ⟨r1, rfl, q8⟩
                | exc c vs L'' => rw [r4] at q6; exact q6.elim
                | bad => rw [r4] at q6; exact q6.elim
              exact ⟨F6, I6, r0.1, r0.2, zk, zv, r1, A6.nf, A6.at_, er1, ry.keeps (st6.keeps0 A5.wf), rz, fun o' m d' => ⟨F6, I6, L6, r1, A6.put hD d', q7⟩⟩
end
end Wa

set_option Elab.async false
set_option linter.all false
set_option maxRecDepth 100000
set_option maxHeartbeats 4000000
/-! WaComp2: comprehensions of two clauses; the rules for comprehensions. -/
namespace Wa
open PySem PySem.Spec PyProof.Rows L2

section
variable {B : Bd} {X : Cx} {n : Nat} {e a b c : Expr} {es : List Expr} {p p2 apos : Pos} {ca cb cc : CE} {oa ob oc : CO} {cs : CEs} {os : COs} {D : Ends} {σ σ' : L2.St} {H H' : Hp} {F F' : Addr → Prop} {I I' : List Addr} {L L' : List Cell} {env env' : Env} {cf : CF}
theorem Acc.puts {F1 : Addr → Prop} {I1 : List Addr} {H1 : Hp} {Da : Addr} {acc : List V} {done : List Wa.D} {y : V} (a : Acc B F1 I1 H1 Da F I H L acc done) : Keeps F I H F I (_root_.L2.upd H Da (.lst (acc ++ [y]))) := keeps_upd a.nf a.at_ trivial
mutual
theorem CT.put_own : ∀ {t : CT} {d : Wa.D} {env env' : Env} {j : Nat} {s : Wa.S}, t.put d env = some env' → slot env' j = some s → isOwn s = true → slot env j = some s ∧ j ∉ t.names
  | .v i, d, env, env', j, s, h, e, o => by
    cases h
    rcases slot_set e with ⟨_, e, _⟩ | ⟨ne, e⟩
    · cases e; cases o
    · exact ⟨e, fun z => ne (by simpa [CT.names] using z)⟩
  | .tup ts, .tup ds, env, env', j, s, h, e, o => CTs.put_own (ts := ts) h e o
  | .tup _, .non, _, _, _, _, h, _, _ => by cases h
  | .tup _, .bl _, _, _, _, _, h, _, _ => by cases h
  | .tup _, .int _, _, _, _, _, h, _, _ => by cases h
  | .tup _, .str _, _, _, _, _, h, _, _ => by cases h
  | .tup _, .lst _, _, _, _, _, h, _, _ => by cases h
  | .tup _, .dct _ _, _, _, _, _, h, _, _ => by cases h
  | .tup _, .ins _ _, _, _, _, _, h, _, _ => by cases h
  | .tup _, .ref _, _, _, _, _, h, _, _ => by cases h
theorem CTs.put_own : ∀ {ts : CTs} {ds : List Wa.D} {env env' : Env} {j : Nat} {s : Wa.S}, ts.put ds env = some env' → slot env' j = some s → isOwn s = true → slot env j = some s ∧ j ∉ ts.names
  | .nil, [], _, _, _, _, h, e, _ => by cases h; exact ⟨e, fun z => by cases z⟩
  | .nil, _ :: _, _, _, _, _, h, _, _ => by cases h
  | .cons _ _, [], _, _, _, _, h, _, _ => by cases h
  | .cons t ts, d :: ds, env, env', j, s, h, e, o => by
    unfold CTs.put at h
    cases h1 : t.put d env with
    | none => rw [h1] at h; cases h
    | some env1 =>
      rw [h1] at h
      obtain ⟨e1, n1⟩ := CTs.put_own (ts := ts) h e o
      obtain ⟨e2, n2⟩ := CT.put_own (t := t) h1 e1 o
      exact ⟨e2, fun z => (List.mem_append.mp z).elim n2 n1⟩
end
theorem slot_wipe {env : Env} {own : List Nat} {j : Nat} {s : Wa.S} (h : slot (Wa.wipe env own) j = some s) : slot env j = some s := by
  induction own with
  | nil => exact h
  | cons i is ih =>
    rcases slot_set (show slot ((Wa.wipe env is).set i none) j = some s from h) with ⟨_, e, _⟩ | ⟨_, e⟩
    · cases e
    · exact ih e
/-- none of the body's own is at a place that was free -/
theorem own_ne {own : List Nat} {t : CT} {d : Wa.D} {Da : Addr} {σ4 : L2.St} (fr : B.fr F I H L σ env) (hD : H Da = none) (ep : t.put d (Wa.wipe env own) = some env') (same : SameBut t.names (L2.wipe σ own) σ4) :
    ∀ j s, slot env' j = some s → isOwn s = true → σ4[j]? ≠ some (some (.ref Da)) := fun j s e o h => by
  obtain ⟨e1, n1⟩ := CT.put_own ep e o
  obtain ⟨v, e2, r⟩ := fr.sl j s (slot_wipe e1)
  rw [same.2 j n1] at h
  have := (wipe_some h).1
  rw [e2] at this
  cases this
  cases s with
  | val d => cases o
  | olst ds => obtain ⟨q, xs, ev, o, h1, _⟩ := r; cases ev; rw [hD] at h1; cases h1
  | odct ks vs => obtain ⟨q, ev, o, h1⟩ := r; cases ev; obtain ⟨u, hu, _⟩ := h1.some; rw [hD] at hu; cases hu
  | oins k vs => obtain ⟨q, dx, fs, ev, o, h1, _⟩ := r; cases ev; rw [hD] at h1; cases h1
theorem fr_other {pa : Addr} {u o' : HO} (fr : B.fr F I H L σ env) (nf : ¬ F pa) (ni : pa ∉ I) (hE : B.E.H pa = none) (hp : H pa = some u) (mu : Moves u) (ne : ∀ j s, slot env j = some s → isOwn s = true → σ[j]? ≠ some (some (.ref pa))) : B.fr F I (L2.upd H pa o') L σ env :=
  ⟨fr.wf.own_upd nf ni hp mu, fr.len, fun j t ht => by
    obtain ⟨v, e, r⟩ := fr.sl j t ht
    exact ⟨v, e, r.upd (keeps_upd nf hp mu) fun ot ev => ne j t ht ot (by rw [e, ev])⟩, fr.ap, step_upd fr.st fr.exo hp mu (.inl (.inl hE)), fr.exo⟩
theorem lc2_read (S : Sx B X n) {ci ci2 : CI} {t t2 : CT} {tst tst2 : CEo} {own own2 : List Nat} (hn : ∀ i ∈ t.names, i ∈ own) (hn2 : ∀ i ∈ t2.names, i ∈ own2) {σ : L2.St} {H : Hp} {Q : VK} (h : tNew B (.comp2 own own2 ca t ci tst t2 ci2 tst2) σ H Q) :
    tLc2 (tI B false ci) (tPat B.blk t) (tTst B.blk tst) (tI B.blk true ci2) (tPat B.blk t2) (tTst B.blk tst2) (tEv B.blk ca) own own2 σ H Q := by
  obtain ⟨F, I, L, env, fr, q⟩ := h
  let el : Env → List Cell → R (List Wa.D) := fun env L => (evI B.G ci2 env L).bind fun ys L => compL t2 (evB B.G tst2) (ev B.G ca) (Wa.wipe env own2) ys L
  let cl : List Wa.D → List Cell → R (List (List Wa.D)) := compL t (evB B.G tst) el (Wa.wipe env own)
  let fin : List Wa.D → List (List Wa.D) → List Cell → R Wa.S := fun done dss L => sized (done ++ joinL dss).length (.olst (done ++ joinL dss)) L
  have q' : B.post σ F I H (rNew B H) ((evI B.G ci env L).bind fun xs L => (nox (cl xs L)).bind (fin [])) Q := q
  refine ⟨F, I, L, env, fr, q'.seq fun xs L1 F1 I1 H1 J st1 w1 it q1 Da hD => ?_⟩
  have hD0 : H Da = none := none_back st1.there hD
  let PF : R (List (List Wa.D)) → List Wa.D → Prop := fun r done => B.post σ F1 I1 H1 (rNew B H) ((nox r).bind (fin done)) Q
  have tl : ∀ {r : R (List (List Wa.D))} (done : List Wa.D), PF r done → ∃ ds L'', r = .ok ds L'' ∧ (done ++ joinL ds).length ≤ line := fun {r} done h => by
    cases r with
    | ok ds L'' =>
      have h' : B.post σ F1 I1 H1 (rNew B H) (sized (done ++ joinL ds).length (.olst (done ++ joinL ds)) L'') Q := h
      unfold sized at h'
      split at h'
      · rename_i hl; exact ⟨ds, L'', rfl, hl⟩
      · exact h'.elim
    | exc c vs L'' => exact h.elim
    | bad => exact h.elim
  let W : Nat → Nat → Hp → Prop := fun i m H' => ∃ F' I' L' acc done, Acc B F1 I1 H1 Da F' I' H' L' acc done ∧ m = xs.length - i ∧ PF (cl (xs.drop i) L') done
  have o1 := own_new (B := B) (H0 := H) st1.there w1 hD
  refine ⟨W, ⟨_, F1, I1, L1, [], [], ⟨Step.laid hD, w1.laid hD, o1.nf, o1.ni, upd_same, .nil⟩, rfl, q1⟩, ?_⟩
  rintro i m H2 ⟨F2, I2, L2, acc, done, A2, rfl, q2⟩
  obtain ⟨hstop, hgo⟩ := it i F2 I2 H2 L2 A2.st A2.wf
  by_cases hl : xs.length ≤ i
  · left
    rw [List.drop_eq_nil_of_le hl] at q2
    obtain ⟨ds, L'', e1, hz⟩ := tl done q2
    have q3 : B.post σ F1 I1 H1 (rNew B H) (sized (done ++ []).length (.olst (done ++ [])) L2) Q := q2
    rw [List.append_nil] at q3
    unfold sized at q3
    rw [if_pos (by rw [List.length_append] at hz; omega)] at q3
    exact ⟨hstop hl, q3 F2 I2 H2 _ A2.st A2.wf ⟨rfl, Da, acc, rfl, ⟨A2.nf, A2.ni, hD0⟩, A2.at_, A2.rs⟩⟩
  · right
    have hl : i < xs.length := by omega
    obtain ⟨d, hd⟩ : ∃ d, xs[i]? = some d := ⟨xs[i], List.getElem?_eq_getElem hl⟩
    obtain ⟨go, yl⟩ := hgo d hd
    have ed : xs.drop i = d :: xs.drop (i + 1) := by
      rw [List.drop_eq_getElem_cons hl]
      rw [List.getElem?_eq_getElem hl] at hd
      cases hd
      rfl
    refine ⟨go, fun H' => ∃ F' I' L' acc done, Acc B F1 I1 H1 Da F' I' H' L' acc done ∧ PF (cl (xs.drop (i + 1)) L') done, fun H' ⟨F', I', L', acc, done, h1, h2⟩ => ⟨xs.length - (i + 1), by omega, F', I', L', acc, done, h1, rfl, h2⟩, fun x H3 hy => ?_⟩
    obtain ⟨F3, st3, w3, r3⟩ := yl x H3 hy
    have A3 := A2.go st3 w3
    have fr3 : B.fr F3 I2 H3 L2 (_root_.L2.wipe σ own) (Wa.wipe env own) := fr_wipe (fr.step (st1.trans A3.st) w3) own
    rw [ed] at q2
    have q2 : PF (match t.put d (Wa.wipe env own) with
      | none => .bad
      | some env' => (evB B.G tst env' L2).bind fun b L => if b then (el env' L).bind fun d L => (cl (xs.drop (i + 1)) L).bind fun ds L => .ok (d :: ds) L else cl (xs.drop (i + 1)) L) done := q2
    cases ep : t.put d (Wa.wipe env own) with
    | none => rw [ep] at q2; exact q2.elim
    | some env' =>
      rw [ep] at q2
      refine ⟨F3, I2, L2, _, d, env', fr3, r3, ep, fun σ4 fr4 same => ⟨wipe_same same hn, F3, I2, L2, env', fr4, ?_⟩⟩
      have q3 : PF ((evB B.G tst env' L2).bind fun b L => if b then (el env' L).bind fun d L => (cl (xs.drop (i + 1)) L).bind fun ds L => .ok (d :: ds) L else cl (xs.drop (i + 1)) L) done := q2
      show B.blk.post σ4 F3 I2 H3 rB (evB B.G tst env' L2) _
      cases r : evB B.G tst env' L2 with
      | exc c vs L'' => rw [r] at q3; exact q3.elim
      | bad => rw [r] at q3; exact q3.elim
      | ok k L4 =>
        rw [r] at q3
        intro F4 I4 H4 k' st4 w4 ek
        obtain rfl : k' = k := ek
        have A4 := A3.go st4 w4
        cases k' with
        | false =>
          rw [if_neg (by decide)]
          exact ⟨F4, I4, L4, acc, done, A4, q3⟩
        | true =>
          rw [if_pos rfl]
          have fr4' := fr4.step st4 w4
          refine ⟨F4, I4, L4, env', fr4', ?_⟩
          have q4 : PF (((evI B.G ci2 env' L4).bind fun ys L => compL t2 (evB B.G tst2) (ev B.G ca) (Wa.wipe env' own2) ys L).bind fun d L => (cl (xs.drop (i + 1)) L).bind fun ds L => .ok (d :: ds) L) done := q3
          show B.blk.post σ4 F4 I4 H4 (ItRep true B.G.ro B.T) (evI B.G ci2 env' L4) _
          cases r2 : evI B.G ci2 env' L4 with
          | exc c vs L'' => rw [r2] at q4; exact q4.elim
          | bad => rw [r2] at q4; exact q4.elim
          | ok ys L5 =>
            rw [r2] at q4
            intro F5 I5 H5 J1 st5 w5 it2
            have A5 := A4.go st5 w5
            have fr5 := fr4'.step st5 w5
            let ci' : List Wa.D → List Cell → R (List Wa.D) := compL t2 (evB B.G tst2) (ev B.G ca) (Wa.wipe env' own2)
            let nx' : R (List Wa.D) → R (List (List Wa.D)) := fun r => r.bind fun d L => (cl (xs.drop (i + 1)) L).bind fun ds L => .ok (d :: ds) L
            have q5 : PF (nx' (ci' ys L5)) done := q4
            let W1 : Nat → Nat → Hp → Prop := fun j m H' => ∃ F' I' L' acc done, Acc B F1 I1 H1 Da F' I' H' L' acc done ∧ Keeps F5 I5 H5 F' I' H' ∧ B.fr F' I' H' L' σ4 env' ∧ m = ys.length - j ∧ PF (nx' (ci' (ys.drop j) L')) done
            refine ⟨W1, ⟨_, F5, I5, L5, acc, done, A5, Keeps.refl, fr5, rfl, q5⟩, ?_⟩
            rintro j m H6 ⟨F6, I6, L6, acc6, done6, A6, k6, fr6, rfl, q6⟩
            obtain ⟨hstop2, hgo2⟩ := it2 j F6 I6 H6 L6 k6 A6.wf
            by_cases hl2 : ys.length ≤ j
            · left
              rw [List.drop_eq_nil_of_le hl2] at q6
              have q7 : PF ((cl (xs.drop (i + 1)) L6).bind fun ds L => .ok ([] :: ds) L) done6 := q6
              refine ⟨hstop2 hl2, F6, I6, L6, acc6, done6, A6, ?_⟩
              cases r3 : cl (xs.drop (i + 1)) L6 with
              | ok ds L7 => rw [r3] at q7; exact q7
              | exc c vs L'' => rw [r3] at q7; exact q7.elim
              | bad => rw [r3] at q7; exact q7.elim
            · right
              have hl2 : j < ys.length := by omega
              obtain ⟨d2, hd2⟩ : ∃ d, ys[j]? = some d := ⟨ys[j], List.getElem?_eq_getElem hl2⟩
              obtain ⟨go2, yl2⟩ := hgo2 d2 hd2
              have ed2 : ys.drop j = d2 :: ys.drop (j + 1) := by
                rw [List.drop_eq_getElem_cons hl2]
                rw [List.getElem?_eq_getElem hl2] at hd2
                cases hd2
                rfl
              refine ⟨go2, fun H' => ∃ F' I' L' acc done, Acc B F1 I1 H1 Da F' I' H' L' acc done ∧ Keeps F5 I5 H5 F' I' H' ∧ B.fr F' I' H' L' σ4 env' ∧ PF (nx' (ci' (ys.drop (j + 1)) L')) done, fun H' ⟨F', I', L', acc, done, h1, h2, h3, h4⟩ => ⟨ys.length - (j + 1), by omega, F', I', L', acc, done, h1, h2, h3, rfl, h4⟩, fun x2 H7 hy2 => ?_⟩
              obtain ⟨F7, st7, w7, r7⟩ := yl2 x2 H7 hy2
              have A7 := A6.go st7 w7
              have k7 := k6.trans (st7.keeps0 A6.wf)
              have fr7' := fr6.step st7 w7
              have fr7 : B.fr F7 I6 H7 L6 (_root_.L2.wipe σ4 own2) (Wa.wipe env' own2) := fr_wipe fr7' own2
              rw [ed2] at q6
              have q6 : PF (nx' (match t2.put d2 (Wa.wipe env' own2) with
                | none => .bad
                | some env2 => (evB B.G tst2 env2 L6).bind fun b L => if b then (ev B.G ca env2 L).bind fun d L => (ci' (ys.drop (j + 1)) L).bind fun ds L => .ok (d :: ds) L else ci' (ys.drop (j + 1)) L)) done6 := q6
              cases ep2 : t2.put d2 (Wa.wipe env' own2) with
              | none => rw [ep2] at q6; exact q6.elim
              | some env2 =>
                rw [ep2] at q6
                refine ⟨F7, I6, L6, _, d2, env2, fr7, r7, ep2, fun σ8 fr8 same2 => ⟨wipe_same same2 hn2, F7, I6, L6, env2, fr8, ?_⟩⟩
                have q7 : PF (nx' ((evB B.G tst2 env2 L6).bind fun b L => if b then (ev B.G ca env2 L).bind fun d L => (ci' (ys.drop (j + 1)) L).bind fun ds L => .ok (d :: ds) L else ci' (ys.drop (j + 1)) L)) done6 := q6
                show B.blk.post σ8 F7 I6 H7 rB (evB B.G tst2 env2 L6) _
                cases r4 : evB B.G tst2 env2 L6 with
                | exc c vs L'' => rw [r4] at q7; exact q7.elim
                | bad => rw [r4] at q7; exact q7.elim
                | ok k2 L8 =>
                  rw [r4] at q7
                  intro F8 I8 H8 k2' st8 w8 ek2
                  obtain rfl : k2' = k2 := ek2
                  have A8 := A7.go st8 w8
                  have k8 := k7.trans (st8.keeps0 A7.wf)
                  have fr8' := fr7'.step st8 w8
                  cases k2' with
                  | false =>
                    rw [if_neg (by decide)]
                    exact ⟨F8, I8, L8, acc6, done6, A8, k8, fr8', q7⟩
                  | true =>
                    rw [if_pos rfl]
                    refine ⟨F8, I8, L8, env2, fr8.step st8 w8, ?_⟩
                    have q8 : PF (nx' ((ev B.G ca env2 L8).bind fun d L => (ci' (ys.drop (j + 1)) L).bind fun ds L => .ok (d :: ds) L)) done6 := q7
                    show B.blk.post σ8 F8 I8 H8 (rE B) (ev B.G ca env2 L8) _
                    cases r5 : ev B.G ca env2 L8 with
                    | exc c vs L'' => rw [r5] at q8; exact q8.elim
                    | bad => rw [r5] at q8; exact q8.elim
                    | ok z L9 =>
                      rw [r5] at q8
                      intro F9 I9 H9 y st9 w9 ry
                      have A9 := A8.go st9 w9
                      have k9 := k8.trans (st9.keeps0 A8.wf)
                      have fr9 := fr8'.step st9 w9
                      have q9 : PF (nx' ((ci' (ys.drop (j + 1)) L9).bind fun ds L => .ok (z :: ds) L)) done6 := q8
                      have q10 : PF (nx' (ci' (ys.drop (j + 1)) L9)) (done6 ++ [z]) := by
                        cases r6 : ci' (ys.drop (j + 1)) L9 with
                        | exc c vs L'' => rw [r6] at q9; exact q9.elim
                        | bad => rw [r6] at q9; exact q9.elim
                        | ok ds L10 =>
                          rw [r6] at q9
                          have q11 : PF ((cl (xs.drop (i + 1)) L10).bind fun dss L => .ok ((z :: ds) :: dss) L) done6 := q9
                          show PF ((cl (xs.drop (i + 1)) L10).bind fun dss L => .ok (ds :: dss) L) (done6 ++ [z])
                          cases r7 : cl (xs.drop (i + 1)) L10 with
                          | exc c vs L'' => rw [r7] at q11; exact q11.elim
                          | bad => rw [r7] at q11; exact q11.elim
                          | ok dss L11 =>
                            rw [r7] at q11
                            have q12 : B.post σ F1 I1 H1 (rNew B H) (sized (done6 ++ z :: (ds ++ joinL dss)).length (.olst (done6 ++ z :: (ds ++ joinL dss))) L11) Q := q11
                            show B.post σ F1 I1 H1 (rNew B H) (sized ((done6 ++ [z]) ++ (ds ++ joinL dss)).length (.olst ((done6 ++ [z]) ++ (ds ++ joinL dss))) L11) Q
                            rw [List.append_assoc]
                            exact q12
                      obtain ⟨ds, L'', _, hz⟩ := tl (done6 ++ [z]) q10
                      have A10 := A9.put hD ry
                      have stp : B.fr F9 I9 (_root_.L2.upd H9 Da (.lst (acc6 ++ [y]))) L9 σ4 env' := by
                        exact fr_other fr9 A9.nf A9.ni (none_back fr.st.there hD0) A9.at_ trivial (own_ne fr hD0 ep same)
                      refine ⟨acc6, A9.at_, ?_, F9, I9, L9, acc6 ++ [y], done6 ++ [z], A10, k9.trans A9.puts, stp, q10⟩
                      rw [← A9.rs.length]
                      rw [List.length_append, List.length_append] at hz
                      have : ([z] : List Wa.D).length = 1 := rfl
                      have : line = sizeLine := rfl
                      omega
/-! ### the rules -/
section
variable {elt elt2 tg iter tg2 iter2 : Expr} {ifs ifs2 : List Expr} {scope : Scope} {own : List (Str × Nat)} {own2 : List Nat} {t t2 : CT} {ci ci2 : CI} {tst tst2 : CEo}
/-- a judgement in all blocks of this scope -/
abbrev InBlk (X : Cx) (scope : Scope) (P : Cx → Prop) : Prop := ∀ (s : Shared) (H : Hp) (C : Addr) (cl : List (Str × Addr)) (fp : List Addr), P (X.blk s H scope (compEnvC scope cl C X.env) fp)
theorem s_comp (S : Sx B X n) (hc : X.calm = true) (ok : BlkOk X.N X.env.scope scope own) (hi : PI X tg iter (tI B false ci)) (hg : InBlk X scope fun Y => PG Y tg (tPat B.blk t)) (ht : InBlk X scope fun Y => PTs Y ifs (tTst B.blk tst)) (he : InBlk X scope fun Y => PE Y elt (tEv B.blk ca))
    (hn : ∀ i ∈ t.names, i ∈ own.map (·.2)) (hf : ∀ x, foldedSetIterable iter X.env x = pure x) : PE X (.ListComp elt [⟨tg, iter, ifs, 0⟩] scope p) (tNew B (.comp (own.map (·.2)) ca t ci tst)) :=
  PEimp (pe_lc hc S.nd hi ok hg ht he hf) fun σ H Q q => lc_read S hn q
theorem s_setC (S : Sx B X n) (hc : X.calm = true) {i : Nat} {y : Str} {py : Pos} (hy : X.N[i]? = some y) (hyl : X.env.scope.names.lookup y = some .local) (hsw : swapsWith (.ListComp elt [⟨tg, iter, ifs, 0⟩] scope p2) (some (.Name y py)) p.line X.env = pure true)
    (ok : BlkOk X.N X.env.scope scope own) (hi : PI X tg iter (tI B false ci)) (hg : InBlk X scope fun Y => PG Y tg (tPat B.blk t)) (ht : InBlk X scope fun Y => PTs Y ifs (tTst B.blk tst)) (he : InBlk X scope fun Y => PE Y elt (tEv B.blk ca))
    (hn : ∀ i ∈ t.names, i ∈ own.map (·.2)) (hf : ∀ x, foldedSetIterable iter X.env x = pure x) : PS X (.Assign [.Name y py] (.ListComp elt [⟨tg, iter, ifs, 0⟩] scope p2) p) (tEx B (.setF i (.comp (own.map (·.2)) ca t ci tst))) :=
  PSimp (ps_setLc hc S.nd hy hyl hsw hi ok hg ht he hf) fun D σ H ⟨F, I, L, env, fr, q⟩ => by
    refine lc_read S hn ⟨F, I, L, env, fr, ?_⟩
    have q' : PostS B D (within env (evF B.G _ env L) fun s L => .ok .next (env.set i (some s)) L) := q
    exact withinS fr q' fun s L1 F1 I1 H1 v st fr1 rn h1 => h1 _ _ _ _ (fr_new fr fr1 rn)
theorem s_comp2 (S : Sx B X n) (hc : X.calm = true) (ok : BlkOk X.N X.env.scope scope own) (hv : ∀ i ∈ own2, i ∈ own.map (·.2)) (hi : PI X tg iter (tI B false ci)) (hg : InBlk X scope fun Y => PG Y tg (tPat B.blk t)) (ht : InBlk X scope fun Y => PTs Y ifs (tTst B.blk tst))
    (hi2 : InBlk X scope fun Y => PI Y tg2 iter2 (tI B.blk true ci2)) (hg2 : InBlk X scope fun Y => PG Y tg2 (tPat B.blk t2)) (ht2 : InBlk X scope fun Y => PTs Y ifs2 (tTst B.blk tst2)) (he : InBlk X scope fun Y => PE Y elt (tEv B.blk ca))
    (hn : ∀ i ∈ t.names, i ∈ own.map (·.2)) (hn2 : ∀ i ∈ t2.names, i ∈ own2) (hf : ∀ x, foldedSetIterable iter X.env x = pure x) (hf2 : ∀ env x, foldedSetIterable iter2 env x = pure x) :
    PE X (.ListComp elt [⟨tg, iter, ifs, 0⟩, ⟨tg2, iter2, ifs2, 0⟩] scope p) (tNew B (.comp2 (own.map (·.2)) own2 ca t ci tst t2 ci2 tst2)) :=
  PEimp (pe_lc2 hc S.nd hi ok hv hg ht hi2 hg2 ht2 he hf hf2) fun σ H Q q => lc2_read S hn hn2 q
theorem s_setC2 (S : Sx B X n) (hc : X.calm = true) {i : Nat} {y : Str} {py : Pos} (hy : X.N[i]? = some y) (hyl : X.env.scope.names.lookup y = some .local) (hsw : swapsWith (.ListComp elt [⟨tg, iter, ifs, 0⟩, ⟨tg2, iter2, ifs2, 0⟩] scope p2) (some (.Name y py)) p.line X.env = pure true)
    (ok : BlkOk X.N X.env.scope scope own) (hv : ∀ i ∈ own2, i ∈ own.map (·.2)) (hi : PI X tg iter (tI B false ci)) (hg : InBlk X scope fun Y => PG Y tg (tPat B.blk t)) (ht : InBlk X scope fun Y => PTs Y ifs (tTst B.blk tst))
    (hi2 : InBlk X scope fun Y => PI Y tg2 iter2 (tI B.blk true ci2)) (hg2 : InBlk X scope fun Y => PG Y tg2 (tPat B.blk t2)) (ht2 : InBlk X scope fun Y => PTs Y ifs2 (tTst B.blk tst2)) (he : InBlk X scope fun Y => PE Y elt (tEv B.blk ca))
    (hn : ∀ i ∈ t.names, i ∈ own.map (·.2)) (hn2 : ∀ i ∈ t2.names, i ∈ own2) (hf : ∀ x, foldedSetIterable iter X.env x = pure x) (hf2 : ∀ env x, foldedSetIterable iter2 env x = pure x) :
    PS X (.Assign [.Name y py] (.ListComp elt [⟨tg, iter, ifs, 0⟩, ⟨tg2, iter2, ifs2, 0⟩] scope p2) p) (tEx B (.setF i (.comp2 (own.map (·.2)) own2 ca t ci tst t2 ci2 tst2))) :=
  PSimp (ps_setLc2 hc S.nd hy hyl hsw hi ok hv hg ht hi2 hg2 ht2 he hf hf2) fun D σ H ⟨F, I, L, env, fr, q⟩ => by
    refine lc2_read S hn hn2 ⟨F, I, L, env, fr, ?_⟩
    have q' : PostS B D (within env (evF B.G _ env L) fun s L => .ok .next (env.set i (some s)) L) := q
    exact withinS fr q' fun s L1 F1 I1 H1 v st fr1 rn h1 => h1 _ _ _ _ (fr_new fr fr1 rn)
theorem s_dcomp (S : Sx B X n) (hc : X.calm = true) (ok : BlkOk X.N X.env.scope scope own) (hi : PI X tg iter (tI B false ci)) (hg : InBlk X scope fun Y => PG Y tg (tPat B.blk t)) (ht : InBlk X scope fun Y => PTs Y ifs (tTst B.blk tst)) (hk : InBlk X scope fun Y => PE Y elt (tEv B.blk ca)) (he : InBlk X scope fun Y => PE Y elt2 (tEv B.blk cb))
    (hn : ∀ i ∈ t.names, i ∈ own.map (·.2)) (hf : ∀ x, foldedSetIterable iter X.env x = pure x) : PE X (.DictComp elt elt2 [⟨tg, iter, ifs, 0⟩] scope p) (tNew B (.dcomp (own.map (·.2)) ca cb t ci tst)) :=
  PEimp (pe_dcS hc S.nd hi ok hg ht hk he (fun s H C cl fp => pd_ok (blk_sx S s H scope _ fp)) hf) fun σ H Q q => dc_read S hn q
theorem s_setD (S : Sx B X n) (hc : X.calm = true) {i : Nat} {y : Str} {py : Pos} (hy : X.N[i]? = some y) (hyl : X.env.scope.names.lookup y = some .local) (hsw : swapsWith (.DictComp elt elt2 [⟨tg, iter, ifs, 0⟩] scope p2) (some (.Name y py)) p.line X.env = pure true)
    (ok : BlkOk X.N X.env.scope scope own) (hi : PI X tg iter (tI B false ci)) (hg : InBlk X scope fun Y => PG Y tg (tPat B.blk t)) (ht : InBlk X scope fun Y => PTs Y ifs (tTst B.blk tst)) (hk : InBlk X scope fun Y => PE Y elt (tEv B.blk ca)) (he : InBlk X scope fun Y => PE Y elt2 (tEv B.blk cb))
    (hn : ∀ i ∈ t.names, i ∈ own.map (·.2)) (hf : ∀ x, foldedSetIterable iter X.env x = pure x) : PS X (.Assign [.Name y py] (.DictComp elt elt2 [⟨tg, iter, ifs, 0⟩] scope p2) p) (tEx B (.setF i (.dcomp (own.map (·.2)) ca cb t ci tst))) :=
  PSimp (ps_setDcS hc S.nd hy hyl hsw hi ok hg ht hk he (fun s H C cl fp => pd_ok (blk_sx S s H scope _ fp)) hf) fun D σ H ⟨F, I, L, env, fr, q⟩ => by
    refine dc_read S hn ⟨F, I, L, env, fr, ?_⟩
    have q' : PostS B D (within env (evF B.G _ env L) fun s L => .ok .next (env.set i (some s)) L) := q
    exact withinS fr q' fun s L1 F1 I1 H1 v st fr1 rn h1 => h1 _ _ _ _ (fr_new fr fr1 rn)
end
end
end Wa

set_option Elab.async false
set_option linter.all false
set_option maxRecDepth 100000
set_option maxHeartbeats 4000000
/-! WaBi: built-ins on data. -/
namespace Wa
open PySem PySem.Spec PyProof.Rows L2

theorem RepQ.cons {T : View} {F : Addr → Prop} {I : List Addr} {H : Hp} {os : COs} {d : D} {ds : List D} {vs : List V} (h : RepQ T F I H os (d :: ds) vs) : ∃ v us os', vs = v :: us ∧ RepO T F I H d v ∧ RepQ T F I H os' ds us := by
  cases h with
  | e r h => exact ⟨_, _, _, rfl, .inl r, h⟩
  | pk r h => exact ⟨_, _, _, rfl, r, h⟩
theorem RepQ.nil' {T : View} {F : Addr → Prop} {I : List Addr} {H : Hp} {os : COs} {vs : List V} (h : RepQ T F I H os [] vs) : vs = [] := by
  cases h
  rfl
/-- a built-in whose answer is no list, dict -/
def rB1 (ro : Bool) (T : View) (b : Bi) : List V → Hp → VK → Prop := fun vs H Q => ∃ F I L x v d, Wf T F I H L ∧ vs = [v] ∧ RepV T F I H x v ∧ bi1 b x = some d ∧ d.leaf = true ∧ Ans ro T F I H L d Q
def rB2 (ro : Bool) (T : View) (b : Bi) : List V → Hp → VK → Prop := fun vs H Q => ∃ F I L x y v u d, Wf T F I H L ∧ vs = [v, u] ∧ RepV T F I H x v ∧ RepV T F I H y u ∧ bi2 b x y = some d ∧ d.leaf = true ∧ Ans ro T F I H L d Q
/-- .. whose answer is a new one -/
def rBF (ro : Bool) (T : View) (b : Bi) : List V → Hp → VK → Prop := fun vs H Q => ∃ F I L x v d, Wf T F I H L ∧ vs = [v] ∧ RepV T F I H x v ∧ bi1 b x = some d ∧
  ((∃ ys, d = .lst ys ∧ ∀ p us H', H p = none → Reps T F I H ys us → H' = upd H p (.lst us) → Q (.ref p) H') ∨
   ∃ ks vs, d = .dct ks vs ∧ ∀ p o, H p = none → DctAt T F I (upd H p o) p ks vs → Q (.ref p) (upd H p o))
section
variable {B : Bd} {X : Cx} {n : Nat} {ro : Bool} {T : View}
theorem len_data (hK : X.K = T.K) (hw : T.w = X.w) : CallR X (.builtin "len") (rB1 ro T .len) := by
  rintro pins s σ H xs us Q J rv ⟨F, I, L, x, v, d, w, rfl, r, e, lf, a⟩
  obtain ⟨m, em, rfl⟩ := Option.map_eq_some_iff.mp (show (lenD x).map (fun (n : Nat) => D.int (n : Int)) = some d from e)
  have q : Q (.int (m : Nat)) H := a.now w (.int (m : Nat))
  cases x with
  | lst ys =>
    cases em
    obtain ⟨p, zs, rfl, h1, h2⟩ := r.lst
    exact call_len pins s σ H _ us Q J rv ⟨_, _, rfl, .inl ⟨zs, .inl h1, rfl⟩, by rw [← h2.length]; exact q⟩
  | tup ys =>
    cases em
    obtain ⟨p, zs, rfl, h1, h2⟩ := r.tup
    exact call_len pins s σ H _ us Q J rv ⟨_, _, rfl, .inr ⟨zs, by rw [hK]; exact h1, rfl⟩, by rw [← h2.length]; exact q⟩
  | str y =>
    cases em
    obtain ⟨rfl, f⟩ := r.str
    exact call_len pins s σ H _ us Q J rv ⟨_, _, rfl, ⟨by rw [tx_len]; exact f.2, rfl⟩, by rw [tx_len]; exact q⟩
  | dct ks ws =>
    cases em
    obtain ⟨p, rfl, h⟩ := r.dct
    rcases h with ⟨kvs, h1, rfl, nd, r2⟩ | ⟨rows, h1, ok, rfl, kr, r2⟩
    · rw [List.length_map] at q
      exact call_lenD pins s σ H _ us Q J rv ⟨_, kvs, rfl, h1, q⟩
    · obtain ⟨q1, _⟩ := (show ObjOk X.prog X.w H s.heap p (.ext (rawT T.w p rows)) from J.hok p _ h1)
      rw [hw] at q1
      obtain ⟨hp, dd⟩ := rows_dict J hK.symm ok kr q1
      cases rv with
      | cons r1 r0 =>
        cases r0
        obtain rfl := r1
        have hm : s.heap.DictKeyed (dataKind X.prog X.w) p (pairsH (rows.map Row.at_)) := ⟨_, dd, rfl⟩
        have hl : (pairsH (rows.map Row.at_)).length = rows.length := by simp [pairsH]
        rw [List.length_map] at q
        have h0 : ¬ ((rows.length : Nat) : Int) < 0 := Int.not_lt.mpr (Int.natCast_nonneg _)
        have h63 : ¬ ((rows.length : Nat) : Int) ≥ 2 ^ 63 := by
          have := ok.len
          have : line = 16777216 := rfl
          omega
        have ep : EP X pins σ Q (.int (rows.length : Nat) (s.toks + 1)) { s with toks := s.toks + 1 + 1 } := ⟨.int (rows.length : Nat), H, J.kept fun b o e => e, ⟨_, rfl⟩, q⟩
        exact PyProof.Rows.call_len_slot dd.typeIs PySem.F.slot_dict_len (fun Q' hq => len_keyed hp hm (by rw [hl]; exact hq)) h0 h63 ep
  | _ => cases em
theorem int_data : CallR X (.type "int") (rB1 ro T .int) := by
  rintro pins s σ H xs us Q J rv ⟨F, I, L, x, v, d, w, rfl, r, e, lf, a⟩
  obtain ⟨m, em, rfl⟩ := Option.map_eq_some_iff.mp (show (intOf x).map D.int = some d from e)
  have q : Q (.int m) H := a.now w (.int m)
  cases x with
  | int i => cases em; obtain rfl := r.int; exact call_int1 pins s σ H _ us Q J rv (.inl ⟨_, rfl, q⟩)
  | bl b => cases em; obtain rfl := r.bl; exact call_int1 pins s σ H _ us Q J rv (.inr ⟨b, rfl, q⟩)
  | _ => cases em
theorem bools_reps {F : Addr → Prop} {I : List Addr} {H : Hp} : ∀ {ds : List D} {bs : List Bool} {vs : List V}, bools ds = some bs → Reps T F I H ds vs → vs = bs.map V.bl
  | [], _, _, e, r => by cases e; cases r; rfl
  | d :: ds, bs, vs, e, r => by
    cases r with
    | cons r1 r2 =>
      cases d with
      | bl b =>
        obtain ⟨bs', e', rfl⟩ := Option.map_eq_some_iff.mp (show (bools ds).map (b :: ·) = some bs from e)
        cases r1
        rw [bools_reps e' r2]
        rfl
      | _ => cases e
theorem ints_reps {F : Addr → Prop} {I : List Addr} {H : Hp} : ∀ {ds : List D} {bs : List Int} {vs : List V}, Wa.intsD ds = some bs → Reps T F I H ds vs → vs = bs.map V.int
  | [], _, _, e, r => by cases e; cases r; rfl
  | d :: ds, bs, vs, e, r => by
    cases r with
    | cons r1 r2 =>
      cases d with
      | int b =>
        obtain ⟨bs', e', rfl⟩ := Option.map_eq_some_iff.mp (show (Wa.intsD ds).map (b :: ·) = some bs from e)
        cases r1
        rw [ints_reps e' r2]
        rfl
      | _ => cases e
theorem all_data (hc : X.calm = true) (hK : X.K = T.K) : CallR X (.builtin "all") (rB1 ro T .all) := by
  rintro pins s σ H xs us Q J rv ⟨F, I, L, x, v, d, w, rfl, r, e, lf, a⟩
  cases x with
  | lst ys =>
    obtain ⟨bs, eb, rfl⟩ := Option.map_eq_some_iff.mp (show (bools ys).map (fun bs => D.bl (bs.all id)) = some d from e)
    obtain ⟨p, zs, rfl, h1, h2⟩ := r.lst
    rw [bools_reps eb h2] at h1
    exact cr_all hc pins s σ H _ us Q J rv ⟨p, bs, rfl, .inl h1, a.now w (.bl _)⟩
  | _ => cases e
theorem any_data (hc : X.calm = true) (hK : X.K = T.K) : CallR X (.builtin "any") (rB1 ro T .any) := by
  rintro pins s σ H xs us Q J rv ⟨F, I, L, x, v, d, w, rfl, r, e, lf, a⟩
  cases x with
  | lst ys =>
    obtain ⟨bs, eb, rfl⟩ := Option.map_eq_some_iff.mp (show (bools ys).map (fun bs => D.bl (bs.any id)) = some d from e)
    obtain ⟨p, zs, rfl, h1, h2⟩ := r.lst
    rw [bools_reps eb h2] at h1
    exact cr_any hc pins s σ H _ us Q J rv ⟨p, bs, rfl, .inl h1, a.now w (.bl _)⟩
  | _ => cases e
theorem sum_data (hc : X.calm = true) (hK : X.K = T.K) : CallR X (.builtin "sum") (rB1 ro T .sum) := by
  rintro pins s σ H xs us Q J rv ⟨F, I, L, x, v, d, w, rfl, r, e, lf, a⟩
  cases x with
  | lst ys =>
    obtain ⟨bs, eb, rfl⟩ := Option.map_eq_some_iff.mp (show (Wa.intsD ys).map (fun is => D.int is.sum) = some d from e)
    obtain ⟨p, zs, rfl, h1, h2⟩ := r.lst
    rw [ints_reps eb h2] at h1
    exact cr_sum hc pins s σ H _ us Q J rv ⟨p, bs, rfl, .inl h1, a.now w (.int _)⟩
  | _ => cases e
theorem max_data (hc : X.calm = true) : CallR X (.builtin "max") (rB2 ro T .max2) := by
  rintro pins s σ H xs us Q J rv ⟨F, I, L, x, y, v, u, d, w, rfl, r, r2, e, lf, a⟩
  cases x <;> cases y <;> first | (cases e; done) | skip
  cases e
  obtain rfl := r.int
  obtain rfl := r2.int
  exact call_max2 hc pins s σ H _ us Q J rv ⟨_, _, rfl, a.now w (.int _)⟩
theorem min_data (hc : X.calm = true) : CallR X (.builtin "min") (rB2 ro T .min2) := by
  rintro pins s σ H xs us Q J rv ⟨F, I, L, x, y, v, u, d, w, rfl, r, r2, e, lf, a⟩
  cases x <;> cases y <;> first | (cases e; done) | skip
  cases e
  obtain rfl := r.int
  obtain rfl := r2.int
  exact call_min2 hc pins s σ H _ us Q J rv ⟨_, _, rfl, a.now w (.int _)⟩
/-! ### a dict's keys, walked -/
theorem vals_get : ∀ {us : List V} {l : List Value}, us.length = l.length → (∀ (j : Nat) x u, us[j]? = some x → l[j]? = some u → L2.RelV x u) → Vals us l
  | [], [], _, _ => .nil
  | [], _ :: _, h, _ => by cases h
  | _ :: _, [], h, _ => by cases h
  | x :: us, u :: l, h, k => .cons (k 0 x u rfl rfl) (vals_get (by simpa using h) fun j y w e1 e2 => k (j + 1) y w (by simpa using e1) (by simpa using e2))
theorem reps_keys {F : Addr → Prop} {I : List Addr} {H : Hp} : ∀ {l : List Key}, (∀ k ∈ l, keyFine k) → Reps T F I H (l.map keyD) (l.map kV)
  | [], _ => .nil
  | k :: l, h => .cons (by
      have := h k List.mem_cons_self
      cases k with
      | inl i => exact .int i
      | inr x =>
        have e : x = tx x.cps.toList := by obtain ⟨⟨c⟩⟩ := x; rfl
        have r : Rep T F I H (.str x.cps.toList) (.str (tx x.cps.toList)) := .str _ this
        rw [← e] at r
        exact r) (reps_keys fun k m => h k (List.mem_cons_of_mem _ m))
theorem dict_src {pins : List (Addr × Obj)} {σ : L2.St} {H : Hp} {s : Shared} {F : Addr → Prop} {I : List Addr} (J : Inv X pins σ H s) (hK : X.K = T.K) (hw : T.w = X.w) {p : Addr} {ks vs : List D} (h : DctAt T F I H p ks vs) :
    ∃ es ep us, (p == sysModules) = false ∧ s.heap.DictRaw p es ep ∧ es.size = ks.length ∧ ks.length ≤ sizeLine ∧ Reps T F I H ks us ∧ ∀ acc : Array Value, ItemsOf (fun i v => ∃ hi : i < es.size, v = es[i].key) acc es.size → Vals us acc.toList := by
  rcases h with ⟨kvs, h1, rfl, nd, r2⟩ | ⟨rows, h1, ok, rfl, kr, r2⟩
  · obtain ⟨z, hp, ws, rel, dd⟩ := dk_of J.hok h1
    obtain ⟨es, ep, raw, hs, he⟩ := dd.raw
    have hl := rel.length
    refine ⟨es, ep, (kvs.map (·.1)).map kV, hp, raw, by rw [hs, List.length_map, hl], by rw [List.length_map]; exact z, ?_, fun acc it => ?_⟩
    · have := reps_keys (T := T) (F := F) (I := I) (H := H) nd.2
      rw [List.map_map] at this
      exact this
    · have hk : kvs.map (·.1) = ws.map (·.1) := rel.keys
      rw [hk, List.map_map]
      refine keys_at (by rw [Array.length_toList, it.1, hs]) fun j v e => ?_
      rw [Array.getElem?_toList] at e
      obtain ⟨hi, rfl⟩ := it.2 j v e
      have hj : j < ws.length := by rw [← hs]; exact hi
      exact ⟨ws[j].1, ws[j].2, List.getElem?_eq_getElem hj, (he j hi ws[j].1 ws[j].2 (List.getElem?_eq_getElem hj)).1⟩
  · obtain ⟨q1, _⟩ := (show ObjOk X.prog X.w H s.heap p (.ext (rawT T.w p rows)) from J.hok p _ h1)
    rw [hw] at q1
    obtain ⟨hp, dd⟩ := rows_dict J hK.symm ok kr q1
    obtain ⟨es, ep, raw, hs, he⟩ := dd.raw
    rw [List.length_map] at hs
    refine ⟨es, ep, rows.map fun r => V.ref r.a, hp, raw, by rw [hs, List.length_map], by rw [List.length_map]; exact ok.len, kr, fun acc it => vals_get (by have e1 := it.1; rw [hs] at e1; rw [List.length_map, ← e1]; exact Array.length_toList.symm) fun j x u e1 e2 => ?_⟩
    rw [Array.getElem?_toList] at e2
    obtain ⟨hi, rfl⟩ := it.2 j u e2
    obtain ⟨y, e3, e4, _, _⟩ := he j hi
    rw [e4]
    rw [List.getElem?_map] at e1 e3
    cases hr : rows[j]? with
    | none => rw [hr] at e1; cases e1
    | some r => rw [hr] at e1 e3; cases e1; cases e3; rfl
/-! ### tuple, list -/
theorem tuple_data (hK : X.K = T.K) : CallR X (.type "tuple") (rB1 ro T .tup) := by
  rintro pins s σ H xs us Q J rv ⟨F, I, L, x, v, d, w, rfl, r, e, lf, a⟩
  cases x with
  | lst ys =>
    cases e
    obtain ⟨p, zs, rfl, h1, h2⟩ := r.lst
    exact call_tuple_of pins s σ H _ us Q J rv ⟨p, zs, rfl, .inl ⟨.inl h1, fun l hl => a.tup w h2 hl⟩⟩
  | tup ys =>
    cases e
    have r' := r.rep rfl
    obtain ⟨p, zs, rfl, h1, h2⟩ := r.tup
    exact call_tuple_of pins s σ H _ us Q J rv ⟨p, zs, rfl, .inr ⟨by rw [hK]; exact h1, a.now w r'⟩⟩
  | _ => cases e
theorem list_data (hc : X.calm = true) (hK : X.K = T.K) (hw : T.w = X.w) : CallR X (.type "list") (rBF ro T .lst) := by
  rintro pins s σ H xs us Q J rv ⟨F, I, L, x, v, d, w, rfl, r, e, q⟩
  have qq : ∀ {ys : List D}, d = .lst ys → ∀ p us H', H p = none → Reps T F I H ys us → H' = upd H p (.lst us) → Q (.ref p) H' := fun {ys} e => by
    rcases q with ⟨ys', e', q⟩ | ⟨ks, vs, e', _⟩
    · rw [e] at e'; cases e'; exact q
    · rw [e] at e'; cases e'
  cases x with
  | lst ys =>
    cases e
    obtain ⟨p, zs, rfl, h1, h2⟩ := r.lst
    exact call_list_of pins s σ H _ us Q J rv ⟨p, zs, rfl, .inl (.inl h1), fun l hl => qq rfl l zs _ hl h2 rfl⟩
  | tup ys =>
    cases e
    obtain ⟨p, zs, rfl, h1, h2⟩ := r.tup
    exact call_list_of pins s σ H _ us Q J rv ⟨p, zs, rfl, .inr (by rw [hK]; exact h1), fun l hl => qq rfl l zs _ hl h2 rfl⟩
  | dct ks vs =>
    cases e
    obtain ⟨p, rfl, h⟩ := r.dct
    obtain ⟨es, ep, zs, hp, raw, h1, h2, h3, h4⟩ := dict_src J hK hw h
    cases rv with
    | cons r1 r0 =>
      cases r0
      obtain rfl := r1
      refine PySem.W.kdl_call (KdlSrc.rawDict hp) (J.ok.hd hc) raw (by rw [h1]; exact h2) fun h' tk acc c' hk ha hi => ?_
      have hv := h4 acc hi
      refine ⟨.ref s.heap.objs.size, upd H s.heap.objs.size (.lst zs), J.laid hk (Nat.le_refl _) ?_, rfl, qq rfl _ zs _ (J.hok.fresh (Nat.le_refl _)) h3 rfl⟩
      exact ⟨by rw [← h3.length]; exact h2, acc.toList, c', hv, by rw [ha]⟩
  | _ => cases e
/-- a dict of intsD and texts, at the machine -/
theorem atom_dict {pins : List (Addr × Obj)} {σ : L2.St} {H : Hp} {s : Shared} {F : Addr → Prop} {I : List Addr} (J : Inv X pins σ H s) (hw : T.w = X.w) {p : Addr} {ks vs : List D} (h : DctAt T F I H p ks vs) (ha : atoms ks = true) :
    ∃ (kvs : List (Key × V)) (ws : List (Key × Value)), (p == sysModules) = false ∧ L2.KV kvs ws ∧ kvs.length ≤ sizeLine ∧ s.heap.DictOf (mixKind X.prog X.w) p ws ∧ ks = kvs.map (fun e => keyD e.1) ∧ KOk (kvs.map (·.1)) ∧ Reps T F I H vs (kvs.map (·.2)) := by
  rcases h with ⟨kvs, h1, rfl, nd, r⟩ | ⟨rows, h1, ok, rfl, kr, r⟩
  · obtain ⟨z, hp, ws, rel, dd⟩ := dk_of J.hok h1
    exact ⟨kvs, ws, hp, rel, z, dd, rfl, nd, r⟩
  · cases rows with
    | cons e rows =>
      have q := (List.all_eq_true.mp ha) (D.tup e.k) (List.mem_map.mpr ⟨e, List.mem_cons_self, rfl⟩)
      rw [show (D.tup e.k).isTup = true from rfl, show (!true) = false from rfl, Bool.and_false] at q
      cases q
    | nil =>
      obtain ⟨q, _⟩ := (show ObjOk X.prog X.w H s.heap p (.ext (rawT T.w p [])) from J.hok p _ h1)
      obtain ⟨o, es, ep, g, x, d, e, hp⟩ := q
      refine ⟨[], [], hp, .nil, Nat.zero_le _, ⟨o, es, ep, g, x, d, ?_, ?_, List.nodup_nil⟩, rfl, KOk.nil, r⟩
      · intro e' m
        have : e' ∈ es.toList := by simpa using m
        rw [e] at this
        cases this
      · rw [e]
        exact .nil
theorem dict_data (hw : T.w = X.w) : CallR X (.type "dict") (rBF ro T .dct) := by
  rintro pins s σ H xs us Q J rv ⟨F, I, L, x, v, d, w, rfl, r, e, q⟩
  cases x with
  | dct ks vs =>
    have e' : (if atoms ks then some (D.dct ks vs) else none) = some d := e
    split at e'
    · rename_i ha
      cases e'
      have qq : ∀ p o, H p = none → DctAt T F I (upd H p o) p ks vs → Q (.ref p) (upd H p o) := by
        rcases q with ⟨ys', e', q⟩ | ⟨ks', vs', e', q⟩
        · cases e'
        · cases e'; exact q
      obtain ⟨p, rfl, h⟩ := r.dct
      obtain ⟨kvs, ws, hp, rel, z, dd, rfl, nd, r2⟩ := atom_dict J hw h ha
      cases rv with
      | cons r1 r0 =>
        cases r0
        obtain rfl := r1
        refine kt_call_dict hp dd (by rw [← rel.length]; exact z) fun h' dd' sb => ?_
        have hn : H s.heap.objs.size = none := J.hok.fresh (Nat.le_refl _)
        have hk : ∀ b o, s.heap.get? b = some o → h'.get? b = some o := fun b o e => by
          rw [sb.2 b (Nat.ne_of_lt (Heap.lt_size e))]
          exact Heap.get?_push_of_some _ e
        refine ⟨.ref s.heap.objs.size, upd H s.heap.objs.size (.dK kvs), J.laid hk (Nat.le_refl _) (dk_new z (beq_eq_false_iff_ne.mpr (Nat.ne_of_gt J.big)) rel dd'), rfl, qq _ _ hn (.inl ⟨kvs, upd_same, rfl, nd, r2.keeps ((Step.laid (ro := true) hn).keeps0 w)⟩)⟩
    · cases e'
  | _ => cases e
end
end Wa

set_option Elab.async false
set_option linter.all false
set_option maxRecDepth 100000
set_option maxHeartbeats 4000000
/-! WaBi2: calls of built-ins. -/
namespace Wa
open PySem PySem.Spec PyProof.Rows L2

section
variable {B : Bd} {X : Cx} {n : Nat} {e a b c : Expr} {es : List Expr} {p p2 apos : Pos} {ca cb cc : CE} {oa ob oc : CO} {cs : CEs} {os : COs}
/-- a name of the built-ins, and what it stands for -/
structure BiName (X : Cx) (x : Str) (f : Value) : Prop where
  gl : Gl X x
  mg : X.mg x = none
  boot : bootBuiltins x = some f
  n1 : x ≠ ("__name__" : Str)
  n2 : (x == ("__debug__" : Str)) = false
theorem tail_ok {e : Expr} {env : PySem.Env} {pos : Pos} (h : ∀ v q, e ≠ .Starred v q) : ((backTo pos (starEach [e] env)).any fun x => x.1) = false := by
  rw [starE h]
  rfl
theorem bi1_read (S : Sx B X n) {bi : Bi} {σ : L2.St} {H : Hp} {Q : VK} (h : tEv B (.bi bi (.cons oa .nil)) σ H Q) : tCB (rB1 B.G.ro B.T bi) (tEvOs B (.cons oa .nil)) σ H Q := by
  obtain ⟨F, I, L, env, fr, q⟩ := h
  refine ⟨F, I, L, env, fr, q.seq fun ds L1 F1 I1 H1 vs st1 w1 r1 h1 => ?_⟩
  obtain ⟨d, e, q1⟩ := h1.opt
  unfold leafD at e
  cases r1 with
  | e r1 r0 =>
    cases r0
    obtain ⟨z, e1, e2⟩ := Option.bind_eq_some_iff.mp e
    split at e2
    · rename_i lf
      cases e2
      exact ⟨F1, I1, L1, _, _, d, w1, rfl, seen_rep w1 (.inl r1), e1, lf, q1⟩
    · cases e2
  | pk r1 r0 =>
    cases r0
    obtain ⟨z, e1, e2⟩ := Option.bind_eq_some_iff.mp e
    split at e2
    · rename_i lf
      cases e2
      exact ⟨F1, I1, L1, _, _, d, w1, rfl, seen_rep w1 r1, e1, lf, q1⟩
    · cases e2
theorem s_bi1 (S : Sx B X n) {bi : Bi} {id : String} {x : Str} (hr : CallR X (.builtin id) (rB1 B.G.ro B.T bi)) (hx : BiName X x (.builtin id)) (h : PA X [a] (tEvOs B (.cons oa .nil))) (hs : ∀ v q, a ≠ .Starred v q) : PE X (.Call (.Name x p2) [a] [] p) (tEv B (.bi bi (.cons oa .nil))) :=
  PEimp (pe_callB hr hx.gl hx.mg hx.boot h hx.n1 hx.n2 (starE hs) rfl) fun σ H Q q => bi1_read S q
theorem s_biT (S : Sx B X n) {bi : Bi} {id : String} {x : Str} (hr : CallR X (.type id) (rB1 B.G.ro B.T bi)) (hx : BiName X x (.type id)) (h : PA X [a] (tEvOs B (.cons oa .nil))) (hs : ∀ v q, a ≠ .Starred v q) : PE X (.Call (.Name x p2) [a] [] p) (tEv B (.bi bi (.cons oa .nil))) :=
  PEimp (pe_callTy hr hx.gl hx.mg hx.boot h hx.n1 hx.n2 (starE hs) rfl) fun σ H Q q => bi1_read S q
theorem biF_read (S : Sx B X n) {bi : Bi} {σ : L2.St} {H : Hp} {Q : VK} (h : tNew B (.bi bi (.cons oa .nil)) σ H Q) : tCB (rBF B.G.ro B.T bi) (tEvOs B (.cons oa .nil)) σ H Q := by
  obtain ⟨F, I, L, env, fr, q⟩ := h
  have q' : B.post σ F I H (rNew B H) ((evOs B.G (.cons oa .nil) env L).bind fun xs L => match biD bi (xs.map fun x => seen x L) with
    | some (.lst ys) => .ok (.olst ys) L
    | some (.dct ks vs) => .ok (.odct ks vs) L
    | _ => .bad) Q := q
  refine ⟨F, I, L, env, fr, q'.seq fun ds L1 F1 I1 H1 vs st1 w1 r1 h1 => ?_⟩
  have key : ∀ (x : D) (v : V), RepV B.T F1 I1 H1 (seen x L1) v → B.post σ F1 I1 H1 (rNew B H) (match bi1 bi (seen x L1) with
    | some (.lst ys) => .ok (.olst ys) L1
    | some (.dct ks vs) => .ok (.odct ks vs) L1
    | _ => .bad) Q → rBF B.G.ro B.T bi [v] H1 Q := fun x v r h => by
    split at h
    · rename_i ys e
      refine ⟨F1, I1, L1, _, v, _, w1, rfl, r, e, .inl ⟨ys, rfl, fun p us H' hp rs eh => ?_⟩⟩
      subst eh
      exact h F1 I1 _ _ (Step.laid hp) (w1.laid hp) (new_lst st1.there w1 hp rs)
    · rename_i ks ws e
      refine ⟨F1, I1, L1, _, v, _, w1, rfl, r, e, .inr ⟨ks, ws, rfl, fun p o hp dd => ?_⟩⟩
      exact h F1 I1 _ _ (Step.laid hp) (w1.laid hp) ⟨rfl, p, rfl, own_new (B := B) st1.there w1 hp, dd⟩
    · exact h.elim
  cases r1 with
  | e r1 r0 => cases r0; exact key _ _ (seen_rep w1 (.inl r1)) h1
  | pk r1 r0 => cases r0; exact key _ _ (seen_rep w1 r1) h1
theorem s_biF (S : Sx B X n) {bi : Bi} {id : String} {x : Str} (hr : CallR X (.builtin id) (rBF B.G.ro B.T bi)) (hx : BiName X x (.builtin id)) (h : PA X [a] (tEvOs B (.cons oa .nil))) (hs : ∀ v q, a ≠ .Starred v q) : PE X (.Call (.Name x p2) [a] [] p) (tNew B (.bi bi (.cons oa .nil))) :=
  PEimp (pe_callB hr hx.gl hx.mg hx.boot h hx.n1 hx.n2 (starE hs) rfl) fun σ H Q q => biF_read S q
theorem s_biFT (S : Sx B X n) {bi : Bi} {id : String} {x : Str} (hr : CallR X (.type id) (rBF B.G.ro B.T bi)) (hx : BiName X x (.type id)) (h : PA X [a] (tEvOs B (.cons oa .nil))) (hs : ∀ v q, a ≠ .Starred v q) : PE X (.Call (.Name x p2) [a] [] p) (tNew B (.bi bi (.cons oa .nil))) :=
  PEimp (pe_callTy hr hx.gl hx.mg hx.boot h hx.n1 hx.n2 (starE hs) rfl) fun σ H Q q => biF_read S q
end
end Wa

set_option Elab.async false
set_option linter.all false
set_option maxRecDepth 100000
set_option maxHeartbeats 4000000
/-! WaMet: methods of dicts of both sorts. -/
namespace Wa
open PySem PySem.Spec PyProof.Rows L2

/-- of a built-in type, whatever way it is tracked -/
def TyS (X : Cx) (T : String) (x : V) (H : Hp) : Prop := ∀ (pins : List (Addr × Obj)) (s : Shared) (σ : L2.St) (v : Value), Inv X pins σ H s → L2.RelV x v → s.TypeIs v T ∧ ∀ a : Addr, v = .ref a → ∃ ob, s.heap.get? a = some ob ∧ ob.dict = none
def tBS (X : Cx) (T : String) (r : V → List V → Hp → VK → Prop) (to : TE) (t : TA) : TE := fun σ H Q => to σ H fun x H1 => TyS X T x H1 ∧ t σ H1 fun xs H2 => r x xs H2 Q
theorem pe_bmT {X : Cx} {o e : Expr} {es : List Expr} {to : TE} {t : TA} {name : Str} {apos cpos : Pos} {T id : String} {r : V → List V → Hp → VK → Prop} (pa : PlainAttrs T) (slot : Slot T name id) (hty : typeOf (.builtin id) = pure (.type "method_descriptor")) (hm : MtR X id r)
    (ho : PE X o to) (ha : PA X (e :: es) t) (hbase : attributeBase o name X.env (eval o X.env) = eval o X.env)
    (hfew : ((backTo cpos (starEach (e :: es) X.env)).all (fun x => !x.1) && (backToKw cpos (keywordEach [] X.env)).all (fun x => x.1.isSome) && decide ((e :: es).length + ([] : List Keyword).length + (if ([] : List Keyword).isEmpty then 0 else 1) < 30)) = true)
    (hline : (apos.endLine == cpos.line) = true) (hs : starEach (e :: es) X.env = (false, eval e X.env) :: starEach es X.env) (hplain : ((backTo cpos (starEach es X.env)).any fun x => x.1) = false) :
    PE X (.Call (.Attribute o name apos) (e :: es) [] cpos) (tBS X T r to t) :=
  ⟨fun pins s σ H Q I h => wpAny_Call_method_late hbase hfew hline rfl (thn (ho.run pins s σ H _ I h) fun v s1 ⟨x, H1, I1, r1, ty, q1⟩ => by
    obtain ⟨h1, h2⟩ := ty pins s1 σ v I1 r1
    refine ⟨T, id, pa, slot, hty, h1, h2, ?_⟩
    have hA := ha.run cpos pins s1 σ H1 (fun xs H2 => r x xs H2 Q) I1 q1
    rw [hs] at hA ⊢
    have hp : (false || ((backTo cpos (starEach es X.env)).any fun x => x.1)) = false := by rw [hplain]; rfl
    exact Calls.callWith_builtin hp (Calls.evalArgs_plain (thn hA fun us s2 ⟨vs, H2, I2, r2, q2⟩ => hm pins s2 σ H2 x vs v us Q I2 r1 r2 q2)))⟩
theorem tyS_dct {X : Cx} {T : View} {F : Addr → Prop} {I : List Addr} {H : Hp} {p : Addr} {ks vs : List D} (hw : T.w = X.w) (h : DctAt T F I H p ks vs) : TyS X "dict" (.ref p) H := fun pins s σ v J rv => by
  obtain rfl := rv
  rcases h with ⟨kvs, h1, _⟩ | ⟨rows, h1, _⟩
  · have ty : tyV X.K "dict" (.ref p) H := Or.inr (Or.inr (Or.inl ⟨rfl, Or.inl ⟨kvs, h1⟩⟩))
    exact tyV_is J (show L2.RelV (.ref p) (.ref p) from rfl) ty
  · obtain ⟨⟨o, es, ep, g, x, d, e, hp⟩, _⟩ := (show ObjOk X.prog X.w H s.heap p (.ext (rawT T.w p rows)) from J.hok p _ h1)
    exact ⟨⟨o, g, x.1⟩, fun a ea => by cases ea; exact ⟨o, g, x.2.1⟩⟩
/-! ### dict.update -/
theorem putAll_kvs {T : View} {F : Addr → Prop} {I : List Addr} {H : Hp} : ∀ {more : List (Key × V)} {ys : List D} {kvs : List (Key × V)} {vs : List D} {r : List D × List D}, Reps T F I H ys (more.map (·.2)) → Reps T F I H vs (kvs.map (·.2)) → KOk (kvs.map (·.1)) → (∀ k ∈ more.map (·.1), keyFine k) →
    putAll (more.map fun e => keyD e.1) ys (kvs.map fun e => keyD e.1) vs = some r → r.1 = (mergeK kvs more).map (fun e => keyD e.1) ∧ Reps T F I H r.2 ((mergeK kvs more).map (·.2)) ∧ KOk ((mergeK kvs more).map (·.1))
  | [], ys, kvs, vs, r, h, h2, nd, _, e => by
    cases h
    cases e
    exact ⟨rfl, h2, nd⟩
  | m :: more, ys, kvs, vs, r, h, h2, nd, hf, e => by
    cases h with
    | @cons d _ ds _ h1 hs =>
      have e' : (match putC (keyD m.1) d (kvs.map fun e => keyD e.1) vs with | some r => putAll (more.map fun e => keyD e.1) ds r.1 r.2 | none => none) = some r := e
      unfold putC at e'
      by_cases c : (kok (keyD m.1) (kvs.map fun e => keyD e.1) && decide ((kvs.map fun e => keyD e.1).length < line)) = true
      · rw [if_pos c] at e'
        obtain ⟨i1, i2, i3⟩ := put_kvs m.1 h1 nd.1 h2
        have e2 : putAll (more.map fun e => keyD e.1) ds (putK (keyD m.1) d (kvs.map fun e => keyD e.1) vs).1 (putK (keyD m.1) d (kvs.map fun e => keyD e.1) vs).2 = some r := e'
        rw [i1] at e2
        exact putAll_kvs (kvs := L2.putK kvs m.1 m.2) hs i2 ⟨i3, putK_fine nd.2 (hf _ List.mem_cons_self)⟩ (fun k h => hf k (List.mem_cons_of_mem _ h)) e2
      · rw [if_neg c] at e'
        cases e'
theorem mergeK_len : ∀ (more kvs : List (Key × V)), (mergeK kvs more).length ≤ kvs.length + more.length
  | [], kvs => Nat.le_refl _
  | m :: more, kvs => by
    have h := mergeK_len more (L2.putK kvs m.1 m.2)
    have h2 := length_putK kvs m.1 m.2
    show (mergeK (L2.putK kvs m.1 m.2) more).length ≤ _
    rw [List.length_cons]
    omega
def rUpd (T : View) : V → List V → Hp → VK → Prop := fun x xs H Q => ∃ F I p q ks vs ks' vs' r, x = .ref p ∧ xs = [.ref q] ∧ ¬ F p ∧ F q ∧ DctAt T F I H p ks vs ∧ DctAt T F I H q ks' vs' ∧ atoms ks = true ∧ atoms ks' = true ∧ ks.length + ks'.length ≤ line ∧ putAll ks' vs' ks vs = some r ∧
  ∀ o', Moves o' → DctAt T F I (upd H p o') p r.1 r.2 → Q .non (upd H p o')
theorem mt_upd {X : Cx} {T : View} (hw : T.w = X.w) : MtR X "dict.update" (rUpd T) := by
  rintro pins s σ H x xs v us Q J rx rv ⟨F, I, p, q, ks, vs, ks', vs', r, rfl, rfl, nf, fq, h1, h2, a1, a2, hl, e, k⟩
  obtain rfl := rx
  cases rv with
  | cons r1 r0 =>
    cases r0
    obtain rfl := r1
    obtain ⟨kvs, ws, hp, rel, z, dd, rfl, nd, vr⟩ := atom_dict J hw h1 a1
    obtain ⟨more, ws', hq, rel', z', dd', rfl, nd', vr'⟩ := atom_dict J hw h2 a2
    have ne : p ≠ q := fun z => nf (by rw [z]; exact fq)
    rw [List.length_map, List.length_map] at hl
    have hln : line = sizeLine := rfl
    have hl1 := rel.length
    have hl2 := rel'.length
    obtain ⟨i1, i2, i3⟩ := putAll_kvs vr' vr nd nd'.2 e
    have mu := dk_mut h1
    obtain ⟨u, hu, mv⟩ := h1.some
    have kp : ∀ o, Keeps F I H F I (upd H p o) := fun o => keeps_upd nf hu mv
    refine PySem.call_meetsIn PySem.F.slot_dict_update dd.typeIs PySem.F.entry_dict_update (PySem.F.args_dict_update_2 _ _) (meets_dict_update (mixKind X.prog X.w) p q ne hq) ⟨ws, ws', dd, dd', by rw [← hl1, ← hl2]; exact hl, fun h' d1 d2 sb => ?_⟩
    have he : ∃ q, h'.get? p = some q := let ⟨q, _, _, hq, _⟩ := d1; ⟨q, hq⟩
    have hz : (mergeK kvs more).length ≤ sizeLine := by have := mergeK_len more kvs; omega
    exact ⟨.non, upd H p (.dK (mergeK kvs more)), d_write J mu sb he (dk_new hz hp (rel'.merge rel) d1), rfl, k _ trivial (.inl ⟨_, upd_same, i1, i3, i2.keeps (kp _)⟩)⟩
theorem s_dupd {B : Bd} {X : Cx} {n : Nat} {e : Expr} {p p2 apos : Pos} {ca : CE} (S : Sx B X n) {i : Nat} {x : Str} {xp : Pos} (hN : X.N[i]? = some x) (hv : Vis X.env.scope x) (hd : (x == ("__debug__" : Str)) = false) (hc : (x == ("__classdict__" : Str)) = false) (sc : StmCall apos p2 [e]) (h : PE X e (tEv B ca)) :
    PS X (.Expr (.Call (.Attribute (.Name x xp) "update" apos) [e] [] p2) p) (tEx B (.dupd i ca)) :=
  PSimp (ps_expr (pe_bmT PySem.F.plainAttrs_dict PySem.F.slot_dict_update PySem.F.type_dict_update (mt_upd S.w) (pe_var (i := i) hN hv hd hc) (a_cons h a_nil (sc.star e List.mem_cons_self)) nameBase (few_ok sc.star sc.few) sc.line (starE (sc.star e List.mem_cons_self)) rfl) (swaps_none rfl)) fun D σ H ⟨F, I, L, env, fr, q⟩ => by
    have q' : PostS B D (ex B.G (.dupd i ca) env L) := q
    unfold ex at q'
    split at q'
    · rename_i ks vs es
      obtain ⟨pa, e1, o, h1⟩ := own_dct fr es
      refine ⟨_, e1, tyS_dct S.w h1, F, I, L, env, fr, one_arg (withinS fr q' fun d L1 F1 I1 H1 v st fr1 ra h1 => ?_)⟩
      split at h1
      · rename_i ks' vs'
        split at h1
        · rename_i hl
          obtain ⟨hl1, hl2⟩ := Bool.and_eq_true_iff.mp hl
          obtain ⟨a1, a2⟩ := Bool.and_eq_true_iff.mp hl1
          obtain ⟨o, h2⟩ := own_dctAt fr1 es e1
          obtain ⟨pb, rfl, fb, h3⟩ := ra.dct_at
          cases ej : putAll ks' vs' ks vs with
          | none => rw [ej] at h1; exact h1.elim
          | some r =>
            rw [ej] at h1
            exact ⟨F1, I1, pa, pb, ks, vs, ks', vs', r, rfl, rfl, o.nf, fb, h2, h3, a2, a1, of_decide_eq_true hl2, ej, fun o' m d' => h1 _ _ _ _ (fr_dct fr1 es e1 o h2 d')⟩
        · exact h1.elim
      · exact h1.elim
    · exact q'.elim
end Wa

set_option Elab.async false
set_option linter.all false
set_option maxRecDepth 100000
set_option maxHeartbeats 4000000
/-! WaExc: exceptions. -/
namespace Wa
open PySem PySem.Spec PyProof.Rows L2

section
variable {B : Bd} {X : Cx} {n : Nat} {e : Expr} {p p2 p3 p4 : Pos} {cs : CEs}
/-- an own class of exceptions without an own __init__ -/
structure ExcCls (X : Cx) (x : Str) (C : Addr) : Prop where
  gl : Gl X x
  mg : X.mg x = some (.ref C)
  nd : (x == ("__debug__" : Str)) = false
  keep : PySem.W.keepIn X.K (.ref C) = true
  base : ∃ bmB Bn newId initId, ExcBaseFacts Bn newId initId bmB ∧ PySem.W.excIn X.K C bmB newId = true
  rs : Raises X (.ref C)
theorem s_raise0 (S : Sx B X n) (hc : X.calm = true) {c : Nat} {x m : Str} {j : Nat} (E : ExcCls X x (B.T.adr c)) : PS X (.Raise (some (.Call (.Name x p2) [.Constant (.str m) j p3] [] p)) none p4) (tEx B (.raise c .nil)) := by
  obtain ⟨bmB, Bn, newId, initId, f, hE⟩ := E.base
  exact PSimp (ps_raise hc S.tk (pmk_own f hE E.mg E.keep E.rs E.gl E.nd)) fun D σ H ⟨F, I, L, env, fr, q⟩ => by
    have q' : PostS B D (.exc c [] env L) := q
    exact q' F I H σ _ none fr ⟨rfl, .inl ⟨rfl, rfl⟩⟩
end
end Wa

set_option Elab.async false
set_option linter.all false
set_option maxRecDepth 100000
set_option maxHeartbeats 4000000
/-! WaIsi: isinstance on data. -/
namespace Wa
open PySem PySem.Spec PyProof.Rows L2

def tyD : D → Option String
  | .non => some "NoneType"
  | .bl _ => some "bool"
  | .int _ => some "int"
  | .str _ => some "str"
  | .tup _ => some "tuple"
  | .lst _ => some "list"
  | _ => none
def Tag.ty : Tag → String
  | .int => "int"
  | .bool => "bool"
  | .str => "str"
  | .tup => "tuple"
  | .lst => "list"
  | .dct => "dict"
def kitD (t : String) (c : Tag) : Bool := t == c.ty || (t == "bool" && c.ty == "int")
/-- what the text's classes tell of the built-in ones -/
def KitOk (K : PySem.W.Frag) : Prop := ∀ t ∈ ["NoneType", "bool", "int", "str", "tuple", "list"], ∀ c : Tag, PySem.W.kitOne K (.type t) (.type c.ty) = some (kitD t c)
section
variable {B : Bd} {X : Cx} {n : Nat} {a : Expr} {p p2 p3 : Pos} {oa : CO}
theorem tyx {T : View} {F : Addr → Prop} {I : List Addr} {H : Hp} {d : D} {v : V} {t : String} (r : RepV T F I H d v) (e : tyD d = some t) : TyX T.K H v (.type t) := by
  cases d with
  | non => cases e; obtain rfl := r.non; exact .base .non
  | bl b => cases e; obtain rfl := r.bl; exact .base (.bl b)
  | int i => cases e; obtain rfl := r.int; exact .base (.int i)
  | str s => cases e; obtain ⟨rfl, _⟩ := r.str; exact .base (.str _)
  | tup ds =>
    cases e
    obtain ⟨q, xs, rfl, h, _⟩ := r.tup
    rcases h with (h | ⟨o, h⟩) | ⟨o, its, k, h1, h2, _⟩
    · exact .base (.tup h)
    · exact .fTuple h
    · exact .kTuple h1 h2
  | lst ds =>
    cases e
    obtain ⟨q, xs, rfl, h, _⟩ := r.lst
    rcases h with h | ⟨o, h⟩
    · exact .base (.lst h)
    · exact .base (.frz h)
  | _ => cases e
theorem tag_kit {d : D} {c : Tag} {k : Bool} (e : isTag d c = some k) : ∃ t, tyD d = some t ∧ t ∈ ["NoneType", "bool", "int", "str", "tuple", "list"] ∧ kitD t c = k := by
  cases d <;> cases c <;> cases e <;> exact ⟨_, rfl, by decide, by decide⟩
/-- a value of a type's name -/
theorem ty_of (c : Tag) : ClsV (.ty c.ty) (.type c.ty) := .ty _
theorem s_isi1 (S : Sx B X n) (hk : KitOk X.K) {x : Str} {c : Tag} (hi : BiName X "isinstance" (.builtin "isinstance")) (hx : BiName X x (.type c.ty)) (h : PE X a (tEvO B oa)) (hs : ∀ v q, a ≠ .Starred v q) :
    PE X (.Call (.Name "isinstance" p2) [a, .Name x p3] [] p) (tEv B (.isi oa [c])) :=
  PEimp (pe_callB call_isi hi.gl hi.mg hi.boot (pa_cons h (pa_cons (pe_bltn (v := .ty c.ty) hx.gl hx.mg hx.boot rfl hx.n1 hx.n2) pa_nil (starE fun _ _ z => by cases z)) (starE hs)) hi.n1 hi.n2 (starE hs) rfl) fun σ H Q ⟨F, I, L, env, fr, q⟩ => by
    refine ⟨F, I, L, env, fr, q.seq fun d L1 F1 I1 H1 v st1 w1 r1 h1 => ?_⟩
    obtain ⟨z, e, q⟩ := h1.opt
    obtain ⟨k, e1, rfl⟩ := Option.map_eq_some_iff.mp e
    have e2 : isTag (seen d L1) c = some k := by
      unfold isTags at e1
      split at e1
      · rename_i h; cases e1; exact h
      · rename_i h; cases e1; exact h
      · cases e1
    obtain ⟨t, ht, hm, hkk⟩ := tag_kit e2
    exact ⟨v, .ty c.ty, .type t, .type c.ty, k, rfl, ty_of c, by rw [S.K]; exact tyx (seen_rep w1 r1) ht, by rw [hk t hm c, hkk], q F1 I1 H1 _ Step.refl w1 (.bl k)⟩
end
end Wa

set_option Elab.async false
set_option linter.all false
set_option maxRecDepth 100000
set_option maxHeartbeats 4000000
/-! WaSort: sorted on data. -/
namespace Wa
open PySem PySem.Spec PyProof.Rows L2

mutual
theorem ordk_alike : ∀ (n : Nat) (a b : D), D.ordk n a b = true → PySem.W.alike a.py b.py = true
  | n, .non, b, h => by cases b <;> first | rfl | simp [D.ordk] at h
  | n, .bl _, b, h => by cases b <;> first | rfl | simp [D.ordk] at h
  | n, .int _, b, h => by cases b <;> first | rfl | simp [D.ordk] at h
  | n, .str _, b, h => by cases b <;> first | rfl | simp [D.ordk] at h
  | 0, .tup _, b, h => by cases b <;> simp [D.ordk] at h
  | n + 1, .tup xs, b, h => by
    cases b with
    | tup ys => exact ordks_alike n xs ys (by simpa [D.ordk] using h)
    | _ => simp [D.ordk] at h
  | 0, .lst _, b, h => by cases b <;> simp [D.ordk] at h
  | n + 1, .lst xs, b, h => by
    cases b with
    | lst ys => exact ordks_alike n xs ys (by simpa [D.ordk] using h)
    | _ => simp [D.ordk] at h
  | n, .dct _ _, b, h => by cases b <;> simp [D.ordk] at h
  | n, .ins _ _, b, h => by cases b <;> simp [D.ordk] at h
  | n, .ref _, b, h => by cases b <;> simp [D.ordk] at h
theorem ordks_alike : ∀ (n : Nat) (xs ys : List D), ordks n xs ys = true → PySem.W.alikeAll (pys xs) (pys ys) = true
  | n, [], _, h => by simp [pys, PySem.W.alikeAll]
  | n, _ :: _, [], h => by simp [pys, PySem.W.alikeAll]
  | n, x :: xs, y :: ys, h => by
    simp only [ordks, Bool.and_eq_true] at h
    show (PySem.W.alike x.py y.py && PySem.W.alikeAll (pys xs) (pys ys)) = true
    rw [ordk_alike n x y h.1, ordks_alike n xs ys h.2]
    rfl
end
mutual
theorem ordk_plain : ∀ (n : Nat) (a : D), D.ordk n a a = true → a.plain n = true
  | _, .non, _ => rfl
  | _, .bl _, _ => rfl
  | _, .int _, _ => rfl
  | _, .str _, _ => rfl
  | 0, .tup _, h => by simp [D.ordk] at h
  | n + 1, .tup xs, h => ordks_plain n xs (by simpa [D.ordk] using h)
  | 0, .lst _, h => by simp [D.ordk] at h
  | n + 1, .lst xs, h => ordks_plain n xs (by simpa [D.ordk] using h)
  | _, .dct _ _, h => by simp [D.ordk] at h
  | _, .ins _ _, h => by simp [D.ordk] at h
  | _, .ref _, h => by simp [D.ordk] at h
theorem ordks_plain : ∀ (n : Nat) (xs : List D), ordks n xs xs = true → plains n xs = true
  | _, [], _ => rfl
  | n, x :: xs, h => by
    simp only [ordks, Bool.and_eq_true] at h
    simp only [plains, ordk_plain n x h.1, ordks_plain n xs h.2, Bool.and_self]
end
mutual
theorem ordk_eqv : ∀ (n : Nat) (a b : D), D.ordk n a b = true → PyData.eqv a.py b.py = a.eqv b
  | n, .non, b, h => by cases b <;> first | rfl | simp [D.ordk] at h
  | n, .bl _, b, h => by cases b <;> first | rfl | simp [D.ordk] at h
  | n, .int _, b, h => by cases b <;> first | rfl | simp [D.ordk] at h
  | n, .str _, b, h => by cases b <;> first | (simp [D.ordk] at h; done) | exact tx_beq _ _
  | 0, .tup _, b, h => by cases b <;> simp [D.ordk] at h
  | n + 1, .tup xs, b, h => by
    cases b with
    | tup ys => exact ordks_eqv n xs ys (by simpa [D.ordk] using h)
    | _ => simp [D.ordk] at h
  | 0, .lst _, b, h => by cases b <;> simp [D.ordk] at h
  | n + 1, .lst xs, b, h => by
    cases b with
    | lst ys => exact ordks_eqv n xs ys (by simpa [D.ordk] using h)
    | _ => simp [D.ordk] at h
  | n, .dct _ _, b, h => by cases b <;> simp [D.ordk] at h
  | n, .ins _ _, b, h => by cases b <;> simp [D.ordk] at h
  | n, .ref _, b, h => by cases b <;> simp [D.ordk] at h
theorem ordks_eqv : ∀ (n : Nat) (xs ys : List D), ordks n xs ys = true → PyData.eqvAll (pys xs) (pys ys) = eqvs xs ys
  | n, [], [], _ => rfl
  | n, [], _ :: _, _ => rfl
  | n, _ :: _, [], _ => rfl
  | n, a :: as, b :: bs, h => by
    simp only [ordks, Bool.and_eq_true] at h
    show (PyData.eqv a.py b.py && PyData.eqvAll (pys as) (pys bs)) = (a.eqv b && eqvs as bs)
    rw [ordk_eqv n a b h.1, ordks_eqv n as bs h.2]
end
mutual
theorem ordk_lt : ∀ (n : Nat) (a b : D), D.ordk n a b = true → PySem.W.dataLt a.py b.py = a.ltb b
  | n, .non, b, h => by
    cases b with
    | non => exact lex_irrefl (O := itemOrd) _
    | _ => simp [D.ordk] at h
  | n, .bl x, b, h => by
    cases b with
    | bl y => exact (PySem.W.dataLt_bool x y).trans (by cases x <;> cases y <;> rfl)
    | _ => simp [D.ordk] at h
  | n, .int _, b, h => by
    cases b with
    | int y => exact PySem.W.dataLt_int _ _
    | _ => simp [D.ordk] at h
  | n, .str x, b, h => by
    cases b with
    | str y => exact PySem.W.dataLt_str _ _
    | _ => simp [D.ordk] at h
  | 0, .tup _, b, h => by cases b <;> simp [D.ordk] at h
  | n + 1, .tup xs, b, h => by
    cases b with
    | tup ys => exact (PySem.W.dataLt_tuple _ _).trans (ordks_lt n xs ys (by simpa [D.ordk] using h))
    | _ => simp [D.ordk] at h
  | 0, .lst _, b, h => by cases b <;> simp [D.ordk] at h
  | n + 1, .lst xs, b, h => by
    cases b with
    | lst ys => exact (PySem.W.dataLt_list _ _).trans (ordks_lt n xs ys (by simpa [D.ordk] using h))
    | _ => simp [D.ordk] at h
  | n, .dct _ _, b, h => by cases b <;> simp [D.ordk] at h
  | n, .ins _ _, b, h => by cases b <;> simp [D.ordk] at h
  | n, .ref _, b, h => by cases b <;> simp [D.ordk] at h
theorem ordks_lt : ∀ (n : Nat) (xs ys : List D), ordks n xs ys = true → PyProof.Rows.lexLt itemOrd (PySem.W.keyToksAll (pys xs)) (PySem.W.keyToksAll (pys ys)) = ltbs xs ys
  | n, [], [], _ => lex_irrefl (O := itemOrd) _
  | n, [], y :: ys, _ => by
    show PyProof.Rows.lexLt itemOrd [Sum.inl 0] (PySem.W.keyToksAll (y.py :: pys ys)) = true
    rw [PySem.W.toks_all_cons, lex_diff (O := itemOrd) (by simp)]
    rfl
  | n, x :: xs, [], _ => by
    show PyProof.Rows.lexLt itemOrd (PySem.W.keyToksAll (x.py :: pys xs)) [Sum.inl 0] = false
    rw [PySem.W.toks_all_cons, lex_diff (O := itemOrd) (by simp)]
    rfl
  | n, x :: xs, y :: ys, h => by
    simp only [ordks, Bool.and_eq_true] at h
    have al := ordk_alike n x y h.1
    show PyProof.Rows.lexLt itemOrd (PySem.W.keyToksAll (x.py :: pys xs)) (PySem.W.keyToksAll (y.py :: pys ys)) = if D.eqv x y then ltbs xs ys else D.ltb x y
    cases e : D.eqv x y with
    | true =>
      rw [PySem.W.dataLt_all_yes al (by rw [ordk_eqv n x y h.1]; exact e), if_pos rfl]
      exact ordks_lt n xs ys h.2
    | false =>
      rw [PySem.W.dataLt_all_no al (by rw [ordk_eqv n x y h.1]; exact e), if_neg (by simp)]
      exact ordk_lt n x y h.1
end
/-! ### the sorted list -/
abbrev leD : D → D → Bool := PySem.W.dataLe false D.py
theorem leD_eq (a b : D) : leD a b = !PySem.W.dataLt b.py a.py := rfl
theorem insR_app (x : D) : ∀ {l₁ l₂ : List D}, (∀ b ∈ l₁, D.ltb b x = true) → (∀ y ∈ l₂.head?, D.ltb y x = false) → sortD.insR x (l₁ ++ l₂) = l₁ ++ x :: l₂
  | [], [], _, _ => rfl
  | [], y :: l₂, _, h => by
    show (if D.ltb y x then y :: sortD.insR x l₂ else x :: y :: l₂) = x :: y :: l₂
    rw [h y rfl]
    rfl
  | b :: l₁, l₂, h, h2 => by
    show (if D.ltb b x then b :: sortD.insR x (l₁ ++ l₂) else x :: b :: (l₁ ++ l₂)) = b :: (l₁ ++ x :: l₂)
    rw [h b List.mem_cons_self, if_pos rfl, insR_app x (fun c m => h c (List.mem_cons_of_mem _ m)) h2]
theorem sortD_merge : ∀ (xs : List D), (∀ x ∈ xs, ∀ y ∈ xs, PySem.W.dataLt x.py y.py = D.ltb x y) → xs.mergeSort leD = sortD xs
  | [], _ => by simp [sortD]
  | x :: xs, h => by
    have T := PySem.W.sortLe_total (listOrd itemOrd) false fun b : D => PySem.W.keyToks b.py
    obtain ⟨l₁, l₂, e1, e2, e3⟩ := List.mergeSort_cons (le := leD) (fun a b c => T.trans a b c) (fun a b => by rcases T.total a b with q | q <;> (rw [Bool.or_eq_true]; first | exact .inl q | exact .inr q)) x xs
    have srt := PySem.W.sort_pairwise T (x :: xs)
    change (List.mergeSort (x :: xs) leD).Pairwise _ at srt
    rw [e1] at srt
    have mem : ∀ y, y ∈ l₁ ++ l₂ → y ∈ xs := fun y m => by
      rw [← e2] at m
      exact List.mem_mergeSort.mp m
    rw [e1]
    show _ = sortD.insR x (sortD xs)
    rw [← sortD_merge xs fun a ha b hb => h a (List.mem_cons_of_mem _ ha) b (List.mem_cons_of_mem _ hb), e2]
    refine (insR_app x (fun b hb => ?_) fun y hy => ?_).symm
    · have q := e3 b hb
      rw [leD_eq] at q
      rw [← h b (List.mem_cons_of_mem _ (mem b (List.mem_append_left _ hb))) x List.mem_cons_self]
      simpa using q
    · have ym : y ∈ l₂ := by
        cases l₂ with
        | nil => simp at hy
        | cons z l₂ => simp at hy; subst hy; exact List.mem_cons_self
      have q := (List.pairwise_cons.mp (List.pairwise_append.mp srt).2.1).1 y ym
      rw [← h y (List.mem_cons_of_mem _ (mem y (List.mem_append_right _ ym))) x List.mem_cons_self]
      have q2 : leD x y = true := q
      rw [leD_eq] at q2
      simpa using q2
theorem okSort_of {xs : List D} (h : okSort xs = true) : (∀ x ∈ xs, x.tup1 = true) ∨ (∀ x ∈ xs, x.notup = true) := by
  unfold okSort at h
  simp only [Bool.and_eq_true, Bool.or_eq_true, List.all_eq_true] at h
  exact h.1
theorem okSort_ord {xs : List D} (h : okSort xs = true) : ∀ x ∈ xs, ∀ y ∈ xs, D.ordk deep x y = true := by
  unfold okSort at h
  simp only [Bool.and_eq_true, List.all_eq_true] at h
  exact h.2
section
variable {B : Bd} {X : Cx} {n : Nat} {ro : Bool} {T : View} {F : Addr → Prop} {I : List Addr} {H : Hp} {s : Shared} {pins : List (Addr × Obj)} {σ : L2.St}
theorem each_reads (J : Inv X pins σ H s) (hK : X.K = T.K) : ∀ {ds : List D} {vs : List V} {us : List Value}, (∀ d ∈ ds, d.plain deep = true) → Reps T F I H ds vs → Vals vs us →
    PySem.W.EachIs (fun v d => ∃ as, Reads s.heap v d as) us (ds.map D.py)
  | [], _, _, _, h, r => by cases h; cases r; exact .nil
  | d :: ds, _, _, hp, h, r => by
    cases h with
    | cons h1 hs =>
      cases r with
      | cons r1 rs =>
        refine .cons ?_ (each_reads J hK (fun d m => hp d (List.mem_cons_of_mem _ m)) hs rs)
        obtain ⟨q, _⟩ := Rep.dp deep (hp d List.mem_cons_self) h1
        rw [← hK] at q
        exact Dp.reads J _ _ _ q r1
theorem each_rep : ∀ {ds : List D} {vs : List V} {us : List Value}, Reps T F I H ds vs → Vals vs us → PySem.W.EachIs (fun v d => ∃ x, RelV x v ∧ Rep T F I H d x) us ds
  | [], _, _, h, r => by cases h; cases r; exact .nil
  | d :: ds, _, _, h, r => by
    cases h with
    | cons h1 hs =>
      cases r with
      | cons r1 rs => exact .cons ⟨_, r1, h1⟩ (each_rep hs rs)
theorem rep_each : ∀ {ds : List D} {us : List Value}, PySem.W.EachIs (fun v d => ∃ x, RelV x v ∧ Rep T F I H d x) us ds → ∃ vs, Reps T F I H ds vs ∧ Vals vs us
  | [], _, h => by cases h; exact ⟨[], .nil, .nil⟩
  | d :: ds, _, h => by
    cases h with
    | cons h1 hs =>
      obtain ⟨x, r, p⟩ := h1
      obtain ⟨vs, ps, rs⟩ := rep_each hs
      exact ⟨x :: vs, .cons p ps, .cons r rs⟩
theorem sortable {ds : List D} (o : ∀ x ∈ ds, ∀ y ∈ ds, D.ordk deep x y = true) (h : (∀ x ∈ ds, x.tup1 = true) ∨ (∀ x ∈ ds, x.notup = true)) : PySem.W.Sortable (ds.map D.py) := by
  rcases h with h | h
  · refine .inl fun d m => ?_
    obtain ⟨x, hx, rfl⟩ := List.mem_map.mp m
    have q := h x hx
    cases x with
    | tup xs =>
      cases xs with
      | nil => cases q
      | cons y ys => exact ⟨_, _, rfl⟩
    | _ => cases q
  · refine .inr fun d m => ?_
    obtain ⟨x, hx, rfl⟩ := List.mem_map.mp m
    have q := h x hx
    have q2 := o x hx x hx
    cases x <;> first | (cases q; done) | (cases q2; done) | (exact ⟨(by intro z; cases z), (by intro _ z; cases z)⟩)
open PySem.W PySem.Calls in
/-- as kdu_collect, and the heap has grown -/
theorem collect_grown {prog : Program} {w : World} {A : Around} {E : Value → Shared → Prop} {T : String} {r d : Addr} {n : Nat} {P : Nat → Value → Prop} {OK : Heap → Prop} {R : List Value → Shared → Prop} (K : PySem.W.KdlSrc prog w T r d n P OK) (hh : A.handled = none) (hok : OK s.heap) (hn : n ≤ sizeLine)
    (h : ∀ (h' : Heap) (tk : Nat) (acc : Array Value), (∀ b o, s.heap.get? b = some o → h'.get? b = some o) → s.heap.objs.size < h'.objs.size → ItemsOf P acc n → R acc.toList { s with heap := h', toks := tk }) :
    wpAny (model prog w) A (collect (.ref r)) R E s := by
  have hlt := K.there _ hok
  unfold collect
  refine wpAny_bind (wpAny_runValue (codeAny_builtin entry_proto_collect' ?_))
  rw [Around.under_plainId PySem.F.plain_proto_collect _]
  show wpAny _ A.in1 (newList [] >>= fun l => again (.builtin "list.__iadd__" ⟨[l, .ref r], []⟩)) _ _ s
  refine wpAny_bind (wpAny_newObj_type ?_)
  refine wpAny_pure ⟨plainId_quiet PySem.F.plain_list_iadd _, codeAny_builtin entry_list_iadd' ?_⟩
  rw [Around.under_plainId PySem.F.plain_list_iadd _]
  have hS₁ : (s.heap.push { cls := .type "list", data := .seq ([] : List Value).toArray }).get? s.heap.objs.size = some { cls := .type "list", data := .seq #[] } := Heap.get?_push_size _ rfl
  show wpAny _ A.in1 (Builtin.List.listExtendWith (.ref s.heap.objs.size) (.ref r) (.ref s.heap.objs.size)) _ _ _
  have key := PySem.W.kdl_extend (A := A) (s := { s with heap := s.heap.push { cls := .type "list", data := .seq ([] : List Value).toArray } })
    (R := fun (q : Result) (s' : Shared) => ∃ (h' : Heap) (tk : Nat) (acc' : Array Value) (c' : Nat), q = .ok (.ret (.ref s.heap.objs.size)) ∧ s' = { s with heap := h', toks := tk } ∧
      (∀ b o, s.heap.get? b = some o → h'.get? b = some o) ∧ h'.get? s.heap.objs.size = some { cls := .type "list", dict := none, data := .seq acc' c', slots := #[] } ∧ ItemsOf P acc' n)
    K hh (K.keep _ _ hok fun b _ o e => Heap.get?_push_of_some _ e) s.heap.objs.size (Nat.ne_of_gt hlt.1) (Nat.ne_of_gt hlt.2) (.ref s.heap.objs.size) 0 hS₁
    (fun h' tk acc' c' hk hS' hacc => ⟨h', tk, acc', c', rfl, rfl, fun b o e => hk b o (Nat.ne_of_lt (Heap.lt_size e)) (Heap.get?_push_of_some _ e), hS', hacc⟩) hn
  refine wpAny_mono key (fun fin s' x => ?_) fun e s' x => ?_
  · cases fin with
    | done f =>
      obtain ⟨h', tk, acc', c', e, rfl, hk, hS', hacc⟩ := x
      cases e
      show wpAny _ A (load s.heap.objs.size >>= _) _ _ _
      refine wpAny_bind (wpAny_load hS' ?_)
      exact wpAny_pure (h h' tk acc' hk (Heap.lt_size hS') hacc)
    | again c₁ =>
      refine ⟨x.1, codeAny_mono x.2 fun q s₂ y => ?_⟩
      obtain ⟨h', tk, acc', c', rfl, rfl, hk, hS', hacc⟩ := y
      show wpAny _ A (load s.heap.objs.size >>= _) _ _ _
      refine wpAny_bind (wpAny_load hS' ?_)
      exact wpAny_pure (h h' tk acc' hk (Heap.lt_size hS') hacc)
  · obtain ⟨_, _, _, _, e', _⟩ := x
    cases e'
/-- what can be collected as vs -/
abbrev Collects (prog : Program) (w : World) (A : Around) (s : Shared) (src : Value) (vs : List Value) : Prop := ∀ {Q' : List Value → Shared → Prop} {E' : Value → Shared → Prop}, (∀ (h' : Heap) (tk : Nat), (∀ b o, s.heap.get? b = some o → h'.get? b = some o) → s.heap.objs.size ≤ h'.objs.size → Q' vs { s with heap := h', toks := tk }) → wpAny (model prog w) A (collect src) Q' E' s
open PySem.W PySem.Calls in
/-- sorted of what can be collected -/
theorem sorted_src {w : World} {prog : Program} {A : Around} {E : Value → Shared → Prop} {src : Value} {vs : List Value} {κ : Heap → PyProof.Rows.KeyKind} {Q : Value → Shared → Prop}
    (hc : Collects prog w A.in1 s src vs)
    (hL : vs.length ≤ sizeLine) (ha1 : argsOk "sorted" ⟨[src], []⟩)
    (S : ∀ (h' : Heap) (tk : Nat), (∀ b o, s.heap.get? b = some o → h'.get? b = some o) → PySem.W.SortsAt prog w A.in1.in1 { s with heap := h', toks := tk } (κ h') vs)
    (h : ∀ (h' h2 : Heap) (tk : Nat) (p : Addr) (e : Nat), s.heap.objs.size ≤ p → (∀ b o, s.heap.get? b = some o → h'.get? b = some o) → (∀ b o, s.heap.get? b = some o → h2.get? b = some o) → h'.get? p = some (seqObj "list" (PySem.W.sortVals (κ h2) false vs vs).toArray e) → Q (.ref p) { s with heap := h', toks := tk }) :
    wpAny (model prog w) A (call (.builtin "sorted") [src] []) Q E s := by
  refine call_function_entry_kw kind_sorted plain_sorted entry_sorted ha1 ?_
  unfold Builtin.«sorted»
  refine wpAny_bind (m := checkCount "sorted" 1 1 _) (wpAny_pure ?_)
  refine wpAny_bind (hc fun h' tk keep sz => ?_)
  refine wpAny_bind (wpAny_newList ?_ hL)
  have hd : (h'.push (seqObj "list" vs.toArray 0)).get? h'.objs.size = some (seqObj "list" vs.toArray 0) := Heap.get?_push_size _ rfl
  have k2 : ∀ b o, s.heap.get? b = some o → (h'.push (seqObj "list" vs.toArray 0)).get? b = some o := fun b o e => Heap.get?_push_of_some _ (keep b o e)
  have k3 : ∀ b o, s.heap.get? b = some o → b ≠ h'.objs.size := fun b o e => Nat.ne_of_lt (Heap.lt_size (keep b o e))
  show wpAny _ _ _ _ _ { s with heap := h'.push (seqObj "list" vs.toArray 0), toks := tk }
  refine wpAny_bind (wpAny_holding (wpAny_call_entry_kw slot_list_sort ⟨_, hd, rfl⟩ entry_list_sort ?body (args_list_sort _)))
  case body =>
    refine PySem.W.list_sort_vals (s := { s with heap := h'.push (seqObj "list" vs.toArray 0), toks := tk }) (κ := κ (PySem.W.sortingHeap (h'.push (seqObj "list" vs.toArray 0)) h'.objs.size vs)) hd (S _ _ fun b o e => PySem.W.sortingHeap_old (k3 b o e) (k2 b o e)) hL ?_
    refine ⟨_, rfl, wpAny_pure ⟨_, rfl, ?_⟩⟩
    obtain ⟨e, he⟩ := sortedHeap_at (out := (PySem.W.sortVals (κ (PySem.W.sortingHeap (h'.push (seqObj "list" vs.toArray 0)) h'.objs.size vs)) false vs vs).toArray) hd
    refine h _ _ tk h'.objs.size e sz (fun b o q => ?_) (fun b o e => PySem.W.sortingHeap_old (k3 b o e) (k2 b o e)) he
    show (sortedHeap _ _ _ _).get? b = some o
    rw [sortedHeap_old (k3 b o q) (by show b < (Heap.push _ _).objs.size; rw [Heap.size_push]; exact Nat.lt_succ_of_lt (Heap.lt_size (keep b o q)))]
    exact k2 b o q
theorem pys_depth {ds : List D} (pl : ∀ d ∈ ds, d.plain deep = true) : ∀ d ∈ ds.map D.py, d.depth ≤ deep := fun d m => by
  obtain ⟨x, hx, rfl⟩ := List.mem_map.mp m
  exact plain_deep deep x (pl x hx)
theorem kept_each {h h' : Heap} (k : ∀ b o, h.get? b = some o → h'.get? b = some o) : ∀ {us : List Value} {ds : List PyData}, PySem.W.EachIs (fun v d => ∃ as, Reads h v d as) us ds → PySem.W.EachIs (fun v d => ∃ as, Reads h' v d as) us ds := fun h => h.mono fun v d ⟨as, r⟩ => ⟨as, PyProof.Rows.Reads.keeps k r⟩
theorem sort_end (J : Inv X pins σ H s) (hK : X.K = T.K) (hu : X.A.units + 60 < cLine) {src : Value} {ds : List D} {zs : List V} {us : List Value} {Q : VK} (ok : okSort ds = true) (rs : Reps T F I H ds zs) (rv : Vals zs us)
    (hc : Collects X.prog X.w X.A.in1 s src us) (ha1 : argsOk "sorted" ⟨[src], []⟩)
    (hL : us.length ≤ sizeLine) (q : ∀ p us', H p = none → Reps T F I H (sortD ds) us' → Q (.ref p) (upd H p (.lst us'))) : wpAny (model X.prog X.w) X.A (call (.builtin "sorted") [src] []) (EP X pins σ Q) X.xe s := by
  have ord := okSort_ord ok
  have pl : ∀ d ∈ ds, d.plain deep = true := fun d m => ordk_plain _ _ (ord d m d m)
  have al : PySem.W.AllAlike (ds.map D.py) := fun a ha b hb => by
    obtain ⟨x, hx, rfl⟩ := List.mem_map.mp ha
    obtain ⟨y, hy, rfl⟩ := List.mem_map.mp hb
    exact ordk_alike _ _ _ (ord x hx y hy)
  have er := each_reads J hK pl rs rv
  refine sorted_src (κ := fun h => PySem.W.dataKind h (ds.map D.py)) hc hL ha1 (fun h' tk k => PySem.W.SortsAt.data (s := { s with heap := h', toks := tk }) (kept_each k er) al (sortable ord (okSort_of ok)) fun d m => ?_) fun h' h2 tk p e hp k k2 ho => ?_
  · have := pys_depth pl d m
    show X.A.units + 1 + 1 + d.depth < cLine
    unfold deep at this
    omega
  · have e1 := PySem.W.sortVals_each (κ := PySem.W.dataKind h2 (ds.map D.py)) (rev := false) (fun b : D => PySem.W.keyToks b.py) (each_rep rs rv) (PySem.W.each_of_map D.py (PySem.W.each_keys al (kept_each k2 er)))
    have e2 : PySem.W.EachIs (fun v d => ∃ x, RelV x v ∧ Rep T F I H d x) (PySem.W.sortVals (PySem.W.dataKind h2 (ds.map D.py)) false us us) (sortD ds) := by
      have := sortD_merge ds fun x hx y hy => ordk_lt _ _ _ (ord x hx y hy)
      rw [← this]
      exact e1
    obtain ⟨vs, r1, r2⟩ := rep_each e2
    have hl : (PySem.W.sortVals (PySem.W.dataKind h2 (ds.map D.py)) false us us).length = us.length := PySem.W.sortVals_length false rfl
    exact ⟨.ref p, upd H p (.lst vs), J.laid k hp ⟨by rw [r2.length, hl]; exact hL, _, e, r2, ho⟩, rfl, q p vs (J.hok.fresh hp) r1⟩
theorem sorted_data (hc : X.calm = true) (hK : X.K = T.K) (hw : T.w = X.w) (hu : X.A.units + 60 < cLine) : CallR X (.builtin "sorted") (rBF ro T .sorted) := by
  rintro pins s σ H xs us Q J rv ⟨F, I, L, x, v, d, w, rfl, r, e, q⟩
  have qq : ∀ {ys : List D}, d = .lst ys → ∀ p us', H p = none → Reps T F I H ys us' → Q (.ref p) (upd H p (.lst us')) := fun {ys} e p us' h1 h2 => by
    rcases q with ⟨ys', e', q⟩ | ⟨ks, vs, e', _⟩
    · rw [e] at e'; cases e'; exact q p us' _ h1 h2 rfl
    · rw [e] at e'; cases e'
  cases x with
  | lst ys =>
    have e' : (if okSort ys then some (D.lst (sortD ys)) else none) = some d := e
    split at e'
    · rename_i ok
      cases e'
      obtain ⟨p, zs, rfl, h1, h2⟩ := r.lst
      cases rv with
      | cons r1 r0 =>
        cases r0
        obtain rfl := r1
        obtain ⟨z, its, nn, rr, hl, eo⟩ := Rd.its J h1
        refine sort_end J hK hu ok h2 rr (fun {Q' E'} k => collect_list (A := X.A.in1) (l := p) (vs := its) ⟨_, eo, rfl, nn, rfl⟩ (k _ s.toks (fun b o e => ?_) ?_) (by omega)) (args_sorted1 _) (by omega) (qq rfl)
        · rw [Heap.get?_update_ne _ _ _ _ (Nat.ne_of_lt (Heap.lt_size e))]
          exact Heap.get?_push_of_some _ e
        · rw [Heap.size_update, Heap.size_push]
          exact Nat.le_succ _
    · cases e'
  | dct ks vs =>
    have e' : (if okSort ks then some (D.lst (sortD ks)) else none) = some d := e
    split at e'
    · rename_i ok
      cases e'
      obtain ⟨p, rfl, h⟩ := r.dct
      obtain ⟨es, ep, zs, hp, raw, h1, h2, h3, h4⟩ := dict_src J hK hw h
      cases rv with
      | cons r1 r0 =>
        cases r0
        obtain rfl := r1
        have key : ∀ acc : Array Value, ItemsOf (fun i v => ∃ hi : i < es.size, v = es[i].key) acc es.size → acc = es.map (·.key) := fun acc it => by
          refine Array.ext (by rw [Array.size_map]; exact it.1) fun j j1 j2 => ?_
          obtain ⟨hi, e⟩ := it.2 j acc[j] (Array.getElem?_eq_getElem j1)
          rw [e, Array.getElem_map]
        have vz : Vals zs (es.map (·.key)).toList := h4 _ ⟨by rw [Array.size_map], fun j v e => by
          rw [Array.getElem?_map] at e
          cases ej : es[j]? with
          | none => rw [ej] at e; cases e
          | some x =>
            rw [ej] at e
            cases e
            obtain ⟨hi, ex⟩ := Array.getElem?_eq_some_iff.mp ej
            exact ⟨hi, by rw [ex]⟩⟩
        have hl : (es.map (·.key)).toList.length ≤ sizeLine := by rw [Array.length_toList, Array.size_map, h1]; exact h2
        refine sort_end J hK hu ok h3 vz (fun {Q' E'} k => collect_grown (A := X.A.in1) (KdlSrc.rawDict hp) (J.ok.hd hc) raw (by rw [h1]; exact h2) fun h' tk acc kk sz it => ?_) (args_sorted1 _) hl (qq rfl)
        rw [key acc it]
        exact k h' tk kk (Nat.le_of_lt sz)
    · cases e'
  | _ => cases e
end
end Wa

set_option Elab.async false
set_option linter.all false
set_option maxRecDepth 100000
set_option maxHeartbeats 4000000
/-! WaBm: methods that answer. -/
namespace Wa
open PySem PySem.Spec PyProof.Rows L2

def Bm.name : Bm → Str
  | .index => "index"
  | .count => "count"
  | .get1 => "get"
  | .get2 => "get"
def tBX (X : Cx) (name : Str) (to : TE) (t : TA) : TE := fun σ H Q => to σ H fun x H1 => ∃ T id r, PlainAttrs T ∧ Slot T name id ∧ (typeOf (.builtin id) = pure (.type "method_descriptor")) ∧ MtR X id r ∧ TyS X T x H1 ∧ t σ H1 fun xs H2 => r x xs H2 Q
theorem pe_bmX {X : Cx} {o e : Expr} {es : List Expr} {to : TE} {t : TA} {name : Str} {apos cpos : Pos}
    (ho : PE X o to) (ha : PA X (e :: es) t) (hbase : attributeBase o name X.env (eval o X.env) = eval o X.env)
    (hfew : ((backTo cpos (starEach (e :: es) X.env)).all (fun x => !x.1) && (backToKw cpos (keywordEach [] X.env)).all (fun x => x.1.isSome) && decide ((e :: es).length + ([] : List Keyword).length + (if ([] : List Keyword).isEmpty then 0 else 1) < 30)) = true)
    (hline : (apos.endLine == cpos.line) = true) (hs : starEach (e :: es) X.env = (false, eval e X.env) :: starEach es X.env) (hplain : ((backTo cpos (starEach es X.env)).any fun x => x.1) = false) :
    PE X (.Call (.Attribute o name apos) (e :: es) [] cpos) (tBX X name to t) :=
  ⟨fun pins s σ H Q I h => wpAny_Call_method_late hbase hfew hline rfl (thn (ho.run pins s σ H _ I h) fun v s1 ⟨x, H1, I1, r1, T, id, r, pa, slot, hty, hm, ty, q1⟩ => by
    obtain ⟨h1, h2⟩ := ty pins s1 σ v I1 r1
    refine ⟨T, id, pa, slot, hty, h1, h2, ?_⟩
    have hA := ha.run cpos pins s1 σ H1 (fun xs H2 => r x xs H2 Q) I1 q1
    rw [hs] at hA ⊢
    have hp : (false || ((backTo cpos (starEach es X.env)).any fun x => x.1)) = false := by rw [hplain]; rfl
    exact Calls.callWith_builtin hp (Calls.evalArgs_plain (thn hA fun us s2 ⟨vs, H2, I2, r2, q2⟩ => hm pins s2 σ H2 x vs v us Q I2 r1 r2 q2)))⟩
section
variable {B : Bd} {X : Cx} {n : Nat} {e a b : Expr} {es : List Expr} {p p2 apos : Pos} {oa : CO} {os : COs}
theorem tyS_lst {H : Hp} {q : Addr} {xs : List V} (h : Rd H q (.lst xs)) : TyS X "list" (.ref q) H := fun pins s σ v J rv => by
  obtain rfl := rv
  have ty : tyV X.K "list" (.ref q) H := .inl ⟨rfl, xs, .inl h⟩
  exact tyV_is J (show L2.RelV (.ref q) (.ref q) from rfl) ty
theorem bmk_lst {d : D} (h : bmk d = 1) : ∃ xs, d = .lst xs := by
  cases d <;> first | exact ⟨_, rfl⟩ | (simp [bmk] at h)
theorem idx_first : ∀ {x : D} {xs : List D} {j : Nat}, idxOf x xs = some j → ∃ z, xs[j]? = some z ∧ D.eqv z x = true ∧ ∀ (m : Nat) z', m < j → xs[m]? = some z' → D.eqv z' x = false
  | x, [], j, h => by simp [idxOf] at h
  | x, y :: ys, j, h => by
    unfold idxOf at h
    by_cases e : D.eqv y x = true
    · rw [if_pos e] at h
      cases h
      exact ⟨y, rfl, e, fun m z' hm => absurd hm (Nat.not_lt_zero m)⟩
    · rw [if_neg e] at h
      obtain ⟨k, hk, rfl⟩ := Option.map_eq_some_iff.mp h
      obtain ⟨z, h1, h2, h3⟩ := idx_first hk
      refine ⟨z, by simpa using h1, h2, fun m z' hm hz => ?_⟩
      cases m with
      | zero =>
        simp at hz
        subst hz
        simpa using e
      | succ m => exact h3 m z' (by omega) (by simpa using hz)
theorem plains_mem {n : Nat} : ∀ {ds : List D}, plains n ds = true → ∀ w ∈ ds, D.plain n w = true
  | d :: ds, h, w, m => by
    simp only [plains, Bool.and_eq_true] at h
    rcases List.mem_cons.mp m with rfl | m
    · exact h.1
    · exact plains_mem h.2 w m
theorem s_bm (S : Sx B X n) (m : Bm) (ha : PE X a (tEvO B oa)) (hb : PA X (e :: es) (tEvOs B os)) (hba : ∀ x q q', a ≠ .Call (.Name x q) [] [] q') (sc : StmCall apos p2 (e :: es)) :
    PE X (.Call (.Attribute a m.name apos) (e :: es) [] p2) (tEv B (.bm m oa os)) :=
  PEimp (pe_bmX ha hb (abase hba) (few_ok sc.star sc.few) sc.line (starE (sc.star e List.mem_cons_self)) (noStar fun y m => sc.star y (List.mem_cons_of_mem _ m))) fun σ H Q ⟨F, I, L, env, fr, q⟩ => by
    have q' : B.post σ F I H (rE B) ((evO B.G oa env L).bind fun x L1 => if bmOk m (seen x L1) then (evOs B.G os env L1).bind fun xs L2 => if bmk (seen x L1) = bmk (seen x L2) then opt (bmD m (seen x L2) xs) L2 else .bad else .bad) Q := q
    refine ⟨F, I, L, env, fr, q'.seq fun x L1 F1 I1 H1 v st1 w1 r1 h1 => ?_⟩
    by_cases ok : bmOk m (seen x L1) = true
    case neg => rw [if_neg ok] at h1; exact h1.elim
    rw [if_pos ok] at h1
    have key : ∀ (T id : String) (r : V → List V → Hp → VK → Prop), PlainAttrs T → Slot T m.name id → (typeOf (.builtin id) = pure (.type "method_descriptor")) → MtR X id r → TyS X T v H1 →
        (∀ (xs : List D) L2 F2 I2 H2 vs, Wf B.T F2 I2 H2 L2 → RepV B.T F2 I2 H2 (seen x L2) v → RepQ B.T F2 I2 H2 os xs vs → bmk (seen x L1) = bmk (seen x L2) → B.post σ F2 I2 H2 (rE B) (opt (bmD m (seen x L2) xs) L2) Q → r v vs H2 Q) →
        ∃ T id r, PlainAttrs T ∧ Slot T m.name id ∧ (typeOf (.builtin id) = pure (.type "method_descriptor")) ∧ MtR X id r ∧ TyS X T v H1 ∧ tEvOs B os σ H1 fun xs H2 => r v xs H2 Q := fun T id r a1 a2 a3 a4 a5 k => by
      refine ⟨T, id, r, a1, a2, a3, a4, a5, F1, I1, L1, env, fr.step st1 w1, h1.seq fun xs L2 F2 I2 H2 vs st2 w2 r2 h2 => ?_⟩
      by_cases e : bmk (seen x L1) = bmk (seen x L2)
      · rw [if_pos e] at h2
        exact k xs L2 F2 I2 H2 vs w2 (seen_rep w2 (r1.step st2 w1)) r2 e h2
      · rw [if_neg e] at h2
        exact h2.elim
    have rv := seen_rep w1 r1
    cases m with
    | index =>
      obtain ⟨ds, ed⟩ := bmk_lst (by simpa [bmOk] using ok)
      rw [ed] at rv
      obtain ⟨p, zs, rfl, hz, rz⟩ := rv.lst
      refine key "list" "list.index" (rIndexD X.K) PySem.F.plainAttrs_list PySem.F.slot_list_index PySem.F.type_list_index (mt_indexD (by have := S.un; omega)) (tyS_lst hz) fun xs L2 F2 I2 H2 vs w2 rv2 r2 e h2 => ?_
      obtain ⟨d, e1, q1⟩ := h2.opt
      rw [ed] at e
      obtain ⟨ds2, ed2⟩ := bmk_lst e.symm
      rw [ed2] at e1 rv2
      match xs, r2, e1 with
      | [y], r2, e1 =>
        have e1 : (if D.plain deep y && D.plain deep (.lst ds2) then (idxOf y ds2).map fun (n : Nat) => D.int (n : Int) else none) = some d := e1
        split at e1
        · rename_i pl
          obtain ⟨p1, p2⟩ := Bool.and_eq_true_iff.mp pl
          obtain ⟨j, hj, rfl⟩ := Option.map_eq_some_iff.mp e1
          obtain ⟨u, us, os', rfl, ru, r0⟩ := r2.cons
          obtain rfl := r0.nil'
          obtain ⟨z, i1, i2, i3⟩ := idx_first hj
          obtain ⟨d1, d2⟩ := (RepV.dp p1 (.inl ru))
          obtain ⟨d3, d4⟩ := rv2.dp p2
          have pds : plains 39 ds2 = true := by simpa [D.plain, deep] using p2
          have pz : ∀ w ∈ ds2, D.plain 39 w = true := fun w m => plains_mem pds w m
          rw [S.K]
          refine ⟨p, u, y.py, pys ds2, j, z.py, rfl, rfl, d3, d1, d4, d2, ?_, ?_, fun m z' hm hz => ?_, q1 F2 I2 H2 _ Step.refl w2 (.int j)⟩
          · rw [pys_map, List.getElem?_map, i1]; rfl
          · rw [py_eqv 39 deep z y (pz z (List.mem_of_getElem? i1)) p1]; exact i2
          · rw [pys_map, List.getElem?_map] at hz
            obtain ⟨w, hw, rfl⟩ := Option.map_eq_some_iff.mp hz
            rw [py_eqv 39 deep w y (pz w (List.mem_of_getElem? hw)) p1]
            exact i3 m w hm hw
        · cases e1
      | [], _, e1 => cases e1
      | _ :: _ :: _, _, e1 => cases e1
    | _ => cases ok
end
end Wa

set_option Elab.async false
set_option linter.all false
set_option maxRecDepth 100000
set_option maxHeartbeats 4000000
/-! WaRef: an own exception that bears a word: __init__ calls the base's, then stores it. -/
namespace Wa
open PySem PySem.Spec PyProof.Rows L2

/-- the class at C is one of exceptions with a dict -/
def oexB (K : PySem.W.Frag) (C : Addr) : Bool := match K.lookup C with
  | some ⟨.type "type", _, .cls cd, sl⟩ => (match cd.mro, sl.toList with
    | .ref C' :: bm, [_, _, _, _, some (.builtin n), _] => C' == C && n == "ValueError.__new__" && !cd.hasDel && cd.hasDict && PySem.HandSPX.refsVE bm
    | _, _ => false)
  | _ => false
def eqOO {α : Type} [DecidableEq α] (a b : α) : Bool := decide (a = b)
/-- all that is asked of the class at C, with the __init__ at fI, whose base stands at W -/
def refB (K : PySem.W.Frag) (C fI W : Addr) : Bool :=
  oexB K C && He.eqO (PySem.W.findIn K (.ref C) "__setattr__") (some (some (.builtin "object.__setattr__"))) && decide (PySem.W.subIn K (.ref C) (.type "BaseException") = some true) && decide (PySem.W.typeIn K (.ref C) = some (.type "type")) && PySem.W.keepIn K (.ref C) &&
  He.eqO (PySem.W.findIn K (.ref C) "__init__") (some (some (.ref fI))) && decide (PySem.W.typeIn K (.ref fI) = some (.type "function")) && He.eqO (PySem.W.findIn K (.ref C) "word") (some none) &&
  PySem.W.readsIn K W (.type "type") && He.eqO (PySem.W.specialIn K (.ref W) "__getattribute__") (some (some (.builtin "type.__getattribute__"))) && (match PySem.W.findCls K (.ref W) (.type "type") "__init__" with
    | some (.val (.builtin n)) => n == "ValueError.__init__"
    | _ => false)
structure RefTxt (K : PySem.W.Frag) (C fI W : Addr) : Prop where
  oex : OexC K C
  iC : PySem.W.findIn K (.ref C) "__init__" = some (some (.ref fI))
  tI : PySem.W.typeIn K (.ref fI) = some (.type "function")
  no : PySem.W.findIn K (.ref C) "word" = some none
  rW : PySem.W.readsIn K W (.type "type") = true
  sW : PySem.W.specialIn K (.ref W) "__getattribute__" = some (some (.builtin "type.__getattribute__"))
  fW : PySem.W.findCls K (.ref W) (.type "type") "__init__" = some (.val (.builtin "ValueError.__init__"))
theorem oexB_ok {K : PySem.W.Frag} {C : Addr} (q : oexB K C = true) : ∃ nm q N bs bm sn sub ab col dd k0 k1 k2 k3 k5, K.lookup C = some (excClassObj nm q C N bs bm true sn sub ab col dd k0 k1 k2 k3 k5 "ValueError.__new__") ∧ PySem.HandSPX.refsVE bm = true := by
  unfold oexB at q
  split at q
  · rename_i dd cd sl ho
    split at q
    · rename_i C' bm k0 k1 k2 k3 n k5 hm hs
      simp only [Bool.and_eq_true, beq_iff_eq, Bool.not_eq_true'] at q
      obtain ⟨⟨⟨⟨rfl, rfl⟩, hdel⟩, hd⟩, ht⟩ := q
      obtain ⟨nm, bs, mro, ns, qn, hdd, sn, sub, ab, col, del⟩ := cd
      dsimp only at hm hdel hd
      subst hm hdel hd
      have hsl : sl = #[k0, k1, k2, k3, some (.builtin "ValueError.__new__"), k5] := by
        obtain ⟨l⟩ := sl
        simp only at hs
        rw [hs]
      subst hsl
      exact ⟨_, _, _, _, _, _, _, _, _, _, _, _, _, _, _, ho, ht⟩
    · cases q
  · cases q
theorem refB_ok {K : PySem.W.Frag} {C fI W : Addr} (h : refB K C fI W = true) : RefTxt K C fI W := by
  unfold refB at h
  simp only [Bool.and_eq_true, decide_eq_true_eq] at h
  obtain ⟨⟨⟨⟨⟨⟨⟨⟨⟨⟨h1, h2⟩, h3⟩, h4⟩, h5⟩, h6⟩, h7⟩, h8⟩, h9⟩, h10⟩, h11⟩ := h
  refine ⟨⟨oexB_ok h1, He.eqO_ok h2, h3, h4, h5⟩, He.eqO_ok h6, h7, He.eqO_ok h8, h9, He.eqO_ok h10, ?_⟩
  split at h11
  · rename_i n e
    rw [e, beq_iff_eq.mp h11]
  · cases h11
theorem mcall_ok {a : Expr} {m : Str} {apos p : Pos} {es : List Expr} {env : PySem.Env} (hb : ∀ x q q', a ≠ .Call (.Name x q) [] [] q') (hl : (apos.endLine == p.line) = true) (few : es.length < 29) (star : ∀ e ∈ es, ∀ v q, e ≠ .Starred v q) : MCall a m apos p es env := by
  refine ⟨do return (← importBound a env).getD true, ?_⟩
  have form : methodCallForm (es.length + 0) (backTo p (starEach es env)) (backToKw p (keywordEach [] env)) = true := few_ok star few
  show (do
    let ov ← attributeBase a m env (eval a env)
    standAt apos.atName
    methodCall a m apos p env ov (es.length + 0) (backTo p (starEach es env)) (backToKw p (keywordEach [] env))) = _
  rw [abase hb]
  unfold methodCall calleeOf methodCallPos
  rw [form]
  simp only [hl, Bool.not_true, Bool.false_or, if_true, pure_bind]
section
variable {X : Cx} {e : Expr} {es : List Expr} {ta : TA} {p p1 p2 pos : Pos}
/-- W.__init__(self, ..), W an own class that has ValueError's -/
theorem pe_winit {pl : Sem Bool} {x : Str} {W : Addr} (hg : Gl X x) (hm : X.mg x = some (.ref W)) (hdb : (x == ("__debug__" : Str)) = false) (rW : PySem.W.readsIn X.K W (.type "type") = true)
    (sW : PySem.W.specialIn X.K (.ref W) "__getattribute__" = some (some (.builtin "type.__getattribute__"))) (fW : PySem.W.findCls X.K (.ref W) (.type "type") "__init__" = some (.val (.builtin "ValueError.__init__"))) (ha : PA X (e :: es) ta)
    (hc : eval (.Call (.Attribute (.Name x p1) "__init__" p2) (e :: es) [] pos) X.env = (do
      let ov ← eval (.Name x p1) X.env
      standAt p2.atName
      let (f, first) ← holding [ov] (getMethod ov "__init__" pl)
      callWith pos f first (backTo pos (starEach (e :: es) X.env)) (backToKw pos (keywordEach [] X.env))) := by rfl)
    (he : starEach (e :: es) X.env = (false, eval e X.env) :: starEach es X.env := by rfl) (hpl : (backTo pos (starEach es X.env)).any (·.1) = false := by rfl) :
    PE X (.Call (.Attribute (.Name x p1) "__init__" p2) (e :: es) [] pos) (tVeI X.K ta) := by
  refine ⟨fun pins s σ H Q I h => ?_⟩
  refine PySem.W.methodCall_KW (ld_glob I hg hm ?_ hdb) hc
  refine PySem.W.method_cls I.kIn sW (PySem.W.cls_value I.kIn rW fW (by decide +kernel) ?_)
  show wpAny _ _ (callWith pos (Value.builtin "ValueError.__init__") [] (backTo pos (starEach (e :: es) X.env)) []) _ _ _
  refine PyProof.Rows.callWith_method1 (thn (ha.run pos pins _ σ H _ (I.tok _) h) fun us s1 ⟨vs, H1, I1, r1, a, C, ws, ev, hl, T, ea, q⟩ => ?_) he hpl
  subst ev
  cases r1 with
  | @cons _ u0 _ ur ra rw' =>
    obtain rfl : u0 = Value.ref a := ra
    have hlen : ur.length ≤ sizeLine := by
      rw [← Paired.length rw', sizeLine_eq]
      omega
    exact oinit_ok T I1 ea hlen fun s' J => ⟨.non, H1, J, rfl, q⟩
end
/-- what the __init__ promises -/
def spR (C : Addr) : Sp := fun vs H Q _ => ∃ a y, vs = [.ref a, y] ∧ H a = some (exo a C none) ∧ ∀ dx, H dx = none → dx ≠ a → Q .non (upd (upd H dx (exd dx [("word", y)])) a (exo a C (some dx)))
/-- the text of that __init__: WorldError.__init__(self, word); self.word = word -/
def refBody : List Stmt → Bool
  | [.Expr (.Call (.Attribute (.Name w _) i p1) [.Name s1 _, .Name x1 _] [] p9) _, .Assign [.Attribute (.Name s2 _) f _] (.Name x2 _) _] =>
    (p1.endLine == p9.line) && w == "WorldError" && i == "__init__" && s1 == "self" && x1 == "word" && s2 == "self" && f == "word" && x2 == "word"
  | _ => false
theorem ref_init {P : Program} {w : World} {K : PySem.W.Frag} {mg : Str → Option Value} {base : Heap} {C fI W : Addr} {fd : FuncData} {params : Arguments} {body : List Stmt} {scope : Scope} {x qual : Str} {dvs : List V} {kws : List (Str × V)} (T : RefTxt K C fI W) (gW : mg "WorldError" = some (.ref W))
    (F : FunD K x qual params body scope dvs kws fI fd) (hb : refBody body = true) (S : FnScope ["self", "word"] ["self", "word"] scope) (h1 : scope.names.lookup ("self" : Str) = some .local) (h2 : scope.names.lookup ("word" : Str) = some .local) (h3 : scope.names.lookup ("WorldError" : Str) = some .globalImplicit) :
    FnOk P w K mg base (L2.CX P w) 1 fI fd ["self", "word"] (spR C) := by
  refine F.ok (k := 0) S (fun vs H Q E ⟨a, y, e, _⟩ => by rw [e]; rfl) fun cdv A outer s H vs Q E hr hsp => ?_
  unfold refBody at hb
  split at hb
  · rename_i wn p0 i p1 s1 q1 x1 q2 q3 q4 s2 q5 f q6 x2 q7 q8
    simp only [Bool.and_eq_true, beq_iff_eq] at hb
    obtain ⟨⟨⟨⟨⟨⟨⟨hln, rfl⟩, rfl⟩, rfl⟩, rfl⟩, rfl⟩, rfl⟩, rfl⟩ := hb
    obtain ⟨pl, hm⟩ := mcall_ok (m := "__init__") (env := (cxOf (L2.CX P w) P w K mg base ["self", "word"] qual scope fI cdv A outer s H E).env) (a := .Name "WorldError" p0) (es := [.Name "self" q1, .Name "word" q2]) (by intro x q q' z; cases z) (beq_iff_eq.mpr hln) (by simp) (fun e m v q z => by simp only [List.mem_cons, List.not_mem_nil, or_false] at m; rcases m with rfl | rfl <;> cases z)
    have gl : Gl (cxOf (L2.CX P w) P w K mg base ["self", "word"] qual scope fI cdv A outer s H E) "WorldError" := by
      exact h3
    have v0 : ∀ q, PE (cxOf (L2.CX P w) P w K mg base ["self", "word"] qual scope fI cdv A outer s H E) (.Name "self" q) (tVar 0) := fun q => pe_var (i := 0) rfl (.inl h1) (by decide) (by decide)
    have v1 : ∀ q, PE (cxOf (L2.CX P w) P w K mg base ["self", "word"] qual scope fI cdv A outer s H E) (.Name "word" q) (tVar 1) := fun q => pe_var (i := 1) rfl (.inl h2) (by decide) (by decide)
    refine ⟨_, pss_cons (ps_expr (pe_winit (W := W) gl gW (by decide) T.rW T.sW T.fW (pa_cons (v0 _) (pa_cons (v1 _) pa_nil)) hm)) (pss_one (ps_ost (v0 _) (v1 _))), ?_⟩
    obtain ⟨a, y, rfl, ea, q⟩ := hsp
    refine ⟨_, rfl, _, rfl, a, C, [y], rfl, by simp, T.oex, ea, ?_⟩
    exact ⟨_, rfl, _, rfl, a, C, rfl, T.oex, T.no, .inl ⟨ea, q⟩⟩
  · cases hb
section
variable {B : Bd} {X : Cx} {n : Nat} {e : Expr} {p p2 p3 : Pos} {ca : CE}
/-- an own class of exceptions that bears a word -/
structure RefCls (B : Bd) (X : Cx) (n : Nat) (x : Str) (c : Nat) : Prop where
  gl : Gl X x
  mg : X.mg x = some (.ref (B.T.adr c))
  nd : (x == ("__debug__" : Str)) = false
  fl : B.T.flds c = [("word" : Str)]
  rs : Raises X (.ref (B.T.adr c))
  big : 2 ≤ n
  tx : ∃ fI W fd, RefTxt X.K (B.T.adr c) fI W ∧ FnOk X.prog X.w X.K X.mg X.base (L2.CX X.prog X.w) 1 fI fd ["self", "word"] (spR (B.T.adr c)) ∧ Binds X.K fd ["self", "word"] []
theorem s_raise1 (S : Sx B X n) (hc : X.calm = true) {c : Nat} {x : Str} (E : RefCls B X n x c) (h : PE X e (tEv B ca)) (hs : ∀ v q, e ≠ .Starred v q) : PS X (.Raise (some (.Call (.Name x p2) [e] [] p)) none p3) (tEx B (.raise c (.cons ca .nil))) := by
  obtain ⟨fI, W, fd, T, F, b⟩ := E.tx
  exact PSimp (ps_raise hc S.tk (pmk_oex T.oex T.iC T.tI F (S.room.mono E.big) b .nil (passes_call (E := fun _ _ _ => False) S.tk fun _ _ _ _ h => h.elim) E.gl E.mg (a_cons h a_nil hs) E.nd (starE hs) rfl)) fun D σ H ⟨F, I, L, env, fr, q⟩ => by
    have q' : PostS B D (within env (ev B.G ca env L) fun x L => .exc c [x] env L) := by
      have q0 : PostS B D (within env ((ev B.G ca env L).bind fun x L => .ok [x] L) fun xs L => .exc c xs env L) := q
      cases r : ev B.G ca env L with
      | ok x L1 => rw [r] at q0; exact q0
      | exc k vs L1 => rw [r] at q0; exact q0
      | bad => rw [r] at q0; exact q0
    refine ⟨F, I, L, env, fr, one_arg (withinS fr q' fun x L1 F1 I1 H1 v st fr1 ra h1 => ?_)⟩
    refine ⟨by simp, fun a0 ha0 => ⟨a0, v, rfl, upd_same, fun dx hdx ne => ⟨rfl, dx, [("word", v)], upd_same, ?_, ?_, ?_⟩⟩⟩
    · rw [upd_ne ne, upd_same]
    · rw [upd_ne ne] at hdx; exact hdx
    · have hd1 : H1 dx = none := by rw [upd_ne ne] at hdx; exact hdx
      have eH : upd (del (upd (upd (upd H1 a0 (exo a0 (B.T.adr c) none)) dx (exd dx [("word", v)])) a0 (exo a0 (B.T.adr c) (some dx))) a0) dx (.xd [("word", v)]) = upd H1 dx (.xd [("word", v)]) := by
        funext b
        by_cases h1 : b = dx
        · subst h1; rw [upd_same, upd_same]
        · rw [upd_ne h1, upd_ne h1]
          by_cases h2 : b = a0
          · subst h2; rw [del_same, ha0]
          · rw [del_ne h2, upd_ne h2, upd_ne h1, upd_ne h2]
      rw [eH]
      have st1 : Step B.G.ro noEx F1 I1 H1 F1 I1 (upd H1 dx (.xd [("word", v)])) := Step.laid hd1
      exact h1 F1 I1 _ σ _ (some dx) (fr1.step st1 (fr1.wf.laid hd1)) ⟨rfl, .inr ⟨dx, _, rfl, upd_same, by rw [E.fl]; rfl, .cons (ra.keeps (st1.keeps0 fr1.wf)) .nil⟩⟩
end
end Wa

set_option Elab.async false
set_option linter.all false
set_option maxRecDepth 100000
set_option maxHeartbeats 4000000
/-! WaTry: try .. except, several clauses, with names or without. -/
namespace Wa
open PySem PySem.Spec PyProof.Rows L2

structure Clause where
  c : Value
  nm : Option Nat
  ts : Addr → Value → Option Addr → TS
/-- the ends of a suite whose name is forgotten behind it -/
def Ends.gone (D : Ends) (i : Nat) : Ends := { nx := fun σ' H' => D.nx (σ'.set i none) H', rt := D.rt, bk := fun σ' H' => D.bk (σ'.set i none) H', ct := fun σ' H' => D.ct (σ'.set i none) H' }
def Clause.run (cl : Clause) (a : Addr) (cls : Value) (d : Option Addr) (D : Ends) (σ : L2.St) (H : Hp) : Prop := match cl.nm with
  | none => cl.ts a cls d D σ H
  | some i => cl.ts a cls d (Ends.gone D i) (σ.set i (some (.ref a))) H
def wMix (K : PySem.W.Frag) (Wout : WX) (D : Ends) : List Clause → WX
  | [] => Wout
  | cl :: r => fun cls d σ H => ∃ b, PySem.W.exmOne K cls cl.c = some b ∧ (b = true → ∀ a, H a = none → cl.run a cls d D σ H) ∧ (b = false → wMix K Wout D r cls d σ H)
inductive ClsOk (X : Cx) : List ExceptHandler → List Clause → Prop
  | nil : ClsOk X [] []
  | plain {x : Str} {c : Value} {ts : Addr → Value → Option Addr → TS} {b₀ : Stmt} {suite : List Stmt} {np pos' : Pos} {hds : List ExceptHandler} {l : List Clause} (hc : Names X x c)
      (hsu : ∀ (a : Addr) (oe : Obj) (cls : Value) (d : Option Addr) (pn : List (Addr × Obj)), Zc cls d oe → (∃ vs, oe.data = .fields vs) → PSs (X.suite a ((a, oe) :: pn)) (b₀ :: suite) (ts a cls d)) (r : ClsOk X hds l) :
      ClsOk X (.ExceptHandler (some (.Name x np)) none (b₀ :: suite) pos' :: hds) (⟨c, none, ts⟩ :: l)
  | named {x n : Str} {c : Value} {i : Nat} {ts : Addr → Value → Option Addr → TS} {b₀ : Stmt} {suite : List Stmt} {np pos' : Pos} {hds : List ExceptHandler} {l : List Clause} (hc : Names X x c) (hi : X.N[i]? = some n) (hln : X.env.kindOf n = some .local)
      (hsu : ∀ (a : Addr) (oe : Obj) (cls : Value) (d : Option Addr) (pn : List (Addr × Obj)), Zc cls d oe → (∃ vs, oe.data = .fields vs) → PSs (X.suite a ((a, oe) :: pn)) (b₀ :: suite) (ts a cls d)) (r : ClsOk X hds l) :
      ClsOk X (.ExceptHandler (some (.Name x np)) (some n) (b₀ :: suite) pos' :: hds) (⟨c, some i, ts⟩ :: l)
section
variable {X : Cx} {pins : List (Addr × Obj)} {D : Ends} {Wout : WX}
/-- what is known where an exception is looked at -/
structure Caught (X : Cx) (pins : List (Addr × Obj)) (a : Addr) (cls : Value) (d : Option Addr) (B h3 : Heap) (σ : L2.St) (H : Hp) (sI s' : Shared) : Prop where
  ok : X.Ok
  hs : X.stack = X.env :: X.outer
  hf : X.env.frame = some X.env.locals
  J : Inv X pins σ H sI
  nb : ∀ b o, sI.heap.get? b = some o → b ∉ frs X.stack → B.get? b = some o
  fl : HandSPX.FlyingZ B (X.env :: X.outer) a (Zc cls d) h3
  up : sI.heap.UpToSlots h3
  os : s'.os = sI.os
  ag : AllBare s'.gens
  na : H a = none
  nL : a ≠ X.env.locals
  nF : a ∉ X.fs
theorem Caught.inv {a : Addr} {cls : Value} {d : Option Addr} {B h3 : Heap} {σ : L2.St} {H : Hp} {sI s' : Shared} (C : Caught X pins a cls d B h3 σ H sI s') : Inv X pins σ H { s' with heap := h3 } := C.J.landed C.nb C.fl.1 C.up C.os C.ag
theorem Caught.out {a : Addr} {cls : Value} {d : Option Addr} {B h3 : Heap} {σ : L2.St} {H : Hp} {sI s' : Shared} (C : Caught X pins a cls d B h3 σ H sI s') (tk : Takes X Wout) (w : Wout cls d σ H) :
    wpAny (model X.prog X.w) X.A (handleBy (.ref a) X.env []) (SP X pins D) X.xe { s' with heap := h3 } := by
  refine wpAny_handleBy_nil ?_
  obtain ⟨k1, k2, k3, oe, vs, T, oT, ts', he, hz, hd, h1, hr⟩ := id C.fl
  unfold PySem.passOn
  refine wpAny_bind (wpAny_field he hd h1 ?_)
  rw [if_neg (show ¬ ((Value.ref T == Value.none) = true) from by simp)]
  have fin : wpAny (model X.prog X.w) X.A (setFlight (.ref a) X.env.frame) (fun _ s4 => wpAny (model X.prog X.w) X.A (throw (.ref a) : Sem Flow) (SP X pins D) X.xe s4) X.xe { s' with heap := h3 } := by
    rw [C.hf]
    refine HandSPX.setFlight_upZ C.fl fun h4 hh4 up4 => wpAny_throw (tk _ _ ?_)
    exact ⟨a, B, sI, pins, σ, H, cls, d, rfl, C.J, C.nb, C.up.trans up4, .inr (.inr (by rw [C.hs]; exact hh4)), C.na, C.os, C.ag, w⟩
  first
    | exact wpAny_bind (wpAny_pure (wpAny_bind fin))
    | exact wpAny_bind fin
/-- the clause's test -/
theorem Caught.test {a : Addr} {cls : Value} {d : Option Addr} {B h3 : Heap} {σ : L2.St} {H : Hp} {sI s' : Shared} (C : Caught X pins a cls d B h3 σ H sI s') {x : Str} {c : Value} {np : Pos} (hc : Names X x c) {Q : Value → Shared → Prop} {E : Value → Shared → Prop} (q : Q c { s' with heap := h3 }) :
    wpAny (model X.prog X.w) (X.A.mark (some (.ref a))) (eval (.Name x np) X.env) Q E { s' with heap := h3 } := by
  obtain ⟨oe3, vs3, he3, hz3, hd3⟩ := C.fl.there
  have S3 := C.inv.suite he3 hd3 C.na C.nL C.nF
  obtain ⟨hg, hdbg, hm | ⟨hm, hv, hnn⟩⟩ := hc
  · exact ld_glob (X := X.suite a ((a, oe3) :: (X.pn ++ pins))) S3 hg hm q hdbg
  · exact ld_blt (X := X.suite a ((a, oe3) :: (X.pn ++ pins))) S3 hg hm hv q hnn hdbg
theorem Caught.looks {a : Addr} {cls : Value} {d : Option Addr} {B h3 : Heap} {σ : L2.St} {H : Hp} {sI s' : Shared} (C : Caught X pins a cls d B h3 σ H sI s') : PySem.W.Looks (model X.prog X.w) h3 (typeOf (.ref a)) cls := by
  obtain ⟨oe3, vs3, he3, hz3, hd3⟩ := C.fl.there
  exact fun A Q E s k q => wpAny_typeOf_ref (k _ _ he3) (by rw [hz3.1]; exact q)
theorem Caught.go (hN : X.N.Nodup) {a : Addr} {cls : Value} {d : Option Addr} {B h3 : Heap} {σ : L2.St} {H : Hp} {sI s' : Shared} (C : Caught X pins a cls d B h3 σ H sI s') (tk : Takes X Wout) :
    ∀ {hds : List ExceptHandler} {l : List Clause}, ClsOk X hds l → wMix X.K Wout D l cls d σ H → wpAny (model X.prog X.w) X.A (handleBy (.ref a) X.env hds) (SP X pins D) X.xe { s' with heap := h3 } := by
  intro hds l hk
  induction hk with
  | nil => exact fun w => C.out tk w
  | @plain x c ts b₀ suite np pos' hds2 l2 hc hsu r ih =>
    intro w
    obtain ⟨b, hb1, hyes, hno⟩ := w
    refine wpAny_handleBy_cons (codeAny_handlers_test ?_) (by intro q; cases q)
    have LM := PySem.W.exm_one (M := model X.prog X.w) (C.inv.kIn) C.looks hb1
    refine C.test hc (LM.here ?_)
    cases b with
    | true =>
      refine codeAny_handlers_suite (HandSPX.lands_againZ C.fl fun h4 fl4 up4 => ?_)
      have J4 : Inv X pins σ H { s' with heap := h4 } := C.J.landed C.nb fl4.1 (C.up.trans up4) C.os C.ag
      obtain ⟨oe4, vs4, he4, hz4, hd4⟩ := fl4.there
      have S4 := J4.suite he4 hd4 C.na C.nL C.nF
      refine wpAny_mono ((hsu a oe4 cls d (X.pn ++ pins) hz4 ⟨_, hd4⟩).run [] _ _ H _ S4 (hyes rfl a C.na)) (fun f s6 hsp => ?_) (fun _ _ z => False.elim z)
      cases f with
      | ret u =>
        obtain ⟨v6, σ6, H6, S6, r6, q6⟩ := hsp
        exact ⟨v6, σ6, H6, S6.unsuite C.ok, r6, q6⟩
      | _ =>
        obtain ⟨σ6, H6, S6, q6⟩ := hsp
        exact ⟨σ6, H6, S6.unsuite C.ok, q6⟩
    | false =>
      show wpAny _ X.A (handleBy (.ref a) X.env hds2) _ _ _
      exact ih (hno rfl)
  | @named x n c i ts b₀ suite np pos' hds2 l2 hc hi hln hsu r ih =>
    intro w
    obtain ⟨b, hb1, hyes, hno⟩ := w
    refine wpAny_handleBy_cons (codeAny_handlers_test ?_) (by intro q; cases q)
    have LM := PySem.W.exm_one (M := model X.prog X.w) (C.inv.kIn) C.looks hb1
    refine C.test hc (LM.here ?_)
    cases b with
    | true =>
      refine codeAny_handlers_suite_as (HandSPX.lands_againZ C.fl fun h4 fl4 up4 => ?_)
      have J4 : Inv X pins σ H { s' with heap := h4 } := C.J.landed C.nb fl4.1 (C.up.trans up4) C.os C.ag
      obtain ⟨oe4, vs4, he4, hz4, hd4⟩ := fl4.there
      have S4 := J4.suite he4 hd4 C.na C.nL C.nF
      refine store_ok (X := X.suite a ((a, oe4) :: (X.pn ++ pins))) (v := .ref a) S4 hN hi (.inl hln) rfl (fun s5 S5 => ?_) (.inr hln)
      refine wpAny_mono ((hsu a oe4 cls d (X.pn ++ pins) hz4 ⟨_, hd4⟩).run [] s5 _ H _ S5 (hyes rfl a C.na)) (fun f s6 hsp => ?_) (fun _ _ z => False.elim z)
      have fin : ∀ {σ6 : L2.St} {H6 : Hp} {Q : Shared → Prop}, Inv (X.suite a ((a, oe4) :: (X.pn ++ pins))) [] σ6 H6 s6 → (∀ s7, Inv X pins (σ6.set i none) H6 s7 → Q s7) →
          wpAny (model X.prog X.w) X.A (do bindName X.env n .none; unbindBehindTheSuite X.env n pos') (fun _ s7 => Q s7) X.xe s6 := fun {σ6 H6 Q} S6 hq => gone_ok (S6.unsuite C.ok) hN hi hln hq
      cases f with
      | ret u =>
        obtain ⟨v6, σ6, H6, S6, r6, q6⟩ := hsp
        exact fin S6 fun s7 J7 => ⟨_, _, _, J7, r6, q6⟩
      | _ =>
        obtain ⟨σ6, H6, S6, q6⟩ := hsp
        exact fin S6 fun s7 J7 => ⟨_, _, J7, q6⟩
    | false =>
      show wpAny _ X.A (handleBy (.ref a) X.env hds2) _ _ _
      exact ih (hno rfl)
theorem ps_try_mix {body : List Stmt} {h₀ : ExceptHandler} {hds : List ExceptHandler} {l : List Clause} {pos : Pos} {tb : WX → TS} (hs : X.stack = X.env :: X.outer) (hf : X.env.frame = some X.env.locals) (hN : X.N.Nodup) (tk : Takes X Wout)
    (hb : ∀ (W : WX) (pn : List (Addr × Obj)) (xe : Value → Shared → Prop), Takes (X.tr pn xe) W → PassesOwn (model X.prog X.w) X.A X.env xe → PSs (X.tr pn xe) body (tb W))
    (hh : ClsOk X (h₀ :: hds) l) : PS X (.Try body (h₀ :: hds) [] [] pos) (fun D σ H => tb (wMix X.K Wout D l) D σ H) := by
  refine ⟨fun pins s σ H D I h => ?_⟩
  have ok := I.ok
  have hfr : X.A.frames = some (X.env :: X.outer) := by rw [ok.frames, hs]
  refine wpAny_Try_except ?_
  refine wpAny_mono ((hb (wMix X.K Wout D l) (X.pn ++ pins) (fun e s₁ => wpAny (model X.prog X.w) X.A (noteFrame e X.env) (fun _ s₂ => wpAny (model X.prog X.w) X.A (setFlight e none) (fun _ s₃ =>
    wpAny (model X.prog X.w) X.A (handleBy e X.env (h₀ :: hds)) (SP X pins D) X.xe s₃) X.xe s₂) X.xe s₁) (fun u s' xx => ?_) PassesOwn.looking).run [] s σ H D (I.toTry _) h) (fun f s1 hsp => ?_) (fun e s1 he => he)
  · obtain ⟨a, B, sI, pins', σ', H', cls, d, rfl, J', nb, up, sky, na, os, ag, w⟩ := xx
    have J : Inv X pins σ' H' sI := J'.ofTry ok
    have sky' : Sky B (X.env :: X.outer) a (Zc cls d) X.env.locals s'.heap := by rw [← hs]; exact sky
    show wpAny (model X.prog X.w) X.A (noteFrame (.ref a) X.env) _ _ _
    refine Sky.land Zc.steady hfr hf sky' fun h3 fl3 up3 => ?_
    obtain ⟨oe3, vs3, he3, hz3, hd3⟩ := fl3.there
    have nfr : a ∉ frs (X.env :: X.outer) := fun hm => by
      obtain ⟨_, o', e', hnf⟩ := fl3.2.2.1.mem hm
      rw [he3] at e'; cases e'
      exact hnf _ hd3
    have nL : a ≠ X.env.locals := fun z => nfr (List.mem_filterMap.mpr ⟨X.env, List.mem_cons_self, by rw [hf, z]⟩)
    have nF : a ∉ X.fs := fun hm => by
      obtain ⟨e, he, q⟩ := List.mem_filterMap.mp hm
      exact nfr (List.mem_filterMap.mpr ⟨e, List.mem_cons_of_mem _ he, q⟩)
    have C : Caught X pins a cls d B h3 σ' H' sI s' := ⟨ok, hs, hf, J, nb, fl3, up.trans up3, os, ag, na, nL, nF⟩
    exact C.go hN tk hh w
  · cases f with
    | next =>
      obtain ⟨σ', H', J', q⟩ := hsp
      exact wpAny_execs_nil ⟨σ', H', J'.ofTry ok, q⟩
    | ret u =>
      obtain ⟨v, σ', H', J', r, q⟩ := hsp
      exact ⟨v, σ', H', J'.ofTry ok, r, q⟩
    | _ =>
      obtain ⟨σ', H', J', q⟩ := hsp
      exact ⟨σ', H', J'.ofTry ok, q⟩
end
section
variable {B : Bd} {X : Cx} {n : Nat}
/-- what an except clause names, as the text has it -/
structure ExcName (B : Bd) (X : Cx) (known : List Nat) (x : Str) (k : Nat) : Prop where
  nm : Names X x (.ref (B.T.adr k))
  em : ∀ c ∈ known, PySem.W.exmOne X.K (.ref (B.T.adr c)) (.ref (B.T.adr k)) = some (subC c k)
inductive HsOk (B : Bd) (X : Cx) (known : List Nat) : List ExceptHandler → CHs → Prop
  | nil : HsOk B X known [] .nil
  | ret {x : Str} {k j : Nat} {s : Txt} {np p p2 pos' : Pos} {hds : List ExceptHandler} {hs : CHs} (hx : ExcName B X known x k) (f : Fine s) (r : HsOk B X known hds hs) :
      HsOk B X known (.ExceptHandler (some (.Name x np)) none [.Return (some (.Constant (.str (tx s)) j p)) p2] pos' :: hds) (.cons k (.ret s) hs)
  | fld {x n fx : Str} {k i f : Nat} {np p p2 p3 pos' : Pos} {hds : List ExceptHandler} {hs : CHs} (hx : ExcName B X known x k) (hi : X.N[i]? = some n) (hln : X.env.kindOf n = some .local) (hd : (n == ("__debug__" : Str)) = false) (hc : (n == ("__classdict__" : Str)) = false)
      (T : XfC X.K (B.T.adr k)) (no : PySem.W.findIn X.K (.ref (B.T.adr k)) fx = some none) (hf : (B.T.flds k)[f]? = some fx) (nd : (B.T.flds k).Nodup) (r : HsOk B X known hds hs) :
      HsOk B X known (.ExceptHandler (some (.Name x np)) (some n) [.Return (some (.Attribute (.Name n p) fx p2)) p3] pos' :: hds) (.cons k (.fld i f) hs)
theorem hs_ok {known : List Nat} : ∀ {hds : List ExceptHandler} {hs : CHs}, HsOk B X known hds hs → ∃ l : List Clause, ClsOk X hds l ∧ ∀ (D : Ends) (c : Nat) (vs : List Wa.D) F I H σ cls d env L, c ∈ known → B.fr F I H L σ env → XRep B.T F I H c vs cls d → PostS B D (catchS subC hs c vs env L) → wMix X.K B.W D l cls d σ H := by
  intro hds hs h
  induction h with
  | nil => exact ⟨[], .nil, fun D c vs F I H σ cls d env L hc fr xr q => q F I H σ cls d fr xr⟩
  | @ret x k j s np p p2 pos' hds hs hx f r ih =>
    obtain ⟨l, hl, hw⟩ := ih
    refine ⟨_, .plain (ts := fun a cls d => tRet (tC (.str (tx s)))) hx.nm (fun a oe cls d pn hz hf => pss_one (ps_ret pe_str)) hl, fun D c vs F I H σ cls d env L hc fr xr q => ?_⟩
    have q' : PostS B D (if subC c k then .ok (.ret (.str s)) env L else catchS subC hs c vs env L) := q
    refine ⟨subC c k, by rw [xr.1]; exact hx.em c hc, fun e a ha => ?_, fun e => ?_⟩
    · rw [if_pos e] at q'
      exact q' F I H σ _ fr (.str s f)
    · rw [if_neg (by rw [e]; decide)] at q'
      exact hw D c vs F I H σ cls d env L hc fr xr q'
  | @fld x n fx k i f np p p2 p3 pos' hds hs hx hi hln hd hc T no hf nd r ih =>
    obtain ⟨l, hl, hw⟩ := ih
    refine ⟨_, .named (i := i) (ts := fun a cls d => tRet (tXf a cls d (B.T.adr k) fx (tVar i))) hx.nm hi hln (fun a oe cls d pn hz hff => pss_one (ps_ret (pe_xf T no hz hff (pe_var (i := i) hi (.inl hln) hd hc) nameBase))) hl, fun D c vs F I H σ cls d env L hc fr xr q => ?_⟩
    have q' : PostS B D (if subC c k then (if c = k ∧ i < env.length then (match vs[f]? with
        | some d => .ok (.ret d) env L
        | none => .bad) else .bad) else catchS subC hs c vs env L) := q
    refine ⟨subC c k, by rw [xr.1]; exact hx.em c hc, fun e a ha => ?_, fun e => ?_⟩
    · rw [if_pos e] at q'
      split at q'
      · rename_i hh
        obtain ⟨rfl, hlt⟩ := hh
        split at q'
        · rename_i z hz
          obtain ⟨e1, ⟨e2, _⟩ | ⟨dd, fs, ed, eH, en, er⟩⟩ := xr
          · rw [e2] at hz; simp at hz
          · obtain ⟨v, hv, rv⟩ := er.get hz
            refine ⟨.ref a, List.getElem?_set_self (by rw [← fr.len]; exact hlt), rfl, e1, dd, fs, v, ed, eH, lookup_at nd ?_ hf hv, q' F I H σ v fr rv⟩
            rw [en, er.length, List.length_map]
        · exact q'.elim
      · exact q'.elim
    · rw [if_neg (by rw [e]; decide)] at q'
      exact hw D c vs F I H σ cls d env L hc fr xr q'
theorem s_try {known : List Nat} {body : List Stmt} {h₀ : ExceptHandler} {hds : List ExceptHandler} {cb : CSs} {hs : CHs} {pos : Pos} (S : Sx B X n) (h1 : X.stack = X.env :: X.outer) (h2 : X.env.frame = some X.env.locals)
    (hb : ∀ (W : WX) (pn : List (Addr × Obj)) (xe : Value → Shared → Prop), Takes (X.tr pn xe) W → PassesOwn (model X.prog X.w) X.A X.env xe → PSs (X.tr pn xe) body (tExs { B with W := W } cb))
    (hh : HsOk B X known (h₀ :: hds) hs) : PS X (.Try body (h₀ :: hds) [] [] pos) (tEx B (.try_ cb known hs)) := by
  obtain ⟨l, hl, hw⟩ := hs_ok hh
  refine PSimp (ps_try_mix (tb := fun W => tExs { B with W := W } cb) h1 h2 S.nd S.tk hb hl) fun D σ H ⟨F, I, L, env, fr, q⟩ => ⟨F, I, L, env, fr, ?_⟩
  have q' : PostS B D (match exs B.G cb env L with
      | .exc c vs env L => if known.contains c then catchS subC hs c vs env L else .bad
      | r => r) := q
  show PostS { B with W := wMix X.K B.W D l } D (exs B.G cb env L)
  cases r : exs B.G cb env L with
  | ok fl env' L' =>
    rw [r] at q'
    cases fl <;> exact q'
  | exc c vs env' L' =>
    rw [r] at q'
    have q2 : PostS B D (if known.contains c then catchS subC hs c vs env' L' else .bad) := q'
    by_cases hc : known.contains c = true
    · rw [if_pos hc] at q2
      exact fun F' I' H' σ' cls d fr' xr => hw D c vs F' I' H' σ' cls d env' L' (by simpa using hc) fr' xr q2
    · rw [if_neg hc] at q2
      exact q2.elim
  | bad =>
    rw [r] at q'
    exact q'
end
end Wa

set_option Elab.async false
set_option linter.all false
set_option maxRecDepth 100000
set_option maxHeartbeats 4000000
/-! WaMore: some more rules. -/
namespace Wa
open PySem PySem.Spec PyProof.Rows L2
section
variable {B : Bd} {X : Cx} {n : Nat} {e a b c : Expr} {es : List Expr} {p p2 apos : Pos} {ca cb cc : CE} {oa ob oc : CO} {cs : CEs} {os : COs}
theorem s_neg (S : Sx B X n) (h : PE X a (tEvO B oa)) : PE X (.UnaryOp .USub a p) (tEv B (.neg oa)) :=
  PEimp (pe_un un_neg h) fun σ H Q ⟨F, I, L, env, fr, q⟩ => ⟨F, I, L, env, fr, q.seq fun x L1 F1 I1 H1 v st1 w1 r1 h1 => by
    cases x with
    | int i =>
      obtain rfl := RepV.int (.inl r1)
      exact ⟨i, rfl, h1 F1 I1 H1 _ Step.refl w1 (.int (-i))⟩
    | _ => exact h1.elim⟩
/-- a module's constant -/
structure ConIs (B : Bd) (X : Cx) (x : Str) (d : D) : Prop where
  ex : ∃ v u, X.mg x = some u ∧ RelV v u ∧ ∀ F I H, Rep B.T F I H d v
theorem s_glob (S : Sx B X n) {x : Str} {d : D} (hg : Gl X x) (hd : (x == ("__debug__" : Str)) = false) (hc : ConIs B X x d) : PE X (.Name x p) (tEv B (.glob d)) := by
  obtain ⟨v, u, hm, r, rep⟩ := hc.ex
  exact PEimp (t := fun σ H Q => Q v H) ⟨fun pins s σ H Q I q => ld_glob I hg hm ⟨v, H, I, r, q⟩ hd⟩ fun σ H Q ⟨F, I, L, env, fr, q⟩ => now fr q (rep F I H)
theorem s_dct0 (S : Sx B X n) : PE X (.Dict [] [] p) (tNew B (.dct .nil .nil)) :=
  PEimp pe_dnewK fun σ H Q ⟨F, I, L, env, fr, q⟩ => by
    intro q' hq
    have h : B.post σ F I H (rNew B H) (.ok (.odct [] []) L) Q := q
    have o := own_new (B := B) (H0 := H) (fun p u h => ⟨u, h⟩) fr.wf hq
    exact h F I _ _ (Step.laid hq) (fr.wf.laid hq) ⟨rfl, q', rfl, o, .inl ⟨[], upd_same, rfl, KOk.nil, .nil⟩⟩
theorem s_bool1 {o : BoolOp} {t : TE} (h : PE X a t) : PE X (.BoolOp o [a] p) t := ⟨fun pins s σ H Q I q => h.run pins s σ H Q I q⟩
theorem t_chain (S : Sx B X n) {o o' : Cm} (ha : PE X a (tEvO B oa)) (hb : PE X b (tEvO B ob)) (hc : PE X c (tEvO B oc)) (hm : lastMarks [o.ast, o'.ast] [b, c] = false) : PT X (.Compare a [o.ast, o'.ast] [b, c] p) (tTs B (.chain o o' oa ob oc)) :=
  PTimp (pt_chain (cmp_data S.K S.w (by have := S.un; omega) o) (cmp_data S.K S.w (by have := S.un; omega) o') ha hb hc hm) fun σ H Q ⟨F, I, L, env, fr, h⟩ => ⟨F, I, L, env, fr, by
    have h' : B.post σ F I H rB ((evO B.G oa env L).bind fun x L => (evO B.G ob env L).bind fun y L => (opt (cmpD o x y) L).bind fun k L =>
      if k then (evO B.G oc env L).bind fun z L => opt (cmpD o' y z) L else .ok false L) Q := by
      unfold ev at h
      dsimp only at h
      cases r1 : evO B.G oa env L with
      | ok x L1 =>
        rw [r1] at h
        simp only [R.bind] at h ⊢
        cases r2 : evO B.G ob env L1 with
        | ok y L2 =>
          rw [r2] at h
          simp only [R.bind] at h ⊢
          cases r3 : cmpD o x y with
          | some k =>
            rw [r3] at h
            simp only [opt] at h ⊢
            cases k with
            | true =>
              simp only [if_true] at h ⊢
              cases r4 : evO B.G oc env L2 with
              | ok z L3 =>
                rw [r4] at h
                simp only at h ⊢
                cases r5 : cmpD o' y z with
                | some k2 => rw [r5] at h; exact h
                | none => rw [r5] at h; exact h.elim
              | exc c vs L3 => rw [r4] at h; exact h
              | bad => rw [r4] at h; exact h.elim
            | false => exact h
          | none => rw [r3] at h; exact h.elim
        | exc c vs L2 => rw [r2] at h; exact h
        | bad => rw [r2] at h; exact h.elim
      | exc c vs L1 => rw [r1] at h; exact h
      | bad => rw [r1] at h; exact h.elim
    exact h'.seq fun x L1 F1 I1 H1 vx st1 w1 rx h1 => ⟨F1, I1, L1, env, fr.step st1 w1, h1.seq fun y L2 F2 I2 H2 vy st2 w2 ry h2 => by
      cases e1 : cmpD o x y with
      | none => rw [e1] at h2; exact h2.elim
      | some k =>
        rw [e1] at h2
        refine ⟨F2, I2, x, y, k, .inl (rx.step st2 w1), .inl ry, e1, k, rfl, ?_⟩
        cases k with
        | false => exact ⟨false, rfl, h2 F2 I2 H2 false Step.refl w2 rfl⟩
        | true =>
          refine ⟨F2, I2, L2, env, (fr.step st1 w1).step st2 w2, Post.seq (RA := rO B) h2 fun z L3 F3 I3 H3 vz st3 w3 rz h3 => ?_⟩
          obtain ⟨k2, e2, q⟩ := h3.opt
          exact ⟨F3, I3, y, z, k2, .inl (ry.step st3 w2), .inl rz, e2, k2, rfl, q F3 I3 H3 k2 Step.refl w3 rfl⟩⟩⟩
end
end Wa

set_option Elab.async false
set_option linter.all false
set_option maxRecDepth 100000
set_option maxHeartbeats 4000000
/-! WaChk: does this code stand in the text? -/
namespace Wa
open PySem PySem.Spec PyProof.Rows L2

/-- what the module's names are -/
structure Gm where
  fns : List (Str × Nat × Nat × Nat)
  mts : List (Nat × Str × Nat × Nat × Nat)
  inis : List (Str × Nat × Nat × Nat)
  exc0 : List (Str × Nat)
  exc1 : List (Str × Nat)
  excs : List (Str × Nat)
  known : List Nat
  xfs : List (Nat × Nat × Str)
  cons : List (Str × D)
  flds : List (Nat × List Str)
  bis : List Str
/-- where a piece of the text stands -/
structure Ck where
  N : List Str
  sc : Scope
  fn : Str → Bool
  top : Bool
def Ck.kd (k : Ck) (x : Str) : Option NameKind := k.sc.names.lookup x
def Ck.gl (k : Ck) (x : Str) : Bool := (match k.kd x with | some .globalImplicit => true | _ => false) && !(x == ("__debug__" : Str))
def Ck.vis (k : Ck) (x : Str) : Bool := match k.kd x with | some .local => true | some .cell => true | some .free => true | _ => false
def Ck.nm (k : Ck) (x : Str) (i : Nat) : Bool := decide (k.N[i]? = some x) && (k.vis x && (!(x == ("__debug__" : Str)) && !(x == ("__classdict__" : Str))))
def Ck.nmE (k : Ck) (e : Expr) (i : Nat) : Bool := match e with
  | .Name x _ => k.nm x i
  | _ => false
/-- a name that may be assigned -/
def Ck.tg (k : Ck) (x : Str) (i : Nat) : Bool := decide (k.N[i]? = some x) && (match k.kd x with | some .local => true | some .cell => k.fn x | _ => false)
def Ck.loc (k : Ck) (x : Str) : Bool := match k.kd x with | some .local => true | _ => false
def notStar : Expr → Bool
  | .Starred _ _ => false
  | _ => true
def notC0 : Expr → Bool
  | .Call (.Name _ _) [] [] _ => false
  | _ => true
def notSet : Expr → Bool
  | .Set _ _ _ => false
  | _ => true
def plainIx : Expr → Bool
  | .Slice _ _ _ _ => false
  | .Tuple _ _ _ => false
  | _ => true
/-- its truth is that of its value -/
def plainT : Expr → Bool
  | .UnaryOp .Not _ _ => false
  | .BoolOp _ _ _ => false
  | .IfExp _ _ _ _ => false
  | .Compare _ _ _ _ => false
  | _ => true
mutual
def dEq : D → D → Bool
  | .non, .non => true
  | .bl a, .bl b => a == b
  | .int a, .int b => a == b
  | .str a, .str b => a == b
  | .tup a, .tup b => dEqs a b
  | .lst a, .lst b => dEqs a b
  | _, _ => false
def dEqs : List D → List D → Bool
  | [], [] => true
  | a :: as, b :: bs => dEq a b && dEqs as bs
  | _, _ => false
end
mutual
theorem dEq_ok : ∀ {a b : D}, dEq a b = true → a = b
  | .non, b, h => by cases b <;> first | rfl | simp [dEq] at h
  | .bl x, b, h => by cases b <;> simp [dEq] at h <;> rw [h]
  | .int x, b, h => by cases b <;> simp [dEq] at h <;> rw [h]
  | .str x, b, h => by cases b <;> simp [dEq] at h <;> rw [h]
  | .tup x, b, h => by cases b <;> simp [dEq] at h <;> rw [dEqs_ok h]
  | .lst x, b, h => by cases b <;> simp [dEq] at h <;> rw [dEqs_ok h]
  | .dct _ _, b, h => by cases b <;> simp [dEq] at h
  | .ins _ _, b, h => by cases b <;> simp [dEq] at h
  | .ref _, b, h => by cases b <;> simp [dEq] at h
theorem dEqs_ok : ∀ {a b : List D}, dEqs a b = true → a = b
  | [], b, h => by cases b <;> first | rfl | simp [dEqs] at h
  | x :: a, b, h => by
    cases b with
    | nil => simp [dEqs] at h
    | cons y b =>
      simp only [dEqs, Bool.and_eq_true] at h
      rw [dEq_ok h.1, dEqs_ok h.2]
end
def fineB (s : Txt) : Bool := PyData.strOk (tx s) && decide (s.length ≤ line)
def biStr : Bi → Str
  | .len => "len" | .all => "all" | .any => "any" | .sum => "sum" | .int => "int" | .tup => "tuple" | .lst => "list" | .dct => "dict" | .sorted => "sorted" | _ => "?"
def biVal : Bi → Bool
  | .len => true | .all => true | .any => true | .sum => true | .int => true | .tup => true
  | _ => false
def biNew : Bi → Bool
  | .lst => true | .dct => true | .sorted => true
  | _ => false
def tagStr : Tag → Str
  | .int => "int" | .bool => "bool" | .str => "str" | .tup => "tuple" | .lst => "list" | .dct => "dict"
def CEs.count : CEs → Nat
  | .nil => 0
  | .cons _ r => r.count + 1
def COs.count : COs → Nat
  | .nil => 0
  | .cons _ r => r.count + 1
def Gm.fn (Γ : Gm) (x : Str) (f j : Nat) : Bool := Γ.fns.any fun e => decide (e.1 = x) && (e.2.1 == f && (decide (e.2.2.1 ≤ j) && decide (j ≤ e.2.2.2)))
def Gm.mt (Γ : Gm) (c : Nat) (m : Str) (f j : Nat) : Bool := Γ.mts.any fun e => e.1 == c && (decide (e.2.1 = m) && (e.2.2.1 == f && (decide (e.2.2.2.1 ≤ j) && decide (j ≤ e.2.2.2.2))))
def Gm.ini (Γ : Gm) (x : Str) (c j : Nat) : Bool := Γ.inis.any fun e => decide (e.1 = x) && (e.2.1 == c && (decide (e.2.2.1 ≤ j) && decide (j ≤ e.2.2.2)))
def Gm.fl (Γ : Gm) (c f : Nat) (x : Str) : Bool := Γ.flds.any fun e => e.1 == c && decide (e.2[f]? = some x)
def Gm.con (Γ : Gm) (x : Str) (d : D) : Bool := Γ.cons.any fun e => decide (e.1 = x) && dEq e.2 d
def Gm.bi (Γ : Gm) (k : Ck) (x : Str) : Bool := Γ.bis.contains x && (k.gl x && !(x == ("__name__" : Str)))
def stm (apos p : Pos) (es : List Expr) : Bool := (apos.endLine == p.line) && (decide (es.length < 29) && es.all notStar)
mutual
def cT : CT → Ck → Expr → Bool
  | .v i, k, e => match e with
    | .Name x _ => k.tg x i
    | _ => false
  | .tup ts, k, e => match e with
    | .Tuple es _ _ => decide (es.length = ts.count) && cTs ts k es
    | _ => false
def cTs : CTs → Ck → List Expr → Bool
  | .nil, _, es => es.isEmpty
  | .cons t ts, k, es => match es with
    | e :: es => notStar e && (cT t k e && cTs ts k es)
    | [] => false
end
def fxOk : CO → Bool → Bool
  | .e _, _ => true
  | .pk _, fx => !fx
def ownP (N : List Str) : List Nat → Option (List (Str × Nat))
  | [] => some []
  | i :: is => match N[i]?, ownP N is with
    | some x, some r => some ((x, i) :: r)
    | _, _ => none
/-- within a comprehension -/
def Ck.blk (k : Ck) (scope : Scope) : Ck := ⟨k.N, relS scope k.sc, fun x => scope.names.lookup x == some .cell, false⟩
def blkB (k : Ck) (scope : Scope) (own : List Nat) : Bool := match ownP k.N own with
  | some r => blkC k.N k.sc scope r
  | none => false
mutual
def cE (Γ : Gm) : CE → Bool → Ck → Expr → Bool
  | .var i, t, k, e => match e with
    | .Name x _ => k.nm x i
    | _ => false
  | .non, t, k, e => match e with
    | .Constant .none _ _ => true
    | _ => false
  | .bl b, t, k, e => match e with
    | .Constant (.bool c) _ _ => b == c
    | _ => false
  | .int i, t, k, e => match e with
    | .Constant (.int j) _ _ => i == j
    | _ => false
  | .str s, t, k, e => match e with
    | .Constant (.str z) _ _ => decide (z = tx s) && fineB s
    | _ => false
  | .glob d, t, k, e => match e with
    | .Name x _ => k.gl x && Γ.con x d
    | _ => false
  | .tup es, t, k, e => match e with
    | .Tuple xs _ _ => cEs Γ es k xs
    | _ => false
  | .fr f, t, k, e => plainT e && cF Γ f k e
  | .op o a b, t, k, e => match e with
    | .BinOp l op r _ => decide (op = o.ast) && (cO Γ a k l && cO Γ b k r)
    | _ => false
  | .neg a, t, k, e => match e with
    | .UnaryOp .USub x _ => cO Γ a k x
    | _ => false
  | .cmp o a b, t, k, e => match e with
    | .Compare l [op] [r] _ => decide (op = o.ast) && (cO Γ a k l && (cO Γ b k r && !behindInMarks o.ast r))
    | _ => false
  | .chain o p a b c, t, k, e => match e with
    | .Compare l [op, op2] [m, r] _ => decide (op = o.ast) && (decide (op2 = p.ast) && (cO Γ a k l && (cO Γ b k m && (cO Γ c k r && !lastMarks [o.ast, p.ast] [m, r]))))
    | _ => false
  | .not a, t, k, e => match e with
    | .UnaryOp .Not x _ => cE Γ a t k x
    | _ => false
  | .and a b, t, k, e => match e with
    | .BoolOp .And (x :: y :: rest) p => cE Γ a t k x && (match rest with
      | [] => cE Γ b t k y
      | _ => cE Γ b t k (.BoolOp .And (y :: rest) p))
    | _ => false
  | .or a b, t, k, e => match e with
    | .BoolOp .Or (x :: y :: rest) p => cE Γ a t k x && (match rest with
      | [] => cE Γ b t k y
      | _ => cE Γ b t k (.BoolOp .Or (y :: rest) p))
    | _ => false
  | .ite c a b, t, k, e => match e with
    | .IfExp z x y _ => !t && (cE Γ c true k z && (cE Γ a false k x && cE Γ b false k y))
    | _ => false
  | .ix a i, t, k, e => match e with
    | .Subscript x y _ => plainIx y && (cO Γ a k x && cE Γ i false k y)
    | _ => false
  | .sl a lo hi, t, k, e => match e with
    | .Subscript x (.Slice l h none _) _ => cO Γ a k x && (cP Γ lo k l && cP Γ hi k h)
    | _ => false
  | .isi a ts, t, k, e => match e with
    | .Call (.Name f _) [x, .Name y _] [] _ => (match ts with
      | [g] => decide (f = ("isinstance" : Str)) && (decide (y = tagStr g) && (Γ.bi k "isinstance" && (Γ.bi k (tagStr g) && (notStar x && cO Γ a k x))))
      | _ => false)
    | _ => false
  | .bi b es, t, k, e => match es with
    | .cons o .nil => (match e with
      | .Call (.Name f _) [x] [] _ => biVal b && (decide (f = biStr b) && (Γ.bi k (biStr b) && (notStar x && cO Γ o k x)))
      | _ => false)
    | _ => false
  | .bm m o es, t, k, e => match e with
    | .Call (.Attribute x a apos) (y :: ys) [] p => decide (a = m.name) && (notC0 x && (stm apos p (y :: ys) && (cO Γ o k x && cOs Γ es k (y :: ys))))
    | _ => false
  | .call f es, t, k, e => match e with
    | .Call (.Name x _) xs [] _ => k.gl x && (Γ.fn x f es.count && (xs.all notStar && cEs Γ es k xs))
    | _ => false
  | .callP f es, t, k, e => match e with
    | .Call (.Name x _) (y :: ys) [] _ => k.gl x && (Γ.fn x f es.count && ((y :: ys).all notStar && cOs Γ es k (y :: ys)))
    | _ => false
  | .meth c f o es, t, k, e => match e with
    | .Call (.Attribute x m apos) ys [] p => Γ.mt c m f (es.count + 1) && (notC0 x && (stm apos p ys && (cE Γ o false k x && cEs Γ es k ys)))
    | _ => false
  | .methP c f o es, t, k, e => match e with
    | .Call (.Attribute x m apos) (y :: ys) [] p => Γ.mt c m f (es.count + 1) && (notC0 x && (stm apos p (y :: ys) && (cE Γ o false k x && cOs Γ es k (y :: ys))))
    | _ => false
  | .make c es, t, k, e => match e with
    | .Call (.Name x _) (y :: ys) [] _ => k.gl x && (Γ.ini x c es.count && ((y :: ys).all notStar && cEs Γ es k (y :: ys)))
    | _ => false
  | .makeR c es, t, k, e => match e with
    | .Call (.Name x _) (y :: ys) [] _ => k.gl x && (Γ.ini x c es.count && ((y :: ys).all notStar && cEs Γ es k (y :: ys)))
    | _ => false
  | .fld o c f, t, k, e => match e with
    | .Attribute x a _ => Γ.fl c f a && (notC0 x && cO Γ o k x)
    | _ => false
  | .rlst es, t, k, e => match e with
    | .List xs _ => cEs Γ es k xs
    | _ => false
  | .rdct, t, k, e => match e with
    | .Dict [] [] _ => true
    | _ => false
def cEs (Γ : Gm) : CEs → Ck → List Expr → Bool
  | .nil, k, es => es.isEmpty
  | .cons c cs, k, es => match es with
    | x :: xs => notStar x && (cE Γ c false k x && cEs Γ cs k xs)
    | [] => false
def cP (Γ : Gm) : CEo → Ck → Option Expr → Bool
  | .none, k, e => e.isNone
  | .some c, k, e => match e with
    | some x => cE Γ c false k x
    | none => false
def cTst (Γ : Gm) : CEo → Ck → List Expr → Bool
  | .none, k, es => es.isEmpty
  | .some c, k, es => match es with
    | [x] => cE Γ c true k x
    | _ => false
def cO (Γ : Gm) : CO → Ck → Expr → Bool
  | .e c, k, e => cE Γ c false k e
  | .pk i, k, e => k.nmE e i
def cOs (Γ : Gm) : COs → Ck → List Expr → Bool
  | .nil, k, es => es.isEmpty
  | .cons c cs, k, es => match es with
    | x :: xs => notStar x && (cO Γ c k x && cOs Γ cs k xs)
    | [] => false
def cF (Γ : Gm) : CF → Ck → Expr → Bool
  | .lst es, k, e => match e with
    | .List xs _ => cEs Γ es k xs
    | _ => false
  | .dct ks vs, k, e => match e with
    | .Dict [] [] _ => ks.count == 0 && vs.count == 0
    | _ => false
  | .comp own elt t it tst, k, e => match e with
    | .ListComp x [⟨tg, iter, ifs, 0⟩] scope _ => blkB k scope own && (t.names.all (own.contains ·) && (notSet iter && (cI Γ it false k tg iter && (cT t (k.blk scope) tg && (cTst Γ tst (k.blk scope) ifs && cE Γ elt false (k.blk scope) x)))))
    | _ => false
  | .comp2 own own2 elt t it tst t2 it2 tst2, k, e => match e with
    | .ListComp x [⟨tg, iter, ifs, 0⟩, ⟨tg2, iter2, ifs2, 0⟩] scope _ => blkB k scope own && (own2.all (own.contains ·) && (t.names.all (own.contains ·) && (t2.names.all (own2.contains ·) && (notSet iter && (notSet iter2 && (cI Γ it false k tg iter && (cT t (k.blk scope) tg && (cTst Γ tst (k.blk scope) ifs &&
        (cI Γ it2 true (k.blk scope) tg2 iter2 && (cT t2 (k.blk scope) tg2 && (cTst Γ tst2 (k.blk scope) ifs2 && cE Γ elt false (k.blk scope) x)))))))))))
    | _ => false
  | .dcomp own ck cv t it tst, k, e => match e with
    | .DictComp x y [⟨tg, iter, ifs, 0⟩] scope _ => blkB k scope own && (t.names.all (own.contains ·) && (notSet iter && (cI Γ it false k tg iter && (cT t (k.blk scope) tg && (cTst Γ tst (k.blk scope) ifs && (cE Γ ck false (k.blk scope) x && cE Γ cv false (k.blk scope) y))))))
    | _ => false
  | .bi b es, k, e => match es with
    | .cons o .nil => (match e with
      | .Call (.Name f _) [x] [] _ => biNew b && (decide (f = biStr b) && (Γ.bi k (biStr b) && (notStar x && cO Γ o k x)))
      | _ => false)
    | _ => false
  | .op o a b, k, e => match e with
    | .BinOp l .Add r _ => (match o with | .add => true | _ => false) && (cO Γ a k l && cO Γ b k r)
    | _ => false
  | .sl _ _ _, _, _ => false
/-- what is walked; fx: it must be frozen -/
def cI (Γ : Gm) : CI → Bool → Ck → Expr → Expr → Bool
  | .seq a, fx, k, tg, e => fxOk a fx && cO Γ a k e
  | .rng es, fx, k, tg, e => match e with
    | .Call (.Name f _) xs [] _ => decide (f = ("range" : Str)) && (Γ.bi k "range" && (match es with
      | .cons (.e a) .nil => (match xs with
        | [x] => notStar x && cE Γ a false k x
        | _ => false)
      | .cons (.e a) (.cons (.e b) .nil) => (match xs with
        | [x, y] => notStar x && (notStar y && (cE Γ a false k x && cE Γ b false k y))
        | _ => false)
      | _ => false))
    | _ => false
  | .enum a, fx, k, tg, e => match e with
    | .Call (.Name f _) [x] [] _ => decide (f = ("enumerate" : Str)) && (Γ.bi k "enumerate" && ((match tg with | .Tuple _ _ _ => true | _ => false) && (notStar x && (fxOk a fx && cO Γ a k x))))
    | _ => false
  | .zip es, fx, k, tg, e => match e with
    | .Call (.Name f _) [x, y] [] _ => decide (f = ("zip" : Str)) && (Γ.bi k "zip" && ((match tg with | .Tuple _ _ _ => true | _ => false) && (notStar x && (notStar y && (match es with
      | .cons a (.cons b .nil) => fxOk a fx && (fxOk b fx && (cO Γ a k x && cO Γ b k y))
      | _ => false)))))
    | _ => false
  | _, _, _, _, _ => false
end
end Wa

set_option Elab.async false
set_option linter.all false
set_option maxRecDepth 100000
set_option maxHeartbeats 4000000
/-! WaChk2: code that stands in the text does what it says: expressions. -/
namespace Wa
open PySem PySem.Spec PyProof.Rows L2

/-- what is known of the module -/
structure GF (Γ : Gm) (B : Bd) (X : Cx) (n : Nat) : Prop where
  fns : ∀ e ∈ Γ.fns, ∃ fa, X.mg e.1 = some (.ref fa) ∧ ∀ j, e.2.2.1 ≤ j → j ≤ e.2.2.2 → FnIs B X n e.2.1 fa j
  mts : ∀ e ∈ Γ.mts, ∃ fa, ∀ j, e.2.2.2.1 ≤ j → j ≤ e.2.2.2.2 → MethIs B X n e.1 e.2.2.1 e.2.1 fa j
  inis : ∀ e ∈ Γ.inis, X.mg e.1 = some (.ref (B.T.adr e.2.1)) ∧ ∀ j, e.2.2.1 ≤ j → j ≤ e.2.2.2 → IniIs B X n e.2.1 j
  exc0 : ∀ e ∈ Γ.exc0, X.mg e.1 = some (.ref (B.T.adr e.2)) ∧ PySem.W.keepIn X.K (.ref (B.T.adr e.2)) = true ∧ PySem.W.excIn X.K (B.T.adr e.2) He.veBase "ValueError.__new__" = true ∧ PySem.W.subIn X.K (.ref (B.T.adr e.2)) (.type "BaseException") = some true ∧ PySem.W.typeIn X.K (.ref (B.T.adr e.2)) = some (.type "type")
  exc1 : ∀ e ∈ Γ.exc1, X.mg e.1 = some (.ref (B.T.adr e.2)) ∧ B.T.flds e.2 = [("word" : Str)] ∧ ∃ fI W fd, RefTxt X.K (B.T.adr e.2) fI W ∧ FnOk X.prog X.w X.K X.mg X.base (L2.CX X.prog X.w) 1 fI fd ["self", "word"] (spR (B.T.adr e.2)) ∧ Binds X.K fd ["self", "word"] []
  excs : ∀ e ∈ Γ.excs, X.mg e.1 = some (.ref (B.T.adr e.2)) ∧ ∀ c ∈ Γ.known, PySem.W.exmOne X.K (.ref (B.T.adr c)) (.ref (B.T.adr e.2)) = some (subC c e.2)
  xfs : ∀ e ∈ Γ.xfs, XfC X.K (B.T.adr e.1) ∧ PySem.W.findIn X.K (.ref (B.T.adr e.1)) e.2.2 = some none ∧ (B.T.flds e.1)[e.2.1]? = some e.2.2 ∧ (B.T.flds e.1).Nodup
  cons : ∀ e ∈ Γ.cons, ConIs B X e.1 e.2
  flds : ∀ e ∈ Γ.flds, B.T.flds e.1 = e.2 ∧ ClsAt B.T e.1
  bis : ∀ x ∈ Γ.bis, X.mg x = none
  kit : KitOk X.K
  big : 2 ≤ n
structure Facts (Γ : Gm) (k : Ck) (B : Bd) (X : Cx) (n : Nat) : Prop where
  S : Sx B X n
  hN : X.N = k.N
  sc : X.env.scope = k.sc
  fn : ∀ x, k.fn x = true → X.fn x = true
  calm : X.calm = true
  top : k.top = true → X.stack = X.env :: X.outer ∧ X.env.frame = some X.env.locals
  kind : X.env.scope.kind = .function
  g : GF Γ B X n
/-! ### the same facts at another place -/
theorem FnIs.move {B B' : Bd} {X X' : Cx} {n f j : Nat} {fa : Addr} (h : FnIs B X n f fa j) (e1 : B'.T = B.T) (e2 : B'.G = B.G) (e3 : X'.prog = X.prog) (e4 : X'.w = X.w) (e5 : X'.K = X.K) (e6 : X'.mg = X.mg) (e7 : X'.base = X.base) : FnIs B' X' n f fa j :=
  ⟨by rw [e5]; exact h.keep, by rw [e1, e2, e3, e4, e5, e6, e7]; exact h.ok⟩
theorem GF.move {Γ : Gm} {B B' : Bd} {X X' : Cx} {n : Nat} (h : GF Γ B X n) (e1 : B'.T = B.T) (e2 : B'.G = B.G) (e3 : X'.prog = X.prog) (e4 : X'.w = X.w) (e5 : X'.K = X.K) (e6 : X'.mg = X.mg) (e7 : X'.base = X.base) : GF Γ B' X' n where
  fns := fun e he => by
    obtain ⟨fa, h1, h2⟩ := h.fns e he
    exact ⟨fa, by rw [e6]; exact h1, fun j a b => (h2 j a b).move e1 e2 e3 e4 e5 e6 e7⟩
  mts := fun e he => by
    obtain ⟨fa, h2⟩ := h.mts e he
    exact ⟨fa, fun j a b => let z := h2 j a b; ⟨z.fn.move e1 e2 e3 e4 e5 e6 e7, by rw [e1]; exact z.cls, by rw [e5, e1]; exact z.at_, by rw [e1]; exact z.no⟩⟩
  inis := fun e he => by
    obtain ⟨h1, h2⟩ := h.inis e he
    exact ⟨by rw [e6, e1]; exact h1, fun j a b => let z := h2 j a b; ⟨by rw [e1]; exact z.cls, by rw [e1, e2, e3, e4, e5, e6, e7]; exact z.ok⟩⟩
  exc0 := fun e he => by rw [e1, e5, e6]; exact h.exc0 e he
  exc1 := fun e he => by rw [e1, e3, e4, e5, e6, e7]; exact h.exc1 e he
  excs := fun e he => by rw [e1, e5, e6]; exact h.excs e he
  xfs := fun e he => by rw [e1, e5]; exact h.xfs e he
  cons := fun e he => by
    obtain ⟨v, u, h1, h2, h3⟩ := (h.cons e he).ex
    exact ⟨v, u, by rw [e6]; exact h1, h2, by rw [e1]; exact h3⟩
  flds := fun e he => by rw [e1]; exact h.flds e he
  bis := fun e he => by rw [e6]; exact h.bis e he
  kit := by rw [e5]; exact h.kit
  big := h.big
theorem Facts.blk {Γ : Gm} {k : Ck} {B : Bd} {X : Cx} {n : Nat} (F : Facts Γ k B X n) {scope : Scope} (hk : scope.kind = .function) : InBlk X scope fun Y => Facts Γ (k.blk scope) B.blk Y n := fun s H C cl fp =>
  ⟨blk_sx F.S s H scope _ fp, F.hN, by show relS scope X.env.scope = relS scope k.sc; rw [F.sc], fun x h => h, F.calm, (fun z => by cases z), (by
    show (relS scope X.env.scope).kind = .function
    exact hk), F.g.move rfl rfl rfl rfl rfl rfl rfl⟩
section
variable {Γ : Gm} {k : Ck} {B : Bd} {X : Cx} {n : Nat}
theorem Facts.gl (F : Facts Γ k B X n) {x : Str} (h : k.gl x = true) : Gl X x ∧ (x == ("__debug__" : Str)) = false := by
  unfold Ck.gl at h
  obtain ⟨h1, h2⟩ := Bool.and_eq_true_iff.mp h
  refine ⟨?_, by simpa using h2⟩
  show X.env.scope.names.lookup x = _
  rw [F.sc]
  unfold Ck.kd at h1
  split at h1
  · assumption
  · cases h1
theorem Facts.nm (F : Facts Γ k B X n) {x : Str} {i : Nat} (h : k.nm x i = true) : X.N[i]? = some x ∧ Vis X.env.scope x ∧ (x == ("__debug__" : Str)) = false ∧ (x == ("__classdict__" : Str)) = false := by
  unfold Ck.nm at h
  simp only [Bool.and_eq_true, decide_eq_true_eq, Bool.not_eq_true'] at h
  obtain ⟨h1, h2, h3, h4⟩ := h
  refine ⟨by rw [F.hN]; exact h1, ?_, h3, h4⟩
  unfold Ck.vis Ck.kd at h2
  unfold Vis
  rw [F.sc]
  split at h2
  · exact .inl (by assumption)
  · exact .inr (.inl (by assumption))
  · exact .inr (.inr (by assumption))
  · cases h2
theorem Facts.tg (F : Facts Γ k B X n) {x : Str} {i : Nat} (h : k.tg x i = true) : X.N[i]? = some x ∧ L2.Loc X.env.scope x ∧ (X.fn x = true ∨ X.env.scope.names.lookup x = some .local) := by
  unfold Ck.tg at h
  simp only [Bool.and_eq_true, decide_eq_true_eq] at h
  obtain ⟨h1, h2⟩ := h
  refine ⟨by rw [F.hN]; exact h1, ?_⟩
  unfold Ck.kd at h2
  unfold L2.Loc
  rw [F.sc]
  split at h2
  · rename_i e; exact ⟨.inl e, .inr e⟩
  · rename_i e; exact ⟨.inr e, .inl (F.fn x h2)⟩
  · cases h2
theorem star_of {e : Expr} (h : notStar e = true) : ∀ v q, e ≠ .Starred v q := fun v q z => by subst z; cases h
theorem stars_of {es : List Expr} (h : es.all notStar = true) : ∀ e ∈ es, ∀ v q, e ≠ .Starred v q := fun e m => star_of (List.all_eq_true.mp h e m)
theorem c0_of {a : Expr} (h : notC0 a = true) : ∀ x q q', a ≠ .Call (.Name x q) [] [] q' := fun x q q' z => by subst z; cases h
theorem set_of {a : Expr} (h : notSet a = true) (env : PySem.Env) : ∀ x, foldedSetIterable a env x = pure x := fun x => by cases a <;> first | rfl | cases h
theorem ix_of {b : Expr} (h : plainIx b = true) : PlainIx b := by
  cases b <;> first | exact fun _ _ => rfl | cases h
theorem stm_of {apos p : Pos} {es : List Expr} (h : stm apos p es = true) : StmCall apos p es := by
  unfold stm at h
  simp only [Bool.and_eq_true, decide_eq_true_eq] at h
  exact ⟨h.1, h.2.1, stars_of h.2.2⟩
theorem Facts.bi (F : Facts Γ k B X n) {x : Str} {f : Value} (h : Γ.bi k x = true) (hb : bootBuiltins x = some f) : BiName X x f := by
  unfold Gm.bi at h
  simp only [Bool.and_eq_true, Bool.not_eq_true'] at h
  obtain ⟨h1, h2, h3⟩ := h
  obtain ⟨g1, g2⟩ := F.gl h2
  exact ⟨g1, F.g.bis x (by simpa using h1), hb, by simpa using h3, g2⟩
theorem Facts.fnIs (F : Facts Γ k B X n) {x : Str} {f j : Nat} (h : Γ.fn x f j = true) : ∃ fa, X.mg x = some (.ref fa) ∧ FnIs B X n f fa j := by
  unfold Gm.fn at h
  obtain ⟨e, m, q⟩ := List.any_eq_true.mp h
  simp only [Bool.and_eq_true, decide_eq_true_eq, beq_iff_eq] at q
  obtain ⟨rfl, rfl, q1, q2⟩ := q
  obtain ⟨fa, h1, h2⟩ := F.g.fns e m
  exact ⟨fa, h1, h2 j q1 q2⟩
theorem Facts.mtIs (F : Facts Γ k B X n) {c f j : Nat} {m : Str} (h : Γ.mt c m f j = true) : ∃ fa, MethIs B X n c f m fa j := by
  unfold Gm.mt at h
  obtain ⟨e, me, q⟩ := List.any_eq_true.mp h
  simp only [Bool.and_eq_true, decide_eq_true_eq, beq_iff_eq] at q
  obtain ⟨rfl, rfl, rfl, q1, q2⟩ := q
  obtain ⟨fa, h2⟩ := F.g.mts e me
  exact ⟨fa, h2 j q1 q2⟩
theorem Facts.iniIs (F : Facts Γ k B X n) {x : Str} {c j : Nat} (h : Γ.ini x c j = true) : X.mg x = some (.ref (B.T.adr c)) ∧ IniIs B X n c j := by
  unfold Gm.ini at h
  obtain ⟨e, m, q⟩ := List.any_eq_true.mp h
  simp only [Bool.and_eq_true, decide_eq_true_eq, beq_iff_eq] at q
  obtain ⟨rfl, rfl, q1, q2⟩ := q
  obtain ⟨h1, h2⟩ := F.g.inis e m
  exact ⟨h1, h2 j q1 q2⟩
theorem Facts.fl (F : Facts Γ k B X n) {c f : Nat} {x : Str} (h : Γ.fl c f x = true) : ClsAt B.T c ∧ (B.T.flds c)[f]? = some x := by
  unfold Gm.fl at h
  obtain ⟨e, m, q⟩ := List.any_eq_true.mp h
  simp only [Bool.and_eq_true, decide_eq_true_eq, beq_iff_eq] at q
  obtain ⟨rfl, q1⟩ := q
  obtain ⟨h1, h2⟩ := F.g.flds e m
  exact ⟨h2, by rw [h1]; exact q1⟩
theorem Facts.con (F : Facts Γ k B X n) {x : Str} {d : D} (h : Γ.con x d = true) : ConIs B X x d := by
  unfold Gm.con at h
  obtain ⟨e, m, q⟩ := List.any_eq_true.mp h
  simp only [Bool.and_eq_true, decide_eq_true_eq] at q
  obtain ⟨rfl, q1⟩ := q
  rw [← dEq_ok q1]
  exact F.g.cons e m
theorem fine_of {s : Txt} (h : fineB s = true) : Fine s := by
  unfold fineB at h
  simp only [Bool.and_eq_true, decide_eq_true_eq] at h
  exact h
theorem own_of {N : List Str} : ∀ {own : List Nat} {r : List (Str × Nat)}, ownP N own = some r → r.map (·.2) = own
  | [], r, h => by cases h; rfl
  | i :: is, r, h => by
    unfold ownP at h
    split at h
    · rename_i x r' e1 e2
      cases h
      show i :: r'.map (·.2) = i :: is
      rw [own_of e2]
    · cases h
theorem Facts.blkOk (F : Facts Γ k B X n) {scope : Scope} {own : List Nat} (h : blkB k scope own = true) : ∃ r, BlkOk X.N X.env.scope scope r ∧ r.map (·.2) = own := by
  unfold blkB at h
  split at h
  · rename_i r e
    refine ⟨r, ?_, own_of e⟩
    rw [F.hN, F.sc]
    exact blkOk_by h
  · cases h
/-- evaluated arguments are as many as are written -/
theorem evs_len {G : Cfg} : ∀ {es : CEs} {env : Env} {L L' : List Cell} {ds : List D}, evs G es env L = .ok ds L' → ds.length = es.count
  | .nil, env, L, L', ds, h => by cases h; rfl
  | .cons e es, env, L, L', ds, h => by
    have h' : ((ev G e env L).bind fun x L => (evs G es env L).bind fun xs L => .ok (x :: xs) L) = .ok ds L' := h
    cases r1 : ev G e env L with
    | ok x L1 =>
      rw [r1] at h'
      have h2 : ((evs G es env L1).bind fun xs L => .ok (x :: xs) L) = .ok ds L' := h'
      cases r2 : evs G es env L1 with
      | ok xs L2 =>
        rw [r2] at h2
        cases h2
        show xs.length + 1 = es.count + 1
        rw [evs_len r2]
      | exc c vs L2 => rw [r2] at h2; cases h2
      | bad => rw [r2] at h2; cases h2
    | exc c vs L1 => rw [r1] at h'; cases h'
    | bad => rw [r1] at h'; cases h'
theorem evOs_len {G : Cfg} : ∀ {es : COs} {env : Env} {L L' : List Cell} {ds : List D}, evOs G es env L = .ok ds L' → ds.length = es.count
  | .nil, env, L, L', ds, h => by cases h; rfl
  | .cons e es, env, L, L', ds, h => by
    have h' : ((evO G e env L).bind fun x L => (evOs G es env L).bind fun xs L => .ok (x :: xs) L) = .ok ds L' := h
    cases r1 : evO G e env L with
    | ok x L1 =>
      rw [r1] at h'
      have h2 : ((evOs G es env L1).bind fun xs L => .ok (x :: xs) L) = .ok ds L' := h'
      cases r2 : evOs G es env L1 with
      | ok xs L2 =>
        rw [r2] at h2
        cases h2
        show xs.length + 1 = es.count + 1
        rw [evOs_len r2]
      | exc c vs L2 => rw [r2] at h2; cases h2
      | bad => rw [r2] at h2; cases h2
    | exc c vs L1 => rw [r1] at h'; cases h'
    | bad => rw [r1] at h'; cases h'
/-- a test, or a value -/
def Jd (t : Bool) (B : Bd) (X : Cx) (e : Expr) (c : CE) : Prop := match t with
  | true => PT X e (tTs B c)
  | false => PE X e (tEv B c)
theorem jd_of {t : Bool} {e : Expr} {c : CE} (S : Sx B X n) (ht : plainT e = true) (h : PE X e (tEv B c)) : Jd t B X e c := by
  cases t with
  | false => exact h
  | true =>
    refine t_of S h fun whole => ?_
    cases e with
    | UnaryOp op a p => cases op <;> first | rfl | cases ht
    | BoolOp _ _ _ => cases ht
    | IfExp _ _ _ _ => cases ht
    | Compare _ _ _ _ => cases ht
    | _ => rfl
end
end Wa

set_option Elab.async false
set_option linter.all false
set_option maxRecDepth 100000
set_option maxHeartbeats 4000000
/-! WaChk3: code that stands in the text does what it says: expressions, by recursion. -/
namespace Wa
open PySem PySem.Spec PyProof.Rows L2

section
variable {Γ : Gm}
mutual
theorem cT_ok : ∀ (t : CT) (k : Ck) (e : Expr), cT t k e = true → ∀ {B : Bd} {X : Cx} {n : Nat}, Facts Γ k B X n → PG X e (tPat B t)
  | .v i, k, e, h, B, X, n, F => by
    unfold cT at h
    split at h
    · obtain ⟨h1, h2, h3⟩ := F.tg h
      exact g_v F.S.nd h1 h2 h3
    · cases h
  | .tup ts, k, e, h, B, X, n, F => by
    unfold cT at h
    split at h
    · rename_i es _ _
      obtain ⟨h1, h2⟩ := Bool.and_eq_true_iff.mp h
      exact g_tup F.S F.calm (cTs_ok ts k es h2 F) (of_decide_eq_true h1) (cTs_star ts k es h2)
    · cases h
theorem cTs_ok : ∀ (ts : CTs) (k : Ck) (es : List Expr), cTs ts k es = true → ∀ {B : Bd} {X : Cx} {n : Nat}, Facts Γ k B X n → PGs X es (tPats B ts)
  | .nil, k, es, h, B, X, n, F => by
    cases es with
    | nil => exact g_nil
    | cons _ _ => cases h
  | .cons t ts, k, es, h, B, X, n, F => by
    cases es with
    | nil => cases h
    | cons e es =>
      have h' : (notStar e && (cT t k e && cTs ts k es)) = true := h
      simp only [Bool.and_eq_true] at h'
      exact g_cons (cT_ok t k e h'.2.1 F) (cTs_ok ts k es h'.2.2 F) (star_of h'.1)
theorem cTs_star : ∀ (ts : CTs) (k : Ck) (es : List Expr), cTs ts k es = true → ∀ e ∈ es, ∀ v q, e ≠ .Starred v q
  | .nil, k, es, h => by
    cases es with
    | nil => intro e m; cases m
    | cons _ _ => cases h
  | .cons t ts, k, es, h => by
    cases es with
    | nil => cases h
    | cons e es =>
      have h' : (notStar e && (cT t k e && cTs ts k es)) = true := h
      simp only [Bool.and_eq_true] at h'
      intro x m
      rcases List.mem_cons.mp m with rfl | m
      · exact star_of h'.1
      · exact cTs_star ts k es h'.2.2 x m
end
theorem nm_pe {k : Ck} {B : Bd} {X : Cx} {n : Nat} (F : Facts Γ k B X n) {i : Nat} {e : Expr} (h : k.nmE e i = true) : PE X e (tEvO B (.pk i)) := by
  unfold Ck.nmE at h
  split at h
  · obtain ⟨h1, h2, h3, h4⟩ := F.nm h
    exact s_pk F.S h1 h2 h3 h4
  · cases h
theorem star_m {es : List Expr} (h : es.all notStar = true) : ∀ y ∈ es, ∀ v q, y ≠ .Starred v q := stars_of h
theorem pw_of_pt {X : Cx} {o : BoolOp} {es : List Expr} {p : Pos} {t : TT} (h : PT X (.BoolOp o es p) t) : PW X (.BoolOp o es p) t := ⟨fun wh pins s σ H Q I q => h.run pins s σ H Q I q⟩
/-- an operand: read; walked; alone among arguments -/
structure COk (B : Bd) (X : Cx) (e : Expr) (c : CO) : Prop where
  o : PE X e (tEvO B c)
  fx : ∀ fx : Bool, fxOk c fx = true → PE X e (tEvF B fx c)
  pa : (∀ v q, e ≠ .Starred v q) → PA X [e] (tEvOs B (.cons c .nil))
theorem cok_e {B : Bd} {X : Cx} {e : Expr} {c : CE} (h : PE X e (tEv B c)) : COk B X e (.e c) := ⟨s_O h, fun fx _ => s_fx h, fun hs => o_consE h o_nil hs⟩
theorem cok_p {B : Bd} {X : Cx} {e : Expr} {i : Nat} (h : PE X e (tEvO B (.pk i))) : COk B X e (.pk i) := ⟨h, (fun fx hf => by
  cases fx with
  | false => exact s_fp h
  | true => cases hf), fun hs => o_consP h o_nil hs⟩
mutual
theorem cE_ok : ∀ (c : CE) (t : Bool) (k : Ck) (e : Expr), cE Γ c t k e = true → ∀ {B : Bd} {X : Cx} {n : Nat}, Facts Γ k B X n → Jd t B X e c
  | .var i, t, k, e, h, B, X, n, F => by
    unfold cE at h
    split at h
    · obtain ⟨h1, h2, h3, h4⟩ := F.nm h
      exact jd_of F.S rfl (s_var F.S h1 h2 h3 h4)
    · cases h
  | .non, t, k, e, h, B, X, n, F => by
    unfold cE at h
    split at h
    · exact jd_of F.S rfl (s_non F.S)
    · cases h
  | .bl b, t, k, e, h, B, X, n, F => by
    unfold cE at h
    split at h
    · rw [beq_iff_eq.mp h]
      exact jd_of F.S rfl (s_bl F.S)
    · cases h
  | .int i, t, k, e, h, B, X, n, F => by
    unfold cE at h
    split at h
    · rw [beq_iff_eq.mp h]
      exact jd_of F.S rfl (s_int F.S)
    · cases h
  | .str s, t, k, e, h, B, X, n, F => by
    unfold cE at h
    split at h
    · simp only [Bool.and_eq_true, decide_eq_true_eq] at h
      obtain ⟨rfl, h2⟩ := h
      exact jd_of F.S rfl (s_str F.S (fine_of h2))
    · cases h
  | .glob d, t, k, e, h, B, X, n, F => by
    unfold cE at h
    split at h
    · simp only [Bool.and_eq_true] at h
      obtain ⟨g1, g2⟩ := F.gl h.1
      exact jd_of F.S rfl (s_glob F.S g1 g2 (F.con h.2))
    · cases h
  | .tup es, t, k, e, h, B, X, n, F => by
    unfold cE at h
    split at h
    · exact jd_of F.S rfl (s_tup F.S (cEs_ok es k _ h F))
    · cases h
  | .fr f, t, k, e, h, B, X, n, F => by
    unfold cE at h
    simp only [Bool.and_eq_true] at h
    exact jd_of F.S h.1 (s_fr (cF_ok f k e h.2 F))
  | .op o a b, t, k, e, h, B, X, n, F => by
    unfold cE at h
    split at h
    · simp only [Bool.and_eq_true, decide_eq_true_eq] at h
      obtain ⟨rfl, h1, h2⟩ := h
      exact jd_of F.S rfl (s_op F.S (cO_ok a k _ h1 F).o (cO_ok b k _ h2 F).o)
    · cases h
  | .neg a, t, k, e, h, B, X, n, F => by
    unfold cE at h
    split at h
    · exact jd_of F.S rfl (s_neg F.S (cO_ok a k _ h F).o)
    · cases h
  | .cmp o a b, t, k, e, h, B, X, n, F => by
    unfold cE at h
    split at h
    · simp only [Bool.and_eq_true, decide_eq_true_eq, Bool.not_eq_true'] at h
      obtain ⟨rfl, h1, h2, h3⟩ := h
      cases t with
      | true => exact t_cmp F.S (cO_ok a k _ h1 F).o (cO_ok b k _ h2 F).o h3
      | false => exact s_cmp F.S (cO_ok a k _ h1 F).o (cO_ok b k _ h2 F).o h3
    · cases h
  | .chain o p a b c, t, k, e, h, B, X, n, F => by
    unfold cE at h
    split at h
    · simp only [Bool.and_eq_true, decide_eq_true_eq, Bool.not_eq_true'] at h
      obtain ⟨rfl, rfl, h1, h2, h3, h4⟩ := h
      cases t with
      | true => exact t_chain F.S (cO_ok a k _ h1 F).o (cO_ok b k _ h2 F).o (cO_ok c k _ h3 F).o h4
      | false => exact s_chain F.S (cO_ok a k _ h1 F).o (cO_ok b k _ h2 F).o (cO_ok c k _ h3 F).o h4
    · cases h
  | .not a, t, k, e, h, B, X, n, F => by
    unfold cE at h
    split at h
    · have q := cE_ok a t k _ h F
      cases t with
      | true => exact t_not F.S q
      | false => exact s_not F.S q
    · cases h
  | .and a b, t, k, e, h, B, X, n, F => by
    unfold cE at h
    split at h
    · simp only [Bool.and_eq_true] at h
      obtain ⟨h1, h2⟩ := h
      have qa := cE_ok a t k _ h1 F
      split at h2
      · have qb := cE_ok b t k _ h2 F
        cases t with
        | true => exact (w_and qa (pw_and1 qb)).pt
        | false => exact s_and F.S qa (s_bool1 qb)
      · have qb := cE_ok b t k _ h2 F
        cases t with
        | true => exact (w_and qa (pw_of_pt qb)).pt
        | false => exact s_and F.S qa qb
    · cases h
  | .or a b, t, k, e, h, B, X, n, F => by
    unfold cE at h
    split at h
    · simp only [Bool.and_eq_true] at h
      obtain ⟨h1, h2⟩ := h
      have qa := cE_ok a t k _ h1 F
      split at h2
      · have qb := cE_ok b t k _ h2 F
        cases t with
        | true => exact (w_or qa (pw_or1 qb)).pt
        | false => exact s_or F.S qa (s_bool1 qb)
      · have qb := cE_ok b t k _ h2 F
        cases t with
        | true => exact (w_or qa (pw_of_pt qb)).pt
        | false => exact s_or F.S qa qb
    · cases h
  | .ite c a b, t, k, e, h, B, X, n, F => by
    unfold cE at h
    split at h
    · simp only [Bool.and_eq_true, Bool.not_eq_true'] at h
      obtain ⟨rfl, h1, h2, h3⟩ := h
      exact s_ite F.S (cE_ok c true k _ h1 F) (cE_ok a false k _ h2 F) (cE_ok b false k _ h3 F)
    · cases h
  | .ix a i, t, k, e, h, B, X, n, F => by
    unfold cE at h
    split at h
    · simp only [Bool.and_eq_true] at h
      exact jd_of F.S rfl (s_ix F.S (cO_ok a k _ h.2.1 F).o (cE_ok i false k _ h.2.2 F) (ix_of h.1))
    · cases h
  | .sl a lo hi, t, k, e, h, B, X, n, F => by
    unfold cE at h
    split at h
    · simp only [Bool.and_eq_true] at h
      exact jd_of F.S rfl (s_sl F.S (cO_ok a k _ h.1 F).o (cP_ok lo k _ h.2.1 F) (cP_ok hi k _ h.2.2 F))
    · cases h
  | .isi a ts, t, k, e, h, B, X, n, F => by
    unfold cE at h
    split at h
    · split at h
      · rename_i g
        simp only [Bool.and_eq_true, decide_eq_true_eq] at h
        obtain ⟨rfl, rfl, h1, h2, h3, h4⟩ := h
        have hx : BiName X (tagStr g) (.type g.ty) := F.bi h2 (by cases g <;> decide +kernel)
        exact jd_of F.S rfl (s_isi1 F.S F.g.kit (F.bi h1 (by decide +kernel)) hx (cO_ok a k _ h4 F).o (star_of h3))
      · cases h
    · cases h
  | .bi b es, t, k, e, h, B, X, n, F => by
    unfold cE at h
    split at h
    · rename_i o
      split at h
      · simp only [Bool.and_eq_true, decide_eq_true_eq] at h
        obtain ⟨hb, rfl, h1, h2, h3⟩ := h
        have pa : ∀ x, notStar x = true → cO Γ o k x = true → PA X [x] (tEvOs B (.cons o .nil)) := fun x hx ho => (cO_ok o k x ho F).pa (star_of hx)
        refine jd_of F.S rfl ?_
        cases b with
        | len => exact s_bi1 F.S (len_data F.S.K F.S.w) (F.bi h1 (by decide +kernel)) (pa _ h2 h3) (star_of h2)
        | all => exact s_bi1 F.S (all_data F.calm F.S.K) (F.bi h1 (by decide +kernel)) (pa _ h2 h3) (star_of h2)
        | any => exact s_bi1 F.S (any_data F.calm F.S.K) (F.bi h1 (by decide +kernel)) (pa _ h2 h3) (star_of h2)
        | sum => exact s_bi1 F.S (sum_data F.calm F.S.K) (F.bi h1 (by decide +kernel)) (pa _ h2 h3) (star_of h2)
        | int => exact s_biT F.S int_data (F.bi h1 (by decide +kernel)) (pa _ h2 h3) (star_of h2)
        | tup => exact s_biT F.S (tuple_data F.S.K) (F.bi h1 (by decide +kernel)) (pa _ h2 h3) (star_of h2)
        | _ => cases hb
      · cases h
    · cases h
  | .bm m o es, t, k, e, h, B, X, n, F => by
    unfold cE at h
    split at h
    · simp only [Bool.and_eq_true, decide_eq_true_eq] at h
      obtain ⟨rfl, h1, h2, h3, h4⟩ := h
      exact jd_of F.S rfl (s_bm F.S m (cO_ok o k _ h3 F).o (cOs_ok es k _ h4 F) (c0_of h1) (stm_of h2))
    · cases h
  | .call f es, t, k, e, h, B, X, n, F => by
    unfold cE at h
    split at h
    · rename_i x xp xs p
      simp only [Bool.and_eq_true] at h
      obtain ⟨h1, h2, h3, h4⟩ := h
      obtain ⟨g1, g2⟩ := F.gl h1
      obtain ⟨fa, m1, m2⟩ := F.fnIs h2
      refine jd_of F.S rfl ?_
      cases xs with
      | nil =>
        cases es with
        | nil => exact s_call0 F.S m2 g1 m1 g2
        | cons _ _ => cases h4
      | cons y ys => exact s_call F.S m2 g1 m1 g2 (cEs_ok es k _ h4 F) (star_m h3) fun env L ds L' q => evs_len q
    · cases h
  | .callP f es, t, k, e, h, B, X, n, F => by
    unfold cE at h
    split at h
    · rename_i x xp y ys p
      simp only [Bool.and_eq_true] at h
      obtain ⟨h1, h2, h3, h4⟩ := h
      obtain ⟨g1, g2⟩ := F.gl h1
      obtain ⟨fa, m1, m2⟩ := F.fnIs h2
      exact jd_of F.S rfl (s_callP F.S m2 g1 m1 g2 (cOs_ok es k _ h4 F) (star_m h3) fun env L ds L' q => evOs_len q)
    · cases h
  | .meth c f o es, t, k, e, h, B, X, n, F => by
    unfold cE at h
    split at h
    · rename_i x m apos ys p
      simp only [Bool.and_eq_true] at h
      obtain ⟨h1, h2, h3, h4, h5⟩ := h
      obtain ⟨fa, M⟩ := F.mtIs h1
      have sc := stm_of h3
      have mc := mcall_ok (env := X.env) (m := m) (c0_of h2) sc.line sc.few sc.star
      refine jd_of F.S rfl ?_
      cases ys with
      | nil =>
        cases es with
        | nil => exact s_meth0 F.S M mc (cE_ok o false k _ h4 F)
        | cons _ _ => cases h5
      | cons y ys => exact s_meth F.S M mc sc.star (cE_ok o false k _ h4 F) (cEs_ok es k _ h5 F) fun env L ds L' q => by rw [evs_len q]
    · cases h
  | .methP c f o es, t, k, e, h, B, X, n, F => by
    unfold cE at h
    split at h
    · rename_i x m apos y ys p
      simp only [Bool.and_eq_true] at h
      obtain ⟨h1, h2, h3, h4, h5⟩ := h
      obtain ⟨fa, M⟩ := F.mtIs h1
      have sc := stm_of h3
      exact jd_of F.S rfl (s_methP F.S M (mcall_ok (c0_of h2) sc.line sc.few sc.star) sc.star (cE_ok o false k _ h4 F) (cOs_ok es k _ h5 F) fun env L ds L' q => by rw [evOs_len q])
    · cases h
  | .make c es, t, k, e, h, B, X, n, F => by
    unfold cE at h
    split at h
    · simp only [Bool.and_eq_true] at h
      obtain ⟨h1, h2, h3, h4⟩ := h
      obtain ⟨g1, g2⟩ := F.gl h1
      obtain ⟨m1, m2⟩ := F.iniIs h2
      exact jd_of F.S rfl (s_make F.S m2 g1 m1 g2 (cEs_ok es k _ h4 F) (star_m h3) fun env L ds L' q => evs_len q)
    · cases h
  | .makeR c es, t, k, e, h, B, X, n, F => by
    unfold cE at h
    split at h
    · simp only [Bool.and_eq_true] at h
      obtain ⟨h1, h2, h3, h4⟩ := h
      obtain ⟨g1, g2⟩ := F.gl h1
      obtain ⟨m1, m2⟩ := F.iniIs h2
      exact jd_of F.S rfl (s_makeR F.S m2 g1 m1 g2 (cEs_ok es k _ h4 F) (star_m h3) fun env L ds L' q => evs_len q)
    · cases h
  | .fld o c f, t, k, e, h, B, X, n, F => by
    unfold cE at h
    split at h
    · simp only [Bool.and_eq_true] at h
      obtain ⟨h1, h2, h3⟩ := h
      obtain ⟨c1, c2⟩ := F.fl h1
      exact jd_of F.S rfl (s_fld F.S c1 c2 (cO_ok o k _ h3 F).o (c0_of h2))
    · cases h
  | .rlst es, t, k, e, h, B, X, n, F => by
    unfold cE at h
    split at h
    · exact jd_of F.S rfl (s_rlst F.S (cEs_ok es k _ h F))
    · cases h
  | .rdct, t, k, e, h, B, X, n, F => by
    unfold cE at h
    split at h
    · exact jd_of F.S rfl (s_rdct F.S)
    · cases h
theorem cEs_ok : ∀ (c : CEs) (k : Ck) (es : List Expr), cEs Γ c k es = true → ∀ {B : Bd} {X : Cx} {n : Nat}, Facts Γ k B X n → PA X es (tEvs B c)
  | .nil, k, es, h, B, X, n, F => by
    cases es with
    | nil => exact a_nil
    | cons _ _ => cases h
  | .cons c cs, k, es, h, B, X, n, F => by
    cases es with
    | nil => cases h
    | cons x xs =>
      have h' : (notStar x && (cE Γ c false k x && cEs Γ cs k xs)) = true := h
      simp only [Bool.and_eq_true] at h'
      exact a_cons (cE_ok c false k x h'.2.1 F) (cEs_ok cs k xs h'.2.2 F) (star_of h'.1)
theorem cP_ok : ∀ (c : CEo) (k : Ck) (e : Option Expr), cP Γ c k e = true → ∀ {B : Bd} {X : Cx} {n : Nat}, Facts Γ k B X n → POw B X e c
  | .none, k, e, h, B, X, n, F => by
    cases e with
    | none => exact p_none
    | some _ => cases h
  | .some c, k, e, h, B, X, n, F => by
    cases e with
    | none => cases h
    | some x => exact p_some (cE_ok c false k x h F)
theorem cTst_ok : ∀ (c : CEo) (k : Ck) (es : List Expr), cTst Γ c k es = true → ∀ {B : Bd} {X : Cx} {n : Nat}, Facts Γ k B X n → PTs X es (tTst B c)
  | .none, k, es, h, B, X, n, F => by
    cases es with
    | nil => exact ts_nil
    | cons _ _ => cases h
  | .some c, k, es, h, B, X, n, F => by
    unfold cTst at h
    split at h
    · exact ts_one (cE_ok c true k _ h F)
    · cases h
theorem cO_ok : ∀ (c : CO) (k : Ck) (e : Expr), cO Γ c k e = true → ∀ {B : Bd} {X : Cx} {n : Nat}, Facts Γ k B X n → COk B X e c
  | .e c, k, e, h, B, X, n, F => cok_e (cE_ok c false k e h F)
  | .pk i, k, e, h, B, X, n, F => cok_p (nm_pe F h)
theorem cOs_ok : ∀ (c : COs) (k : Ck) (es : List Expr), cOs Γ c k es = true → ∀ {B : Bd} {X : Cx} {n : Nat}, Facts Γ k B X n → PA X es (tEvOs B c)
  | .nil, k, es, h, B, X, n, F => by
    cases es with
    | nil => exact o_nil
    | cons _ _ => cases h
  | .cons (.e c) cs, k, es, h, B, X, n, F => by
    cases es with
    | nil => cases h
    | cons x xs =>
      have h' : (notStar x && (cE Γ c false k x && cOs Γ cs k xs)) = true := h
      simp only [Bool.and_eq_true] at h'
      exact o_consE (cE_ok c false k x h'.2.1 F) (cOs_ok cs k xs h'.2.2 F) (star_of h'.1)
  | .cons (.pk i) cs, k, es, h, B, X, n, F => by
    cases es with
    | nil => cases h
    | cons x xs =>
      have h' : (notStar x && (k.nmE x i && cOs Γ cs k xs)) = true := h
      simp only [Bool.and_eq_true] at h'
      exact o_consP (nm_pe F h'.2.1) (cOs_ok cs k xs h'.2.2 F) (star_of h'.1)
theorem cF_ok : ∀ (c : CF) (k : Ck) (e : Expr), cF Γ c k e = true → ∀ {B : Bd} {X : Cx} {n : Nat}, Facts Γ k B X n → PE X e (tNew B c)
  | .lst es, k, e, h, B, X, n, F => by
    unfold cF at h
    split at h
    · exact s_lstF F.S (cEs_ok es k _ h F)
    · cases h
  | .dct ks vs, k, e, h, B, X, n, F => by
    unfold cF at h
    split at h
    · cases ks with
      | nil =>
        cases vs with
        | nil => exact s_dct0 F.S
        | cons _ _ => cases h
      | cons _ _ => cases h
    · cases h
  | .comp own elt t it tst, k, e, h, B, X, n, F => by
    unfold cF at h
    split at h
    · simp only [Bool.and_eq_true] at h
      obtain ⟨h1, h2, h3, h4, h5, h6, h7⟩ := h
      obtain ⟨r, ok, hr⟩ := F.blkOk h1
      have FB := F.blk ok.kind
      rw [← hr]
      exact s_comp F.S F.calm ok (cI_ok it false k _ _ h4 F) (fun s H C cl fp => cT_ok t _ _ h5 (FB s H C cl fp)) (fun s H C cl fp => cTst_ok tst _ _ h6 (FB s H C cl fp)) (fun s H C cl fp => cE_ok elt false _ _ h7 (FB s H C cl fp))
        (fun i m => by rw [hr]; simpa using List.all_eq_true.mp h2 i m) (set_of h3 X.env)
    · cases h
  | .comp2 own own2 elt t it tst t2 it2 tst2, k, e, h, B, X, n, F => by
    unfold cF at h
    split at h
    · simp only [Bool.and_eq_true] at h
      obtain ⟨h1, h2, h3, h4, h5, h6, h7, h8, h9, h10, h11, h12, h13⟩ := h
      obtain ⟨r, ok, hr⟩ := F.blkOk h1
      have FB := F.blk ok.kind
      rw [← hr]
      exact s_comp2 F.S F.calm ok (fun i m => by rw [hr]; simpa using List.all_eq_true.mp h2 i m) (cI_ok it false k _ _ h7 F) (fun s H C cl fp => cT_ok t _ _ h8 (FB s H C cl fp)) (fun s H C cl fp => cTst_ok tst _ _ h9 (FB s H C cl fp))
        (fun s H C cl fp => cI_ok it2 true _ _ _ h10 (FB s H C cl fp)) (fun s H C cl fp => cT_ok t2 _ _ h11 (FB s H C cl fp)) (fun s H C cl fp => cTst_ok tst2 _ _ h12 (FB s H C cl fp)) (fun s H C cl fp => cE_ok elt false _ _ h13 (FB s H C cl fp))
        (fun i m => by rw [hr]; simpa using List.all_eq_true.mp h3 i m) (fun i m => by simpa using List.all_eq_true.mp h4 i m) (set_of h5 X.env) (fun env => set_of h6 env)
    · cases h
  | .dcomp own ck cv t it tst, k, e, h, B, X, n, F => by
    unfold cF at h
    split at h
    · simp only [Bool.and_eq_true] at h
      obtain ⟨h1, h2, h3, h4, h5, h6, h7, h8⟩ := h
      obtain ⟨r, ok, hr⟩ := F.blkOk h1
      have FB := F.blk ok.kind
      rw [← hr]
      exact s_dcomp F.S F.calm ok (cI_ok it false k _ _ h4 F) (fun s H C cl fp => cT_ok t _ _ h5 (FB s H C cl fp)) (fun s H C cl fp => cTst_ok tst _ _ h6 (FB s H C cl fp)) (fun s H C cl fp => cE_ok ck false _ _ h7 (FB s H C cl fp)) (fun s H C cl fp => cE_ok cv false _ _ h8 (FB s H C cl fp))
        (fun i m => by rw [hr]; simpa using List.all_eq_true.mp h2 i m) (set_of h3 X.env)
    · cases h
  | .bi b es, k, e, h, B, X, n, F => by
    unfold cF at h
    split at h
    · rename_i o
      split at h
      · simp only [Bool.and_eq_true, decide_eq_true_eq] at h
        obtain ⟨hb, rfl, h1, h2, h3⟩ := h
        have pa : ∀ x, notStar x = true → cO Γ o k x = true → PA X [x] (tEvOs B (.cons o .nil)) := fun x hx ho => (cO_ok o k x ho F).pa (star_of hx)
        cases b with
        | lst => exact s_biFT F.S (list_data F.calm F.S.K F.S.w) (F.bi h1 (by decide +kernel)) (pa _ h2 h3) (star_of h2)
        | dct => exact s_biFT F.S (dict_data F.S.w) (F.bi h1 (by decide +kernel)) (pa _ h2 h3) (star_of h2)
        | sorted => exact s_biF F.S (sorted_data F.calm F.S.K F.S.w (by have := F.S.un; omega)) (F.bi h1 (by decide +kernel)) (pa _ h2 h3) (star_of h2)
        | _ => cases hb
      · cases h
    · cases h
  | .op o a b, k, e, h, B, X, n, F => by
    unfold cF at h
    split at h
    · simp only [Bool.and_eq_true] at h
      obtain ⟨h1, h2, h3⟩ := h
      cases o with
      | add => exact s_opF F.S (cO_ok a k _ h2 F).o (cO_ok b k _ h3 F).o
      | _ => cases h1
    · cases h
  | .sl _ _ _, k, e, h, B, X, n, F => by cases h
theorem cI_ok : ∀ (c : CI) (fx : Bool) (k : Ck) (tg e : Expr), cI Γ c fx k tg e = true → ∀ {B : Bd} {X : Cx} {n : Nat}, Facts Γ k B X n → PI X tg e (tI B fx c)
  | .seq a, fx, k, tg, e, h, B, X, n, F => by
    unfold cI at h
    simp only [Bool.and_eq_true] at h
    exact i_seq F.S ((cO_ok a k _ h.2 F).fx fx h.1)
  | .rng (.cons (.e a) .nil), fx, k, tg, e, h, B, X, n, F => by
    unfold cI at h
    split at h
    · simp only [Bool.and_eq_true, decide_eq_true_eq] at h
      obtain ⟨rfl, h1, h2⟩ := h
      have hb := F.bi h1 (f := .type "range") (by decide +kernel)
      split at h2
      · simp only [Bool.and_eq_true] at h2
        exact i_rng1 F.S hb.gl hb.mg (cE_ok a false k _ h2.2 F) (star_of h2.1)
      · cases h2
    · cases h
  | .rng (.cons (.e a) (.cons (.e b) .nil)), fx, k, tg, e, h, B, X, n, F => by
    unfold cI at h
    split at h
    · simp only [Bool.and_eq_true, decide_eq_true_eq] at h
      obtain ⟨rfl, h1, h2⟩ := h
      have hb := F.bi h1 (f := .type "range") (by decide +kernel)
      split at h2
      · simp only [Bool.and_eq_true] at h2
        exact i_rng2 F.S hb.gl hb.mg (cE_ok a false k _ h2.2.2.1 F) (cE_ok b false k _ h2.2.2.2 F) (star_of h2.1) (star_of h2.2.1)
      · cases h2
    · cases h
  | .rng .nil, fx, k, tg, e, h, B, X, n, F => by
    unfold cI at h
    split at h <;> simp at h
  | .rng (.cons (.pk _) _), fx, k, tg, e, h, B, X, n, F => by
    unfold cI at h
    split at h <;> simp at h
  | .rng (.cons (.e _) (.cons (.pk _) _)), fx, k, tg, e, h, B, X, n, F => by
    unfold cI at h
    split at h <;> simp at h
  | .rng (.cons (.e _) (.cons (.e _) (.cons _ _))), fx, k, tg, e, h, B, X, n, F => by
    unfold cI at h
    split at h <;> simp at h
  | .enum a, fx, k, tg, e, h, B, X, n, F => by
    unfold cI at h
    split at h
    · simp only [Bool.and_eq_true, decide_eq_true_eq] at h
      obtain ⟨rfl, h1, h2, h3, h4, h5⟩ := h
      have hb := F.bi h1 (f := .type "enumerate") (by decide +kernel)
      split at h2
      · exact i_enum F.S hb.gl hb.mg ((cO_ok a k _ h5 F).fx fx h4) (star_of h3)
      · cases h2
    · cases h
  | .zip (.cons a (.cons b .nil)), fx, k, tg, e, h, B, X, n, F => by
    unfold cI at h
    split at h
    · simp only [Bool.and_eq_true, decide_eq_true_eq] at h
      obtain ⟨rfl, h1, h2, h3, h4, h5, h6, h7, h8⟩ := h
      have hb := F.bi h1 (f := .type "zip") (by decide +kernel)
      split at h2
      · exact i_zip F.S hb.gl hb.mg ((cO_ok a k _ h7 F).fx fx h5) ((cO_ok b k _ h8 F).fx fx h6) (star_of h3) (star_of h4)
      · cases h2
    · cases h
  | .zip .nil, fx, k, tg, e, h, B, X, n, F => by
    unfold cI at h
    split at h <;> simp at h
  | .zip (.cons _ .nil), fx, k, tg, e, h, B, X, n, F => by
    unfold cI at h
    split at h <;> simp at h
  | .zip (.cons _ (.cons _ (.cons _ _))), fx, k, tg, e, h, B, X, n, F => by
    unfold cI at h
    split at h <;> simp at h
  | .enumF _ _, fx, k, tg, e, h, B, X, n, F => by cases h
  | .keys _, fx, k, tg, e, h, B, X, n, F => by cases h
  | .items _, fx, k, tg, e, h, B, X, n, F => by cases h
  | .values _, fx, k, tg, e, h, B, X, n, F => by cases h
end
end
end Wa

set_option Elab.async false
set_option linter.all false
set_option maxRecDepth 100000
set_option maxHeartbeats 4000000
/-! WaChk4: statements that stand in the text. -/
namespace Wa
open PySem PySem.Spec PyProof.Rows L2

/-- which stores of a tuple's items are swapped: none where it cannot be told -/
def swOf (k : Ck) (ts vs : List Expr) : Option (Option (List Str)) :=
  if (!(ts.length == 2 || ts.length == 3) || vs.length != ts.length) = true then some none else
  if (vs.any fun | .Starred .. => true | _ => false) = true then some none else
  let line := (ts.head?.map (·.pos.line)).getD 0
  let names := ts.filterMap fun
    | .Name id pos => if k.kd id == some .local && pos.line == line then some id else none
    | _ => none
  if (names.length != ts.length || names.eraseDups.length != names.length) = true then some none else
  if vs.all (foldedForSure 8) = true then some none else
  if vs.all (constantsAlone 8) = true then none else some (some names)
/-- no stores are swapped -/
def swNone (k : Ck) : Expr → Expr → Bool
  | .Tuple ts _ _, .Tuple vs _ _ => decide (swOf k ts vs = some none)
  | .List _ _, .Tuple vs _ _ => false
  | _, _ => true
/-- stores of two, three names are swapped -/
def sw2 (k : Ck) (x y : Str) (px py : Pos) (a b : Expr) : Bool := k.loc x && (k.loc y && decide (swOf k [.Name x px, .Name y py] [a, b] = some (some [x, y])))
def sw3 (k : Ck) (x y z : Str) (px py pz : Pos) (a b c : Expr) : Bool := k.loc x && (k.loc y && (k.loc z && decide (swOf k [.Name x px, .Name y py, .Name z pz] [a, b, c] = some (some [x, y, z]))))
/-- a comprehension whose list goes straight to the name -/
def swap1 (k : Ck) (y : Str) (py : Pos) (v : Expr) (scope : Scope) : Bool := k.loc y && ((py.line == v.pos.line) && !(scope.names.any fun (n, kk) => n == y && (kk == .local || kk == .cell)))
def Gm.ex (l : List (Str × Nat)) (x : Str) (c : Nat) : Bool := l.any fun e => decide (e.1 = x) && e.2 == c
def cH (Γ : Gm) : CHs → Ck → List ExceptHandler → Bool
  | .nil, k, hds => hds.isEmpty
  | .cons c (.ret s) hs, k, hds => match hds with
    | .ExceptHandler (some (.Name x _)) none [.Return (some (.Constant (.str z) _ _)) _] _ :: hds => k.gl x && (Gm.ex Γ.excs x c && (decide (z = tx s) && (fineB s && cH Γ hs k hds)))
    | _ => false
  | .cons c (.fld i f) hs, k, hds => match hds with
    | .ExceptHandler (some (.Name x _)) (some n) [.Return (some (.Attribute (.Name n2 _) fx _)) _] _ :: hds => k.gl x && (Gm.ex Γ.excs x c && (decide (n2 = n) && (k.nm n i && (k.loc n && ((Γ.xfs.any fun e => e.1 == c && (e.2.1 == f && decide (e.2.2 = fx))) && cH Γ hs k hds)))))
    | _ => false
mutual
def cS (Γ : Gm) : CS → Ck → Stmt → Bool
  | .set t e, k, s => match s with
    | .Assign [tg] v _ => (notStar tg && (cT t k tg && (cE Γ e false k v && (noSwap v && swNone k tg v)))) ||
      (match tg, v, t, e with
        | .Tuple [.Name x px, .Name y py] _ _, .Tuple [a, b] _ _, .tup (.cons (.v i) (.cons (.v j) .nil)), .tup cs => decide (k.N[i]? = some x) && (decide (k.N[j]? = some y) && (!(i == j) && (sw2 k x y px py a b && cEs Γ cs k [a, b])))
        | .Tuple [.Name x px, .Name y py, .Name z pz] _ _, .Tuple [a, b, c] _ _, .tup (.cons (.v i) (.cons (.v j) (.cons (.v l) .nil))), .tup cs => decide (k.N[i]? = some x) && (decide (k.N[j]? = some y) && (decide (k.N[l]? = some z) && (!(i == j) && (!(i == l) && (!(j == l) && (sw3 k x y z px py pz a b c && cEs Γ cs k [a, b, c]))))))
        | _, _, _, _ => false)
    | _ => false
  | .setF i f, k, s => match s with
    | .Assign [.Name y py] v p => k.tg y i && cF Γ f k v
    | _ => false
  | .pop t i, k, s => match s with
    | .Assign [tg] (.Call (.Attribute (.Name x xp) m apos) [] [] p2) _ => decide (m = ("pop" : Str)) && (k.nm x i && ((apos.endLine == p2.line) && (cT t k tg && notStar tg)))
    | _ => false
  | .aug i o e, k, s => match s with
    | .AugAssign (.Name x _) op v _ => k.tg x i && ((match o, op with | .add, .Add => true | .sub, .Sub => true | _, _ => false) && cE Γ e false k v)
    | _ => false
  | .app i e, k, s => match s with
    | .Expr (.Call (.Attribute (.Name x xp) m apos) [v] [] p2) _ => decide (m = ("append" : Str)) && (k.nm x i && (stm apos p2 [v] && cE Γ e false k v))
    | _ => false
  | .ext i e, k, s => match s with
    | .Expr (.Call (.Attribute (.Name x xp) m apos) [v] [] p2) _ => decide (m = ("extend" : Str)) && (k.nm x i && (stm apos p2 [v] && cE Γ e false k v))
    | _ => false
  | .dupd i e, k, s => match s with
    | .Expr (.Call (.Attribute (.Name x xp) m apos) [v] [] p2) _ => decide (m = ("update" : Str)) && (k.nm x i && (stm apos p2 [v] && cE Γ e false k v))
    | _ => false
  | .dput i ck e, k, s => match s with
    | .Assign [.Subscript (.Name x xp) a _] v _ => k.nm x i && (cE Γ ck false k a && (cE Γ e false k v && noSwap v))
    | _ => false
  | .lput i ck e, k, s => match s with
    | .Assign [.Subscript (.Name x xp) a _] v _ => k.nm x i && (cE Γ ck false k a && (cE Γ e false k v && noSwap v))
    | _ => false
  | .rapp o e, k, s => match s with
    | .Expr (.Call (.Attribute a m apos) [v] [] p2) _ => decide (m = ("append" : Str)) && (notC0 a && (stm apos p2 [v] && (cE Γ o false k a && cE Γ e false k v)))
    | _ => false
  | .rput o ck e, k, s => match s with
    | .Assign [.Subscript c a _] v _ => cE Γ o false k c && (cE Γ ck false k a && (cE Γ e false k v && noSwap v))
    | _ => false
  | .rfld o c f e, k, s => match s with
    | .Assign [.Attribute a y _] v _ => Γ.fl c f y && (cE Γ o false k a && cE Γ e false k v)
    | _ => false
  | .self c f e, k, s => match s with
    | .Assign [.Attribute (.Name x _) y _] v _ => Γ.fl c f y && (k.nm x 0 && cE Γ e false k v)
    | _ => false
  | .frz _, _, _ => false
  | .ite c a b, k, s => match s with
    | .If z x y _ => cE Γ c true k z && (cSs Γ a k x && cSs Γ b k y)
    | _ => false
  | .loop t it b, k, s => match s with
    | .For tg iter body [] _ => notSet iter && (cI Γ it true k tg iter && (cT t k tg && cSs Γ b k body))
    | _ => false
  | .while c b, k, s => match s with
    | .While z body [] _ => cE Γ c true k z && cSs Γ b k body
    | _ => false
  | .ret e, k, s => match s with
    | .Return (some v) _ => cE Γ e false k v
    | _ => false
  | .retN, k, s => match s with
    | .Return none _ => true
    | _ => false
  | .expr e, k, s => match s with
    | .Expr v _ => noSwap v && cE Γ e false k v
    | _ => false
  | .raise c es, k, s => match s with
    | .Raise (some (.Call (.Name x _) [a] [] _)) none _ => k.gl x && ((match a, es with
        | .Constant (.str _) _ _, .nil => Gm.ex Γ.exc0 x c
        | _, _ => false) || (Gm.ex Γ.exc1 x c && (notStar a && (match es with
        | .cons e .nil => cE Γ e false k a
        | _ => false))))
    | _ => false
  | .pass, k, s => match s with
    | .Pass _ => true
    | _ => false
  | .brk, k, s => match s with
    | .Break _ => true
    | _ => false
  | .cont, k, s => match s with
    | .Continue _ => true
    | _ => false
  | .try_ b known hs, k, s => match s with
    | .Try body (h₀ :: hds) [] [] _ => k.top && (decide (known = Γ.known) && (cSs Γ b k body && cH Γ hs k (h₀ :: hds)))
    | _ => false
def cSs (Γ : Gm) : CSs → Ck → List Stmt → Bool
  | .nil, k, ss => ss.isEmpty
  | .cons c cs, k, ss => match c with
    | .frz _ => cSs Γ cs k ss
    | _ => match ss with
      | s :: ss => cS Γ c k s && cSs Γ cs k ss
      | [] => false
end
end Wa

set_option Elab.async false
set_option linter.all false
set_option maxRecDepth 100000
set_option maxHeartbeats 4000000
/-! WaChk5: statements that stand in the text do what they say. -/
namespace Wa
open PySem PySem.Spec PyProof.Rows L2

section
variable {Γ : Gm} {k : Ck} {B : Bd} {X : Cx} {n : Nat}
theorem Facts.inE (F : Facts Γ k B X n) (E : Ent) : Facts Γ k { B with E := E } X n := ⟨⟨F.S.K, F.S.w, F.S.nd, F.S.tk, F.S.room, F.S.po⟩, F.hN, F.sc, F.fn, F.calm, F.top, F.kind, F.g.move rfl rfl rfl rfl rfl rfl rfl⟩
theorem Facts.inT (F : Facts Γ k B X n) {W : WX} {pn : List (Addr × Obj)} {xe : Value → Shared → Prop} (tk : Takes (X.tr pn xe) W) (po : PassesOwn (model X.prog X.w) X.A X.env xe) : Facts Γ k { B with W := W } (X.tr pn xe) n :=
  ⟨⟨F.S.K, F.S.w, F.S.nd, tk, F.S.room, po⟩, F.hN, F.sc, F.fn, F.calm, F.top, F.kind, F.g.move rfl rfl rfl rfl rfl rfl rfl⟩
theorem ex_of {l : List (Str × Nat)} {x : Str} {c : Nat} (h : Gm.ex l x c = true) : (x, c) ∈ l := by
  unfold Gm.ex at h
  obtain ⟨e, m, q⟩ := List.any_eq_true.mp h
  simp only [Bool.and_eq_true, decide_eq_true_eq, beq_iff_eq] at q
  obtain ⟨e1, e2⟩ := e
  obtain ⟨rfl, rfl⟩ := q
  exact m
theorem Facts.loc (F : Facts Γ k B X n) {x : Str} (h : k.loc x = true) : X.env.scope.names.lookup x = some .local := by
  unfold Ck.loc Ck.kd at h
  rw [F.sc]
  split at h
  · assumption
  · cases h
theorem Facts.fnk (F : Facts Γ k B X n) : X.env.blockKind = .function := by
  unfold PySem.Env.blockKind
  rw [F.kind]
  rfl
theorem swOf_ok (F : Facts Γ k B X n) {ts vs : List Expr} {r : Option (List Str)} {kt k2 : Nat} {pt pt2 : Pos} (h : swOf k ts vs = some r) : swappedStores [.Tuple ts kt pt] (.Tuple vs k2 pt2) X.env = pure r := by
  have hk : ∀ id, X.env.kindOf id = k.kd id := fun id => by unfold PySem.Env.kindOf Ck.kd; rw [F.sc]
  unfold swappedStores
  simp only [F.fnk, hk, bne_self_eq_false, Bool.or_false]
  unfold swOf at h
  split at h
  · rename_i c1
    cases h
    exact if_pos c1
  · rename_i c1
    refine (if_neg c1).trans ?_
    split at h
    · rename_i c2
      cases h
      exact if_pos c2
    · rename_i c2
      refine (if_neg c2).trans ?_
      dsimp only at h ⊢
      split at h
      · rename_i c3
        cases h
        exact if_pos c3
      · rename_i c3
        refine (if_neg c3).trans ?_
        split at h
        · rename_i c4
          cases h
          exact if_pos c4
        · rename_i c4
          refine (if_neg c4).trans ?_
          split at h
          · cases h
          · rename_i c5
            cases h
            exact if_neg c5
theorem swNone_ok (F : Facts Γ k B X n) {tg v : Expr} (h : swNone k tg v = true) : swappedStores [tg] v X.env = pure none := by
  cases tg with
  | Tuple ts n1 p1 =>
    cases v with
    | Tuple vs n2 p2 => exact swOf_ok F (of_decide_eq_true h)
    | _ => rfl
  | List ts p1 =>
    cases v with
    | Tuple vs n2 p2 => cases h
    | _ => rfl
  | _ => rfl
theorem setF_ok (F : Facts Γ k B X n) {y : Str} {py p : Pos} {v : Expr} {i : Nat} {f : CF} (ht : k.tg y i = true) (h : cF Γ f k v = true) : PS X (.Assign [.Name y py] v p) (tEx B (.setF i f)) := by
  obtain ⟨t1, t2, t3⟩ := F.tg ht
  have plain : swapsWith v (some (.Name y py)) p.line X.env = pure false → PS X (.Assign [.Name y py] v p) (tEx B (.setF i f)) := fun hn => s_setF F.S (cF_ok f k v h F) t1 t2 t3 hn
  have loc : ∀ {a b c : Bool}, (X.env.blockKind == .function && X.env.kindOf y == some .local && a && b) = true → X.env.scope.names.lookup y = some .local := fun {a b c} h => by
    simp only [Bool.and_eq_true, beq_iff_eq] at h
    exact h.1.1.2
  cases v with
  | ListComp x gens scope p2 =>
    have e : swapsWith (.ListComp x gens scope p2) (some (.Name y py)) p.line X.env = pure (X.env.blockKind == .function && X.env.kindOf y == some .local && py.line == p2.line && !(scope.names.any fun (n, k) => n == y && (k == .local || k == .cell))) := rfl
    cases hb : (X.env.blockKind == .function && X.env.kindOf y == some .local && py.line == p2.line && !(scope.names.any fun (n, k) => n == y && (k == .local || k == .cell))) with
    | false => rw [hb] at e; exact plain e
    | true =>
      rw [hb] at e
      have hyl := loc (c := true) hb
      cases f with
      | comp own elt t it tst =>
        unfold cF at h
        split at h
        · rename_i e1
          cases e1
          simp only [Bool.and_eq_true] at h
          obtain ⟨h1, h2, h3, h4, h5, h6, h7⟩ := h
          obtain ⟨r, ok, hr⟩ := F.blkOk h1
          have FB := F.blk ok.kind
          rw [← hr]
          exact s_setC F.S F.calm t1 hyl e ok (cI_ok it false k _ _ h4 F) (fun s H C cl fp => cT_ok t _ _ h5 (FB s H C cl fp)) (fun s H C cl fp => cTst_ok tst _ _ h6 (FB s H C cl fp)) (fun s H C cl fp => cE_ok elt false _ _ h7 (FB s H C cl fp))
            (fun i m => by rw [hr]; simpa using List.all_eq_true.mp h2 i m) (set_of h3 X.env)
        · cases h
      | comp2 own own2 elt t it tst t2 it2 tst2 =>
        unfold cF at h
        split at h
        · rename_i e1
          cases e1
          simp only [Bool.and_eq_true] at h
          obtain ⟨h1, h2, h3, h4, h5, h6, h7, h8, h9, h10, h11, h12, h13⟩ := h
          obtain ⟨r, ok, hr⟩ := F.blkOk h1
          have FB := F.blk ok.kind
          rw [← hr]
          exact s_setC2 F.S F.calm t1 hyl e ok (fun i m => by rw [hr]; simpa using List.all_eq_true.mp h2 i m) (cI_ok it false k _ _ h7 F) (fun s H C cl fp => cT_ok t _ _ h8 (FB s H C cl fp)) (fun s H C cl fp => cTst_ok tst _ _ h9 (FB s H C cl fp))
            (fun s H C cl fp => cI_ok it2 true _ _ _ h10 (FB s H C cl fp)) (fun s H C cl fp => cT_ok t2 _ _ h11 (FB s H C cl fp)) (fun s H C cl fp => cTst_ok tst2 _ _ h12 (FB s H C cl fp)) (fun s H C cl fp => cE_ok elt false _ _ h13 (FB s H C cl fp))
            (fun i m => by rw [hr]; simpa using List.all_eq_true.mp h3 i m) (fun i m => by simpa using List.all_eq_true.mp h4 i m) (set_of h5 X.env) (fun env => set_of h6 env)
        · cases h
      | bi b es =>
        unfold cF at h
        split at h
        · cases h
        · cases h
      | _ => cases h
  | DictComp x z gens scope p2 =>
    have e : swapsWith (.DictComp x z gens scope p2) (some (.Name y py)) p.line X.env = pure (X.env.blockKind == .function && X.env.kindOf y == some .local && py.line == p2.line && !(scope.names.any fun (n, k) => n == y && (k == .local || k == .cell))) := rfl
    cases hb : (X.env.blockKind == .function && X.env.kindOf y == some .local && py.line == p2.line && !(scope.names.any fun (n, k) => n == y && (k == .local || k == .cell))) with
    | false => rw [hb] at e; exact plain e
    | true =>
      rw [hb] at e
      have hyl := loc (c := true) hb
      cases f with
      | dcomp own ck cv t it tst =>
        unfold cF at h
        split at h
        · rename_i e1
          cases e1
          simp only [Bool.and_eq_true] at h
          obtain ⟨h1, h2, h3, h4, h5, h6, h7, h8⟩ := h
          obtain ⟨r, ok, hr⟩ := F.blkOk h1
          have FB := F.blk ok.kind
          rw [← hr]
          exact s_setD F.S F.calm t1 hyl e ok (cI_ok it false k _ _ h4 F) (fun s H C cl fp => cT_ok t _ _ h5 (FB s H C cl fp)) (fun s H C cl fp => cTst_ok tst _ _ h6 (FB s H C cl fp)) (fun s H C cl fp => cE_ok ck false _ _ h7 (FB s H C cl fp)) (fun s H C cl fp => cE_ok cv false _ _ h8 (FB s H C cl fp))
            (fun i m => by rw [hr]; simpa using List.all_eq_true.mp h2 i m) (set_of h3 X.env)
        · cases h
      | bi b es =>
        unfold cF at h
        split at h
        · cases h
        · cases h
      | _ => cases h
  | SetComp _ _ _ _ =>
    cases f with
    | bi b es =>
      unfold cF at h
      split at h
      · cases h
      · cases h
    | _ => cases h
  | _ => exact plain (swaps_none rfl)
theorem swCall {f : Expr} {as : List Expr} {ks : List Keyword} {p : Pos} {env : PySem.Env} (tg : Expr) : swappedStores [tg] (.Call f as ks p) env = pure none := by
  cases tg <;> rfl
theorem cH_ok (F : Facts Γ k B X n) : ∀ {hs : CHs} {hds : List ExceptHandler}, cH Γ hs k hds = true → HsOk B X Γ.known hds hs
  | .nil, hds, h => by
    cases hds with
    | nil => exact .nil
    | cons _ _ => cases h
  | .cons c (.ret s) hs, hds, h => by
    unfold cH at h
    split at h
    · simp only [Bool.and_eq_true, decide_eq_true_eq] at h
      obtain ⟨h1, h2, rfl, h3, h4⟩ := h
      obtain ⟨g1, g2⟩ := F.gl h1
      obtain ⟨m1, m2⟩ := F.g.excs _ (ex_of h2)
      exact .ret ⟨⟨g1, g2, .inl m1⟩, m2⟩ (fine_of h3) (cH_ok F h4)
    · cases h
  | .cons c (.fld i f) hs, hds, h => by
    unfold cH at h
    split at h
    · simp only [Bool.and_eq_true, decide_eq_true_eq] at h
      obtain ⟨h1, h2, rfl, h3, h4, h5, h6⟩ := h
      obtain ⟨g1, g2⟩ := F.gl h1
      obtain ⟨m1, m2⟩ := F.g.excs _ (ex_of h2)
      obtain ⟨n1, n2, n3, n4⟩ := F.nm h3
      obtain ⟨e, me, q⟩ := List.any_eq_true.mp h5
      simp only [Bool.and_eq_true, decide_eq_true_eq, beq_iff_eq] at q
      obtain ⟨rfl, rfl, rfl⟩ := q
      obtain ⟨x1, x2, x3, x4⟩ := F.g.xfs e me
      exact .fld ⟨⟨g1, g2, .inl m1⟩, m2⟩ n1 (F.loc h4) n3 n4 x1 x2 x3 x4 (cH_ok F h6)
    · cases h
end
section
variable {Γ : Gm}
mutual
theorem cS_ok : ∀ (c : CS) (k : Ck) (s : Stmt), cS Γ c k s = true → ∀ {B : Bd} {X : Cx} {n : Nat}, Facts Γ k B X n → PS X s (tEx B c)
  | .set t e, k, s, h, B, X, n, F => by
    unfold cS at h
    split at h
    · rcases Bool.or_eq_true_iff.mp h with h | h
      · simp only [Bool.and_eq_true] at h
        obtain ⟨h1, h2, h3, h4, h5⟩ := h
        exact s_set (cE_ok e false k _ h3 F) (cT_ok t k _ h2 F) h4 (swNone_ok F h5) (star_of h1)
      · split at h
        · simp only [Bool.and_eq_true, decide_eq_true_eq, Bool.not_eq_true', beq_eq_false_iff_ne] at h
          obtain ⟨h1, h2, h3, h4, h5⟩ := h
          unfold sw2 at h4
          simp only [Bool.and_eq_true, decide_eq_true_eq] at h4
          obtain ⟨l1, l2, l3⟩ := h4
          exact s_par F.S F.calm (by rw [F.hN]; exact h1) (by rw [F.hN]; exact h2) h3 (F.loc l1) (F.loc l2) (cEs_ok _ k _ h5 F) (swOf_ok F l3)
        · simp only [Bool.and_eq_true, decide_eq_true_eq, Bool.not_eq_true', beq_eq_false_iff_ne] at h
          obtain ⟨h1, h2, h3, h4, h5, h6, h7, h8⟩ := h
          unfold sw3 at h7
          simp only [Bool.and_eq_true, decide_eq_true_eq] at h7
          obtain ⟨l1, l2, l3, l4⟩ := h7
          exact s_par3 F.S F.calm (by rw [F.hN]; exact h1) (by rw [F.hN]; exact h2) (by rw [F.hN]; exact h3) h4 h5 h6 (F.loc l1) (F.loc l2) (F.loc l3) (cEs_ok _ k _ h8 F) (swOf_ok F l4)
        · cases h
    · cases h
  | .setF i f, k, s, h, B, X, n, F => by
    unfold cS at h
    split at h
    · simp only [Bool.and_eq_true] at h
      exact setF_ok F h.1 h.2
    · cases h
  | .pop t i, k, s, h, B, X, n, F => by
    unfold cS at h
    split at h
    · simp only [Bool.and_eq_true, decide_eq_true_eq] at h
      obtain ⟨rfl, h1, h2, h3, h4⟩ := h
      obtain ⟨n1, n2, n3, n4⟩ := F.nm h1
      exact s_pop F.S n1 n2 n3 n4 h2 (cT_ok t k _ h3 F) (swCall _) (star_of h4)
    · cases h
  | .aug i o e, k, s, h, B, X, n, F => by
    unfold cS at h
    split at h
    · simp only [Bool.and_eq_true] at h
      obtain ⟨h1, h2, h3⟩ := h
      obtain ⟨t1, t2, t3⟩ := F.tg h1
      split at h2
      · exact s_augA F.S ip_add (fun x y => by cases x <;> cases y <;> rfl) t1 t2 t3 (cE_ok e false k _ h3 F)
      · exact s_augA F.S ip_sub (fun x y => by cases x <;> cases y <;> rfl) t1 t2 t3 (cE_ok e false k _ h3 F)
      · cases h2
    · cases h
  | .app i e, k, s, h, B, X, n, F => by
    unfold cS at h
    split at h
    · simp only [Bool.and_eq_true, decide_eq_true_eq] at h
      obtain ⟨rfl, h1, h2, h3⟩ := h
      obtain ⟨n1, n2, n3, n4⟩ := F.nm h1
      exact s_app F.S n1 n2 n3 n4 (stm_of h2) (cE_ok e false k _ h3 F)
    · cases h
  | .ext i e, k, s, h, B, X, n, F => by
    unfold cS at h
    split at h
    · simp only [Bool.and_eq_true, decide_eq_true_eq] at h
      obtain ⟨rfl, h1, h2, h3⟩ := h
      obtain ⟨n1, n2, n3, n4⟩ := F.nm h1
      exact s_ext F.S n1 n2 n3 n4 (stm_of h2) (cE_ok e false k _ h3 F)
    · cases h
  | .dupd i e, k, s, h, B, X, n, F => by
    unfold cS at h
    split at h
    · simp only [Bool.and_eq_true, decide_eq_true_eq] at h
      obtain ⟨rfl, h1, h2, h3⟩ := h
      obtain ⟨n1, n2, n3, n4⟩ := F.nm h1
      exact s_dupd F.S n1 n2 n3 n4 (stm_of h2) (cE_ok e false k _ h3 F)
    · cases h
  | .dput i ck e, k, s, h, B, X, n, F => by
    unfold cS at h
    split at h
    · simp only [Bool.and_eq_true] at h
      obtain ⟨h1, h2, h3, h4⟩ := h
      obtain ⟨n1, n2, n3, n4⟩ := F.nm h1
      exact s_dput F.S n1 n2 n3 n4 (cE_ok ck false k _ h2 F) (cE_ok e false k _ h3 F) h4
    · cases h
  | .lput i ck e, k, s, h, B, X, n, F => by
    unfold cS at h
    split at h
    · simp only [Bool.and_eq_true] at h
      obtain ⟨h1, h2, h3, h4⟩ := h
      obtain ⟨n1, n2, n3, n4⟩ := F.nm h1
      exact s_lput F.S n1 n2 n3 n4 (cE_ok ck false k _ h2 F) (cE_ok e false k _ h3 F) h4
    · cases h
  | .rapp o e, k, s, h, B, X, n, F => by
    unfold cS at h
    split at h
    · simp only [Bool.and_eq_true, decide_eq_true_eq] at h
      obtain ⟨rfl, h1, h2, h3, h4⟩ := h
      exact s_rapp F.S (stm_of h2) (c0_of h1) (cE_ok o false k _ h3 F) (cE_ok e false k _ h4 F)
    · cases h
  | .rput o ck e, k, s, h, B, X, n, F => by
    unfold cS at h
    split at h
    · simp only [Bool.and_eq_true] at h
      obtain ⟨h1, h2, h3, h4⟩ := h
      exact s_rput F.S (cE_ok o false k _ h1 F) (cE_ok ck false k _ h2 F) (cE_ok e false k _ h3 F) h4
    · cases h
  | .rfld o c f e, k, s, h, B, X, n, F => by
    unfold cS at h
    split at h
    · simp only [Bool.and_eq_true] at h
      obtain ⟨h1, h2, h3⟩ := h
      obtain ⟨c1, c2⟩ := F.fl h1
      exact s_rfld F.S c1 c2 (cE_ok o false k _ h2 F) (cE_ok e false k _ h3 F)
    · cases h
  | .self c f e, k, s, h, B, X, n, F => by
    unfold cS at h
    split at h
    · simp only [Bool.and_eq_true] at h
      obtain ⟨h1, h2, h3⟩ := h
      obtain ⟨c1, c2⟩ := F.fl h1
      obtain ⟨n1, n2, n3, n4⟩ := F.nm h2
      exact s_self F.S c1 c2 n1 n2 n3 n4 (cE_ok e false k _ h3 F)
    · cases h
  | .frz _, k, s, h, B, X, n, F => by cases h
  | .ite c a b, k, s, h, B, X, n, F => by
    unfold cS at h
    split at h
    · simp only [Bool.and_eq_true] at h
      obtain ⟨h1, h2, h3⟩ := h
      exact s_if (cE_ok c true k _ h1 F) (cSs_ok a k _ h2 F) (cSs_ok b k _ h3 F)
    · cases h
  | .loop t it b, k, s, h, B, X, n, F => by
    unfold cS at h
    split at h
    · simp only [Bool.and_eq_true] at h
      obtain ⟨h1, h2, h3, h4⟩ := h
      exact s_loop F.S F.calm (cI_ok it true k _ _ h2 F) (fun E => cT_ok t k _ h3 (F.inE E)) (fun E => cSs_ok b k _ h4 (F.inE E)) (set_of h1 X.env)
    · cases h
  | .while c b, k, s, h, B, X, n, F => by
    unfold cS at h
    split at h
    · simp only [Bool.and_eq_true] at h
      exact s_while F.S (cE_ok c true k _ h.1 F) (cSs_ok b k _ h.2 F)
    · cases h
  | .ret e, k, s, h, B, X, n, F => by
    unfold cS at h
    split at h
    · exact s_ret (cE_ok e false k _ h F)
    · cases h
  | .retN, k, s, h, B, X, n, F => by
    unfold cS at h
    split at h
    · exact s_retN
    · cases h
  | .expr e, k, s, h, B, X, n, F => by
    unfold cS at h
    split at h
    · simp only [Bool.and_eq_true] at h
      exact s_expr (cE_ok e false k _ h.2 F) h.1
    · cases h
  | .raise c es, k, s, h, B, X, n, F => by
    unfold cS at h
    split at h
    · simp only [Bool.and_eq_true] at h
      obtain ⟨h1, h⟩ := h
      obtain ⟨g1, g2⟩ := F.gl h1
      rcases Bool.or_eq_true_iff.mp h with h | h
      · split at h
        · obtain ⟨m1, m2, m3, m4, m5⟩ := F.g.exc0 _ (ex_of h)
          exact s_raise0 F.S F.calm ⟨g1, m1, g2, m2, ⟨_, _, _, _, PySem.F.excBase_ValueError, m3⟩, raises_own m4 m5⟩
        · cases h
      · simp only [Bool.and_eq_true] at h
        obtain ⟨h2, h3, h4⟩ := h
        split at h4
        · obtain ⟨m1, m2, m3⟩ := F.g.exc1 _ (ex_of h2)
          obtain ⟨fI, W, fd, T, z⟩ := m3
          exact s_raise1 F.S F.calm ⟨g1, m1, g2, m2, raises_own T.oex.exC T.oex.tyC, F.g.big, fI, W, fd, T, z⟩ (cE_ok _ false k _ h4 F) (star_of h3)
        · cases h4
    · cases h
  | .pass, k, s, h, B, X, n, F => by
    unfold cS at h
    split at h
    · exact s_pass
    · cases h
  | .brk, k, s, h, B, X, n, F => by
    unfold cS at h
    split at h
    · exact s_brk
    · cases h
  | .cont, k, s, h, B, X, n, F => by
    unfold cS at h
    split at h
    · exact s_cont
    · cases h
  | .try_ b known hs, k, s, h, B, X, n, F => by
    unfold cS at h
    split at h
    · simp only [Bool.and_eq_true, decide_eq_true_eq] at h
      obtain ⟨h1, rfl, h2, h3⟩ := h
      obtain ⟨t1, t2⟩ := F.top h1
      exact s_try F.S t1 t2 (fun W pn xe tk po => cSs_ok b k _ h2 (F.inT tk po)) (cH_ok F h3)
    · cases h
theorem cSs_ok : ∀ (c : CSs) (k : Ck) (ss : List Stmt), cSs Γ c k ss = true → ∀ {B : Bd} {X : Cx} {n : Nat}, Facts Γ k B X n → PSs X ss (tExs B c)
  | .nil, k, ss, h, B, X, n, F => by
    cases ss with
    | nil => exact s_nil
    | cons _ _ => cases h
  | .cons c cs, k, ss, h, B, X, n, F => by
    unfold cSs at h
    split at h
    · exact s_frz (cSs_ok cs k ss h F)
    · split at h
      · simp only [Bool.and_eq_true] at h
        exact s_cons (cS_ok c k _ h.1 F) (cSs_ok cs k _ h.2 F)
      · cases h
end
end
end Wa

set_option Elab.async false
set_option linter.all false
set_option maxRecDepth 100000
set_option maxHeartbeats 4000000
/-! WaEnd: every def of the text keeps its promise, at every depth. -/
namespace Wa
open PySem PySem.Spec PyProof.Rows L2

/-- the values of the last parameters, where j arguments are given -/
def Fn.tail (fn : Fn) (j : Nat) : List D := fn.dfl.drop (fn.dfl.length + j - fn.ps)
/-- the def number f stands at fa -/
structure FnD (Vw : View) (Tb : Tab) (Γ : Gm) (f : Nat) (fa : Addr) (fd : FuncData) (ps : List Str) : Prop where
  ex : ∃ (fn : Fn) (x qual : Str) (params : Arguments) (body : List Stmt) (scope : Scope) (dvs : List V) (kws : List (Str × V)) (N : List Str), Tb.fn f = some fn ∧ FunD Vw.K x qual params body scope dvs kws fa fd ∧ FnScope N ps scope ∧ cSs Γ fn.body ⟨N, scope, fun _ => true, true⟩ body = true ∧ fn.ps = ps.length ∧ fn.ns = N.length
structure IniD (Vw : View) (Tb : Tab) (Γ : Gm) (c : Nat) (fa : Addr) (fd : FuncData) (ps : List Str) : Prop where
  ex : ∃ (fn : Fn) (x qual : Str) (params : Arguments) (body : List Stmt) (scope : Scope) (dvs : List V) (kws : List (Str × V)) (N : List Str), Tb.ini c = some fn ∧ FunD Vw.K x qual params body scope dvs kws fa fd ∧ FnScope N ps scope ∧ cSs Γ fn.body ⟨N, scope, fun _ => true, true⟩ body = true ∧ fn.ps = ps.length ∧ fn.ns = N.length ∧ 1 ≤ fn.ps
/-- j arguments may be given -/
structure Bnd (Vw : View) (fn : Fn) (fd : FuncData) (ps : List Str) (j : Nat) : Prop where
  ex : ∃ (dvs : List V) (ds : List Value), Binds Vw.K fd ps ds ∧ Vals dvs ds ∧ j + dvs.length = ps.length ∧ ∀ F I H, Reps Vw F I H (fn.tail j) dvs
theorem replicate_get {α : Type} {n i : Nat} {a b : α} (h : (List.replicate n a)[i]? = some b) : b = a := by
  rw [List.getElem?_replicate] at h
  split at h
  · exact (Option.some.inj h).symm
  · cases h
theorem start_slot {ds : List D} {n i : Nat} {s : S} (h : slot (ds.map (fun d => some (S.val d)) ++ List.replicate n none) i = some s) : ∃ d, ds[i]? = some d ∧ s = .val d := by
  have e := slot_get h
  by_cases hi : i < ds.length
  · rw [List.getElem?_append_left (by simpa using hi), List.getElem?_map] at e
    cases e1 : ds[i]? with
    | none => rw [e1] at e; cases e
    | some d => rw [e1] at e; cases e; exact ⟨d, rfl, rfl⟩
  · rw [List.getElem?_append_right (by simpa using hi)] at e
    have := replicate_get e
    cases this
theorem start_val {vs : List V} {N : List Str} {i : Nat} {v : V} (h : vs[i]? = some v) : (L2.start N vs)[i]? = some (some v) := by
  unfold L2.start
  have hi : i < vs.length := (List.getElem?_eq_some_iff.mp h).1
  rw [List.getElem?_append_left (by simpa using hi), List.getElem?_map, h]
  rfl
/-- the names of a def at its entry -/
theorem fr_start {ro : Bool} {Vw : View} {F : Addr → Prop} {I : List Addr} {H : Hp} {L : List Cell} {ds : List D} {vs : List V} {N : List Str} (w : Wf Vw F I H L) (r : Reps Vw F I H ds vs) (hl : vs.length ≤ N.length) :
    Fr ro Vw ⟨noEx, F, I, H, noEx⟩ F I H L (L2.start N vs) (ds.map (fun d => some (S.val d)) ++ List.replicate (N.length - ds.length) none) := by
  refine ⟨w, ?_, fun i s h => ?_, fun i j s t p h1 h2 o1 _ _ _ => ?_, Step.refl, fun p z => z.elim⟩
  · unfold L2.start
    rw [List.length_append, List.length_append, List.length_map, List.length_map, List.length_replicate, List.length_replicate, r.length]
  · obtain ⟨d, hd, rfl⟩ := start_slot h
    obtain ⟨v, hv, rv⟩ := r.get hd
    exact ⟨v, start_val hv, rv⟩
  · obtain ⟨d, _, rfl⟩ := start_slot h1
    cases o1
theorem enter_eq {ps : Nat} {dfl : List D} {ns : Nat} {args : List D} (h : args.length = ps) : enter ps dfl ns args = some (args.map (fun d => some (S.val d)) ++ List.replicate (ns - ps) none) := by
  unfold enter
  dsimp only
  rw [show dfl.length + args.length - ps = dfl.length by omega, List.drop_length, List.append_nil, if_pos h]
theorem enter_tail {ps : Nat} {dfl : List D} {ns j : Nat} {args : List D} (h : args.length = j) (hl : j + (dfl.drop (dfl.length + j - ps)).length = ps) : enter ps dfl ns args = enter ps dfl ns (args ++ dfl.drop (dfl.length + j - ps)) := by
  have e : (args ++ dfl.drop (dfl.length + j - ps)).length = ps := by rw [List.length_append, h, hl]
  rw [enter_eq e]
  unfold enter
  dsimp only
  rw [h, if_pos e]
section
variable {Vw : View} {Tb : Tab} {Γ : Gm} {P : Program} {mg : Str → Option Value} {base : Heap} {turns : Nat}
/-- the context of a def's body -/
abbrev cxF (Vw : View) (P : Program) (mg : Str → Option Value) (base : Heap) := cxOf (L2.CX P Vw.w) P Vw.w Vw.K mg base
theorem fn_step {d f : Nat} {fa : Addr} {fd : FuncData} {ps : List Str} (Dd : FnD Vw Tb Γ f fa fd ps)
    (gf : ∀ (B : Bd) (X : Cx), B.T = Vw → B.G.call = callN Tb turns d → B.G.init = (orcs Tb turns d).2.init → X.prog = P → X.w = Vw.w → X.K = Vw.K → X.mg = mg → X.base = base → GF Γ B X (d + 2)) :
    FnOk P Vw.w Vw.K mg base (L2.CX P Vw.w) (d + 3) fa fd ps (spF Vw (callN Tb turns (d + 1)) f ps.length) := by
  obtain ⟨fn, x, qual, params, body, scope, dvs, kws, N, hf, FD, SC, hc, hp, hn⟩ := Dd.ex
  refine FD.ok (k := d + 2) SC (fun vs H Q E h => h.1) fun cdv A outer s H vs Q E hr hsp => ?_
  obtain ⟨hl, ro, F, I, L, ds, wf, rs, post⟩ := hsp
  have hpl : ps.length ≤ N.length := by have := congrArg List.length SC.pre; rw [List.length_take] at this; omega
  let B : Bd := ⟨Vw, ⟨noEx, F, I, H, noEx⟩, ⟨callN Tb turns d, (orcs Tb turns d).2.init, ro, turns⟩, fun c d _ H => E c d H⟩
  have post' : Post ro Vw (fun c d H => E c d H) F I H (fun F I H d v => Rep Vw F I H d v) (runFn B.G fn ds L) Q := by
    have e : callN Tb turns (d + 1) ro f ds L = runFn B.G fn ds L := by
      show (match Tb.fn f with | none => R.bad | some fn => runFn ⟨callN Tb turns d, (orcs Tb turns d).2.init, ro, turns⟩ fn ds L) = _
      rw [hf]
    rw [← e]
    exact post
  have fc : Facts Γ ⟨N, scope, fun _ => true, true⟩ B (cxF Vw P mg base N qual scope fa cdv A outer s H E) (d + 2) := by
    refine ⟨⟨rfl, rfl, SC.nd, takes_of rfl rfl rfl rfl, hr, passes_of rfl⟩, rfl, rfl, fun _ _ => rfl, rfl, fun _ => ⟨rfl, rfl⟩, SC.kind, gf _ _ rfl rfl rfl rfl rfl rfl rfl rfl⟩
  refine ⟨tExs B fn.body, cSs_ok fn.body _ body hc fc, ?_⟩
  have hdl : ds.length = fn.ps := by rw [rs.length, hl, hp]
  refine ⟨F, I, L, ds.map (fun d => some (S.val d)) ++ List.replicate (N.length - ds.length) none, fr_start wf rs (by rw [hl]; exact hpl), ?_⟩
  unfold runFn at post'
  rw [enter_eq hdl, hn, ← hdl] at post'
  dsimp only at post'
  cases r : exs B.G fn.body (ds.map (fun d => some (S.val d)) ++ List.replicate (N.length - ds.length) none) L with
  | ok fl env' L' =>
    rw [r] at post'
    cases fl with
    | ret v => exact fun F' I' H' σ u fr rep => post' F' I' H' u fr.st fr.wf rep
    | next => exact fun F' I' H' σ fr => post' F' I' H' .non fr.st fr.wf .non
    | brk => exact post'.elim
    | cont => exact post'.elim
  | exc c vs env' L' =>
    rw [r] at post'
    exact fun F' I' H' σ cls dd fr xr => post' F' I' H' cls dd fr.st fr.wf xr
  | bad =>
    rw [r] at post'
    exact post'.elim
/-- the names of an __init__ at its entry -/
theorem fr_ini {ro : Bool} {F : Addr → Prop} {I : List Addr} {H : Hp} {L : List Cell} {ds : List D} {rest : List V} {N : List Str} {x dx : Addr} {c : Nat} (w : Wf Vw F I H L) (r : Reps Vw F I H ds rest) (hl : rest.length + 1 ≤ N.length) (hx : H x = some (.ins (Vw.adr c) dx [])) (nf : ¬ F x) (ni : x ∉ I) :
    Fr ro Vw ⟨fun q => q = x, F, I, H, fun q => q = x⟩ F I H L (L2.start N (.ref x :: rest)) (((D.non :: ds).map (fun d => some (S.val d)) ++ List.replicate (N.length - (ds.length + 1)) none).set 0 (some (.oins c []))) := by
  have r' : Reps Vw F I H (D.non :: ds) (V.non :: rest) := .cons .non r
  refine ⟨w, ?_, fun i s h => ?_, fun i j s t p h1 h2 o1 o2 _ _ => ?_, Step.refl, fun p z => ?_⟩
  · unfold L2.start
    rw [List.length_set, List.length_append, List.length_append, List.length_map, List.length_map, List.length_replicate, List.length_replicate, List.length_cons, List.length_cons, r.length]
  · rcases slot_set h with ⟨rfl, e, _⟩ | ⟨ne, e⟩
    · cases e
      exact ⟨.ref x, start_val rfl, x, dx, [], rfl, ⟨nf, ni, .inr rfl, rfl⟩, hx, rfl, .nil⟩
    · obtain ⟨d, hd, rfl⟩ := start_slot e
      cases i with
      | zero => exact absurd rfl ne
      | succ i =>
        obtain ⟨v, hv, rv⟩ := r.get (i := i) (by simpa using hd)
        exact ⟨v, start_val (by simpa using hv), rv⟩
  · have z : ∀ {i s}, slot (((D.non :: ds).map (fun d => some (S.val d)) ++ List.replicate (N.length - (ds.length + 1)) none).set 0 (some (.oins c []))) i = some s → isOwn s = true → i = 0 := fun {i s} h o => by
      rcases slot_set h with ⟨rfl, e, _⟩ | ⟨ne, e⟩
      · rfl
      · obtain ⟨d, hd, rfl⟩ := start_slot e
        cases o
    rw [z h1 o1, z h2 o2]
  · obtain rfl : p = x := z
    exact ⟨_, hx, trivial⟩
theorem ini_step {d c : Nat} {fa : Addr} {fd : FuncData} {ps : List Str} (Dd : IniD Vw Tb Γ c fa fd ps)
    (gf : ∀ (B : Bd) (X : Cx), B.T = Vw → B.G.call = callN Tb turns d → B.G.init = (orcs Tb turns d).2.init → X.prog = P → X.w = Vw.w → X.K = Vw.K → X.mg = mg → X.base = base → GF Γ B X (d + 2)) :
    FnOk P Vw.w Vw.K mg base (L2.CX P Vw.w) (d + 3) fa fd ps (spI Vw (initN Tb turns (d + 1)) c ps.length) := by
  obtain ⟨fn, x, qual, params, body, scope, dvs, kws, N, hf, FD, SC, hc, hp, hn, h1p⟩ := Dd.ex
  refine FD.ok (k := d + 2) SC (fun vs H Q E h => h.1) fun cdv A outer s H vs Q E hr hsp => ?_
  obtain ⟨hl, ro, F, I, L, ds, xa, dx, rest, rfl, hx, nf, ni, wf, rs, post⟩ := hsp
  have hpl : ps.length ≤ N.length := by have := congrArg List.length SC.pre; rw [List.length_take] at this; omega
  have hrl : rest.length + 1 = ps.length := hl
  let B : Bd := ⟨Vw, ⟨fun q => q = xa, F, I, H, fun q => q = xa⟩, ⟨callN Tb turns d, (orcs Tb turns d).2.init, ro, turns⟩, fun c d _ H => E c d H⟩
  have e : initN Tb turns (d + 1) ro c ds L = runIni B.G fn c ds L := by
    show (match Tb.ini c with | none => R.bad | some fn => runIni ⟨callN Tb turns d, (orcs Tb turns d).2.init, ro, turns⟩ fn c ds L) = _
    rw [hf]
  rw [e] at post
  have fc : Facts Γ ⟨N, scope, fun _ => true, true⟩ B (cxF Vw P mg base N qual scope fa cdv A outer s H E) (d + 2) := by
    refine ⟨⟨rfl, rfl, SC.nd, takes_of rfl rfl rfl rfl, hr, passes_of rfl⟩, rfl, rfl, fun _ _ => rfl, rfl, fun _ => ⟨rfl, rfl⟩, SC.kind, gf _ _ rfl rfl rfl rfl rfl rfl rfl rfl⟩
  refine ⟨tExs B fn.body, cSs_ok fn.body _ body hc fc, ?_⟩
  have hdl : (D.non :: ds).length = fn.ps := by rw [List.length_cons, rs.length, hrl, hp]
  refine ⟨F, I, L, _, fr_ini (c := c) (N := N) wf rs (by rw [hrl]; exact hpl) hx nf ni, ?_⟩
  unfold runIni at post
  rw [enter_eq hdl, hn, ← hdl] at post
  dsimp only at post
  rw [show (D.non :: ds).length = ds.length + 1 from rfl] at post
  cases r : exs B.G fn.body (((D.non :: ds).map (fun d => some (S.val d)) ++ List.replicate (N.length - (ds.length + 1)) none).set 0 (some (.oins c []))) L with
  | ok fl env' L' =>
    rw [r] at post
    cases fl with
    | next =>
      dsimp only at post
      intro F' I' H' σ fr
      cases es : slot env' 0 with
      | none => rw [es] at post; exact post.elim
      | some s =>
        rw [es] at post
        cases s with
        | oins k vs =>
          dsimp only at post
          by_cases hk : k = c
          · subst hk
            rw [if_pos rfl] at post
            obtain ⟨v, ev, p, dx', fs, rfl, o, h2, h3, h4⟩ := fr.sl 0 _ es
            obtain rfl : p = xa := o.mine.2
            exact post F' I' H' dx' fs fr.st fr.wf o.nf o.ni h2 h3 h4
          · rw [if_neg hk] at post; exact post.elim
        | _ => exact post.elim
    | ret v => exact post.elim
    | brk => exact post.elim
    | cont => exact post.elim
  | exc c' vs env' L' =>
    rw [r] at post
    exact fun F' I' H' σ cls dd fr xr => post F' I' H' cls dd fr.st fr.wf xr
  | bad =>
    rw [r] at post
    exact post.elim
/-- the text, as the head tells it -/
structure Txt0 (Vw : View) (Tb : Tab) (Γ : Gm) (mg : Str → Option Value) : Prop where
  fns : ∀ e ∈ Γ.fns, ∃ fa fd ps fn, mg e.1 = some (.ref fa) ∧ PySem.W.keepIn Vw.K (.ref fa) = true ∧ FnD Vw Tb Γ e.2.1 fa fd ps ∧ Tb.fn e.2.1 = some fn ∧ ∀ j, e.2.2.1 ≤ j → j ≤ e.2.2.2 → Bnd Vw fn fd ps j
  mts : ∀ e ∈ Γ.mts, ∃ fa fd ps fn, Meth Vw.K (Vw.adr e.1) e.2.1 fa ∧ e.2.1 ∉ Vw.flds e.1 ∧ ClsAt Vw e.1 ∧ PySem.W.keepIn Vw.K (.ref fa) = true ∧ FnD Vw Tb Γ e.2.2.1 fa fd ps ∧ Tb.fn e.2.2.1 = some fn ∧ ∀ j, e.2.2.2.1 ≤ j → j ≤ e.2.2.2.2 → Bnd Vw fn fd ps j
  inis : ∀ e ∈ Γ.inis, ∃ fa fd ps fn, mg e.1 = some (.ref (Vw.adr e.2.1)) ∧ Mk Vw.K (Vw.adr e.2.1) fa ∧ ClsAt Vw e.2.1 ∧ IniD Vw Tb Γ e.2.1 fa fd ps ∧ Tb.ini e.2.1 = some fn ∧ ∀ j, e.2.2.1 ≤ j → j ≤ e.2.2.2 → Bnd Vw fn fd ps (1 + j)
  exc0 : ∀ e ∈ Γ.exc0, mg e.1 = some (.ref (Vw.adr e.2)) ∧ PySem.W.keepIn Vw.K (.ref (Vw.adr e.2)) = true ∧ PySem.W.excIn Vw.K (Vw.adr e.2) He.veBase "ValueError.__new__" = true ∧ PySem.W.subIn Vw.K (.ref (Vw.adr e.2)) (.type "BaseException") = some true ∧ PySem.W.typeIn Vw.K (.ref (Vw.adr e.2)) = some (.type "type")
  exc1 : ∀ e ∈ Γ.exc1, mg e.1 = some (.ref (Vw.adr e.2)) ∧ Vw.flds e.2 = [("word" : Str)] ∧ ∃ fI W fd, RefTxt Vw.K (Vw.adr e.2) fI W ∧ (∀ P base, FnOk P Vw.w Vw.K mg base (L2.CX P Vw.w) 1 fI fd ["self", "word"] (spR (Vw.adr e.2))) ∧ Binds Vw.K fd ["self", "word"] []
  excs : ∀ e ∈ Γ.excs, mg e.1 = some (.ref (Vw.adr e.2)) ∧ ∀ c ∈ Γ.known, PySem.W.exmOne Vw.K (.ref (Vw.adr c)) (.ref (Vw.adr e.2)) = some (subC c e.2)
  xfs : ∀ e ∈ Γ.xfs, XfC Vw.K (Vw.adr e.1) ∧ PySem.W.findIn Vw.K (.ref (Vw.adr e.1)) e.2.2 = some none ∧ (Vw.flds e.1)[e.2.1]? = some e.2.2 ∧ (Vw.flds e.1).Nodup
  cons : ∀ e ∈ Γ.cons, ∃ v u, mg e.1 = some u ∧ RelV v u ∧ ∀ F I H, Rep Vw F I H e.2 v
  flds : ∀ e ∈ Γ.flds, Vw.flds e.1 = e.2 ∧ ClsAt Vw e.1
  bis : ∀ x ∈ Γ.bis, mg x = none
  kit : KitOk Vw.K
theorem Bnd.fnIs {B : Bd} {X : Cx} {n f j : Nat} {fa : Addr} {fd : FuncData} {ps : List Str} {fn : Fn} {d : Nat} (b : Bnd Vw fn fd ps j) (hf : Tb.fn f = some fn) (hp : fn.ps = ps.length) (kp : PySem.W.keepIn Vw.K (.ref fa) = true) (e1 : B.T = Vw) (e2 : B.G.call = callN Tb turns d)
    (e3 : X.prog = P) (e4 : X.w = Vw.w) (e5 : X.K = Vw.K) (e6 : X.mg = mg) (e7 : X.base = base) (ok : FnOk P Vw.w Vw.K mg base (L2.CX P Vw.w) n fa fd ps (spF Vw (callN Tb turns d) f ps.length)) : FnIs B X n f fa j := by
  obtain ⟨dvs, ds, b1, b2, b3, b4⟩ := b.ex
  have hlen : (fn.tail j).length = dvs.length := (b4 noEx [] fun _ => none).length
  refine ⟨by rw [e5]; exact kp, fd, ps, dvs, ds, fn.tail j, by rw [e1, e2, e3, e4, e5, e6, e7]; exact ok, by rw [e5]; exact b1, b2, b3, by rw [e1]; exact b4, fun ro xs L hx => ?_⟩
  rw [e2]
  cases d with
  | zero => rfl
  | succ d =>
    show (match Tb.fn f with | none => R.bad | some fn => runFn _ fn xs L) = (match Tb.fn f with | none => R.bad | some fn => runFn _ fn (xs ++ _) L)
    rw [hf]
    show runFn _ fn xs L = runFn _ fn (xs ++ fn.tail j) L
    unfold runFn
    rw [enter_tail (j := j) hx (by have : fn.tail j = fn.dfl.drop (fn.dfl.length + j - fn.ps) := rfl; rw [← this, hlen, b3, hp])]
    rfl
theorem all_ok (X0 : Txt0 Vw Tb Γ mg) : ∀ d : Nat, (∀ f fa fd ps, FnD Vw Tb Γ f fa fd ps → FnOk P Vw.w Vw.K mg base (L2.CX P Vw.w) (d + 2) fa fd ps (spF Vw (callN Tb turns d) f ps.length)) ∧
    (∀ c fa fd ps, IniD Vw Tb Γ c fa fd ps → FnOk P Vw.w Vw.K mg base (L2.CX P Vw.w) (d + 2) fa fd ps (spI Vw (initN Tb turns d) c ps.length)) ∧
    (∀ c fa fd ps, IniD Vw Tb Γ c fa fd ps → FnOk P Vw.w Vw.K mg base (L2.CX P Vw.w) (d + 1) fa fd ps (spI Vw (orcs Tb turns d).2.init c ps.length)) := by
  have none1 : ∀ {k : Nat} {f fa fd ps}, FnOk P Vw.w Vw.K mg base (L2.CX P Vw.w) k fa fd ps (spF Vw (fun _ _ _ _ => .bad) f ps.length) := fun {k f fa fd ps} =>
    ⟨fun vs H Q E h => h.1, fun A outer s H args us vs Q E _ _ _ _ h => by obtain ⟨_, ro, F, I, L, ds, _, _, z⟩ := h; exact z.elim⟩
  have none2 : ∀ {k : Nat} {c fa fd ps}, FnOk P Vw.w Vw.K mg base (L2.CX P Vw.w) k fa fd ps (spI Vw (fun _ _ _ _ => .bad) c ps.length) := fun {k c fa fd ps} =>
    ⟨fun vs H Q E h => h.1, fun A outer s H args us vs Q E _ _ _ _ h => by obtain ⟨_, ro, F, I, L, ds, x, dx, rest, _, _, _, _, _, _, z⟩ := h; exact z.elim⟩
  intro d
  induction d with
  | zero => exact ⟨fun f fa fd ps _ => none1, fun c fa fd ps _ => none2, fun c fa fd ps _ => none2⟩
  | succ d ih =>
    obtain ⟨i1, i2, i3⟩ := ih
    have gf : ∀ (B : Bd) (X : Cx), B.T = Vw → B.G.call = callN Tb turns d → B.G.init = (orcs Tb turns d).2.init → X.prog = P → X.w = Vw.w → X.K = Vw.K → X.mg = mg → X.base = base → GF Γ B X (d + 2) := fun B X e1 e2 e2' e3 e4 e5 e6 e7 => {
      fns := fun e he => by
        obtain ⟨fa, fd, ps, fn, h1, h2, h3, h4, h5⟩ := X0.fns e he
        obtain ⟨fn', _, _, _, _, _, _, _, _, hf', _, _, _, hp', _⟩ := id h3.ex
        rw [h4] at hf'; cases hf'
        exact ⟨fa, by rw [e6]; exact h1, fun j a b => (h5 j a b).fnIs h4 hp' h2 e1 e2 e3 e4 e5 e6 e7 (i1 _ _ _ _ h3)⟩
      mts := fun e he => by
        obtain ⟨fa, fd, ps, fn, h0, h0', h0'', h2, h3, h4, h5⟩ := X0.mts e he
        obtain ⟨fn', _, _, _, _, _, _, _, _, hf', _, _, _, hp', _⟩ := id h3.ex
        rw [h4] at hf'; cases hf'
        exact ⟨fa, fun j a b => ⟨(h5 j a b).fnIs h4 hp' h2 e1 e2 e3 e4 e5 e6 e7 (i1 _ _ _ _ h3), by rw [e1]; exact h0'', by rw [e1, e5]; exact h0, by rw [e1]; exact h0'⟩⟩
      inis := fun e he => by
        obtain ⟨fa, fd, ps, fn, h1, h2, h3, h4, h5, h6⟩ := X0.inis e he
        obtain ⟨fn', _, _, _, _, _, _, _, _, hf', _, _, _, hp', _⟩ := id h4.ex
        rw [h5] at hf'; cases hf'
        refine ⟨by rw [e6, e1]; exact h1, fun j a b => ⟨by rw [e1]; exact h3, ?_⟩⟩
        obtain ⟨dvs, ds, b1, b2, b3, b4⟩ := (h6 j a b).ex
        have hlen : (fn.tail (1 + j)).length = dvs.length := (b4 noEx [] fun _ => none).length
        refine ⟨d + 1, fa, fd, ps, dvs, ds, fn.tail (1 + j), rfl, by rw [e1, e5]; exact h2, by rw [e1, e2', e3, e4, e5, e6, e7]; exact i3 _ _ _ _ h4, by rw [e5]; exact b1, b2, b3, by rw [e1]; exact b4, fun ro xs L hx => ?_⟩
        rw [e2']
        cases d with
        | zero => rfl
        | succ d =>
          cases d with
          | zero => rfl
          | succ d =>
            show (match Tb.ini e.2.1 with | none => R.bad | some fn => runIni _ fn e.2.1 xs L) = (match Tb.ini e.2.1 with | none => R.bad | some fn => runIni _ fn e.2.1 (xs ++ _) L)
            rw [h5]
            show runIni _ fn e.2.1 xs L = runIni _ fn e.2.1 (xs ++ fn.tail (1 + j)) L
            unfold runIni
            have hl : (D.non :: xs).length = 1 + j := by rw [List.length_cons, hx]; omega
            rw [enter_tail (j := 1 + j) hl (by have : fn.tail (1 + j) = fn.dfl.drop (fn.dfl.length + (1 + j) - fn.ps) := rfl; rw [← this, hlen, b3, hp'])]
            rfl
      exc0 := fun e he => by rw [e1, e5, e6]; exact X0.exc0 e he
      exc1 := fun e he => by
        rw [e1, e3, e4, e5, e6, e7]
        obtain ⟨h1, h2, fI, W, fd, h3, h4, h5⟩ := X0.exc1 e he
        exact ⟨h1, h2, fI, W, fd, h3, h4 P base, h5⟩
      excs := fun e he => by rw [e1, e5, e6]; exact X0.excs e he
      xfs := fun e he => by rw [e1, e5]; exact X0.xfs e he
      cons := fun e he => by
        obtain ⟨v, u, h1, h2, h3⟩ := X0.cons e he
        exact ⟨v, u, by rw [e6]; exact h1, h2, by rw [e1]; exact h3⟩
      flds := fun e he => by rw [e1]; exact X0.flds e he
      bis := fun x hx => by rw [e6]; exact X0.bis x hx
      kit := by rw [e5]; exact X0.kit
      big := Nat.le_add_left 2 d }
    refine ⟨fun f fa fd ps h => fn_step h gf, fun c fa fd ps h => ini_step h gf, fun c fa fd ps h => ?_⟩
    exact i2 c fa fd ps h
end
end Wa

set_option Elab.async false
set_option linter.all false
set_option maxRecDepth 100000
set_option maxHeartbeats 4000000
/-! WaLaw: from the head's facts to the text's; the law's end. -/
namespace Wa
open PySem PySem.Spec PyProof.Rows L2

/-- no list is an object of the module -/
def noLists (K : PySem.W.Frag) : Bool := K.all fun q => match q.2.cls with
  | .type t => !(t == "list")
  | _ => true
theorem noLists_ok {K : PySem.W.Frag} (h : noLists K = true) {a : Addr} {o : Obj} (e : K.lookup a = some o) : o.cls ≠ .type "list" := fun z => by
  have m := He.lookup_mem e
  have q := List.all_eq_true.mp h _ m
  rw [z] at q
  simp at q
def allTags : List Tag := [.int, .bool, .str, .tup, .lst, .dct]
def kitB (K : PySem.W.Frag) : Bool := ["NoneType", "bool", "int", "str", "tuple", "list"].all fun t => allTags.all fun c => decide (PySem.W.kitOne K (.type t) (.type c.ty) = some (kitD t c))
theorem kitB_ok {K : PySem.W.Frag} (h : kitB K = true) : KitOk K := fun t ht c => by
  have q := List.all_eq_true.mp (List.all_eq_true.mp h t ht) c (by cases c <;> simp [allTags])
  exact of_decide_eq_true q
def noatB (K : PySem.W.Frag) (C : Addr) (f : Str) : Bool := He.eqO (PySem.W.findIn K (.ref C) f) (some none)
section
variable {Vw : View} {Tb : Tab} {Γ : Gm} {turns : Nat}
/-- a def given by the head -/
theorem fnd_of {f : Nat} {fa : Addr} {fd : FuncData} {x qual : Str} {params : Arguments} {body : List Stmt} {scope : Scope} {dvs : List V} {kws : List (Str × V)} {N ps : List Str} {fn : Fn} (FD : FunD Vw.K x qual params body scope dvs kws fa fd) (hf : Tb.fn f = some fn) (SC : FnScope N ps scope)
    (hc : cSs Γ fn.body ⟨N, scope, fun _ => true, true⟩ body = true) (h1 : fn.ps = ps.length) (h2 : fn.ns = N.length) : FnD Vw Tb Γ f fa fd ps := ⟨fn, x, qual, params, body, scope, dvs, kws, N, hf, FD, SC, hc, h1, h2⟩
theorem inid_of {c : Nat} {fa : Addr} {fd : FuncData} {x qual : Str} {params : Arguments} {body : List Stmt} {scope : Scope} {dvs : List V} {kws : List (Str × V)} {N ps : List Str} {fn : Fn} (FD : FunD Vw.K x qual params body scope dvs kws fa fd) (hf : Tb.ini c = some fn) (SC : FnScope N ps scope)
    (hc : cSs Γ fn.body ⟨N, scope, fun _ => true, true⟩ body = true) (h1 : fn.ps = ps.length) (h2 : fn.ns = N.length) (h3 : 1 ≤ fn.ps) : IniD Vw Tb Γ c fa fd ps := ⟨fn, x, qual, params, body, scope, dvs, kws, N, hf, FD, SC, hc, h1, h2, h3⟩
/-- all arguments are given -/
theorem bnd_all {fn : Fn} {fd : FuncData} {ps : List Str} {n : Nat} (b : Binds Vw.K fd ps []) (h : fn.tail n = []) (hn : n = ps.length) : ∀ j, n ≤ j → j ≤ n → Bnd Vw fn fd ps j := fun j h1 h2 => by
  obtain rfl : j = n := by omega
  exact ⟨[], [], b, .nil, by rw [hn]; rfl, fun F I H => by rw [h]; exact .nil⟩
theorem bnd_ini {fn : Fn} {fd : FuncData} {ps : List Str} {n : Nat} (b : Binds Vw.K fd ps []) (h : fn.tail (1 + n) = []) (hn : 1 + n = ps.length) : ∀ j, n ≤ j → j ≤ n → Bnd Vw fn fd ps (1 + j) := fun j h1 h2 => by
  obtain rfl : j = n := by omega
  exact ⟨[], [], b, .nil, by rw [← hn]; rfl, fun F I H => by rw [h]; exact .nil⟩
/-- the law's promise at the script -/
theorem law_sp (hno : noLists Vw.K = true) {d f : Nat} (hev : ∀ ns : List Int, ns.length ≤ 63 → ∃ L', callN Tb turns d false f [.lst (ns.map D.int)] [] = .ok (.bl true) L') (H : Hp) (a : Addr) (ns : List Int) (hl : ns.length ≤ 63) (hO : Only H) (hS : SqL Vw.K H a (ns.map V.int)) :
    spF Vw (callN Tb turns d) f 1 [.ref a] H (fun v _ => v = .bl true) fun _ _ _ => False := by
  refine ⟨rfl, ?_⟩
  obtain ⟨L', e⟩ := hev ns hl
  have rd : Rd H a (.lst (ns.map V.int)) := by
    rcases hS with h | ⟨o, its, n, h1, h2, _⟩
    · exact h
    · exact absurd h2 (noLists_ok hno h1)
  refine ⟨false, fun p => p = a, [], [], [.lst (ns.map D.int)], ⟨fun p hp => ?_, fun p m => by (cases m), List.nodup_nil, rfl, fun i a c h1 h2 => by (simp at h1)⟩, .cons (.lst rfl rd (Reps.of_ints ns)) .nil, ?_⟩
  · obtain rfl : p = a := hp
    rcases rd with h | ⟨o, h⟩
    · exact ⟨_, h⟩
    · exact ⟨_, h⟩
  · rw [e]
    intro F' I' H' b st wf r
    cases r
    rfl
end
/-- what stands of the law's end: over all -/
theorem law_ok {Vw : View} {Tb : Tab} {Γ : Gm} {turns : Nat} {P : Program} {mg : Str → Option Value} {base : Heap} (X0 : Txt0 Vw Tb Γ mg) {f : Nat} {fa : Addr} {fd : FuncData} {x : Str} (Dd : FnD Vw Tb Γ f fa fd [x]) (d : Nat) :
    FnOk P Vw.w Vw.K mg base (L2.CX P Vw.w) (d + 2) fa fd [x] (spF Vw (callN Tb turns d) f 1) := (all_ok X0 d).1 f fa fd [x] Dd
theorem cx_none {P : Program} {w : World} (H : Hp) (s : Shared) (e : Value) (s' : Shared) (h : L2.CX P w [] H s (fun _ _ _ => False) e s') : False := by
  obtain ⟨a, B, H', cls, d, _, _, _, _, _, _, _, z⟩ := h
  exact z
/-! ### the Hook: the head's facts, and one Bool more; the statics are among what is looked at -/
def asW (g : Addr → Option Obj) (n : Nat) : List Addr := He.asD g n ++ [cStatics]
def obsW (n : Nat) (fa : List He.Fa) (fn : List He.DefD) (ex : PySem.W.Frag → Bool) (g : Addr → Option Obj) : He.AlD × Bool := (He.obsD fa fn (He.frG g (asW g n)), ex (He.frG g (asW g n)))
def hookW (n : Nat) (fa : List He.Fa) (fn : List He.DefD) (ex : PySem.W.Frag → Bool) : PySem.W.Hook where
  α := He.AlD × Bool
  obs := fun s => obsW n fa fn ex s.heap.get?
  val := fun _ => (He.valD fn, true)
  says := fun _ h => ∃ K : PySem.W.Frag, K.In h ∧ He.SaysD fa fn K ∧ ex K = true
  of := fun _ _ e => ⟨_, He.frG_in, congrArg (fun z : He.AlD × Bool => z.1) e, congrArg (fun z : He.AlD × Bool => z.2) e⟩
  keeps := fun _ _ _ ⟨K, hK, c, z⟩ k => ⟨K, PySem.W.Frag.In.keeps hK k, c, z⟩
theorem obsW_eq {n : Nat} {fa : List He.Fa} {fn : List He.DefD} {ex : PySem.W.Frag → Bool} {g : Addr → Option Obj} {s : Shared} (h : ∀ a, g a = s.heap.get? a) : obsW n fa fn ex g = (hookW n fa fn ex).obs s := by
  have e : g = s.heap.get? := funext h
  rw [e] <;> rfl
/-- a def that lets nothing out -/
theorem fn_cx0 {P : Program} {w : World} {K : PySem.W.Frag} {mg : Str → Option Value} {base : Heap} {k : Nat} {f : Addr} {fd : FuncData} {ps : List Str} {sp : Sp} (F : FnOk P w K mg base (L2.CX P w) k f fd ps sp) : FnOk P w K mg base L2.CX0 k f fd ps (fun vs H Q _ => sp vs H Q fun _ _ _ => False) :=
  ⟨fun vs H Q E h => F.len _ _ _ _ h, fun A outer s H args us vs Q E hr he hb hv hs => codeAny_mono (F.run A outer s H args us vs Q _ hr he hb hv hs) fun r s' q => by
    cases r with
    | error e =>
      obtain ⟨a, B, H', cls, d, _, _, _, _, _, _, _, z⟩ := q
      exact z.elim
    | ok fl => cases fl <;> exact q⟩
theorem room {d : Nat} (hd : d ≤ 120) : Room (d + 2) callerA := by
  have h1 : callerA.depth + 3 * 122 + 5 < recursionLimit := by decide +kernel
  have h2 : callerA.units + 16 * 122 + 200 < cLine := by decide +kernel
  exact ⟨rfl, by omega, by omega⟩
end Wa

set_option linter.all false
/-! WaPl: the evaluator in plain proofs: equations that go step by step. -/
namespace Wa
/-- how instances are made at a depth -/
def initP (T : Tab) (turns n : Nat) : Bool → Nat → List D → List Cell → R (List D) := (orcs T turns n).2.init
abbrev cfg (T : Tab) (turns n : Nat) (ro : Bool) : Cfg := ⟨callN T turns n, initP T turns n, ro, turns⟩
theorem call_succ {T : Tab} {turns n : Nat} {ro : Bool} {f : Nat} {args : List D} {L : List Cell} {fn : Fn} (h : T.fn f = some fn) : callN T turns (n + 1) ro f args L = runFn ⟨callN T turns n, initP T turns n, ro, turns⟩ fn args L := by
  show (match T.fn f with | none => R.bad | some fn => runFn ⟨callN T turns n, initP T turns n, ro, turns⟩ fn args L) = _
  rw [h]
theorem init_succ {T : Tab} {turns n : Nat} {ro : Bool} {c : Nat} {args : List D} {L : List Cell} {fn : Fn} (h : T.ini c = some fn) : initN T turns (n + 1) ro c args L = runIni ⟨callN T turns n, initP T turns n, ro, turns⟩ fn c args L := by
  show (match T.ini c with | none => R.bad | some fn => runIni ⟨callN T turns n, initP T turns n, ro, turns⟩ fn c args L) = _
  rw [h]
theorem initP_succ {T : Tab} {turns n : Nat} : initP T turns (n + 1) = initN T turns n := rfl
/-! ### what comes next -/
def rdV : Option S → List Cell → R D
  | some (.val d), L => .ok d L
  | _, _ => .bad
def rdP : Option S → List Cell → R D
  | some s, L => .ok (frz s) L
  | _, _ => .bad
def kTup : R (List D) → R D
  | .ok ds L => sized ds.length (.tup ds) L
  | .exc c vs L => .exc c vs L
  | .bad => .bad
def kFrz : R S → R D
  | .ok s L => .ok (frz s) L
  | .exc c vs L => .exc c vs L
  | .bad => .bad
def kOp1 (G : Cfg) (o : Op) (b : CO) (env : Env) : R D → R D
  | .ok x L => (evO G b env L).bind fun y L => opt (opD o x y) L
  | .exc c vs L => .exc c vs L
  | .bad => .bad
def kOp2 (o : Op) (x : D) : R D → R D
  | .ok y L => opt (opD o x y) L
  | .exc c vs L => .exc c vs L
  | .bad => .bad
def kCmp1 (G : Cfg) (o : Cm) (b : CO) (env : Env) : R D → R D
  | .ok x L => (evO G b env L).bind fun y L => opt ((cmpD o x (seen y L)).map .bl) L
  | .exc c vs L => .exc c vs L
  | .bad => .bad
def kCmp2 (o : Cm) (x : D) : R D → R D
  | .ok y L => opt ((cmpD o x (seen y L)).map .bl) L
  | .exc c vs L => .exc c vs L
  | .bad => .bad
def kNot : R D → R D
  | .ok x L => (opt (truth x) L).bind fun k L => .ok (.bl (!k)) L
  | .exc c vs L => .exc c vs L
  | .bad => .bad
def kAnd (G : Cfg) (b : CE) (env : Env) : R D → R D
  | .ok x L => (opt (truth x) L).bind fun k L => if k then ev G b env L else .ok x L
  | .exc c vs L => .exc c vs L
  | .bad => .bad
def kOr (G : Cfg) (b : CE) (env : Env) : R D → R D
  | .ok x L => (opt (truth x) L).bind fun k L => if k then .ok x L else ev G b env L
  | .exc c vs L => .exc c vs L
  | .bad => .bad
def kIte (G : Cfg) (a b : CE) (env : Env) : R D → R D
  | .ok x L => (opt (truth x) L).bind fun k L => if k then ev G a env L else ev G b env L
  | .exc c vs L => .exc c vs L
  | .bad => .bad
def kIteB (G : Cfg) (a b : CE) (env : Env) (L : List Cell) : Option Bool → R D
  | some true => ev G a env L
  | some false => ev G b env L
  | none => .bad
def kIx1 (G : Cfg) (i : CE) (env : Env) : R D → R D
  | .ok x L => (ev G i env L).bind fun y L => opt (ixD (seen x L) y) L
  | .exc c vs L => .exc c vs L
  | .bad => .bad
def kIx2 (x : D) : R D → R D
  | .ok y L => opt (ixD (seen x L) y) L
  | .exc c vs L => .exc c vs L
  | .bad => .bad
def kIsi (ts : List Tag) : R D → R D
  | .ok x L => opt ((isTags (seen x L) ts).map .bl) L
  | .exc c vs L => .exc c vs L
  | .bad => .bad
def kBi (b : Bi) : R (List D) → R D
  | .ok xs L => opt (leafD (biD b (xs.map fun x => seen x L))) L
  | .exc c vs L => .exc c vs L
  | .bad => .bad
def kCall (G : Cfg) (f : Nat) : R (List D) → R D
  | .ok xs L => G.call G.ro f xs L
  | .exc c vs L => .exc c vs L
  | .bad => .bad
def kCallP (G : Cfg) (f : Nat) (p : Bool) : R (List D) → R D
  | .ok xs L => lent p (G.call true f xs L) L
  | .exc c vs L => .exc c vs L
  | .bad => .bad
def kMeth1 (G : Cfg) (c f : Nat) (es : CEs) (env : Env) : R D → R D
  | .ok x L => if isCls c x L then (evs G es env L).bind fun xs L => G.call G.ro f (x :: xs) L else .bad
  | .exc c vs L => .exc c vs L
  | .bad => .bad
def kMeth2 (G : Cfg) (f : Nat) (x : D) : R (List D) → R D
  | .ok xs L => G.call G.ro f (x :: xs) L
  | .exc c vs L => .exc c vs L
  | .bad => .bad
def kMake (G : Cfg) (c : Nat) : R (List D) → R D
  | .ok xs L => (G.init G.ro c xs L).bind fun vs L => .ok (.ins c vs) L
  | .exc c vs L => .exc c vs L
  | .bad => .bad
def kIns (c : Nat) : R (List D) → R D
  | .ok vs L => .ok (.ins c vs) L
  | .exc c vs L => .exc c vs L
  | .bad => .bad
def kFld (c f : Nat) : R D → R D
  | .ok x L => opt (fldD c f x L) L
  | .exc c vs L => .exc c vs L
  | .bad => .bad
def kCons1 (G : Cfg) (es : CEs) (env : Env) : R D → R (List D)
  | .ok x L => (evs G es env L).bind fun xs L => .ok (x :: xs) L
  | .exc c vs L => .exc c vs L
  | .bad => .bad
def kCons2 (x : D) : R (List D) → R (List D)
  | .ok xs L => .ok (x :: xs) L
  | .exc c vs L => .exc c vs L
  | .bad => .bad
def kConsO1 (G : Cfg) (es : COs) (env : Env) : R D → R (List D)
  | .ok x L => (evOs G es env L).bind fun xs L => .ok (x :: xs) L
  | .exc c vs L => .exc c vs L
  | .bad => .bad
def kLst : R (List D) → R S
  | .ok ds L => sized ds.length (.olst ds) L
  | .exc c vs L => .exc c vs L
  | .bad => .bad
def kBiF (b : Bi) : R (List D) → R S
  | .ok xs L => (match biD b (xs.map fun x => seen x L) with
    | some (.lst ys) => .ok (.olst ys) L
    | some (.dct ks vs) => .ok (.odct ks vs) L
    | _ => .bad)
  | .exc c vs L => .exc c vs L
  | .bad => .bad
/-- a comprehension, what is walked being known -/
def kComp (G : Cfg) (own : List Nat) (elt : CE) (t : CT) (tst : CEo) (env : Env) : R (List D) → R S
  | .ok xs L => (nox (compL t (evB G tst) (ev G elt) (wipe env own) xs L)).bind fun ds L => sized ds.length (.olst ds) L
  | .exc c vs L => .exc c vs L
  | .bad => .bad
def kSeq : R D → R (List D)
  | .ok x L => opt (seqI x) L
  | .exc c vs L => .exc c vs L
  | .bad => .bad
def kRng : R (List D) → R (List D)
  | .ok xs L => opt (rngD xs) L
  | .exc c vs L => .exc c vs L
  | .bad => .bad
section
variable {G : Cfg} {env : Env} {L : List Cell} {a b c : CE} {x y : D} {oa ob oc : CO} {es : CEs} {os : COs}
theorem ev_var {i : Nat} : ev G (.var i) env L = rdV (slot env i) L := by
  show evVar env i L = _
  unfold evVar rdV
  cases slot env i with
  | none => rfl
  | some s => cases s <;> rfl
theorem ev_non : ev G .non env L = .ok .non L := rfl
theorem ev_bl {b : Bool} : ev G (.bl b) env L = .ok (.bl b) L := rfl
theorem ev_int {i : Int} : ev G (.int i) env L = .ok (.int i) L := rfl
theorem ev_str {s : Txt} : ev G (.str s) env L = .ok (.str s) L := rfl
theorem ev_glob {d : D} : ev G (.glob d) env L = .ok d L := rfl
theorem evO_e : evO G (.e a) env L = ev G a env L := rfl
theorem evO_pk {i : Nat} : evO G (.pk i) env L = rdP (slot env i) L := by
  show evPk env i L = _
  unfold evPk rdP
  cases slot env i with
  | none => rfl
  | some s => cases s <;> rfl
theorem ev_tup : ev G (.tup es) env L = kTup (evs G es env L) := by
  show (evs G es env L).bind _ = _
  cases evs G es env L <;> rfl
theorem ev_fr {f : CF} : ev G (.fr f) env L = kFrz (evF G f env L) := by
  show (evF G f env L).bind _ = _
  cases evF G f env L <;> rfl
theorem ev_op {o : Op} : ev G (.op o oa ob) env L = kOp1 G o ob env (evO G oa env L) := by
  show (evO G oa env L).bind _ = _
  cases evO G oa env L <;> rfl
theorem kOp1_ok {o : Op} : kOp1 G o ob env (.ok x L) = kOp2 o x (evO G ob env L) := by
  show (evO G ob env L).bind _ = _
  cases evO G ob env L <;> rfl
theorem kOp2_ok {o : Op} : kOp2 o x (.ok y L) = opt (opD o x y) L := rfl
theorem ev_cmp {o : Cm} : ev G (.cmp o oa ob) env L = kCmp1 G o ob env (evO G oa env L) := by
  show (evO G oa env L).bind _ = _
  cases evO G oa env L <;> rfl
theorem kCmp1_ok {o : Cm} : kCmp1 G o ob env (.ok x L) = kCmp2 o x (evO G ob env L) := by
  show (evO G ob env L).bind _ = _
  cases evO G ob env L <;> rfl
theorem kCmp2_ok {o : Cm} : kCmp2 o x (.ok y L) = opt ((cmpD o x (seen y L)).map .bl) L := rfl
theorem ev_not : ev G (.not a) env L = kNot (ev G a env L) := by
  show (ev G a env L).bind _ = _
  cases ev G a env L <;> rfl
theorem kNot_ok : kNot (.ok x L) = opt ((truth x).map fun k => .bl (!k)) L := by
  show (opt (truth x) L).bind _ = _
  cases truth x <;> rfl
theorem ev_and : ev G (.and a b) env L = kAnd G b env (ev G a env L) := by
  show (ev G a env L).bind _ = _
  cases ev G a env L <;> rfl
theorem kAnd_ok {k : Bool} (h : truth x = some k) : kAnd G b env (.ok x L) = if k then ev G b env L else .ok x L := by
  show (opt (truth x) L).bind _ = _
  rw [h]; rfl
theorem kAnd_bl {k : Bool} : kAnd G b env (.ok (.bl k) L) = if k then ev G b env L else .ok (.bl k) L := rfl
theorem ev_or : ev G (.or a b) env L = kOr G b env (ev G a env L) := by
  show (ev G a env L).bind _ = _
  cases ev G a env L <;> rfl
theorem kOr_bl {k : Bool} : kOr G b env (.ok (.bl k) L) = if k then .ok (.bl k) L else ev G b env L := rfl
theorem ev_ite : ev G (.ite c a b) env L = kIte G a b env (ev G c env L) := by
  show (ev G c env L).bind _ = _
  cases ev G c env L <;> rfl
theorem kIte_ok : kIte G a b env (.ok x L) = kIteB G a b env L (truth x) := by
  show (opt (truth x) L).bind _ = _
  cases truth x with
  | none => rfl
  | some k => cases k <;> rfl
theorem kIteB_t : kIteB G a b env L (some true) = ev G a env L := rfl
theorem kIteB_f : kIteB G a b env L (some false) = ev G b env L := rfl
theorem ev_ix : ev G (.ix oa b) env L = kIx1 G b env (evO G oa env L) := by
  show (evO G oa env L).bind _ = _
  cases evO G oa env L <;> rfl
theorem kIx1_ok : kIx1 G b env (.ok x L) = kIx2 x (ev G b env L) := by
  show (ev G b env L).bind _ = _
  cases ev G b env L <;> rfl
theorem kIx2_ok : kIx2 x (.ok y L) = opt (ixD (seen x L) y) L := rfl
theorem ev_isi {ts : List Tag} : ev G (.isi oa ts) env L = kIsi ts (evO G oa env L) := by
  show (evO G oa env L).bind _ = _
  cases evO G oa env L <;> rfl
theorem kIsi_ok {ts : List Tag} : kIsi ts (.ok x L) = opt ((isTags (seen x L) ts).map .bl) L := rfl
theorem ev_bi {bi : Bi} : ev G (.bi bi os) env L = kBi bi (evOs G os env L) := by
  show (evOs G os env L).bind _ = _
  cases evOs G os env L <;> rfl
theorem kBi_ok {bi : Bi} : kBi bi (.ok [x] L) = opt (leafD (bi1 bi (seen x L))) L := rfl
theorem ev_call {f : Nat} : ev G (.call f es) env L = kCall G f (evs G es env L) := by
  show (evs G es env L).bind _ = _
  cases evs G es env L <;> rfl
theorem kCall_ok {f : Nat} {xs : List D} : kCall G f (.ok xs L) = G.call G.ro f xs L := rfl
theorem ev_callP {f : Nat} : ev G (.callP f os) env L = kCallP G f (anyPk os) (evOs G os env L) := by
  show (evOs G os env L).bind _ = _
  cases evOs G os env L <;> rfl
theorem kCallP_ok {f : Nat} {p : Bool} {xs : List D} : kCallP G f p (.ok xs L) = lent p (G.call true f xs L) L := rfl
theorem ev_meth {k f : Nat} : ev G (.meth k f a es) env L = kMeth1 G k f es env (ev G a env L) := by
  show (ev G a env L).bind _ = _
  cases ev G a env L <;> rfl
theorem kMeth1_ok {k f : Nat} (h : isCls k x L = true) : kMeth1 G k f es env (.ok x L) = kMeth2 G f x (evs G es env L) := by
  show (if isCls k x L then (evs G es env L).bind _ else .bad) = _
  rw [if_pos h]
  cases evs G es env L <;> rfl
theorem kMeth1_ins {k f : Nat} {vs : List D} : kMeth1 G k f es env (.ok (.ins k vs) L) = kMeth2 G f (.ins k vs) (evs G es env L) := kMeth1_ok (by simp [isCls])
theorem kMeth2_ok {f : Nat} {xs : List D} : kMeth2 G f x (.ok xs L) = G.call G.ro f (x :: xs) L := rfl
theorem ev_make {k : Nat} : ev G (.make k es) env L = kMake G k (evs G es env L) := by
  show (evs G es env L).bind _ = _
  cases evs G es env L <;> rfl
theorem kMake_ok {k : Nat} {xs : List D} : kMake G k (.ok xs L) = kIns k (G.init G.ro k xs L) := by
  show (G.init G.ro k xs L).bind _ = _
  cases G.init G.ro k xs L <;> rfl
theorem kIns_ok {k : Nat} {xs : List D} : kIns k (.ok xs L) = .ok (.ins k xs) L := rfl
theorem ev_fld {k f : Nat} : ev G (.fld oa k f) env L = kFld k f (evO G oa env L) := by
  show (evO G oa env L).bind _ = _
  cases evO G oa env L <;> rfl
theorem kFld_ins {k f : Nat} {vs : List D} : kFld k f (.ok (.ins k vs) L) = opt (vs[f]?) L := by
  show opt (if k = k then vs[f]? else none) L = _
  rw [if_pos rfl]
theorem evs_nil : evs G .nil env L = .ok [] L := rfl
theorem evs_cons : evs G (.cons a es) env L = kCons1 G es env (ev G a env L) := by
  show (ev G a env L).bind _ = _
  cases ev G a env L <;> rfl
theorem kCons1_ok : kCons1 G es env (.ok x L) = kCons2 x (evs G es env L) := by
  show (evs G es env L).bind _ = _
  cases evs G es env L <;> rfl
theorem kCons2_ok {xs : List D} : kCons2 x (.ok xs L) = .ok (x :: xs) L := rfl
theorem evOs_nil : evOs G .nil env L = .ok [] L := rfl
theorem evOs_cons : evOs G (.cons oa os) env L = kConsO1 G os env (evO G oa env L) := by
  show (evO G oa env L).bind _ = _
  cases evO G oa env L <;> rfl
theorem kConsO1_ok : kConsO1 G os env (.ok x L) = kCons2 x (evOs G os env L) := by
  show (evOs G os env L).bind _ = _
  cases evOs G os env L <;> rfl
theorem evF_lst : evF G (.lst es) env L = kLst (evs G es env L) := by
  show (evs G es env L).bind _ = _
  cases evs G es env L <;> rfl
theorem evF_dct0 : evF G (.dct .nil .nil) env L = .ok (.odct [] []) L := rfl
theorem evF_bi {bi : Bi} : evF G (.bi bi os) env L = kBiF bi (evOs G os env L) := by
  show (evOs G os env L).bind _ = _
  cases evOs G os env L <;> rfl
theorem evF_comp {own : List Nat} {elt : CE} {t : CT} {it : CI} {tst : CEo} : evF G (.comp own elt t it tst) env L = kComp G own elt t tst env (evI G it env L) := by
  show (evI G it env L).bind _ = _
  cases evI G it env L <;> rfl
theorem evI_seq : evI G (.seq oa) env L = kSeq (evO G oa env L) := by
  show (evO G oa env L).bind _ = _
  cases evO G oa env L <;> rfl
theorem evI_rng : evI G (.rng os) env L = kRng (evOs G os env L) := by
  show (evOs G os env L).bind _ = _
  cases evOs G os env L <;> rfl
theorem kSeq_tup {xs : List D} : kSeq (.ok (.tup xs) L) = .ok xs L := rfl
theorem kSeq_lst {xs : List D} : kSeq (.ok (.lst xs) L) = .ok xs L := rfl
theorem kRng1 {n : Int} (h : small n = true) : kRng (.ok [.int n] L) = .ok (rngL 0 n.toNat) L := by
  show opt (if small n then some (rngL 0 n.toNat) else none) L = _
  rw [if_pos h]; rfl
theorem kFrz_ok {s : S} : kFrz (.ok s L) = .ok (frz s) L := rfl
theorem opt_some {α : Type} {a : α} : opt (some a) L = .ok a L := rfl
/-- a comprehension whose test and element do what is told -/
theorem compL_map {α : Type} {t : CT} {tst : Env → List Cell → R Bool} {el : Env → List Cell → R α} {env : Env} {L : List Cell} {p : D → Bool} {g : D → α} : ∀ {xs : List D}, (∀ x ∈ xs, ∃ env', t.put x env = some env' ∧ tst env' L = .ok (p x) L ∧ (p x = true → el env' L = .ok (g x) L)) → compL t tst el env xs L = .ok ((xs.filter p).map g) L
  | [], _ => rfl
  | x :: xs, h => by
    obtain ⟨env', h1, h2, h3⟩ := h x List.mem_cons_self
    have ih := compL_map (fun y m => h y (List.mem_cons_of_mem _ m))
    unfold compL
    rw [h1]
    show (tst env' L).bind _ = _
    rw [h2]
    show (if p x then _ else _) = _
    cases hp : p x with
    | true =>
      rw [if_pos rfl, h3 hp]
      show (compL t tst el env xs L).bind _ = _
      rw [ih]
      show R.ok (g x :: _) L = _
      rw [List.filter_cons_of_pos hp]
      rfl
    | false =>
      rw [if_neg (by simp), ih, List.filter_cons_of_neg (by simp [hp])]
end
/-! ### statements -/
def kSeqS (G : Cfg) (ss : CSs) : RS → RS
  | .ok .next env L => exs G ss env L
  | r => r
def kSet (t : CT) (env : Env) : R D → RS
  | .ok d L => (match t.put d env with | some env => .ok .next env L | none => .bad)
  | .exc c vs L => .exc c vs env L
  | .bad => .bad
def kSetF (i : Nat) (env : Env) : R S → RS
  | .ok s L => .ok .next (env.set i (some s)) L
  | .exc c vs L => .exc c vs env L
  | .bad => .bad
def kIteS (G : Cfg) (a b : CSs) (env : Env) : R D → RS
  | .ok x L => optS (truth x) fun k => if k then exs G a env L else exs G b env L
  | .exc c vs L => .exc c vs env L
  | .bad => .bad
def kIteSB (G : Cfg) (a b : CSs) (env : Env) (L : List Cell) : Option Bool → RS
  | some true => exs G a env L
  | some false => exs G b env L
  | none => .bad
def kRet (env : Env) : R D → RS
  | .ok d L => .ok (.ret d) env L
  | .exc c vs L => .exc c vs env L
  | .bad => .bad
def kExpr (env : Env) : R D → RS
  | .ok d L => .ok .next env L
  | .exc c vs L => .exc c vs env L
  | .bad => .bad
def bodyF (G : Cfg) (b : CSs) : Env → List Cell → RS := fun env L => exs G b env L
def condF (G : Cfg) (c : CE) : Env → List Cell → R Bool := fun env L => (ev G c env L).bind fun x L => opt (truth x) L
def kLoop (G : Cfg) (t : CT) (b : CSs) (env : Env) : R (List D) → RS
  | .ok xs L => loopS t (bodyF G b) xs env L
  | .exc c vs L => .exc c vs env L
  | .bad => .bad
def kAug (o : Op) (i : Nat) (env : Env) (x : D) : R D → RS
  | .ok y L => optS (augD o x y) fun z => .ok .next (env.set i (some (.val z))) L
  | .exc c vs L => .exc c vs env L
  | .bad => .bad
def finR : RS → R D
  | .ok (.ret d) _ L => .ok d L
  | .ok .next _ L => .ok .non L
  | .exc c vs _ L => .exc c vs L
  | _ => .bad
section
variable {G : Cfg} {env : Env} {L : List Cell} {s : CS} {ss : CSs} {e c : CE}
theorem exs_nil : exs G .nil env L = .ok .next env L := rfl
theorem exs_cons : exs G (.cons s ss) env L = kSeqS G ss (ex G s env L) := by
  show (ex G s env L).bind _ = _
  cases ex G s env L with
  | ok f env L => cases f <;> rfl
  | exc _ _ _ _ => rfl
  | bad => rfl
theorem kSeqS_next : kSeqS G ss (.ok .next env L) = exs G ss env L := rfl
theorem kSeqS_ret {d : D} : kSeqS G ss (.ok (.ret d) env L) = .ok (.ret d) env L := rfl
theorem kSeqS_exc {k : Nat} {vs : List D} : kSeqS G ss (.exc k vs env L) = .exc k vs env L := rfl
theorem ex_set {t : CT} : ex G (.set t e) env L = kSet t env (ev G e env L) := by
  show within env (ev G e env L) _ = _
  cases ev G e env L with
  | ok d L =>
    show optS (t.put d env) _ = _
    cases h : t.put d env with
    | none => simp [kSet, optS, h]
    | some env' => simp [kSet, optS, h]
  | exc _ _ _ => rfl
  | bad => rfl
theorem kSet_v {i : Nat} {d : D} : kSet (.v i) env (.ok d L) = .ok .next (env.set i (some (.val d))) L := rfl
theorem kSet_ok {t : CT} {env' : Env} {d : D} (h : t.put d env = some env') : kSet t env (.ok d L) = .ok .next env' L := by
  show (match t.put d env with | some env => RS.ok .next env L | none => .bad) = _
  rw [h]
theorem ex_setF {i : Nat} {f : CF} : ex G (.setF i f) env L = kSetF i env (evF G f env L) := by
  show within env (evF G f env L) _ = _
  cases evF G f env L <;> rfl
theorem kSetF_ok {i : Nat} {s : S} : kSetF i env (.ok s L) = .ok .next (env.set i (some s)) L := rfl
theorem ex_ite {a b : CSs} : ex G (.ite c a b) env L = kIteS G a b env (ev G c env L) := by
  show within env (ev G c env L) _ = _
  cases ev G c env L <;> rfl
theorem kIteS_ok {a b : CSs} {x : D} : kIteS G a b env (.ok x L) = kIteSB G a b env L (truth x) := by
  show optS (truth x) _ = _
  cases truth x with
  | none => rfl
  | some k => cases k <;> rfl
theorem kIteSB_t {a b : CSs} : kIteSB G a b env L (some true) = exs G a env L := rfl
theorem kIteSB_f {a b : CSs} : kIteSB G a b env L (some false) = exs G b env L := rfl
theorem ex_ret : ex G (.ret e) env L = kRet env (ev G e env L) := by
  show within env (ev G e env L) _ = _
  cases ev G e env L <;> rfl
theorem kRet_ok {d : D} : kRet env (.ok d L) = .ok (.ret d) env L := rfl
theorem ex_expr : ex G (.expr e) env L = kExpr env (ev G e env L) := by
  show within env (ev G e env L) _ = _
  cases ev G e env L <;> rfl
theorem kExpr_ok {d : D} : kExpr env (.ok d L) = .ok .next env L := rfl
theorem ex_loop {t : CT} {it : CI} {b : CSs} : ex G (.loop t it b) env L = kLoop G t b env (evI G it env L) := by
  show within env (evI G it env L) _ = _
  cases evI G it env L <;> rfl
theorem kLoop_ok {t : CT} {b : CSs} {xs : List D} : kLoop G t b env (.ok xs L) = loopS t (bodyF G b) xs env L := rfl
theorem ex_while {b : CSs} : ex G (.while c b) env L = whileS (condF G c) (bodyF G b) G.turns env L := rfl
theorem ex_aug {i : Nat} {o : Op} {x : D} (h : slot env i = some (.val x)) : ex G (.aug i o e) env L = kAug o i env x (ev G e env L) := by
  show within env (evVar env i L) _ = _
  unfold evVar
  rw [h]
  show within env (ev G e env L) _ = _
  cases ev G e env L <;> rfl
theorem kAug_add {i : Nat} {x y : Int} : kAug .add i env (.int x) (.ok (.int y) L) = .ok .next (env.set i (some (.val (.int (x + y))))) L := rfl
theorem run_eq {fn : Fn} {args : List D} {env : Env} (h : enter fn.ps fn.dfl fn.ns args = some env) : runFn G fn args L = finR (exs G fn.body env L) := by
  unfold runFn
  rw [h]
  show (match exs G fn.body env L with | .ok (.ret d) _ L => R.ok d L | .ok .next _ L => .ok .non L | .exc c vs _ L => .exc c vs L | _ => .bad) = _
  cases exs G fn.body env L with
  | ok f env L => cases f <;> rfl
  | exc _ _ _ _ => rfl
  | bad => rfl
theorem fin_ret {d : D} : finR (.ok (.ret d) env L) = .ok d L := rfl
theorem fin_next : finR (.ok .next env L) = .ok .non L := rfl
theorem fin_exc {k : Nat} {vs : List D} : finR (.exc k vs env L) = .exc k vs L := rfl
end
/-! ### items of tuples -/
theorem ixT0 {x : D} {xs : List D} : ixD (.tup (x :: xs)) (.int 0) = some x := by
  simp only [ixD, atI, ixN, List.length_cons]
  rw [if_pos (by omega), if_pos (by omega)]
  rfl
theorem ixT1 {x y : D} {xs : List D} : ixD (.tup (x :: y :: xs)) (.int 1) = some y := by
  simp only [ixD, atI, ixN, List.length_cons]
  rw [if_pos (by omega), if_pos (by omega)]
  rfl
theorem ixT2 {x y z : D} {xs : List D} : ixD (.tup (x :: y :: z :: xs)) (.int 2) = some z := by
  simp only [ixD, atI, ixN, List.length_cons]
  rw [if_pos (by omega), if_pos (by omega)]
  rfl
theorem ixT3 {x y z w : D} {xs : List D} : ixD (.tup (x :: y :: z :: w :: xs)) (.int 3) = some w := by
  simp only [ixD, atI, ixN, List.length_cons]
  rw [if_pos (by omega), if_pos (by omega)]
  rfl
theorem seen_tup {xs : List D} {L : List Cell} : seen (.tup xs) L = .tup xs := rfl
theorem seen_lst {xs : List D} {L : List Cell} : seen (.lst xs) L = .lst xs := rfl
theorem seen_str {s : Txt} {L : List Cell} : seen (.str s) L = .str s := rfl
theorem seen_int {i : Int} {L : List Cell} : seen (.int i) L = .int i := rfl
theorem seen_bl {i : Bool} {L : List Cell} : seen (.bl i) L = .bl i := rfl
theorem seen_non {L : List Cell} : seen .non L = .non := rfl
theorem seen_dct {ks vs : List D} {L : List Cell} : seen (.dct ks vs) L = .dct ks vs := rfl
theorem seen_ins {c : Nat} {vs : List D} {L : List Cell} : seen (.ins c vs) L = .ins c vs := rfl
theorem cmp_eq_str {a b : Txt} : cmpD .eq (.str a) (.str b) = some (a == b) := rfl
theorem cmp_ne_str {a b : Txt} : cmpD .ne (.str a) (.str b) = some (!(a == b)) := rfl
theorem cmp_eq_int {a b : Int} : cmpD .eq (.int a) (.int b) = some (a == b) := rfl
theorem cmp_ne_int {a b : Int} : cmpD .ne (.int a) (.int b) = some (!(a == b)) := rfl
theorem cmp_in2 {a b w : Txt} : cmpD .isin (.str w) (.tup [.str a, .str b]) = some (a == w || (b == w || false)) := by
  cases w with
  | nil => rfl
  | cons c r => cases r <;> rfl
theorem cmp_in2l {a b w : Txt} : cmpD .isin (.str w) (.lst [.str a, .str b]) = some (a == w || (b == w || false)) := by
  cases w with
  | nil => rfl
  | cons c r => cases r <;> rfl
theorem cmp_in3 {a b c w : Txt} : cmpD .isin (.str w) (.tup [.str a, .str b, .str c]) = some (a == w || (b == w || (c == w || false))) := by
  cases w with
  | nil => rfl
  | cons c r => cases r <;> rfl
theorem truth_bl {b : Bool} : truth (.bl b) = some b := rfl
theorem slot0 {x : Option S} {r : Env} : slot (x :: r) 0 = x := rfl
theorem slotS {x : Option S} {r : Env} {i : Nat} : slot (x :: r) (i + 1) = slot r i := rfl
theorem rdV_val {d : D} {L : List Cell} : rdV (some (.val d)) L = .ok d L := rfl
theorem rdP_some {s : S} {L : List Cell} : rdP (some s) L = .ok (frz s) L := rfl
theorem kTup_ok {ds : List D} {L : List Cell} (h : ds.length ≤ line) : kTup (.ok ds L) = .ok (.tup ds) L := by
  show sized ds.length _ L = _
  unfold sized
  rw [if_pos h]
theorem kLst_ok {ds : List D} {L : List Cell} (h : ds.length ≤ line) : kLst (.ok ds L) = .ok (.olst ds) L := by
  show sized ds.length _ L = _
  unfold sized
  rw [if_pos h]
/-! ### stores into what is one's own -/
def kDput1 (G : Cfg) (i : Nat) (k : CE) (env : Env) (ks vs : List D) : R D → RS
  | .ok v L => within env (ev G k env L) fun k L => optS (putC k v ks vs) fun r => .ok .next (env.set i (some (.odct r.1 r.2))) L
  | .exc c vs L => .exc c vs env L
  | .bad => .bad
def kDput2 (i : Nat) (env : Env) (ks vs : List D) (v : D) : R D → RS
  | .ok k L => optS (putC k v ks vs) fun r => .ok .next (env.set i (some (.odct r.1 r.2))) L
  | .exc c vs L => .exc c vs env L
  | .bad => .bad
def kDupd (i : Nat) (env : Env) (ks vs : List D) : R D → RS
  | .ok d L => (match d with
      | .dct xs ys => if atoms xs && atoms ks && decide (ks.length + xs.length ≤ line) then optS (putAll xs ys ks vs) fun r => .ok .next (env.set i (some (.odct r.1 r.2))) L else .bad
      | _ => .bad)
  | .exc c vs L => .exc c vs env L
  | .bad => .bad
def kApp (i : Nat) (env : Env) (xs : List D) : R D → RS
  | .ok d L => if xs.length < line then .ok .next (env.set i (some (.olst (xs ++ [d])))) L else .bad
  | .exc c vs L => .exc c vs env L
  | .bad => .bad
def kSl (lo hi : Option Int) : R D → R D
  | .ok x L => opt (slD x lo hi) L
  | .exc c vs L => .exc c vs L
  | .bad => .bad
def kChain1 (G : Cfg) (o p : Cm) (b c : CO) (env : Env) : R D → R D
  | .ok x L => (evO G b env L).bind fun y L => (opt (cmpD o x y) L).bind fun k L => if k then (evO G c env L).bind fun z L => opt ((cmpD p y z).map .bl) L else .ok (.bl false) L
  | .exc c vs L => .exc c vs L
  | .bad => .bad
def kChain2 (G : Cfg) (o p : Cm) (c : CO) (env : Env) (x : D) : R D → R D
  | .ok y L => (opt (cmpD o x y) L).bind fun k L => if k then (evO G c env L).bind fun z L => opt ((cmpD p y z).map .bl) L else .ok (.bl false) L
  | .exc c vs L => .exc c vs L
  | .bad => .bad
def kChain3 (p : Cm) (y : D) : R D → R D
  | .ok z L => opt ((cmpD p y z).map .bl) L
  | .exc c vs L => .exc c vs L
  | .bad => .bad
def kDcomp (G : Cfg) (own : List Nat) (k v : CE) (t : CT) (tst : CEo) (env : Env) : R (List D) → R S
  | .ok xs L => (nox (compL t (evB G tst) (fun env L => (ev G k env L).bind fun x L => (ev G v env L).bind fun y L => .ok (x, y) L) (wipe env own) xs L)).bind fun kvs L =>
        (opt (putAll (kvs.map (·.1)) (kvs.map (·.2)) [] []) L).bind fun r L => .ok (.odct r.1 r.2) L
  | .exc c vs L => .exc c vs L
  | .bad => .bad
def kComp2 (G : Cfg) (own own2 : List Nat) (elt : CE) (t : CT) (tst : CEo) (t2 : CT) (it2 : CI) (tst2 : CEo) (env : Env) : R (List D) → R S
  | .ok xs L => (nox (compL t (evB G tst) (fun env L => (evI G it2 env L).bind fun ys L => compL t2 (evB G tst2) (ev G elt) (wipe env own2) ys L) (wipe env own) xs L)).bind fun dss L =>
        let ds := joinL dss; sized ds.length (.olst ds) L
  | .exc c vs L => .exc c vs L
  | .bad => .bad
def kRput3 (env : Env) (v x : D) : R D → RS
  | .ok k L => (match x with
    | .ref i => match L[i]? with
      | some (.lst xs) => match k with
        | .int j => optS (ixN xs.length j) fun j => .ok .next env (L.set i (.lst (xs.set j v)))
        | _ => .bad
      | some (.dct ks vs) => optS (putC k v ks vs) fun r => .ok .next env (L.set i (.dct r.1 r.2))
      | _ => .bad
    | _ => .bad)
  | .exc c vs L => .exc c vs env L
  | .bad => .bad
def kRput2 (G : Cfg) (k : CE) (env : Env) (v : D) : R D → RS
  | .ok x L => kRput3 env v x (ev G k env L)
  | .exc c vs L => .exc c vs env L
  | .bad => .bad
def kRput1 (G : Cfg) (o k : CE) (env : Env) : R D → RS
  | .ok v L => kRput2 G k env v (ev G o env L)
  | .exc c vs L => .exc c vs env L
  | .bad => .bad
def sRo (b : Bool) (r : RS) : RS := if b then .bad else r
section
variable {G : Cfg} {env : Env} {L : List Cell} {a b c e k : CE} {x y z v : D} {oa ob oc : CO} {i : Nat} {ks vs xs : List D}
theorem ex_dput (h : slot env i = some (.odct ks vs)) : ex G (.dput i k e) env L = kDput1 G i k env ks vs (ev G e env L) := by
  show (match slot env i with
    | some (.odct ks vs) => within env (ev G e env L) fun v L => within env (ev G k env L) fun k L => optS (putC k v ks vs) fun r => .ok .next (env.set i (some (.odct r.1 r.2))) L
    | _ => RS.bad) = _
  rw [h]
  show within env (ev G e env L) _ = _
  cases ev G e env L <;> rfl
theorem kDput1_ok : kDput1 G i k env ks vs (.ok v L) = kDput2 i env ks vs v (ev G k env L) := by
  show within env (ev G k env L) _ = _
  cases ev G k env L <;> rfl
theorem kDput2_ok {r : List D × List D} (h : putC y v ks vs = some r) : kDput2 i env ks vs v (.ok y L) = .ok .next (env.set i (some (.odct r.1 r.2))) L := by
  show optS (putC y v ks vs) _ = _
  rw [h]; rfl
theorem ex_dupd (h : slot env i = some (.odct ks vs)) : ex G (.dupd i e) env L = kDupd i env ks vs (ev G e env L) := by
  show (match slot env i with
    | some (.odct ks vs) => within env (ev G e env L) fun d L => match d with
      | .dct xs ys => if atoms xs && atoms ks && decide (ks.length + xs.length ≤ line) then optS (putAll xs ys ks vs) fun r => .ok .next (env.set i (some (.odct r.1 r.2))) L else .bad
      | _ => .bad
    | _ => RS.bad) = _
  rw [h]
  show within env (ev G e env L) _ = _
  cases ev G e env L <;> rfl
theorem ex_app (h : slot env i = some (.olst xs)) : ex G (.app i e) env L = kApp i env xs (ev G e env L) := by
  show (match slot env i with
    | some (.olst xs) => within env (ev G e env L) fun d L => if xs.length < line then .ok .next (env.set i (some (.olst (xs ++ [d])))) L else .bad
    | _ => RS.bad) = _
  rw [h]
  show within env (ev G e env L) _ = _
  cases ev G e env L <;> rfl
theorem kApp_ok (h : xs.length < line) : kApp i env xs (.ok x L) = .ok .next (env.set i (some (.olst (xs ++ [x])))) L := by
  show (if xs.length < line then RS.ok .next (env.set i (some (.olst (xs ++ [x])))) L else .bad) = _
  rw [if_pos h]
theorem ex_frz_l (h : slot env i = some (.olst xs)) : ex G (.frz i) env L = .ok .next (env.set i (some (.val (.lst xs)))) L := by
  show (match slot env i with
    | some (.val d) => RS.ok .next env L
    | some (.olst xs) => .ok .next (env.set i (some (.val (.lst xs)))) L
    | some (.odct ks vs) => .ok .next (env.set i (some (.val (.dct ks vs)))) L
    | _ => .bad) = _
  rw [h]
theorem ex_frz_d (h : slot env i = some (.odct ks vs)) : ex G (.frz i) env L = .ok .next (env.set i (some (.val (.dct ks vs)))) L := by
  show (match slot env i with
    | some (.val d) => RS.ok .next env L
    | some (.olst xs) => .ok .next (env.set i (some (.val (.lst xs)))) L
    | some (.odct ks vs) => .ok .next (env.set i (some (.val (.dct ks vs)))) L
    | _ => .bad) = _
  rw [h]
theorem ex_rput {o : CE} : ex G (.rput o k e) env L = sRo G.ro (kRput1 G o k env (ev G e env L)) := by
  show (if G.ro then RS.bad else within env (ev G e env L) _) = _
  unfold sRo
  split
  · rfl
  · cases ev G e env L with
    | exc _ _ _ => rfl
    | bad => rfl
    | ok v L =>
      show within env (ev G o env L) _ = kRput2 G k env v (ev G o env L)
      cases ev G o env L with
      | exc _ _ _ => rfl
      | bad => rfl
      | ok x L =>
        show within env (ev G k env L) _ = kRput3 env v x (ev G k env L)
        cases ev G k env L <;> rfl
theorem sRo_f {r : RS} : sRo false r = r := rfl
theorem kRput1_ok {o : CE} : kRput1 G o k env (.ok v L) = kRput2 G k env v (ev G o env L) := rfl
theorem kRput2_ok : kRput2 G k env v (.ok x L) = kRput3 env v x (ev G k env L) := rfl
theorem kRput3_1 {a b c d : D} : kRput3 env v (.ref 0) (.ok (.int 1) [.lst [a, b, c, d]]) = .ok .next env [.lst [a, v, c, d]] := rfl
theorem kRput3_2 {a b c d : D} : kRput3 env v (.ref 0) (.ok (.int 2) [.lst [a, b, c, d]]) = .ok .next env [.lst [a, b, v, d]] := rfl
theorem kRput3_3 {a b c d : D} : kRput3 env v (.ref 0) (.ok (.int 3) [.lst [a, b, c, d]]) = .ok .next env [.lst [a, b, c, v]] := rfl
theorem seen_ref0 {xs : List D} : seen (.ref 0) [.lst xs] = .lst xs := rfl
theorem ixL0 {x : D} {xs : List D} : ixD (.lst (x :: xs)) (.int 0) = some x := by
  simp only [ixD, atI, ixN, List.length_cons]
  rw [if_pos (by omega), if_pos (by omega)]
  rfl
theorem ixL1 {x y : D} {xs : List D} : ixD (.lst (x :: y :: xs)) (.int 1) = some y := by
  simp only [ixD, atI, ixN, List.length_cons]
  rw [if_pos (by omega), if_pos (by omega)]
  rfl
theorem ixL2 {x y z : D} {xs : List D} : ixD (.lst (x :: y :: z :: xs)) (.int 2) = some z := by
  simp only [ixD, atI, ixN, List.length_cons]
  rw [if_pos (by omega), if_pos (by omega)]
  rfl
theorem ixL3 {x y z w : D} {xs : List D} : ixD (.lst (x :: y :: z :: w :: xs)) (.int 3) = some w := by
  simp only [ixD, atI, ixN, List.length_cons]
  rw [if_pos (by omega), if_pos (by omega)]
  rfl
theorem ixL_at {xs : List D} {i : Nat} {d : D} (h : xs[i]? = some d) : ixD (.lst xs) (.int i) = some d := by
  obtain ⟨hl, _⟩ := List.getElem?_eq_some_iff.mp h
  simp only [ixD, atI, ixN]
  rw [if_pos (by omega), if_pos (by omega)]
  simpa using h
theorem op_mod {a b : Int} (h : b ≠ 0) : opD .mod (.int a) (.int b) = some (.int (a.fmod b)) := by
  show (if b ≠ 0 then some (D.int (a.fmod b)) else none) = _
  rw [if_pos h]
theorem op_fdiv {a b : Int} (h : b ≠ 0 ∧ b.natAbs < 1073741824) : opD .fdiv (.int a) (.int b) = some (.int (a.fdiv b)) := by
  show (if b ≠ 0 ∧ b.natAbs < 1073741824 then some (D.int (a.fdiv b)) else none) = _
  rw [if_pos h]
theorem op_mul {a b : Int} (h : -(2 ^ 64) < b ∧ b < 2 ^ 64) : opD .mul (.int a) (.int b) = some (.int (a * b)) := by
  show (if fitsMul a b then some (D.int (a * b)) else none) = _
  rw [if_pos (by unfold fitsMul; rw [decide_eq_true h.1, decide_eq_true h.2]; simp)]
theorem ev_sl1 {j : Int} : ev G (.sl oa (.some (.int j)) .none) env L = kSl (some j) none (evO G oa env L) := by
  show (evO G oa env L).bind _ = _
  cases evO G oa env L <;> rfl
theorem ev_slm {j : Int} : ev G (.sl oa (.some (.neg (.e (.int j)))) .none) env L = kSl (some (-j)) none (evO G oa env L) := by
  show (evO G oa env L).bind _ = _
  cases evO G oa env L <;> rfl
theorem kSl_ok {lo hi : Option Int} : kSl lo hi (.ok x L) = opt (slD x lo hi) L := rfl
theorem ev_chain {o p : Cm} : ev G (.chain o p oa ob oc) env L = kChain1 G o p ob oc env (evO G oa env L) := by
  show (evO G oa env L).bind _ = _
  cases evO G oa env L <;> rfl
theorem kChain1_ok {o p : Cm} : kChain1 G o p ob oc env (.ok x L) = kChain2 G o p oc env x (evO G ob env L) := by
  show (evO G ob env L).bind _ = _
  cases evO G ob env L <;> rfl
theorem kChain2_t {o p : Cm} (h : cmpD o x y = some true) : kChain2 G o p oc env x (.ok y L) = kChain3 p y (evO G oc env L) := by
  show (opt (cmpD o x y) L).bind _ = _
  rw [h]
  show (evO G oc env L).bind _ = _
  cases evO G oc env L <;> rfl
theorem kChain2_f {o p : Cm} (h : cmpD o x y = some false) : kChain2 G o p oc env x (.ok y L) = .ok (.bl false) L := by
  show (opt (cmpD o x y) L).bind _ = _
  rw [h]; rfl
theorem kChain3_ok {p : Cm} : kChain3 p y (.ok z L) = opt ((cmpD p y z).map .bl) L := rfl
theorem evF_dcomp {own : List Nat} {t : CT} {it : CI} {tst : CEo} : evF G (.dcomp own k e t it tst) env L = kDcomp G own k e t tst env (evI G it env L) := by
  show (evI G it env L).bind _ = _
  cases evI G it env L <;> rfl
theorem evF_comp2 {own own2 : List Nat} {t t2 : CT} {it it2 : CI} {tst tst2 : CEo} : evF G (.comp2 own own2 e t it tst t2 it2 tst2) env L = kComp2 G own own2 e t tst t2 it2 tst2 env (evI G it env L) := by
  show (evI G it env L).bind _ = _
  cases evI G it env L <;> rfl
theorem kSet2 {i j : Nat} : kSet (.tup (.cons (.v i) (.cons (.v j) .nil))) env (.ok (.tup [x, y]) L) = .ok .next ((env.set i (some (.val x))).set j (some (.val y))) L := rfl
theorem kSet3 {i j l : Nat} : kSet (.tup (.cons (.v i) (.cons (.v j) (.cons (.v l) .nil)))) env (.ok (.tup [x, y, z]) L) = .ok .next (((env.set i (some (.val x))).set j (some (.val y))).set l (some (.val z))) L := rfl
theorem cmp_lt_int {a b : Int} : cmpD .lt (.int a) (.int b) = some (decide (a < b)) := rfl
theorem cmp_le_int {a b : Int} : cmpD .le (.int a) (.int b) = some (decide (a ≤ b)) := rfl
theorem cmp_gt_int {a b : Int} : cmpD .gt (.int a) (.int b) = some (decide (b < a)) := rfl
theorem cmp_ge_int {a b : Int} : cmpD .ge (.int a) (.int b) = some (decide (b ≤ a)) := rfl
theorem ev_neg_int {j : Int} : ev G (.neg (.e (.int j))) env L = .ok (.int (-j)) L := rfl
end
def sDput (G : Cfg) (i : Nat) (k e : CE) (env : Env) (L : List Cell) : Option S → RS
  | some (.odct ks vs) => kDput1 G i k env ks vs (ev G e env L)
  | _ => .bad
def sDupd (G : Cfg) (i : Nat) (e : CE) (env : Env) (L : List Cell) : Option S → RS
  | some (.odct ks vs) => kDupd i env ks vs (ev G e env L)
  | _ => .bad
def sApp (G : Cfg) (i : Nat) (e : CE) (env : Env) (L : List Cell) : Option S → RS
  | some (.olst xs) => kApp i env xs (ev G e env L)
  | _ => .bad
def sFrz (i : Nat) (env : Env) (L : List Cell) : Option S → RS
  | some (.val d) => .ok .next env L
  | some (.olst xs) => .ok .next (env.set i (some (.val (.lst xs)))) L
  | some (.odct ks vs) => .ok .next (env.set i (some (.val (.dct ks vs)))) L
  | _ => .bad
def sAug (G : Cfg) (i : Nat) (o : Op) (e : CE) (env : Env) (L : List Cell) : Option S → RS
  | some (.val x) => kAug o i env x (ev G e env L)
  | _ => .bad
section
variable {G : Cfg} {env : Env} {L : List Cell} {e k : CE} {i : Nat} {ks vs xs : List D} {d : D}
theorem es_dput : ex G (.dput i k e) env L = sDput G i k e env L (slot env i) := by
  cases h : slot env i with
  | none => show (match slot env i with
    | some (.odct ks vs) => within env (ev G e env L) fun v L => within env (ev G k env L) fun k L => optS (putC k v ks vs) fun r => .ok .next (env.set i (some (.odct r.1 r.2))) L
    | _ => RS.bad) = _; rw [h]; rfl
  | some s =>
    cases s with
    | odct ks vs => rw [ex_dput h]; rfl
    | val _ => show (match slot env i with
      | some (.odct ks vs) => within env (ev G e env L) fun v L => within env (ev G k env L) fun k L => optS (putC k v ks vs) fun r => .ok .next (env.set i (some (.odct r.1 r.2))) L
      | _ => RS.bad) = _; rw [h]; rfl
    | olst _ => show (match slot env i with
      | some (.odct ks vs) => within env (ev G e env L) fun v L => within env (ev G k env L) fun k L => optS (putC k v ks vs) fun r => .ok .next (env.set i (some (.odct r.1 r.2))) L
      | _ => RS.bad) = _; rw [h]; rfl
    | oins _ _ => show (match slot env i with
      | some (.odct ks vs) => within env (ev G e env L) fun v L => within env (ev G k env L) fun k L => optS (putC k v ks vs) fun r => .ok .next (env.set i (some (.odct r.1 r.2))) L
      | _ => RS.bad) = _; rw [h]; rfl
theorem sDput_ok : sDput G i k e env L (some (.odct ks vs)) = kDput1 G i k env ks vs (ev G e env L) := rfl
theorem es_dupd : ex G (.dupd i e) env L = sDupd G i e env L (slot env i) := by
  cases h : slot env i with
  | none => show (match slot env i with
    | some (.odct ks vs) => within env (ev G e env L) fun d L => match d with
      | .dct xs ys => if atoms xs && atoms ks && decide (ks.length + xs.length ≤ line) then optS (putAll xs ys ks vs) fun r => .ok .next (env.set i (some (.odct r.1 r.2))) L else .bad
      | _ => .bad
    | _ => RS.bad) = _; rw [h]; rfl
  | some s =>
    cases s with
    | odct ks vs => rw [ex_dupd h]; rfl
    | val _ => show (match slot env i with
      | some (.odct ks vs) => within env (ev G e env L) fun d L => match d with
        | .dct xs ys => if atoms xs && atoms ks && decide (ks.length + xs.length ≤ line) then optS (putAll xs ys ks vs) fun r => .ok .next (env.set i (some (.odct r.1 r.2))) L else .bad
        | _ => .bad
      | _ => RS.bad) = _; rw [h]; rfl
    | olst _ => show (match slot env i with
      | some (.odct ks vs) => within env (ev G e env L) fun d L => match d with
        | .dct xs ys => if atoms xs && atoms ks && decide (ks.length + xs.length ≤ line) then optS (putAll xs ys ks vs) fun r => .ok .next (env.set i (some (.odct r.1 r.2))) L else .bad
        | _ => .bad
      | _ => RS.bad) = _; rw [h]; rfl
    | oins _ _ => show (match slot env i with
      | some (.odct ks vs) => within env (ev G e env L) fun d L => match d with
        | .dct xs ys => if atoms xs && atoms ks && decide (ks.length + xs.length ≤ line) then optS (putAll xs ys ks vs) fun r => .ok .next (env.set i (some (.odct r.1 r.2))) L else .bad
        | _ => .bad
      | _ => RS.bad) = _; rw [h]; rfl
theorem sDupd_ok : sDupd G i e env L (some (.odct ks vs)) = kDupd i env ks vs (ev G e env L) := rfl
theorem es_app : ex G (.app i e) env L = sApp G i e env L (slot env i) := by
  cases h : slot env i with
  | none => show (match slot env i with
    | some (.olst xs) => within env (ev G e env L) fun d L => if xs.length < line then .ok .next (env.set i (some (.olst (xs ++ [d])))) L else .bad
    | _ => RS.bad) = _; rw [h]; rfl
  | some s =>
    cases s with
    | olst xs => rw [ex_app h]; rfl
    | val _ => show (match slot env i with
      | some (.olst xs) => within env (ev G e env L) fun d L => if xs.length < line then .ok .next (env.set i (some (.olst (xs ++ [d])))) L else .bad
      | _ => RS.bad) = _; rw [h]; rfl
    | odct _ _ => show (match slot env i with
      | some (.olst xs) => within env (ev G e env L) fun d L => if xs.length < line then .ok .next (env.set i (some (.olst (xs ++ [d])))) L else .bad
      | _ => RS.bad) = _; rw [h]; rfl
    | oins _ _ => show (match slot env i with
      | some (.olst xs) => within env (ev G e env L) fun d L => if xs.length < line then .ok .next (env.set i (some (.olst (xs ++ [d])))) L else .bad
      | _ => RS.bad) = _; rw [h]; rfl
theorem sApp_ok : sApp G i e env L (some (.olst xs)) = kApp i env xs (ev G e env L) := rfl
theorem es_frz : ex G (.frz i) env L = sFrz i env L (slot env i) := by
  show (match slot env i with
    | some (.val d) => RS.ok .next env L
    | some (.olst xs) => .ok .next (env.set i (some (.val (.lst xs)))) L
    | some (.odct ks vs) => .ok .next (env.set i (some (.val (.dct ks vs)))) L
    | _ => .bad) = _
  cases slot env i with
  | none => rfl
  | some s => cases s <;> rfl
theorem sFrz_v : sFrz i env L (some (.val d)) = .ok .next env L := rfl
theorem sFrz_l : sFrz i env L (some (.olst xs)) = .ok .next (env.set i (some (.val (.lst xs)))) L := rfl
theorem sFrz_d : sFrz i env L (some (.odct ks vs)) = .ok .next (env.set i (some (.val (.dct ks vs)))) L := rfl
theorem es_aug {o : Op} : ex G (.aug i o e) env L = sAug G i o e env L (slot env i) := by
  cases h : slot env i with
  | none => show within env (evVar env i L) _ = _; unfold evVar; rw [h]; rfl
  | some s =>
    cases s with
    | val x => rw [ex_aug h]; rfl
    | olst _ => show within env (evVar env i L) _ = _; unfold evVar; rw [h]; rfl
    | odct _ _ => show within env (evVar env i L) _ = _; unfold evVar; rw [h]; rfl
    | oins _ _ => show within env (evVar env i L) _ = _; unfold evVar; rw [h]; rfl
theorem sAug_ok {o : Op} : sAug G i o e env L (some (.val d)) = kAug o i env d (ev G e env L) := rfl
end
/-- walking a list that is known -/
def kLoopC (t : CT) (body : Env → List Cell → RS) (xs : List D) : RS → RS
  | .ok .next env L => loopS t body xs env L
  | .ok .cont env L => loopS t body xs env L
  | .ok .brk env L => .ok .next env L
  | r => r
theorem loopS_nil {t : CT} {body : Env → List Cell → RS} {env : Env} {L : List Cell} : loopS t body [] env L = .ok .next env L := rfl
theorem loopS_v {i : Nat} {body : Env → List Cell → RS} {x : D} {xs : List D} {env : Env} {L : List Cell} : loopS (.v i) body (x :: xs) env L = kLoopC (.v i) body xs (body (env.set i (some (.val x))) L) := by
  show (match body (env.set i (some (.val x))) L with
      | .ok .next env L => loopS (.v i) body xs env L
      | .ok .cont env L => loopS (.v i) body xs env L
      | .ok .brk env L => .ok .next env L
      | r => r) = _
  cases body (env.set i (some (.val x))) L with
  | ok f env L => cases f <;> rfl
  | exc _ _ _ _ => rfl
  | bad => rfl
theorem loopS_t2 {i j : Nat} {body : Env → List Cell → RS} {x y : D} {xs : List D} {env : Env} {L : List Cell} : loopS (.tup (.cons (.v i) (.cons (.v j) .nil))) body (.tup [x, y] :: xs) env L = kLoopC (.tup (.cons (.v i) (.cons (.v j) .nil))) body xs (body ((env.set i (some (.val x))).set j (some (.val y))) L) := by
  show (match body ((env.set i (some (.val x))).set j (some (.val y))) L with
      | .ok .next env L => loopS (.tup (.cons (.v i) (.cons (.v j) .nil))) body xs env L
      | .ok .cont env L => loopS (.tup (.cons (.v i) (.cons (.v j) .nil))) body xs env L
      | .ok .brk env L => .ok .next env L
      | r => r) = _
  cases body ((env.set i (some (.val x))).set j (some (.val y))) L with
  | ok f env L => cases f <;> rfl
  | exc _ _ _ _ => rfl
  | bad => rfl
theorem kLoopC_next {t : CT} {body : Env → List Cell → RS} {xs : List D} {env : Env} {L : List Cell} : kLoopC t body xs (.ok .next env L) = loopS t body xs env L := rfl
theorem kLoopC_ret {t : CT} {body : Env → List Cell → RS} {xs : List D} {env : Env} {L : List Cell} {d : D} : kLoopC t body xs (.ok (.ret d) env L) = .ok (.ret d) env L := rfl
theorem bodyF_eq {G : Cfg} {b : CSs} {env : Env} {L : List Cell} : bodyF G b env L = exs G b env L := rfl
def kCompN : R (List D) → R S
  | .ok ds L => sized ds.length (.olst ds) L
  | _ => .bad
def kCC (G : Cfg) (i : Nat) (elt : CE) (env : Env) (xs : List D) : R D → R (List D)
  | .ok d L => (compL (.v i) (evB G .none) (ev G elt) env xs L).bind fun ds L => .ok (d :: ds) L
  | .exc c vs L => .exc c vs L
  | .bad => .bad
def kCD (d : D) : R (List D) → R (List D)
  | .ok ds L => .ok (d :: ds) L
  | .exc c vs L => .exc c vs L
  | .bad => .bad
theorem kComp_v {G : Cfg} {own : List Nat} {elt : CE} {i : Nat} {env : Env} {xs : List D} {L : List Cell} : kComp G own elt (.v i) .none env (.ok xs L) = kCompN (compL (.v i) (evB G .none) (ev G elt) (wipe env own) xs L) := by
  show (nox (compL (.v i) (evB G .none) (ev G elt) (wipe env own) xs L)).bind _ = _
  cases compL (.v i) (evB G .none) (ev G elt) (wipe env own) xs L <;> rfl
theorem compL_nil {α : Type} {t : CT} {tst : Env → List Cell → R Bool} {el : Env → List Cell → R α} {env : Env} {L : List Cell} : compL t tst el env [] L = .ok [] L := rfl
theorem compL_v {G : Cfg} {elt : CE} {i : Nat} {env : Env} {x : D} {xs : List D} {L : List Cell} : compL (.v i) (evB G .none) (ev G elt) env (x :: xs) L = kCC G i elt env xs (ev G elt (env.set i (some (.val x))) L) := by
  show (ev G elt (env.set i (some (.val x))) L).bind _ = _
  cases ev G elt (env.set i (some (.val x))) L <;> rfl
theorem kCC_ok {G : Cfg} {elt : CE} {i : Nat} {env : Env} {x : D} {xs : List D} {L : List Cell} : kCC G i elt env xs (.ok x L) = kCD x (compL (.v i) (evB G .none) (ev G elt) env xs L) := by
  show (compL (.v i) (evB G .none) (ev G elt) env xs L).bind _ = _
  cases compL (.v i) (evB G .none) (ev G elt) env xs L <;> rfl
theorem kCD_ok {d : D} {ds : List D} {L : List Cell} : kCD d (.ok ds L) = .ok (d :: ds) L := rfl
theorem kCompN1 {a : D} {L : List Cell} : kCompN (.ok [a] L) = .ok (.olst [a]) L := rfl
theorem kCompN2 {a b : D} {L : List Cell} : kCompN (.ok [a, b] L) = .ok (.olst [a, b]) L := rfl
theorem kCompN3 {a b c : D} {L : List Cell} : kCompN (.ok [a, b, c] L) = .ok (.olst [a, b, c]) L := rfl
theorem wipe_nil {env : Env} : wipe env [] = env := rfl
theorem wipe_cons {env : Env} {i : Nat} {is : List Nat} : wipe env (i :: is) = (wipe env is).set i none := rfl
theorem evB_some {G : Cfg} {e : CE} {env : Env} {L : List Cell} {k : Bool} (h : ev G e env L = .ok (.bl k) L) : evB G (.some e) env L = .ok k L := by
  show (ev G e env L).bind _ = _
  rw [h]; rfl
theorem isi_tupT {xs : List D} : isTags (.tup xs) [.tup] = some true := rfl
theorem isi_intI {i : Int} : isTags (.int i) [.int] = some true := rfl
theorem isi_intB {i : Int} : isTags (.int i) [.bool] = some false := rfl
theorem isi_intT {i : Int} : isTags (.int i) [.tup] = some false := rfl
theorem isi_intL {i : Int} : isTags (.int i) [.lst] = some false := rfl
theorem isi_intS {i : Int} : isTags (.int i) [.str] = some false := rfl
theorem isi_tupL {xs : List D} : isTags (.tup xs) [.lst] = some false := rfl
theorem lf_int {b : Bool} : leafD (bi1 .int (.bl b)) = some (.int (if b then 1 else 0)) := by cases b <;> rfl
theorem lf_intI {i : Int} : leafD (bi1 .int (.int i)) = some (.int i) := rfl
theorem lf_lenT {xs : List D} : leafD (bi1 .len (.tup xs)) = some (.int xs.length) := rfl
theorem lf_lenL {xs : List D} : leafD (bi1 .len (.lst xs)) = some (.int xs.length) := rfl
theorem lf_tupL {xs : List D} : leafD (bi1 .tup (.lst xs)) = some (.tup xs) := rfl
theorem op_addI {a b : Int} : opD .add (.int a) (.int b) = some (.int (a + b)) := rfl
theorem op_subI {a b : Int} : opD .sub (.int a) (.int b) = some (.int (a - b)) := rfl
/-- a loop behind which the rest runs -/
theorem fin_loop {α : Type} (E : α → Env) (step : α → D → α) (I : α → Prop) (a0 : α) {t : CT} {body : Env → List Cell → RS} {xs : List D} {L : List Cell} {env : Env} {G : Cfg} {ss : CSs} {r : R D}
    (he : env = E a0) (hI : I a0) (h : ∀ x ∈ xs, ∀ a, I a → I (step a x) ∧ ∃ env1, t.put x (E a) = some env1 ∧ body env1 L = .ok .next (E (step a x)) L)
    (h2 : I (xs.foldl step a0) → finR (exs G ss (E (xs.foldl step a0)) L) = r) : finR (kSeqS G ss (loopS t body xs env L)) = r := by
  subst he
  have key : ∀ (xs : List D) (a : α), (∀ x ∈ xs, ∀ a, I a → I (step a x) ∧ ∃ env1, t.put x (E a) = some env1 ∧ body env1 L = .ok .next (E (step a x)) L) → I a → loopS t body xs (E a) L = .ok .next (E (xs.foldl step a)) L ∧ I (xs.foldl step a) := by
    intro xs
    induction xs with
    | nil => exact fun a _ hI => ⟨rfl, hI⟩
    | cons x xs ih =>
      intro a h hI
      obtain ⟨h1, env1, h3, h4⟩ := h x List.mem_cons_self a hI
      obtain ⟨i1, i2⟩ := ih (step a x) (fun y m => h y (List.mem_cons_of_mem _ m)) h1
      refine ⟨?_, i2⟩
      rw [← List.foldl_cons (l := xs)] at i1
      rw [← i1]
      show (match t.put x (E a) with
        | none => RS.bad
        | some env => match body env L with
          | .ok .next env L => loopS t body xs env L
          | .ok .cont env L => loopS t body xs env L
          | .ok .brk env L => .ok .next env L
          | r => r) = _
      rw [h3]
      show (match body env1 L with
          | .ok .next env L => loopS t body xs env L
          | .ok .cont env L => loopS t body xs env L
          | .ok .brk env L => .ok .next env L
          | r => r) = _
      rw [h4]
  obtain ⟨k1, k2⟩ := key xs a0 h hI
  rw [k1]
  exact h2 k2
/-- the same, memory changing -/
theorem fin_loopM {I : Env → List Cell → Prop} {t : CT} {body : Env → List Cell → RS} {xs : List D} {L : List Cell} {env : Env} {G : Cfg} {ss : CSs} {P : R D → Prop}
    (hI : I env L) (h : ∀ x ∈ xs, ∀ env L, I env L → ∃ env1, t.put x env = some env1 ∧ ∃ env2 L2, body env1 L = .ok .next env2 L2 ∧ I env2 L2)
    (h2 : ∀ env L, I env L → P (finR (exs G ss env L))) : P (finR (kSeqS G ss (loopS t body xs env L))) := by
  have key : ∀ (xs : List D) env L, (∀ x ∈ xs, ∀ env L, I env L → ∃ env1, t.put x env = some env1 ∧ ∃ env2 L2, body env1 L = .ok .next env2 L2 ∧ I env2 L2) → I env L → ∃ env2 L2, loopS t body xs env L = .ok .next env2 L2 ∧ I env2 L2 := by
    intro xs
    induction xs with
    | nil => exact fun env L _ hI => ⟨env, L, rfl, hI⟩
    | cons x xs ih =>
      intro env L h hI
      obtain ⟨env1, h3, env2, L2, h4, h5⟩ := h x List.mem_cons_self env L hI
      obtain ⟨env3, L3, i1, i2⟩ := ih env2 L2 (fun y m => h y (List.mem_cons_of_mem _ m)) h5
      refine ⟨env3, L3, ?_, i2⟩
      rw [← i1]
      show (match t.put x env with
        | none => RS.bad
        | some env => match body env L with
          | .ok .next env L => loopS t body xs env L
          | .ok .cont env L => loopS t body xs env L
          | .ok .brk env L => .ok .next env L
          | r => r) = _
      rw [h3]
      show (match body env1 L with
          | .ok .next env L => loopS t body xs env L
          | .ok .cont env L => loopS t body xs env L
          | .ok .brk env L => .ok .next env L
          | r => r) = _
      rw [h4]
  obtain ⟨env2, L2, k1, k2⟩ := key xs env L h hI
  rw [k1]
  exact h2 env2 L2 k2
end Wa

set_option maxRecDepth 100000
namespace k73
open Wa
/-- is_integer(value): 0 value -/
def f_1 : Fn := ⟨1, [], 1, (.cons (.ret (.and (.isi (.e (.var 0)) [.int]) (.not (.isi (.e (.var 0)) [.bool])))) .nil)⟩
/-- is_name(value): 0 value 1 one -/
def f_2 : Fn := ⟨1, [], 2, (.cons (.ret (.and (.isi (.e (.var 0)) [.str]) (.and (.chain .lt .le (.e (.int 0)) (.e (.bi .len (.cons (.e (.var 0)) .nil))) (.e (.int 12))) (.bi .all (.cons (.e (.fr (.comp [1] (.cmp .isin (.e (.var 1)) (.e (.glob (.str [97, 98, 99, 100, 101, 102, 103, 104, 105, 106, 107, 108, 109, 110, 111, 112, 113, 114, 115, 116, 117, 118, 119, 120, 121, 122])))) (.v 1) (.seq (.e (.var 0))) .none))) .nil))))) .nil)⟩
/-- Shape.__init__(self, relations): 0 self 1 relations 2 one 3 names 4 name 5 _ -/
def f_3 : Fn := ⟨2, [], 6, (.cons (.ite (.or (.not (.isi (.e (.var 1)) [.tup])) (.cmp .gt (.e (.bi .len (.cons (.e (.var 1)) .nil))) (.e (.glob (.int 4))))) (.cons (.raise 1 .nil) .nil) .nil) (.cons (.loop (.v 2) (.seq (.e (.var 1))) (.cons (.ite (.or (.not (.isi (.e (.var 2)) [.tup])) (.or (.cmp .ne (.e (.bi .len (.cons (.e (.var 2)) .nil))) (.e (.int 2))) (.not (.call 2 (.cons (.ix (.e (.var 2)) (.int 0)) .nil))))) (.cons (.raise 1 .nil) .nil) .nil) (.cons (.ite (.or (.not (.call 1 (.cons (.ix (.e (.var 2)) (.int 1)) .nil))) (.not (.chain .le .le (.e (.int 1)) (.e (.ix (.e (.var 2)) (.int 1))) (.e (.glob (.int 3)))))) (.cons (.raise 1 .nil) .nil) .nil) .nil))) (.cons (.setF 3 (.comp [4, 5] (.var 4) (.tup (.cons (.v 4) (.cons (.v 5) .nil))) (.seq (.e (.var 1))) .none)) (.cons (.frz 3) (.cons (.ite (.cmp .ne (.e (.var 3)) (.e (.fr (.bi .sorted (.cons (.e (.fr (.dcomp [4] (.var 4) (.bl true) (.v 4) (.seq (.e (.var 3))) .none))) .nil))))) (.cons (.raise 1 .nil) .nil) .nil) (.cons (.self 5 0 (.var 1)) .nil))))))⟩
/-- Shape.places(self, name): 0 self 1 name 2 one 3 places -/
def f_4 : Fn := ⟨2, [], 4, (.cons (.loop (.tup (.cons (.v 2) (.cons (.v 3) .nil))) (.seq (.e (.fld (.e (.var 0)) 5 0))) (.cons (.ite (.cmp .eq (.e (.var 2)) (.e (.var 1))) (.cons (.ret (.var 3)) .nil) .nil) .nil)) (.cons (.ret .non) .nil))⟩
/-- Shape.at(self, name): 0 self 1 name 2 one 3 _ -/
def f_5 : Fn := ⟨2, [], 4, (.cons (.ret (.bm .index (.e (.fr (.comp [2, 3] (.var 2) (.tup (.cons (.v 2) (.cons (.v 3) .nil))) (.seq (.e (.fld (.e (.var 0)) 5 0))) .none))) (.cons (.e (.var 1)) .nil))) .nil)⟩
/-- is_row(value, places, size): 0 value 1 places 2 size 3 one 4 thing -/
def f_6 : Fn := ⟨3, [], 5, (.cons (.ite (.or (.not (.isi (.e (.var 0)) [.tup])) (.not (.bi .all (.cons (.e (.fr (.comp [3] (.and (.isi (.e (.var 3)) [.tup]) (.cmp .eq (.e (.bi .len (.cons (.e (.var 3)) .nil))) (.e (.var 1)))) (.v 3) (.seq (.e (.var 0))) .none))) .nil)))) (.cons (.ret (.bl false)) .nil) .nil) (.cons (.ite (.not (.bi .all (.cons (.e (.fr (.comp2 [3, 4] [4] (.and (.call 1 (.cons (.var 4) .nil)) (.chain .le .lt (.e (.int 0)) (.e (.var 4)) (.e (.var 2)))) (.v 3) (.seq (.e (.var 0))) .none (.v 4) (.seq (.e (.var 3))) .none))) .nil))) (.cons (.ret (.bl false)) .nil) .nil) (.cons (.ret (.cmp .eq (.e (.fr (.bi .lst (.cons (.e (.var 0)) .nil)))) (.e (.fr (.bi .sorted (.cons (.e (.fr (.dcomp [3] (.var 3) (.bl true) (.v 3) (.seq (.e (.var 0))) .none))) .nil)))))) .nil)))⟩
/-- World.__init__(self, shape, size, rows): 0 self 1 shape 2 size 3 rows 4 row 5 _ 6 places 7 one -/
def f_7 : Fn := ⟨4, [], 8, (.cons (.ite (.or (.not (.call 1 (.cons (.var 2) .nil))) (.not (.chain .lt .le (.e (.int 0)) (.e (.var 2)) (.e (.glob (.int 40)))))) (.cons (.raise 1 .nil) .nil) .nil) (.cons (.ite (.or (.not (.isi (.e (.var 3)) [.tup])) (.cmp .ne (.e (.bi .len (.cons (.e (.var 3)) .nil))) (.e (.bi .len (.cons (.e (.fld (.e (.var 1)) 5 0)) .nil))))) (.cons (.raise 1 .nil) .nil) .nil) (.cons (.loop (.tup (.cons (.v 4) (.cons (.tup (.cons (.v 5) (.cons (.v 6) .nil))) .nil))) (.zip (.cons (.e (.var 3)) (.cons (.e (.fld (.e (.var 1)) 5 0)) .nil))) (.cons (.ite (.not (.call 6 (.cons (.var 4) (.cons (.var 6) (.cons (.var 2) .nil))))) (.cons (.raise 1 .nil) .nil) .nil) .nil)) (.cons (.self 6 0 (.var 1)) (.cons (.self 6 1 (.var 2)) (.cons (.self 6 2 (.var 3)) (.cons (.self 6 3 (.fr (.comp [4] (.fr (.dcomp [7] (.var 7) (.bl true) (.v 7) (.seq (.e (.var 4))) .none)) (.v 4) (.seq (.e (.var 3))) .none))) .nil)))))))⟩
/-- World.holds(self, name, things): 0 self 1 name 2 things -/
def f_8 : Fn := ⟨3, [], 3, (.cons (.ret (.cmp .isin (.e (.var 2)) (.e (.ix (.e (.fld (.e (.var 0)) 6 3)) (.meth 5 5 (.fld (.e (.var 0)) 6 0) (.cons (.var 1) .nil)))))) .nil)⟩
/-- World.told(self): 0 self -/
def f_9 : Fn := ⟨1, [], 1, (.cons (.ret (.tup (.cons (.fld (.e (.var 0)) 6 1) (.cons (.fld (.e (.var 0)) 6 2) .nil)))) .nil)⟩
/-- all_tuples(size, many): 0 size 1 many 2 found 3 _ 4 one 5 thing -/
def f_10 : Fn := ⟨2, [], 6, (.cons (.set (.v 2) (.fr (.lst (.cons (.tup .nil) .nil)))) (.cons (.loop (.v 3) (.rng (.cons (.e (.var 1)) .nil)) (.cons (.setF 2 (.comp2 [4, 5] [5] (.op .add (.e (.var 4)) (.e (.tup (.cons (.var 5) .nil)))) (.v 4) (.seq (.e (.var 2))) .none (.v 5) (.rng (.cons (.e (.var 0)) .nil)) .none)) (.cons (.frz 2) .nil))) (.cons (.ret (.var 2)) .nil)))⟩
/-- is_sentence(shape, value, deep): 0 shape 1 value 2 deep 3 word 4 one -/
def f_11 : Fn := ⟨3, [(.int 300)], 5, (.cons (.ite (.or (.cmp .eq (.e (.var 2)) (.e (.int 0))) (.or (.not (.isi (.e (.var 1)) [.tup])) (.cmp .eq (.e (.bi .len (.cons (.e (.var 1)) .nil))) (.e (.int 0))))) (.cons (.ret (.bl false)) .nil) .nil) (.cons (.set (.v 3) (.ix (.e (.var 1)) (.int 0))) (.cons (.ite (.cmp .isin (.e (.var 3)) (.e (.tup (.cons (.str [121, 101, 115]) (.cons (.str [110, 111]) .nil))))) (.cons (.ret (.cmp .eq (.e (.bi .len (.cons (.e (.var 1)) .nil))) (.e (.int 1)))) .nil) .nil) (.cons (.ite (.cmp .eq (.e (.var 3)) (.e (.str [115, 97, 109, 101]))) (.cons (.ret (.and (.cmp .eq (.e (.bi .len (.cons (.e (.var 1)) .nil))) (.e (.int 3))) (.and (.call 2 (.cons (.ix (.e (.var 1)) (.int 1)) .nil)) (.call 2 (.cons (.ix (.e (.var 1)) (.int 2)) .nil))))) .nil) .nil) (.cons (.ite (.cmp .eq (.e (.var 3)) (.e (.str [114, 101, 108]))) (.cons (.ite (.or (.cmp .ne (.e (.bi .len (.cons (.e (.var 1)) .nil))) (.e (.int 3))) (.or (.not (.call 2 (.cons (.ix (.e (.var 1)) (.int 1)) .nil))) (.not (.isi (.e (.ix (.e (.var 1)) (.int 2))) [.tup])))) (.cons (.ret (.bl false)) .nil) .nil) (.cons (.ret (.and (.cmp .eq (.e (.meth 5 4 (.var 0) (.cons (.ix (.e (.var 1)) (.int 1)) .nil))) (.e (.bi .len (.cons (.e (.ix (.e (.var 1)) (.int 2))) .nil)))) (.bi .all (.cons (.e (.fr (.comp [4] (.call 2 (.cons (.var 4) .nil)) (.v 4) (.seq (.e (.ix (.e (.var 1)) (.int 2)))) .none))) .nil)))) .nil)) .nil) (.cons (.ite (.cmp .eq (.e (.var 3)) (.e (.str [110, 111, 116]))) (.cons (.ret (.and (.cmp .eq (.e (.bi .len (.cons (.e (.var 1)) .nil))) (.e (.int 2))) (.call 11 (.cons (.var 0) (.cons (.ix (.e (.var 1)) (.int 1)) (.cons (.op .sub (.e (.var 2)) (.e (.int 1))) .nil)))))) .nil) .nil) (.cons (.ite (.cmp .isin (.e (.var 3)) (.e (.tup (.cons (.str [97, 110, 100]) (.cons (.str [111, 114]) .nil))))) (.cons (.ret (.and (.cmp .eq (.e (.bi .len (.cons (.e (.var 1)) .nil))) (.e (.int 3))) (.bi .all (.cons (.e (.fr (.comp [4] (.call 11 (.cons (.var 0) (.cons (.var 4) (.cons (.op .sub (.e (.var 2)) (.e (.int 1))) .nil)))) (.v 4) (.seq (.e (.sl (.e (.var 1)) (.some (.int 1)) .none))) .none))) .nil)))) .nil) .nil) (.cons (.ite (.cmp .isin (.e (.var 3)) (.e (.tup (.cons (.str [115, 111, 109, 101]) (.cons (.str [97, 108, 108]) .nil))))) (.cons (.ret (.and (.cmp .eq (.e (.bi .len (.cons (.e (.var 1)) .nil))) (.e (.int 3))) (.and (.call 2 (.cons (.ix (.e (.var 1)) (.int 1)) .nil)) (.call 11 (.cons (.var 0) (.cons (.ix (.e (.var 1)) (.int 2)) (.cons (.op .sub (.e (.var 2)) (.e (.int 1))) .nil))))))) .nil) .nil) (.cons (.ite (.or (.cmp .ne (.e (.var 3)) (.e (.str [109, 97, 110, 121]))) (.or (.cmp .ne (.e (.bi .len (.cons (.e (.var 1)) .nil))) (.e (.int 4))) (.or (.not (.call 1 (.cons (.ix (.e (.var 1)) (.int 1)) .nil))) (.not (.chain .le .le (.e (.int 0)) (.e (.ix (.e (.var 1)) (.int 1))) (.e (.glob (.int 40)))))))) (.cons (.ret (.bl false)) .nil) .nil) (.cons (.ret (.and (.call 2 (.cons (.ix (.e (.var 1)) (.int 2)) .nil)) (.call 11 (.cons (.var 0) (.cons (.ix (.e (.var 1)) (.int 3)) (.cons (.op .sub (.e (.var 2)) (.e (.int 1))) .nil)))))) .nil))))))))))⟩
/-- look_at(shape, value): 0 shape 1 value -/
def f_12 : Fn := ⟨2, [], 2, (.cons (.ite (.not (.call 11 (.cons (.var 0) (.cons (.var 1) .nil)))) (.cons (.raise 2 .nil) .nil) .nil) .nil)⟩
/-- inner(sentence): 0 sentence 1 word -/
def f_13 : Fn := ⟨1, [], 2, (.cons (.set (.v 1) (.ix (.e (.var 0)) (.int 0))) (.cons (.ite (.cmp .isin (.e (.var 1)) (.e (.tup (.cons (.str [110, 111, 116]) (.cons (.str [97, 110, 100]) (.cons (.str [111, 114]) .nil)))))) (.cons (.ret (.sl (.e (.var 0)) (.some (.int 1)) .none)) .nil) .nil) (.cons (.ret (.ite (.cmp .isin (.e (.var 1)) (.e (.tup (.cons (.str [115, 111, 109, 101]) (.cons (.str [97, 108, 108]) (.cons (.str [109, 97, 110, 121]) .nil)))))) (.sl (.e (.var 0)) (.some (.neg (.e (.int 1)))) .none) (.tup .nil))) .nil)))⟩
/-- bound(sentence): 0 sentence -/
def f_14 : Fn := ⟨1, [], 1, (.cons (.ite (.cmp .isin (.e (.ix (.e (.var 0)) (.int 0))) (.e (.tup (.cons (.str [115, 111, 109, 101]) (.cons (.str [97, 108, 108]) .nil))))) (.cons (.ret (.ix (.e (.var 0)) (.int 1))) .nil) .nil) (.cons (.ret (.ite (.cmp .eq (.e (.ix (.e (.var 0)) (.int 0))) (.e (.str [109, 97, 110, 121]))) (.ix (.e (.var 0)) (.int 2)) .non)) .nil))⟩
/-- free(sentence): 0 sentence 1 word 2 found 3 one 4 name -/
def f_15 : Fn := ⟨1, [], 5, (.cons (.set (.v 1) (.ix (.e (.var 0)) (.int 0))) (.cons (.ite (.cmp .eq (.e (.var 1)) (.e (.str [115, 97, 109, 101]))) (.cons (.ret (.bi .tup (.cons (.e (.fr (.bi .sorted (.cons (.e (.fr (.dcomp [3] (.var 3) (.bl true) (.v 3) (.seq (.e (.sl (.e (.var 0)) (.some (.int 1)) .none))) .none))) .nil)))) .nil))) .nil) .nil) (.cons (.ite (.cmp .eq (.e (.var 1)) (.e (.str [114, 101, 108]))) (.cons (.ret (.bi .tup (.cons (.e (.fr (.bi .sorted (.cons (.e (.fr (.dcomp [3] (.var 3) (.bl true) (.v 3) (.seq (.e (.ix (.e (.var 0)) (.int 2)))) .none))) .nil)))) .nil))) .nil) .nil) (.cons (.setF 2 (.dct .nil .nil)) (.cons (.loop (.v 3) (.seq (.e (.call 13 (.cons (.var 0) .nil)))) (.cons (.dupd 2 (.fr (.dcomp [4] (.var 4) (.bl true) (.v 4) (.seq (.e (.call 15 (.cons (.var 3) .nil)))) (.some (.cmp .ne (.e (.var 4)) (.e (.call 14 (.cons (.var 0) .nil)))))))) .nil)) (.cons (.ret (.bi .tup (.cons (.e (.fr (.bi .sorted (.cons (.pk 2) .nil)))) .nil))) .nil))))))⟩
/-- told(world, sentence, values): 0 world 1 sentence 2 values 3 word 4 count 5 wanted 6 inside 7 thing 8 name -/
def f_16 : Fn := ⟨3, [], 9, (.cons (.set (.v 3) (.ix (.e (.var 1)) (.int 0))) (.cons (.ite (.cmp .isin (.e (.var 3)) (.e (.tup (.cons (.str [121, 101, 115]) (.cons (.str [110, 111]) .nil))))) (.cons (.ret (.cmp .eq (.e (.var 3)) (.e (.str [121, 101, 115])))) .nil) .nil) (.cons (.ite (.cmp .eq (.e (.var 3)) (.e (.str [115, 97, 109, 101]))) (.cons (.ret (.cmp .eq (.e (.ix (.e (.var 2)) (.ix (.e (.var 1)) (.int 1)))) (.e (.ix (.e (.var 2)) (.ix (.e (.var 1)) (.int 2)))))) .nil) .nil) (.cons (.ite (.cmp .eq (.e (.var 3)) (.e (.str [114, 101, 108]))) (.cons (.ret (.meth 6 8 (.var 0) (.cons (.ix (.e (.var 1)) (.int 1)) (.cons (.bi .tup (.cons (.e (.fr (.comp [8] (.ix (.e (.var 2)) (.var 8)) (.v 8) (.seq (.e (.ix (.e (.var 1)) (.int 2)))) .none))) .nil)) .nil)))) .nil) .nil) (.cons (.ite (.cmp .eq (.e (.var 3)) (.e (.str [110, 111, 116]))) (.cons (.ret (.not (.call 16 (.cons (.var 0) (.cons (.ix (.e (.var 1)) (.int 1)) (.cons (.var 2) .nil)))))) .nil) .nil) (.cons (.ite (.cmp .eq (.e (.var 3)) (.e (.str [97, 110, 100]))) (.cons (.ret (.and (.call 16 (.cons (.var 0) (.cons (.ix (.e (.var 1)) (.int 1)) (.cons (.var 2) .nil)))) (.call 16 (.cons (.var 0) (.cons (.ix (.e (.var 1)) (.int 2)) (.cons (.var 2) .nil)))))) .nil) .nil) (.cons (.ite (.cmp .eq (.e (.var 3)) (.e (.str [111, 114]))) (.cons (.ret (.or (.call 16 (.cons (.var 0) (.cons (.ix (.e (.var 1)) (.int 1)) (.cons (.var 2) .nil)))) (.call 16 (.cons (.var 0) (.cons (.ix (.e (.var 1)) (.int 2)) (.cons (.var 2) .nil)))))) .nil) .nil) (.cons (.set (.tup (.cons (.v 4) (.cons (.v 5) .nil))) (.tup (.cons (.int 0) (.cons (.int 1) .nil)))) (.cons (.ite (.cmp .eq (.e (.var 3)) (.e (.str [97, 108, 108]))) (.cons (.set (.v 5) (.fld (.e (.var 0)) 6 1)) .nil) .nil) (.cons (.ite (.cmp .eq (.e (.var 3)) (.e (.str [109, 97, 110, 121]))) (.cons (.set (.v 5) (.ix (.e (.var 1)) (.int 1))) .nil) .nil) (.cons (.setF 6 (.bi .dct (.cons (.e (.var 2)) .nil))) (.cons (.loop (.v 7) (.rng (.cons (.e (.fld (.e (.var 0)) 6 1)) .nil)) (.cons (.dput 6 (.call 14 (.cons (.var 1) .nil)) (.var 7)) (.cons (.ite (.and (.cmp .lt (.e (.var 4)) (.e (.var 5))) (.callP 16 (.cons (.e (.var 0)) (.cons (.e (.ix (.e (.var 1)) (.neg (.e (.int 1))))) (.cons (.pk 6) .nil))))) (.cons (.aug 4 .add (.int 1)) .nil) .nil) .nil))) (.cons (.ret (.cmp .ge (.e (.var 4)) (.e (.var 5)))) .nil)))))))))))))⟩
/-- how_many_tuples(shape, size): 0 shape 1 size 2 count 3 _ 4 places 5 row -/
def f_17 : Fn := ⟨2, [], 6, (.cons (.set (.v 2) (.int 0)) (.cons (.loop (.tup (.cons (.v 3) (.cons (.v 4) .nil))) (.seq (.e (.fld (.e (.var 0)) 5 0))) (.cons (.set (.v 5) (.int 1)) (.cons (.loop (.v 3) (.rng (.cons (.e (.var 4)) .nil)) (.cons (.set (.v 5) (.op .mul (.e (.var 5)) (.e (.var 1)))) .nil)) (.cons (.aug 2 .add (.var 5)) .nil)))) (.cons (.ret (.var 2)) .nil)))⟩
/-- shared(first, other): 0 first 1 other -/
def f_18 : Fn := ⟨2, [], 2, (.cons (.while (.cmp .ne (.e (.var 1)) (.e (.int 0))) (.cons (.set (.tup (.cons (.v 0) (.cons (.v 1) .nil))) (.tup (.cons (.var 1) (.cons (.op .mod (.e (.var 0)) (.e (.var 1))) .nil)))) .nil)) (.cons (.ret (.var 0)) .nil))⟩
/-- chance(shape, sentence, size): 0 shape 1 sentence 2 size 3 rows 4 _ 5 places 6 many 7 row 8 part 9 picked -/
def f_19 : Fn := ⟨3, [], 10, (.cons (.expr (.call 12 (.cons (.var 0) (.cons (.var 1) .nil)))) (.cons (.ite (.cmp .gt (.e (.bi .len (.cons (.e (.call 15 (.cons (.var 1) .nil))) .nil))) (.e (.int 0))) (.cons (.raise 2 .nil) .nil) .nil) (.cons (.ite (.or (.not (.call 1 (.cons (.var 2) .nil))) (.or (.cmp .lt (.e (.var 2)) (.e (.int 1))) (.cmp .gt (.e (.call 17 (.cons (.var 0) (.cons (.var 2) .nil)))) (.e (.glob (.int 16)))))) (.cons (.raise 3 (.cons (.str [109, 97, 110, 121]) .nil)) .nil) .nil) (.cons (.set (.v 3) (.fr (.lst (.cons (.fr (.lst .nil)) .nil)))) (.cons (.loop (.tup (.cons (.v 4) (.cons (.v 5) .nil))) (.seq (.e (.fld (.e (.var 0)) 5 0))) (.cons (.setF 3 (.comp2 [7, 9] [9] (.op .add (.e (.var 7)) (.e (.fr (.lst (.cons (.var 9) .nil))))) (.v 7) (.seq (.e (.var 3))) .none (.v 9) (.seq (.e (.call 20 (.cons (.call 10 (.cons (.var 2) (.cons (.var 5) .nil))) .nil)))) .none)) (.cons (.frz 3) .nil))) (.cons (.set (.v 6) (.int 0)) (.cons (.loop (.v 7) (.seq (.e (.var 3))) (.cons (.aug 6 .add (.bi .int (.cons (.e (.call 16 (.cons (.make 6 (.cons (.var 0) (.cons (.var 2) (.cons (.bi .tup (.cons (.e (.var 7)) .nil)) .nil)))) (.cons (.var 1) (.cons (.fr (.dct .nil .nil)) .nil))))) .nil))) .nil)) (.cons (.set (.v 8) (.call 18 (.cons (.var 6) (.cons (.bi .len (.cons (.e (.var 3)) .nil)) .nil)))) (.cons (.ret (.tup (.cons (.op .fdiv (.e (.var 6)) (.e (.var 8))) (.cons (.op .fdiv (.e (.bi .len (.cons (.e (.var 3)) .nil))) (.e (.var 8))) .nil)))) .nil)))))))))⟩
/-- all_picks(items): 0 items 1 found 2 item 3 pick -/
def f_20 : Fn := ⟨1, [], 4, (.cons (.set (.v 1) (.fr (.lst (.cons (.tup .nil) .nil)))) (.cons (.loop (.v 2) (.seq (.e (.var 0))) (.cons (.set (.v 1) (.op .add (.e (.var 1)) (.e (.fr (.comp [3] (.op .add (.e (.var 3)) (.e (.tup (.cons (.var 2) .nil)))) (.v 3) (.seq (.e (.var 1))) .none))))) .nil)) (.cons (.ret (.var 1)) .nil)))⟩
/-- _law_draws(script): 0 script -/
def f_21 : Fn := ⟨1, [], 1, (.cons (.ret (.rlst (.cons (.fr (.bi .lst (.cons (.e (.var 0)) .nil))) (.cons (.int 0) (.cons (.int 0) (.cons (.int 1) .nil)))))) .nil)⟩
/-- _law_draw(draws, limit): 0 draws 1 limit 2 cell 3 value -/
def f_22 : Fn := ⟨2, [], 4, (.cons (.ite (.and (.cmp .eq (.e (.ix (.e (.var 0)) (.int 2))) (.e (.int 0))) (.cmp .lt (.e (.ix (.e (.var 0)) (.int 1))) (.e (.bi .len (.cons (.e (.ix (.e (.var 0)) (.int 0))) .nil))))) (.cons (.set (.v 2) (.ix (.e (.ix (.e (.var 0)) (.int 0))) (.ix (.e (.var 0)) (.int 1)))) (.cons (.rput (.var 0) (.int 1) (.op .add (.e (.ix (.e (.var 0)) (.int 1))) (.e (.int 1)))) (.cons (.ite (.cmp .ge (.e (.var 2)) (.e (.op .pow (.e (.int 10)) (.e (.int 18))))) (.cons (.rput (.var 0) (.int 2) (.var 2)) .nil) .nil) (.cons (.rput (.var 0) (.int 3) (.op .mod (.e (.bi .int (.cons (.e (.op .add (.e (.op .add (.e (.op .mul (.e (.ix (.e (.var 0)) (.int 3))) (.e (.int 48271)))) (.e (.var 2)))) (.e (.int 13)))) .nil))) (.e (.int 2147483647)))) .nil)))) .nil) (.cons (.ite (.cmp .gt (.e (.ix (.e (.var 0)) (.int 2))) (.e (.int 0))) (.cons (.set (.v 3) (.op .mod (.e (.bi .int (.cons (.e (.ix (.e (.var 0)) (.int 2))) .nil))) (.e (.var 1)))) (.cons (.rput (.var 0) (.int 2) (.op .fdiv (.e (.ix (.e (.var 0)) (.int 2))) (.e (.var 1)))) (.cons (.ret (.var 3)) .nil))) .nil) (.cons (.rput (.var 0) (.int 3) (.op .mod (.e (.bi .int (.cons (.e (.op .add (.e (.op .mul (.e (.ix (.e (.var 0)) (.int 3))) (.e (.int 69621)))) (.e (.int 7)))) .nil))) (.e (.int 2147483629)))) (.cons (.ret (.op .mod (.e (.bi .int (.cons (.e (.op .fdiv (.e (.ix (.e (.var 0)) (.int 3))) (.e (.int 11)))) .nil))) (.e (.var 1)))) .nil))))⟩
/-- _law_same(actual, expected): 0 actual 1 expected 2 k -/
def f_23 : Fn := ⟨2, [], 3, (.cons (.ite (.or (.isi (.e (.var 1)) [.tup]) (.isi (.e (.var 1)) [.lst])) (.cons (.ite (.or (.cmp .ne (.e (.isi (.e (.var 1)) [.tup])) (.e (.isi (.e (.var 0)) [.tup]))) (.cmp .ne (.e (.isi (.e (.var 1)) [.lst])) (.e (.isi (.e (.var 0)) [.lst])))) (.cons (.ret (.bl false)) .nil) .nil) (.cons (.ite (.cmp .ne (.e (.bi .len (.cons (.e (.var 0)) .nil))) (.e (.bi .len (.cons (.e (.var 1)) .nil)))) (.cons (.ret (.bl false)) .nil) .nil) (.cons (.ret (.cmp .eq (.e (.bi .len (.cons (.e (.fr (.comp [2] (.var 2) (.v 2) (.rng (.cons (.e (.bi .len (.cons (.e (.var 1)) .nil))) .nil)) (.some (.not (.call 23 (.cons (.ix (.e (.var 0)) (.var 2)) (.cons (.ix (.e (.var 1)) (.var 2)) .nil)))))))) .nil))) (.e (.int 0)))) .nil))) .nil) (.cons (.ite (.isi (.e (.var 1)) [.str]) (.cons (.ret (.and (.isi (.e (.var 0)) [.str]) (.cmp .eq (.e (.var 0)) (.e (.var 1))))) .nil) .nil) (.cons (.ite (.cmp .is (.e (.var 1)) (.e .non)) (.cons (.ret (.cmp .is (.e (.var 0)) (.e .non))) .nil) .nil) (.cons (.ite (.or (.isi (.e (.var 1)) [.bool]) (.isi (.e (.var 0)) [.bool])) (.cons (.ret (.and (.isi (.e (.var 1)) [.bool]) (.and (.isi (.e (.var 0)) [.bool]) (.cmp .eq (.e (.var 0)) (.e (.var 1)))))) .nil) .nil) (.cons (.ret (.and (.isi (.e (.var 0)) [.int]) (.and (.isi (.e (.var 1)) [.int]) (.cmp .eq (.e (.var 0)) (.e (.var 1)))))) .nil)))))⟩
/-- _law_shape(draws): 0 draws -/
def f_24 : Fn := ⟨1, [], 1, (.cons (.ret (.ix (.e (.fr (.lst (.cons (.tup (.cons (.tup (.cons (.str [101]) (.cons (.int 2) .nil))) .nil)) (.cons (.tup (.cons (.tup (.cons (.str [101]) (.cons (.int 2) .nil))) (.cons (.tup (.cons (.str [117]) (.cons (.int 1) .nil))) .nil))) (.cons (.tup (.cons (.tup (.cons (.str [117]) (.cons (.int 1) .nil))) (.cons (.tup (.cons (.str [118]) (.cons (.int 1) .nil))) .nil))) (.cons (.tup (.cons (.tup (.cons (.str [101]) (.cons (.int 2) .nil))) (.cons (.tup (.cons (.str [102]) (.cons (.int 2) .nil))) .nil))) .nil))))))) (.call 22 (.cons (.var 0) (.cons (.int 4) .nil))))) .nil)⟩
/-- _law_tuples(size, places): 0 size 1 places 2 found 3 k 4 more 5 row 6 thing -/
def f_25 : Fn := ⟨2, [], 7, (.cons (.set (.v 2) (.fr (.lst (.cons (.tup .nil) .nil)))) (.cons (.loop (.v 3) (.rng (.cons (.e (.var 1)) .nil)) (.cons (.set (.v 4) (.fr (.lst .nil))) (.cons (.loop (.v 5) (.seq (.e (.var 2))) (.cons (.set (.v 4) (.op .add (.e (.var 4)) (.e (.fr (.comp [6] (.op .add (.e (.var 5)) (.e (.tup (.cons (.var 6) .nil)))) (.v 6) (.rng (.cons (.e (.var 0)) .nil)) .none))))) .nil)) (.cons (.set (.v 2) (.var 4)) .nil)))) (.cons (.ret (.var 2)) .nil)))⟩
/-- _law_world(draws, relations, most): 0 draws 1 relations 2 most 3 size 4 rows 5 name 6 places 7 one -/
def f_26 : Fn := ⟨3, [], 8, (.cons (.set (.v 3) (.op .add (.e (.int 1)) (.e (.call 22 (.cons (.var 0) (.cons (.var 2) .nil)))))) (.cons (.setF 4 (.lst .nil)) (.cons (.loop (.tup (.cons (.v 5) (.cons (.v 6) .nil))) (.seq (.e (.var 1))) (.cons (.app 4 (.bi .tup (.cons (.e (.fr (.comp [7] (.var 7) (.v 7) (.seq (.e (.call 25 (.cons (.var 3) (.cons (.var 6) .nil))))) (.some (.cmp .eq (.e (.call 22 (.cons (.var 0) (.cons (.int 3) .nil)))) (.e (.int 0))))))) .nil))) .nil)) (.cons (.ret (.tup (.cons (.var 3) (.cons (.bi .tup (.cons (.pk 4) .nil)) .nil)))) .nil))))⟩
/-- _law_holds(world, sentence, values): 0 world 1 sentence 2 values 3 word 4 count 5 name 6 thing 7 inside -/
def f_27 : Fn := ⟨3, [], 8, (.cons (.set (.v 3) (.ix (.e (.var 1)) (.int 0))) (.cons (.ite (.cmp .isin (.e (.var 3)) (.e (.fr (.lst (.cons (.str [121, 101, 115]) (.cons (.str [110, 111]) .nil)))))) (.cons (.ret (.cmp .eq (.e (.var 3)) (.e (.str [121, 101, 115])))) .nil) .nil) (.cons (.ite (.cmp .eq (.e (.var 3)) (.e (.str [115, 97, 109, 101]))) (.cons (.ret (.cmp .eq (.e (.ix (.e (.var 2)) (.ix (.e (.var 1)) (.int 1)))) (.e (.ix (.e (.var 2)) (.ix (.e (.var 1)) (.int 2)))))) .nil) .nil) (.cons (.ite (.cmp .eq (.e (.var 3)) (.e (.str [114, 101, 108]))) (.cons (.ret (.cmp .isin (.e (.bi .tup (.cons (.e (.fr (.comp [5] (.ix (.e (.var 2)) (.var 5)) (.v 5) (.seq (.e (.ix (.e (.var 1)) (.int 2)))) .none))) .nil))) (.e (.ix (.e (.ix (.e (.var 0)) (.int 1))) (.ix (.e (.var 1)) (.int 1)))))) .nil) .nil) (.cons (.ite (.cmp .eq (.e (.var 3)) (.e (.str [110, 111, 116]))) (.cons (.ret (.not (.call 27 (.cons (.var 0) (.cons (.ix (.e (.var 1)) (.int 1)) (.cons (.var 2) .nil)))))) .nil) .nil) (.cons (.ite (.cmp .eq (.e (.var 3)) (.e (.str [97, 110, 100]))) (.cons (.ret (.and (.call 27 (.cons (.var 0) (.cons (.ix (.e (.var 1)) (.int 1)) (.cons (.var 2) .nil)))) (.call 27 (.cons (.var 0) (.cons (.ix (.e (.var 1)) (.int 2)) (.cons (.var 2) .nil)))))) .nil) .nil) (.cons (.ite (.cmp .eq (.e (.var 3)) (.e (.str [111, 114]))) (.cons (.ret (.or (.call 27 (.cons (.var 0) (.cons (.ix (.e (.var 1)) (.int 1)) (.cons (.var 2) .nil)))) (.call 27 (.cons (.var 0) (.cons (.ix (.e (.var 1)) (.int 2)) (.cons (.var 2) .nil)))))) .nil) .nil) (.cons (.set (.v 4) (.int 0)) (.cons (.set (.v 5) (.ite (.cmp .eq (.e (.var 3)) (.e (.str [109, 97, 110, 121]))) (.ix (.e (.var 1)) (.int 2)) (.ix (.e (.var 1)) (.int 1)))) (.cons (.loop (.v 6) (.rng (.cons (.e (.ix (.e (.var 0)) (.int 0))) .nil)) (.cons (.setF 7 (.bi .dct (.cons (.e (.var 2)) .nil))) (.cons (.dput 7 (.var 5) (.var 6)) (.cons (.frz 7) (.cons (.set (.v 4) (.op .add (.e (.var 4)) (.e (.bi .int (.cons (.e (.call 27 (.cons (.var 0) (.cons (.ix (.e (.var 1)) (.op .sub (.e (.bi .len (.cons (.e (.var 1)) .nil))) (.e (.int 1)))) (.cons (.var 7) .nil))))) .nil))))) .nil))))) (.cons (.ret (.ite (.cmp .eq (.e (.var 3)) (.e (.str [97, 108, 108]))) (.cmp .eq (.e (.var 4)) (.e (.ix (.e (.var 0)) (.int 0)))) (.cmp .ge (.e (.var 4)) (.e (.ite (.cmp .eq (.e (.var 3)) (.e (.str [109, 97, 110, 121]))) (.ix (.e (.var 1)) (.int 1)) (.int 1)))))) .nil)))))))))))⟩
/-- _law_sentence(draws, relations, names, deep): 0 draws 1 relations 2 names 3 deep 4 form 5 name 6 places 7 inside 8 k 9 one -/
def f_28 : Fn := ⟨4, [], 10, (.cons (.set (.v 4) (.ite (.cmp .gt (.e (.var 3)) (.e (.int 0))) (.call 22 (.cons (.var 0) (.cons (.int 8) .nil))) (.int 0))) (.cons (.ite (.and (.cmp .lt (.e (.var 4)) (.e (.int 3))) (.cmp .gt (.e (.bi .len (.cons (.e (.var 2)) .nil))) (.e (.int 0)))) (.cons (.set (.tup (.cons (.v 5) (.cons (.v 6) .nil))) (.ix (.e (.var 1)) (.call 22 (.cons (.var 0) (.cons (.bi .len (.cons (.e (.var 1)) .nil)) .nil))))) (.cons (.ret (.ite (.cmp .gt (.e (.var 4)) (.e (.int 0))) (.tup (.cons (.str [114, 101, 108]) (.cons (.var 5) (.cons (.bi .tup (.cons (.e (.fr (.comp [8] (.ix (.e (.var 2)) (.call 22 (.cons (.var 0) (.cons (.bi .len (.cons (.e (.var 2)) .nil)) .nil)))) (.v 8) (.rng (.cons (.e (.var 6)) .nil)) .none))) .nil)) .nil)))) (.tup (.cons (.str [115, 97, 109, 101]) (.cons (.ix (.e (.var 2)) (.int 0)) (.cons (.ix (.e (.var 2)) (.call 22 (.cons (.var 0) (.cons (.bi .len (.cons (.e (.var 2)) .nil)) .nil)))) .nil)))))) .nil)) .nil) (.cons (.ite (.and (.cmp .eq (.e (.var 4)) (.e (.int 3))) (.cmp .gt (.e (.var 3)) (.e (.int 0)))) (.cons (.ret (.tup (.cons (.str [110, 111, 116]) (.cons (.call 28 (.cons (.var 0) (.cons (.var 1) (.cons (.var 2) (.cons (.op .sub (.e (.var 3)) (.e (.int 1))) .nil))))) .nil)))) .nil) .nil) (.cons (.ite (.and (.cmp .lt (.e (.var 4)) (.e (.int 5))) (.cmp .gt (.e (.var 3)) (.e (.int 0)))) (.cons (.ret (.tup (.cons (.ix (.e (.fr (.lst (.cons (.str [97, 110, 100]) (.cons (.str [111, 114]) .nil))))) (.call 22 (.cons (.var 0) (.cons (.int 2) .nil)))) (.cons (.call 28 (.cons (.var 0) (.cons (.var 1) (.cons (.var 2) (.cons (.op .sub (.e (.var 3)) (.e (.int 1))) .nil))))) (.cons (.call 28 (.cons (.var 0) (.cons (.var 1) (.cons (.var 2) (.cons (.op .sub (.e (.var 3)) (.e (.int 1))) .nil))))) .nil))))) .nil) .nil) (.cons (.ite (.cmp .eq (.e (.var 3)) (.e (.int 0))) (.cons (.ret (.ite (.cmp .eq (.e (.bi .len (.cons (.e (.var 2)) .nil))) (.e (.int 0))) (.tup (.cons (.str [121, 101, 115]) .nil)) (.tup (.cons (.str [115, 97, 109, 101]) (.cons (.ix (.e (.var 2)) (.int 0)) (.cons (.ix (.e (.var 2)) (.int 0)) .nil)))))) .nil) .nil) (.cons (.set (.v 5) (.ix (.e (.str [120, 121, 122])) (.call 22 (.cons (.var 0) (.cons (.int 3) .nil))))) (.cons (.set (.v 7) (.call 28 (.cons (.var 0) (.cons (.var 1) (.cons (.op .add (.e (.fr (.comp [9] (.var 9) (.v 9) (.seq (.e (.var 2))) (.some (.cmp .ne (.e (.var 9)) (.e (.var 5))))))) (.e (.fr (.lst (.cons (.var 5) .nil))))) (.cons (.op .sub (.e (.var 3)) (.e (.int 1))) .nil)))))) (.cons (.ret (.ite (.cmp .lt (.e (.var 4)) (.e (.int 7))) (.tup (.cons (.ix (.e (.fr (.lst (.cons (.str [115, 111, 109, 101]) (.cons (.str [97, 108, 108]) .nil))))) (.call 22 (.cons (.var 0) (.cons (.int 2) .nil)))) (.cons (.var 5) (.cons (.var 7) .nil)))) (.tup (.cons (.str [109, 97, 110, 121]) (.cons (.call 22 (.cons (.var 0) (.cons (.int 4) .nil))) (.cons (.var 5) (.cons (.var 7) .nil))))))) .nil))))))))⟩
/-- _law_low(n, m): 0 n 1 m 2 one 3 two -/
def f_29 : Fn := ⟨2, [], 4, (.cons (.set (.tup (.cons (.v 2) (.cons (.v 3) .nil))) (.tup (.cons (.var 0) (.cons (.var 1) .nil)))) (.cons (.while (.cmp .ne (.e (.var 3)) (.e (.int 0))) (.cons (.set (.tup (.cons (.v 2) (.cons (.v 3) .nil))) (.tup (.cons (.var 3) (.cons (.op .mod (.e (.bi .int (.cons (.e (.var 2)) .nil))) (.e (.var 3))) .nil)))) .nil)) (.cons (.ret (.tup (.cons (.op .fdiv (.e (.var 0)) (.e (.var 2))) (.cons (.op .fdiv (.e (.var 1)) (.e (.var 2))) .nil)))) .nil)))⟩
/-- _law_worlds(relations, size): 0 relations 1 size 2 found 3 name 4 places 5 picks 6 item 7 more 8 known 9 pick 10 inside -/
def f_30 : Fn := ⟨2, [], 11, (.cons (.set (.v 2) (.fr (.lst (.cons (.fr (.dct .nil .nil)) .nil)))) (.cons (.loop (.tup (.cons (.v 3) (.cons (.v 4) .nil))) (.seq (.e (.var 0))) (.cons (.set (.v 5) (.fr (.lst (.cons (.tup .nil) .nil)))) (.cons (.loop (.v 6) (.seq (.e (.call 25 (.cons (.var 1) (.cons (.var 4) .nil))))) (.cons (.set (.v 5) (.op .add (.e (.var 5)) (.e (.fr (.comp [9] (.op .add (.e (.var 9)) (.e (.tup (.cons (.var 6) .nil)))) (.v 9) (.seq (.e (.var 5))) .none))))) .nil)) (.cons (.setF 7 (.lst .nil)) (.cons (.loop (.v 8) (.seq (.e (.var 2))) (.cons (.loop (.v 9) (.seq (.e (.var 5))) (.cons (.setF 10 (.bi .dct (.cons (.e (.var 8)) .nil))) (.cons (.dput 10 (.var 3) (.var 9)) (.cons (.frz 10) (.cons (.app 7 (.var 10)) .nil))))) .nil)) (.cons (.frz 7) (.cons (.set (.v 2) (.var 7)) .nil))))))) (.cons (.ret (.var 2)) .nil)))⟩
/-- _law_told(shape, sentence, size): 0 shape 1 sentence 2 size 3 e -/
def f_31 : Fn := ⟨3, [], 4, (.cons (.try_ (.cons (.ret (.call 19 (.cons (.var 0) (.cons (.var 1) (.cons (.var 2) .nil))))) .nil) [0, 1, 2, 3] (.cons 3 (.fld 3 0) (.cons 2 (.ret [98, 97, 100]) .nil))) .nil)⟩
/-- law(script): 0 script 1 draws 2 relations 3 size 4 shape 5 worlds 6 turn 7 one 8 two 9 good 10 told_v 11 both 12 either 13 other 14 wrong 15 known -/
def f_32 : Fn := ⟨1, [], 16, (.cons (.set (.v 1) (.call 21 (.cons (.var 0) .nil))) (.cons (.set (.tup (.cons (.v 2) (.cons (.v 3) .nil))) (.ix (.e (.fr (.lst (.cons (.tup (.cons (.tup (.cons (.tup (.cons (.str [101]) (.cons (.int 2) .nil))) .nil)) (.cons (.int 2) .nil))) (.cons (.tup (.cons (.tup (.cons (.tup (.cons (.str [101]) (.cons (.int 2) .nil))) (.cons (.tup (.cons (.str [117]) (.cons (.int 1) .nil))) .nil))) (.cons (.int 2) .nil))) (.cons (.tup (.cons (.tup (.cons (.tup (.cons (.str [117]) (.cons (.int 1) .nil))) (.cons (.tup (.cons (.str [118]) (.cons (.int 1) .nil))) .nil))) (.cons (.int 3) .nil))) (.cons (.tup (.cons (.tup (.cons (.tup (.cons (.str [117]) (.cons (.int 1) .nil))) .nil)) (.cons (.int 5) .nil))) (.cons (.tup (.cons (.tup (.cons (.tup (.cons (.str [116]) (.cons (.int 3) .nil))) .nil)) (.cons (.int 2) .nil))) .nil)))))))) (.call 22 (.cons (.var 1) (.cons (.int 5) .nil))))) (.cons (.set (.v 4) (.make 5 (.cons (.var 2) .nil))) (.cons (.set (.v 5) (.call 30 (.cons (.var 2) (.cons (.var 3) .nil)))) (.cons (.loop (.v 6) (.rng (.cons (.e (.int 2)) .nil)) (.cons (.set (.tup (.cons (.v 7) (.cons (.v 8) .nil))) (.tup (.cons (.call 28 (.cons (.var 1) (.cons (.var 2) (.cons (.fr (.lst .nil)) (.cons (.int 4) .nil))))) (.cons (.call 28 (.cons (.var 1) (.cons (.var 2) (.cons (.fr (.lst .nil)) (.cons (.int 3) .nil))))) .nil)))) (.cons (.set (.v 9) (.bi .len (.cons (.e (.fr (.comp [15] (.var 15) (.v 15) (.seq (.e (.var 5))) (.some (.call 27 (.cons (.tup (.cons (.var 3) (.cons (.var 15) .nil))) (.cons (.var 7) (.cons (.fr (.dct .nil .nil)) .nil)))))))) .nil))) (.cons (.set (.v 10) (.call 19 (.cons (.var 4) (.cons (.var 7) (.cons (.var 3) .nil))))) (.cons (.ite (.or (.not (.call 23 (.cons (.var 10) (.cons (.call 29 (.cons (.var 9) (.cons (.bi .len (.cons (.e (.var 5)) .nil)) .nil))) .nil)))) (.not (.call 23 (.cons (.call 19 (.cons (.var 4) (.cons (.tup (.cons (.str [110, 111, 116]) (.cons (.var 7) .nil))) (.cons (.var 3) .nil)))) (.cons (.call 29 (.cons (.op .sub (.e (.bi .len (.cons (.e (.var 5)) .nil))) (.e (.var 9))) (.cons (.bi .len (.cons (.e (.var 5)) .nil)) .nil))) .nil))))) (.cons (.ret (.bl false)) .nil) .nil) (.cons (.set (.tup (.cons (.v 11) (.cons (.v 12) (.cons (.v 13) .nil)))) (.tup (.cons (.call 19 (.cons (.var 4) (.cons (.tup (.cons (.str [97, 110, 100]) (.cons (.var 7) (.cons (.var 8) .nil)))) (.cons (.var 3) .nil)))) (.cons (.call 19 (.cons (.var 4) (.cons (.tup (.cons (.str [111, 114]) (.cons (.var 7) (.cons (.var 8) .nil)))) (.cons (.var 3) .nil)))) (.cons (.call 19 (.cons (.var 4) (.cons (.var 8) (.cons (.var 3) .nil)))) .nil))))) (.cons (.ite (.cmp .ne (.e (.op .mul (.e (.op .mul (.e (.op .add (.e (.op .mul (.e (.ix (.e (.var 11)) (.int 0))) (.e (.ix (.e (.var 12)) (.int 1))))) (.e (.op .mul (.e (.ix (.e (.var 12)) (.int 0))) (.e (.ix (.e (.var 11)) (.int 1))))))) (.e (.ix (.e (.var 10)) (.int 1))))) (.e (.ix (.e (.var 13)) (.int 1))))) (.e (.op .mul (.e (.op .mul (.e (.op .add (.e (.op .mul (.e (.ix (.e (.var 10)) (.int 0))) (.e (.ix (.e (.var 13)) (.int 1))))) (.e (.op .mul (.e (.ix (.e (.var 13)) (.int 0))) (.e (.ix (.e (.var 10)) (.int 1))))))) (.e (.ix (.e (.var 11)) (.int 1))))) (.e (.ix (.e (.var 12)) (.int 1)))))) (.cons (.ret (.bl false)) .nil) .nil) .nil))))))) (.cons (.ite (.not (.call 23 (.cons (.call 20 (.cons (.fr (.lst (.cons (.int 1) (.cons (.int 2) .nil)))) .nil)) (.cons (.fr (.lst (.cons (.tup .nil) (.cons (.tup (.cons (.int 1) .nil)) (.cons (.tup (.cons (.int 2) .nil)) (.cons (.tup (.cons (.int 1) (.cons (.int 2) .nil))) .nil)))))) .nil)))) (.cons (.ret (.bl false)) .nil) .nil) (.cons (.set (.v 14) (.fr (.lst (.cons (.call 31 (.cons (.var 4) (.cons (.tup (.cons (.str [121, 101, 115]) .nil)) (.cons (.int 0) .nil)))) (.cons (.call 31 (.cons (.var 4) (.cons (.tup (.cons (.str [121, 101, 115]) .nil)) (.cons (.int 99) .nil)))) (.cons (.call 31 (.cons (.var 4) (.cons (.tup (.cons (.str [121, 101, 115]) .nil)) (.cons (.bl true) .nil)))) (.cons (.call 31 (.cons (.var 4) (.cons (.tup (.cons (.str [114, 101, 108]) (.cons (.str [122, 122]) (.cons (.tup (.cons (.str [120]) .nil)) .nil)))) (.cons (.int 1) .nil)))) (.cons (.call 31 (.cons (.var 4) (.cons (.tup (.cons (.str [115, 97, 109, 101]) (.cons (.str [120]) (.cons (.str [120]) .nil)))) (.cons (.int 1) .nil)))) .nil)))))))) (.cons (.ret (.call 23 (.cons (.var 14) (.cons (.fr (.lst (.cons (.str [109, 97, 110, 121]) (.cons (.str [109, 97, 110, 121]) (.cons (.str [109, 97, 110, 121]) (.cons (.str [98, 97, 100]) (.cons (.str [98, 97, 100]) .nil))))))) .nil)))) .nil))))))))⟩
def tab : Tab where
  fn := fun n => match n with
    | 1 => some f_1
    | 2 => some f_2
    | 4 => some f_4
    | 5 => some f_5
    | 6 => some f_6
    | 8 => some f_8
    | 9 => some f_9
    | 10 => some f_10
    | 11 => some f_11
    | 12 => some f_12
    | 13 => some f_13
    | 14 => some f_14
    | 15 => some f_15
    | 16 => some f_16
    | 17 => some f_17
    | 18 => some f_18
    | 19 => some f_19
    | 20 => some f_20
    | 21 => some f_21
    | 22 => some f_22
    | 23 => some f_23
    | 24 => some f_24
    | 25 => some f_25
    | 26 => some f_26
    | 27 => some f_27
    | 28 => some f_28
    | 29 => some f_29
    | 30 => some f_30
    | 31 => some f_31
    | 32 => some f_32
    | _ => none
  ini := fun n => match n with
    | 5 => some f_3
    | 6 => some f_7
    | _ => none
def lawNo : Nat := 32

end k73

set_option Elab.async false
set_option maxRecDepth 100000
set_option maxHeartbeats 0
namespace k73
section
open PySem PySem.Spec PyProof.Rows L2
abbrev row : PySem.W.OpenLaw := PySem.Challenge.rw_worldsalike_k73_whole_exact_chances
def top (i : Nat) : Stmt := PySem.Challenge.pw_worldsalike_k73_whole_exact_chances.main.body.getD i (.Pass ⟨0, 0, 0, 0⟩)
def clsStmt (s : Stmt) (j : Nat) : Stmt := match s with | .ClassDef _ _ _ b _ _ _ _ _ _ _ => b.getD j (.Pass ⟨0, 0, 0, 0⟩) | _ => .Pass ⟨0, 0, 0, 0⟩
/-- Refused.__init__ -/
def d0 : He.DefD := ⟨("Refused", some "__init__"), "__init__", "Refused.__init__", defArgs (clsStmt (top 4) 0), defBody (clsStmt (top 4) 0), defScope (clsStmt (top 4) 0), [], []⟩
/-- is_integer -/
def d1 : He.DefD := ⟨("is_integer", none), "is_integer", "is_integer", defArgs (top 10), defBody (top 10), defScope (top 10), [], []⟩
/-- is_name -/
def d2 : He.DefD := ⟨("is_name", none), "is_name", "is_name", defArgs (top 11), defBody (top 11), defScope (top 11), [], []⟩
/-- Shape.__init__ -/
def d3 : He.DefD := ⟨("Shape", some "__init__"), "__init__", "Shape.__init__", defArgs (clsStmt (top 12) 0), defBody (clsStmt (top 12) 0), defScope (clsStmt (top 12) 0), [], []⟩
/-- Shape.places -/
def d4 : He.DefD := ⟨("Shape", some "places"), "places", "Shape.places", defArgs (clsStmt (top 12) 1), defBody (clsStmt (top 12) 1), defScope (clsStmt (top 12) 1), [], []⟩
/-- Shape.at -/
def d5 : He.DefD := ⟨("Shape", some "at"), "at", "Shape.at", defArgs (clsStmt (top 12) 2), defBody (clsStmt (top 12) 2), defScope (clsStmt (top 12) 2), [], []⟩
/-- is_row -/
def d6 : He.DefD := ⟨("is_row", none), "is_row", "is_row", defArgs (top 13), defBody (top 13), defScope (top 13), [], []⟩
/-- World.__init__ -/
def d7 : He.DefD := ⟨("World", some "__init__"), "__init__", "World.__init__", defArgs (clsStmt (top 14) 0), defBody (clsStmt (top 14) 0), defScope (clsStmt (top 14) 0), [], []⟩
/-- World.holds -/
def d8 : He.DefD := ⟨("World", some "holds"), "holds", "World.holds", defArgs (clsStmt (top 14) 1), defBody (clsStmt (top 14) 1), defScope (clsStmt (top 14) 1), [], []⟩
/-- World.told -/
def d9 : He.DefD := ⟨("World", some "told"), "told", "World.told", defArgs (clsStmt (top 14) 2), defBody (clsStmt (top 14) 2), defScope (clsStmt (top 14) 2), [], []⟩
/-- all_tuples -/
def d10 : He.DefD := ⟨("all_tuples", none), "all_tuples", "all_tuples", defArgs (top 15), defBody (top 15), defScope (top 15), [], []⟩
/-- is_sentence -/
def d11 : He.DefD := ⟨("is_sentence", none), "is_sentence", "is_sentence", defArgs (top 19), defBody (top 19), defScope (top 19), [.int 300], []⟩
/-- look_at -/
def d12 : He.DefD := ⟨("look_at", none), "look_at", "look_at", defArgs (top 20), defBody (top 20), defScope (top 20), [], []⟩
/-- inner -/
def d13 : He.DefD := ⟨("inner", none), "inner", "inner", defArgs (top 21), defBody (top 21), defScope (top 21), [], []⟩
/-- bound -/
def d14 : He.DefD := ⟨("bound", none), "bound", "bound", defArgs (top 22), defBody (top 22), defScope (top 22), [], []⟩
/-- free -/
def d15 : He.DefD := ⟨("free", none), "free", "free", defArgs (top 23), defBody (top 23), defScope (top 23), [], []⟩
/-- told -/
def d16 : He.DefD := ⟨("told", none), "told", "told", defArgs (top 24), defBody (top 24), defScope (top 24), [], []⟩
/-- how_many_tuples -/
def d17 : He.DefD := ⟨("how_many_tuples", none), "how_many_tuples", "how_many_tuples", defArgs (top 27), defBody (top 27), defScope (top 27), [], []⟩
/-- shared -/
def d18 : He.DefD := ⟨("shared", none), "shared", "shared", defArgs (top 28), defBody (top 28), defScope (top 28), [], []⟩
/-- chance -/
def d19 : He.DefD := ⟨("chance", none), "chance", "chance", defArgs (top 29), defBody (top 29), defScope (top 29), [], []⟩
/-- all_picks -/
def d20 : He.DefD := ⟨("all_picks", none), "all_picks", "all_picks", defArgs (top 30), defBody (top 30), defScope (top 30), [], []⟩
/-- _law_draws -/
def d21 : He.DefD := ⟨("_law_draws", none), "_law_draws", "_law_draws", defArgs (top 32), defBody (top 32), defScope (top 32), [], []⟩
/-- _law_draw -/
def d22 : He.DefD := ⟨("_law_draw", none), "_law_draw", "_law_draw", defArgs (top 33), defBody (top 33), defScope (top 33), [], []⟩
/-- _law_same -/
def d23 : He.DefD := ⟨("_law_same", none), "_law_same", "_law_same", defArgs (top 34), defBody (top 34), defScope (top 34), [], []⟩
/-- _law_shape -/
def d24 : He.DefD := ⟨("_law_shape", none), "_law_shape", "_law_shape", defArgs (top 35), defBody (top 35), defScope (top 35), [], []⟩
/-- _law_tuples -/
def d25 : He.DefD := ⟨("_law_tuples", none), "_law_tuples", "_law_tuples", defArgs (top 36), defBody (top 36), defScope (top 36), [], []⟩
/-- _law_world -/
def d26 : He.DefD := ⟨("_law_world", none), "_law_world", "_law_world", defArgs (top 37), defBody (top 37), defScope (top 37), [], []⟩
/-- _law_holds -/
def d27 : He.DefD := ⟨("_law_holds", none), "_law_holds", "_law_holds", defArgs (top 38), defBody (top 38), defScope (top 38), [], []⟩
/-- _law_sentence -/
def d28 : He.DefD := ⟨("_law_sentence", none), "_law_sentence", "_law_sentence", defArgs (top 39), defBody (top 39), defScope (top 39), [], []⟩
/-- _law_low -/
def d29 : He.DefD := ⟨("_law_low", none), "_law_low", "_law_low", defArgs (top 40), defBody (top 40), defScope (top 40), [], []⟩
/-- _law_worlds -/
def d30 : He.DefD := ⟨("_law_worlds", none), "_law_worlds", "_law_worlds", defArgs (top 41), defBody (top 41), defScope (top 41), [], []⟩
/-- _law_told -/
def d31 : He.DefD := ⟨("_law_told", none), "_law_told", "_law_told", defArgs (top 42), defBody (top 42), defScope (top 42), [], []⟩
/-- law -/
def d32 : He.DefD := ⟨("law", none), "law", "law", defArgs (top 43), defBody (top 43), defScope (top 43), [], []⟩
def fns : List He.DefD := [d0, d1, d2, d3, d4, d5, d6, d7, d8, d9, d10, d11, d12, d13, d14, d15, d16, d17, d18, d19, d20, d21, d22, d23, d24, d25, d26, d27, d28, d29, d30, d31, d32]
def fa0 : List He.Fa := [.glo "is_integer", .glo "is_name", .glo "is_row", .glo "all_tuples", .glo "is_sentence", .glo "look_at", .glo "inner", .glo "bound", .glo "free", .glo "told", .glo "how_many_tuples", .glo "shared", .glo "chance", .glo "all_picks", .glo "_law_draws", .glo "_law_draw", .glo "_law_same", .glo "_law_shape", .glo "_law_tuples", .glo "_law_world", .glo "_law_holds", .glo "_law_sentence", .glo "_law_low", .glo "_law_worlds", .glo "_law_told", .glo "law", .glo "WorldError", .keep "WorldError", .exc "WorldError", .glo "BadWorld"]
def fa1 : List He.Fa := [.keep "BadWorld", .exc "BadWorld", .glo "BadSentence", .keep "BadSentence", .exc "BadSentence", .glo "Refused", .keep "Refused", .glo "Shape", .keep "Shape", .cls "Shape", .mkr "Shape", .noat "Shape" "relations", .meth "Shape" "places", .meth "Shape" "at", .glo "World", .keep "World", .cls "World", .mkr "World", .noat "World" "shape", .noat "World" "size", .noat "World" "rows", .noat "World" "known", .meth "World" "holds", .meth "World" "told", .exm "WorldError" "BadWorld" false, .exm "WorldError" "BadSentence" false, .exm "WorldError" "Refused" false, .exm "BadWorld" "BadWorld" true, .exm "BadWorld" "BadSentence" false, .exm "BadWorld" "Refused" false]
def fa2 : List He.Fa := [.exm "BadSentence" "BadWorld" false, .exm "BadSentence" "BadSentence" true, .exm "BadSentence" "Refused" false, .exm "Refused" "BadWorld" false, .exm "Refused" "BadSentence" false, .exm "Refused" "Refused" true, .str "LETTERS" "abcdefghijklmnopqrstuvwxyz", .int "MOST_RELATIONS" 4, .int "MOST_PLACES" 3, .int "MOST_THINGS" 40, .int "MOST_DEEP" 300, .int "MOST_COUNT" 40, .int "MOST_TUPLES" 16, .free "ValueError", .free "all", .free "bool", .free "dict", .free "int", .free "isinstance", .free "len", .free "list", .free "range", .free "sorted", .free "str", .free "tuple", .free "zip"]
def fas : List He.Fa := fa0 ++ fa1 ++ fa2
def loose0 : List Str := ["LETTERS", "MOST_RELATIONS", "MOST_PLACES", "MOST_THINGS", "MOST_DEEP", "MOST_COUNT", "MOST_TUPLES", "is_integer", "is_name", "is_row", "all_tuples", "is_sentence", "look_at", "inner", "bound", "free", "told", "how_many_tuples", "shared", "chance", "all_picks", "_law_draws", "_law_draw", "_law_same", "_law_shape", "_law_tuples", "_law_world", "_law_holds", "_law_sentence", "_law_low"]
def loose1 : List Str := ["_law_worlds", "_law_told", "WorldError", "BadWorld", "BadSentence", "Refused", "Shape", "World"]
def loose : List Str := loose0 ++ loose1
def lawAt : Nat := 43
def exB (K : PySem.W.Frag) : Bool := Wa.noLists K && Wa.kitB K && Wa.refB K (He.ga K "Refused") (He.ma K (He.ga K "Refused") "__init__") (He.ga K "WorldError") && L2.xfB K (He.ga K "Refused") && Wa.noatB K (He.ga K "Refused") "word"
/-! ### the code -/
/-! ### where it stands -/
def clsName : Nat → Str
  | 0 => "WorldError"
  | 1 => "BadWorld"
  | 2 => "BadSentence"
  | 3 => "Refused"
  | 5 => "Shape"
  | 6 => "World"
  | _ => "?"
def clsFlds : Nat → List Str
  | 3 => ["word"]
  | 5 => ["relations"]
  | 6 => ["shape", "size", "rows", "known"]
  | _ => []
abbrev Vw (w : World) (K : PySem.W.Frag) : Wa.View := ⟨w, K, fun c => He.ga K (clsName c), clsFlds⟩
open Wa in
def Γ : Wa.Gm where
  fns := [("is_integer", 1, 1, 1), ("is_name", 2, 1, 1), ("is_row", 6, 3, 3), ("all_tuples", 10, 2, 2), ("is_sentence", 11, 2, 3), ("look_at", 12, 2, 2), ("inner", 13, 1, 1), ("bound", 14, 1, 1), ("free", 15, 1, 1), ("told", 16, 3, 3), ("how_many_tuples", 17, 2, 2), ("shared", 18, 2, 2), ("chance", 19, 3, 3), ("all_picks", 20, 1, 1), ("_law_draws", 21, 1, 1), ("_law_draw", 22, 2, 2), ("_law_same", 23, 2, 2), ("_law_shape", 24, 1, 1), ("_law_tuples", 25, 2, 2), ("_law_world", 26, 3, 3), ("_law_holds", 27, 3, 3), ("_law_sentence", 28, 4, 4), ("_law_low", 29, 2, 2), ("_law_worlds", 30, 2, 2), ("_law_told", 31, 3, 3), ("law", 32, 1, 1)]
  mts := [(5, "places", 4, 2, 2), (5, "at", 5, 2, 2), (6, "holds", 8, 3, 3), (6, "told", 9, 1, 1)]
  inis := [("Shape", 5, 1, 1), ("World", 6, 3, 3)]
  exc0 := [("WorldError", 0), ("BadWorld", 1), ("BadSentence", 2)]
  exc1 := [("Refused", 3)]
  excs := [("BadWorld", 1), ("BadSentence", 2), ("Refused", 3)]
  known := [0, 1, 2, 3]
  xfs := [(3, 0, "word")]
  cons := [("LETTERS", (.str [97, 98, 99, 100, 101, 102, 103, 104, 105, 106, 107, 108, 109, 110, 111, 112, 113, 114, 115, 116, 117, 118, 119, 120, 121, 122])), ("MOST_RELATIONS", (.int 4)), ("MOST_PLACES", (.int 3)), ("MOST_THINGS", (.int 40)), ("MOST_DEEP", (.int 300)), ("MOST_COUNT", (.int 40)), ("MOST_TUPLES", (.int 16))]
  flds := [(5, ["relations"]), (6, ["shape", "size", "rows", "known"])]
  bis := ["all", "bool", "dict", "int", "isinstance", "len", "list", "range", "sorted", "str", "tuple", "zip"]
section
open Wa PySem PySem.Spec PyProof.Rows L2
theorem sc1 : FnScope ["value"] ["value"] d1.scope := ⟨rfl, rfl, rfl, by decide +kernel, rfl, by decide +kernel, by decide +kernel⟩
theorem ck1 : cSs Γ f_1.body ⟨["value"], d1.scope, fun _ => true, true⟩ d1.body = true := by decide +kernel
theorem sc2 : FnScope ["value", "one"] ["value"] d2.scope := ⟨rfl, rfl, rfl, by decide +kernel, rfl, by decide +kernel, by decide +kernel⟩
theorem ck2 : cSs Γ f_2.body ⟨["value", "one"], d2.scope, fun _ => true, true⟩ d2.body = true := by decide +kernel
theorem sc3 : FnScope ["self", "relations", "one", "names", "name", "_"] ["self", "relations"] d3.scope := ⟨rfl, rfl, rfl, by decide +kernel, rfl, by decide +kernel, by decide +kernel⟩
theorem ck3 : cSs Γ f_3.body ⟨["self", "relations", "one", "names", "name", "_"], d3.scope, fun _ => true, true⟩ d3.body = true := by decide +kernel
theorem sc4 : FnScope ["self", "name", "one", "places"] ["self", "name"] d4.scope := ⟨rfl, rfl, rfl, by decide +kernel, rfl, by decide +kernel, by decide +kernel⟩
theorem ck4 : cSs Γ f_4.body ⟨["self", "name", "one", "places"], d4.scope, fun _ => true, true⟩ d4.body = true := by decide +kernel
theorem sc5 : FnScope ["self", "name", "one", "_"] ["self", "name"] d5.scope := ⟨rfl, rfl, rfl, by decide +kernel, rfl, by decide +kernel, by decide +kernel⟩
theorem ck5 : cSs Γ f_5.body ⟨["self", "name", "one", "_"], d5.scope, fun _ => true, true⟩ d5.body = true := by decide +kernel
theorem sc6 : FnScope ["value", "places", "size", "one", "thing"] ["value", "places", "size"] d6.scope := ⟨rfl, rfl, rfl, by decide +kernel, rfl, by decide +kernel, by decide +kernel⟩
theorem ck6 : cSs Γ f_6.body ⟨["value", "places", "size", "one", "thing"], d6.scope, fun _ => true, true⟩ d6.body = true := by decide +kernel
theorem sc7 : FnScope ["self", "shape", "size", "rows", "row", "_", "places", "one"] ["self", "shape", "size", "rows"] d7.scope := ⟨rfl, rfl, rfl, by decide +kernel, rfl, by decide +kernel, by decide +kernel⟩
theorem ck7 : cSs Γ f_7.body ⟨["self", "shape", "size", "rows", "row", "_", "places", "one"], d7.scope, fun _ => true, true⟩ d7.body = true := by decide +kernel
theorem sc8 : FnScope ["self", "name", "things"] ["self", "name", "things"] d8.scope := ⟨rfl, rfl, rfl, by decide +kernel, rfl, by decide +kernel, by decide +kernel⟩
theorem ck8 : cSs Γ f_8.body ⟨["self", "name", "things"], d8.scope, fun _ => true, true⟩ d8.body = true := by decide +kernel
theorem sc9 : FnScope ["self"] ["self"] d9.scope := ⟨rfl, rfl, rfl, by decide +kernel, rfl, by decide +kernel, by decide +kernel⟩
theorem ck9 : cSs Γ f_9.body ⟨["self"], d9.scope, fun _ => true, true⟩ d9.body = true := by decide +kernel
theorem sc10 : FnScope ["size", "many", "found", "_", "one", "thing"] ["size", "many"] d10.scope := ⟨rfl, rfl, rfl, by decide +kernel, rfl, by decide +kernel, by decide +kernel⟩
theorem ck10 : cSs Γ f_10.body ⟨["size", "many", "found", "_", "one", "thing"], d10.scope, fun _ => true, true⟩ d10.body = true := by decide +kernel
theorem sc11 : FnScope ["shape", "value", "deep", "word", "one"] ["shape", "value", "deep"] d11.scope := ⟨rfl, rfl, rfl, by decide +kernel, rfl, by decide +kernel, by decide +kernel⟩
theorem ck11 : cSs Γ f_11.body ⟨["shape", "value", "deep", "word", "one"], d11.scope, fun _ => true, true⟩ d11.body = true := by decide +kernel
theorem sc12 : FnScope ["shape", "value"] ["shape", "value"] d12.scope := ⟨rfl, rfl, rfl, by decide +kernel, rfl, by decide +kernel, by decide +kernel⟩
theorem ck12 : cSs Γ f_12.body ⟨["shape", "value"], d12.scope, fun _ => true, true⟩ d12.body = true := by decide +kernel
theorem sc13 : FnScope ["sentence", "word"] ["sentence"] d13.scope := ⟨rfl, rfl, rfl, by decide +kernel, rfl, by decide +kernel, by decide +kernel⟩
theorem ck13 : cSs Γ f_13.body ⟨["sentence", "word"], d13.scope, fun _ => true, true⟩ d13.body = true := by decide +kernel
theorem sc14 : FnScope ["sentence"] ["sentence"] d14.scope := ⟨rfl, rfl, rfl, by decide +kernel, rfl, by decide +kernel, by decide +kernel⟩
theorem ck14 : cSs Γ f_14.body ⟨["sentence"], d14.scope, fun _ => true, true⟩ d14.body = true := by decide +kernel
theorem sc15 : FnScope ["sentence", "word", "found", "one", "name"] ["sentence"] d15.scope := ⟨rfl, rfl, rfl, by decide +kernel, rfl, by decide +kernel, by decide +kernel⟩
theorem ck15 : cSs Γ f_15.body ⟨["sentence", "word", "found", "one", "name"], d15.scope, fun _ => true, true⟩ d15.body = true := by decide +kernel
theorem sc16 : FnScope ["world", "sentence", "values", "word", "count", "wanted", "inside", "thing", "name"] ["world", "sentence", "values"] d16.scope := ⟨rfl, rfl, rfl, by decide +kernel, rfl, by decide +kernel, by decide +kernel⟩
theorem ck16 : cSs Γ f_16.body ⟨["world", "sentence", "values", "word", "count", "wanted", "inside", "thing", "name"], d16.scope, fun _ => true, true⟩ d16.body = true := by decide +kernel
theorem sc17 : FnScope ["shape", "size", "count", "_", "places", "row"] ["shape", "size"] d17.scope := ⟨rfl, rfl, rfl, by decide +kernel, rfl, by decide +kernel, by decide +kernel⟩
theorem ck17 : cSs Γ f_17.body ⟨["shape", "size", "count", "_", "places", "row"], d17.scope, fun _ => true, true⟩ d17.body = true := by decide +kernel
theorem sc18 : FnScope ["first", "other"] ["first", "other"] d18.scope := ⟨rfl, rfl, rfl, by decide +kernel, rfl, by decide +kernel, by decide +kernel⟩
theorem ck18 : cSs Γ f_18.body ⟨["first", "other"], d18.scope, fun _ => true, true⟩ d18.body = true := by decide +kernel
theorem sc19 : FnScope ["shape", "sentence", "size", "rows", "_", "places", "many", "row", "part", "picked"] ["shape", "sentence", "size"] d19.scope := ⟨rfl, rfl, rfl, by decide +kernel, rfl, by decide +kernel, by decide +kernel⟩
theorem ck19 : cSs Γ f_19.body ⟨["shape", "sentence", "size", "rows", "_", "places", "many", "row", "part", "picked"], d19.scope, fun _ => true, true⟩ d19.body = true := by decide +kernel
theorem sc20 : FnScope ["items", "found", "item", "pick"] ["items"] d20.scope := ⟨rfl, rfl, rfl, by decide +kernel, rfl, by decide +kernel, by decide +kernel⟩
theorem ck20 : cSs Γ f_20.body ⟨["items", "found", "item", "pick"], d20.scope, fun _ => true, true⟩ d20.body = true := by decide +kernel
theorem sc21 : FnScope ["script"] ["script"] d21.scope := ⟨rfl, rfl, rfl, by decide +kernel, rfl, by decide +kernel, by decide +kernel⟩
theorem ck21 : cSs Γ f_21.body ⟨["script"], d21.scope, fun _ => true, true⟩ d21.body = true := by decide +kernel
theorem sc22 : FnScope ["draws", "limit", "cell", "value"] ["draws", "limit"] d22.scope := ⟨rfl, rfl, rfl, by decide +kernel, rfl, by decide +kernel, by decide +kernel⟩
theorem ck22 : cSs Γ f_22.body ⟨["draws", "limit", "cell", "value"], d22.scope, fun _ => true, true⟩ d22.body = true := by decide +kernel
theorem sc23 : FnScope ["actual", "expected", "k"] ["actual", "expected"] d23.scope := ⟨rfl, rfl, rfl, by decide +kernel, rfl, by decide +kernel, by decide +kernel⟩
theorem ck23 : cSs Γ f_23.body ⟨["actual", "expected", "k"], d23.scope, fun _ => true, true⟩ d23.body = true := by decide +kernel
theorem sc24 : FnScope ["draws"] ["draws"] d24.scope := ⟨rfl, rfl, rfl, by decide +kernel, rfl, by decide +kernel, by decide +kernel⟩
theorem ck24 : cSs Γ f_24.body ⟨["draws"], d24.scope, fun _ => true, true⟩ d24.body = true := by decide +kernel
theorem sc25 : FnScope ["size", "places", "found", "k", "more", "row", "thing"] ["size", "places"] d25.scope := ⟨rfl, rfl, rfl, by decide +kernel, rfl, by decide +kernel, by decide +kernel⟩
theorem ck25 : cSs Γ f_25.body ⟨["size", "places", "found", "k", "more", "row", "thing"], d25.scope, fun _ => true, true⟩ d25.body = true := by decide +kernel
theorem sc26 : FnScope ["draws", "relations", "most", "size", "rows", "name", "places", "one"] ["draws", "relations", "most"] d26.scope := ⟨rfl, rfl, rfl, by decide +kernel, rfl, by decide +kernel, by decide +kernel⟩
theorem ck26 : cSs Γ f_26.body ⟨["draws", "relations", "most", "size", "rows", "name", "places", "one"], d26.scope, fun _ => true, true⟩ d26.body = true := by decide +kernel
theorem sc27 : FnScope ["world", "sentence", "values", "word", "count", "name", "thing", "inside"] ["world", "sentence", "values"] d27.scope := ⟨rfl, rfl, rfl, by decide +kernel, rfl, by decide +kernel, by decide +kernel⟩
theorem ck27 : cSs Γ f_27.body ⟨["world", "sentence", "values", "word", "count", "name", "thing", "inside"], d27.scope, fun _ => true, true⟩ d27.body = true := by decide +kernel
theorem sc28 : FnScope ["draws", "relations", "names", "deep", "form", "name", "places", "inside", "k", "one"] ["draws", "relations", "names", "deep"] d28.scope := ⟨rfl, rfl, rfl, by decide +kernel, rfl, by decide +kernel, by decide +kernel⟩
theorem ck28 : cSs Γ f_28.body ⟨["draws", "relations", "names", "deep", "form", "name", "places", "inside", "k", "one"], d28.scope, fun _ => true, true⟩ d28.body = true := by decide +kernel
theorem sc29 : FnScope ["n", "m", "one", "two"] ["n", "m"] d29.scope := ⟨rfl, rfl, rfl, by decide +kernel, rfl, by decide +kernel, by decide +kernel⟩
theorem ck29 : cSs Γ f_29.body ⟨["n", "m", "one", "two"], d29.scope, fun _ => true, true⟩ d29.body = true := by decide +kernel
theorem sc30 : FnScope ["relations", "size", "found", "name", "places", "picks", "item", "more", "known", "pick", "inside"] ["relations", "size"] d30.scope := ⟨rfl, rfl, rfl, by decide +kernel, rfl, by decide +kernel, by decide +kernel⟩
theorem ck30 : cSs Γ f_30.body ⟨["relations", "size", "found", "name", "places", "picks", "item", "more", "known", "pick", "inside"], d30.scope, fun _ => true, true⟩ d30.body = true := by decide +kernel
theorem sc31 : FnScope ["shape", "sentence", "size", "e"] ["shape", "sentence", "size"] d31.scope := ⟨rfl, rfl, rfl, by decide +kernel, rfl, by decide +kernel, by decide +kernel⟩
theorem ck31 : cSs Γ f_31.body ⟨["shape", "sentence", "size", "e"], d31.scope, fun _ => true, true⟩ d31.body = true := by decide +kernel
theorem sc32 : FnScope ["script", "draws", "relations", "size", "shape", "worlds", "turn", "one", "two", "good", "told_v", "both", "either", "other", "wrong", "known"] ["script"] d32.scope := ⟨rfl, rfl, rfl, by decide +kernel, rfl, by decide +kernel, by decide +kernel⟩
theorem ck32 : cSs Γ f_32.body ⟨["script", "draws", "relations", "size", "shape", "worlds", "turn", "one", "two", "good", "told_v", "both", "either", "other", "wrong", "known"], d32.scope, fun _ => true, true⟩ d32.body = true := by decide +kernel
section
variable {w : World} {K : PySem.W.Frag} {h : Heap} {mg : Str → Option Value}
theorem clsAt {k : Str} {fs : List Str} {c : Nat} (e1 : clsName c = k) (e2 : clsFlds c = fs) (cl : Cls K (He.ga K k)) (no : ∀ f ∈ fs, NoAttr K (He.ga K k) f) (nd : fs.Nodup) (few : fs.length < 1000) : ClsAt (Vw w K) c := by
  subst e1 e2
  exact ⟨cl, no, nd, few⟩
theorem bnd_is_sentence {fd : FuncData} (F : FunD (Vw w K).K d11.name d11.qual d11.params d11.body d11.scope (d11.dvs (Vw w K).K) (d11.kws (Vw w K).K) (He.fAd (Vw w K).K d11.at_) fd) : ∀ j, 2 ≤ j → j ≤ 3 → Bnd (Vw w K) f_11 fd ["shape", "value", "deep"] j := fun j h1 h2 => by
  have dv : d11.dvs (Vw w K).K = [V.int 300] := rfl
  have F := F
  rw [dv] at F
  have hj : j = 2 ∨ j = 3 := by omega
  rcases hj with rfl | rfl
  · obtain ⟨ds, v, b⟩ := F.binds1 (ps := ["shape", "value", "deep"]) 2 0 (by simp) rfl fun _ _ _ _ _ _ _ us its hu hi => match us, its, hu, hi with | [_, _], [_], _, _ => ⟨_, rfl, rfl⟩
    exact ⟨_, ds, b, v, rfl, fun _ _ _ => (.cons (.int _) .nil)⟩
  · obtain ⟨ds, v, b⟩ := F.binds1 (ps := ["shape", "value", "deep"]) 3 1 (by simp) rfl fun _ _ _ _ _ _ _ us its hu hi => match us, its, hu, hi with | [_, _, _], [_], _, _ => ⟨_, rfl, rfl⟩
    exact ⟨_, ds, b, v, rfl, fun _ _ _ => .nil⟩
theorem txt0 (X : K.In h) (G : h.Ns mainGlobals mg) (c : He.SaysD fas fns K) (ex : exB K = true) : Txt0 (Vw w K) tab Γ mg := by
  have ft : ∀ {f : He.Fa}, f ∈ fas → f.ok K = true := fun hf => c.facts hf
  unfold exB at ex
  simp only [Bool.and_eq_true] at ex
  obtain ⟨⟨⟨⟨x0, x1⟩, x2⟩, x3⟩, x4⟩ := ex
  have cl_Shape : ClsAt (Vw w K) 5 := clsAt (k := "Shape") (fs := ["relations"]) rfl rfl (He.cls_ok (ft (f := .cls "Shape") (by simp [fas, fa0, fa1, fa2]))) (List.forall_mem_cons.mpr ⟨(He.noat_ok (ft (f := .noat "Shape" "relations") (by simp [fas, fa0, fa1, fa2]))), (fun e he => by cases he)⟩) (by decide +kernel) (by decide)
  have cl_World : ClsAt (Vw w K) 6 := clsAt (k := "World") (fs := ["shape", "size", "rows", "known"]) rfl rfl (He.cls_ok (ft (f := .cls "World") (by simp [fas, fa0, fa1, fa2]))) (List.forall_mem_cons.mpr ⟨(He.noat_ok (ft (f := .noat "World" "shape") (by simp [fas, fa0, fa1, fa2]))), (List.forall_mem_cons.mpr ⟨(He.noat_ok (ft (f := .noat "World" "size") (by simp [fas, fa0, fa1, fa2]))), (List.forall_mem_cons.mpr ⟨(He.noat_ok (ft (f := .noat "World" "rows") (by simp [fas, fa0, fa1, fa2]))), (List.forall_mem_cons.mpr ⟨(He.noat_ok (ft (f := .noat "World" "known") (by simp [fas, fa0, fa1, fa2]))), (fun e he => by cases he)⟩)⟩)⟩)⟩) (by decide +kernel) (by decide)
  obtain ⟨fd0, FD0⟩ := c.defs (d := d0) (by simp [fns])
  obtain ⟨fd1, FD1⟩ := c.defs (d := d1) (by simp [fns])
  obtain ⟨fd2, FD2⟩ := c.defs (d := d2) (by simp [fns])
  obtain ⟨fd3, FD3⟩ := c.defs (d := d3) (by simp [fns])
  obtain ⟨fd4, FD4⟩ := c.defs (d := d4) (by simp [fns])
  obtain ⟨fd5, FD5⟩ := c.defs (d := d5) (by simp [fns])
  obtain ⟨fd6, FD6⟩ := c.defs (d := d6) (by simp [fns])
  obtain ⟨fd7, FD7⟩ := c.defs (d := d7) (by simp [fns])
  obtain ⟨fd8, FD8⟩ := c.defs (d := d8) (by simp [fns])
  obtain ⟨fd9, FD9⟩ := c.defs (d := d9) (by simp [fns])
  obtain ⟨fd10, FD10⟩ := c.defs (d := d10) (by simp [fns])
  obtain ⟨fd11, FD11⟩ := c.defs (d := d11) (by simp [fns])
  obtain ⟨fd12, FD12⟩ := c.defs (d := d12) (by simp [fns])
  obtain ⟨fd13, FD13⟩ := c.defs (d := d13) (by simp [fns])
  obtain ⟨fd14, FD14⟩ := c.defs (d := d14) (by simp [fns])
  obtain ⟨fd15, FD15⟩ := c.defs (d := d15) (by simp [fns])
  obtain ⟨fd16, FD16⟩ := c.defs (d := d16) (by simp [fns])
  obtain ⟨fd17, FD17⟩ := c.defs (d := d17) (by simp [fns])
  obtain ⟨fd18, FD18⟩ := c.defs (d := d18) (by simp [fns])
  obtain ⟨fd19, FD19⟩ := c.defs (d := d19) (by simp [fns])
  obtain ⟨fd20, FD20⟩ := c.defs (d := d20) (by simp [fns])
  obtain ⟨fd21, FD21⟩ := c.defs (d := d21) (by simp [fns])
  obtain ⟨fd22, FD22⟩ := c.defs (d := d22) (by simp [fns])
  obtain ⟨fd23, FD23⟩ := c.defs (d := d23) (by simp [fns])
  obtain ⟨fd24, FD24⟩ := c.defs (d := d24) (by simp [fns])
  obtain ⟨fd25, FD25⟩ := c.defs (d := d25) (by simp [fns])
  obtain ⟨fd26, FD26⟩ := c.defs (d := d26) (by simp [fns])
  obtain ⟨fd27, FD27⟩ := c.defs (d := d27) (by simp [fns])
  obtain ⟨fd28, FD28⟩ := c.defs (d := d28) (by simp [fns])
  obtain ⟨fd29, FD29⟩ := c.defs (d := d29) (by simp [fns])
  obtain ⟨fd30, FD30⟩ := c.defs (d := d30) (by simp [fns])
  obtain ⟨fd31, FD31⟩ := c.defs (d := d31) (by simp [fns])
  obtain ⟨fd32, FD32⟩ := c.defs (d := d32) (by simp [fns])
  refine ⟨?fns, ?mts, ?inis, ?exc0, ?exc1, ?excs, ?xfs, ?cons, ?flds, ?bis, kitB_ok x1⟩
  case fns => exact (List.forall_mem_cons.mpr ⟨⟨_, fd1, _, f_1, He.glo_ok X G (ft (f := .glo "is_integer") (by simp [fas, fa0, fa1, fa2])), FD1.kp, fnd_of FD1 rfl sc1 ck1 rfl rfl, rfl, (bnd_all (n := 1) (FD1.bindsN (ps := ["value"]) fun _ _ _ _ _ _ us hl => match us, hl with | [_], _ => rfl) rfl rfl)⟩, (List.forall_mem_cons.mpr ⟨⟨_, fd2, _, f_2, He.glo_ok X G (ft (f := .glo "is_name") (by simp [fas, fa0, fa1, fa2])), FD2.kp, fnd_of FD2 rfl sc2 ck2 rfl rfl, rfl, (bnd_all (n := 1) (FD2.bindsN (ps := ["value"]) fun _ _ _ _ _ _ us hl => match us, hl with | [_], _ => rfl) rfl rfl)⟩, (List.forall_mem_cons.mpr ⟨⟨_, fd6, _, f_6, He.glo_ok X G (ft (f := .glo "is_row") (by simp [fas, fa0, fa1, fa2])), FD6.kp, fnd_of FD6 rfl sc6 ck6 rfl rfl, rfl, (bnd_all (n := 3) (FD6.bindsN (ps := ["value", "places", "size"]) fun _ _ _ _ _ _ us hl => match us, hl with | [_, _, _], _ => rfl) rfl rfl)⟩, (List.forall_mem_cons.mpr ⟨⟨_, fd10, _, f_10, He.glo_ok X G (ft (f := .glo "all_tuples") (by simp [fas, fa0, fa1, fa2])), FD10.kp, fnd_of FD10 rfl sc10 ck10 rfl rfl, rfl, (bnd_all (n := 2) (FD10.bindsN (ps := ["size", "many"]) fun _ _ _ _ _ _ us hl => match us, hl with | [_, _], _ => rfl) rfl rfl)⟩, (List.forall_mem_cons.mpr ⟨⟨_, fd11, _, f_11, He.glo_ok X G (ft (f := .glo "is_sentence") (by simp [fas, fa0, fa1, fa2])), FD11.kp, fnd_of FD11 rfl sc11 ck11 rfl rfl, rfl, (bnd_is_sentence FD11)⟩, (List.forall_mem_cons.mpr ⟨⟨_, fd12, _, f_12, He.glo_ok X G (ft (f := .glo "look_at") (by simp [fas, fa0, fa1, fa2])), FD12.kp, fnd_of FD12 rfl sc12 ck12 rfl rfl, rfl, (bnd_all (n := 2) (FD12.bindsN (ps := ["shape", "value"]) fun _ _ _ _ _ _ us hl => match us, hl with | [_, _], _ => rfl) rfl rfl)⟩, (List.forall_mem_cons.mpr ⟨⟨_, fd13, _, f_13, He.glo_ok X G (ft (f := .glo "inner") (by simp [fas, fa0, fa1, fa2])), FD13.kp, fnd_of FD13 rfl sc13 ck13 rfl rfl, rfl, (bnd_all (n := 1) (FD13.bindsN (ps := ["sentence"]) fun _ _ _ _ _ _ us hl => match us, hl with | [_], _ => rfl) rfl rfl)⟩, (List.forall_mem_cons.mpr ⟨⟨_, fd14, _, f_14, He.glo_ok X G (ft (f := .glo "bound") (by simp [fas, fa0, fa1, fa2])), FD14.kp, fnd_of FD14 rfl sc14 ck14 rfl rfl, rfl, (bnd_all (n := 1) (FD14.bindsN (ps := ["sentence"]) fun _ _ _ _ _ _ us hl => match us, hl with | [_], _ => rfl) rfl rfl)⟩, (List.forall_mem_cons.mpr ⟨⟨_, fd15, _, f_15, He.glo_ok X G (ft (f := .glo "free") (by simp [fas, fa0, fa1, fa2])), FD15.kp, fnd_of FD15 rfl sc15 ck15 rfl rfl, rfl, (bnd_all (n := 1) (FD15.bindsN (ps := ["sentence"]) fun _ _ _ _ _ _ us hl => match us, hl with | [_], _ => rfl) rfl rfl)⟩, (List.forall_mem_cons.mpr ⟨⟨_, fd16, _, f_16, He.glo_ok X G (ft (f := .glo "told") (by simp [fas, fa0, fa1, fa2])), FD16.kp, fnd_of FD16 rfl sc16 ck16 rfl rfl, rfl, (bnd_all (n := 3) (FD16.bindsN (ps := ["world", "sentence", "values"]) fun _ _ _ _ _ _ us hl => match us, hl with | [_, _, _], _ => rfl) rfl rfl)⟩, (List.forall_mem_cons.mpr ⟨⟨_, fd17, _, f_17, He.glo_ok X G (ft (f := .glo "how_many_tuples") (by simp [fas, fa0, fa1, fa2])), FD17.kp, fnd_of FD17 rfl sc17 ck17 rfl rfl, rfl, (bnd_all (n := 2) (FD17.bindsN (ps := ["shape", "size"]) fun _ _ _ _ _ _ us hl => match us, hl with | [_, _], _ => rfl) rfl rfl)⟩, (List.forall_mem_cons.mpr ⟨⟨_, fd18, _, f_18, He.glo_ok X G (ft (f := .glo "shared") (by simp [fas, fa0, fa1, fa2])), FD18.kp, fnd_of FD18 rfl sc18 ck18 rfl rfl, rfl, (bnd_all (n := 2) (FD18.bindsN (ps := ["first", "other"]) fun _ _ _ _ _ _ us hl => match us, hl with | [_, _], _ => rfl) rfl rfl)⟩, (List.forall_mem_cons.mpr ⟨⟨_, fd19, _, f_19, He.glo_ok X G (ft (f := .glo "chance") (by simp [fas, fa0, fa1, fa2])), FD19.kp, fnd_of FD19 rfl sc19 ck19 rfl rfl, rfl, (bnd_all (n := 3) (FD19.bindsN (ps := ["shape", "sentence", "size"]) fun _ _ _ _ _ _ us hl => match us, hl with | [_, _, _], _ => rfl) rfl rfl)⟩, (List.forall_mem_cons.mpr ⟨⟨_, fd20, _, f_20, He.glo_ok X G (ft (f := .glo "all_picks") (by simp [fas, fa0, fa1, fa2])), FD20.kp, fnd_of FD20 rfl sc20 ck20 rfl rfl, rfl, (bnd_all (n := 1) (FD20.bindsN (ps := ["items"]) fun _ _ _ _ _ _ us hl => match us, hl with | [_], _ => rfl) rfl rfl)⟩, (List.forall_mem_cons.mpr ⟨⟨_, fd21, _, f_21, He.glo_ok X G (ft (f := .glo "_law_draws") (by simp [fas, fa0, fa1, fa2])), FD21.kp, fnd_of FD21 rfl sc21 ck21 rfl rfl, rfl, (bnd_all (n := 1) (FD21.bindsN (ps := ["script"]) fun _ _ _ _ _ _ us hl => match us, hl with | [_], _ => rfl) rfl rfl)⟩, (List.forall_mem_cons.mpr ⟨⟨_, fd22, _, f_22, He.glo_ok X G (ft (f := .glo "_law_draw") (by simp [fas, fa0, fa1, fa2])), FD22.kp, fnd_of FD22 rfl sc22 ck22 rfl rfl, rfl, (bnd_all (n := 2) (FD22.bindsN (ps := ["draws", "limit"]) fun _ _ _ _ _ _ us hl => match us, hl with | [_, _], _ => rfl) rfl rfl)⟩, (List.forall_mem_cons.mpr ⟨⟨_, fd23, _, f_23, He.glo_ok X G (ft (f := .glo "_law_same") (by simp [fas, fa0, fa1, fa2])), FD23.kp, fnd_of FD23 rfl sc23 ck23 rfl rfl, rfl, (bnd_all (n := 2) (FD23.bindsN (ps := ["actual", "expected"]) fun _ _ _ _ _ _ us hl => match us, hl with | [_, _], _ => rfl) rfl rfl)⟩, (List.forall_mem_cons.mpr ⟨⟨_, fd24, _, f_24, He.glo_ok X G (ft (f := .glo "_law_shape") (by simp [fas, fa0, fa1, fa2])), FD24.kp, fnd_of FD24 rfl sc24 ck24 rfl rfl, rfl, (bnd_all (n := 1) (FD24.bindsN (ps := ["draws"]) fun _ _ _ _ _ _ us hl => match us, hl with | [_], _ => rfl) rfl rfl)⟩, (List.forall_mem_cons.mpr ⟨⟨_, fd25, _, f_25, He.glo_ok X G (ft (f := .glo "_law_tuples") (by simp [fas, fa0, fa1, fa2])), FD25.kp, fnd_of FD25 rfl sc25 ck25 rfl rfl, rfl, (bnd_all (n := 2) (FD25.bindsN (ps := ["size", "places"]) fun _ _ _ _ _ _ us hl => match us, hl with | [_, _], _ => rfl) rfl rfl)⟩, (List.forall_mem_cons.mpr ⟨⟨_, fd26, _, f_26, He.glo_ok X G (ft (f := .glo "_law_world") (by simp [fas, fa0, fa1, fa2])), FD26.kp, fnd_of FD26 rfl sc26 ck26 rfl rfl, rfl, (bnd_all (n := 3) (FD26.bindsN (ps := ["draws", "relations", "most"]) fun _ _ _ _ _ _ us hl => match us, hl with | [_, _, _], _ => rfl) rfl rfl)⟩, (List.forall_mem_cons.mpr ⟨⟨_, fd27, _, f_27, He.glo_ok X G (ft (f := .glo "_law_holds") (by simp [fas, fa0, fa1, fa2])), FD27.kp, fnd_of FD27 rfl sc27 ck27 rfl rfl, rfl, (bnd_all (n := 3) (FD27.bindsN (ps := ["world", "sentence", "values"]) fun _ _ _ _ _ _ us hl => match us, hl with | [_, _, _], _ => rfl) rfl rfl)⟩, (List.forall_mem_cons.mpr ⟨⟨_, fd28, _, f_28, He.glo_ok X G (ft (f := .glo "_law_sentence") (by simp [fas, fa0, fa1, fa2])), FD28.kp, fnd_of FD28 rfl sc28 ck28 rfl rfl, rfl, (bnd_all (n := 4) (FD28.bindsN (ps := ["draws", "relations", "names", "deep"]) fun _ _ _ _ _ _ us hl => match us, hl with | [_, _, _, _], _ => rfl) rfl rfl)⟩, (List.forall_mem_cons.mpr ⟨⟨_, fd29, _, f_29, He.glo_ok X G (ft (f := .glo "_law_low") (by simp [fas, fa0, fa1, fa2])), FD29.kp, fnd_of FD29 rfl sc29 ck29 rfl rfl, rfl, (bnd_all (n := 2) (FD29.bindsN (ps := ["n", "m"]) fun _ _ _ _ _ _ us hl => match us, hl with | [_, _], _ => rfl) rfl rfl)⟩, (List.forall_mem_cons.mpr ⟨⟨_, fd30, _, f_30, He.glo_ok X G (ft (f := .glo "_law_worlds") (by simp [fas, fa0, fa1, fa2])), FD30.kp, fnd_of FD30 rfl sc30 ck30 rfl rfl, rfl, (bnd_all (n := 2) (FD30.bindsN (ps := ["relations", "size"]) fun _ _ _ _ _ _ us hl => match us, hl with | [_, _], _ => rfl) rfl rfl)⟩, (List.forall_mem_cons.mpr ⟨⟨_, fd31, _, f_31, He.glo_ok X G (ft (f := .glo "_law_told") (by simp [fas, fa0, fa1, fa2])), FD31.kp, fnd_of FD31 rfl sc31 ck31 rfl rfl, rfl, (bnd_all (n := 3) (FD31.bindsN (ps := ["shape", "sentence", "size"]) fun _ _ _ _ _ _ us hl => match us, hl with | [_, _, _], _ => rfl) rfl rfl)⟩, (List.forall_mem_cons.mpr ⟨⟨_, fd32, _, f_32, He.glo_ok X G (ft (f := .glo "law") (by simp [fas, fa0, fa1, fa2])), FD32.kp, fnd_of FD32 rfl sc32 ck32 rfl rfl, rfl, (bnd_all (n := 1) (FD32.bindsN (ps := ["script"]) fun _ _ _ _ _ _ us hl => match us, hl with | [_], _ => rfl) rfl rfl)⟩, (fun e he => by cases he)⟩)⟩)⟩)⟩)⟩)⟩)⟩)⟩)⟩)⟩)⟩)⟩)⟩)⟩)⟩)⟩)⟩)⟩)⟩)⟩)⟩)⟩)⟩)⟩)⟩)⟩)
  case mts => exact (List.forall_mem_cons.mpr ⟨⟨_, fd4, _, f_4, He.meth_ok (ft (f := .meth "Shape" "places") (by simp [fas, fa0, fa1, fa2])), (show ("places" : Str) ∉ clsFlds 5 by decide +kernel), cl_Shape, FD4.kp, fnd_of FD4 rfl sc4 ck4 rfl rfl, rfl, (bnd_all (n := 2) (FD4.bindsN (ps := ["self", "name"]) fun _ _ _ _ _ _ us hl => match us, hl with | [_, _], _ => rfl) rfl rfl)⟩, (List.forall_mem_cons.mpr ⟨⟨_, fd5, _, f_5, He.meth_ok (ft (f := .meth "Shape" "at") (by simp [fas, fa0, fa1, fa2])), (show ("at" : Str) ∉ clsFlds 5 by decide +kernel), cl_Shape, FD5.kp, fnd_of FD5 rfl sc5 ck5 rfl rfl, rfl, (bnd_all (n := 2) (FD5.bindsN (ps := ["self", "name"]) fun _ _ _ _ _ _ us hl => match us, hl with | [_, _], _ => rfl) rfl rfl)⟩, (List.forall_mem_cons.mpr ⟨⟨_, fd8, _, f_8, He.meth_ok (ft (f := .meth "World" "holds") (by simp [fas, fa0, fa1, fa2])), (show ("holds" : Str) ∉ clsFlds 6 by decide +kernel), cl_World, FD8.kp, fnd_of FD8 rfl sc8 ck8 rfl rfl, rfl, (bnd_all (n := 3) (FD8.bindsN (ps := ["self", "name", "things"]) fun _ _ _ _ _ _ us hl => match us, hl with | [_, _, _], _ => rfl) rfl rfl)⟩, (List.forall_mem_cons.mpr ⟨⟨_, fd9, _, f_9, He.meth_ok (ft (f := .meth "World" "told") (by simp [fas, fa0, fa1, fa2])), (show ("told" : Str) ∉ clsFlds 6 by decide +kernel), cl_World, FD9.kp, fnd_of FD9 rfl sc9 ck9 rfl rfl, rfl, (bnd_all (n := 1) (FD9.bindsN (ps := ["self"]) fun _ _ _ _ _ _ us hl => match us, hl with | [_], _ => rfl) rfl rfl)⟩, (fun e he => by cases he)⟩)⟩)⟩)⟩)
  case inis => exact (List.forall_mem_cons.mpr ⟨⟨_, fd3, _, f_3, He.glo_ok X G (ft (f := .glo "Shape") (by simp [fas, fa0, fa1, fa2])), He.mkr_ok (ft (f := .mkr "Shape") (by simp [fas, fa0, fa1, fa2])), cl_Shape, inid_of FD3 rfl sc3 ck3 rfl rfl (by decide), rfl, (bnd_ini (n := 1) (FD3.bindsN (ps := ["self", "relations"]) fun _ _ _ _ _ _ us hl => match us, hl with | [_, _], _ => rfl) rfl rfl)⟩, (List.forall_mem_cons.mpr ⟨⟨_, fd7, _, f_7, He.glo_ok X G (ft (f := .glo "World") (by simp [fas, fa0, fa1, fa2])), He.mkr_ok (ft (f := .mkr "World") (by simp [fas, fa0, fa1, fa2])), cl_World, inid_of FD7 rfl sc7 ck7 rfl rfl (by decide), rfl, (bnd_ini (n := 3) (FD7.bindsN (ps := ["self", "shape", "size", "rows"]) fun _ _ _ _ _ _ us hl => match us, hl with | [_, _, _, _], _ => rfl) rfl rfl)⟩, (fun e he => by cases he)⟩)⟩)
  case exc0 => exact (List.forall_mem_cons.mpr ⟨⟨He.glo_ok X G (ft (f := .glo "WorldError") (by simp [fas, fa0, fa1, fa2])), (He.exc_ok (ft (f := .exc "WorldError") (by simp [fas, fa0, fa1, fa2]))).2.1, (He.exc_ok (ft (f := .exc "WorldError") (by simp [fas, fa0, fa1, fa2]))).1, (He.exc_ok (ft (f := .exc "WorldError") (by simp [fas, fa0, fa1, fa2]))).2.2.1, (He.exc_ok (ft (f := .exc "WorldError") (by simp [fas, fa0, fa1, fa2]))).2.2.2⟩, (List.forall_mem_cons.mpr ⟨⟨He.glo_ok X G (ft (f := .glo "BadWorld") (by simp [fas, fa0, fa1, fa2])), (He.exc_ok (ft (f := .exc "BadWorld") (by simp [fas, fa0, fa1, fa2]))).2.1, (He.exc_ok (ft (f := .exc "BadWorld") (by simp [fas, fa0, fa1, fa2]))).1, (He.exc_ok (ft (f := .exc "BadWorld") (by simp [fas, fa0, fa1, fa2]))).2.2.1, (He.exc_ok (ft (f := .exc "BadWorld") (by simp [fas, fa0, fa1, fa2]))).2.2.2⟩, (List.forall_mem_cons.mpr ⟨⟨He.glo_ok X G (ft (f := .glo "BadSentence") (by simp [fas, fa0, fa1, fa2])), (He.exc_ok (ft (f := .exc "BadSentence") (by simp [fas, fa0, fa1, fa2]))).2.1, (He.exc_ok (ft (f := .exc "BadSentence") (by simp [fas, fa0, fa1, fa2]))).1, (He.exc_ok (ft (f := .exc "BadSentence") (by simp [fas, fa0, fa1, fa2]))).2.2.1, (He.exc_ok (ft (f := .exc "BadSentence") (by simp [fas, fa0, fa1, fa2]))).2.2.2⟩, (fun e he => by cases he)⟩)⟩)⟩)
  case exc1 => exact (List.forall_mem_cons.mpr ⟨⟨He.glo_ok X G (ft (f := .glo "Refused") (by simp [fas, fa0, fa1, fa2])), rfl, _, _, fd0, refB_ok x2, fun P base => ref_init (refB_ok x2) (He.glo_ok X G (ft (f := .glo "WorldError") (by simp [fas, fa0, fa1, fa2]))) FD0 (by decide +kernel) ⟨rfl, rfl, rfl, by decide +kernel, rfl, by decide +kernel, by decide +kernel⟩ (by decide +kernel) (by decide +kernel) (by decide +kernel), FD0.bindsN (ps := ["self", "word"]) fun _ _ _ _ _ _ us hl => match us, hl with | [_, _], _ => rfl⟩, (fun e he => by cases he)⟩)
  case excs => exact (List.forall_mem_cons.mpr ⟨⟨He.glo_ok X G (ft (f := .glo "BadWorld") (by simp [fas, fa0, fa1, fa2])), (List.forall_mem_cons.mpr ⟨(He.exm_ok (ft (f := .exm "WorldError" "BadWorld" false) (by simp [fas, fa0, fa1, fa2]))), (List.forall_mem_cons.mpr ⟨(He.exm_ok (ft (f := .exm "BadWorld" "BadWorld" true) (by simp [fas, fa0, fa1, fa2]))), (List.forall_mem_cons.mpr ⟨(He.exm_ok (ft (f := .exm "BadSentence" "BadWorld" false) (by simp [fas, fa0, fa1, fa2]))), (List.forall_mem_cons.mpr ⟨(He.exm_ok (ft (f := .exm "Refused" "BadWorld" false) (by simp [fas, fa0, fa1, fa2]))), (fun e he => by cases he)⟩)⟩)⟩)⟩)⟩, (List.forall_mem_cons.mpr ⟨⟨He.glo_ok X G (ft (f := .glo "BadSentence") (by simp [fas, fa0, fa1, fa2])), (List.forall_mem_cons.mpr ⟨(He.exm_ok (ft (f := .exm "WorldError" "BadSentence" false) (by simp [fas, fa0, fa1, fa2]))), (List.forall_mem_cons.mpr ⟨(He.exm_ok (ft (f := .exm "BadWorld" "BadSentence" false) (by simp [fas, fa0, fa1, fa2]))), (List.forall_mem_cons.mpr ⟨(He.exm_ok (ft (f := .exm "BadSentence" "BadSentence" true) (by simp [fas, fa0, fa1, fa2]))), (List.forall_mem_cons.mpr ⟨(He.exm_ok (ft (f := .exm "Refused" "BadSentence" false) (by simp [fas, fa0, fa1, fa2]))), (fun e he => by cases he)⟩)⟩)⟩)⟩)⟩, (List.forall_mem_cons.mpr ⟨⟨He.glo_ok X G (ft (f := .glo "Refused") (by simp [fas, fa0, fa1, fa2])), (List.forall_mem_cons.mpr ⟨(He.exm_ok (ft (f := .exm "WorldError" "Refused" false) (by simp [fas, fa0, fa1, fa2]))), (List.forall_mem_cons.mpr ⟨(He.exm_ok (ft (f := .exm "BadWorld" "Refused" false) (by simp [fas, fa0, fa1, fa2]))), (List.forall_mem_cons.mpr ⟨(He.exm_ok (ft (f := .exm "BadSentence" "Refused" false) (by simp [fas, fa0, fa1, fa2]))), (List.forall_mem_cons.mpr ⟨(He.exm_ok (ft (f := .exm "Refused" "Refused" true) (by simp [fas, fa0, fa1, fa2]))), (fun e he => by cases he)⟩)⟩)⟩)⟩)⟩, (fun e he => by cases he)⟩)⟩)⟩)
  case xfs => exact (List.forall_mem_cons.mpr ⟨⟨L2.xfB_ok x3, He.eqO_ok x4, rfl, (show (clsFlds 3).Nodup by decide +kernel)⟩, (fun e he => by cases he)⟩)
  case cons => exact (List.forall_mem_cons.mpr ⟨(let ⟨t, e⟩ := He.str_ok X G (ft (f := .str "LETTERS" "abcdefghijklmnopqrstuvwxyz") (by simp [fas, fa0, fa1, fa2])); ⟨.str (tx [97, 98, 99, 100, 101, 102, 103, 104, 105, 106, 107, 108, 109, 110, 111, 112, 113, 114, 115, 116, 117, 118, 119, 120, 121, 122]), _, e, ⟨t, rfl⟩, fun F I H => .str _ (fine_of (by decide +kernel))⟩), (List.forall_mem_cons.mpr ⟨(let ⟨t, e⟩ := He.int_ok X G (ft (f := .int "MOST_RELATIONS" 4) (by simp [fas, fa0, fa1, fa2])); ⟨.int 4, _, e, ⟨t, rfl⟩, fun F I H => .int _⟩), (List.forall_mem_cons.mpr ⟨(let ⟨t, e⟩ := He.int_ok X G (ft (f := .int "MOST_PLACES" 3) (by simp [fas, fa0, fa1, fa2])); ⟨.int 3, _, e, ⟨t, rfl⟩, fun F I H => .int _⟩), (List.forall_mem_cons.mpr ⟨(let ⟨t, e⟩ := He.int_ok X G (ft (f := .int "MOST_THINGS" 40) (by simp [fas, fa0, fa1, fa2])); ⟨.int 40, _, e, ⟨t, rfl⟩, fun F I H => .int _⟩), (List.forall_mem_cons.mpr ⟨(let ⟨t, e⟩ := He.int_ok X G (ft (f := .int "MOST_DEEP" 300) (by simp [fas, fa0, fa1, fa2])); ⟨.int 300, _, e, ⟨t, rfl⟩, fun F I H => .int _⟩), (List.forall_mem_cons.mpr ⟨(let ⟨t, e⟩ := He.int_ok X G (ft (f := .int "MOST_COUNT" 40) (by simp [fas, fa0, fa1, fa2])); ⟨.int 40, _, e, ⟨t, rfl⟩, fun F I H => .int _⟩), (List.forall_mem_cons.mpr ⟨(let ⟨t, e⟩ := He.int_ok X G (ft (f := .int "MOST_TUPLES" 16) (by simp [fas, fa0, fa1, fa2])); ⟨.int 16, _, e, ⟨t, rfl⟩, fun F I H => .int _⟩), (fun e he => by cases he)⟩)⟩)⟩)⟩)⟩)⟩)⟩)
  case flds => exact (List.forall_mem_cons.mpr ⟨⟨rfl, cl_Shape⟩, (List.forall_mem_cons.mpr ⟨⟨rfl, cl_World⟩, (fun e he => by cases he)⟩)⟩)
  case bis => exact (List.forall_mem_cons.mpr ⟨(He.free_ok X G (ft (f := .free "all") (by simp [fas, fa0, fa1, fa2]))), (List.forall_mem_cons.mpr ⟨(He.free_ok X G (ft (f := .free "bool") (by simp [fas, fa0, fa1, fa2]))), (List.forall_mem_cons.mpr ⟨(He.free_ok X G (ft (f := .free "dict") (by simp [fas, fa0, fa1, fa2]))), (List.forall_mem_cons.mpr ⟨(He.free_ok X G (ft (f := .free "int") (by simp [fas, fa0, fa1, fa2]))), (List.forall_mem_cons.mpr ⟨(He.free_ok X G (ft (f := .free "isinstance") (by simp [fas, fa0, fa1, fa2]))), (List.forall_mem_cons.mpr ⟨(He.free_ok X G (ft (f := .free "len") (by simp [fas, fa0, fa1, fa2]))), (List.forall_mem_cons.mpr ⟨(He.free_ok X G (ft (f := .free "list") (by simp [fas, fa0, fa1, fa2]))), (List.forall_mem_cons.mpr ⟨(He.free_ok X G (ft (f := .free "range") (by simp [fas, fa0, fa1, fa2]))), (List.forall_mem_cons.mpr ⟨(He.free_ok X G (ft (f := .free "sorted") (by simp [fas, fa0, fa1, fa2]))), (List.forall_mem_cons.mpr ⟨(He.free_ok X G (ft (f := .free "str") (by simp [fas, fa0, fa1, fa2]))), (List.forall_mem_cons.mpr ⟨(He.free_ok X G (ft (f := .free "tuple") (by simp [fas, fa0, fa1, fa2]))), (List.forall_mem_cons.mpr ⟨(He.free_ok X G (ft (f := .free "zip") (by simp [fas, fa0, fa1, fa2]))), (fun e he => by cases he)⟩)⟩)⟩)⟩)⟩)⟩)⟩)⟩)⟩)⟩)⟩)⟩)
end
end
abbrev R : PySem.W.OpenRow := PySem.W.OpenLaw.row row
abbrev hk : PySem.W.Hook := Wa.hookW 4 fas fns exB
def ob (s : PySem.W.SharedT) : He.AlD × Bool := Wa.obsW 4 fas fns exB (HandSHeadRun.getT s)
theorem ob_eq (s : PySem.W.SharedT) : ob s = hk.obs s.abs := Wa.obsW_eq (HandSHeadRun.getT_eq s)
theorem run (w : World) : HandSHeadRun.RunEq R (PySem.W.view R.prog [lawAt]) hk ob 6000 loose w := by
  intro os
  kernel_rfl
/-- what stands of the law: its value -/
def LawVal (d turns : Nat) : Prop := ∀ ns : List Int, ns.length ≤ 63 → ∃ L', Wa.callN tab turns d false lawNo [.lst (ns.map Wa.D.int)] [] = .ok (.bl true) L'
theorem facts {P : Program} {w : World} {K : PySem.W.Frag} {h : Heap} {mg : Str → Option Value} {f : Addr} {d turns : Nat} (X : K.In h) (G : h.Ns mainGlobals mg) (hfa : mg ("law" : Str) = some (.ref f)) (c : He.SaysD fas fns K) (ex : exB K = true) :
    ∃ fd : FuncData, (∀ (s : Shared) (v : Value), BindsTo s fd ⟨[v], []⟩ [("script", v)]) ∧ ∀ base : Heap, K.In base → base.Ns mainGlobals mg → FnOk P w K mg base (L2.CX P w) (d + 2) f fd ["script"] (Wa.spF (Vw w K) (Wa.callN tab turns d) lawNo 1) := by
  obtain ⟨fd, F⟩ := c.defs (d := d32) (by simp [fns])
  have e := hfa.symm.trans (He.glo_ok X G (c.facts (f := .glo "law") (by simp [fas, fa0, fa1, fa2])))
  cases e
  have b := FunD.bindsA (ps := ["script"]) F fun _ _ _ _ _ _ us hl => match us, hl with | [_], _ => rfl
  exact ⟨fd, fun s v => b s [v] rfl, fun base _ _ => Wa.law_ok (txt0 X G c ex) (Wa.fnd_of F rfl sc32 ck32 rfl rfl) d⟩
theorem holds_of {d turns : Nat} (hd : d ≤ 120) (hv : LawVal d turns) : PySem.Challenge.rw_worldsalike_k73_whole_exact_chances.Holds := by
  w_on; o_law
  refine HandSHeadRun.head_any (r := PySem.W.OpenLaw.row PySem.Challenge.rw_worldsalike_k73_whole_exact_chances) (q := PySem.W.view (PySem.W.OpenLaw.row PySem.Challenge.rw_worldsalike_k73_whole_exact_chances).prog [lawAt]) (H := hk) (ob := ob) (M := 6000) (loose := loose) (d := HandSHeadRun.topDef (PySem.W.OpenLaw.row PySem.Challenge.rw_worldsalike_k73_whole_exact_chances).prog lawAt) (kwd := []) ob_eq
    (by kernel_rfl) (fun s => by kernel_rfl) run (by kernel_rfl) (by kernel_rfl) (by kernel_rfl) (by rfl) (by first | assumption | decide +kernel) (by decide +kernel) ⟨rfl, rfl, rfl, rfl, rfl, by decide +kernel⟩ ?hw ?hc
  case hw => w_witness2
  case hc =>
    refine L2.walk_ofE (l := PySem.Challenge.rw_worldsalike_k73_whole_exact_chances) (n := 63) (k := d + 2) (x := "script") (CX := L2.CX0) rfl (by decide) (by kernel_rfl) (Wa.room hd) ?F (fun _ _ _ _ z => z)
    case F =>
      intro w mg fa h Y G hmg0
      obtain ⟨K, KX, c, ex⟩ := Y
      have hmg : mg ("law" : PySem.Str) = some (.ref fa) := by
        have e : (HandSHeadRun.topDef (PySem.W.OpenLaw.row PySem.Challenge.rw_worldsalike_k73_whole_exact_chances).prog lawAt).name = ("law" : PySem.Str) := by kernel_rfl
        rw [← e]
        exact hmg0
      obtain ⟨fd, hb, hF⟩ := facts (P := (PySem.Challenge.rw_worldsalike_k73_whole_exact_chances).prog) (w := w) (d := d) (turns := turns) KX G hmg c ex
      refine ⟨K, fd, _, KX, hb, fun H a ns hl hO hS => ?_, fun base hK hG => Wa.fn_cx0 (hF base hK hG)⟩
      refine Wa.law_sp (Vw := Vw w K) ?_ hv H a ns hl hO hS
      unfold exB at ex
      simp only [Bool.and_eq_true] at ex
      exact ex.1.1.1.1

end
end k73

set_option linter.all false
set_option maxRecDepth 100000
namespace k73s
open Wa
open k73 (tab lawNo f_1 f_2 f_3 f_4 f_5 f_6 f_7 f_8 f_9 f_10 f_11 f_12 f_13 f_14 f_15 f_16 f_17 f_18 f_19 f_20 f_21 f_22 f_23 f_24 f_25 f_26 f_27 f_28 f_29 f_30 f_31 f_32)
/-! ### sentences -/
inductive Sn where
  | yes | same (x y : Nat) | rel (r : Txt) (xs : List Nat) | not (s : Sn) | and (s t : Sn) | or (s t : Sn)
  | some (x : Nat) (s : Sn) | all (x : Nat) (s : Sn) | many (k x : Nat) (s : Sn)
def vD (x : Nat) : D := .str [x]
def iD (x : Int) : D := .int x
def Sn.toD : Sn → D
  | .yes => .tup [.str [121, 101, 115]]
  | .same x y => .tup [.str [115, 97, 109, 101], vD x, vD y]
  | .rel r xs => .tup [.str [114, 101, 108], .str r, .tup (xs.map vD)]
  | .not s => .tup [.str [110, 111, 116], s.toD]
  | .and s t => .tup [.str [97, 110, 100], s.toD, t.toD]
  | .or s t => .tup [.str [111, 114], s.toD, t.toD]
  | .some x s => .tup [.str [115, 111, 109, 101], vD x, s.toD]
  | .all x s => .tup [.str [97, 108, 108], vD x, s.toD]
  | .many k x s => .tup [.str [109, 97, 110, 121], .int k, vD x, s.toD]
def upd (ρ : Nat → Int) (x : Nat) (t : Int) : Nat → Int := fun y => if y = x then t else ρ y
/-- how many of the first n -/
def cnt (n : Nat) (p : Int → Bool) : Nat := (List.range n).countP fun t => p (t : Nat)
def sat (R : Txt → List Int → Bool) (n : Nat) : Sn → (Nat → Int) → Bool
  | .yes, _ => true
  | .same x y, ρ => ρ x == ρ y
  | .rel r xs, ρ => R r (xs.map ρ)
  | .not s, ρ => !sat R n s ρ
  | .and s t, ρ => sat R n s ρ && sat R n t ρ
  | .or s t, ρ => sat R n s ρ || sat R n t ρ
  | .some x s, ρ => decide (1 ≤ cnt n fun t => sat R n s (upd ρ x t))
  | .all x s, ρ => decide (n ≤ cnt n fun t => sat R n s (upd ρ x t))
  | .many k x s, ρ => decide (k ≤ cnt n fun t => sat R n s (upd ρ x t))
inductive Wf (rels : List (Txt × Nat)) : List Nat → Nat → Sn → Prop
  | yes {Γ d} : Wf rels Γ d .yes
  | same {Γ d x y} : x ∈ Γ → y ∈ Γ → Wf rels Γ d (.same x y)
  | rel {Γ d r xs} : (r, xs.length) ∈ rels → (∀ x ∈ xs, x ∈ Γ) → Wf rels Γ d (.rel r xs)
  | not {Γ d s} : Wf rels Γ d s → Wf rels Γ (d + 1) (.not s)
  | and {Γ d s t} : Wf rels Γ d s → Wf rels Γ d t → Wf rels Γ (d + 1) (.and s t)
  | or {Γ d s t} : Wf rels Γ d s → Wf rels Γ d t → Wf rels Γ (d + 1) (.or s t)
  | some {Γ d x s} : x ∈ [120, 121, 122] → Wf rels (x :: Γ) d s → Wf rels Γ (d + 1) (.some x s)
  | all {Γ d x s} : x ∈ [120, 121, 122] → Wf rels (x :: Γ) d s → Wf rels Γ (d + 1) (.all x s)
  | many {Γ d k x s} : k < 4 → x ∈ [120, 121, 122] → Wf rels (x :: Γ) d s → Wf rels Γ (d + 1) (.many k x s)
theorem Wf.weak {rels : List (Txt × Nat)} {Γ : List Nat} {d : Nat} {s : Sn} (h : Wf rels Γ d s) : ∀ {Δ : List Nat}, (∀ x ∈ Γ, x ∈ Δ) → Wf rels Δ d s := by
  induction h with
  | yes => exact fun _ => .yes
  | same h1 h2 => exact fun h => .same (h _ h1) (h _ h2)
  | rel h1 h2 => exact fun h => .rel h1 fun x m => h _ (h2 x m)
  | not _ ih => exact fun h => .not (ih h)
  | and _ _ ih1 ih2 => exact fun h => .and (ih1 h) (ih2 h)
  | or _ _ ih1 ih2 => exact fun h => .or (ih1 h) (ih2 h)
  | some hx _ ih => exact fun h => .some hx (ih fun x m => by
      rcases List.mem_cons.mp m with m | m
      · exact List.mem_cons.mpr (.inl m)
      · exact List.mem_cons_of_mem _ (h x m))
  | all hx _ ih => exact fun h => .all hx (ih fun x m => by
      rcases List.mem_cons.mp m with m | m
      · exact List.mem_cons.mpr (.inl m)
      · exact List.mem_cons_of_mem _ (h x m))
  | many hk hx _ ih => exact fun h => .many hk hx (ih fun x m => by
      rcases List.mem_cons.mp m with m | m
      · exact List.mem_cons.mpr (.inl m)
      · exact List.mem_cons_of_mem _ (h x m))
/-! ### values -/
structure EnvOk (ks vs : List D) (ρ : Nat → Int) (Γ : List Nat) : Prop where
  str : ∀ k ∈ ks, ∃ s, k = .str s
  at_ : ∀ x ∈ Γ, atK (vD x) ks vs = some (.int (ρ x))
theorem kok_str {ks : List D} {x : Nat} (h : ∀ k ∈ ks, ∃ s, k = .str s) : kok (vD x) ks = true := by
  cases ks with
  | nil => rfl
  | cons k ks => obtain ⟨s, rfl⟩ := h k List.mem_cons_self; rfl
theorem EnvOk.ix {ks vs : List D} {ρ : Nat → Int} {Γ : List Nat} (h : EnvOk ks vs ρ Γ) {x : Nat} (m : x ∈ Γ) : ixD (.dct ks vs) (vD x) = some (.int (ρ x)) := by
  show (if kok (vD x) ks then atK (vD x) ks vs else none) = _
  rw [kok_str h.str, if_pos rfl, h.at_ x m]
theorem atoms_str {ks : List D} (h : ∀ k ∈ ks, ∃ s, k = .str s) : atoms ks = true := by
  unfold atoms
  rw [List.all_eq_true]
  intro k m
  obtain ⟨s, rfl⟩ := h k m
  rfl
theorem dct_str {ks vs : List D} (h : ∀ k ∈ ks, ∃ s, k = .str s) : bi1 .dct (.dct ks vs) = some (.dct ks vs) := by
  show (if atoms ks then some (D.dct ks vs) else none) = _
  rw [atoms_str h, if_pos rfl]
theorem eqv_str {a b : Txt} : D.eqv (.str a) (.str b) = (a == b) := by simp [D.eqv]
theorem putK_str {x : Nat} {v : D} : ∀ {ks vs : List D}, (∀ k ∈ ks, ∃ s, k = .str s) → ∀ k ∈ (putK (vD x) v ks vs).1, ∃ s, k = .str s
  | [], vs, _, k, m => by
    have : (putK (vD x) v [] vs).1 = [vD x] := by cases vs <;> rfl
    rw [this] at m
    rcases List.mem_singleton.mp m with rfl
    exact ⟨_, rfl⟩
  | a :: ks, [], _, k, m => by
    rcases List.mem_singleton.mp m with rfl
    exact ⟨_, rfl⟩
  | a :: ks, w :: vs, h, k, m => by
    unfold putK at m
    split at m
    · exact h k m
    · rcases List.mem_cons.mp m with rfl | m
      · exact h _ List.mem_cons_self
      · exact putK_str (fun k m => h k (List.mem_cons_of_mem _ m)) k m
theorem putK_len {k v : D} : ∀ {ks vs : List D}, (putK k v ks vs).1.length ≤ ks.length + 1
  | [], vs => by cases vs <;> simp [putK]
  | a :: ks, [] => by simp [putK]
  | a :: ks, w :: vs => by
    unfold putK
    split
    · simp
    · have := @putK_len k v ks vs
      simp only [List.length_cons]
      omega
theorem atK_put {x : Nat} {v : D} : ∀ {ks vs : List D}, atK (vD x) (putK (vD x) v ks vs).1 (putK (vD x) v ks vs).2 = some v
  | [], vs => by cases vs <;> simp [putK, atK, vD, eqv_str]
  | a :: ks, [] => by simp [putK, atK, vD, eqv_str]
  | a :: ks, w :: vs => by
    unfold putK
    split
    · rename_i h
      simp only [atK]
      rw [if_pos h]
    · rename_i h
      simp only [atK]
      rw [if_neg h]
      exact atK_put
theorem atK_put' {x y : Nat} {v : D} (hn : y ≠ x) : ∀ {ks vs : List D} {w : D}, (∀ k ∈ ks, ∃ s, k = .str s) → atK (vD y) ks vs = some w → atK (vD y) (putK (vD x) v ks vs).1 (putK (vD x) v ks vs).2 = some w
  | [], vs, w, _, h => by cases vs <;> simp [atK] at h
  | a :: ks, [], w, _, h => by simp [atK] at h
  | a :: ks, u :: vs, w, hs, h => by
    obtain ⟨s, rfl⟩ := hs a List.mem_cons_self
    unfold putK
    split
    · rename_i h1
      simp only [vD, eqv_str, beq_iff_eq] at h1
      subst h1
      simp only [atK, vD, eqv_str] at h ⊢
      rw [if_neg (by simp; omega)] at h ⊢
      exact h
    · simp only [atK] at h ⊢
      split
      · rename_i h2
        rw [if_pos h2] at h
        exact h
      · rename_i h2
        rw [if_neg h2] at h
        exact atK_put' hn (fun k m => hs k (List.mem_cons_of_mem _ m)) h
theorem putK_putK {x : Nat} {v w : D} : ∀ {ks vs : List D}, putK (vD x) w (putK (vD x) v ks vs).1 (putK (vD x) v ks vs).2 = putK (vD x) w ks vs
  | [], vs => by cases vs <;> simp [putK, vD, eqv_str]
  | a :: ks, [] => by simp [putK, vD, eqv_str]
  | a :: ks, u :: vs => by
    by_cases h : D.eqv a (vD x) = true
    · simp [putK, h]
    · have := @putK_putK x v w ks vs
      simp [putK, h, this]
theorem EnvOk.put {ks vs : List D} {ρ : Nat → Int} {Γ : List Nat} (h : EnvOk ks vs ρ Γ) {x : Nat} {t : Int} : EnvOk (putK (vD x) (.int t) ks vs).1 (putK (vD x) (.int t) ks vs).2 (upd ρ x t) (x :: Γ) where
  str := putK_str h.str
  at_ := fun y m => by
    by_cases e : y = x
    · subst e
      rw [atK_put]
      simp [upd]
    · rcases List.mem_cons.mp m with m | m
      · exact absurd m e
      · rw [atK_put' e h.str (h.at_ y m)]
        simp [upd, e]
theorem EnvOk.nil {ρ : Nat → Int} : EnvOk [] [] ρ [] := ⟨fun _ m => by simp at m, fun _ m => by simp at m⟩
theorem putC_env {ks vs : List D} (h : ∀ k ∈ ks, ∃ s, k = .str s) (hl : ks.length < line) {x : Nat} {v : D} : putC (vD x) v ks vs = some (putK (vD x) v ks vs) := by
  unfold putC
  rw [kok_str h, decide_eq_true hl]
  rfl
/-! ### a world -/
/-- what a world answers about its relations -/
structure WOk (rels : List (Txt × Nat)) (W : D) (n : Nat) (R : Txt → List Int → Bool) : Prop where
  ins : ∃ sh rows known, W = .ins 6 [sh, .int n, rows, known]
  holds : ∀ {m ro L r} {is : List Int}, (r, is.length) ∈ rels → callN tab 1000 (m + 2) ro 8 [W, .str r, .tup (is.map iD)] L = .ok (.bl (R r is)) L
/-- and what the law's own world answers -/
structure KOk (rels : List (Txt × Nat)) (K : D) (R : Txt → List Int → Bool) : Prop where
  holds : ∀ {r} {is : List Int}, (r, is.length) ∈ rels → ∃ x, ixD K (.str r) = some (.tup x) ∧ cmpD .isin (.tup (is.map iD)) (.tup x) = some (R r is)
/-- a comprehension over names -/
theorem comp_ix {G : Cfg} {L : List Cell} {ks vs : List D} {ρ : Nat → Int} {Γ : List Nat} {own : List Nat} {i v : Nat} {env : Env} (h : EnvOk ks vs ρ Γ) {xs : List Nat} (hx : ∀ x ∈ xs, x ∈ Γ) (hl : xs.length ≤ line)
    (he : ∀ d : D, ev G (.ix (.e (.var v)) (.var i)) ((wipe env own).set i (some (.val d))) L = opt (ixD (.dct ks vs) d) L) :
    kComp G own (.ix (.e (.var v)) (.var i)) (.v i) .none env (.ok (xs.map vD) L) = .ok (.olst (xs.map fun x => iD (ρ x))) L := by
  show (nox (compL (.v i) (evB G .none) (ev G (.ix (.e (.var v)) (.var i))) (wipe env own) (xs.map vD) L)).bind _ = _
  have : ∀ {xs : List Nat}, (∀ x ∈ xs, x ∈ Γ) → compL (.v i) (evB G .none) (ev G (.ix (.e (.var v)) (.var i))) (wipe env own) (xs.map vD) L = .ok (xs.map fun x => iD (ρ x)) L := by
    intro xs
    induction xs with
    | nil => intro _; rfl
    | cons x xs ih =>
      intro hx
      show (ev G (.ix (.e (.var v)) (.var i)) ((wipe env own).set i (some (.val (vD x)))) L).bind _ = _
      rw [he, h.ix (hx x List.mem_cons_self)]
      show (compL (.v i) (evB G .none) (ev G (.ix (.e (.var v)) (.var i))) (wipe env own) (xs.map vD) L).bind _ = _
      rw [ih fun y m => hx y (List.mem_cons_of_mem _ m)]
      rfl
  rw [this hx]
  show sized _ _ _ = _
  unfold sized
  rw [if_pos (by simpa using hl)]
end k73s

set_option linter.all false
set_option maxRecDepth 100000
namespace k73s
open Wa
open k73 (tab lawNo f_1 f_2 f_3 f_4 f_5 f_6 f_7 f_8 f_9 f_10 f_11 f_12 f_13 f_14 f_15 f_16 f_17 f_18 f_19 f_20 f_21 f_22 f_23 f_24 f_25 f_26 f_27 f_28 f_29 f_30 f_31 f_32)
abbrev vs (d : D) : Option S := some (.val d)
theorem kTup1 {a : D} {L : List Cell} : kTup (.ok [a] L) = .ok (.tup [a]) L := rfl
theorem kLst1 {a : D} {L : List Cell} : kLst (.ok [a] L) = .ok (.olst [a]) L := rfl
theorem kTup2 {a b : D} {L : List Cell} : kTup (.ok [a, b] L) = .ok (.tup [a, b]) L := rfl
theorem kLst2 {a b : D} {L : List Cell} : kLst (.ok [a, b] L) = .ok (.olst [a, b]) L := rfl
theorem kTup3 {a b c : D} {L : List Cell} : kTup (.ok [a, b, c] L) = .ok (.tup [a, b, c]) L := rfl
theorem kLst3 {a b c : D} {L : List Cell} : kLst (.ok [a, b, c] L) = .ok (.olst [a, b, c]) L := rfl
theorem kTup4 {a b c d : D} {L : List Cell} : kTup (.ok [a, b, c, d] L) = .ok (.tup [a, b, c, d]) L := rfl
theorem kLst4 {a b c d : D} {L : List Cell} : kLst (.ok [a, b, c, d] L) = .ok (.olst [a, b, c, d]) L := rfl
theorem kTup5 {a b c d e : D} {L : List Cell} : kTup (.ok [a, b, c, d, e] L) = .ok (.tup [a, b, c, d, e]) L := rfl
theorem kLst5 {a b c d e : D} {L : List Cell} : kLst (.ok [a, b, c, d, e] L) = .ok (.olst [a, b, c, d, e]) L := rfl
theorem kTup0 {L : List Cell} : kTup (.ok [] L) = .ok (.tup []) L := rfl
theorem kLst0 {L : List Cell} : kLst (.ok [] L) = .ok (.olst []) L := rfl
theorem beqf {a b : Txt} (h : a ≠ b) : (a == b) = false := by simp [h]
theorem ev_neg1 {G : Cfg} {env : Env} {L : List Cell} : ev G (.neg (.e (.int 1))) env L = .ok (.int (-1)) L := rfl
theorem ixT3m {a b c : D} : ixD (.tup [a, b, c]) (.int (-1)) = some c := rfl
theorem ixT4m {a b c d : D} : ixD (.tup [a, b, c, d]) (.int (-1)) = some d := rfl
theorem told_not {n : Nat} {ro : Bool} {W s V : D} {L : List Cell} {b : Bool} (h : callN tab 1000 n ro 16 [W, s, V] L = .ok (.bl b) L) :
    callN tab 1000 (n + 1) ro 16 [W, .tup [.str [110, 111, 116], s], V] L = .ok (.bl (!b)) L := by
  rw [call_succ (fn := f_16) rfl, run_eq (env := [vs W, vs (.tup [.str [110, 111, 116], s]), vs V, none, none, none, none, none, none]) rfl]
  simp only [f_16, ev_var, ev_non, ev_bl, ev_int, ev_str, ev_glob, evO_e, evO_pk, ev_tup, ev_fr, kFrz_ok, ev_op, kOp1_ok, kOp2_ok, ev_cmp, kCmp1_ok, kCmp2_ok, ev_not, kNot_ok, ev_and, kAnd_bl, ev_or, kOr_bl, ev_ite, kIte_ok, kIteB_t, kIteB_f, ev_ix, kIx1_ok, kIx2_ok, ev_isi, kIsi_ok, ev_bi, kBi_ok, ev_call, kCall_ok, ev_callP, kCallP_ok, ev_meth, kMeth1_ins, kMeth2_ok, ev_make, kMake_ok, kIns_ok, ev_fld, kFld_ins, evs_nil, evs_cons, kCons1_ok, kCons2_ok, evOs_nil, evOs_cons, kConsO1_ok, evF_lst, evF_dct0, evF_bi, evF_comp, evI_seq, evI_rng, kSeq_tup, kSeq_lst, opt_some, exs_nil, exs_cons, kSeqS_next, kSeqS_ret, kSeqS_exc, ex_set, kSet_v, ex_setF, kSetF_ok, ex_ite, kIteS_ok, kIteSB_t, kIteSB_f, ex_ret, kRet_ok, ex_expr, kExpr_ok, ex_loop, kLoop_ok, ex_while, fin_ret, fin_next, fin_exc, seen_tup, seen_lst, seen_str, seen_int, seen_bl, seen_non, seen_dct, seen_ins, truth_bl, slot0, slotS, rdV_val, rdP_some, List.set_cons_zero, List.set_cons_succ, frz, Option.map_some, if_true, Bool.not_true, Bool.not_false, Bool.false_eq_true, if_false, ite_true, ite_false, h, ixT0, ixT1, ixT2, cmp_in2, cmp_eq_str, es_dput, sDput_ok, es_dupd, sDupd_ok, es_app, sApp_ok, es_frz, sFrz_v, sFrz_l, sFrz_d, es_aug, sAug_ok, kAug_add, kDput1_ok, kApp_ok, ev_sl1, ev_slm, kSl_ok, ev_chain, kChain1_ok, kChain3_ok, evF_dcomp, evF_comp2, kSet2, kSet3, cmp_lt_int, cmp_le_int, cmp_gt_int, cmp_ge_int, ev_neg_int, cmp_in2, cmp_in2l, cmp_in3, cmp_eq_str, cmp_ne_str, cmp_eq_int, cmp_ne_int, ixT0, ixT1, ixT2, ixT3, List.getElem?_cons_succ, List.getElem?_cons_zero, Int.cast_ofNat_Int, Nat.zero_add, Nat.reduceAdd, Int.reduceBEq, Int.natCast_one, ex_rput, sRo_f, kRput1_ok, kRput2_ok, kRput3_1, kRput3_2, kRput3_3, seen_ref0, ixL0, ixL1, ixL2, ixL3, Int.reduceLT, Int.reduceLE, decide_true, decide_false, isi_tupT, isi_intI, isi_intB, isi_intT, isi_intL, isi_intS, isi_tupL, lf_int, lf_intI, lf_lenT, lf_lenL, lf_tupL, op_addI, op_subI, kTup0, kTup1, kTup2, kTup3, kTup4, kTup5, kLst0, kLst1, kLst2, kLst3, kLst4, kLst5, beqf, List.length_cons, List.length_nil, reduceCtorEq, List.cons.injEq, Nat.reduceEqDiff, and_false, false_and, and_true, true_and, and_self, Bool.and_self, Bool.or_false, Bool.false_or, Bool.true_or, Bool.or_true, beq_self_eq_true, ne_eq, not_false_eq_true]
theorem told_yes {n : Nat} {ro : Bool} {W V : D} {L : List Cell} : callN tab 1000 (n + 1) ro 16 [W, .tup [.str [121, 101, 115]], V] L = .ok (.bl true) L := by kernel_rfl
theorem told_and {n : Nat} {ro : Bool} {W s t V : D} {L : List Cell} {b c : Bool} (h : callN tab 1000 n ro 16 [W, s, V] L = .ok (.bl b) L) (h2 : callN tab 1000 n ro 16 [W, t, V] L = .ok (.bl c) L) :
    callN tab 1000 (n + 1) ro 16 [W, .tup [.str [97, 110, 100], s, t], V] L = .ok (.bl (b && c)) L := by
  rw [call_succ (fn := f_16) rfl, run_eq (env := [vs W, vs (.tup [.str [97, 110, 100], s, t]), vs V, none, none, none, none, none, none]) rfl]
  cases b <;> simp only [f_16, ev_var, ev_non, ev_bl, ev_int, ev_str, ev_glob, evO_e, evO_pk, ev_tup, ev_fr, kFrz_ok, ev_op, kOp1_ok, kOp2_ok, ev_cmp, kCmp1_ok, kCmp2_ok, ev_not, kNot_ok, ev_and, kAnd_bl, ev_or, kOr_bl, ev_ite, kIte_ok, kIteB_t, kIteB_f, ev_ix, kIx1_ok, kIx2_ok, ev_isi, kIsi_ok, ev_bi, kBi_ok, ev_call, kCall_ok, ev_callP, kCallP_ok, ev_meth, kMeth1_ins, kMeth2_ok, ev_make, kMake_ok, kIns_ok, ev_fld, kFld_ins, evs_nil, evs_cons, kCons1_ok, kCons2_ok, evOs_nil, evOs_cons, kConsO1_ok, evF_lst, evF_dct0, evF_bi, evF_comp, evI_seq, evI_rng, kSeq_tup, kSeq_lst, opt_some, exs_nil, exs_cons, kSeqS_next, kSeqS_ret, kSeqS_exc, ex_set, kSet_v, ex_setF, kSetF_ok, ex_ite, kIteS_ok, kIteSB_t, kIteSB_f, ex_ret, kRet_ok, ex_expr, kExpr_ok, ex_loop, kLoop_ok, ex_while, fin_ret, fin_next, fin_exc, seen_tup, seen_lst, seen_str, seen_int, seen_bl, seen_non, seen_dct, seen_ins, truth_bl, slot0, slotS, rdV_val, rdP_some, List.set_cons_zero, List.set_cons_succ, frz, Option.map_some, if_true, Bool.not_true, Bool.not_false, Bool.false_eq_true, if_false, ite_true, ite_false, h, h2, es_dput, sDput_ok, es_dupd, sDupd_ok, es_app, sApp_ok, es_frz, sFrz_v, sFrz_l, sFrz_d, es_aug, sAug_ok, kAug_add, kDput1_ok, kApp_ok, ev_sl1, ev_slm, kSl_ok, ev_chain, kChain1_ok, kChain3_ok, evF_dcomp, evF_comp2, kSet2, kSet3, cmp_lt_int, cmp_le_int, cmp_gt_int, cmp_ge_int, ev_neg_int, cmp_in2, cmp_in2l, cmp_in3, cmp_eq_str, cmp_ne_str, cmp_eq_int, cmp_ne_int, ixT0, ixT1, ixT2, ixT3, List.getElem?_cons_succ, List.getElem?_cons_zero, Int.cast_ofNat_Int, Nat.zero_add, Nat.reduceAdd, Int.reduceBEq, Int.natCast_one, ex_rput, sRo_f, kRput1_ok, kRput2_ok, kRput3_1, kRput3_2, kRput3_3, seen_ref0, ixL0, ixL1, ixL2, ixL3, Int.reduceLT, Int.reduceLE, decide_true, decide_false, isi_tupT, isi_intI, isi_intB, isi_intT, isi_intL, isi_intS, isi_tupL, lf_int, lf_intI, lf_lenT, lf_lenL, lf_tupL, op_addI, op_subI, kTup0, kTup1, kTup2, kTup3, kTup4, kTup5, kLst0, kLst1, kLst2, kLst3, kLst4, kLst5, beqf, List.length_cons, List.length_nil, reduceCtorEq, List.cons.injEq, Nat.reduceEqDiff, and_false, false_and, and_true, true_and, and_self, Bool.and_self, Bool.or_false, Bool.false_or, Bool.true_or, Bool.or_true, beq_self_eq_true, ne_eq, not_false_eq_true, Bool.false_and, Bool.true_and]
theorem told_or {n : Nat} {ro : Bool} {W s t V : D} {L : List Cell} {b c : Bool} (h : callN tab 1000 n ro 16 [W, s, V] L = .ok (.bl b) L) (h2 : callN tab 1000 n ro 16 [W, t, V] L = .ok (.bl c) L) :
    callN tab 1000 (n + 1) ro 16 [W, .tup [.str [111, 114], s, t], V] L = .ok (.bl (b || c)) L := by
  rw [call_succ (fn := f_16) rfl, run_eq (env := [vs W, vs (.tup [.str [111, 114], s, t]), vs V, none, none, none, none, none, none]) rfl]
  cases b <;> simp only [f_16, ev_var, ev_non, ev_bl, ev_int, ev_str, ev_glob, evO_e, evO_pk, ev_tup, ev_fr, kFrz_ok, ev_op, kOp1_ok, kOp2_ok, ev_cmp, kCmp1_ok, kCmp2_ok, ev_not, kNot_ok, ev_and, kAnd_bl, ev_or, kOr_bl, ev_ite, kIte_ok, kIteB_t, kIteB_f, ev_ix, kIx1_ok, kIx2_ok, ev_isi, kIsi_ok, ev_bi, kBi_ok, ev_call, kCall_ok, ev_callP, kCallP_ok, ev_meth, kMeth1_ins, kMeth2_ok, ev_make, kMake_ok, kIns_ok, ev_fld, kFld_ins, evs_nil, evs_cons, kCons1_ok, kCons2_ok, evOs_nil, evOs_cons, kConsO1_ok, evF_lst, evF_dct0, evF_bi, evF_comp, evI_seq, evI_rng, kSeq_tup, kSeq_lst, opt_some, exs_nil, exs_cons, kSeqS_next, kSeqS_ret, kSeqS_exc, ex_set, kSet_v, ex_setF, kSetF_ok, ex_ite, kIteS_ok, kIteSB_t, kIteSB_f, ex_ret, kRet_ok, ex_expr, kExpr_ok, ex_loop, kLoop_ok, ex_while, fin_ret, fin_next, fin_exc, seen_tup, seen_lst, seen_str, seen_int, seen_bl, seen_non, seen_dct, seen_ins, truth_bl, slot0, slotS, rdV_val, rdP_some, List.set_cons_zero, List.set_cons_succ, frz, Option.map_some, if_true, Bool.not_true, Bool.not_false, Bool.false_eq_true, if_false, ite_true, ite_false, h, h2, es_dput, sDput_ok, es_dupd, sDupd_ok, es_app, sApp_ok, es_frz, sFrz_v, sFrz_l, sFrz_d, es_aug, sAug_ok, kAug_add, kDput1_ok, kApp_ok, ev_sl1, ev_slm, kSl_ok, ev_chain, kChain1_ok, kChain3_ok, evF_dcomp, evF_comp2, kSet2, kSet3, cmp_lt_int, cmp_le_int, cmp_gt_int, cmp_ge_int, ev_neg_int, cmp_in2, cmp_in2l, cmp_in3, cmp_eq_str, cmp_ne_str, cmp_eq_int, cmp_ne_int, ixT0, ixT1, ixT2, ixT3, List.getElem?_cons_succ, List.getElem?_cons_zero, Int.cast_ofNat_Int, Nat.zero_add, Nat.reduceAdd, Int.reduceBEq, Int.natCast_one, ex_rput, sRo_f, kRput1_ok, kRput2_ok, kRput3_1, kRput3_2, kRput3_3, seen_ref0, ixL0, ixL1, ixL2, ixL3, Int.reduceLT, Int.reduceLE, decide_true, decide_false, isi_tupT, isi_intI, isi_intB, isi_intT, isi_intL, isi_intS, isi_tupL, lf_int, lf_intI, lf_lenT, lf_lenL, lf_tupL, op_addI, op_subI, kTup0, kTup1, kTup2, kTup3, kTup4, kTup5, kLst0, kLst1, kLst2, kLst3, kLst4, kLst5, beqf, List.length_cons, List.length_nil, reduceCtorEq, List.cons.injEq, Nat.reduceEqDiff, and_false, false_and, and_true, true_and, and_self, Bool.and_self, Bool.or_false, Bool.false_or, Bool.true_or, Bool.or_true, beq_self_eq_true, ne_eq, not_false_eq_true]
theorem told_same {n : Nat} {ro : Bool} {W V a b : D} {L : List Cell} {i j : Int} (h : ixD V a = some (.int i)) (h2 : ixD V b = some (.int j)) (hs : seen V L = V) :
    callN tab 1000 (n + 1) ro 16 [W, .tup [.str [115, 97, 109, 101], a, b], V] L = .ok (.bl (i == j)) L := by
  rw [call_succ (fn := f_16) rfl, run_eq (env := [vs W, vs (.tup [.str [115, 97, 109, 101], a, b]), vs V, none, none, none, none, none, none]) rfl]
  simp only [f_16, ev_var, ev_non, ev_bl, ev_int, ev_str, ev_glob, evO_e, evO_pk, ev_tup, ev_fr, kFrz_ok, ev_op, kOp1_ok, kOp2_ok, ev_cmp, kCmp1_ok, kCmp2_ok, ev_not, kNot_ok, ev_and, kAnd_bl, ev_or, kOr_bl, ev_ite, kIte_ok, kIteB_t, kIteB_f, ev_ix, kIx1_ok, kIx2_ok, ev_isi, kIsi_ok, ev_bi, kBi_ok, ev_call, kCall_ok, ev_callP, kCallP_ok, ev_meth, kMeth1_ins, kMeth2_ok, ev_make, kMake_ok, kIns_ok, ev_fld, kFld_ins, evs_nil, evs_cons, kCons1_ok, kCons2_ok, evOs_nil, evOs_cons, kConsO1_ok, evF_lst, evF_dct0, evF_bi, evF_comp, evI_seq, evI_rng, kSeq_tup, kSeq_lst, opt_some, exs_nil, exs_cons, kSeqS_next, kSeqS_ret, kSeqS_exc, ex_set, kSet_v, ex_setF, kSetF_ok, ex_ite, kIteS_ok, kIteSB_t, kIteSB_f, ex_ret, kRet_ok, ex_expr, kExpr_ok, ex_loop, kLoop_ok, ex_while, fin_ret, fin_next, fin_exc, seen_tup, seen_lst, seen_str, seen_int, seen_bl, seen_non, seen_dct, seen_ins, truth_bl, slot0, slotS, rdV_val, rdP_some, List.set_cons_zero, List.set_cons_succ, frz, Option.map_some, if_true, Bool.not_true, Bool.not_false, Bool.false_eq_true, if_false, ite_true, ite_false, h, h2, hs, es_dput, sDput_ok, es_dupd, sDupd_ok, es_app, sApp_ok, es_frz, sFrz_v, sFrz_l, sFrz_d, es_aug, sAug_ok, kAug_add, kDput1_ok, kApp_ok, ev_sl1, ev_slm, kSl_ok, ev_chain, kChain1_ok, kChain3_ok, evF_dcomp, evF_comp2, kSet2, kSet3, cmp_lt_int, cmp_le_int, cmp_gt_int, cmp_ge_int, ev_neg_int, cmp_in2, cmp_in2l, cmp_in3, cmp_eq_str, cmp_ne_str, cmp_eq_int, cmp_ne_int, ixT0, ixT1, ixT2, ixT3, List.getElem?_cons_succ, List.getElem?_cons_zero, Int.cast_ofNat_Int, Nat.zero_add, Nat.reduceAdd, Int.reduceBEq, Int.natCast_one, ex_rput, sRo_f, kRput1_ok, kRput2_ok, kRput3_1, kRput3_2, kRput3_3, seen_ref0, ixL0, ixL1, ixL2, ixL3, Int.reduceLT, Int.reduceLE, decide_true, decide_false, isi_tupT, isi_intI, isi_intB, isi_intT, isi_intL, isi_intS, isi_tupL, lf_int, lf_intI, lf_lenT, lf_lenL, lf_tupL, op_addI, op_subI, kTup0, kTup1, kTup2, kTup3, kTup4, kTup5, kLst0, kLst1, kLst2, kLst3, kLst4, kLst5, beqf, List.length_cons, List.length_nil, reduceCtorEq, List.cons.injEq, Nat.reduceEqDiff, and_false, false_and, and_true, true_and, and_self, Bool.and_self, Bool.or_false, Bool.false_or, Bool.true_or, Bool.or_true, beq_self_eq_true, ne_eq, not_false_eq_true]
theorem told_rel {n : Nat} {ro : Bool} {sh rows known : D} {L : List Cell} {N : Int} {r : Txt} {xs : List Nat} {ks ws : List D} {ρ : Nat → Int} {Γ : List Nat} {b : Bool} (he : EnvOk ks ws ρ Γ) (hx : ∀ x ∈ xs, x ∈ Γ) (hl : xs.length ≤ line)
    (h : callN tab 1000 n ro 8 [.ins 6 [sh, .int N, rows, known], .str r, .tup ((xs.map ρ).map iD)] L = .ok (.bl b) L) :
    callN tab 1000 (n + 1) ro 16 [.ins 6 [sh, .int N, rows, known], .tup [.str [114, 101, 108], .str r, .tup (xs.map vD)], .dct ks ws] L = .ok (.bl b) L := by
  rw [call_succ (fn := f_16) rfl, run_eq (env := [vs (.ins 6 [sh, .int N, rows, known]), vs (.tup [.str [114, 101, 108], .str r, .tup (xs.map vD)]), vs (.dct ks ws), none, none, none, none, none, none]) rfl]
  have hc : ∀ w : Option S, kComp ⟨callN tab 1000 n, initP tab 1000 n, ro, 1000⟩ [8] (.ix (.e (.var 2)) (.var 8)) (.v 8) .none [vs (.ins 6 [sh, .int N, rows, known]), vs (.tup [.str [114, 101, 108], .str r, .tup (xs.map vD)]), vs (.dct ks ws), w, none, none, none, none, none] (.ok (xs.map vD) L) = .ok (.olst (xs.map fun x => iD (ρ x))) L := fun w => comp_ix he hx hl fun d => rfl
  have hm : (xs.map fun x => iD (ρ x)) = (xs.map ρ).map iD := by rw [List.map_map]; rfl
  simp only [f_16, ev_var, ev_non, ev_bl, ev_int, ev_str, ev_glob, evO_e, evO_pk, ev_tup, ev_fr, kFrz_ok, ev_op, kOp1_ok, kOp2_ok, ev_cmp, kCmp1_ok, kCmp2_ok, ev_not, kNot_ok, ev_and, kAnd_bl, ev_or, kOr_bl, ev_ite, kIte_ok, kIteB_t, kIteB_f, ev_ix, kIx1_ok, kIx2_ok, ev_isi, kIsi_ok, ev_bi, kBi_ok, ev_call, kCall_ok, ev_callP, kCallP_ok, ev_meth, kMeth1_ins, kMeth2_ok, ev_make, kMake_ok, kIns_ok, ev_fld, kFld_ins, evs_nil, evs_cons, kCons1_ok, kCons2_ok, evOs_nil, evOs_cons, kConsO1_ok, evF_lst, evF_dct0, evF_bi, evF_comp, evI_seq, evI_rng, kSeq_tup, kSeq_lst, opt_some, exs_nil, exs_cons, kSeqS_next, kSeqS_ret, kSeqS_exc, ex_set, kSet_v, ex_setF, kSetF_ok, ex_ite, kIteS_ok, kIteSB_t, kIteSB_f, ex_ret, kRet_ok, ex_expr, kExpr_ok, ex_loop, kLoop_ok, ex_while, fin_ret, fin_next, fin_exc, seen_tup, seen_lst, seen_str, seen_int, seen_bl, seen_non, seen_dct, seen_ins, truth_bl, slot0, slotS, rdV_val, rdP_some, List.set_cons_zero, List.set_cons_succ, frz, Option.map_some, if_true, Bool.not_true, Bool.not_false, Bool.false_eq_true, if_false, ite_true, ite_false, es_dput, sDput_ok, es_dupd, sDupd_ok, es_app, sApp_ok, es_frz, sFrz_v, sFrz_l, sFrz_d, es_aug, sAug_ok, kAug_add, kDput1_ok, kApp_ok, ev_sl1, ev_slm, kSl_ok, ev_chain, kChain1_ok, kChain3_ok, evF_dcomp, evF_comp2, kSet2, kSet3, cmp_lt_int, cmp_le_int, cmp_gt_int, cmp_ge_int, ev_neg_int, cmp_in2, cmp_in2l, cmp_in3, cmp_eq_str, cmp_ne_str, cmp_eq_int, cmp_ne_int, ixT0, ixT1, ixT2, ixT3, List.getElem?_cons_succ, List.getElem?_cons_zero, Int.cast_ofNat_Int, Nat.zero_add, Nat.reduceAdd, Int.reduceBEq, Int.natCast_one, ex_rput, sRo_f, kRput1_ok, kRput2_ok, kRput3_1, kRput3_2, kRput3_3, seen_ref0, ixL0, ixL1, ixL2, ixL3, Int.reduceLT, Int.reduceLE, decide_true, decide_false, isi_tupT, isi_intI, isi_intB, isi_intT, isi_intL, isi_intS, isi_tupL, lf_int, lf_intI, lf_lenT, lf_lenL, lf_tupL, op_addI, op_subI, kTup0, kTup1, kTup2, kTup3, kTup4, kTup5, kLst0, kLst1, kLst2, kLst3, kLst4, kLst5, beqf, List.length_cons, List.length_nil, reduceCtorEq, List.cons.injEq, Nat.reduceEqDiff, and_false, false_and, and_true, true_and, and_self, Bool.and_self, Bool.or_false, Bool.false_or, Bool.true_or, Bool.or_true, beq_self_eq_true, ne_eq, not_false_eq_true, hc, hm, h]
/-- counting up to what is wanted -/
def cfold (w : Nat) (P : Int → Bool) (c : Nat) (ts : List Int) : Nat := ts.foldl (fun c t => if decide (c < w) && P t then c + 1 else c) c
theorem cfold_le (w : Nat) (P : Int → Bool) : ∀ (ts : List Int) (c : Nat), c ≤ cfold w P c ts
  | [], c => Nat.le_refl c
  | t :: ts, c => by
    show c ≤ cfold w P (if decide (c < w) && P t then c + 1 else c) ts
    have := cfold_le w P ts (if decide (c < w) && P t then c + 1 else c)
    split at this <;> split <;> simp_all <;> omega
theorem cfold_iff (w : Nat) (P : Int → Bool) : ∀ (ts : List Int) (c : Nat), w ≤ cfold w P c ts ↔ w ≤ c + ts.countP P
  | [], c => by simp [cfold]
  | t :: ts, c => by
    show w ≤ cfold w P (if decide (c < w) && P t then c + 1 else c) ts ↔ _
    by_cases hc : c < w
    · cases hp : P t with
      | true =>
        have h2 := cfold_iff w P ts (c + 1)
        rw [if_pos (by simp [hc]), h2, List.countP_cons_of_pos hp]
        omega
      | false =>
        have h2 := cfold_iff w P ts c
        rw [if_neg (by simp), h2, List.countP_cons_of_neg (by simp [hp])]
    · rw [if_neg (by simp [hc])]
      have h2 := cfold_le w P ts c
      constructor <;> intro _ <;> omega
theorem rngL_ints (n : Nat) : rngL 0 ((n : Int)).toNat = ((List.range n).map fun k : Nat => (k : Int)).map iD := by
  simp [rngL, iD]
theorem cnt_ints (n : Nat) (P : Int → Bool) : (((List.range n).map fun k : Nat => (k : Int)).countP P) = cnt n P := by
  rw [List.countP_map]; rfl
abbrev Q := Nat × Option S × List D × List D
def qstep (x : Nat) (w : Nat) (P : Int → Bool) (a : Q) (d : D) : Q :=
  match d with
  | .int t => (if decide (a.1 < w) && P t then a.1 + 1 else a.1, vs (.int t), putK (vD x) (.int t) a.2.2.1 a.2.2.2)
  | _ => a
theorem qstep_fst (x w : Nat) (P : Int → Bool) : ∀ (ts : List Int) (a : Q), ((ts.map iD).foldl (qstep x w P) a).1 = cfold w P a.1 ts
  | [], a => rfl
  | t :: ts, a => by
    show ((ts.map iD).foldl (qstep x w P) (qstep x w P a (iD t))).1 = _
    rw [qstep_fst x w P ts]; rfl
theorem b14_some {n : Nat} {ro : Bool} {a b : D} {L : List Cell} : callN tab 1000 (n + 1) ro 14 [.tup [.str [115, 111, 109, 101], a, b]] L = .ok a L := by kernel_rfl
theorem b14_all {n : Nat} {ro : Bool} {a b : D} {L : List Cell} : callN tab 1000 (n + 1) ro 14 [.tup [.str [97, 108, 108], a, b]] L = .ok a L := by kernel_rfl
theorem b14_many {n : Nat} {ro : Bool} {k a b : D} {L : List Cell} : callN tab 1000 (n + 1) ro 14 [.tup [.str [109, 97, 110, 121], k, a, b]] L = .ok a L := by kernel_rfl
theorem kBiF_dct {ks ws : List D} {L : List Cell} (h : ∀ k ∈ ks, ∃ s, k = .str s) : kBiF .dct (.ok [.dct ks ws] L) = .ok (.odct ks ws) L := by
  show (match bi1 .dct (.dct ks ws) with | some (.lst ys) => R.ok (S.olst ys) L | some (.dct ks vs) => .ok (.odct ks vs) L | _ => .bad) = _
  rw [dct_str h]
theorem kAugR {G : Cfg} {env : Env} {i : Nat} {e : CE} {L : List Cell} {x y : Int} (h : slot env i = some (.val (.int x))) (h2 : ev G e env L = .ok (.int y) L) : ex G (.aug i .add e) env L = .ok .next (env.set i (some (.val (.int (x + y))))) L := by
  rw [ex_aug h, h2, kAug_add]
theorem lent_bl {b k : Bool} {L L' : List Cell} : lent b (.ok (.bl k) L') L = .ok (.bl k) L := by
  cases b <;> rfl
/-- the first loop's body, and what is behind the loop -/
def loopB : CSs → CSs
  | .cons (.loop _ _ b) _ => b
  | .cons _ ss => loopB ss
  | .nil => .nil
def loopR : CSs → CSs
  | .cons (.loop _ _ _) r => r
  | .cons _ ss => loopR ss
  | .nil => .nil
theorem quant {n N w : Nat} {ro : Bool} {sh rows known s S0 word : D} {L : List Cell} {x : Nat} {ks ws : List D} {P : Int → Bool} (hk : ∀ k ∈ ks, ∃ s, k = .str s) (hl : ks.length < line) (hl2 : ∀ v, (putK (vD x) v ks ws).1.length < line)
    (hb : callN tab 1000 (n + 1) ro 14 [S0] L = .ok (vD x) L) (hi : ixD S0 (.int (-1)) = some s) (hz : seen S0 L = S0)
    (h : ∀ t : Int, callN tab 1000 (n + 1) true 16 [.ins 6 [sh, .int N, rows, known], s, .dct (putK (vD x) (.int t) ks ws).1 (putK (vD x) (.int t) ks ws).2] L = .ok (.bl (P t)) L) :
    finR (kSeqS ⟨callN tab 1000 (n + 1), initP tab 1000 (n + 1), ro, 1000⟩ (loopR f_16.body) (loopS (.v 7) (bodyF ⟨callN tab 1000 (n + 1), initP tab 1000 (n + 1), ro, 1000⟩ (loopB f_16.body)) (rngL 0 ((N : Int)).toNat) [vs (.ins 6 [sh, .int N, rows, known]), vs S0, vs (.dct ks ws), vs word, vs (.int ((0 : Nat) : Int)), vs (.int (w : Int)), some (.odct ks ws), none, none] L)) = .ok (.bl (decide (w ≤ cnt N P))) L := by
  refine fin_loop (E := fun a : Q => [vs (.ins 6 [sh, .int N, rows, known]), vs S0, vs (.dct ks ws), vs word, vs (.int a.1), vs (.int (w : Int)), some (.odct a.2.2.1 a.2.2.2), a.2.1, none])
    (step := qstep x w P) (I := fun a => (∀ k ∈ a.2.2.1, ∃ s, k = .str s) ∧ a.2.2.1.length < line ∧ ∀ v, putK (vD x) v a.2.2.1 a.2.2.2 = putK (vD x) v ks ws) (a0 := (0, none, ks, ws)) rfl ⟨hk, hl, fun _ => rfl⟩ ?_ ?_
  · intro d hd a ⟨i1, i2, i3⟩
    obtain ⟨t, ht, rfl⟩ := List.mem_map.mp (rngL_ints N ▸ hd)
    refine ⟨⟨putK_str i1, ?_, fun v => ?_⟩, _, rfl, ?_⟩
    · show (putK (vD x) (.int t) a.2.2.1 a.2.2.2).1.length < line
      rw [i3]
      exact hl2 _
    · show putK (vD x) v (putK (vD x) (.int t) a.2.2.1 a.2.2.2).1 (putK (vD x) (.int t) a.2.2.1 a.2.2.2).2 = _
      rw [putK_putK, i3]
    · show exs _ _ [vs (.ins 6 [sh, .int N, rows, known]), vs S0, vs (.dct ks ws), vs word, vs (.int a.1), vs (.int (w : Int)), some (.odct a.2.2.1 a.2.2.2), vs (.int t), none] L = _
      have hp := putC_env i1 i2 (vs := a.2.2.2) (x := x) (v := .int t)
      have hh := h t
      rw [← i3] at hh
      by_cases hc : a.1 < w <;> cases hP : P t <;> simp [f_16, loopB, ev_var, ev_non, ev_bl, ev_int, ev_str, ev_glob, evO_e, evO_pk, ev_tup, ev_fr, kFrz_ok, ev_op, kOp1_ok, kOp2_ok, ev_cmp, kCmp1_ok, kCmp2_ok, ev_not, kNot_ok, ev_and, kAnd_bl, ev_or, kOr_bl, ev_ite, kIte_ok, kIteB_t, kIteB_f, ev_ix, kIx1_ok, kIx2_ok, ev_isi, kIsi_ok, ev_bi, kBi_ok, ev_call, kCall_ok, ev_callP, kCallP_ok, ev_meth, kMeth1_ins, kMeth2_ok, ev_make, kMake_ok, kIns_ok, ev_fld, kFld_ins, evs_nil, evs_cons, kCons1_ok, kCons2_ok, evOs_nil, evOs_cons, kConsO1_ok, evF_lst, evF_dct0, evF_bi, evF_comp, evI_seq, evI_rng, kSeq_tup, kSeq_lst, opt_some, exs_nil, exs_cons, kSeqS_next, kSeqS_ret, kSeqS_exc, ex_set, kSet_v, ex_setF, kSetF_ok, ex_ite, kIteS_ok, kIteSB_t, kIteSB_f, ex_ret, kRet_ok, ex_expr, kExpr_ok, ex_loop, kLoop_ok, ex_while, fin_ret, fin_next, fin_exc, seen_tup, seen_lst, seen_str, seen_int, seen_bl, seen_non, seen_dct, seen_ins, truth_bl, slot0, slotS, rdV_val, rdP_some, List.set_cons_zero, List.set_cons_succ, frz, Option.map_some, if_true, Bool.not_true, Bool.not_false, Bool.false_eq_true, if_false, ite_true, ite_false, es_dput, sDput_ok, es_dupd, sDupd_ok, es_app, sApp_ok, es_frz, sFrz_v, sFrz_l, sFrz_d, es_aug, sAug_ok, kAug_add, kDput1_ok, kApp_ok, ev_sl1, ev_slm, kSl_ok, ev_chain, kChain1_ok, kChain3_ok, evF_dcomp, evF_comp2, kSet2, kSet3, cmp_lt_int, cmp_le_int, cmp_gt_int, cmp_ge_int, ev_neg_int, cmp_in2, cmp_in2l, cmp_in3, cmp_eq_str, cmp_ne_str, cmp_eq_int, cmp_ne_int, ixT0, ixT1, ixT2, ixT3, List.getElem?_cons_succ, List.getElem?_cons_zero, Int.cast_ofNat_Int, Nat.zero_add, Nat.reduceAdd, Int.reduceBEq, Int.natCast_one, ex_rput, sRo_f, kRput1_ok, kRput2_ok, kRput3_1, kRput3_2, kRput3_3, seen_ref0, ixL0, ixL1, ixL2, ixL3, Int.reduceLT, Int.reduceLE, decide_true, decide_false, isi_tupT, isi_intI, isi_intB, isi_intT, isi_intL, isi_intS, isi_tupL, lf_int, lf_intI, lf_lenT, lf_lenL, lf_tupL, op_addI, op_subI, kTup0, kTup1, kTup2, kTup3, kTup4, kTup5, kLst0, kLst1, kLst2, kLst3, kLst4, kLst5, beqf, List.length_cons, List.length_nil, reduceCtorEq, List.cons.injEq, Nat.reduceEqDiff, and_false, false_and, and_true, true_and, and_self, Bool.and_self, Bool.or_false, Bool.false_or, Bool.true_or, Bool.or_true, beq_self_eq_true, ne_eq, not_false_eq_true, hb, hi, hz, kDput2_ok hp, hh, hc, hP, lent_bl, qstep, iD]
  · intro hI
    rw [rngL_ints]
    have hc := cfold_iff w P ((List.range N).map fun k : Nat => (k : Int)) 0
    rw [Nat.zero_add, cnt_ints] at hc
    simp only [f_16, loopR, ev_var, ev_non, ev_bl, ev_int, ev_str, ev_glob, evO_e, evO_pk, ev_tup, ev_fr, kFrz_ok, ev_op, kOp1_ok, kOp2_ok, ev_cmp, kCmp1_ok, kCmp2_ok, ev_not, kNot_ok, ev_and, kAnd_bl, ev_or, kOr_bl, ev_ite, kIte_ok, kIteB_t, kIteB_f, ev_ix, kIx1_ok, kIx2_ok, ev_isi, kIsi_ok, ev_bi, kBi_ok, ev_call, kCall_ok, ev_callP, kCallP_ok, ev_meth, kMeth1_ins, kMeth2_ok, ev_make, kMake_ok, kIns_ok, ev_fld, kFld_ins, evs_nil, evs_cons, kCons1_ok, kCons2_ok, evOs_nil, evOs_cons, kConsO1_ok, evF_lst, evF_dct0, evF_bi, evF_comp, evI_seq, evI_rng, kSeq_tup, kSeq_lst, opt_some, exs_nil, exs_cons, kSeqS_next, kSeqS_ret, kSeqS_exc, ex_set, kSet_v, ex_setF, kSetF_ok, ex_ite, kIteS_ok, kIteSB_t, kIteSB_f, ex_ret, kRet_ok, ex_expr, kExpr_ok, ex_loop, kLoop_ok, ex_while, fin_ret, fin_next, fin_exc, seen_tup, seen_lst, seen_str, seen_int, seen_bl, seen_non, seen_dct, seen_ins, truth_bl, slot0, slotS, rdV_val, rdP_some, List.set_cons_zero, List.set_cons_succ, frz, Option.map_some, if_true, Bool.not_true, Bool.not_false, Bool.false_eq_true, if_false, ite_true, ite_false, es_dput, sDput_ok, es_dupd, sDupd_ok, es_app, sApp_ok, es_frz, sFrz_v, sFrz_l, sFrz_d, es_aug, sAug_ok, kAug_add, kDput1_ok, kApp_ok, ev_sl1, ev_slm, kSl_ok, ev_chain, kChain1_ok, kChain3_ok, evF_dcomp, evF_comp2, kSet2, kSet3, cmp_lt_int, cmp_le_int, cmp_gt_int, cmp_ge_int, ev_neg_int, cmp_in2, cmp_in2l, cmp_in3, cmp_eq_str, cmp_ne_str, cmp_eq_int, cmp_ne_int, ixT0, ixT1, ixT2, ixT3, List.getElem?_cons_succ, List.getElem?_cons_zero, Int.cast_ofNat_Int, Nat.zero_add, Nat.reduceAdd, Int.reduceBEq, Int.natCast_one, ex_rput, sRo_f, kRput1_ok, kRput2_ok, kRput3_1, kRput3_2, kRput3_3, seen_ref0, ixL0, ixL1, ixL2, ixL3, Int.reduceLT, Int.reduceLE, decide_true, decide_false, isi_tupT, isi_intI, isi_intB, isi_intT, isi_intL, isi_intS, isi_tupL, lf_int, lf_intI, lf_lenT, lf_lenL, lf_tupL, op_addI, op_subI, kTup0, kTup1, kTup2, kTup3, kTup4, kTup5, kLst0, kLst1, kLst2, kLst3, kLst4, kLst5, beqf, List.length_cons, List.length_nil, reduceCtorEq, List.cons.injEq, Nat.reduceEqDiff, and_false, false_and, and_true, true_and, and_self, Bool.and_self, Bool.or_false, Bool.false_or, Bool.true_or, Bool.or_true, beq_self_eq_true, ne_eq, not_false_eq_true, qstep_fst]
    show R.ok (D.bl (decide ((w : Int) ≤ ((cfold w P 0 _ : Nat) : Int)))) L = _
    rw [show decide ((w : Int) ≤ ((cfold w P 0 ((List.range N).map fun k : Nat => (k : Int)) : Nat) : Int)) = decide (w ≤ cnt N P) from decide_eq_decide.mpr (by rw [← hc]; omega)]
theorem told_some {n N : Nat} {ro : Bool} {sh rows known s : D} {L : List Cell} {x : Nat} {ks ws : List D} {P : Int → Bool} (hs : small N = true) (hk : ∀ k ∈ ks, ∃ s, k = .str s) (hl : ks.length < line) (hl2 : ∀ v, (putK (vD x) v ks ws).1.length < line)
    (h : ∀ t : Int, callN tab 1000 (n + 1) true 16 [.ins 6 [sh, .int N, rows, known], s, .dct (putK (vD x) (.int t) ks ws).1 (putK (vD x) (.int t) ks ws).2] L = .ok (.bl (P t)) L) :
    callN tab 1000 (n + 2) ro 16 [.ins 6 [sh, .int N, rows, known], .tup [.str [115, 111, 109, 101], vD x, s], .dct ks ws] L = .ok (.bl (decide (1 ≤ cnt N P))) L := by
  rw [call_succ (fn := f_16) rfl, run_eq (env := [vs (.ins 6 [sh, .int N, rows, known]), vs (.tup [.str [115, 111, 109, 101], vD x, s]), vs (.dct ks ws), none, none, none, none, none, none]) rfl]
  simp only [f_16, ev_var, ev_non, ev_bl, ev_int, ev_str, ev_glob, evO_e, evO_pk, ev_tup, ev_fr, kFrz_ok, ev_op, kOp1_ok, kOp2_ok, ev_cmp, kCmp1_ok, kCmp2_ok, ev_not, kNot_ok, ev_and, kAnd_bl, ev_or, kOr_bl, ev_ite, kIte_ok, kIteB_t, kIteB_f, ev_ix, kIx1_ok, kIx2_ok, ev_isi, kIsi_ok, ev_bi, kBi_ok, ev_call, kCall_ok, ev_callP, kCallP_ok, ev_meth, kMeth1_ins, kMeth2_ok, ev_make, kMake_ok, kIns_ok, ev_fld, kFld_ins, evs_nil, evs_cons, kCons1_ok, kCons2_ok, evOs_nil, evOs_cons, kConsO1_ok, evF_lst, evF_dct0, evF_bi, evF_comp, evI_seq, evI_rng, kSeq_tup, kSeq_lst, opt_some, exs_nil, exs_cons, kSeqS_next, kSeqS_ret, kSeqS_exc, ex_set, kSet_v, ex_setF, kSetF_ok, ex_ite, kIteS_ok, kIteSB_t, kIteSB_f, ex_ret, kRet_ok, ex_expr, kExpr_ok, ex_loop, kLoop_ok, ex_while, fin_ret, fin_next, fin_exc, seen_tup, seen_lst, seen_str, seen_int, seen_bl, seen_non, seen_dct, seen_ins, truth_bl, slot0, slotS, rdV_val, rdP_some, List.set_cons_zero, List.set_cons_succ, frz, Option.map_some, if_true, Bool.not_true, Bool.not_false, Bool.false_eq_true, if_false, ite_true, ite_false, es_dput, sDput_ok, es_dupd, sDupd_ok, es_app, sApp_ok, es_frz, sFrz_v, sFrz_l, sFrz_d, es_aug, sAug_ok, kAug_add, kDput1_ok, kApp_ok, ev_sl1, ev_slm, kSl_ok, ev_chain, kChain1_ok, kChain3_ok, evF_dcomp, evF_comp2, kSet2, kSet3, cmp_lt_int, cmp_le_int, cmp_gt_int, cmp_ge_int, ev_neg_int, cmp_in2, cmp_in2l, cmp_in3, cmp_eq_str, cmp_ne_str, cmp_eq_int, cmp_ne_int, ixT0, ixT1, ixT2, ixT3, List.getElem?_cons_succ, List.getElem?_cons_zero, Int.cast_ofNat_Int, Nat.zero_add, Nat.reduceAdd, Int.reduceBEq, Int.natCast_one, ex_rput, sRo_f, kRput1_ok, kRput2_ok, kRput3_1, kRput3_2, kRput3_3, seen_ref0, ixL0, ixL1, ixL2, ixL3, Int.reduceLT, Int.reduceLE, decide_true, decide_false, isi_tupT, isi_intI, isi_intB, isi_intT, isi_intL, isi_intS, isi_tupL, lf_int, lf_intI, lf_lenT, lf_lenL, lf_tupL, op_addI, op_subI, kTup0, kTup1, kTup2, kTup3, kTup4, kTup5, kLst0, kLst1, kLst2, kLst3, kLst4, kLst5, beqf, List.length_cons, List.length_nil, reduceCtorEq, List.cons.injEq, Nat.reduceEqDiff, and_false, false_and, and_true, true_and, and_self, Bool.and_self, Bool.or_false, Bool.false_or, Bool.true_or, Bool.or_true, beq_self_eq_true, ne_eq, not_false_eq_true, kBiF_dct hk, kRng1 hs]
  exact quant hk hl hl2 b14_some rfl rfl h
theorem told_all {n N : Nat} {ro : Bool} {sh rows known s : D} {L : List Cell} {x : Nat} {ks ws : List D} {P : Int → Bool} (hs : small N = true) (hk : ∀ k ∈ ks, ∃ s, k = .str s) (hl : ks.length < line) (hl2 : ∀ v, (putK (vD x) v ks ws).1.length < line)
    (h : ∀ t : Int, callN tab 1000 (n + 1) true 16 [.ins 6 [sh, .int N, rows, known], s, .dct (putK (vD x) (.int t) ks ws).1 (putK (vD x) (.int t) ks ws).2] L = .ok (.bl (P t)) L) :
    callN tab 1000 (n + 2) ro 16 [.ins 6 [sh, .int N, rows, known], .tup [.str [97, 108, 108], vD x, s], .dct ks ws] L = .ok (.bl (decide (N ≤ cnt N P))) L := by
  rw [call_succ (fn := f_16) rfl, run_eq (env := [vs (.ins 6 [sh, .int N, rows, known]), vs (.tup [.str [97, 108, 108], vD x, s]), vs (.dct ks ws), none, none, none, none, none, none]) rfl]
  simp only [f_16, ev_var, ev_non, ev_bl, ev_int, ev_str, ev_glob, evO_e, evO_pk, ev_tup, ev_fr, kFrz_ok, ev_op, kOp1_ok, kOp2_ok, ev_cmp, kCmp1_ok, kCmp2_ok, ev_not, kNot_ok, ev_and, kAnd_bl, ev_or, kOr_bl, ev_ite, kIte_ok, kIteB_t, kIteB_f, ev_ix, kIx1_ok, kIx2_ok, ev_isi, kIsi_ok, ev_bi, kBi_ok, ev_call, kCall_ok, ev_callP, kCallP_ok, ev_meth, kMeth1_ins, kMeth2_ok, ev_make, kMake_ok, kIns_ok, ev_fld, kFld_ins, evs_nil, evs_cons, kCons1_ok, kCons2_ok, evOs_nil, evOs_cons, kConsO1_ok, evF_lst, evF_dct0, evF_bi, evF_comp, evI_seq, evI_rng, kSeq_tup, kSeq_lst, opt_some, exs_nil, exs_cons, kSeqS_next, kSeqS_ret, kSeqS_exc, ex_set, kSet_v, ex_setF, kSetF_ok, ex_ite, kIteS_ok, kIteSB_t, kIteSB_f, ex_ret, kRet_ok, ex_expr, kExpr_ok, ex_loop, kLoop_ok, ex_while, fin_ret, fin_next, fin_exc, seen_tup, seen_lst, seen_str, seen_int, seen_bl, seen_non, seen_dct, seen_ins, truth_bl, slot0, slotS, rdV_val, rdP_some, List.set_cons_zero, List.set_cons_succ, frz, Option.map_some, if_true, Bool.not_true, Bool.not_false, Bool.false_eq_true, if_false, ite_true, ite_false, es_dput, sDput_ok, es_dupd, sDupd_ok, es_app, sApp_ok, es_frz, sFrz_v, sFrz_l, sFrz_d, es_aug, sAug_ok, kAug_add, kDput1_ok, kApp_ok, ev_sl1, ev_slm, kSl_ok, ev_chain, kChain1_ok, kChain3_ok, evF_dcomp, evF_comp2, kSet2, kSet3, cmp_lt_int, cmp_le_int, cmp_gt_int, cmp_ge_int, ev_neg_int, cmp_in2, cmp_in2l, cmp_in3, cmp_eq_str, cmp_ne_str, cmp_eq_int, cmp_ne_int, ixT0, ixT1, ixT2, ixT3, List.getElem?_cons_succ, List.getElem?_cons_zero, Int.cast_ofNat_Int, Nat.zero_add, Nat.reduceAdd, Int.reduceBEq, Int.natCast_one, ex_rput, sRo_f, kRput1_ok, kRput2_ok, kRput3_1, kRput3_2, kRput3_3, seen_ref0, ixL0, ixL1, ixL2, ixL3, Int.reduceLT, Int.reduceLE, decide_true, decide_false, isi_tupT, isi_intI, isi_intB, isi_intT, isi_intL, isi_intS, isi_tupL, lf_int, lf_intI, lf_lenT, lf_lenL, lf_tupL, op_addI, op_subI, kTup0, kTup1, kTup2, kTup3, kTup4, kTup5, kLst0, kLst1, kLst2, kLst3, kLst4, kLst5, beqf, List.length_cons, List.length_nil, reduceCtorEq, List.cons.injEq, Nat.reduceEqDiff, and_false, false_and, and_true, true_and, and_self, Bool.and_self, Bool.or_false, Bool.false_or, Bool.true_or, Bool.or_true, beq_self_eq_true, ne_eq, not_false_eq_true, kBiF_dct hk, kRng1 hs]
  exact quant hk hl hl2 b14_all rfl rfl h
theorem told_many {n N k : Nat} {ro : Bool} {sh rows known s : D} {L : List Cell} {x : Nat} {ks ws : List D} {P : Int → Bool} (hs : small N = true) (hk : ∀ k ∈ ks, ∃ s, k = .str s) (hl : ks.length < line) (hl2 : ∀ v, (putK (vD x) v ks ws).1.length < line)
    (h : ∀ t : Int, callN tab 1000 (n + 1) true 16 [.ins 6 [sh, .int N, rows, known], s, .dct (putK (vD x) (.int t) ks ws).1 (putK (vD x) (.int t) ks ws).2] L = .ok (.bl (P t)) L) :
    callN tab 1000 (n + 2) ro 16 [.ins 6 [sh, .int N, rows, known], .tup [.str [109, 97, 110, 121], .int k, vD x, s], .dct ks ws] L = .ok (.bl (decide (k ≤ cnt N P))) L := by
  rw [call_succ (fn := f_16) rfl, run_eq (env := [vs (.ins 6 [sh, .int N, rows, known]), vs (.tup [.str [109, 97, 110, 121], .int k, vD x, s]), vs (.dct ks ws), none, none, none, none, none, none]) rfl]
  simp only [f_16, ev_var, ev_non, ev_bl, ev_int, ev_str, ev_glob, evO_e, evO_pk, ev_tup, ev_fr, kFrz_ok, ev_op, kOp1_ok, kOp2_ok, ev_cmp, kCmp1_ok, kCmp2_ok, ev_not, kNot_ok, ev_and, kAnd_bl, ev_or, kOr_bl, ev_ite, kIte_ok, kIteB_t, kIteB_f, ev_ix, kIx1_ok, kIx2_ok, ev_isi, kIsi_ok, ev_bi, kBi_ok, ev_call, kCall_ok, ev_callP, kCallP_ok, ev_meth, kMeth1_ins, kMeth2_ok, ev_make, kMake_ok, kIns_ok, ev_fld, kFld_ins, evs_nil, evs_cons, kCons1_ok, kCons2_ok, evOs_nil, evOs_cons, kConsO1_ok, evF_lst, evF_dct0, evF_bi, evF_comp, evI_seq, evI_rng, kSeq_tup, kSeq_lst, opt_some, exs_nil, exs_cons, kSeqS_next, kSeqS_ret, kSeqS_exc, ex_set, kSet_v, ex_setF, kSetF_ok, ex_ite, kIteS_ok, kIteSB_t, kIteSB_f, ex_ret, kRet_ok, ex_expr, kExpr_ok, ex_loop, kLoop_ok, ex_while, fin_ret, fin_next, fin_exc, seen_tup, seen_lst, seen_str, seen_int, seen_bl, seen_non, seen_dct, seen_ins, truth_bl, slot0, slotS, rdV_val, rdP_some, List.set_cons_zero, List.set_cons_succ, frz, Option.map_some, if_true, Bool.not_true, Bool.not_false, Bool.false_eq_true, if_false, ite_true, ite_false, es_dput, sDput_ok, es_dupd, sDupd_ok, es_app, sApp_ok, es_frz, sFrz_v, sFrz_l, sFrz_d, es_aug, sAug_ok, kAug_add, kDput1_ok, kApp_ok, ev_sl1, ev_slm, kSl_ok, ev_chain, kChain1_ok, kChain3_ok, evF_dcomp, evF_comp2, kSet2, kSet3, cmp_lt_int, cmp_le_int, cmp_gt_int, cmp_ge_int, ev_neg_int, cmp_in2, cmp_in2l, cmp_in3, cmp_eq_str, cmp_ne_str, cmp_eq_int, cmp_ne_int, ixT0, ixT1, ixT2, ixT3, List.getElem?_cons_succ, List.getElem?_cons_zero, Int.cast_ofNat_Int, Nat.zero_add, Nat.reduceAdd, Int.reduceBEq, Int.natCast_one, ex_rput, sRo_f, kRput1_ok, kRput2_ok, kRput3_1, kRput3_2, kRput3_3, seen_ref0, ixL0, ixL1, ixL2, ixL3, Int.reduceLT, Int.reduceLE, decide_true, decide_false, isi_tupT, isi_intI, isi_intB, isi_intT, isi_intL, isi_intS, isi_tupL, lf_int, lf_intI, lf_lenT, lf_lenL, lf_tupL, op_addI, op_subI, kTup0, kTup1, kTup2, kTup3, kTup4, kTup5, kLst0, kLst1, kLst2, kLst3, kLst4, kLst5, beqf, List.length_cons, List.length_nil, reduceCtorEq, List.cons.injEq, Nat.reduceEqDiff, and_false, false_and, and_true, true_and, and_self, Bool.and_self, Bool.or_false, Bool.false_or, Bool.true_or, Bool.or_true, beq_self_eq_true, ne_eq, not_false_eq_true, kBiF_dct hk, kRng1 hs]
  exact quant hk hl hl2 b14_many rfl rfl h
theorem told_ok {rels : List (Txt × Nat)} {N : Nat} {W : D} {R : Txt → List Int → Bool} (hs : small N = true) (hW : WOk rels W N R) (hr : ∀ r ∈ rels, r.2 ≤ 3) {Γ : List Nat} {d : Nat} {s : Sn} (h : Wf rels Γ d s) :
    ∀ {n : Nat} {ro : Bool} {ks ws : List D} {ρ : Nat → Int} {L : List Cell}, EnvOk ks ws ρ Γ → ks.length + d ≤ 1000 → callN tab 1000 (n + d + 3) ro 16 [W, s.toD, .dct ks ws] L = .ok (.bl (sat R N s ρ)) L := by
  obtain ⟨sh, rows, known, rfl⟩ := hW.ins
  have q : ∀ {x d : Nat} {ks ws : List D}, ks.length + (d + 1) ≤ 1000 → ks.length < line ∧ (∀ v, (putK (vD x) v ks ws).1.length < line) ∧ ∀ v, (putK (vD x) v ks ws).1.length + d ≤ 1000 := by
    intro x d ks ws h
    refine ⟨by unfold line; omega, fun v => ?_, fun v => ?_⟩ <;> have := putK_len (k := vD x) (v := v) (ks := ks) (vs := ws) <;> first | omega | (unfold line; omega)
  induction h with
  | yes => intros; exact told_yes
  | same h1 h2 => intro n ro ks ws ρ L he hd; exact told_same (V := .dct ks ws) (he.ix h1) (he.ix h2) rfl
  | rel h1 h2 =>
    intro n ro ks ws ρ L he hd
    have := hr _ h1
    refine told_rel he h2 (by unfold line; simp at this; omega) ?_
    exact hW.holds (by simpa using h1)
  | not _ ih => intro n ro ks ws ρ L he hd; exact told_not (ih he (by omega))
  | and _ _ i1 i2 => intro n ro ks ws ρ L he hd; exact told_and (i1 he (by omega)) (i2 he (by omega))
  | or _ _ i1 i2 => intro n ro ks ws ρ L he hd; exact told_or (i1 he (by omega)) (i2 he (by omega))
  | some hx _ ih => intro n ro ks ws ρ L he hd; exact told_some hs he.str (q (x := 0) (ws := ws) hd).1 (q (ws := ws) hd).2.1 fun t => ih he.put ((q (ws := ws) hd).2.2 _)
  | all hx _ ih => intro n ro ks ws ρ L he hd; exact told_all hs he.str (q (x := 0) (ws := ws) hd).1 (q (ws := ws) hd).2.1 fun t => ih he.put ((q (ws := ws) hd).2.2 _)
  | many hk hx _ ih => intro n ro ks ws ρ L he hd; exact told_many hs he.str (q (x := 0) (ws := ws) hd).1 (q (ws := ws) hd).2.1 fun t => ih he.put ((q (ws := ws) hd).2.2 _)
end k73s

set_option linter.all false
set_option maxRecDepth 100000
namespace k73s
open Wa
open k73 (tab lawNo f_1 f_2 f_3 f_4 f_5 f_6 f_7 f_8 f_9 f_10 f_11 f_12 f_13 f_14 f_15 f_16 f_17 f_18 f_19 f_20 f_21 f_22 f_23 f_24 f_25 f_26 f_27 f_28 f_29 f_30 f_31 f_32)
theorem hold_yes {n : Nat} {ro : Bool} {W V : D} {L : List Cell} : callN tab 1000 (n + 1) ro 27 [W, .tup [.str [121, 101, 115]], V] L = .ok (.bl true) L := by kernel_rfl
theorem hold_not {n : Nat} {ro : Bool} {W s V : D} {L : List Cell} {b : Bool} (h : callN tab 1000 n ro 27 [W, s, V] L = .ok (.bl b) L) :
    callN tab 1000 (n + 1) ro 27 [W, .tup [.str [110, 111, 116], s], V] L = .ok (.bl (!b)) L := by
  rw [call_succ (fn := f_27) rfl, run_eq (env := [vs W, vs (.tup [.str [110, 111, 116], s]), vs V, none, none, none, none, none]) rfl]
  simp only [f_27, ev_var, ev_non, ev_bl, ev_int, ev_str, ev_glob, evO_e, evO_pk, ev_tup, ev_fr, kFrz_ok, ev_op, kOp1_ok, kOp2_ok, ev_cmp, kCmp1_ok, kCmp2_ok, ev_not, kNot_ok, ev_and, kAnd_bl, ev_or, kOr_bl, ev_ite, kIte_ok, kIteB_t, kIteB_f, ev_ix, kIx1_ok, kIx2_ok, ev_isi, kIsi_ok, ev_bi, kBi_ok, ev_call, kCall_ok, ev_callP, kCallP_ok, ev_meth, kMeth1_ins, kMeth2_ok, ev_make, kMake_ok, kIns_ok, ev_fld, kFld_ins, evs_nil, evs_cons, kCons1_ok, kCons2_ok, evOs_nil, evOs_cons, kConsO1_ok, evF_lst, evF_dct0, evF_bi, evF_comp, evI_seq, evI_rng, kSeq_tup, kSeq_lst, opt_some, exs_nil, exs_cons, kSeqS_next, kSeqS_ret, kSeqS_exc, ex_set, kSet_v, ex_setF, kSetF_ok, ex_ite, kIteS_ok, kIteSB_t, kIteSB_f, ex_ret, kRet_ok, ex_expr, kExpr_ok, ex_loop, kLoop_ok, ex_while, fin_ret, fin_next, fin_exc, seen_tup, seen_lst, seen_str, seen_int, seen_bl, seen_non, seen_dct, seen_ins, truth_bl, slot0, slotS, rdV_val, rdP_some, List.set_cons_zero, List.set_cons_succ, frz, Option.map_some, if_true, Bool.not_true, Bool.not_false, Bool.false_eq_true, if_false, ite_true, ite_false, h, es_dput, sDput_ok, es_dupd, sDupd_ok, es_app, sApp_ok, es_frz, sFrz_v, sFrz_l, sFrz_d, es_aug, sAug_ok, kAug_add, kDput1_ok, kApp_ok, ev_sl1, ev_slm, kSl_ok, ev_chain, kChain1_ok, kChain3_ok, evF_dcomp, evF_comp2, kSet2, kSet3, cmp_lt_int, cmp_le_int, cmp_gt_int, cmp_ge_int, ev_neg_int, cmp_in2, cmp_in2l, cmp_in3, cmp_eq_str, cmp_ne_str, cmp_eq_int, cmp_ne_int, ixT0, ixT1, ixT2, ixT3, List.getElem?_cons_succ, List.getElem?_cons_zero, Int.cast_ofNat_Int, Nat.zero_add, Nat.reduceAdd, Int.reduceBEq, Int.natCast_one, ex_rput, sRo_f, kRput1_ok, kRput2_ok, kRput3_1, kRput3_2, kRput3_3, seen_ref0, ixL0, ixL1, ixL2, ixL3, Int.reduceLT, Int.reduceLE, decide_true, decide_false, isi_tupT, isi_intI, isi_intB, isi_intT, isi_intL, isi_intS, isi_tupL, lf_int, lf_intI, lf_lenT, lf_lenL, lf_tupL, op_addI, op_subI, kTup0, kTup1, kTup2, kTup3, kTup4, kTup5, kLst0, kLst1, kLst2, kLst3, kLst4, kLst5, beqf, List.length_cons, List.length_nil, reduceCtorEq, List.cons.injEq, Nat.reduceEqDiff, and_false, false_and, and_true, true_and, and_self, Bool.and_self, Bool.or_false, Bool.false_or, Bool.true_or, Bool.or_true, beq_self_eq_true, ne_eq, not_false_eq_true]
theorem hold_and {n : Nat} {ro : Bool} {W s t V : D} {L : List Cell} {b c : Bool} (h : callN tab 1000 n ro 27 [W, s, V] L = .ok (.bl b) L) (h2 : callN tab 1000 n ro 27 [W, t, V] L = .ok (.bl c) L) :
    callN tab 1000 (n + 1) ro 27 [W, .tup [.str [97, 110, 100], s, t], V] L = .ok (.bl (b && c)) L := by
  rw [call_succ (fn := f_27) rfl, run_eq (env := [vs W, vs (.tup [.str [97, 110, 100], s, t]), vs V, none, none, none, none, none]) rfl]
  cases b <;> simp only [f_27, ev_var, ev_non, ev_bl, ev_int, ev_str, ev_glob, evO_e, evO_pk, ev_tup, ev_fr, kFrz_ok, ev_op, kOp1_ok, kOp2_ok, ev_cmp, kCmp1_ok, kCmp2_ok, ev_not, kNot_ok, ev_and, kAnd_bl, ev_or, kOr_bl, ev_ite, kIte_ok, kIteB_t, kIteB_f, ev_ix, kIx1_ok, kIx2_ok, ev_isi, kIsi_ok, ev_bi, kBi_ok, ev_call, kCall_ok, ev_callP, kCallP_ok, ev_meth, kMeth1_ins, kMeth2_ok, ev_make, kMake_ok, kIns_ok, ev_fld, kFld_ins, evs_nil, evs_cons, kCons1_ok, kCons2_ok, evOs_nil, evOs_cons, kConsO1_ok, evF_lst, evF_dct0, evF_bi, evF_comp, evI_seq, evI_rng, kSeq_tup, kSeq_lst, opt_some, exs_nil, exs_cons, kSeqS_next, kSeqS_ret, kSeqS_exc, ex_set, kSet_v, ex_setF, kSetF_ok, ex_ite, kIteS_ok, kIteSB_t, kIteSB_f, ex_ret, kRet_ok, ex_expr, kExpr_ok, ex_loop, kLoop_ok, ex_while, fin_ret, fin_next, fin_exc, seen_tup, seen_lst, seen_str, seen_int, seen_bl, seen_non, seen_dct, seen_ins, truth_bl, slot0, slotS, rdV_val, rdP_some, List.set_cons_zero, List.set_cons_succ, frz, Option.map_some, if_true, Bool.not_true, Bool.not_false, Bool.false_eq_true, if_false, ite_true, ite_false, h, h2, es_dput, sDput_ok, es_dupd, sDupd_ok, es_app, sApp_ok, es_frz, sFrz_v, sFrz_l, sFrz_d, es_aug, sAug_ok, kAug_add, kDput1_ok, kApp_ok, ev_sl1, ev_slm, kSl_ok, ev_chain, kChain1_ok, kChain3_ok, evF_dcomp, evF_comp2, kSet2, kSet3, cmp_lt_int, cmp_le_int, cmp_gt_int, cmp_ge_int, ev_neg_int, cmp_in2, cmp_in2l, cmp_in3, cmp_eq_str, cmp_ne_str, cmp_eq_int, cmp_ne_int, ixT0, ixT1, ixT2, ixT3, List.getElem?_cons_succ, List.getElem?_cons_zero, Int.cast_ofNat_Int, Nat.zero_add, Nat.reduceAdd, Int.reduceBEq, Int.natCast_one, ex_rput, sRo_f, kRput1_ok, kRput2_ok, kRput3_1, kRput3_2, kRput3_3, seen_ref0, ixL0, ixL1, ixL2, ixL3, Int.reduceLT, Int.reduceLE, decide_true, decide_false, isi_tupT, isi_intI, isi_intB, isi_intT, isi_intL, isi_intS, isi_tupL, lf_int, lf_intI, lf_lenT, lf_lenL, lf_tupL, op_addI, op_subI, kTup0, kTup1, kTup2, kTup3, kTup4, kTup5, kLst0, kLst1, kLst2, kLst3, kLst4, kLst5, beqf, List.length_cons, List.length_nil, reduceCtorEq, List.cons.injEq, Nat.reduceEqDiff, and_false, false_and, and_true, true_and, and_self, Bool.and_self, Bool.or_false, Bool.false_or, Bool.true_or, Bool.or_true, beq_self_eq_true, ne_eq, not_false_eq_true, Bool.false_and, Bool.true_and]
theorem hold_or {n : Nat} {ro : Bool} {W s t V : D} {L : List Cell} {b c : Bool} (h : callN tab 1000 n ro 27 [W, s, V] L = .ok (.bl b) L) (h2 : callN tab 1000 n ro 27 [W, t, V] L = .ok (.bl c) L) :
    callN tab 1000 (n + 1) ro 27 [W, .tup [.str [111, 114], s, t], V] L = .ok (.bl (b || c)) L := by
  rw [call_succ (fn := f_27) rfl, run_eq (env := [vs W, vs (.tup [.str [111, 114], s, t]), vs V, none, none, none, none, none]) rfl]
  cases b <;> simp only [f_27, ev_var, ev_non, ev_bl, ev_int, ev_str, ev_glob, evO_e, evO_pk, ev_tup, ev_fr, kFrz_ok, ev_op, kOp1_ok, kOp2_ok, ev_cmp, kCmp1_ok, kCmp2_ok, ev_not, kNot_ok, ev_and, kAnd_bl, ev_or, kOr_bl, ev_ite, kIte_ok, kIteB_t, kIteB_f, ev_ix, kIx1_ok, kIx2_ok, ev_isi, kIsi_ok, ev_bi, kBi_ok, ev_call, kCall_ok, ev_callP, kCallP_ok, ev_meth, kMeth1_ins, kMeth2_ok, ev_make, kMake_ok, kIns_ok, ev_fld, kFld_ins, evs_nil, evs_cons, kCons1_ok, kCons2_ok, evOs_nil, evOs_cons, kConsO1_ok, evF_lst, evF_dct0, evF_bi, evF_comp, evI_seq, evI_rng, kSeq_tup, kSeq_lst, opt_some, exs_nil, exs_cons, kSeqS_next, kSeqS_ret, kSeqS_exc, ex_set, kSet_v, ex_setF, kSetF_ok, ex_ite, kIteS_ok, kIteSB_t, kIteSB_f, ex_ret, kRet_ok, ex_expr, kExpr_ok, ex_loop, kLoop_ok, ex_while, fin_ret, fin_next, fin_exc, seen_tup, seen_lst, seen_str, seen_int, seen_bl, seen_non, seen_dct, seen_ins, truth_bl, slot0, slotS, rdV_val, rdP_some, List.set_cons_zero, List.set_cons_succ, frz, Option.map_some, if_true, Bool.not_true, Bool.not_false, Bool.false_eq_true, if_false, ite_true, ite_false, h, h2, es_dput, sDput_ok, es_dupd, sDupd_ok, es_app, sApp_ok, es_frz, sFrz_v, sFrz_l, sFrz_d, es_aug, sAug_ok, kAug_add, kDput1_ok, kApp_ok, ev_sl1, ev_slm, kSl_ok, ev_chain, kChain1_ok, kChain3_ok, evF_dcomp, evF_comp2, kSet2, kSet3, cmp_lt_int, cmp_le_int, cmp_gt_int, cmp_ge_int, ev_neg_int, cmp_in2, cmp_in2l, cmp_in3, cmp_eq_str, cmp_ne_str, cmp_eq_int, cmp_ne_int, ixT0, ixT1, ixT2, ixT3, List.getElem?_cons_succ, List.getElem?_cons_zero, Int.cast_ofNat_Int, Nat.zero_add, Nat.reduceAdd, Int.reduceBEq, Int.natCast_one, ex_rput, sRo_f, kRput1_ok, kRput2_ok, kRput3_1, kRput3_2, kRput3_3, seen_ref0, ixL0, ixL1, ixL2, ixL3, Int.reduceLT, Int.reduceLE, decide_true, decide_false, isi_tupT, isi_intI, isi_intB, isi_intT, isi_intL, isi_intS, isi_tupL, lf_int, lf_intI, lf_lenT, lf_lenL, lf_tupL, op_addI, op_subI, kTup0, kTup1, kTup2, kTup3, kTup4, kTup5, kLst0, kLst1, kLst2, kLst3, kLst4, kLst5, beqf, List.length_cons, List.length_nil, reduceCtorEq, List.cons.injEq, Nat.reduceEqDiff, and_false, false_and, and_true, true_and, and_self, Bool.and_self, Bool.or_false, Bool.false_or, Bool.true_or, Bool.or_true, beq_self_eq_true, ne_eq, not_false_eq_true]
theorem hold_same {n : Nat} {ro : Bool} {W V a b : D} {L : List Cell} {i j : Int} (h : ixD V a = some (.int i)) (h2 : ixD V b = some (.int j)) (hs : seen V L = V) :
    callN tab 1000 (n + 1) ro 27 [W, .tup [.str [115, 97, 109, 101], a, b], V] L = .ok (.bl (i == j)) L := by
  rw [call_succ (fn := f_27) rfl, run_eq (env := [vs W, vs (.tup [.str [115, 97, 109, 101], a, b]), vs V, none, none, none, none, none]) rfl]
  simp only [f_27, ev_var, ev_non, ev_bl, ev_int, ev_str, ev_glob, evO_e, evO_pk, ev_tup, ev_fr, kFrz_ok, ev_op, kOp1_ok, kOp2_ok, ev_cmp, kCmp1_ok, kCmp2_ok, ev_not, kNot_ok, ev_and, kAnd_bl, ev_or, kOr_bl, ev_ite, kIte_ok, kIteB_t, kIteB_f, ev_ix, kIx1_ok, kIx2_ok, ev_isi, kIsi_ok, ev_bi, kBi_ok, ev_call, kCall_ok, ev_callP, kCallP_ok, ev_meth, kMeth1_ins, kMeth2_ok, ev_make, kMake_ok, kIns_ok, ev_fld, kFld_ins, evs_nil, evs_cons, kCons1_ok, kCons2_ok, evOs_nil, evOs_cons, kConsO1_ok, evF_lst, evF_dct0, evF_bi, evF_comp, evI_seq, evI_rng, kSeq_tup, kSeq_lst, opt_some, exs_nil, exs_cons, kSeqS_next, kSeqS_ret, kSeqS_exc, ex_set, kSet_v, ex_setF, kSetF_ok, ex_ite, kIteS_ok, kIteSB_t, kIteSB_f, ex_ret, kRet_ok, ex_expr, kExpr_ok, ex_loop, kLoop_ok, ex_while, fin_ret, fin_next, fin_exc, seen_tup, seen_lst, seen_str, seen_int, seen_bl, seen_non, seen_dct, seen_ins, truth_bl, slot0, slotS, rdV_val, rdP_some, List.set_cons_zero, List.set_cons_succ, frz, Option.map_some, if_true, Bool.not_true, Bool.not_false, Bool.false_eq_true, if_false, ite_true, ite_false, h, h2, hs, es_dput, sDput_ok, es_dupd, sDupd_ok, es_app, sApp_ok, es_frz, sFrz_v, sFrz_l, sFrz_d, es_aug, sAug_ok, kAug_add, kDput1_ok, kApp_ok, ev_sl1, ev_slm, kSl_ok, ev_chain, kChain1_ok, kChain3_ok, evF_dcomp, evF_comp2, kSet2, kSet3, cmp_lt_int, cmp_le_int, cmp_gt_int, cmp_ge_int, ev_neg_int, cmp_in2, cmp_in2l, cmp_in3, cmp_eq_str, cmp_ne_str, cmp_eq_int, cmp_ne_int, ixT0, ixT1, ixT2, ixT3, List.getElem?_cons_succ, List.getElem?_cons_zero, Int.cast_ofNat_Int, Nat.zero_add, Nat.reduceAdd, Int.reduceBEq, Int.natCast_one, ex_rput, sRo_f, kRput1_ok, kRput2_ok, kRput3_1, kRput3_2, kRput3_3, seen_ref0, ixL0, ixL1, ixL2, ixL3, Int.reduceLT, Int.reduceLE, decide_true, decide_false, isi_tupT, isi_intI, isi_intB, isi_intT, isi_intL, isi_intS, isi_tupL, lf_int, lf_intI, lf_lenT, lf_lenL, lf_tupL, op_addI, op_subI, kTup0, kTup1, kTup2, kTup3, kTup4, kTup5, kLst0, kLst1, kLst2, kLst3, kLst4, kLst5, beqf, List.length_cons, List.length_nil, reduceCtorEq, List.cons.injEq, Nat.reduceEqDiff, and_false, false_and, and_true, true_and, and_self, Bool.and_self, Bool.or_false, Bool.false_or, Bool.true_or, Bool.or_true, beq_self_eq_true, ne_eq, not_false_eq_true]
theorem hold_rel {n : Nat} {ro : Bool} {K1 : D} {L : List Cell} {N : Int} {r : Txt} {xs : List Nat} {ks ws rw' : List D} {ρ : Nat → Int} {Γ : List Nat} {b : Bool} (he : EnvOk ks ws ρ Γ) (hx : ∀ x ∈ xs, x ∈ Γ) (hl : xs.length ≤ line)
    (hK : seen K1 L = K1) (h : ixD K1 (.str r) = some (.tup rw')) (h2 : cmpD .isin (.tup ((xs.map ρ).map iD)) (.tup rw') = some b) :
    callN tab 1000 (n + 1) ro 27 [.tup [.int N, K1], .tup [.str [114, 101, 108], .str r, .tup (xs.map vD)], .dct ks ws] L = .ok (.bl b) L := by
  rw [call_succ (fn := f_27) rfl, run_eq (env := [vs (.tup [.int N, K1]), vs (.tup [.str [114, 101, 108], .str r, .tup (xs.map vD)]), vs (.dct ks ws), none, none, none, none, none]) rfl]
  have hc : ∀ w : Option S, kComp ⟨callN tab 1000 n, initP tab 1000 n, ro, 1000⟩ [5] (.ix (.e (.var 2)) (.var 5)) (.v 5) .none [vs (.tup [.int N, K1]), vs (.tup [.str [114, 101, 108], .str r, .tup (xs.map vD)]), vs (.dct ks ws), w, none, none, none, none] (.ok (xs.map vD) L) = .ok (.olst (xs.map fun x => iD (ρ x))) L := fun w => comp_ix he hx hl fun d => rfl
  have hm : (xs.map fun x => iD (ρ x)) = (xs.map ρ).map iD := by rw [List.map_map]; rfl
  simp only [f_27, ev_var, ev_non, ev_bl, ev_int, ev_str, ev_glob, evO_e, evO_pk, ev_tup, ev_fr, kFrz_ok, ev_op, kOp1_ok, kOp2_ok, ev_cmp, kCmp1_ok, kCmp2_ok, ev_not, kNot_ok, ev_and, kAnd_bl, ev_or, kOr_bl, ev_ite, kIte_ok, kIteB_t, kIteB_f, ev_ix, kIx1_ok, kIx2_ok, ev_isi, kIsi_ok, ev_bi, kBi_ok, ev_call, kCall_ok, ev_callP, kCallP_ok, ev_meth, kMeth1_ins, kMeth2_ok, ev_make, kMake_ok, kIns_ok, ev_fld, kFld_ins, evs_nil, evs_cons, kCons1_ok, kCons2_ok, evOs_nil, evOs_cons, kConsO1_ok, evF_lst, evF_dct0, evF_bi, evF_comp, evI_seq, evI_rng, kSeq_tup, kSeq_lst, opt_some, exs_nil, exs_cons, kSeqS_next, kSeqS_ret, kSeqS_exc, ex_set, kSet_v, ex_setF, kSetF_ok, ex_ite, kIteS_ok, kIteSB_t, kIteSB_f, ex_ret, kRet_ok, ex_expr, kExpr_ok, ex_loop, kLoop_ok, ex_while, fin_ret, fin_next, fin_exc, seen_tup, seen_lst, seen_str, seen_int, seen_bl, seen_non, seen_dct, seen_ins, truth_bl, slot0, slotS, rdV_val, rdP_some, List.set_cons_zero, List.set_cons_succ, frz, Option.map_some, if_true, Bool.not_true, Bool.not_false, Bool.false_eq_true, if_false, ite_true, ite_false, es_dput, sDput_ok, es_dupd, sDupd_ok, es_app, sApp_ok, es_frz, sFrz_v, sFrz_l, sFrz_d, es_aug, sAug_ok, kAug_add, kDput1_ok, kApp_ok, ev_sl1, ev_slm, kSl_ok, ev_chain, kChain1_ok, kChain3_ok, evF_dcomp, evF_comp2, kSet2, kSet3, cmp_lt_int, cmp_le_int, cmp_gt_int, cmp_ge_int, ev_neg_int, cmp_in2, cmp_in2l, cmp_in3, cmp_eq_str, cmp_ne_str, cmp_eq_int, cmp_ne_int, ixT0, ixT1, ixT2, ixT3, List.getElem?_cons_succ, List.getElem?_cons_zero, Int.cast_ofNat_Int, Nat.zero_add, Nat.reduceAdd, Int.reduceBEq, Int.natCast_one, ex_rput, sRo_f, kRput1_ok, kRput2_ok, kRput3_1, kRput3_2, kRput3_3, seen_ref0, ixL0, ixL1, ixL2, ixL3, Int.reduceLT, Int.reduceLE, decide_true, decide_false, isi_tupT, isi_intI, isi_intB, isi_intT, isi_intL, isi_intS, isi_tupL, lf_int, lf_intI, lf_lenT, lf_lenL, lf_tupL, op_addI, op_subI, kTup0, kTup1, kTup2, kTup3, kTup4, kTup5, kLst0, kLst1, kLst2, kLst3, kLst4, kLst5, beqf, List.length_cons, List.length_nil, reduceCtorEq, List.cons.injEq, Nat.reduceEqDiff, and_false, false_and, and_true, true_and, and_self, Bool.and_self, Bool.or_false, Bool.false_or, Bool.true_or, Bool.or_true, beq_self_eq_true, ne_eq, not_false_eq_true, hc, hm, h, h2, hK]
abbrev Q2 := Nat × Option S × Option S
def qstep2 (x : Nat) (P : Int → Bool) (ks ws : List D) (a : Q2) (d : D) : Q2 :=
  match d with
  | .int t => (if P t then a.1 + 1 else a.1, vs (.int t), vs (.dct (putK (vD x) (.int t) ks ws).1 (putK (vD x) (.int t) ks ws).2))
  | _ => a
theorem qstep2_fst (x : Nat) (P : Int → Bool) (ks ws : List D) : ∀ (ts : List Int) (a : Q2), ((ts.map iD).foldl (qstep2 x P ks ws) a).1 = a.1 + ts.countP P
  | [], a => rfl
  | t :: ts, a => by
    show ((ts.map iD).foldl (qstep2 x P ks ws) (qstep2 x P ks ws a (iD t))).1 = _
    rw [qstep2_fst x P ks ws ts]
    cases h : P t with
    | true => rw [List.countP_cons_of_pos h]; simp [qstep2, iD, h]; omega
    | false => rw [List.countP_cons_of_neg (by simp [h])]; simp [qstep2, iD, h]
theorem kBi_int {b : Bool} {L : List Cell} : kBi .int (.ok [.bl b] L) = .ok (.int (if b then 1 else 0)) L := by cases b <;> rfl
theorem quant2 {n N : Nat} {ro : Bool} {K1 s word : D} {S1 : List D} {L : List Cell} {x : Nat} {ks ws : List D} {P : Int → Bool} {r : R D} (hk : ∀ k ∈ ks, ∃ s, k = .str s) (hl : ks.length < line)
    (hi : ixD (.tup S1) (.int ((S1.length : Int) - 1)) = some s)
    (h : ∀ t : Int, callN tab 1000 n ro 27 [.tup [.int N, K1], s, .dct (putK (vD x) (.int t) ks ws).1 (putK (vD x) (.int t) ks ws).2] L = .ok (.bl (P t)) L)
    (h2 : ∀ x6 x7, finR (exs ⟨callN tab 1000 n, initP tab 1000 n, ro, 1000⟩ (loopR f_27.body) [vs (.tup [.int N, K1]), vs (.tup S1), vs (.dct ks ws), vs word, vs (.int (cnt N P)), vs (vD x), x6, x7] L) = r) :
    finR (kSeqS ⟨callN tab 1000 n, initP tab 1000 n, ro, 1000⟩ (loopR f_27.body) (loopS (.v 6) (bodyF ⟨callN tab 1000 n, initP tab 1000 n, ro, 1000⟩ (loopB f_27.body)) (rngL 0 ((N : Int)).toNat) [vs (.tup [.int N, K1]), vs (.tup S1), vs (.dct ks ws), vs word, vs (.int ((0 : Nat) : Int)), vs (vD x), none, none] L)) = r := by
  refine fin_loop (E := fun a : Q2 => [vs (.tup [.int N, K1]), vs (.tup S1), vs (.dct ks ws), vs word, vs (.int a.1), vs (vD x), a.2.1, a.2.2])
    (step := qstep2 x P ks ws) (I := fun a => True) (a0 := (0, none, none)) rfl trivial ?_ ?_
  · intro d hd a _
    obtain ⟨t, ht, rfl⟩ := List.mem_map.mp (rngL_ints N ▸ hd)
    refine ⟨trivial, _, rfl, ?_⟩
    show exs _ _ [vs (.tup [.int N, K1]), vs (.tup S1), vs (.dct ks ws), vs word, vs (.int a.1), vs (vD x), vs (.int t), a.2.2] L = _
    have hp := putC_env hk hl (vs := ws) (x := x) (v := .int t)
    have hh := h t
    cases hP : P t <;> simp [f_27, loopB, ev_var, ev_non, ev_bl, ev_int, ev_str, ev_glob, evO_e, evO_pk, ev_tup, ev_fr, kFrz_ok, ev_op, kOp1_ok, kOp2_ok, ev_cmp, kCmp1_ok, kCmp2_ok, ev_not, kNot_ok, ev_and, kAnd_bl, ev_or, kOr_bl, ev_ite, kIte_ok, kIteB_t, kIteB_f, ev_ix, kIx1_ok, kIx2_ok, ev_isi, kIsi_ok, ev_bi, kBi_ok, ev_call, kCall_ok, ev_callP, kCallP_ok, ev_meth, kMeth1_ins, kMeth2_ok, ev_make, kMake_ok, kIns_ok, ev_fld, kFld_ins, evs_nil, evs_cons, kCons1_ok, kCons2_ok, evOs_nil, evOs_cons, kConsO1_ok, evF_lst, evF_dct0, evF_bi, evF_comp, evI_seq, evI_rng, kSeq_tup, kSeq_lst, opt_some, exs_nil, exs_cons, kSeqS_next, kSeqS_ret, kSeqS_exc, ex_set, kSet_v, ex_setF, kSetF_ok, ex_ite, kIteS_ok, kIteSB_t, kIteSB_f, ex_ret, kRet_ok, ex_expr, kExpr_ok, ex_loop, kLoop_ok, ex_while, fin_ret, fin_next, fin_exc, seen_tup, seen_lst, seen_str, seen_int, seen_bl, seen_non, seen_dct, seen_ins, truth_bl, slot0, slotS, rdV_val, rdP_some, List.set_cons_zero, List.set_cons_succ, frz, Option.map_some, if_true, Bool.not_true, Bool.not_false, Bool.false_eq_true, if_false, ite_true, ite_false, es_dput, sDput_ok, es_dupd, sDupd_ok, es_app, sApp_ok, es_frz, sFrz_v, sFrz_l, sFrz_d, es_aug, sAug_ok, kAug_add, kDput1_ok, kApp_ok, ev_sl1, ev_slm, kSl_ok, ev_chain, kChain1_ok, kChain3_ok, evF_dcomp, evF_comp2, kSet2, kSet3, cmp_lt_int, cmp_le_int, cmp_gt_int, cmp_ge_int, ev_neg_int, cmp_in2, cmp_in2l, cmp_in3, cmp_eq_str, cmp_ne_str, cmp_eq_int, cmp_ne_int, ixT0, ixT1, ixT2, ixT3, List.getElem?_cons_succ, List.getElem?_cons_zero, Int.cast_ofNat_Int, Nat.zero_add, Nat.reduceAdd, Int.reduceBEq, Int.natCast_one, ex_rput, sRo_f, kRput1_ok, kRput2_ok, kRput3_1, kRput3_2, kRput3_3, seen_ref0, ixL0, ixL1, ixL2, ixL3, Int.reduceLT, Int.reduceLE, decide_true, decide_false, isi_tupT, isi_intI, isi_intB, isi_intT, isi_intL, isi_intS, isi_tupL, lf_int, lf_intI, lf_lenT, lf_lenL, lf_tupL, op_addI, op_subI, kTup0, kTup1, kTup2, kTup3, kTup4, kTup5, kLst0, kLst1, kLst2, kLst3, kLst4, kLst5, beqf, List.length_cons, List.length_nil, reduceCtorEq, List.cons.injEq, Nat.reduceEqDiff, and_false, false_and, and_true, true_and, and_self, Bool.and_self, Bool.or_false, Bool.false_or, Bool.true_or, Bool.or_true, beq_self_eq_true, ne_eq, not_false_eq_true, hi, kBiF_dct hk, kDput2_ok hp, hh, hP, qstep2, iD]
  · intro _
    have := h2 (((rngL 0 ((N : Int)).toNat).foldl (qstep2 x P ks ws) (0, none, none)).2.1) (((rngL 0 ((N : Int)).toNat).foldl (qstep2 x P ks ws) (0, none, none)).2.2)
    rw [← this]
    have e : ((rngL 0 ((N : Int)).toNat).foldl (qstep2 x P ks ws) (0, none, none)).1 = cnt N P := by
      rw [rngL_ints, qstep2_fst, cnt_ints]; simp
    rw [← e]
theorem cnt_le (N : Nat) (P : Int → Bool) : cnt N P ≤ N := by
  have := List.countP_le_length (p := fun t : Nat => P (t : Nat)) (l := List.range N)
  simpa [cnt] using this
theorem hold_some {n N : Nat} {ro : Bool} {K1 s : D} {L : List Cell} {x : Nat} {ks ws : List D} {P : Int → Bool} (hs : small N = true) (hk : ∀ k ∈ ks, ∃ s, k = .str s) (hl : ks.length < line)
    (h : ∀ t : Int, callN tab 1000 n ro 27 [.tup [.int N, K1], s, .dct (putK (vD x) (.int t) ks ws).1 (putK (vD x) (.int t) ks ws).2] L = .ok (.bl (P t)) L) :
    callN tab 1000 (n + 1) ro 27 [.tup [.int N, K1], .tup [.str [115, 111, 109, 101], vD x, s], .dct ks ws] L = .ok (.bl (decide (1 ≤ cnt N P))) L := by
  rw [call_succ (fn := f_27) rfl, run_eq (env := [vs (.tup [.int N, K1]), vs (.tup [.str [115, 111, 109, 101], vD x, s]), vs (.dct ks ws), none, none, none, none, none]) rfl]
  simp only [f_27, ev_var, ev_non, ev_bl, ev_int, ev_str, ev_glob, evO_e, evO_pk, ev_tup, ev_fr, kFrz_ok, ev_op, kOp1_ok, kOp2_ok, ev_cmp, kCmp1_ok, kCmp2_ok, ev_not, kNot_ok, ev_and, kAnd_bl, ev_or, kOr_bl, ev_ite, kIte_ok, kIteB_t, kIteB_f, ev_ix, kIx1_ok, kIx2_ok, ev_isi, kIsi_ok, ev_bi, kBi_ok, ev_call, kCall_ok, ev_callP, kCallP_ok, ev_meth, kMeth1_ins, kMeth2_ok, ev_make, kMake_ok, kIns_ok, ev_fld, kFld_ins, evs_nil, evs_cons, kCons1_ok, kCons2_ok, evOs_nil, evOs_cons, kConsO1_ok, evF_lst, evF_dct0, evF_bi, evF_comp, evI_seq, evI_rng, kSeq_tup, kSeq_lst, opt_some, exs_nil, exs_cons, kSeqS_next, kSeqS_ret, kSeqS_exc, ex_set, kSet_v, ex_setF, kSetF_ok, ex_ite, kIteS_ok, kIteSB_t, kIteSB_f, ex_ret, kRet_ok, ex_expr, kExpr_ok, ex_loop, kLoop_ok, ex_while, fin_ret, fin_next, fin_exc, seen_tup, seen_lst, seen_str, seen_int, seen_bl, seen_non, seen_dct, seen_ins, truth_bl, slot0, slotS, rdV_val, rdP_some, List.set_cons_zero, List.set_cons_succ, frz, Option.map_some, if_true, Bool.not_true, Bool.not_false, Bool.false_eq_true, if_false, ite_true, ite_false, es_dput, sDput_ok, es_dupd, sDupd_ok, es_app, sApp_ok, es_frz, sFrz_v, sFrz_l, sFrz_d, es_aug, sAug_ok, kAug_add, kDput1_ok, kApp_ok, ev_sl1, ev_slm, kSl_ok, ev_chain, kChain1_ok, kChain3_ok, evF_dcomp, evF_comp2, kSet2, kSet3, cmp_lt_int, cmp_le_int, cmp_gt_int, cmp_ge_int, ev_neg_int, cmp_in2, cmp_in2l, cmp_in3, cmp_eq_str, cmp_ne_str, cmp_eq_int, cmp_ne_int, ixT0, ixT1, ixT2, ixT3, List.getElem?_cons_succ, List.getElem?_cons_zero, Int.cast_ofNat_Int, Nat.zero_add, Nat.reduceAdd, Int.reduceBEq, Int.natCast_one, ex_rput, sRo_f, kRput1_ok, kRput2_ok, kRput3_1, kRput3_2, kRput3_3, seen_ref0, ixL0, ixL1, ixL2, ixL3, Int.reduceLT, Int.reduceLE, decide_true, decide_false, isi_tupT, isi_intI, isi_intB, isi_intT, isi_intL, isi_intS, isi_tupL, lf_int, lf_intI, lf_lenT, lf_lenL, lf_tupL, op_addI, op_subI, kTup0, kTup1, kTup2, kTup3, kTup4, kTup5, kLst0, kLst1, kLst2, kLst3, kLst4, kLst5, beqf, List.length_cons, List.length_nil, reduceCtorEq, List.cons.injEq, Nat.reduceEqDiff, and_false, false_and, and_true, true_and, and_self, Bool.and_self, Bool.or_false, Bool.false_or, Bool.true_or, Bool.or_true, beq_self_eq_true, ne_eq, not_false_eq_true, kRng1 hs]
  refine quant2 hk hl rfl h fun x6 x7 => ?_
  simp only [f_27, loopR, ev_var, ev_non, ev_bl, ev_int, ev_str, ev_glob, evO_e, evO_pk, ev_tup, ev_fr, kFrz_ok, ev_op, kOp1_ok, kOp2_ok, ev_cmp, kCmp1_ok, kCmp2_ok, ev_not, kNot_ok, ev_and, kAnd_bl, ev_or, kOr_bl, ev_ite, kIte_ok, kIteB_t, kIteB_f, ev_ix, kIx1_ok, kIx2_ok, ev_isi, kIsi_ok, ev_bi, kBi_ok, ev_call, kCall_ok, ev_callP, kCallP_ok, ev_meth, kMeth1_ins, kMeth2_ok, ev_make, kMake_ok, kIns_ok, ev_fld, kFld_ins, evs_nil, evs_cons, kCons1_ok, kCons2_ok, evOs_nil, evOs_cons, kConsO1_ok, evF_lst, evF_dct0, evF_bi, evF_comp, evI_seq, evI_rng, kSeq_tup, kSeq_lst, opt_some, exs_nil, exs_cons, kSeqS_next, kSeqS_ret, kSeqS_exc, ex_set, kSet_v, ex_setF, kSetF_ok, ex_ite, kIteS_ok, kIteSB_t, kIteSB_f, ex_ret, kRet_ok, ex_expr, kExpr_ok, ex_loop, kLoop_ok, ex_while, fin_ret, fin_next, fin_exc, seen_tup, seen_lst, seen_str, seen_int, seen_bl, seen_non, seen_dct, seen_ins, truth_bl, slot0, slotS, rdV_val, rdP_some, List.set_cons_zero, List.set_cons_succ, frz, Option.map_some, if_true, Bool.not_true, Bool.not_false, Bool.false_eq_true, if_false, ite_true, ite_false, es_dput, sDput_ok, es_dupd, sDupd_ok, es_app, sApp_ok, es_frz, sFrz_v, sFrz_l, sFrz_d, es_aug, sAug_ok, kAug_add, kDput1_ok, kApp_ok, ev_sl1, ev_slm, kSl_ok, ev_chain, kChain1_ok, kChain3_ok, evF_dcomp, evF_comp2, kSet2, kSet3, cmp_lt_int, cmp_le_int, cmp_gt_int, cmp_ge_int, ev_neg_int, cmp_in2, cmp_in2l, cmp_in3, cmp_eq_str, cmp_ne_str, cmp_eq_int, cmp_ne_int, ixT0, ixT1, ixT2, ixT3, List.getElem?_cons_succ, List.getElem?_cons_zero, Int.cast_ofNat_Int, Nat.zero_add, Nat.reduceAdd, Int.reduceBEq, Int.natCast_one, ex_rput, sRo_f, kRput1_ok, kRput2_ok, kRput3_1, kRput3_2, kRput3_3, seen_ref0, ixL0, ixL1, ixL2, ixL3, Int.reduceLT, Int.reduceLE, decide_true, decide_false, isi_tupT, isi_intI, isi_intB, isi_intT, isi_intL, isi_intS, isi_tupL, lf_int, lf_intI, lf_lenT, lf_lenL, lf_tupL, op_addI, op_subI, kTup0, kTup1, kTup2, kTup3, kTup4, kTup5, kLst0, kLst1, kLst2, kLst3, kLst4, kLst5, beqf, List.length_cons, List.length_nil, reduceCtorEq, List.cons.injEq, Nat.reduceEqDiff, and_false, false_and, and_true, true_and, and_self, Bool.and_self, Bool.or_false, Bool.false_or, Bool.true_or, Bool.or_true, beq_self_eq_true, ne_eq, not_false_eq_true]
  rw [show decide ((1 : Int) ≤ (cnt N P : Int)) = decide (1 ≤ cnt N P) from decide_eq_decide.mpr (by omega)]
theorem hold_all {n N : Nat} {ro : Bool} {K1 s : D} {L : List Cell} {x : Nat} {ks ws : List D} {P : Int → Bool} (hs : small N = true) (hk : ∀ k ∈ ks, ∃ s, k = .str s) (hl : ks.length < line)
    (h : ∀ t : Int, callN tab 1000 n ro 27 [.tup [.int N, K1], s, .dct (putK (vD x) (.int t) ks ws).1 (putK (vD x) (.int t) ks ws).2] L = .ok (.bl (P t)) L) :
    callN tab 1000 (n + 1) ro 27 [.tup [.int N, K1], .tup [.str [97, 108, 108], vD x, s], .dct ks ws] L = .ok (.bl (decide (N ≤ cnt N P))) L := by
  rw [call_succ (fn := f_27) rfl, run_eq (env := [vs (.tup [.int N, K1]), vs (.tup [.str [97, 108, 108], vD x, s]), vs (.dct ks ws), none, none, none, none, none]) rfl]
  simp only [f_27, ev_var, ev_non, ev_bl, ev_int, ev_str, ev_glob, evO_e, evO_pk, ev_tup, ev_fr, kFrz_ok, ev_op, kOp1_ok, kOp2_ok, ev_cmp, kCmp1_ok, kCmp2_ok, ev_not, kNot_ok, ev_and, kAnd_bl, ev_or, kOr_bl, ev_ite, kIte_ok, kIteB_t, kIteB_f, ev_ix, kIx1_ok, kIx2_ok, ev_isi, kIsi_ok, ev_bi, kBi_ok, ev_call, kCall_ok, ev_callP, kCallP_ok, ev_meth, kMeth1_ins, kMeth2_ok, ev_make, kMake_ok, kIns_ok, ev_fld, kFld_ins, evs_nil, evs_cons, kCons1_ok, kCons2_ok, evOs_nil, evOs_cons, kConsO1_ok, evF_lst, evF_dct0, evF_bi, evF_comp, evI_seq, evI_rng, kSeq_tup, kSeq_lst, opt_some, exs_nil, exs_cons, kSeqS_next, kSeqS_ret, kSeqS_exc, ex_set, kSet_v, ex_setF, kSetF_ok, ex_ite, kIteS_ok, kIteSB_t, kIteSB_f, ex_ret, kRet_ok, ex_expr, kExpr_ok, ex_loop, kLoop_ok, ex_while, fin_ret, fin_next, fin_exc, seen_tup, seen_lst, seen_str, seen_int, seen_bl, seen_non, seen_dct, seen_ins, truth_bl, slot0, slotS, rdV_val, rdP_some, List.set_cons_zero, List.set_cons_succ, frz, Option.map_some, if_true, Bool.not_true, Bool.not_false, Bool.false_eq_true, if_false, ite_true, ite_false, es_dput, sDput_ok, es_dupd, sDupd_ok, es_app, sApp_ok, es_frz, sFrz_v, sFrz_l, sFrz_d, es_aug, sAug_ok, kAug_add, kDput1_ok, kApp_ok, ev_sl1, ev_slm, kSl_ok, ev_chain, kChain1_ok, kChain3_ok, evF_dcomp, evF_comp2, kSet2, kSet3, cmp_lt_int, cmp_le_int, cmp_gt_int, cmp_ge_int, ev_neg_int, cmp_in2, cmp_in2l, cmp_in3, cmp_eq_str, cmp_ne_str, cmp_eq_int, cmp_ne_int, ixT0, ixT1, ixT2, ixT3, List.getElem?_cons_succ, List.getElem?_cons_zero, Int.cast_ofNat_Int, Nat.zero_add, Nat.reduceAdd, Int.reduceBEq, Int.natCast_one, ex_rput, sRo_f, kRput1_ok, kRput2_ok, kRput3_1, kRput3_2, kRput3_3, seen_ref0, ixL0, ixL1, ixL2, ixL3, Int.reduceLT, Int.reduceLE, decide_true, decide_false, isi_tupT, isi_intI, isi_intB, isi_intT, isi_intL, isi_intS, isi_tupL, lf_int, lf_intI, lf_lenT, lf_lenL, lf_tupL, op_addI, op_subI, kTup0, kTup1, kTup2, kTup3, kTup4, kTup5, kLst0, kLst1, kLst2, kLst3, kLst4, kLst5, beqf, List.length_cons, List.length_nil, reduceCtorEq, List.cons.injEq, Nat.reduceEqDiff, and_false, false_and, and_true, true_and, and_self, Bool.and_self, Bool.or_false, Bool.false_or, Bool.true_or, Bool.or_true, beq_self_eq_true, ne_eq, not_false_eq_true, kRng1 hs]
  refine quant2 hk hl rfl h fun x6 x7 => ?_
  simp only [f_27, loopR, ev_var, ev_non, ev_bl, ev_int, ev_str, ev_glob, evO_e, evO_pk, ev_tup, ev_fr, kFrz_ok, ev_op, kOp1_ok, kOp2_ok, ev_cmp, kCmp1_ok, kCmp2_ok, ev_not, kNot_ok, ev_and, kAnd_bl, ev_or, kOr_bl, ev_ite, kIte_ok, kIteB_t, kIteB_f, ev_ix, kIx1_ok, kIx2_ok, ev_isi, kIsi_ok, ev_bi, kBi_ok, ev_call, kCall_ok, ev_callP, kCallP_ok, ev_meth, kMeth1_ins, kMeth2_ok, ev_make, kMake_ok, kIns_ok, ev_fld, kFld_ins, evs_nil, evs_cons, kCons1_ok, kCons2_ok, evOs_nil, evOs_cons, kConsO1_ok, evF_lst, evF_dct0, evF_bi, evF_comp, evI_seq, evI_rng, kSeq_tup, kSeq_lst, opt_some, exs_nil, exs_cons, kSeqS_next, kSeqS_ret, kSeqS_exc, ex_set, kSet_v, ex_setF, kSetF_ok, ex_ite, kIteS_ok, kIteSB_t, kIteSB_f, ex_ret, kRet_ok, ex_expr, kExpr_ok, ex_loop, kLoop_ok, ex_while, fin_ret, fin_next, fin_exc, seen_tup, seen_lst, seen_str, seen_int, seen_bl, seen_non, seen_dct, seen_ins, truth_bl, slot0, slotS, rdV_val, rdP_some, List.set_cons_zero, List.set_cons_succ, frz, Option.map_some, if_true, Bool.not_true, Bool.not_false, Bool.false_eq_true, if_false, ite_true, ite_false, es_dput, sDput_ok, es_dupd, sDupd_ok, es_app, sApp_ok, es_frz, sFrz_v, sFrz_l, sFrz_d, es_aug, sAug_ok, kAug_add, kDput1_ok, kApp_ok, ev_sl1, ev_slm, kSl_ok, ev_chain, kChain1_ok, kChain3_ok, evF_dcomp, evF_comp2, kSet2, kSet3, cmp_lt_int, cmp_le_int, cmp_gt_int, cmp_ge_int, ev_neg_int, cmp_in2, cmp_in2l, cmp_in3, cmp_eq_str, cmp_ne_str, cmp_eq_int, cmp_ne_int, ixT0, ixT1, ixT2, ixT3, List.getElem?_cons_succ, List.getElem?_cons_zero, Int.cast_ofNat_Int, Nat.zero_add, Nat.reduceAdd, Int.reduceBEq, Int.natCast_one, ex_rput, sRo_f, kRput1_ok, kRput2_ok, kRput3_1, kRput3_2, kRput3_3, seen_ref0, ixL0, ixL1, ixL2, ixL3, Int.reduceLT, Int.reduceLE, decide_true, decide_false, isi_tupT, isi_intI, isi_intB, isi_intT, isi_intL, isi_intS, isi_tupL, lf_int, lf_intI, lf_lenT, lf_lenL, lf_tupL, op_addI, op_subI, kTup0, kTup1, kTup2, kTup3, kTup4, kTup5, kLst0, kLst1, kLst2, kLst3, kLst4, kLst5, beqf, List.length_cons, List.length_nil, reduceCtorEq, List.cons.injEq, Nat.reduceEqDiff, and_false, false_and, and_true, true_and, and_self, Bool.and_self, Bool.or_false, Bool.false_or, Bool.true_or, Bool.or_true, beq_self_eq_true, ne_eq, not_false_eq_true]
  have := cnt_le N P
  rw [show ((cnt N P : Int) == (N : Int)) = decide (N ≤ cnt N P) from by rw [Bool.eq_iff_iff]; simp; omega]
theorem hold_many {n N k : Nat} {ro : Bool} {K1 s : D} {L : List Cell} {x : Nat} {ks ws : List D} {P : Int → Bool} (hs : small N = true) (hk : ∀ k ∈ ks, ∃ s, k = .str s) (hl : ks.length < line)
    (h : ∀ t : Int, callN tab 1000 n ro 27 [.tup [.int N, K1], s, .dct (putK (vD x) (.int t) ks ws).1 (putK (vD x) (.int t) ks ws).2] L = .ok (.bl (P t)) L) :
    callN tab 1000 (n + 1) ro 27 [.tup [.int N, K1], .tup [.str [109, 97, 110, 121], .int k, vD x, s], .dct ks ws] L = .ok (.bl (decide (k ≤ cnt N P))) L := by
  rw [call_succ (fn := f_27) rfl, run_eq (env := [vs (.tup [.int N, K1]), vs (.tup [.str [109, 97, 110, 121], .int k, vD x, s]), vs (.dct ks ws), none, none, none, none, none]) rfl]
  simp only [f_27, ev_var, ev_non, ev_bl, ev_int, ev_str, ev_glob, evO_e, evO_pk, ev_tup, ev_fr, kFrz_ok, ev_op, kOp1_ok, kOp2_ok, ev_cmp, kCmp1_ok, kCmp2_ok, ev_not, kNot_ok, ev_and, kAnd_bl, ev_or, kOr_bl, ev_ite, kIte_ok, kIteB_t, kIteB_f, ev_ix, kIx1_ok, kIx2_ok, ev_isi, kIsi_ok, ev_bi, kBi_ok, ev_call, kCall_ok, ev_callP, kCallP_ok, ev_meth, kMeth1_ins, kMeth2_ok, ev_make, kMake_ok, kIns_ok, ev_fld, kFld_ins, evs_nil, evs_cons, kCons1_ok, kCons2_ok, evOs_nil, evOs_cons, kConsO1_ok, evF_lst, evF_dct0, evF_bi, evF_comp, evI_seq, evI_rng, kSeq_tup, kSeq_lst, opt_some, exs_nil, exs_cons, kSeqS_next, kSeqS_ret, kSeqS_exc, ex_set, kSet_v, ex_setF, kSetF_ok, ex_ite, kIteS_ok, kIteSB_t, kIteSB_f, ex_ret, kRet_ok, ex_expr, kExpr_ok, ex_loop, kLoop_ok, ex_while, fin_ret, fin_next, fin_exc, seen_tup, seen_lst, seen_str, seen_int, seen_bl, seen_non, seen_dct, seen_ins, truth_bl, slot0, slotS, rdV_val, rdP_some, List.set_cons_zero, List.set_cons_succ, frz, Option.map_some, if_true, Bool.not_true, Bool.not_false, Bool.false_eq_true, if_false, ite_true, ite_false, es_dput, sDput_ok, es_dupd, sDupd_ok, es_app, sApp_ok, es_frz, sFrz_v, sFrz_l, sFrz_d, es_aug, sAug_ok, kAug_add, kDput1_ok, kApp_ok, ev_sl1, ev_slm, kSl_ok, ev_chain, kChain1_ok, kChain3_ok, evF_dcomp, evF_comp2, kSet2, kSet3, cmp_lt_int, cmp_le_int, cmp_gt_int, cmp_ge_int, ev_neg_int, cmp_in2, cmp_in2l, cmp_in3, cmp_eq_str, cmp_ne_str, cmp_eq_int, cmp_ne_int, ixT0, ixT1, ixT2, ixT3, List.getElem?_cons_succ, List.getElem?_cons_zero, Int.cast_ofNat_Int, Nat.zero_add, Nat.reduceAdd, Int.reduceBEq, Int.natCast_one, ex_rput, sRo_f, kRput1_ok, kRput2_ok, kRput3_1, kRput3_2, kRput3_3, seen_ref0, ixL0, ixL1, ixL2, ixL3, Int.reduceLT, Int.reduceLE, decide_true, decide_false, isi_tupT, isi_intI, isi_intB, isi_intT, isi_intL, isi_intS, isi_tupL, lf_int, lf_intI, lf_lenT, lf_lenL, lf_tupL, op_addI, op_subI, kTup0, kTup1, kTup2, kTup3, kTup4, kTup5, kLst0, kLst1, kLst2, kLst3, kLst4, kLst5, beqf, List.length_cons, List.length_nil, reduceCtorEq, List.cons.injEq, Nat.reduceEqDiff, and_false, false_and, and_true, true_and, and_self, Bool.and_self, Bool.or_false, Bool.false_or, Bool.true_or, Bool.or_true, beq_self_eq_true, ne_eq, not_false_eq_true, kRng1 hs]
  refine quant2 hk hl rfl h fun x6 x7 => ?_
  simp only [f_27, loopR, ev_var, ev_non, ev_bl, ev_int, ev_str, ev_glob, evO_e, evO_pk, ev_tup, ev_fr, kFrz_ok, ev_op, kOp1_ok, kOp2_ok, ev_cmp, kCmp1_ok, kCmp2_ok, ev_not, kNot_ok, ev_and, kAnd_bl, ev_or, kOr_bl, ev_ite, kIte_ok, kIteB_t, kIteB_f, ev_ix, kIx1_ok, kIx2_ok, ev_isi, kIsi_ok, ev_bi, kBi_ok, ev_call, kCall_ok, ev_callP, kCallP_ok, ev_meth, kMeth1_ins, kMeth2_ok, ev_make, kMake_ok, kIns_ok, ev_fld, kFld_ins, evs_nil, evs_cons, kCons1_ok, kCons2_ok, evOs_nil, evOs_cons, kConsO1_ok, evF_lst, evF_dct0, evF_bi, evF_comp, evI_seq, evI_rng, kSeq_tup, kSeq_lst, opt_some, exs_nil, exs_cons, kSeqS_next, kSeqS_ret, kSeqS_exc, ex_set, kSet_v, ex_setF, kSetF_ok, ex_ite, kIteS_ok, kIteSB_t, kIteSB_f, ex_ret, kRet_ok, ex_expr, kExpr_ok, ex_loop, kLoop_ok, ex_while, fin_ret, fin_next, fin_exc, seen_tup, seen_lst, seen_str, seen_int, seen_bl, seen_non, seen_dct, seen_ins, truth_bl, slot0, slotS, rdV_val, rdP_some, List.set_cons_zero, List.set_cons_succ, frz, Option.map_some, if_true, Bool.not_true, Bool.not_false, Bool.false_eq_true, if_false, ite_true, ite_false, es_dput, sDput_ok, es_dupd, sDupd_ok, es_app, sApp_ok, es_frz, sFrz_v, sFrz_l, sFrz_d, es_aug, sAug_ok, kAug_add, kDput1_ok, kApp_ok, ev_sl1, ev_slm, kSl_ok, ev_chain, kChain1_ok, kChain3_ok, evF_dcomp, evF_comp2, kSet2, kSet3, cmp_lt_int, cmp_le_int, cmp_gt_int, cmp_ge_int, ev_neg_int, cmp_in2, cmp_in2l, cmp_in3, cmp_eq_str, cmp_ne_str, cmp_eq_int, cmp_ne_int, ixT0, ixT1, ixT2, ixT3, List.getElem?_cons_succ, List.getElem?_cons_zero, Int.cast_ofNat_Int, Nat.zero_add, Nat.reduceAdd, Int.reduceBEq, Int.natCast_one, ex_rput, sRo_f, kRput1_ok, kRput2_ok, kRput3_1, kRput3_2, kRput3_3, seen_ref0, ixL0, ixL1, ixL2, ixL3, Int.reduceLT, Int.reduceLE, decide_true, decide_false, isi_tupT, isi_intI, isi_intB, isi_intT, isi_intL, isi_intS, isi_tupL, lf_int, lf_intI, lf_lenT, lf_lenL, lf_tupL, op_addI, op_subI, kTup0, kTup1, kTup2, kTup3, kTup4, kTup5, kLst0, kLst1, kLst2, kLst3, kLst4, kLst5, beqf, List.length_cons, List.length_nil, reduceCtorEq, List.cons.injEq, Nat.reduceEqDiff, and_false, false_and, and_true, true_and, and_self, Bool.and_self, Bool.or_false, Bool.false_or, Bool.true_or, Bool.or_true, beq_self_eq_true, ne_eq, not_false_eq_true]
  rw [show decide ((k : Int) ≤ (cnt N P : Int)) = decide (k ≤ cnt N P) from decide_eq_decide.mpr (by omega)]
theorem holds_ok {rels : List (Txt × Nat)} {N : Nat} {K : D} {R : Txt → List Int → Bool} (hs : small N = true) (hK : KOk rels K R) (hz : ∀ L, seen K L = K) (hr : ∀ r ∈ rels, r.2 ≤ 3) {Γ : List Nat} {d : Nat} {s : Sn} (h : Wf rels Γ d s) :
    ∀ {n : Nat} {ro : Bool} {ks ws : List D} {ρ : Nat → Int} {L : List Cell}, EnvOk ks ws ρ Γ → ks.length + d ≤ 1000 → callN tab 1000 (n + d + 1) ro 27 [.tup [.int N, K], s.toD, .dct ks ws] L = .ok (.bl (sat R N s ρ)) L := by
  have q : ∀ {x d : Nat} {ks ws : List D}, ks.length + (d + 1) ≤ 1000 → ks.length < line ∧ ∀ v, (putK (vD x) v ks ws).1.length + d ≤ 1000 := by
    intro x d ks ws h
    refine ⟨by unfold line; omega, fun v => ?_⟩
    have := putK_len (k := vD x) (v := v) (ks := ks) (vs := ws)
    omega
  induction h with
  | yes => intros; exact hold_yes
  | same h1 h2 => intro n ro ks ws ρ L he hd; exact hold_same (V := .dct ks ws) (he.ix h1) (he.ix h2) rfl
  | rel h1 h2 =>
    intro n ro ks ws ρ L he hd
    have := hr _ h1
    obtain ⟨y, e1, e2⟩ := hK.holds (is := List.map ρ _) (by rw [List.length_map]; exact h1)
    exact hold_rel he h2 (by unfold line; simp at this; omega) (hz L) e1 e2
  | not _ ih => intro n ro ks ws ρ L he hd; exact hold_not (ih he (by omega))
  | and _ _ i1 i2 => intro n ro ks ws ρ L he hd; exact hold_and (i1 he (by omega)) (i2 he (by omega))
  | or _ _ i1 i2 => intro n ro ks ws ρ L he hd; exact hold_or (i1 he (by omega)) (i2 he (by omega))
  | some hx _ ih => intro n ro ks ws ρ L he hd; exact hold_some hs he.str (q (x := 0) (ws := ws) hd).1 fun t => ih he.put ((q (ws := ws) hd).2 _)
  | all hx _ ih => intro n ro ks ws ρ L he hd; exact hold_all hs he.str (q (x := 0) (ws := ws) hd).1 fun t => ih he.put ((q (ws := ws) hd).2 _)
  | many hk hx _ ih => intro n ro ks ws ρ L he hd; exact hold_many hs he.str (q (x := 0) (ws := ws) hd).1 fun t => ih he.put ((q (ws := ws) hd).2 _)
end k73s

set_option linter.all false
set_option maxRecDepth 100000
namespace k73s
open Wa
open k73 (tab lawNo f_1 f_2 f_3 f_4 f_5 f_6 f_7 f_8 f_9 f_10 f_11 f_12 f_13 f_14 f_15 f_16 f_17 f_18 f_19 f_20 f_21 f_22 f_23 f_24 f_25 f_26 f_27 f_28 f_29 f_30 f_31 f_32)
/-! ### is_sentence -/
structure ShOk (rels : List (Txt × Nat)) (SH : D) : Prop where
  name : ∀ {n ro L r}, r ∈ rels → callN tab 1000 (n + 1) ro 2 [.str r.1] L = .ok (.bl true) L
  places : ∀ {n ro L r}, r ∈ rels → callN tab 1000 (n + 1) ro 4 [SH, .str r.1] L = .ok (.int (r.2 : Nat)) L
  cls : ∃ vs, SH = .ins 5 vs
theorem name_ok {n : Nat} {ro : Bool} {L : List Cell} {x : Nat} (h : x ∈ [120, 121, 122]) : callN tab 1000 (n + 1) ro 2 [vD x] L = .ok (.bl true) L := by
  rcases List.mem_cons.mp h with rfl | h
  · kernel_rfl
  rcases List.mem_cons.mp h with rfl | h
  · kernel_rfl
  rcases List.mem_singleton.mp h with rfl
  kernel_rfl
theorem isS_yes {n : Nat} {ro : Bool} {SH : D} {L : List Cell} {k : Int} (hk : (k == 0) = false) : callN tab 1000 (n + 1) ro 11 [SH, .tup [.str [121, 101, 115]], .int k] L = .ok (.bl true) L := by
  rw [call_succ (fn := f_11) rfl, run_eq (env := [vs SH, vs (.tup [.str [121, 101, 115]]), vs (.int k), none, none]) rfl]
  simp only [f_11, ev_var, ev_non, ev_bl, ev_int, ev_str, ev_glob, evO_e, evO_pk, ev_tup, ev_fr, kFrz_ok, ev_op, kOp1_ok, kOp2_ok, ev_cmp, kCmp1_ok, kCmp2_ok, ev_not, kNot_ok, ev_and, kAnd_bl, ev_or, kOr_bl, ev_ite, kIte_ok, kIteB_t, kIteB_f, ev_ix, kIx1_ok, kIx2_ok, ev_isi, kIsi_ok, ev_bi, kBi_ok, ev_call, kCall_ok, ev_callP, kCallP_ok, ev_meth, kMeth1_ins, kMeth2_ok, ev_make, kMake_ok, kIns_ok, ev_fld, kFld_ins, evs_nil, evs_cons, kCons1_ok, kCons2_ok, evOs_nil, evOs_cons, kConsO1_ok, evF_lst, evF_dct0, evF_bi, evF_comp, evI_seq, evI_rng, kSeq_tup, kSeq_lst, opt_some, exs_nil, exs_cons, kSeqS_next, kSeqS_ret, kSeqS_exc, ex_set, kSet_v, ex_setF, kSetF_ok, ex_ite, kIteS_ok, kIteSB_t, kIteSB_f, ex_ret, kRet_ok, ex_expr, kExpr_ok, ex_loop, kLoop_ok, ex_while, fin_ret, fin_next, fin_exc, seen_tup, seen_lst, seen_str, seen_int, seen_bl, seen_non, seen_dct, seen_ins, truth_bl, slot0, slotS, rdV_val, rdP_some, List.set_cons_zero, List.set_cons_succ, frz, Option.map_some, if_true, Bool.not_true, Bool.not_false, Bool.false_eq_true, if_false, ite_true, ite_false, es_dput, sDput_ok, es_dupd, sDupd_ok, es_app, sApp_ok, es_frz, sFrz_v, sFrz_l, sFrz_d, es_aug, sAug_ok, kAug_add, kDput1_ok, kApp_ok, ev_sl1, ev_slm, kSl_ok, ev_chain, kChain1_ok, kChain3_ok, evF_dcomp, evF_comp2, kSet2, kSet3, cmp_lt_int, cmp_le_int, cmp_gt_int, cmp_ge_int, ev_neg_int, cmp_in2, cmp_in2l, cmp_in3, cmp_eq_str, cmp_ne_str, cmp_eq_int, cmp_ne_int, ixT0, ixT1, ixT2, ixT3, List.getElem?_cons_succ, List.getElem?_cons_zero, Int.cast_ofNat_Int, Nat.zero_add, Nat.reduceAdd, Int.reduceBEq, Int.natCast_one, ex_rput, sRo_f, kRput1_ok, kRput2_ok, kRput3_1, kRput3_2, kRput3_3, seen_ref0, ixL0, ixL1, ixL2, ixL3, Int.reduceLT, Int.reduceLE, decide_true, decide_false, isi_tupT, isi_intI, isi_intB, isi_intT, isi_intL, isi_intS, isi_tupL, lf_int, lf_intI, lf_lenT, lf_lenL, lf_tupL, op_addI, op_subI, kTup0, kTup1, kTup2, kTup3, kTup4, kTup5, kLst0, kLst1, kLst2, kLst3, kLst4, kLst5, beqf, List.length_cons, List.length_nil, reduceCtorEq, List.cons.injEq, Nat.reduceEqDiff, and_false, false_and, and_true, true_and, and_self, Bool.and_self, Bool.or_false, Bool.false_or, Bool.true_or, Bool.or_true, beq_self_eq_true, ne_eq, not_false_eq_true, hk]
theorem isS_same {n : Nat} {ro : Bool} {SH : D} {L : List Cell} {k : Int} {x y : Nat} (hk : (k == 0) = false) (hx : x ∈ [120, 121, 122]) (hy : y ∈ [120, 121, 122]) : callN tab 1000 (n + 2) ro 11 [SH, .tup [.str [115, 97, 109, 101], vD x, vD y], .int k] L = .ok (.bl true) L := by
  rw [call_succ (fn := f_11) rfl, run_eq (env := [vs SH, vs (.tup [.str [115, 97, 109, 101], vD x, vD y]), vs (.int k), none, none]) rfl]
  simp only [f_11, ev_var, ev_non, ev_bl, ev_int, ev_str, ev_glob, evO_e, evO_pk, ev_tup, ev_fr, kFrz_ok, ev_op, kOp1_ok, kOp2_ok, ev_cmp, kCmp1_ok, kCmp2_ok, ev_not, kNot_ok, ev_and, kAnd_bl, ev_or, kOr_bl, ev_ite, kIte_ok, kIteB_t, kIteB_f, ev_ix, kIx1_ok, kIx2_ok, ev_isi, kIsi_ok, ev_bi, kBi_ok, ev_call, kCall_ok, ev_callP, kCallP_ok, ev_meth, kMeth1_ins, kMeth2_ok, ev_make, kMake_ok, kIns_ok, ev_fld, kFld_ins, evs_nil, evs_cons, kCons1_ok, kCons2_ok, evOs_nil, evOs_cons, kConsO1_ok, evF_lst, evF_dct0, evF_bi, evF_comp, evI_seq, evI_rng, kSeq_tup, kSeq_lst, opt_some, exs_nil, exs_cons, kSeqS_next, kSeqS_ret, kSeqS_exc, ex_set, kSet_v, ex_setF, kSetF_ok, ex_ite, kIteS_ok, kIteSB_t, kIteSB_f, ex_ret, kRet_ok, ex_expr, kExpr_ok, ex_loop, kLoop_ok, ex_while, fin_ret, fin_next, fin_exc, seen_tup, seen_lst, seen_str, seen_int, seen_bl, seen_non, seen_dct, seen_ins, truth_bl, slot0, slotS, rdV_val, rdP_some, List.set_cons_zero, List.set_cons_succ, frz, Option.map_some, if_true, Bool.not_true, Bool.not_false, Bool.false_eq_true, if_false, ite_true, ite_false, es_dput, sDput_ok, es_dupd, sDupd_ok, es_app, sApp_ok, es_frz, sFrz_v, sFrz_l, sFrz_d, es_aug, sAug_ok, kAug_add, kDput1_ok, kApp_ok, ev_sl1, ev_slm, kSl_ok, ev_chain, kChain1_ok, kChain3_ok, evF_dcomp, evF_comp2, kSet2, kSet3, cmp_lt_int, cmp_le_int, cmp_gt_int, cmp_ge_int, ev_neg_int, cmp_in2, cmp_in2l, cmp_in3, cmp_eq_str, cmp_ne_str, cmp_eq_int, cmp_ne_int, ixT0, ixT1, ixT2, ixT3, List.getElem?_cons_succ, List.getElem?_cons_zero, Int.cast_ofNat_Int, Nat.zero_add, Nat.reduceAdd, Int.reduceBEq, Int.natCast_one, ex_rput, sRo_f, kRput1_ok, kRput2_ok, kRput3_1, kRput3_2, kRput3_3, seen_ref0, ixL0, ixL1, ixL2, ixL3, Int.reduceLT, Int.reduceLE, decide_true, decide_false, isi_tupT, isi_intI, isi_intB, isi_intT, isi_intL, isi_intS, isi_tupL, lf_int, lf_intI, lf_lenT, lf_lenL, lf_tupL, op_addI, op_subI, kTup0, kTup1, kTup2, kTup3, kTup4, kTup5, kLst0, kLst1, kLst2, kLst3, kLst4, kLst5, beqf, List.length_cons, List.length_nil, reduceCtorEq, List.cons.injEq, Nat.reduceEqDiff, and_false, false_and, and_true, true_and, and_self, Bool.and_self, Bool.or_false, Bool.false_or, Bool.true_or, Bool.or_true, beq_self_eq_true, ne_eq, not_false_eq_true, hk, name_ok hx, name_ok hy]
theorem isS_not {n : Nat} {ro : Bool} {SH s : D} {L : List Cell} {k : Int} (hk : (k == 0) = false) (h : callN tab 1000 n ro 11 [SH, s, .int (k - 1)] L = .ok (.bl true) L) : callN tab 1000 (n + 1) ro 11 [SH, .tup [.str [110, 111, 116], s], .int k] L = .ok (.bl true) L := by
  rw [call_succ (fn := f_11) rfl, run_eq (env := [vs SH, vs (.tup [.str [110, 111, 116], s]), vs (.int k), none, none]) rfl]
  simp only [f_11, ev_var, ev_non, ev_bl, ev_int, ev_str, ev_glob, evO_e, evO_pk, ev_tup, ev_fr, kFrz_ok, ev_op, kOp1_ok, kOp2_ok, ev_cmp, kCmp1_ok, kCmp2_ok, ev_not, kNot_ok, ev_and, kAnd_bl, ev_or, kOr_bl, ev_ite, kIte_ok, kIteB_t, kIteB_f, ev_ix, kIx1_ok, kIx2_ok, ev_isi, kIsi_ok, ev_bi, kBi_ok, ev_call, kCall_ok, ev_callP, kCallP_ok, ev_meth, kMeth1_ins, kMeth2_ok, ev_make, kMake_ok, kIns_ok, ev_fld, kFld_ins, evs_nil, evs_cons, kCons1_ok, kCons2_ok, evOs_nil, evOs_cons, kConsO1_ok, evF_lst, evF_dct0, evF_bi, evF_comp, evI_seq, evI_rng, kSeq_tup, kSeq_lst, opt_some, exs_nil, exs_cons, kSeqS_next, kSeqS_ret, kSeqS_exc, ex_set, kSet_v, ex_setF, kSetF_ok, ex_ite, kIteS_ok, kIteSB_t, kIteSB_f, ex_ret, kRet_ok, ex_expr, kExpr_ok, ex_loop, kLoop_ok, ex_while, fin_ret, fin_next, fin_exc, seen_tup, seen_lst, seen_str, seen_int, seen_bl, seen_non, seen_dct, seen_ins, truth_bl, slot0, slotS, rdV_val, rdP_some, List.set_cons_zero, List.set_cons_succ, frz, Option.map_some, if_true, Bool.not_true, Bool.not_false, Bool.false_eq_true, if_false, ite_true, ite_false, es_dput, sDput_ok, es_dupd, sDupd_ok, es_app, sApp_ok, es_frz, sFrz_v, sFrz_l, sFrz_d, es_aug, sAug_ok, kAug_add, kDput1_ok, kApp_ok, ev_sl1, ev_slm, kSl_ok, ev_chain, kChain1_ok, kChain3_ok, evF_dcomp, evF_comp2, kSet2, kSet3, cmp_lt_int, cmp_le_int, cmp_gt_int, cmp_ge_int, ev_neg_int, cmp_in2, cmp_in2l, cmp_in3, cmp_eq_str, cmp_ne_str, cmp_eq_int, cmp_ne_int, ixT0, ixT1, ixT2, ixT3, List.getElem?_cons_succ, List.getElem?_cons_zero, Int.cast_ofNat_Int, Nat.zero_add, Nat.reduceAdd, Int.reduceBEq, Int.natCast_one, ex_rput, sRo_f, kRput1_ok, kRput2_ok, kRput3_1, kRput3_2, kRput3_3, seen_ref0, ixL0, ixL1, ixL2, ixL3, Int.reduceLT, Int.reduceLE, decide_true, decide_false, isi_tupT, isi_intI, isi_intB, isi_intT, isi_intL, isi_intS, isi_tupL, lf_int, lf_intI, lf_lenT, lf_lenL, lf_tupL, op_addI, op_subI, kTup0, kTup1, kTup2, kTup3, kTup4, kTup5, kLst0, kLst1, kLst2, kLst3, kLst4, kLst5, beqf, List.length_cons, List.length_nil, reduceCtorEq, List.cons.injEq, Nat.reduceEqDiff, and_false, false_and, and_true, true_and, and_self, Bool.and_self, Bool.or_false, Bool.false_or, Bool.true_or, Bool.or_true, beq_self_eq_true, ne_eq, not_false_eq_true, hk, h]
theorem sl3 {a b c : D} : slD (.tup [a, b, c]) (some 1) none = some (.tup [b, c]) := rfl
theorem lf_all2 {a b : Bool} : leafD (bi1 .all (.lst [.bl a, .bl b])) = some (.bl (a && b)) := by cases a <;> cases b <;> rfl
theorem isS_and {n : Nat} {ro : Bool} {SH s t : D} {L : List Cell} {k : Int} (hk : (k == 0) = false) (h : callN tab 1000 n ro 11 [SH, s, .int (k - 1)] L = .ok (.bl true) L) (h2 : callN tab 1000 n ro 11 [SH, t, .int (k - 1)] L = .ok (.bl true) L) : callN tab 1000 (n + 1) ro 11 [SH, .tup [.str [97, 110, 100], s, t], .int k] L = .ok (.bl true) L := by
  rw [call_succ (fn := f_11) rfl, run_eq (env := [vs SH, vs (.tup [.str [97, 110, 100], s, t]), vs (.int k), none, none]) rfl]
  simp only [f_11, ev_var, ev_non, ev_bl, ev_int, ev_str, ev_glob, evO_e, evO_pk, ev_tup, ev_fr, kFrz_ok, ev_op, kOp1_ok, kOp2_ok, ev_cmp, kCmp1_ok, kCmp2_ok, ev_not, kNot_ok, ev_and, kAnd_bl, ev_or, kOr_bl, ev_ite, kIte_ok, kIteB_t, kIteB_f, ev_ix, kIx1_ok, kIx2_ok, ev_isi, kIsi_ok, ev_bi, kBi_ok, ev_call, kCall_ok, ev_callP, kCallP_ok, ev_meth, kMeth1_ins, kMeth2_ok, ev_make, kMake_ok, kIns_ok, ev_fld, kFld_ins, evs_nil, evs_cons, kCons1_ok, kCons2_ok, evOs_nil, evOs_cons, kConsO1_ok, evF_lst, evF_dct0, evF_bi, evF_comp, evI_seq, evI_rng, kSeq_tup, kSeq_lst, opt_some, exs_nil, exs_cons, kSeqS_next, kSeqS_ret, kSeqS_exc, ex_set, kSet_v, ex_setF, kSetF_ok, ex_ite, kIteS_ok, kIteSB_t, kIteSB_f, ex_ret, kRet_ok, ex_expr, kExpr_ok, ex_loop, kLoop_ok, ex_while, fin_ret, fin_next, fin_exc, seen_tup, seen_lst, seen_str, seen_int, seen_bl, seen_non, seen_dct, seen_ins, truth_bl, slot0, slotS, rdV_val, rdP_some, List.set_cons_zero, List.set_cons_succ, frz, Option.map_some, if_true, Bool.not_true, Bool.not_false, Bool.false_eq_true, if_false, ite_true, ite_false, es_dput, sDput_ok, es_dupd, sDupd_ok, es_app, sApp_ok, es_frz, sFrz_v, sFrz_l, sFrz_d, es_aug, sAug_ok, kAug_add, kDput1_ok, kApp_ok, ev_sl1, ev_slm, kSl_ok, ev_chain, kChain1_ok, kChain3_ok, evF_dcomp, evF_comp2, kSet2, kSet3, cmp_lt_int, cmp_le_int, cmp_gt_int, cmp_ge_int, ev_neg_int, cmp_in2, cmp_in2l, cmp_in3, cmp_eq_str, cmp_ne_str, cmp_eq_int, cmp_ne_int, ixT0, ixT1, ixT2, ixT3, List.getElem?_cons_succ, List.getElem?_cons_zero, Int.cast_ofNat_Int, Nat.zero_add, Nat.reduceAdd, Int.reduceBEq, Int.natCast_one, ex_rput, sRo_f, kRput1_ok, kRput2_ok, kRput3_1, kRput3_2, kRput3_3, seen_ref0, ixL0, ixL1, ixL2, ixL3, Int.reduceLT, Int.reduceLE, decide_true, decide_false, isi_tupT, isi_intI, isi_intB, isi_intT, isi_intL, isi_intS, isi_tupL, lf_int, lf_intI, lf_lenT, lf_lenL, lf_tupL, op_addI, op_subI, kTup0, kTup1, kTup2, kTup3, kTup4, kTup5, kLst0, kLst1, kLst2, kLst3, kLst4, kLst5, beqf, List.length_cons, List.length_nil, reduceCtorEq, List.cons.injEq, Nat.reduceEqDiff, and_false, false_and, and_true, true_and, and_self, Bool.and_self, Bool.or_false, Bool.false_or, Bool.true_or, Bool.or_true, beq_self_eq_true, ne_eq, not_false_eq_true, loopS_nil, loopS_v, loopS_t2, kLoopC_next, kLoopC_ret, bodyF_eq, kComp_v, compL_nil, compL_v, kCC_ok, kCD_ok, kCompN1, kCompN2, kCompN3, wipe_nil, wipe_cons, hk, h, h2, sl3, lf_all2]
theorem isS_or {n : Nat} {ro : Bool} {SH s t : D} {L : List Cell} {k : Int} (hk : (k == 0) = false) (h : callN tab 1000 n ro 11 [SH, s, .int (k - 1)] L = .ok (.bl true) L) (h2 : callN tab 1000 n ro 11 [SH, t, .int (k - 1)] L = .ok (.bl true) L) : callN tab 1000 (n + 1) ro 11 [SH, .tup [.str [111, 114], s, t], .int k] L = .ok (.bl true) L := by
  rw [call_succ (fn := f_11) rfl, run_eq (env := [vs SH, vs (.tup [.str [111, 114], s, t]), vs (.int k), none, none]) rfl]
  simp only [f_11, ev_var, ev_non, ev_bl, ev_int, ev_str, ev_glob, evO_e, evO_pk, ev_tup, ev_fr, kFrz_ok, ev_op, kOp1_ok, kOp2_ok, ev_cmp, kCmp1_ok, kCmp2_ok, ev_not, kNot_ok, ev_and, kAnd_bl, ev_or, kOr_bl, ev_ite, kIte_ok, kIteB_t, kIteB_f, ev_ix, kIx1_ok, kIx2_ok, ev_isi, kIsi_ok, ev_bi, kBi_ok, ev_call, kCall_ok, ev_callP, kCallP_ok, ev_meth, kMeth1_ins, kMeth2_ok, ev_make, kMake_ok, kIns_ok, ev_fld, kFld_ins, evs_nil, evs_cons, kCons1_ok, kCons2_ok, evOs_nil, evOs_cons, kConsO1_ok, evF_lst, evF_dct0, evF_bi, evF_comp, evI_seq, evI_rng, kSeq_tup, kSeq_lst, opt_some, exs_nil, exs_cons, kSeqS_next, kSeqS_ret, kSeqS_exc, ex_set, kSet_v, ex_setF, kSetF_ok, ex_ite, kIteS_ok, kIteSB_t, kIteSB_f, ex_ret, kRet_ok, ex_expr, kExpr_ok, ex_loop, kLoop_ok, ex_while, fin_ret, fin_next, fin_exc, seen_tup, seen_lst, seen_str, seen_int, seen_bl, seen_non, seen_dct, seen_ins, truth_bl, slot0, slotS, rdV_val, rdP_some, List.set_cons_zero, List.set_cons_succ, frz, Option.map_some, if_true, Bool.not_true, Bool.not_false, Bool.false_eq_true, if_false, ite_true, ite_false, es_dput, sDput_ok, es_dupd, sDupd_ok, es_app, sApp_ok, es_frz, sFrz_v, sFrz_l, sFrz_d, es_aug, sAug_ok, kAug_add, kDput1_ok, kApp_ok, ev_sl1, ev_slm, kSl_ok, ev_chain, kChain1_ok, kChain3_ok, evF_dcomp, evF_comp2, kSet2, kSet3, cmp_lt_int, cmp_le_int, cmp_gt_int, cmp_ge_int, ev_neg_int, cmp_in2, cmp_in2l, cmp_in3, cmp_eq_str, cmp_ne_str, cmp_eq_int, cmp_ne_int, ixT0, ixT1, ixT2, ixT3, List.getElem?_cons_succ, List.getElem?_cons_zero, Int.cast_ofNat_Int, Nat.zero_add, Nat.reduceAdd, Int.reduceBEq, Int.natCast_one, ex_rput, sRo_f, kRput1_ok, kRput2_ok, kRput3_1, kRput3_2, kRput3_3, seen_ref0, ixL0, ixL1, ixL2, ixL3, Int.reduceLT, Int.reduceLE, decide_true, decide_false, isi_tupT, isi_intI, isi_intB, isi_intT, isi_intL, isi_intS, isi_tupL, lf_int, lf_intI, lf_lenT, lf_lenL, lf_tupL, op_addI, op_subI, kTup0, kTup1, kTup2, kTup3, kTup4, kTup5, kLst0, kLst1, kLst2, kLst3, kLst4, kLst5, beqf, List.length_cons, List.length_nil, reduceCtorEq, List.cons.injEq, Nat.reduceEqDiff, and_false, false_and, and_true, true_and, and_self, Bool.and_self, Bool.or_false, Bool.false_or, Bool.true_or, Bool.or_true, beq_self_eq_true, ne_eq, not_false_eq_true, loopS_nil, loopS_v, loopS_t2, kLoopC_next, kLoopC_ret, bodyF_eq, kComp_v, compL_nil, compL_v, kCC_ok, kCD_ok, kCompN1, kCompN2, kCompN3, wipe_nil, wipe_cons, hk, h, h2, sl3, lf_all2]
theorem isS_some {n : Nat} {ro : Bool} {SH s : D} {L : List Cell} {k : Int} {x : Nat} (hk : (k == 0) = false) (hx : x ∈ [120, 121, 122]) (h : callN tab 1000 (n + 1) ro 11 [SH, s, .int (k - 1)] L = .ok (.bl true) L) : callN tab 1000 (n + 2) ro 11 [SH, .tup [.str [115, 111, 109, 101], vD x, s], .int k] L = .ok (.bl true) L := by
  rw [call_succ (fn := f_11) rfl, run_eq (env := [vs SH, vs (.tup [.str [115, 111, 109, 101], vD x, s]), vs (.int k), none, none]) rfl]
  simp only [f_11, ev_var, ev_non, ev_bl, ev_int, ev_str, ev_glob, evO_e, evO_pk, ev_tup, ev_fr, kFrz_ok, ev_op, kOp1_ok, kOp2_ok, ev_cmp, kCmp1_ok, kCmp2_ok, ev_not, kNot_ok, ev_and, kAnd_bl, ev_or, kOr_bl, ev_ite, kIte_ok, kIteB_t, kIteB_f, ev_ix, kIx1_ok, kIx2_ok, ev_isi, kIsi_ok, ev_bi, kBi_ok, ev_call, kCall_ok, ev_callP, kCallP_ok, ev_meth, kMeth1_ins, kMeth2_ok, ev_make, kMake_ok, kIns_ok, ev_fld, kFld_ins, evs_nil, evs_cons, kCons1_ok, kCons2_ok, evOs_nil, evOs_cons, kConsO1_ok, evF_lst, evF_dct0, evF_bi, evF_comp, evI_seq, evI_rng, kSeq_tup, kSeq_lst, opt_some, exs_nil, exs_cons, kSeqS_next, kSeqS_ret, kSeqS_exc, ex_set, kSet_v, ex_setF, kSetF_ok, ex_ite, kIteS_ok, kIteSB_t, kIteSB_f, ex_ret, kRet_ok, ex_expr, kExpr_ok, ex_loop, kLoop_ok, ex_while, fin_ret, fin_next, fin_exc, seen_tup, seen_lst, seen_str, seen_int, seen_bl, seen_non, seen_dct, seen_ins, truth_bl, slot0, slotS, rdV_val, rdP_some, List.set_cons_zero, List.set_cons_succ, frz, Option.map_some, if_true, Bool.not_true, Bool.not_false, Bool.false_eq_true, if_false, ite_true, ite_false, es_dput, sDput_ok, es_dupd, sDupd_ok, es_app, sApp_ok, es_frz, sFrz_v, sFrz_l, sFrz_d, es_aug, sAug_ok, kAug_add, kDput1_ok, kApp_ok, ev_sl1, ev_slm, kSl_ok, ev_chain, kChain1_ok, kChain3_ok, evF_dcomp, evF_comp2, kSet2, kSet3, cmp_lt_int, cmp_le_int, cmp_gt_int, cmp_ge_int, ev_neg_int, cmp_in2, cmp_in2l, cmp_in3, cmp_eq_str, cmp_ne_str, cmp_eq_int, cmp_ne_int, ixT0, ixT1, ixT2, ixT3, List.getElem?_cons_succ, List.getElem?_cons_zero, Int.cast_ofNat_Int, Nat.zero_add, Nat.reduceAdd, Int.reduceBEq, Int.natCast_one, ex_rput, sRo_f, kRput1_ok, kRput2_ok, kRput3_1, kRput3_2, kRput3_3, seen_ref0, ixL0, ixL1, ixL2, ixL3, Int.reduceLT, Int.reduceLE, decide_true, decide_false, isi_tupT, isi_intI, isi_intB, isi_intT, isi_intL, isi_intS, isi_tupL, lf_int, lf_intI, lf_lenT, lf_lenL, lf_tupL, op_addI, op_subI, kTup0, kTup1, kTup2, kTup3, kTup4, kTup5, kLst0, kLst1, kLst2, kLst3, kLst4, kLst5, beqf, List.length_cons, List.length_nil, reduceCtorEq, List.cons.injEq, Nat.reduceEqDiff, and_false, false_and, and_true, true_and, and_self, Bool.and_self, Bool.or_false, Bool.false_or, Bool.true_or, Bool.or_true, beq_self_eq_true, ne_eq, not_false_eq_true, hk, h, name_ok hx]
theorem isS_all {n : Nat} {ro : Bool} {SH s : D} {L : List Cell} {k : Int} {x : Nat} (hk : (k == 0) = false) (hx : x ∈ [120, 121, 122]) (h : callN tab 1000 (n + 1) ro 11 [SH, s, .int (k - 1)] L = .ok (.bl true) L) : callN tab 1000 (n + 2) ro 11 [SH, .tup [.str [97, 108, 108], vD x, s], .int k] L = .ok (.bl true) L := by
  rw [call_succ (fn := f_11) rfl, run_eq (env := [vs SH, vs (.tup [.str [97, 108, 108], vD x, s]), vs (.int k), none, none]) rfl]
  simp only [f_11, ev_var, ev_non, ev_bl, ev_int, ev_str, ev_glob, evO_e, evO_pk, ev_tup, ev_fr, kFrz_ok, ev_op, kOp1_ok, kOp2_ok, ev_cmp, kCmp1_ok, kCmp2_ok, ev_not, kNot_ok, ev_and, kAnd_bl, ev_or, kOr_bl, ev_ite, kIte_ok, kIteB_t, kIteB_f, ev_ix, kIx1_ok, kIx2_ok, ev_isi, kIsi_ok, ev_bi, kBi_ok, ev_call, kCall_ok, ev_callP, kCallP_ok, ev_meth, kMeth1_ins, kMeth2_ok, ev_make, kMake_ok, kIns_ok, ev_fld, kFld_ins, evs_nil, evs_cons, kCons1_ok, kCons2_ok, evOs_nil, evOs_cons, kConsO1_ok, evF_lst, evF_dct0, evF_bi, evF_comp, evI_seq, evI_rng, kSeq_tup, kSeq_lst, opt_some, exs_nil, exs_cons, kSeqS_next, kSeqS_ret, kSeqS_exc, ex_set, kSet_v, ex_setF, kSetF_ok, ex_ite, kIteS_ok, kIteSB_t, kIteSB_f, ex_ret, kRet_ok, ex_expr, kExpr_ok, ex_loop, kLoop_ok, ex_while, fin_ret, fin_next, fin_exc, seen_tup, seen_lst, seen_str, seen_int, seen_bl, seen_non, seen_dct, seen_ins, truth_bl, slot0, slotS, rdV_val, rdP_some, List.set_cons_zero, List.set_cons_succ, frz, Option.map_some, if_true, Bool.not_true, Bool.not_false, Bool.false_eq_true, if_false, ite_true, ite_false, es_dput, sDput_ok, es_dupd, sDupd_ok, es_app, sApp_ok, es_frz, sFrz_v, sFrz_l, sFrz_d, es_aug, sAug_ok, kAug_add, kDput1_ok, kApp_ok, ev_sl1, ev_slm, kSl_ok, ev_chain, kChain1_ok, kChain3_ok, evF_dcomp, evF_comp2, kSet2, kSet3, cmp_lt_int, cmp_le_int, cmp_gt_int, cmp_ge_int, ev_neg_int, cmp_in2, cmp_in2l, cmp_in3, cmp_eq_str, cmp_ne_str, cmp_eq_int, cmp_ne_int, ixT0, ixT1, ixT2, ixT3, List.getElem?_cons_succ, List.getElem?_cons_zero, Int.cast_ofNat_Int, Nat.zero_add, Nat.reduceAdd, Int.reduceBEq, Int.natCast_one, ex_rput, sRo_f, kRput1_ok, kRput2_ok, kRput3_1, kRput3_2, kRput3_3, seen_ref0, ixL0, ixL1, ixL2, ixL3, Int.reduceLT, Int.reduceLE, decide_true, decide_false, isi_tupT, isi_intI, isi_intB, isi_intT, isi_intL, isi_intS, isi_tupL, lf_int, lf_intI, lf_lenT, lf_lenL, lf_tupL, op_addI, op_subI, kTup0, kTup1, kTup2, kTup3, kTup4, kTup5, kLst0, kLst1, kLst2, kLst3, kLst4, kLst5, beqf, List.length_cons, List.length_nil, reduceCtorEq, List.cons.injEq, Nat.reduceEqDiff, and_false, false_and, and_true, true_and, and_self, Bool.and_self, Bool.or_false, Bool.false_or, Bool.true_or, Bool.or_true, beq_self_eq_true, ne_eq, not_false_eq_true, hk, h, name_ok hx]
theorem isInt_ok {n : Nat} {ro : Bool} {L : List Cell} {k : Int} : callN tab 1000 (n + 1) ro 1 [.int k] L = .ok (.bl true) L := by kernel_rfl
theorem isS_many {n j : Nat} {ro : Bool} {SH s : D} {L : List Cell} {k : Int} {x : Nat} (hk : (k == 0) = false) (hj : j < 4) (hx : x ∈ [120, 121, 122]) (h : callN tab 1000 (n + 1) ro 11 [SH, s, .int (k - 1)] L = .ok (.bl true) L) : callN tab 1000 (n + 2) ro 11 [SH, .tup [.str [109, 97, 110, 121], .int j, vD x, s], .int k] L = .ok (.bl true) L := by
  rw [call_succ (fn := f_11) rfl, run_eq (env := [vs SH, vs (.tup [.str [109, 97, 110, 121], .int j, vD x, s]), vs (.int k), none, none]) rfl]
  have h1 : cmpD .le (.int 0) (.int j) = some true := by simp [cmpD]
  have h2 : decide ((j : Int) ≤ 40) = true := by simp; omega
  simp only [f_11, ev_var, ev_non, ev_bl, ev_int, ev_str, ev_glob, evO_e, evO_pk, ev_tup, ev_fr, kFrz_ok, ev_op, kOp1_ok, kOp2_ok, ev_cmp, kCmp1_ok, kCmp2_ok, ev_not, kNot_ok, ev_and, kAnd_bl, ev_or, kOr_bl, ev_ite, kIte_ok, kIteB_t, kIteB_f, ev_ix, kIx1_ok, kIx2_ok, ev_isi, kIsi_ok, ev_bi, kBi_ok, ev_call, kCall_ok, ev_callP, kCallP_ok, ev_meth, kMeth1_ins, kMeth2_ok, ev_make, kMake_ok, kIns_ok, ev_fld, kFld_ins, evs_nil, evs_cons, kCons1_ok, kCons2_ok, evOs_nil, evOs_cons, kConsO1_ok, evF_lst, evF_dct0, evF_bi, evF_comp, evI_seq, evI_rng, kSeq_tup, kSeq_lst, opt_some, exs_nil, exs_cons, kSeqS_next, kSeqS_ret, kSeqS_exc, ex_set, kSet_v, ex_setF, kSetF_ok, ex_ite, kIteS_ok, kIteSB_t, kIteSB_f, ex_ret, kRet_ok, ex_expr, kExpr_ok, ex_loop, kLoop_ok, ex_while, fin_ret, fin_next, fin_exc, seen_tup, seen_lst, seen_str, seen_int, seen_bl, seen_non, seen_dct, seen_ins, truth_bl, slot0, slotS, rdV_val, rdP_some, List.set_cons_zero, List.set_cons_succ, frz, Option.map_some, if_true, Bool.not_true, Bool.not_false, Bool.false_eq_true, if_false, ite_true, ite_false, es_dput, sDput_ok, es_dupd, sDupd_ok, es_app, sApp_ok, es_frz, sFrz_v, sFrz_l, sFrz_d, es_aug, sAug_ok, kAug_add, kDput1_ok, kApp_ok, ev_sl1, ev_slm, kSl_ok, ev_chain, kChain1_ok, kChain3_ok, evF_dcomp, evF_comp2, kSet2, kSet3, cmp_lt_int, cmp_le_int, cmp_gt_int, cmp_ge_int, ev_neg_int, cmp_in2, cmp_in2l, cmp_in3, cmp_eq_str, cmp_ne_str, cmp_eq_int, cmp_ne_int, ixT0, ixT1, ixT2, ixT3, List.getElem?_cons_succ, List.getElem?_cons_zero, Int.cast_ofNat_Int, Nat.zero_add, Nat.reduceAdd, Int.reduceBEq, Int.natCast_one, ex_rput, sRo_f, kRput1_ok, kRput2_ok, kRput3_1, kRput3_2, kRput3_3, seen_ref0, ixL0, ixL1, ixL2, ixL3, Int.reduceLT, Int.reduceLE, decide_true, decide_false, isi_tupT, isi_intI, isi_intB, isi_intT, isi_intL, isi_intS, isi_tupL, lf_int, lf_intI, lf_lenT, lf_lenL, lf_tupL, op_addI, op_subI, kTup0, kTup1, kTup2, kTup3, kTup4, kTup5, kLst0, kLst1, kLst2, kLst3, kLst4, kLst5, beqf, List.length_cons, List.length_nil, reduceCtorEq, List.cons.injEq, Nat.reduceEqDiff, and_false, false_and, and_true, true_and, and_self, Bool.and_self, Bool.or_false, Bool.false_or, Bool.true_or, Bool.or_true, beq_self_eq_true, ne_eq, not_false_eq_true, hk, h, name_ok hx, isInt_ok, kChain2_t h1, h2]
theorem lf_allT {xs : List Nat} : leafD (bi1 .all (.lst (xs.map fun _ => .bl true))) = some (.bl true) := by
  have h : ∀ xs : List Nat, bools (xs.map fun _ => D.bl true) = some (xs.map fun _ => true) := by
    intro xs
    induction xs with
    | nil => rfl
    | cons x xs ih => simp only [List.map_cons, bools, ih, Option.map_some]
  simp only [bi1, h, Option.map_some]
  show some _ = _
  rw [show ((xs.map fun _ => true).all id) = true from by simp]
theorem comp_name {n : Nat} {ro : Bool} {L : List Cell} {env : Env} {xs : List Nat} (hx : ∀ x ∈ xs, x ∈ [120, 121, 122]) (hl : xs.length ≤ line) (hs : ∀ d : D, slot ((wipe env [4]).set 4 (some (.val d))) 4 = some (.val d)) :
    kComp ⟨callN tab 1000 (n + 1), initP tab 1000 (n + 1), ro, 1000⟩ [4] (.call 2 (.cons (.var 4) .nil)) (.v 4) .none env (.ok (xs.map vD) L) = .ok (.olst (xs.map fun _ => .bl true)) L := by
  rw [kComp_v]
  have : ∀ xs : List Nat, (∀ x ∈ xs, x ∈ [120, 121, 122]) → compL (.v 4) (evB ⟨callN tab 1000 (n + 1), initP tab 1000 (n + 1), ro, 1000⟩ .none) (ev ⟨callN tab 1000 (n + 1), initP tab 1000 (n + 1), ro, 1000⟩ (.call 2 (.cons (.var 4) .nil))) (wipe env [4]) (xs.map vD) L = .ok (xs.map fun _ => .bl true) L := by
    intro xs
    induction xs with
    | nil => intro _; rfl
    | cons x xs ih =>
      intro hx
      have h1 : callN tab 1000 (n + 1) ro 2 [vD x] L = .ok (.bl true) L := name_ok (hx x List.mem_cons_self)
      have h2 := ih fun y m => hx y (List.mem_cons_of_mem _ m)
      simp only [List.map_cons, compL_v, ev_var, ev_non, ev_bl, ev_int, ev_str, ev_glob, evO_e, evO_pk, ev_tup, ev_fr, kFrz_ok, ev_op, kOp1_ok, kOp2_ok, ev_cmp, kCmp1_ok, kCmp2_ok, ev_not, kNot_ok, ev_and, kAnd_bl, ev_or, kOr_bl, ev_ite, kIte_ok, kIteB_t, kIteB_f, ev_ix, kIx1_ok, kIx2_ok, ev_isi, kIsi_ok, ev_bi, kBi_ok, ev_call, kCall_ok, ev_callP, kCallP_ok, ev_meth, kMeth1_ins, kMeth2_ok, ev_make, kMake_ok, kIns_ok, ev_fld, kFld_ins, evs_nil, evs_cons, kCons1_ok, kCons2_ok, evOs_nil, evOs_cons, kConsO1_ok, evF_lst, evF_dct0, evF_bi, evF_comp, evI_seq, evI_rng, kSeq_tup, kSeq_lst, opt_some, exs_nil, exs_cons, kSeqS_next, kSeqS_ret, kSeqS_exc, ex_set, kSet_v, ex_setF, kSetF_ok, ex_ite, kIteS_ok, kIteSB_t, kIteSB_f, ex_ret, kRet_ok, ex_expr, kExpr_ok, ex_loop, kLoop_ok, ex_while, fin_ret, fin_next, fin_exc, seen_tup, seen_lst, seen_str, seen_int, seen_bl, seen_non, seen_dct, seen_ins, truth_bl, slot0, slotS, rdV_val, rdP_some, List.set_cons_zero, List.set_cons_succ, frz, Option.map_some, if_true, Bool.not_true, Bool.not_false, Bool.false_eq_true, if_false, ite_true, ite_false, hs, h1, kCC_ok, h2, kCD_ok]
  rw [this xs hx]
  show sized _ _ _ = _
  unfold sized
  rw [if_pos (by simpa using hl)]
theorem isS_rel {rels : List (Txt × Nat)} {n : Nat} {ro : Bool} {SH : D} {L : List Cell} {k : Int} {r : Txt} {xs : List Nat} (hS : ShOk rels SH) (hk : (k == 0) = false) (hr : (r, xs.length) ∈ rels) (hl : xs.length ≤ line) (hx : ∀ x ∈ xs, x ∈ [120, 121, 122]) :
    callN tab 1000 (n + 2) ro 11 [SH, .tup [.str [114, 101, 108], .str r, .tup (xs.map vD)], .int k] L = .ok (.bl true) L := by
  rw [call_succ (fn := f_11) rfl, run_eq (env := [vs SH, vs (.tup [.str [114, 101, 108], .str r, .tup (xs.map vD)]), vs (.int k), none, none]) rfl]
  obtain ⟨v, hv⟩ := hS.cls
  have h1 : callN tab 1000 (n + 1) ro 2 [.str r] L = .ok (.bl true) L := hS.name (r := (r, xs.length)) hr
  have h2 : callN tab 1000 (n + 1) ro 4 [SH, .str r] L = .ok (.int xs.length) L := hS.places (r := (r, xs.length)) hr
  subst hv
  have hc : ∀ w : Option S, kComp ⟨callN tab 1000 (n + 1), initP tab 1000 (n + 1), ro, 1000⟩ [4] (.call 2 (.cons (.var 4) .nil)) (.v 4) .none [vs (.ins 5 v), vs (.tup [.str [114, 101, 108], .str r, .tup (xs.map vD)]), vs (.int k), w, none] (.ok (xs.map vD) L) = .ok (.olst (xs.map fun _ => .bl true)) L := fun w => comp_name hx hl fun d => rfl
  simp only [f_11, ev_var, ev_non, ev_bl, ev_int, ev_str, ev_glob, evO_e, evO_pk, ev_tup, ev_fr, kFrz_ok, ev_op, kOp1_ok, kOp2_ok, ev_cmp, kCmp1_ok, kCmp2_ok, ev_not, kNot_ok, ev_and, kAnd_bl, ev_or, kOr_bl, ev_ite, kIte_ok, kIteB_t, kIteB_f, ev_ix, kIx1_ok, kIx2_ok, ev_isi, kIsi_ok, ev_bi, kBi_ok, ev_call, kCall_ok, ev_callP, kCallP_ok, ev_meth, kMeth1_ins, kMeth2_ok, ev_make, kMake_ok, kIns_ok, ev_fld, kFld_ins, evs_nil, evs_cons, kCons1_ok, kCons2_ok, evOs_nil, evOs_cons, kConsO1_ok, evF_lst, evF_dct0, evF_bi, evF_comp, evI_seq, evI_rng, kSeq_tup, kSeq_lst, opt_some, exs_nil, exs_cons, kSeqS_next, kSeqS_ret, kSeqS_exc, ex_set, kSet_v, ex_setF, kSetF_ok, ex_ite, kIteS_ok, kIteSB_t, kIteSB_f, ex_ret, kRet_ok, ex_expr, kExpr_ok, ex_loop, kLoop_ok, ex_while, fin_ret, fin_next, fin_exc, seen_tup, seen_lst, seen_str, seen_int, seen_bl, seen_non, seen_dct, seen_ins, truth_bl, slot0, slotS, rdV_val, rdP_some, List.set_cons_zero, List.set_cons_succ, frz, Option.map_some, if_true, Bool.not_true, Bool.not_false, Bool.false_eq_true, if_false, ite_true, ite_false, es_dput, sDput_ok, es_dupd, sDupd_ok, es_app, sApp_ok, es_frz, sFrz_v, sFrz_l, sFrz_d, es_aug, sAug_ok, kAug_add, kDput1_ok, kApp_ok, ev_sl1, ev_slm, kSl_ok, ev_chain, kChain1_ok, kChain3_ok, evF_dcomp, evF_comp2, kSet2, kSet3, cmp_lt_int, cmp_le_int, cmp_gt_int, cmp_ge_int, ev_neg_int, cmp_in2, cmp_in2l, cmp_in3, cmp_eq_str, cmp_ne_str, cmp_eq_int, cmp_ne_int, ixT0, ixT1, ixT2, ixT3, List.getElem?_cons_succ, List.getElem?_cons_zero, Int.cast_ofNat_Int, Nat.zero_add, Nat.reduceAdd, Int.reduceBEq, Int.natCast_one, ex_rput, sRo_f, kRput1_ok, kRput2_ok, kRput3_1, kRput3_2, kRput3_3, seen_ref0, ixL0, ixL1, ixL2, ixL3, Int.reduceLT, Int.reduceLE, decide_true, decide_false, isi_tupT, isi_intI, isi_intB, isi_intT, isi_intL, isi_intS, isi_tupL, lf_int, lf_intI, lf_lenT, lf_lenL, lf_tupL, op_addI, op_subI, kTup0, kTup1, kTup2, kTup3, kTup4, kTup5, kLst0, kLst1, kLst2, kLst3, kLst4, kLst5, beqf, List.length_cons, List.length_nil, reduceCtorEq, List.cons.injEq, Nat.reduceEqDiff, and_false, false_and, and_true, true_and, and_self, Bool.and_self, Bool.or_false, Bool.false_or, Bool.true_or, Bool.or_true, beq_self_eq_true, ne_eq, not_false_eq_true, hk, h1, h2, hc, lf_allT, List.length_map]
theorem isS_ok {rels : List (Txt × Nat)} {SH : D} (hS : ShOk rels SH) (hr : ∀ r ∈ rels, r.2 ≤ 3) {Γ : List Nat} {d : Nat} {s : Sn} (h : Wf rels Γ d s) :
    (∀ x ∈ Γ, x ∈ [120, 121, 122]) → ∀ {n : Nat} {ro : Bool} {L : List Cell} {k : Int}, (d : Int) < k → callN tab 1000 (n + d + 2) ro 11 [SH, s.toD, .int k] L = .ok (.bl true) L := by
  induction h with
  | yes => intro _ n ro L k hk; exact isS_yes (by simp; omega)
  | same h1 h2 => intro hΓ n ro L k hk; exact isS_same (by simp; omega) (hΓ _ h1) (hΓ _ h2)
  | rel h1 h2 =>
    intro hΓ n ro L k hk
    have := hr _ h1
    exact isS_rel hS (by simp; omega) h1 (by unfold line; simp at this; omega) fun x m => hΓ x (h2 x m)
  | not _ ih => intro hΓ n ro L k hk; exact isS_not (by simp; omega) (ih hΓ (by omega))
  | and _ _ i1 i2 => intro hΓ n ro L k hk; exact isS_and (by simp; omega) (i1 hΓ (by omega)) (i2 hΓ (by omega))
  | or _ _ i1 i2 => intro hΓ n ro L k hk; exact isS_or (by simp; omega) (i1 hΓ (by omega)) (i2 hΓ (by omega))
  | some hx _ ih => intro hΓ n ro L k hk; exact isS_some (by simp; omega) hx (ih (fun y m => by
      rcases List.mem_cons.mp m with rfl | m
      · exact hx
      · exact hΓ y m) (by omega))
  | all hx _ ih => intro hΓ n ro L k hk; exact isS_all (by simp; omega) hx (ih (fun y m => by
      rcases List.mem_cons.mp m with rfl | m
      · exact hx
      · exact hΓ y m) (by omega))
  | many hj hx _ ih => intro hΓ n ro L k hk; exact isS_many (by simp; omega) hj hx (ih (fun y m => by
      rcases List.mem_cons.mp m with rfl | m
      · exact hx
      · exact hΓ y m) (by omega))
theorem look_ok {rels : List (Txt × Nat)} {SH : D} (hS : ShOk rels SH) (hr : ∀ r ∈ rels, r.2 ≤ 3) {d : Nat} {s : Sn} (h : Wf rels [] d s) (hd : d < 300) {n : Nat} {ro : Bool} {L : List Cell} : callN tab 1000 (n + d + 3) ro 12 [SH, s.toD] L = .ok .non L := by
  rw [call_succ (fn := f_12) rfl, run_eq (env := [vs SH, vs s.toD]) rfl]
  have h1 : callN tab 1000 (n + d + 2) ro 11 [SH, s.toD] L = .ok (.bl true) L := by
    have h0 : callN tab 1000 (n + d + 2) ro 11 [SH, s.toD, .int 300] L = .ok (.bl true) L := isS_ok (ro := ro) (L := L) (k := 300) hS hr h (fun _ m => by simp at m) (by omega)
    rw [call_succ (fn := f_11) rfl, run_eq (env := [vs SH, vs s.toD, vs (.int 300), none, none]) rfl] at h0 ⊢
    exact h0
  simp only [f_12, ev_var, ev_non, ev_bl, ev_int, ev_str, ev_glob, evO_e, evO_pk, ev_tup, ev_fr, kFrz_ok, ev_op, kOp1_ok, kOp2_ok, ev_cmp, kCmp1_ok, kCmp2_ok, ev_not, kNot_ok, ev_and, kAnd_bl, ev_or, kOr_bl, ev_ite, kIte_ok, kIteB_t, kIteB_f, ev_ix, kIx1_ok, kIx2_ok, ev_isi, kIsi_ok, ev_bi, kBi_ok, ev_call, kCall_ok, ev_callP, kCallP_ok, ev_meth, kMeth1_ins, kMeth2_ok, ev_make, kMake_ok, kIns_ok, ev_fld, kFld_ins, evs_nil, evs_cons, kCons1_ok, kCons2_ok, evOs_nil, evOs_cons, kConsO1_ok, evF_lst, evF_dct0, evF_bi, evF_comp, evI_seq, evI_rng, kSeq_tup, kSeq_lst, opt_some, exs_nil, exs_cons, kSeqS_next, kSeqS_ret, kSeqS_exc, ex_set, kSet_v, ex_setF, kSetF_ok, ex_ite, kIteS_ok, kIteSB_t, kIteSB_f, ex_ret, kRet_ok, ex_expr, kExpr_ok, ex_loop, kLoop_ok, ex_while, fin_ret, fin_next, fin_exc, seen_tup, seen_lst, seen_str, seen_int, seen_bl, seen_non, seen_dct, seen_ins, truth_bl, slot0, slotS, rdV_val, rdP_some, List.set_cons_zero, List.set_cons_succ, frz, Option.map_some, if_true, Bool.not_true, Bool.not_false, Bool.false_eq_true, if_false, ite_true, ite_false, es_dput, sDput_ok, es_dupd, sDupd_ok, es_app, sApp_ok, es_frz, sFrz_v, sFrz_l, sFrz_d, es_aug, sAug_ok, kAug_add, kDput1_ok, kApp_ok, ev_sl1, ev_slm, kSl_ok, ev_chain, kChain1_ok, kChain3_ok, evF_dcomp, evF_comp2, kSet2, kSet3, cmp_lt_int, cmp_le_int, cmp_gt_int, cmp_ge_int, ev_neg_int, cmp_in2, cmp_in2l, cmp_in3, cmp_eq_str, cmp_ne_str, cmp_eq_int, cmp_ne_int, ixT0, ixT1, ixT2, ixT3, List.getElem?_cons_succ, List.getElem?_cons_zero, Int.cast_ofNat_Int, Nat.zero_add, Nat.reduceAdd, Int.reduceBEq, Int.natCast_one, ex_rput, sRo_f, kRput1_ok, kRput2_ok, kRput3_1, kRput3_2, kRput3_3, seen_ref0, ixL0, ixL1, ixL2, ixL3, Int.reduceLT, Int.reduceLE, decide_true, decide_false, isi_tupT, isi_intI, isi_intB, isi_intT, isi_intL, isi_intS, isi_tupL, lf_int, lf_intI, lf_lenT, lf_lenL, lf_tupL, op_addI, op_subI, kTup0, kTup1, kTup2, kTup3, kTup4, kTup5, kLst0, kLst1, kLst2, kLst3, kLst4, kLst5, beqf, List.length_cons, List.length_nil, reduceCtorEq, List.cons.injEq, Nat.reduceEqDiff, and_false, false_and, and_true, true_and, and_self, Bool.and_self, Bool.or_false, Bool.false_or, Bool.true_or, Bool.or_true, beq_self_eq_true, ne_eq, not_false_eq_true, h1]
end k73s

set_option linter.all false
set_option maxRecDepth 100000
namespace k73s
open Wa
open k73 (tab lawNo f_1 f_2 f_3 f_4 f_5 f_6 f_7 f_8 f_9 f_10 f_11 f_12 f_13 f_14 f_15 f_16 f_17 f_18 f_19 f_20 f_21 f_22 f_23 f_24 f_25 f_26 f_27 f_28 f_29 f_30 f_31 f_32)
/-! ### names that occur -/
theorem putK_v {x : Nat} {v : D} : ∀ {ks : List Nat} {ws : List D}, ∃ (ks' : List Nat) (ws' : List D), putK (vD x) v (ks.map vD) ws = (ks'.map vD, ws') ∧ (∀ k ∈ ks', k = x ∨ k ∈ ks) ∧ ks'.length ≤ ks.length + 1
  | [], ws => ⟨[x], [v], by cases ws <;> rfl, by simp, by simp⟩
  | k :: ks, [] => ⟨[x], [v], rfl, by simp, by simp⟩
  | k :: ks, w :: ws => by
    obtain ⟨ks', ws', e, h1, h2⟩ := @putK_v x v ks ws
    by_cases h : D.eqv (vD k) (vD x) = true
    · refine ⟨k :: ks, v :: ws, by simp [putK, h], fun y m => .inr m, by simp⟩
    · refine ⟨k :: ks', w :: ws', by simp [putK, h, e], fun y m => ?_, by simp; omega⟩
      rcases List.mem_cons.mp m with rfl | m
      · exact .inr List.mem_cons_self
      · rcases h1 y m with h | h
        · exact .inl h
        · exact .inr (List.mem_cons_of_mem _ h)
theorem strsV {ks : List Nat} : ∀ k ∈ ks.map vD, ∃ s, k = .str s := by
  intro k m
  obtain ⟨x, _, rfl⟩ := List.mem_map.mp m
  exact ⟨_, rfl⟩
theorem putAll_v : ∀ {xs ks : List Nat} {ys ws : List D}, ks.length + xs.length < line → ∃ (ks' : List Nat) (ws' : List D), putAll (xs.map vD) ys (ks.map vD) ws = some (ks'.map vD, ws') ∧ (∀ k ∈ ks', k ∈ ks ∨ k ∈ xs) ∧ ks'.length ≤ ks.length + xs.length
  | [], ks, ys, ws, _ => ⟨ks, ws, by cases ys <;> rfl, fun k m => .inl m, by simp⟩
  | x :: xs, ks, [], ws, _ => ⟨ks, ws, rfl, fun k m => .inl m, by simp⟩
  | x :: xs, ks, y :: ys, ws, hl => by
    simp only [List.length_cons] at hl
    obtain ⟨ks1, ws1, e, h1, h2⟩ := @putK_v x y ks ws
    obtain ⟨ks2, ws2, e2, h3, h4⟩ := @putAll_v xs ks1 ys ws1 (by omega)
    refine ⟨ks2, ws2, ?_, fun k m => ?_, by simp; omega⟩
    · show (match putC (vD x) y (ks.map vD) ws with | some r => putAll (xs.map vD) ys r.1 r.2 | none => none) = _
      rw [putC_env strsV (by simp; omega), e]
      exact e2
    · rcases h3 k m with h | h
      · rcases h1 k h with h | h
        · exact .inr (h ▸ List.mem_cons_self)
        · exact .inl h
      · exact .inr (List.mem_cons_of_mem _ h)
theorem dcomp_v {G : Cfg} {own : List Nat} {i : Nat} {tst : CEo} {env : Env} {xs : List Nat} {L : List Cell} {p : Nat → Bool} (h : ∀ x ∈ xs, evB G tst ((wipe env own).set i (some (.val (vD x)))) L = .ok (p x) L)
    (hs : ∀ d : D, slot ((wipe env own).set i (some (.val d))) i = some (.val d)) (hl : xs.length < line) :
    ∃ (ks : List Nat) (ws : List D), kDcomp G own (.var i) (.bl true) (.v i) tst env (.ok (xs.map vD) L) = .ok (.odct (ks.map vD) ws) L ∧ (∀ k ∈ ks, k ∈ xs ∧ p k = true) ∧ ks.length ≤ xs.length := by
  have hq : ∀ xs : List Nat, (∀ x ∈ xs, evB G tst ((wipe env own).set i (some (.val (vD x)))) L = .ok (p x) L) → compL (.v i) (evB G tst) (fun env L => (ev G (.var i) env L).bind fun x L => (ev G (.bl true) env L).bind fun y L => .ok (x, y) L) (wipe env own) (xs.map vD) L = .ok ((xs.filter p).map fun x => (vD x, D.bl true)) L := by
    intro xs
    induction xs with
    | nil => intro _; rfl
    | cons x xs ih =>
      intro h
      have h1 := h x List.mem_cons_self
      have h2 := ih fun y m => h y (List.mem_cons_of_mem _ m)
      show (evB G tst ((wipe env own).set i (some (.val (vD x)))) L).bind _ = _
      rw [h1]
      cases hp : p x with
      | false =>
        rw [List.filter_cons_of_neg (by simp [hp])]
        exact h2
      | true =>
        rw [List.filter_cons_of_pos hp]
        show ((ev G (.var i) ((wipe env own).set i (some (.val (vD x)))) L).bind _).bind _ = _
        rw [ev_var, hs]
        show (compL _ _ _ _ (xs.map vD) L).bind _ = _
        rw [h2]
        rfl
  have hf : (xs.filter p).length ≤ xs.length := List.length_filter_le _ _
  obtain ⟨ks, ws, e, h1, h2⟩ := @putAll_v (xs.filter p) [] ((xs.filter p).map fun _ => .bl true) [] (by simp; omega)
  refine ⟨ks, ws, ?_, fun k m => ?_, by simp at h2; omega⟩
  · show (nox (compL _ _ _ _ _ _)).bind _ = _
    rw [hq xs h]
    show (opt (putAll (((xs.filter p).map fun x => (vD x, D.bl true)).map (·.1)) (((xs.filter p).map fun x => (vD x, D.bl true)).map (·.2)) [] []) L).bind _ = _
    rw [List.map_map, List.map_map]
    have e' : putAll ((xs.filter p).map ((·.1) ∘ fun x => (vD x, D.bl true))) ((xs.filter p).map ((·.2) ∘ fun x => (vD x, D.bl true))) [] [] = some (ks.map vD, ws) := e
    rw [e']
    rfl
  · rcases h1 k m with h | h
    · simp at h
    · exact List.mem_filter.mp h
theorem insR_v {x : Nat} : ∀ {ks : List Nat}, ∃ ks' : List Nat, sortD.insR (vD x) (ks.map vD) = ks'.map vD ∧ (∀ k ∈ ks', k = x ∨ k ∈ ks) ∧ ks'.length = ks.length + 1
  | [] => ⟨[x], rfl, by simp, rfl⟩
  | k :: ks => by
    obtain ⟨ks', e, h1, h2⟩ := @insR_v x ks
    by_cases h : D.ltb (vD k) (vD x) = true
    · refine ⟨k :: ks', by simp [sortD.insR, h, e], fun y m => ?_, by simp; omega⟩
      rcases List.mem_cons.mp m with rfl | m
      · exact .inr List.mem_cons_self
      · rcases h1 y m with h | h
        · exact .inl h
        · exact .inr (List.mem_cons_of_mem _ h)
    · refine ⟨x :: k :: ks, by simp [sortD.insR, h], fun y m => ?_, by simp⟩
      rcases List.mem_cons.mp m with rfl | m
      · exact .inl rfl
      · exact .inr m
theorem sort_v : ∀ {ks : List Nat}, ∃ ks' : List Nat, sortD (ks.map vD) = ks'.map vD ∧ (∀ k ∈ ks', k ∈ ks) ∧ ks'.length = ks.length
  | [] => ⟨[], rfl, by simp, rfl⟩
  | k :: ks => by
    obtain ⟨ks1, e1, h1, h2⟩ := @sort_v ks
    obtain ⟨ks2, e2, h3, h4⟩ := @insR_v k ks1
    refine ⟨ks2, ?_, fun y m => ?_, by simp; omega⟩
    · show sortD.insR (vD k) (sortD (ks.map vD)) = _
      rw [e1, e2]
    · rcases h3 y m with rfl | h
      · exact List.mem_cons_self
      · exact List.mem_cons_of_mem _ (h1 y h)
theorem okSort_v {ks : List Nat} : okSort (ks.map vD) = true := by
  unfold okSort
  rw [Bool.and_eq_true]
  refine ⟨by simp [D.notup, vD, D.tup1], ?_⟩
  rw [List.all_eq_true]
  intro x m
  rw [List.all_eq_true]
  intro y m2
  obtain ⟨a, _, rfl⟩ := List.mem_map.mp m
  obtain ⟨b, _, rfl⟩ := List.mem_map.mp m2
  rfl
theorem sorted_v {ks : List Nat} {ws : List D} {L : List Cell} : ∃ ks' : List Nat, kBiF .sorted (.ok [.dct (ks.map vD) ws] L) = .ok (.olst (ks'.map vD)) L ∧ (∀ k ∈ ks', k ∈ ks) ∧ ks'.length = ks.length := by
  obtain ⟨ks', e, h⟩ := @sort_v ks
  refine ⟨ks', ?_, h⟩
  show (match (if okSort (ks.map vD) then some (D.lst (sortD (ks.map vD))) else none) with | some (.lst ys) => R.ok (S.olst ys) L | some (.dct ks vs) => .ok (.odct ks vs) L | _ => .bad) = _
  rw [okSort_v, if_pos rfl, e]
/-- what free answers: names among Γ, no more than b -/
def FreeIs (r : List Nat → Prop) (G : List Cell → R D) : Prop := ∀ L, ∃ ns : List Nat, G L = .ok (.tup (ns.map vD)) L ∧ r ns
theorem free_same {n : Nat} {ro : Bool} {x y : Nat} {L : List Cell} : ∃ ns : List Nat, callN tab 1000 (n + 1) ro 15 [.tup [.str [115, 97, 109, 101], vD x, vD y]] L = .ok (.tup (ns.map vD)) L ∧ (∀ k ∈ ns, k ∈ [x, y]) ∧ ns.length ≤ 2 := by
  rw [call_succ (fn := f_15) rfl, run_eq (env := [vs (.tup [.str [115, 97, 109, 101], vD x, vD y]), none, none, none, none]) rfl]
  obtain ⟨ks, ws, e, h1, h2⟩ := dcomp_v (G := ⟨callN tab 1000 n, initP tab 1000 n, ro, 1000⟩) (own := [3]) (i := 3) (tst := .none) (env := [vs (.tup [.str [115, 97, 109, 101], vD x, vD y]), vs (.str [115, 97, 109, 101]), none, none, none]) (xs := [x, y]) (L := L) (p := fun _ => true) (fun _ _ => rfl) (fun _ => rfl) (by simp [line])
  obtain ⟨ks', e', h3, h4⟩ := @sorted_v ks ws L
  refine ⟨ks', ?_, fun k m => (h1 k (h3 k m)).1, by simp at h2; omega⟩
  have sl : slD (.tup [.str [115, 97, 109, 101], vD x, vD y]) (some 1) none = some (.tup ([x, y].map vD)) := rfl
  simp only [f_15, ev_var, ev_non, ev_bl, ev_int, ev_str, ev_glob, evO_e, evO_pk, ev_tup, ev_fr, kFrz_ok, ev_op, kOp1_ok, kOp2_ok, ev_cmp, kCmp1_ok, kCmp2_ok, ev_not, kNot_ok, ev_and, kAnd_bl, ev_or, kOr_bl, ev_ite, kIte_ok, kIteB_t, kIteB_f, ev_ix, kIx1_ok, kIx2_ok, ev_isi, kIsi_ok, ev_bi, kBi_ok, ev_call, kCall_ok, ev_callP, kCallP_ok, ev_meth, kMeth1_ins, kMeth2_ok, ev_make, kMake_ok, kIns_ok, ev_fld, kFld_ins, evs_nil, evs_cons, kCons1_ok, kCons2_ok, evOs_nil, evOs_cons, kConsO1_ok, evF_lst, evF_dct0, evF_bi, evF_comp, evI_seq, evI_rng, kSeq_tup, kSeq_lst, opt_some, exs_nil, exs_cons, kSeqS_next, kSeqS_ret, kSeqS_exc, ex_set, kSet_v, ex_setF, kSetF_ok, ex_ite, kIteS_ok, kIteSB_t, kIteSB_f, ex_ret, kRet_ok, ex_expr, kExpr_ok, ex_loop, kLoop_ok, ex_while, fin_ret, fin_next, fin_exc, seen_tup, seen_lst, seen_str, seen_int, seen_bl, seen_non, seen_dct, seen_ins, truth_bl, slot0, slotS, rdV_val, rdP_some, List.set_cons_zero, List.set_cons_succ, frz, Option.map_some, if_true, Bool.not_true, Bool.not_false, Bool.false_eq_true, if_false, ite_true, ite_false, es_dput, sDput_ok, es_dupd, sDupd_ok, es_app, sApp_ok, es_frz, sFrz_v, sFrz_l, sFrz_d, es_aug, sAug_ok, kAug_add, kDput1_ok, kApp_ok, ev_sl1, ev_slm, kSl_ok, ev_chain, kChain1_ok, kChain3_ok, evF_dcomp, evF_comp2, kSet2, kSet3, cmp_lt_int, cmp_le_int, cmp_gt_int, cmp_ge_int, ev_neg_int, cmp_in2, cmp_in2l, cmp_in3, cmp_eq_str, cmp_ne_str, cmp_eq_int, cmp_ne_int, ixT0, ixT1, ixT2, ixT3, List.getElem?_cons_succ, List.getElem?_cons_zero, Int.cast_ofNat_Int, Nat.zero_add, Nat.reduceAdd, Int.reduceBEq, Int.natCast_one, ex_rput, sRo_f, kRput1_ok, kRput2_ok, kRput3_1, kRput3_2, kRput3_3, seen_ref0, ixL0, ixL1, ixL2, ixL3, Int.reduceLT, Int.reduceLE, decide_true, decide_false, isi_tupT, isi_intI, isi_intB, isi_intT, isi_intL, isi_intS, isi_tupL, lf_int, lf_intI, lf_lenT, lf_lenL, lf_tupL, op_addI, op_subI, kTup0, kTup1, kTup2, kTup3, kTup4, kTup5, kLst0, kLst1, kLst2, kLst3, kLst4, kLst5, beqf, List.length_cons, List.length_nil, reduceCtorEq, List.cons.injEq, Nat.reduceEqDiff, and_false, false_and, and_true, true_and, and_self, Bool.and_self, Bool.or_false, Bool.false_or, Bool.true_or, Bool.or_true, beq_self_eq_true, ne_eq, not_false_eq_true, sl, e, e']
theorem free_rel {n : Nat} {ro : Bool} {r : Txt} {xs : List Nat} {L : List Cell} (hl : xs.length < line) : ∃ ns : List Nat, callN tab 1000 (n + 1) ro 15 [.tup [.str [114, 101, 108], .str r, .tup (xs.map vD)]] L = .ok (.tup (ns.map vD)) L ∧ (∀ k ∈ ns, k ∈ xs) ∧ ns.length ≤ xs.length := by
  rw [call_succ (fn := f_15) rfl, run_eq (env := [vs (.tup [.str [114, 101, 108], .str r, .tup (xs.map vD)]), none, none, none, none]) rfl]
  obtain ⟨ks, ws, e, h1, h2⟩ := dcomp_v (G := ⟨callN tab 1000 n, initP tab 1000 n, ro, 1000⟩) (own := [3]) (i := 3) (tst := .none) (env := [vs (.tup [.str [114, 101, 108], .str r, .tup (xs.map vD)]), vs (.str [114, 101, 108]), none, none, none]) (xs := xs) (L := L) (p := fun _ => true) (fun _ _ => rfl) (fun _ => rfl) hl
  obtain ⟨ks', e', h3, h4⟩ := @sorted_v ks ws L
  refine ⟨ks', ?_, fun k m => (h1 k (h3 k m)).1, by omega⟩
  simp only [f_15, ev_var, ev_non, ev_bl, ev_int, ev_str, ev_glob, evO_e, evO_pk, ev_tup, ev_fr, kFrz_ok, ev_op, kOp1_ok, kOp2_ok, ev_cmp, kCmp1_ok, kCmp2_ok, ev_not, kNot_ok, ev_and, kAnd_bl, ev_or, kOr_bl, ev_ite, kIte_ok, kIteB_t, kIteB_f, ev_ix, kIx1_ok, kIx2_ok, ev_isi, kIsi_ok, ev_bi, kBi_ok, ev_call, kCall_ok, ev_callP, kCallP_ok, ev_meth, kMeth1_ins, kMeth2_ok, ev_make, kMake_ok, kIns_ok, ev_fld, kFld_ins, evs_nil, evs_cons, kCons1_ok, kCons2_ok, evOs_nil, evOs_cons, kConsO1_ok, evF_lst, evF_dct0, evF_bi, evF_comp, evI_seq, evI_rng, kSeq_tup, kSeq_lst, opt_some, exs_nil, exs_cons, kSeqS_next, kSeqS_ret, kSeqS_exc, ex_set, kSet_v, ex_setF, kSetF_ok, ex_ite, kIteS_ok, kIteSB_t, kIteSB_f, ex_ret, kRet_ok, ex_expr, kExpr_ok, ex_loop, kLoop_ok, ex_while, fin_ret, fin_next, fin_exc, seen_tup, seen_lst, seen_str, seen_int, seen_bl, seen_non, seen_dct, seen_ins, truth_bl, slot0, slotS, rdV_val, rdP_some, List.set_cons_zero, List.set_cons_succ, frz, Option.map_some, if_true, Bool.not_true, Bool.not_false, Bool.false_eq_true, if_false, ite_true, ite_false, es_dput, sDput_ok, es_dupd, sDupd_ok, es_app, sApp_ok, es_frz, sFrz_v, sFrz_l, sFrz_d, es_aug, sAug_ok, kAug_add, kDput1_ok, kApp_ok, ev_sl1, ev_slm, kSl_ok, ev_chain, kChain1_ok, kChain3_ok, evF_dcomp, evF_comp2, kSet2, kSet3, cmp_lt_int, cmp_le_int, cmp_gt_int, cmp_ge_int, ev_neg_int, cmp_in2, cmp_in2l, cmp_in3, cmp_eq_str, cmp_ne_str, cmp_eq_int, cmp_ne_int, ixT0, ixT1, ixT2, ixT3, List.getElem?_cons_succ, List.getElem?_cons_zero, Int.cast_ofNat_Int, Nat.zero_add, Nat.reduceAdd, Int.reduceBEq, Int.natCast_one, ex_rput, sRo_f, kRput1_ok, kRput2_ok, kRput3_1, kRput3_2, kRput3_3, seen_ref0, ixL0, ixL1, ixL2, ixL3, Int.reduceLT, Int.reduceLE, decide_true, decide_false, isi_tupT, isi_intI, isi_intB, isi_intT, isi_intL, isi_intS, isi_tupL, lf_int, lf_intI, lf_lenT, lf_lenL, lf_tupL, op_addI, op_subI, kTup0, kTup1, kTup2, kTup3, kTup4, kTup5, kLst0, kLst1, kLst2, kLst3, kLst4, kLst5, beqf, List.length_cons, List.length_nil, reduceCtorEq, List.cons.injEq, Nat.reduceEqDiff, and_false, false_and, and_true, true_and, and_self, Bool.and_self, Bool.or_false, Bool.false_or, Bool.true_or, Bool.or_true, beq_self_eq_true, ne_eq, not_false_eq_true, e, e']
/-- the body of the loop: one more part's names -/
theorem free_step {G : Cfg} {S0 s bd : D} {word : D} {ks ns : List Nat} {ws : List D} {L : List Cell} {w4 : Option S} {q : Nat → Bool} (hc : G.call G.ro 15 [s] L = .ok (.tup (ns.map vD)) L) (hb : G.call G.ro 14 [S0] L = .ok bd L) (hz : seen bd L = bd)
    (hq : ∀ x, cmpD .ne (vD x) bd = some (q x)) (hl : ks.length + ns.length < line) :
    ∃ (ks' : List Nat) (ws' : List D), bodyF G (loopB f_15.body) [vs S0, vs word, some (.odct (ks.map vD) ws), vs s, w4] L = .ok .next [vs S0, vs word, some (.odct (ks'.map vD) ws'), vs s, w4] L ∧ (∀ k ∈ ks', k ∈ ks ∨ (k ∈ ns ∧ q k = true)) ∧ ks'.length ≤ ks.length + ns.length := by
  obtain ⟨ks1, ws1, e, h1, h2⟩ := dcomp_v (G := G) (own := [4]) (i := 4) (tst := .some (.cmp .ne (.e (.var 4)) (.e (.call 14 (.cons (.var 0) .nil))))) (env := [vs S0, vs word, some (.odct (ks.map vD) ws), vs s, w4]) (xs := ns) (L := L) (p := q)
    (fun x _ => evB_some (by simp only [ev_var, ev_non, ev_bl, ev_int, ev_str, ev_glob, evO_e, evO_pk, ev_tup, ev_fr, kFrz_ok, ev_op, kOp1_ok, kOp2_ok, ev_cmp, kCmp1_ok, kCmp2_ok, ev_not, kNot_ok, ev_and, kAnd_bl, ev_or, kOr_bl, ev_ite, kIte_ok, kIteB_t, kIteB_f, ev_ix, kIx1_ok, kIx2_ok, ev_isi, kIsi_ok, ev_bi, kBi_ok, ev_call, kCall_ok, ev_callP, kCallP_ok, ev_meth, kMeth1_ins, kMeth2_ok, ev_make, kMake_ok, kIns_ok, ev_fld, kFld_ins, evs_nil, evs_cons, kCons1_ok, kCons2_ok, evOs_nil, evOs_cons, kConsO1_ok, evF_lst, evF_dct0, evF_bi, evF_comp, evI_seq, evI_rng, kSeq_tup, kSeq_lst, opt_some, exs_nil, exs_cons, kSeqS_next, kSeqS_ret, kSeqS_exc, ex_set, kSet_v, ex_setF, kSetF_ok, ex_ite, kIteS_ok, kIteSB_t, kIteSB_f, ex_ret, kRet_ok, ex_expr, kExpr_ok, ex_loop, kLoop_ok, ex_while, fin_ret, fin_next, fin_exc, seen_tup, seen_lst, seen_str, seen_int, seen_bl, seen_non, seen_dct, seen_ins, truth_bl, slot0, slotS, rdV_val, rdP_some, List.set_cons_zero, List.set_cons_succ, frz, Option.map_some, if_true, Bool.not_true, Bool.not_false, Bool.false_eq_true, if_false, ite_true, ite_false, es_dput, sDput_ok, es_dupd, sDupd_ok, es_app, sApp_ok, es_frz, sFrz_v, sFrz_l, sFrz_d, es_aug, sAug_ok, kAug_add, kDput1_ok, kApp_ok, ev_sl1, ev_slm, kSl_ok, ev_chain, kChain1_ok, kChain3_ok, evF_dcomp, evF_comp2, kSet2, kSet3, cmp_lt_int, cmp_le_int, cmp_gt_int, cmp_ge_int, ev_neg_int, cmp_in2, cmp_in2l, cmp_in3, cmp_eq_str, cmp_ne_str, cmp_eq_int, cmp_ne_int, ixT0, ixT1, ixT2, ixT3, List.getElem?_cons_succ, List.getElem?_cons_zero, Int.cast_ofNat_Int, Nat.zero_add, Nat.reduceAdd, Int.reduceBEq, Int.natCast_one, ex_rput, sRo_f, kRput1_ok, kRput2_ok, kRput3_1, kRput3_2, kRput3_3, seen_ref0, ixL0, ixL1, ixL2, ixL3, Int.reduceLT, Int.reduceLE, decide_true, decide_false, isi_tupT, isi_intI, isi_intB, isi_intT, isi_intL, isi_intS, isi_tupL, lf_int, lf_intI, lf_lenT, lf_lenL, lf_tupL, op_addI, op_subI, kTup0, kTup1, kTup2, kTup3, kTup4, kTup5, kLst0, kLst1, kLst2, kLst3, kLst4, kLst5, beqf, List.length_cons, List.length_nil, reduceCtorEq, List.cons.injEq, Nat.reduceEqDiff, and_false, false_and, and_true, true_and, and_self, Bool.and_self, Bool.or_false, Bool.false_or, Bool.true_or, Bool.or_true, beq_self_eq_true, ne_eq, not_false_eq_true, loopS_nil, loopS_v, loopS_t2, kLoopC_next, kLoopC_ret, bodyF_eq, kComp_v, compL_nil, compL_v, kCC_ok, kCD_ok, kCompN1, kCompN2, kCompN3, wipe_nil, wipe_cons, hb, hz, hq])) (fun _ => rfl) (by omega)
  obtain ⟨ks2, ws2, e2, h3, h4⟩ := @putAll_v ks1 ks ws1 ws (by omega)
  refine ⟨ks2, ws2, ?_, fun k m => ?_, by omega⟩
  · have hd : ∀ env : Env, kDupd 2 env (ks.map vD) ws (.ok (.dct (ks1.map vD) ws1) L) = .ok .next (env.set 2 (some (.odct (ks2.map vD) ws2))) L := by
      intro env
      show (if atoms (ks1.map vD) && atoms (ks.map vD) && decide ((ks.map vD).length + (ks1.map vD).length ≤ line) then optS (putAll (ks1.map vD) ws1 (ks.map vD) ws) fun r => RS.ok .next (env.set 2 (some (.odct r.1 r.2))) L else .bad) = _
      rw [atoms_str strsV, atoms_str strsV, decide_eq_true (by simp; omega), e2]
      rfl
    rw [bodyF_eq]
    simp only [f_15, loopB, ev_var, ev_non, ev_bl, ev_int, ev_str, ev_glob, evO_e, evO_pk, ev_tup, ev_fr, kFrz_ok, ev_op, kOp1_ok, kOp2_ok, ev_cmp, kCmp1_ok, kCmp2_ok, ev_not, kNot_ok, ev_and, kAnd_bl, ev_or, kOr_bl, ev_ite, kIte_ok, kIteB_t, kIteB_f, ev_ix, kIx1_ok, kIx2_ok, ev_isi, kIsi_ok, ev_bi, kBi_ok, ev_call, kCall_ok, ev_callP, kCallP_ok, ev_meth, kMeth1_ins, kMeth2_ok, ev_make, kMake_ok, kIns_ok, ev_fld, kFld_ins, evs_nil, evs_cons, kCons1_ok, kCons2_ok, evOs_nil, evOs_cons, kConsO1_ok, evF_lst, evF_dct0, evF_bi, evF_comp, evI_seq, evI_rng, kSeq_tup, kSeq_lst, opt_some, exs_nil, exs_cons, kSeqS_next, kSeqS_ret, kSeqS_exc, ex_set, kSet_v, ex_setF, kSetF_ok, ex_ite, kIteS_ok, kIteSB_t, kIteSB_f, ex_ret, kRet_ok, ex_expr, kExpr_ok, ex_loop, kLoop_ok, ex_while, fin_ret, fin_next, fin_exc, seen_tup, seen_lst, seen_str, seen_int, seen_bl, seen_non, seen_dct, seen_ins, truth_bl, slot0, slotS, rdV_val, rdP_some, List.set_cons_zero, List.set_cons_succ, frz, Option.map_some, if_true, Bool.not_true, Bool.not_false, Bool.false_eq_true, if_false, ite_true, ite_false, es_dput, sDput_ok, es_dupd, sDupd_ok, es_app, sApp_ok, es_frz, sFrz_v, sFrz_l, sFrz_d, es_aug, sAug_ok, kAug_add, kDput1_ok, kApp_ok, ev_sl1, ev_slm, kSl_ok, ev_chain, kChain1_ok, kChain3_ok, evF_dcomp, evF_comp2, kSet2, kSet3, cmp_lt_int, cmp_le_int, cmp_gt_int, cmp_ge_int, ev_neg_int, cmp_in2, cmp_in2l, cmp_in3, cmp_eq_str, cmp_ne_str, cmp_eq_int, cmp_ne_int, ixT0, ixT1, ixT2, ixT3, List.getElem?_cons_succ, List.getElem?_cons_zero, Int.cast_ofNat_Int, Nat.zero_add, Nat.reduceAdd, Int.reduceBEq, Int.natCast_one, ex_rput, sRo_f, kRput1_ok, kRput2_ok, kRput3_1, kRput3_2, kRput3_3, seen_ref0, ixL0, ixL1, ixL2, ixL3, Int.reduceLT, Int.reduceLE, decide_true, decide_false, isi_tupT, isi_intI, isi_intB, isi_intT, isi_intL, isi_intS, isi_tupL, lf_int, lf_intI, lf_lenT, lf_lenL, lf_tupL, op_addI, op_subI, kTup0, kTup1, kTup2, kTup3, kTup4, kTup5, kLst0, kLst1, kLst2, kLst3, kLst4, kLst5, beqf, List.length_cons, List.length_nil, reduceCtorEq, List.cons.injEq, Nat.reduceEqDiff, and_false, false_and, and_true, true_and, and_self, Bool.and_self, Bool.or_false, Bool.false_or, Bool.true_or, Bool.or_true, beq_self_eq_true, ne_eq, not_false_eq_true, loopS_nil, loopS_v, loopS_t2, kLoopC_next, kLoopC_ret, bodyF_eq, kComp_v, compL_nil, compL_v, kCC_ok, kCD_ok, kCompN1, kCompN2, kCompN3, wipe_nil, wipe_cons, hc, e, hd]
  · rcases h3 k m with h | h
    · exact .inl h
    · exact .inr (h1 k h)
theorem inner_not {n : Nat} {ro : Bool} {s : D} {L : List Cell} : callN tab 1000 (n + 1) ro 13 [.tup [.str [110, 111, 116], s]] L = .ok (.tup [s]) L := by kernel_rfl
theorem inner_and {n : Nat} {ro : Bool} {s t : D} {L : List Cell} : callN tab 1000 (n + 1) ro 13 [.tup [.str [97, 110, 100], s, t]] L = .ok (.tup [s, t]) L := by kernel_rfl
theorem inner_or {n : Nat} {ro : Bool} {s t : D} {L : List Cell} : callN tab 1000 (n + 1) ro 13 [.tup [.str [111, 114], s, t]] L = .ok (.tup [s, t]) L := by kernel_rfl
theorem inner_some {n : Nat} {ro : Bool} {s t : D} {L : List Cell} : callN tab 1000 (n + 1) ro 13 [.tup [.str [115, 111, 109, 101], t, s]] L = .ok (.tup [s]) L := by kernel_rfl
theorem inner_all {n : Nat} {ro : Bool} {s t : D} {L : List Cell} : callN tab 1000 (n + 1) ro 13 [.tup [.str [97, 108, 108], t, s]] L = .ok (.tup [s]) L := by kernel_rfl
theorem inner_many {n : Nat} {ro : Bool} {s t k : D} {L : List Cell} : callN tab 1000 (n + 1) ro 13 [.tup [.str [109, 97, 110, 121], k, t, s]] L = .ok (.tup [s]) L := by kernel_rfl
theorem b14_not {n : Nat} {ro : Bool} {s : D} {L : List Cell} : callN tab 1000 (n + 1) ro 14 [.tup [.str [110, 111, 116], s]] L = .ok .non L := by kernel_rfl
theorem b14_and {n : Nat} {ro : Bool} {s t : D} {L : List Cell} : callN tab 1000 (n + 1) ro 14 [.tup [.str [97, 110, 100], s, t]] L = .ok .non L := by kernel_rfl
theorem b14_or {n : Nat} {ro : Bool} {s t : D} {L : List Cell} : callN tab 1000 (n + 1) ro 14 [.tup [.str [111, 114], s, t]] L = .ok .non L := by kernel_rfl
theorem free_yes {n : Nat} {ro : Bool} {L : List Cell} : callN tab 1000 (n + 2) ro 15 [.tup [.str [121, 101, 115]]] L = .ok (.tup []) L := by kernel_rfl
/-- a sentence with one part -/
theorem free_one {n : Nat} {ro : Bool} {w : Txt} {xs : List D} {s bd : D} {L : List Cell} {ns : List Nat} {q : Nat → Bool} (hw : (w == [115, 97, 109, 101]) = false) (hw2 : (w == [114, 101, 108]) = false)
    (hi : callN tab 1000 n ro 13 [.tup (.str w :: xs)] L = .ok (.tup [s]) L) (hb : callN tab 1000 n ro 14 [.tup (.str w :: xs)] L = .ok bd L) (hz : seen bd L = bd) (hq : ∀ x, cmpD .ne (vD x) bd = some (q x))
    (hc : callN tab 1000 n ro 15 [s] L = .ok (.tup (ns.map vD)) L) (hl : ns.length < line) :
    ∃ ms : List Nat, callN tab 1000 (n + 1) ro 15 [.tup (.str w :: xs)] L = .ok (.tup (ms.map vD)) L ∧ (∀ k ∈ ms, k ∈ ns ∧ q k = true) ∧ ms.length ≤ ns.length := by
  rw [call_succ (fn := f_15) rfl, run_eq (env := [vs (.tup (.str w :: xs)), none, none, none, none]) rfl]
  obtain ⟨ks, ws, e, h1, h2⟩ := free_step (G := ⟨callN tab 1000 n, initP tab 1000 n, ro, 1000⟩) (S0 := .tup (.str w :: xs)) (s := s) (word := .str w) (ks := []) (ws := []) (w4 := none) (L := L) hc hb hz hq (by simpa using hl)
  obtain ⟨ks', e', h3, h4⟩ := @sorted_v ks ws L
  refine ⟨ks', ?_, fun k m => ?_, by simp at h2; omega⟩
  · simp only [f_15, loopB, List.map_nil] at e
    simp only [f_15, ev_var, ev_non, ev_bl, ev_int, ev_str, ev_glob, evO_e, evO_pk, ev_tup, ev_fr, kFrz_ok, ev_op, kOp1_ok, kOp2_ok, ev_cmp, kCmp1_ok, kCmp2_ok, ev_not, kNot_ok, ev_and, kAnd_bl, ev_or, kOr_bl, ev_ite, kIte_ok, kIteB_t, kIteB_f, ev_ix, kIx1_ok, kIx2_ok, ev_isi, kIsi_ok, ev_bi, kBi_ok, ev_call, kCall_ok, ev_callP, kCallP_ok, ev_meth, kMeth1_ins, kMeth2_ok, ev_make, kMake_ok, kIns_ok, ev_fld, kFld_ins, evs_nil, evs_cons, kCons1_ok, kCons2_ok, evOs_nil, evOs_cons, kConsO1_ok, evF_lst, evF_dct0, evF_bi, evF_comp, evI_seq, evI_rng, kSeq_tup, kSeq_lst, opt_some, exs_nil, exs_cons, kSeqS_next, kSeqS_ret, kSeqS_exc, ex_set, kSet_v, ex_setF, kSetF_ok, ex_ite, kIteS_ok, kIteSB_t, kIteSB_f, ex_ret, kRet_ok, ex_expr, kExpr_ok, ex_loop, kLoop_ok, ex_while, fin_ret, fin_next, fin_exc, seen_tup, seen_lst, seen_str, seen_int, seen_bl, seen_non, seen_dct, seen_ins, truth_bl, slot0, slotS, rdV_val, rdP_some, List.set_cons_zero, List.set_cons_succ, frz, Option.map_some, if_true, Bool.not_true, Bool.not_false, Bool.false_eq_true, if_false, ite_true, ite_false, es_dput, sDput_ok, es_dupd, sDupd_ok, es_app, sApp_ok, es_frz, sFrz_v, sFrz_l, sFrz_d, es_aug, sAug_ok, kAug_add, kDput1_ok, kApp_ok, ev_sl1, ev_slm, kSl_ok, ev_chain, kChain1_ok, kChain3_ok, evF_dcomp, evF_comp2, kSet2, kSet3, cmp_lt_int, cmp_le_int, cmp_gt_int, cmp_ge_int, ev_neg_int, cmp_in2, cmp_in2l, cmp_in3, cmp_eq_str, cmp_ne_str, cmp_eq_int, cmp_ne_int, ixT0, ixT1, ixT2, ixT3, List.getElem?_cons_succ, List.getElem?_cons_zero, Int.cast_ofNat_Int, Nat.zero_add, Nat.reduceAdd, Int.reduceBEq, Int.natCast_one, ex_rput, sRo_f, kRput1_ok, kRput2_ok, kRput3_1, kRput3_2, kRput3_3, seen_ref0, ixL0, ixL1, ixL2, ixL3, Int.reduceLT, Int.reduceLE, decide_true, decide_false, isi_tupT, isi_intI, isi_intB, isi_intT, isi_intL, isi_intS, isi_tupL, lf_int, lf_intI, lf_lenT, lf_lenL, lf_tupL, op_addI, op_subI, kTup0, kTup1, kTup2, kTup3, kTup4, kTup5, kLst0, kLst1, kLst2, kLst3, kLst4, kLst5, beqf, List.length_cons, List.length_nil, reduceCtorEq, List.cons.injEq, Nat.reduceEqDiff, and_false, false_and, and_true, true_and, and_self, Bool.and_self, Bool.or_false, Bool.false_or, Bool.true_or, Bool.or_true, beq_self_eq_true, ne_eq, not_false_eq_true, hw, hw2, hi, loopS_v]
    rw [e]
    simp only [kLoopC_next, loopS_nil, ev_var, ev_non, ev_bl, ev_int, ev_str, ev_glob, evO_e, evO_pk, ev_tup, ev_fr, kFrz_ok, ev_op, kOp1_ok, kOp2_ok, ev_cmp, kCmp1_ok, kCmp2_ok, ev_not, kNot_ok, ev_and, kAnd_bl, ev_or, kOr_bl, ev_ite, kIte_ok, kIteB_t, kIteB_f, ev_ix, kIx1_ok, kIx2_ok, ev_isi, kIsi_ok, ev_bi, kBi_ok, ev_call, kCall_ok, ev_callP, kCallP_ok, ev_meth, kMeth1_ins, kMeth2_ok, ev_make, kMake_ok, kIns_ok, ev_fld, kFld_ins, evs_nil, evs_cons, kCons1_ok, kCons2_ok, evOs_nil, evOs_cons, kConsO1_ok, evF_lst, evF_dct0, evF_bi, evF_comp, evI_seq, evI_rng, kSeq_tup, kSeq_lst, opt_some, exs_nil, exs_cons, kSeqS_next, kSeqS_ret, kSeqS_exc, ex_set, kSet_v, ex_setF, kSetF_ok, ex_ite, kIteS_ok, kIteSB_t, kIteSB_f, ex_ret, kRet_ok, ex_expr, kExpr_ok, ex_loop, kLoop_ok, ex_while, fin_ret, fin_next, fin_exc, seen_tup, seen_lst, seen_str, seen_int, seen_bl, seen_non, seen_dct, seen_ins, truth_bl, slot0, slotS, rdV_val, rdP_some, List.set_cons_zero, List.set_cons_succ, frz, Option.map_some, if_true, Bool.not_true, Bool.not_false, Bool.false_eq_true, if_false, ite_true, ite_false, es_dput, sDput_ok, es_dupd, sDupd_ok, es_app, sApp_ok, es_frz, sFrz_v, sFrz_l, sFrz_d, es_aug, sAug_ok, kAug_add, kDput1_ok, kApp_ok, ev_sl1, ev_slm, kSl_ok, ev_chain, kChain1_ok, kChain3_ok, evF_dcomp, evF_comp2, kSet2, kSet3, cmp_lt_int, cmp_le_int, cmp_gt_int, cmp_ge_int, ev_neg_int, cmp_in2, cmp_in2l, cmp_in3, cmp_eq_str, cmp_ne_str, cmp_eq_int, cmp_ne_int, ixT0, ixT1, ixT2, ixT3, List.getElem?_cons_succ, List.getElem?_cons_zero, Int.cast_ofNat_Int, Nat.zero_add, Nat.reduceAdd, Int.reduceBEq, Int.natCast_one, ex_rput, sRo_f, kRput1_ok, kRput2_ok, kRput3_1, kRput3_2, kRput3_3, seen_ref0, ixL0, ixL1, ixL2, ixL3, Int.reduceLT, Int.reduceLE, decide_true, decide_false, isi_tupT, isi_intI, isi_intB, isi_intT, isi_intL, isi_intS, isi_tupL, lf_int, lf_intI, lf_lenT, lf_lenL, lf_tupL, op_addI, op_subI, kTup0, kTup1, kTup2, kTup3, kTup4, kTup5, kLst0, kLst1, kLst2, kLst3, kLst4, kLst5, beqf, List.length_cons, List.length_nil, reduceCtorEq, List.cons.injEq, Nat.reduceEqDiff, and_false, false_and, and_true, true_and, and_self, Bool.and_self, Bool.or_false, Bool.false_or, Bool.true_or, Bool.or_true, beq_self_eq_true, ne_eq, not_false_eq_true, e']
  · rcases h1 k (h3 k m) with h | h
    · simp at h
    · exact h
theorem free_two {n : Nat} {ro : Bool} {w : Txt} {xs : List D} {s t bd : D} {L : List Cell} {ns ns2 : List Nat} {q : Nat → Bool} (hw : (w == [115, 97, 109, 101]) = false) (hw2 : (w == [114, 101, 108]) = false)
    (hi : callN tab 1000 n ro 13 [.tup (.str w :: xs)] L = .ok (.tup [s, t]) L) (hb : callN tab 1000 n ro 14 [.tup (.str w :: xs)] L = .ok bd L) (hz : seen bd L = bd) (hq : ∀ x, cmpD .ne (vD x) bd = some (q x))
    (hc : callN tab 1000 n ro 15 [s] L = .ok (.tup (ns.map vD)) L) (hc2 : callN tab 1000 n ro 15 [t] L = .ok (.tup (ns2.map vD)) L) (hl : ns.length + ns2.length < line) :
    ∃ ms : List Nat, callN tab 1000 (n + 1) ro 15 [.tup (.str w :: xs)] L = .ok (.tup (ms.map vD)) L ∧ (∀ k ∈ ms, k ∈ ns ∨ k ∈ ns2) ∧ ms.length ≤ ns.length + ns2.length := by
  rw [call_succ (fn := f_15) rfl, run_eq (env := [vs (.tup (.str w :: xs)), none, none, none, none]) rfl]
  obtain ⟨ks, ws, e, h1, h2⟩ := free_step (G := ⟨callN tab 1000 n, initP tab 1000 n, ro, 1000⟩) (S0 := .tup (.str w :: xs)) (s := s) (word := .str w) (ks := []) (ws := []) (w4 := none) (L := L) hc hb hz hq (by simp; omega)
  obtain ⟨ks2, ws2, e2, h12, h22⟩ := free_step (G := ⟨callN tab 1000 n, initP tab 1000 n, ro, 1000⟩) (S0 := .tup (.str w :: xs)) (s := t) (word := .str w) (ks := ks) (ws := ws) (w4 := none) (L := L) hc2 hb hz hq (by simp at h2; omega)
  obtain ⟨ks', e', h3, h4⟩ := @sorted_v ks2 ws2 L
  refine ⟨ks', ?_, fun k m => ?_, by simp at h2; omega⟩
  · simp only [f_15, loopB, List.map_nil] at e e2
    simp only [f_15, ev_var, ev_non, ev_bl, ev_int, ev_str, ev_glob, evO_e, evO_pk, ev_tup, ev_fr, kFrz_ok, ev_op, kOp1_ok, kOp2_ok, ev_cmp, kCmp1_ok, kCmp2_ok, ev_not, kNot_ok, ev_and, kAnd_bl, ev_or, kOr_bl, ev_ite, kIte_ok, kIteB_t, kIteB_f, ev_ix, kIx1_ok, kIx2_ok, ev_isi, kIsi_ok, ev_bi, kBi_ok, ev_call, kCall_ok, ev_callP, kCallP_ok, ev_meth, kMeth1_ins, kMeth2_ok, ev_make, kMake_ok, kIns_ok, ev_fld, kFld_ins, evs_nil, evs_cons, kCons1_ok, kCons2_ok, evOs_nil, evOs_cons, kConsO1_ok, evF_lst, evF_dct0, evF_bi, evF_comp, evI_seq, evI_rng, kSeq_tup, kSeq_lst, opt_some, exs_nil, exs_cons, kSeqS_next, kSeqS_ret, kSeqS_exc, ex_set, kSet_v, ex_setF, kSetF_ok, ex_ite, kIteS_ok, kIteSB_t, kIteSB_f, ex_ret, kRet_ok, ex_expr, kExpr_ok, ex_loop, kLoop_ok, ex_while, fin_ret, fin_next, fin_exc, seen_tup, seen_lst, seen_str, seen_int, seen_bl, seen_non, seen_dct, seen_ins, truth_bl, slot0, slotS, rdV_val, rdP_some, List.set_cons_zero, List.set_cons_succ, frz, Option.map_some, if_true, Bool.not_true, Bool.not_false, Bool.false_eq_true, if_false, ite_true, ite_false, es_dput, sDput_ok, es_dupd, sDupd_ok, es_app, sApp_ok, es_frz, sFrz_v, sFrz_l, sFrz_d, es_aug, sAug_ok, kAug_add, kDput1_ok, kApp_ok, ev_sl1, ev_slm, kSl_ok, ev_chain, kChain1_ok, kChain3_ok, evF_dcomp, evF_comp2, kSet2, kSet3, cmp_lt_int, cmp_le_int, cmp_gt_int, cmp_ge_int, ev_neg_int, cmp_in2, cmp_in2l, cmp_in3, cmp_eq_str, cmp_ne_str, cmp_eq_int, cmp_ne_int, ixT0, ixT1, ixT2, ixT3, List.getElem?_cons_succ, List.getElem?_cons_zero, Int.cast_ofNat_Int, Nat.zero_add, Nat.reduceAdd, Int.reduceBEq, Int.natCast_one, ex_rput, sRo_f, kRput1_ok, kRput2_ok, kRput3_1, kRput3_2, kRput3_3, seen_ref0, ixL0, ixL1, ixL2, ixL3, Int.reduceLT, Int.reduceLE, decide_true, decide_false, isi_tupT, isi_intI, isi_intB, isi_intT, isi_intL, isi_intS, isi_tupL, lf_int, lf_intI, lf_lenT, lf_lenL, lf_tupL, op_addI, op_subI, kTup0, kTup1, kTup2, kTup3, kTup4, kTup5, kLst0, kLst1, kLst2, kLst3, kLst4, kLst5, beqf, List.length_cons, List.length_nil, reduceCtorEq, List.cons.injEq, Nat.reduceEqDiff, and_false, false_and, and_true, true_and, and_self, Bool.and_self, Bool.or_false, Bool.false_or, Bool.true_or, Bool.or_true, beq_self_eq_true, ne_eq, not_false_eq_true, hw, hw2, hi, loopS_v]
    rw [e]
    simp only [kLoopC_next, loopS_v, loopS_nil, List.set_cons_zero, List.set_cons_succ]
    rw [e2]
    simp only [kLoopC_next, loopS_nil, ev_var, ev_non, ev_bl, ev_int, ev_str, ev_glob, evO_e, evO_pk, ev_tup, ev_fr, kFrz_ok, ev_op, kOp1_ok, kOp2_ok, ev_cmp, kCmp1_ok, kCmp2_ok, ev_not, kNot_ok, ev_and, kAnd_bl, ev_or, kOr_bl, ev_ite, kIte_ok, kIteB_t, kIteB_f, ev_ix, kIx1_ok, kIx2_ok, ev_isi, kIsi_ok, ev_bi, kBi_ok, ev_call, kCall_ok, ev_callP, kCallP_ok, ev_meth, kMeth1_ins, kMeth2_ok, ev_make, kMake_ok, kIns_ok, ev_fld, kFld_ins, evs_nil, evs_cons, kCons1_ok, kCons2_ok, evOs_nil, evOs_cons, kConsO1_ok, evF_lst, evF_dct0, evF_bi, evF_comp, evI_seq, evI_rng, kSeq_tup, kSeq_lst, opt_some, exs_nil, exs_cons, kSeqS_next, kSeqS_ret, kSeqS_exc, ex_set, kSet_v, ex_setF, kSetF_ok, ex_ite, kIteS_ok, kIteSB_t, kIteSB_f, ex_ret, kRet_ok, ex_expr, kExpr_ok, ex_loop, kLoop_ok, ex_while, fin_ret, fin_next, fin_exc, seen_tup, seen_lst, seen_str, seen_int, seen_bl, seen_non, seen_dct, seen_ins, truth_bl, slot0, slotS, rdV_val, rdP_some, List.set_cons_zero, List.set_cons_succ, frz, Option.map_some, if_true, Bool.not_true, Bool.not_false, Bool.false_eq_true, if_false, ite_true, ite_false, es_dput, sDput_ok, es_dupd, sDupd_ok, es_app, sApp_ok, es_frz, sFrz_v, sFrz_l, sFrz_d, es_aug, sAug_ok, kAug_add, kDput1_ok, kApp_ok, ev_sl1, ev_slm, kSl_ok, ev_chain, kChain1_ok, kChain3_ok, evF_dcomp, evF_comp2, kSet2, kSet3, cmp_lt_int, cmp_le_int, cmp_gt_int, cmp_ge_int, ev_neg_int, cmp_in2, cmp_in2l, cmp_in3, cmp_eq_str, cmp_ne_str, cmp_eq_int, cmp_ne_int, ixT0, ixT1, ixT2, ixT3, List.getElem?_cons_succ, List.getElem?_cons_zero, Int.cast_ofNat_Int, Nat.zero_add, Nat.reduceAdd, Int.reduceBEq, Int.natCast_one, ex_rput, sRo_f, kRput1_ok, kRput2_ok, kRput3_1, kRput3_2, kRput3_3, seen_ref0, ixL0, ixL1, ixL2, ixL3, Int.reduceLT, Int.reduceLE, decide_true, decide_false, isi_tupT, isi_intI, isi_intB, isi_intT, isi_intL, isi_intS, isi_tupL, lf_int, lf_intI, lf_lenT, lf_lenL, lf_tupL, op_addI, op_subI, kTup0, kTup1, kTup2, kTup3, kTup4, kTup5, kLst0, kLst1, kLst2, kLst3, kLst4, kLst5, beqf, List.length_cons, List.length_nil, reduceCtorEq, List.cons.injEq, Nat.reduceEqDiff, and_false, false_and, and_true, true_and, and_self, Bool.and_self, Bool.or_false, Bool.false_or, Bool.true_or, Bool.or_true, beq_self_eq_true, ne_eq, not_false_eq_true, e']
  · rcases h12 k (h3 k m) with h | h
    · rcases h1 k h with h | h
      · simp at h
      · exact .inl h.1
    · exact .inr h.1
theorem ne_non (x : Nat) : cmpD .ne (vD x) .non = some true := rfl
theorem ne_v (y x : Nat) : cmpD .ne (vD x) (vD y) = some (!(([x] : Txt) == [y])) := rfl
theorem free_ok {rels : List (Txt × Nat)} (hr : ∀ r ∈ rels, r.2 ≤ 3) {Γ : List Nat} {d : Nat} {s : Sn} (h : Wf rels Γ d s) :
    d ≤ 10 → ∀ {n : Nat} {ro : Bool} {L : List Cell}, ∃ ns : List Nat, callN tab 1000 (n + d + 2) ro 15 [s.toD] L = .ok (.tup (ns.map vD)) L ∧ (∀ k ∈ ns, k ∈ Γ) ∧ ns.length ≤ 3 * 2 ^ d := by
  have hb : ∀ d, d ≤ 10 → 3 * 2 ^ d ≤ 3 * 2 ^ 10 := fun d h => Nat.mul_le_mul_left _ (Nat.pow_le_pow_right (by decide) h)
  have h1 : ∀ d, 1 ≤ 2 ^ d := fun d => Nat.one_le_two_pow
  have hp : ∀ d, 2 ^ (d + 1) = 2 * 2 ^ d := fun d => by rw [Nat.pow_succ]; omega
  induction h with
  | @yes Γ d => intro hd n ro L; exact ⟨[], free_yes, by simp, by simp⟩
  | @same Γ d x y hx hy =>
    intro hd n ro L
    obtain ⟨ns, e, h2, h3⟩ := @free_same (n + d + 1) ro x y L
    have := h1 d
    exact ⟨ns, e, fun k m => by
      rcases List.mem_cons.mp (h2 k m) with rfl | m
      · exact hx
      · rcases List.mem_singleton.mp m with rfl; exact hy, by omega⟩
  | @rel Γ d r xs hm hx =>
    intro hd n ro L
    have := hr _ hm
    have l := h1 d
    simp only at this
    obtain ⟨ns, e, h2, h3⟩ := @free_rel (n + d + 1) ro r xs L (by unfold line; omega)
    exact ⟨ns, e, fun k m => hx k (h2 k m), by omega⟩
  | @not Γ d s _ ih =>
    intro hd n ro L
    obtain ⟨ns, e, h2, h3⟩ := @ih (by omega) n ro L
    have := hb d (by omega)
    obtain ⟨ms, e2, h4, h5⟩ := free_one (n := n + d + 2) (xs := [s.toD]) rfl rfl inner_not b14_not rfl ne_non e (by unfold line; omega)
    exact ⟨ms, e2, fun k m => h2 k (h4 k m).1, by have := hp d; omega⟩
  | @and Γ d s t _ _ i1 i2 =>
    intro hd n ro L
    obtain ⟨ns, e, h2, h3⟩ := @i1 (by omega) n ro L
    obtain ⟨ns', e', h2', h3'⟩ := @i2 (by omega) n ro L
    have := hb d (by omega)
    obtain ⟨ms, e2, h4, h5⟩ := free_two (n := n + d + 2) (xs := [s.toD, t.toD]) rfl rfl inner_and b14_and rfl ne_non e e' (by unfold line; omega)
    exact ⟨ms, e2, fun k m => (h4 k m).elim (h2 k) (h2' k), by have := hp d; omega⟩
  | @or Γ d s t _ _ i1 i2 =>
    intro hd n ro L
    obtain ⟨ns, e, h2, h3⟩ := @i1 (by omega) n ro L
    obtain ⟨ns', e', h2', h3'⟩ := @i2 (by omega) n ro L
    have := hb d (by omega)
    obtain ⟨ms, e2, h4, h5⟩ := free_two (n := n + d + 2) (xs := [s.toD, t.toD]) rfl rfl inner_or b14_or rfl ne_non e e' (by unfold line; omega)
    exact ⟨ms, e2, fun k m => (h4 k m).elim (h2 k) (h2' k), by have := hp d; omega⟩
  | @some Γ d x s hx _ ih =>
    intro hd n ro L
    obtain ⟨ns, e, h2, h3⟩ := @ih (by omega) n ro L
    have := hb d (by omega)
    obtain ⟨ms, e2, h4, h5⟩ := free_one (n := n + d + 2) (xs := [vD x, s.toD]) rfl rfl inner_some b14_some rfl (ne_v x) e (by unfold line; omega)
    exact ⟨ms, e2, fun k m => (List.mem_cons.mp (h2 k (h4 k m).1)).elim (fun h => by have := (h4 k m).2; simp [h] at this) id, by have := hp d; omega⟩
  | @all Γ d x s hx _ ih =>
    intro hd n ro L
    obtain ⟨ns, e, h2, h3⟩ := @ih (by omega) n ro L
    have := hb d (by omega)
    obtain ⟨ms, e2, h4, h5⟩ := free_one (n := n + d + 2) (xs := [vD x, s.toD]) rfl rfl inner_all b14_all rfl (ne_v x) e (by unfold line; omega)
    exact ⟨ms, e2, fun k m => (List.mem_cons.mp (h2 k (h4 k m).1)).elim (fun h => by have := (h4 k m).2; simp [h] at this) id, by have := hp d; omega⟩
  | @many Γ d j x s hj hx _ ih =>
    intro hd n ro L
    obtain ⟨ns, e, h2, h3⟩ := @ih (by omega) n ro L
    have := hb d (by omega)
    obtain ⟨ms, e2, h4, h5⟩ := free_one (n := n + d + 2) (xs := [.int j, vD x, s.toD]) rfl rfl inner_many b14_many rfl (ne_v x) e (by unfold line; omega)
    exact ⟨ms, e2, fun k m => (List.mem_cons.mp (h2 k (h4 k m).1)).elim (fun h => by have := (h4 k m).2; simp [h] at this) id, by have := hp d; omega⟩
theorem free_nil {rels : List (Txt × Nat)} (hr : ∀ r ∈ rels, r.2 ≤ 3) {d : Nat} {s : Sn} (h : Wf rels [] d s) (hd : d ≤ 10) {n : Nat} {ro : Bool} {L : List Cell} : callN tab 1000 (n + d + 2) ro 15 [s.toD] L = .ok (.tup []) L := by
  obtain ⟨ns, e, h2, h3⟩ := @free_ok rels hr [] d s h hd n ro L
  cases ns with
  | nil => exact e
  | cons x _ => exact absurd (h2 x List.mem_cons_self) (by simp)
end k73s

set_option linter.all false
set_option maxRecDepth 100000
namespace k73s
open Wa
open k73 (tab lawNo f_1 f_2 f_3 f_4 f_5 f_6 f_7 f_8 f_9 f_10 f_11 f_12 f_13 f_14 f_15 f_16 f_17 f_18 f_19 f_20 f_21 f_22 f_23 f_24 f_25 f_26 f_27 f_28 f_29 f_30 f_31 f_32)
/-! ### draws -/
def DrOk (L : List Cell) : Prop := ∃ (ns : List Int) (i : Nat) (c r : Int), L = [.lst [.lst (ns.map iD), .int i, .int c, .int r]]
/-- behind k statements -/
def dropS : Nat → CSs → CSs
  | 0, ss => ss
  | n + 1, .cons _ ss => dropS n ss
  | _ + 1, .nil => .nil
theorem pw : opD .pow (.int 10) (.int 18) = some (.int 1000000000000000000) := rfl
theorem draw2 {G : Cfg} {lim : Int} {w : Option S} {L : List Cell} (hG : G.ro = false) (h1 : 0 < lim) (h2 : lim < 1073741824) (hL : DrOk L) :
    ∃ v L', finR (exs G (dropS 1 f_22.body) [vs (.ref 0), vs (.int lim), w, none] L) = .ok (.int v) L' ∧ DrOk L' ∧ 0 ≤ v ∧ v < lim := by
  obtain ⟨ns, i, c, r, rfl⟩ := hL
  have hn : lim ≠ 0 := by omega
  have hd : lim ≠ 0 ∧ lim.natAbs < 1073741824 := ⟨hn, by omega⟩
  have hm : ∀ a : Int, opD .mul (.int a) (.int 69621) = some (.int (a * 69621)) := fun a => op_mul (by decide)
  have hm2 : ∀ a : Int, opD .mod (.int a) (.int 2147483629) = some (.int (a.fmod 2147483629)) := fun a => op_mod (by decide)
  have hm3 : ∀ a : Int, opD .fdiv (.int a) (.int 11) = some (.int (a.fdiv 11)) := fun a => op_fdiv (by decide)
  by_cases hc : 0 < c
  · refine ⟨c.fmod lim, [.lst [.lst (ns.map iD), .int i, .int (c.fdiv lim), .int r]], ?_, ⟨ns, i, _, _, rfl⟩, Int.fmod_nonneg_of_pos _ h1, Int.fmod_lt_of_pos _ h1⟩
    simp only [f_22, dropS, ev_var, ev_non, ev_bl, ev_int, ev_str, ev_glob, evO_e, evO_pk, ev_tup, ev_fr, kFrz_ok, ev_op, kOp1_ok, kOp2_ok, ev_cmp, kCmp1_ok, kCmp2_ok, ev_not, kNot_ok, ev_and, kAnd_bl, ev_or, kOr_bl, ev_ite, kIte_ok, kIteB_t, kIteB_f, ev_ix, kIx1_ok, kIx2_ok, ev_isi, kIsi_ok, ev_bi, kBi_ok, ev_call, kCall_ok, ev_callP, kCallP_ok, ev_meth, kMeth1_ins, kMeth2_ok, ev_make, kMake_ok, kIns_ok, ev_fld, kFld_ins, evs_nil, evs_cons, kCons1_ok, kCons2_ok, evOs_nil, evOs_cons, kConsO1_ok, evF_lst, evF_dct0, evF_bi, evF_comp, evI_seq, evI_rng, kSeq_tup, kSeq_lst, opt_some, exs_nil, exs_cons, kSeqS_next, kSeqS_ret, kSeqS_exc, ex_set, kSet_v, ex_setF, kSetF_ok, ex_ite, kIteS_ok, kIteSB_t, kIteSB_f, ex_ret, kRet_ok, ex_expr, kExpr_ok, ex_loop, kLoop_ok, ex_while, fin_ret, fin_next, fin_exc, seen_tup, seen_lst, seen_str, seen_int, seen_bl, seen_non, seen_dct, seen_ins, truth_bl, slot0, slotS, rdV_val, rdP_some, List.set_cons_zero, List.set_cons_succ, frz, Option.map_some, if_true, Bool.not_true, Bool.not_false, Bool.false_eq_true, if_false, ite_true, ite_false, es_dput, sDput_ok, es_dupd, sDupd_ok, es_app, sApp_ok, es_frz, sFrz_v, sFrz_l, sFrz_d, es_aug, sAug_ok, kAug_add, kDput1_ok, kApp_ok, ev_sl1, ev_slm, kSl_ok, ev_chain, kChain1_ok, kChain3_ok, evF_dcomp, evF_comp2, kSet2, kSet3, cmp_lt_int, cmp_le_int, cmp_gt_int, cmp_ge_int, ev_neg_int, cmp_in2, cmp_in2l, cmp_in3, cmp_eq_str, cmp_ne_str, cmp_eq_int, cmp_ne_int, ixT0, ixT1, ixT2, ixT3, List.getElem?_cons_succ, List.getElem?_cons_zero, Int.cast_ofNat_Int, Nat.zero_add, Nat.reduceAdd, Int.reduceBEq, Int.natCast_one, ex_rput, sRo_f, kRput1_ok, kRput2_ok, kRput3_1, kRput3_2, kRput3_3, seen_ref0, ixL0, ixL1, ixL2, ixL3, Int.reduceLT, Int.reduceLE, decide_true, decide_false, isi_tupT, isi_intI, isi_intB, isi_intT, isi_intL, isi_intS, isi_tupL, lf_int, lf_intI, lf_lenT, lf_lenL, lf_tupL, op_addI, op_subI, kTup0, kTup1, kTup2, kTup3, kTup4, kTup5, kLst0, kLst1, kLst2, kLst3, kLst4, kLst5, beqf, List.length_cons, List.length_nil, reduceCtorEq, List.cons.injEq, Nat.reduceEqDiff, and_false, false_and, and_true, true_and, and_self, Bool.and_self, Bool.or_false, Bool.false_or, Bool.true_or, Bool.or_true, beq_self_eq_true, ne_eq, not_false_eq_true, hG, hc, decide_true, op_mod hn, op_fdiv hd]
  · refine ⟨(((r * 69621 + 7).fmod 2147483629).fdiv 11).fmod lim, [.lst [.lst (ns.map iD), .int i, .int c, .int ((r * 69621 + 7).fmod 2147483629)]], ?_, ⟨ns, i, _, _, rfl⟩, Int.fmod_nonneg_of_pos _ h1, Int.fmod_lt_of_pos _ h1⟩
    simp only [f_22, dropS, ev_var, ev_non, ev_bl, ev_int, ev_str, ev_glob, evO_e, evO_pk, ev_tup, ev_fr, kFrz_ok, ev_op, kOp1_ok, kOp2_ok, ev_cmp, kCmp1_ok, kCmp2_ok, ev_not, kNot_ok, ev_and, kAnd_bl, ev_or, kOr_bl, ev_ite, kIte_ok, kIteB_t, kIteB_f, ev_ix, kIx1_ok, kIx2_ok, ev_isi, kIsi_ok, ev_bi, kBi_ok, ev_call, kCall_ok, ev_callP, kCallP_ok, ev_meth, kMeth1_ins, kMeth2_ok, ev_make, kMake_ok, kIns_ok, ev_fld, kFld_ins, evs_nil, evs_cons, kCons1_ok, kCons2_ok, evOs_nil, evOs_cons, kConsO1_ok, evF_lst, evF_dct0, evF_bi, evF_comp, evI_seq, evI_rng, kSeq_tup, kSeq_lst, opt_some, exs_nil, exs_cons, kSeqS_next, kSeqS_ret, kSeqS_exc, ex_set, kSet_v, ex_setF, kSetF_ok, ex_ite, kIteS_ok, kIteSB_t, kIteSB_f, ex_ret, kRet_ok, ex_expr, kExpr_ok, ex_loop, kLoop_ok, ex_while, fin_ret, fin_next, fin_exc, seen_tup, seen_lst, seen_str, seen_int, seen_bl, seen_non, seen_dct, seen_ins, truth_bl, slot0, slotS, rdV_val, rdP_some, List.set_cons_zero, List.set_cons_succ, frz, Option.map_some, if_true, Bool.not_true, Bool.not_false, Bool.false_eq_true, if_false, ite_true, ite_false, es_dput, sDput_ok, es_dupd, sDupd_ok, es_app, sApp_ok, es_frz, sFrz_v, sFrz_l, sFrz_d, es_aug, sAug_ok, kAug_add, kDput1_ok, kApp_ok, ev_sl1, ev_slm, kSl_ok, ev_chain, kChain1_ok, kChain3_ok, evF_dcomp, evF_comp2, kSet2, kSet3, cmp_lt_int, cmp_le_int, cmp_gt_int, cmp_ge_int, ev_neg_int, cmp_in2, cmp_in2l, cmp_in3, cmp_eq_str, cmp_ne_str, cmp_eq_int, cmp_ne_int, ixT0, ixT1, ixT2, ixT3, List.getElem?_cons_succ, List.getElem?_cons_zero, Int.cast_ofNat_Int, Nat.zero_add, Nat.reduceAdd, Int.reduceBEq, Int.natCast_one, ex_rput, sRo_f, kRput1_ok, kRput2_ok, kRput3_1, kRput3_2, kRput3_3, seen_ref0, ixL0, ixL1, ixL2, ixL3, Int.reduceLT, Int.reduceLE, decide_true, decide_false, isi_tupT, isi_intI, isi_intB, isi_intT, isi_intL, isi_intS, isi_tupL, lf_int, lf_intI, lf_lenT, lf_lenL, lf_tupL, op_addI, op_subI, kTup0, kTup1, kTup2, kTup3, kTup4, kTup5, kLst0, kLst1, kLst2, kLst3, kLst4, kLst5, beqf, List.length_cons, List.length_nil, reduceCtorEq, List.cons.injEq, Nat.reduceEqDiff, and_false, false_and, and_true, true_and, and_self, Bool.and_self, Bool.or_false, Bool.false_or, Bool.true_or, Bool.or_true, beq_self_eq_true, ne_eq, not_false_eq_true, hG, hc, decide_false, op_mod hn, hm, hm2, hm3]
theorem draw_ok {n : Nat} {lim : Int} {L : List Cell} (h1 : 0 < lim) (h2 : lim < 1073741824) (hL : DrOk L) :
    ∃ v L', callN tab 1000 (n + 1) false 22 [.ref 0, .int lim] L = .ok (.int v) L' ∧ DrOk L' ∧ 0 ≤ v ∧ v < lim := by
  rw [call_succ (fn := f_22) rfl, run_eq (env := [vs (.ref 0), vs (.int lim), none, none]) rfl]
  obtain ⟨ns, i, c, r, rfl⟩ := hL
  have hm : ∀ a : Int, opD .mul (.int a) (.int 48271) = some (.int (a * 48271)) := fun a => op_mul (by decide)
  have hm2 : ∀ a : Int, opD .mod (.int a) (.int 2147483647) = some (.int (a.fmod 2147483647)) := fun a => op_mod (by decide)
  have go : ∀ w L2, DrOk L2 → ex ⟨callN tab 1000 n, initP tab 1000 n, false, 1000⟩ (match f_22.body with | .cons s _ => s | .nil => .pass) [vs (.ref 0), vs (.int lim), none, none] [.lst [.lst (ns.map iD), .int i, .int c, .int r]] = .ok .next [vs (.ref 0), vs (.int lim), w, none] L2 →
      ∃ v L', finR (exs ⟨callN tab 1000 n, initP tab 1000 n, false, 1000⟩ f_22.body [vs (.ref 0), vs (.int lim), none, none] [.lst [.lst (ns.map iD), .int i, .int c, .int r]]) = .ok (.int v) L' ∧ DrOk L' ∧ 0 ≤ v ∧ v < lim := by
    intro w L2 hL2 he
    obtain ⟨v, L', e, h⟩ := draw2 (G := ⟨callN tab 1000 n, initP tab 1000 n, false, 1000⟩) (w := w) rfl h1 h2 hL2
    refine ⟨v, L', ?_, h⟩
    rw [← e]
    show finR (exs _ (.cons (match f_22.body with | .cons s _ => s | .nil => .pass) (dropS 1 f_22.body)) _ _) = _
    rw [exs_cons, he, kSeqS_next]
  by_cases hc : c = 0
  · by_cases hi : i < ns.length
    · have hx : ixD (.lst (ns.map iD)) (.int i) = some (.int ns[i]) := ixL_at (by simp [hi, iD])
      have hlt : decide ((i : Int) < (ns.length : Int)) = true := by simp; omega
      by_cases hb : (1000000000000000000 : Int) ≤ ns[i]
      · refine go (vs (.int ns[i])) [.lst [.lst (ns.map iD), .int ((i + 1 : Nat) : Int), .int ns[i], .int ((r * 48271 + ns[i] + 13).fmod 2147483647)]] ⟨_, _, _, _, rfl⟩ ?_
        subst hc
        simp only [f_22, ev_var, ev_non, ev_bl, ev_int, ev_str, ev_glob, evO_e, evO_pk, ev_tup, ev_fr, kFrz_ok, ev_op, kOp1_ok, kOp2_ok, ev_cmp, kCmp1_ok, kCmp2_ok, ev_not, kNot_ok, ev_and, kAnd_bl, ev_or, kOr_bl, ev_ite, kIte_ok, kIteB_t, kIteB_f, ev_ix, kIx1_ok, kIx2_ok, ev_isi, kIsi_ok, ev_bi, kBi_ok, ev_call, kCall_ok, ev_callP, kCallP_ok, ev_meth, kMeth1_ins, kMeth2_ok, ev_make, kMake_ok, kIns_ok, ev_fld, kFld_ins, evs_nil, evs_cons, kCons1_ok, kCons2_ok, evOs_nil, evOs_cons, kConsO1_ok, evF_lst, evF_dct0, evF_bi, evF_comp, evI_seq, evI_rng, kSeq_tup, kSeq_lst, opt_some, exs_nil, exs_cons, kSeqS_next, kSeqS_ret, kSeqS_exc, ex_set, kSet_v, ex_setF, kSetF_ok, ex_ite, kIteS_ok, kIteSB_t, kIteSB_f, ex_ret, kRet_ok, ex_expr, kExpr_ok, ex_loop, kLoop_ok, ex_while, fin_ret, fin_next, fin_exc, seen_tup, seen_lst, seen_str, seen_int, seen_bl, seen_non, seen_dct, seen_ins, truth_bl, slot0, slotS, rdV_val, rdP_some, List.set_cons_zero, List.set_cons_succ, frz, Option.map_some, if_true, Bool.not_true, Bool.not_false, Bool.false_eq_true, if_false, ite_true, ite_false, es_dput, sDput_ok, es_dupd, sDupd_ok, es_app, sApp_ok, es_frz, sFrz_v, sFrz_l, sFrz_d, es_aug, sAug_ok, kAug_add, kDput1_ok, kApp_ok, ev_sl1, ev_slm, kSl_ok, ev_chain, kChain1_ok, kChain3_ok, evF_dcomp, evF_comp2, kSet2, kSet3, cmp_lt_int, cmp_le_int, cmp_gt_int, cmp_ge_int, ev_neg_int, cmp_in2, cmp_in2l, cmp_in3, cmp_eq_str, cmp_ne_str, cmp_eq_int, cmp_ne_int, ixT0, ixT1, ixT2, ixT3, List.getElem?_cons_succ, List.getElem?_cons_zero, Int.cast_ofNat_Int, Nat.zero_add, Nat.reduceAdd, Int.reduceBEq, Int.natCast_one, ex_rput, sRo_f, kRput1_ok, kRput2_ok, kRput3_1, kRput3_2, kRput3_3, seen_ref0, ixL0, ixL1, ixL2, ixL3, Int.reduceLT, Int.reduceLE, decide_true, decide_false, isi_tupT, isi_intI, isi_intB, isi_intT, isi_intL, isi_intS, isi_tupL, lf_int, lf_intI, lf_lenT, lf_lenL, lf_tupL, op_addI, op_subI, kTup0, kTup1, kTup2, kTup3, kTup4, kTup5, kLst0, kLst1, kLst2, kLst3, kLst4, kLst5, beqf, List.length_cons, List.length_nil, reduceCtorEq, List.cons.injEq, Nat.reduceEqDiff, and_false, false_and, and_true, true_and, and_self, Bool.and_self, Bool.or_false, Bool.false_or, Bool.true_or, Bool.or_true, beq_self_eq_true, ne_eq, not_false_eq_true, List.length_map, hlt, hx, pw, hb, decide_true, hm, hm2]
        rfl
      · refine go (vs (.int ns[i])) [.lst [.lst (ns.map iD), .int ((i + 1 : Nat) : Int), .int c, .int ((r * 48271 + ns[i] + 13).fmod 2147483647)]] ⟨_, _, _, _, rfl⟩ ?_
        subst hc
        simp only [f_22, ev_var, ev_non, ev_bl, ev_int, ev_str, ev_glob, evO_e, evO_pk, ev_tup, ev_fr, kFrz_ok, ev_op, kOp1_ok, kOp2_ok, ev_cmp, kCmp1_ok, kCmp2_ok, ev_not, kNot_ok, ev_and, kAnd_bl, ev_or, kOr_bl, ev_ite, kIte_ok, kIteB_t, kIteB_f, ev_ix, kIx1_ok, kIx2_ok, ev_isi, kIsi_ok, ev_bi, kBi_ok, ev_call, kCall_ok, ev_callP, kCallP_ok, ev_meth, kMeth1_ins, kMeth2_ok, ev_make, kMake_ok, kIns_ok, ev_fld, kFld_ins, evs_nil, evs_cons, kCons1_ok, kCons2_ok, evOs_nil, evOs_cons, kConsO1_ok, evF_lst, evF_dct0, evF_bi, evF_comp, evI_seq, evI_rng, kSeq_tup, kSeq_lst, opt_some, exs_nil, exs_cons, kSeqS_next, kSeqS_ret, kSeqS_exc, ex_set, kSet_v, ex_setF, kSetF_ok, ex_ite, kIteS_ok, kIteSB_t, kIteSB_f, ex_ret, kRet_ok, ex_expr, kExpr_ok, ex_loop, kLoop_ok, ex_while, fin_ret, fin_next, fin_exc, seen_tup, seen_lst, seen_str, seen_int, seen_bl, seen_non, seen_dct, seen_ins, truth_bl, slot0, slotS, rdV_val, rdP_some, List.set_cons_zero, List.set_cons_succ, frz, Option.map_some, if_true, Bool.not_true, Bool.not_false, Bool.false_eq_true, if_false, ite_true, ite_false, es_dput, sDput_ok, es_dupd, sDupd_ok, es_app, sApp_ok, es_frz, sFrz_v, sFrz_l, sFrz_d, es_aug, sAug_ok, kAug_add, kDput1_ok, kApp_ok, ev_sl1, ev_slm, kSl_ok, ev_chain, kChain1_ok, kChain3_ok, evF_dcomp, evF_comp2, kSet2, kSet3, cmp_lt_int, cmp_le_int, cmp_gt_int, cmp_ge_int, ev_neg_int, cmp_in2, cmp_in2l, cmp_in3, cmp_eq_str, cmp_ne_str, cmp_eq_int, cmp_ne_int, ixT0, ixT1, ixT2, ixT3, List.getElem?_cons_succ, List.getElem?_cons_zero, Int.cast_ofNat_Int, Nat.zero_add, Nat.reduceAdd, Int.reduceBEq, Int.natCast_one, ex_rput, sRo_f, kRput1_ok, kRput2_ok, kRput3_1, kRput3_2, kRput3_3, seen_ref0, ixL0, ixL1, ixL2, ixL3, Int.reduceLT, Int.reduceLE, decide_true, decide_false, isi_tupT, isi_intI, isi_intB, isi_intT, isi_intL, isi_intS, isi_tupL, lf_int, lf_intI, lf_lenT, lf_lenL, lf_tupL, op_addI, op_subI, kTup0, kTup1, kTup2, kTup3, kTup4, kTup5, kLst0, kLst1, kLst2, kLst3, kLst4, kLst5, beqf, List.length_cons, List.length_nil, reduceCtorEq, List.cons.injEq, Nat.reduceEqDiff, and_false, false_and, and_true, true_and, and_self, Bool.and_self, Bool.or_false, Bool.false_or, Bool.true_or, Bool.or_true, beq_self_eq_true, ne_eq, not_false_eq_true, List.length_map, hlt, hx, pw, hb, decide_false, hm, hm2]
        rfl
    · refine go none _ ⟨ns, i, c, r, rfl⟩ ?_
      have hlt : decide ((i : Int) < (ns.length : Int)) = false := by simp; omega
      subst hc
      simp only [f_22, ev_var, ev_non, ev_bl, ev_int, ev_str, ev_glob, evO_e, evO_pk, ev_tup, ev_fr, kFrz_ok, ev_op, kOp1_ok, kOp2_ok, ev_cmp, kCmp1_ok, kCmp2_ok, ev_not, kNot_ok, ev_and, kAnd_bl, ev_or, kOr_bl, ev_ite, kIte_ok, kIteB_t, kIteB_f, ev_ix, kIx1_ok, kIx2_ok, ev_isi, kIsi_ok, ev_bi, kBi_ok, ev_call, kCall_ok, ev_callP, kCallP_ok, ev_meth, kMeth1_ins, kMeth2_ok, ev_make, kMake_ok, kIns_ok, ev_fld, kFld_ins, evs_nil, evs_cons, kCons1_ok, kCons2_ok, evOs_nil, evOs_cons, kConsO1_ok, evF_lst, evF_dct0, evF_bi, evF_comp, evI_seq, evI_rng, kSeq_tup, kSeq_lst, opt_some, exs_nil, exs_cons, kSeqS_next, kSeqS_ret, kSeqS_exc, ex_set, kSet_v, ex_setF, kSetF_ok, ex_ite, kIteS_ok, kIteSB_t, kIteSB_f, ex_ret, kRet_ok, ex_expr, kExpr_ok, ex_loop, kLoop_ok, ex_while, fin_ret, fin_next, fin_exc, seen_tup, seen_lst, seen_str, seen_int, seen_bl, seen_non, seen_dct, seen_ins, truth_bl, slot0, slotS, rdV_val, rdP_some, List.set_cons_zero, List.set_cons_succ, frz, Option.map_some, if_true, Bool.not_true, Bool.not_false, Bool.false_eq_true, if_false, ite_true, ite_false, es_dput, sDput_ok, es_dupd, sDupd_ok, es_app, sApp_ok, es_frz, sFrz_v, sFrz_l, sFrz_d, es_aug, sAug_ok, kAug_add, kDput1_ok, kApp_ok, ev_sl1, ev_slm, kSl_ok, ev_chain, kChain1_ok, kChain3_ok, evF_dcomp, evF_comp2, kSet2, kSet3, cmp_lt_int, cmp_le_int, cmp_gt_int, cmp_ge_int, ev_neg_int, cmp_in2, cmp_in2l, cmp_in3, cmp_eq_str, cmp_ne_str, cmp_eq_int, cmp_ne_int, ixT0, ixT1, ixT2, ixT3, List.getElem?_cons_succ, List.getElem?_cons_zero, Int.cast_ofNat_Int, Nat.zero_add, Nat.reduceAdd, Int.reduceBEq, Int.natCast_one, ex_rput, sRo_f, kRput1_ok, kRput2_ok, kRput3_1, kRput3_2, kRput3_3, seen_ref0, ixL0, ixL1, ixL2, ixL3, Int.reduceLT, Int.reduceLE, decide_true, decide_false, isi_tupT, isi_intI, isi_intB, isi_intT, isi_intL, isi_intS, isi_tupL, lf_int, lf_intI, lf_lenT, lf_lenL, lf_tupL, op_addI, op_subI, kTup0, kTup1, kTup2, kTup3, kTup4, kTup5, kLst0, kLst1, kLst2, kLst3, kLst4, kLst5, beqf, List.length_cons, List.length_nil, reduceCtorEq, List.cons.injEq, Nat.reduceEqDiff, and_false, false_and, and_true, true_and, and_self, Bool.and_self, Bool.or_false, Bool.false_or, Bool.true_or, Bool.or_true, beq_self_eq_true, ne_eq, not_false_eq_true, List.length_map, hlt]
  · refine go none _ ⟨ns, i, c, r, rfl⟩ ?_
    have : (c == 0) = false := by simp [hc]
    simp only [f_22, ev_var, ev_non, ev_bl, ev_int, ev_str, ev_glob, evO_e, evO_pk, ev_tup, ev_fr, kFrz_ok, ev_op, kOp1_ok, kOp2_ok, ev_cmp, kCmp1_ok, kCmp2_ok, ev_not, kNot_ok, ev_and, kAnd_bl, ev_or, kOr_bl, ev_ite, kIte_ok, kIteB_t, kIteB_f, ev_ix, kIx1_ok, kIx2_ok, ev_isi, kIsi_ok, ev_bi, kBi_ok, ev_call, kCall_ok, ev_callP, kCallP_ok, ev_meth, kMeth1_ins, kMeth2_ok, ev_make, kMake_ok, kIns_ok, ev_fld, kFld_ins, evs_nil, evs_cons, kCons1_ok, kCons2_ok, evOs_nil, evOs_cons, kConsO1_ok, evF_lst, evF_dct0, evF_bi, evF_comp, evI_seq, evI_rng, kSeq_tup, kSeq_lst, opt_some, exs_nil, exs_cons, kSeqS_next, kSeqS_ret, kSeqS_exc, ex_set, kSet_v, ex_setF, kSetF_ok, ex_ite, kIteS_ok, kIteSB_t, kIteSB_f, ex_ret, kRet_ok, ex_expr, kExpr_ok, ex_loop, kLoop_ok, ex_while, fin_ret, fin_next, fin_exc, seen_tup, seen_lst, seen_str, seen_int, seen_bl, seen_non, seen_dct, seen_ins, truth_bl, slot0, slotS, rdV_val, rdP_some, List.set_cons_zero, List.set_cons_succ, frz, Option.map_some, if_true, Bool.not_true, Bool.not_false, Bool.false_eq_true, if_false, ite_true, ite_false, es_dput, sDput_ok, es_dupd, sDupd_ok, es_app, sApp_ok, es_frz, sFrz_v, sFrz_l, sFrz_d, es_aug, sAug_ok, kAug_add, kDput1_ok, kApp_ok, ev_sl1, ev_slm, kSl_ok, ev_chain, kChain1_ok, kChain3_ok, evF_dcomp, evF_comp2, kSet2, kSet3, cmp_lt_int, cmp_le_int, cmp_gt_int, cmp_ge_int, ev_neg_int, cmp_in2, cmp_in2l, cmp_in3, cmp_eq_str, cmp_ne_str, cmp_eq_int, cmp_ne_int, ixT0, ixT1, ixT2, ixT3, List.getElem?_cons_succ, List.getElem?_cons_zero, Int.cast_ofNat_Int, Nat.zero_add, Nat.reduceAdd, Int.reduceBEq, Int.natCast_one, ex_rput, sRo_f, kRput1_ok, kRput2_ok, kRput3_1, kRput3_2, kRput3_3, seen_ref0, ixL0, ixL1, ixL2, ixL3, Int.reduceLT, Int.reduceLE, decide_true, decide_false, isi_tupT, isi_intI, isi_intB, isi_intT, isi_intL, isi_intS, isi_tupL, lf_int, lf_intI, lf_lenT, lf_lenL, lf_tupL, op_addI, op_subI, kTup0, kTup1, kTup2, kTup3, kTup4, kTup5, kLst0, kLst1, kLst2, kLst3, kLst4, kLst5, beqf, List.length_cons, List.length_nil, reduceCtorEq, List.cons.injEq, Nat.reduceEqDiff, and_false, false_and, and_true, true_and, and_self, Bool.and_self, Bool.or_false, Bool.false_or, Bool.true_or, Bool.or_true, beq_self_eq_true, ne_eq, not_false_eq_true, this]
theorem draws_ok {n : Nat} {ns : List Int} : callN tab 1000 (n + 1) false 21 [.lst (ns.map iD)] [] = .ok (.ref 0) [.lst [.lst (ns.map iD), .int 0, .int 0, .int 1]] := by kernel_rfl
end k73s

set_option linter.all false
set_option maxRecDepth 100000
namespace k73s
open Wa
open k73 (tab lawNo f_1 f_2 f_3 f_4 f_5 f_6 f_7 f_8 f_9 f_10 f_11 f_12 f_13 f_14 f_15 f_16 f_17 f_18 f_19 f_20 f_21 f_22 f_23 f_24 f_25 f_26 f_27 f_28 f_29 f_30 f_31 f_32)
/-! ### sentences drawn -/
def relD (rels : List (Txt × Nat)) : D := .tup (rels.map fun r => .tup [.str r.1, .int (r.2 : Nat)])
theorem draw_nat {n lim : Nat} {L : List Cell} (h1 : 0 < lim) (h2 : lim < 1073741824) (hL : DrOk L) : ∃ (k : Nat) (L' : List Cell), callN tab 1000 (n + 1) false 22 [.ref 0, .int (lim : Nat)] L = .ok (.int (k : Nat)) L' ∧ DrOk L' ∧ k < lim := by
  obtain ⟨v, L', e, h3, h4, h5⟩ := draw_ok (n := n) (lim := (lim : Nat)) (L := L) (by omega) (by omega) hL
  obtain ⟨k, rfl⟩ := Int.eq_ofNat_of_zero_le h4
  exact ⟨k, L', e, h3, by omega⟩
theorem ix_names {names : List Nat} {k : Nat} (h : k < names.length) : ixD (.lst (names.map vD)) (.int k) = some (vD names[k]) := ixL_at (by simp [h])
theorem ix_rels {rels : List (Txt × Nat)} {k : Nat} (h : k < rels.length) : ixD (relD rels) (.int k) = some (.tup [.str rels[k].1, .int (rels[k].2 : Nat)]) := by
  show (ixD (.lst (rels.map fun r => .tup [.str r.1, .int (r.2 : Nat)])) (.int k)) = _
  exact ixL_at (by simp [h])
theorem comp_draw {n : Nat} {names : List Nat} {env : Env} (h0 : ∀ d : D, slot (env.set 8 (some (.val d))) 0 = vs (.ref 0)) (h2 : ∀ d : D, slot (env.set 8 (some (.val d))) 2 = vs (.lst (names.map vD))) (hn : 0 < names.length) (hl : names.length < 1073741824) :
    ∀ (xs : List D) (L : List Cell), DrOk L → ∃ (zs : List Nat) (L' : List Cell), compL (.v 8) (evB ⟨callN tab 1000 (n + 1), initP tab 1000 (n + 1), false, 1000⟩ .none) (ev ⟨callN tab 1000 (n + 1), initP tab 1000 (n + 1), false, 1000⟩ (.ix (.e (.var 2)) (.call 22 (.cons (.var 0) (.cons (.bi .len (.cons (.e (.var 2)) .nil)) .nil))))) env xs L = .ok (zs.map vD) L' ∧ DrOk L' ∧ zs.length = xs.length ∧ ∀ z ∈ zs, z ∈ names
  | [], L, hL => ⟨[], L, rfl, hL, rfl, by simp⟩
  | x :: xs, L, hL => by
    obtain ⟨k, L1, e, h3, h4⟩ := draw_nat (n := n) (lim := names.length) hn hl hL
    obtain ⟨zs, L2, e2, h5, h6, h7⟩ := comp_draw (n := n) h0 h2 hn hl xs L1 h3
    refine ⟨names[k] :: zs, L2, ?_, h5, by simp [h6], fun z m => ?_⟩
    · simp only [compL_v, ev_var, ev_non, ev_bl, ev_int, ev_str, ev_glob, evO_e, evO_pk, ev_tup, ev_fr, kFrz_ok, ev_op, kOp1_ok, kOp2_ok, ev_cmp, kCmp1_ok, kCmp2_ok, ev_not, kNot_ok, ev_and, kAnd_bl, ev_or, kOr_bl, ev_ite, kIte_ok, kIteB_t, kIteB_f, ev_ix, kIx1_ok, kIx2_ok, ev_isi, kIsi_ok, ev_bi, kBi_ok, ev_call, kCall_ok, ev_callP, kCallP_ok, ev_meth, kMeth1_ins, kMeth2_ok, ev_make, kMake_ok, kIns_ok, ev_fld, kFld_ins, evs_nil, evs_cons, kCons1_ok, kCons2_ok, evOs_nil, evOs_cons, kConsO1_ok, evF_lst, evF_dct0, evF_bi, evF_comp, evI_seq, evI_rng, kSeq_tup, kSeq_lst, opt_some, exs_nil, exs_cons, kSeqS_next, kSeqS_ret, kSeqS_exc, ex_set, kSet_v, ex_setF, kSetF_ok, ex_ite, kIteS_ok, kIteSB_t, kIteSB_f, ex_ret, kRet_ok, ex_expr, kExpr_ok, ex_loop, kLoop_ok, ex_while, fin_ret, fin_next, fin_exc, seen_tup, seen_lst, seen_str, seen_int, seen_bl, seen_non, seen_dct, seen_ins, truth_bl, slot0, slotS, rdV_val, rdP_some, List.set_cons_zero, List.set_cons_succ, frz, Option.map_some, if_true, Bool.not_true, Bool.not_false, Bool.false_eq_true, if_false, ite_true, ite_false, h0, h2, lf_lenL, List.length_map, e, seen_lst, ix_names h4, kCC_ok, e2, kCD_ok, List.map_cons]
    · rcases List.mem_cons.mp m with rfl | m
      · exact List.getElem_mem h4
      · exact h7 z m
theorem ix_s0 {k : Nat} (h : k < 3) : ∃ x, ixD (.str [120, 121, 122]) (.int (k : Nat)) = some (vD x) ∧ x ∈ [120, 121, 122] := by
  match k, h with
  | 0, _ => exact ⟨120, rfl, by simp⟩
  | 1, _ => exact ⟨121, rfl, by simp⟩
  | 2, _ => exact ⟨122, rfl, by simp⟩
theorem ix_two {a b : D} {k : Nat} (h : k < 2) : ixD (.lst [a, b]) (.int (k : Nat)) = some a ∨ ixD (.lst [a, b]) (.int (k : Nat)) = some b := by
  match k, h with
  | 0, _ => exact .inl rfl
  | 1, _ => exact .inr rfl
abbrev G0 (n : Nat) : Cfg := ⟨callN tab 1000 n, initP tab 1000 n, false, 1000⟩
abbrev e28 (rels : List (Txt × Nat)) (names : List Nat) (d f : Int) : Env := [vs (.ref 0), vs (relD rels), vs (.lst (names.map vD)), vs (.int d), vs (.int f), none, none, none, none, none]
/-- what a call leaves -/
def Says (rels : List (Txt × Nat)) (names : List Nat) (d : Nat) (r : R D) : Prop := ∃ (s : Sn) (L' : List Cell), r = .ok s.toD L' ∧ DrOk L' ∧ Wf rels names d s
variable {rels : List (Txt × Nat)} {names : List Nat}
theorem leaf_same {n d : Nat} {L : List Cell} (hr : 0 < rels.length) (hr2 : rels.length < 1000) (hn : 0 < names.length) (hl : names.length < 1073741824) (hL : DrOk L) :
    Says rels names d (finR (exs (G0 (n + 1)) (dropS 1 f_28.body) (e28 rels names d 0) L)) := by
  obtain ⟨k, L1, e, h3, h4⟩ := draw_nat (n := n) (lim := rels.length) hr (by omega) hL
  obtain ⟨j, L2, e2, h5, h6⟩ := draw_nat (n := n) (lim := names.length) hn hl h3
  have hpos : decide ((0 : Int) < (names.length : Int)) = true := by simp; omega
  have i0 : ixD (.lst (names.map vD)) (.int 0) = some (vD names[0]) := ix_names (k := 0) hn
  have hlr : leafD (bi1 .len (relD rels)) = some (.int rels.length) := by simp [relD, lf_lenT]
  have sr : ∀ L, seen (relD rels) L = relD rels := fun _ => rfl
  refine ⟨.same names[0] names[j], L2, ?_, h5, .same (List.getElem_mem hn) (List.getElem_mem h6)⟩
  simp only [f_28, dropS, e28, ev_var, ev_non, ev_bl, ev_int, ev_str, ev_glob, evO_e, evO_pk, ev_tup, ev_fr, kFrz_ok, ev_op, kOp1_ok, kOp2_ok, ev_cmp, kCmp1_ok, kCmp2_ok, ev_not, kNot_ok, ev_and, kAnd_bl, ev_or, kOr_bl, ev_ite, kIte_ok, kIteB_t, kIteB_f, ev_ix, kIx1_ok, kIx2_ok, ev_isi, kIsi_ok, ev_bi, kBi_ok, ev_call, kCall_ok, ev_callP, kCallP_ok, ev_meth, kMeth1_ins, kMeth2_ok, ev_make, kMake_ok, kIns_ok, ev_fld, kFld_ins, evs_nil, evs_cons, kCons1_ok, kCons2_ok, evOs_nil, evOs_cons, kConsO1_ok, evF_lst, evF_dct0, evF_bi, evF_comp, evI_seq, evI_rng, kSeq_tup, kSeq_lst, opt_some, exs_nil, exs_cons, kSeqS_next, kSeqS_ret, kSeqS_exc, ex_set, kSet_v, ex_setF, kSetF_ok, ex_ite, kIteS_ok, kIteSB_t, kIteSB_f, ex_ret, kRet_ok, ex_expr, kExpr_ok, ex_loop, kLoop_ok, ex_while, fin_ret, fin_next, fin_exc, seen_tup, seen_lst, seen_str, seen_int, seen_bl, seen_non, seen_dct, seen_ins, truth_bl, slot0, slotS, rdV_val, rdP_some, List.set_cons_zero, List.set_cons_succ, frz, Option.map_some, if_true, Bool.not_true, Bool.not_false, Bool.false_eq_true, if_false, ite_true, ite_false, es_dput, sDput_ok, es_dupd, sDupd_ok, es_app, sApp_ok, es_frz, sFrz_v, sFrz_l, sFrz_d, es_aug, sAug_ok, kAug_add, kDput1_ok, kApp_ok, ev_sl1, ev_slm, kSl_ok, ev_chain, kChain1_ok, kChain3_ok, evF_dcomp, evF_comp2, kSet2, kSet3, cmp_lt_int, cmp_le_int, cmp_gt_int, cmp_ge_int, ev_neg_int, cmp_in2, cmp_in2l, cmp_in3, cmp_eq_str, cmp_ne_str, cmp_eq_int, cmp_ne_int, ixT0, ixT1, ixT2, ixT3, List.getElem?_cons_succ, List.getElem?_cons_zero, Int.cast_ofNat_Int, Nat.zero_add, Nat.reduceAdd, Int.reduceBEq, Int.natCast_one, ex_rput, sRo_f, kRput1_ok, kRput2_ok, kRput3_1, kRput3_2, kRput3_3, seen_ref0, ixL0, ixL1, ixL2, ixL3, Int.reduceLT, Int.reduceLE, decide_true, decide_false, isi_tupT, isi_intI, isi_intB, isi_intT, isi_intL, isi_intS, isi_tupL, lf_int, lf_intI, lf_lenT, lf_lenL, lf_tupL, op_addI, op_subI, kTup0, kTup1, kTup2, kTup3, kTup4, kTup5, kLst0, kLst1, kLst2, kLst3, kLst4, kLst5, beqf, List.length_cons, List.length_nil, reduceCtorEq, List.cons.injEq, Nat.reduceEqDiff, and_false, false_and, and_true, true_and, and_self, Bool.and_self, Bool.or_false, Bool.false_or, Bool.true_or, Bool.or_true, beq_self_eq_true, ne_eq, not_false_eq_true, List.length_map, hpos, hlr, sr, e, ix_rels h4, e2, i0, ix_names h6, Sn.toD]
theorem leaf_rel {n d : Nat} {f : Int} {L : List Cell} (hf : decide (f < 3) = true) (hf0 : decide (0 < f) = true) (hr : 0 < rels.length) (hr2 : rels.length < 1000) (hr3 : ∀ r ∈ rels, r.2 ≤ 3) (hn : 0 < names.length) (hl : names.length < 1073741824) (hL : DrOk L) :
    Says rels names d (finR (exs (G0 (n + 1)) (dropS 1 f_28.body) (e28 rels names d f) L)) := by
  obtain ⟨k, L1, e, h3, h4⟩ := draw_nat (n := n) (lim := rels.length) hr (by omega) hL
  have hpos : decide ((0 : Int) < (names.length : Int)) = true := by simp; omega
  have hlr : leafD (bi1 .len (relD rels)) = some (.int rels.length) := by simp [relD, lf_lenT]
  have sr : ∀ L, seen (relD rels) L = relD rels := fun _ => rfl
  have h33 := hr3 _ (List.getElem_mem h4)
  have hsm : small (rels[k].2 : Nat) = true := by unfold small; simp; omega
  obtain ⟨zs, L2, e2, h5, h6, h7⟩ := comp_draw (n := n) (names := names) (env := [vs (.ref 0), vs (relD rels), vs (.lst (names.map vD)), vs (.int d), vs (.int f), vs (.str rels[k].1), vs (.int (rels[k].2 : Nat)), none, none, none]) (fun _ => rfl) (fun _ => rfl) hn hl (rngL 0 ((rels[k].2 : Nat) : Int).toNat) L1 h3
  have hz : zs.length = rels[k].2 := by rw [h6]; simp [rngL]
  have hcn : kCompN (.ok (zs.map vD) L2) = .ok (.olst (zs.map vD)) L2 := by
    show sized _ _ _ = _
    unfold sized
    rw [if_pos (by unfold line; simp; omega)]
  refine ⟨.rel rels[k].1 zs, L2, ?_, h5, .rel (by rw [hz]; exact List.getElem_mem h4) h7⟩
  simp only [f_28, dropS, e28, ev_var, ev_non, ev_bl, ev_int, ev_str, ev_glob, evO_e, evO_pk, ev_tup, ev_fr, kFrz_ok, ev_op, kOp1_ok, kOp2_ok, ev_cmp, kCmp1_ok, kCmp2_ok, ev_not, kNot_ok, ev_and, kAnd_bl, ev_or, kOr_bl, ev_ite, kIte_ok, kIteB_t, kIteB_f, ev_ix, kIx1_ok, kIx2_ok, ev_isi, kIsi_ok, ev_bi, kBi_ok, ev_call, kCall_ok, ev_callP, kCallP_ok, ev_meth, kMeth1_ins, kMeth2_ok, ev_make, kMake_ok, kIns_ok, ev_fld, kFld_ins, evs_nil, evs_cons, kCons1_ok, kCons2_ok, evOs_nil, evOs_cons, kConsO1_ok, evF_lst, evF_dct0, evF_bi, evF_comp, evI_seq, evI_rng, kSeq_tup, kSeq_lst, opt_some, exs_nil, exs_cons, kSeqS_next, kSeqS_ret, kSeqS_exc, ex_set, kSet_v, ex_setF, kSetF_ok, ex_ite, kIteS_ok, kIteSB_t, kIteSB_f, ex_ret, kRet_ok, ex_expr, kExpr_ok, ex_loop, kLoop_ok, ex_while, fin_ret, fin_next, fin_exc, seen_tup, seen_lst, seen_str, seen_int, seen_bl, seen_non, seen_dct, seen_ins, truth_bl, slot0, slotS, rdV_val, rdP_some, List.set_cons_zero, List.set_cons_succ, frz, Option.map_some, if_true, Bool.not_true, Bool.not_false, Bool.false_eq_true, if_false, ite_true, ite_false, es_dput, sDput_ok, es_dupd, sDupd_ok, es_app, sApp_ok, es_frz, sFrz_v, sFrz_l, sFrz_d, es_aug, sAug_ok, kAug_add, kDput1_ok, kApp_ok, ev_sl1, ev_slm, kSl_ok, ev_chain, kChain1_ok, kChain3_ok, evF_dcomp, evF_comp2, kSet2, kSet3, cmp_lt_int, cmp_le_int, cmp_gt_int, cmp_ge_int, ev_neg_int, cmp_in2, cmp_in2l, cmp_in3, cmp_eq_str, cmp_ne_str, cmp_eq_int, cmp_ne_int, ixT0, ixT1, ixT2, ixT3, List.getElem?_cons_succ, List.getElem?_cons_zero, Int.cast_ofNat_Int, Nat.zero_add, Nat.reduceAdd, Int.reduceBEq, Int.natCast_one, ex_rput, sRo_f, kRput1_ok, kRput2_ok, kRput3_1, kRput3_2, kRput3_3, seen_ref0, ixL0, ixL1, ixL2, ixL3, Int.reduceLT, Int.reduceLE, decide_true, decide_false, isi_tupT, isi_intI, isi_intB, isi_intT, isi_intL, isi_intS, isi_tupL, lf_int, lf_intI, lf_lenT, lf_lenL, lf_tupL, op_addI, op_subI, kTup0, kTup1, kTup2, kTup3, kTup4, kTup5, kLst0, kLst1, kLst2, kLst3, kLst4, kLst5, beqf, List.length_cons, List.length_nil, reduceCtorEq, List.cons.injEq, Nat.reduceEqDiff, and_false, false_and, and_true, true_and, and_self, Bool.and_self, Bool.or_false, Bool.false_or, Bool.true_or, Bool.or_true, beq_self_eq_true, ne_eq, not_false_eq_true, List.length_map, hf, hf0, hpos, hlr, sr, e, ix_rels h4, kRng1 hsm, kComp_v, wipe_cons, wipe_nil, e2, hcn, Sn.toD]
/-- what the deeper calls say -/
def Rec (rels : List (Txt × Nat)) (names : List Nat) (n d : Nat) : Prop := ∀ L, DrOk L → Says rels names d (callN tab 1000 n false 28 [.ref 0, relD rels, .lst (names.map vD), .int (d : Nat)] L)
theorem sub1 {d : Nat} : (((d + 1 : Nat) : Int) - 1) = (d : Int) := by omega
theorem pos1 {d : Nat} : decide ((0 : Int) < ((d + 1 : Nat) : Int)) = true := by simp only [decide_eq_true_eq]; omega
theorem sent_not {n d : Nat} {L : List Cell} (h : Rec rels names n d) (hL : DrOk L) :
    Says rels names (d + 1) (finR (exs (G0 n) (dropS 1 f_28.body) (e28 rels names ((d + 1 : Nat) : Int) 3) L)) := by
  obtain ⟨s, L1, e, h3, h4⟩ := h L hL
  refine ⟨.not s, L1, ?_, h3, .not h4⟩
  simp only [f_28, dropS, e28, ev_var, ev_non, ev_bl, ev_int, ev_str, ev_glob, evO_e, evO_pk, ev_tup, ev_fr, kFrz_ok, ev_op, kOp1_ok, kOp2_ok, ev_cmp, kCmp1_ok, kCmp2_ok, ev_not, kNot_ok, ev_and, kAnd_bl, ev_or, kOr_bl, ev_ite, kIte_ok, kIteB_t, kIteB_f, ev_ix, kIx1_ok, kIx2_ok, ev_isi, kIsi_ok, ev_bi, kBi_ok, ev_call, kCall_ok, ev_callP, kCallP_ok, ev_meth, kMeth1_ins, kMeth2_ok, ev_make, kMake_ok, kIns_ok, ev_fld, kFld_ins, evs_nil, evs_cons, kCons1_ok, kCons2_ok, evOs_nil, evOs_cons, kConsO1_ok, evF_lst, evF_dct0, evF_bi, evF_comp, evI_seq, evI_rng, kSeq_tup, kSeq_lst, opt_some, exs_nil, exs_cons, kSeqS_next, kSeqS_ret, kSeqS_exc, ex_set, kSet_v, ex_setF, kSetF_ok, ex_ite, kIteS_ok, kIteSB_t, kIteSB_f, ex_ret, kRet_ok, ex_expr, kExpr_ok, ex_loop, kLoop_ok, ex_while, fin_ret, fin_next, fin_exc, seen_tup, seen_lst, seen_str, seen_int, seen_bl, seen_non, seen_dct, seen_ins, truth_bl, slot0, slotS, rdV_val, rdP_some, List.set_cons_zero, List.set_cons_succ, frz, Option.map_some, if_true, Bool.not_true, Bool.not_false, Bool.false_eq_true, if_false, ite_true, ite_false, es_dput, sDput_ok, es_dupd, sDupd_ok, es_app, sApp_ok, es_frz, sFrz_v, sFrz_l, sFrz_d, es_aug, sAug_ok, kAug_add, kDput1_ok, kApp_ok, ev_sl1, ev_slm, kSl_ok, ev_chain, kChain1_ok, kChain3_ok, evF_dcomp, evF_comp2, kSet2, kSet3, cmp_lt_int, cmp_le_int, cmp_gt_int, cmp_ge_int, ev_neg_int, cmp_in2, cmp_in2l, cmp_in3, cmp_eq_str, cmp_ne_str, cmp_eq_int, cmp_ne_int, ixT0, ixT1, ixT2, ixT3, List.getElem?_cons_succ, List.getElem?_cons_zero, Int.cast_ofNat_Int, Nat.zero_add, Nat.reduceAdd, Int.reduceBEq, Int.natCast_one, ex_rput, sRo_f, kRput1_ok, kRput2_ok, kRput3_1, kRput3_2, kRput3_3, seen_ref0, ixL0, ixL1, ixL2, ixL3, Int.reduceLT, Int.reduceLE, decide_true, decide_false, isi_tupT, isi_intI, isi_intB, isi_intT, isi_intL, isi_intS, isi_tupL, lf_int, lf_intI, lf_lenT, lf_lenL, lf_tupL, op_addI, op_subI, kTup0, kTup1, kTup2, kTup3, kTup4, kTup5, kLst0, kLst1, kLst2, kLst3, kLst4, kLst5, beqf, List.length_cons, List.length_nil, reduceCtorEq, List.cons.injEq, Nat.reduceEqDiff, and_false, false_and, and_true, true_and, and_self, Bool.and_self, Bool.or_false, Bool.false_or, Bool.true_or, Bool.or_true, beq_self_eq_true, ne_eq, not_false_eq_true, pos1, sub1, e, Sn.toD]
theorem sent_two {n d : Nat} {f : Int} {L : List Cell} (h : Rec rels names (n + 1) d) (hA : (decide (f < 3) && decide ((0 : Int) < (names.length : Int))) = false) (hf3 : (f == 3) = false) (hf5 : decide (f < 5) = true) (hL : DrOk L) :
    Says rels names (d + 1) (finR (exs (G0 (n + 1)) (dropS 1 f_28.body) (e28 rels names ((d + 1 : Nat) : Int) f) L)) := by
  obtain ⟨k, L1, e, h3, h4⟩ := draw_nat (n := n) (lim := 2) (L := L) (by omega) (by omega) hL
  obtain ⟨s, L2, e2, h5, h6⟩ := h L1 h3
  obtain ⟨t, L3, e3, h7, h8⟩ := h L2 h5
  have e' : callN tab 1000 (n + 1) false 22 [.ref 0, .int 2] L = .ok (.int (k : Nat)) L1 := e
  rcases ix_two (a := .str [97, 110, 100]) (b := .str [111, 114]) h4 with hx | hx
  · refine ⟨.and s t, L3, ?_, h7, .and h6 h8⟩
    cases h1 : decide (f < 3) <;> rw [h1] at hA <;> (try simp only [Bool.true_and] at hA) <;> simp only [f_28, dropS, e28, ev_var, ev_non, ev_bl, ev_int, ev_str, ev_glob, evO_e, evO_pk, ev_tup, ev_fr, kFrz_ok, ev_op, kOp1_ok, kOp2_ok, ev_cmp, kCmp1_ok, kCmp2_ok, ev_not, kNot_ok, ev_and, kAnd_bl, ev_or, kOr_bl, ev_ite, kIte_ok, kIteB_t, kIteB_f, ev_ix, kIx1_ok, kIx2_ok, ev_isi, kIsi_ok, ev_bi, kBi_ok, ev_call, kCall_ok, ev_callP, kCallP_ok, ev_meth, kMeth1_ins, kMeth2_ok, ev_make, kMake_ok, kIns_ok, ev_fld, kFld_ins, evs_nil, evs_cons, kCons1_ok, kCons2_ok, evOs_nil, evOs_cons, kConsO1_ok, evF_lst, evF_dct0, evF_bi, evF_comp, evI_seq, evI_rng, kSeq_tup, kSeq_lst, opt_some, exs_nil, exs_cons, kSeqS_next, kSeqS_ret, kSeqS_exc, ex_set, kSet_v, ex_setF, kSetF_ok, ex_ite, kIteS_ok, kIteSB_t, kIteSB_f, ex_ret, kRet_ok, ex_expr, kExpr_ok, ex_loop, kLoop_ok, ex_while, fin_ret, fin_next, fin_exc, seen_tup, seen_lst, seen_str, seen_int, seen_bl, seen_non, seen_dct, seen_ins, truth_bl, slot0, slotS, rdV_val, rdP_some, List.set_cons_zero, List.set_cons_succ, frz, Option.map_some, if_true, Bool.not_true, Bool.not_false, Bool.false_eq_true, if_false, ite_true, ite_false, es_dput, sDput_ok, es_dupd, sDupd_ok, es_app, sApp_ok, es_frz, sFrz_v, sFrz_l, sFrz_d, es_aug, sAug_ok, kAug_add, kDput1_ok, kApp_ok, ev_sl1, ev_slm, kSl_ok, ev_chain, kChain1_ok, kChain3_ok, evF_dcomp, evF_comp2, kSet2, kSet3, cmp_lt_int, cmp_le_int, cmp_gt_int, cmp_ge_int, ev_neg_int, cmp_in2, cmp_in2l, cmp_in3, cmp_eq_str, cmp_ne_str, cmp_eq_int, cmp_ne_int, ixT0, ixT1, ixT2, ixT3, List.getElem?_cons_succ, List.getElem?_cons_zero, Int.cast_ofNat_Int, Nat.zero_add, Nat.reduceAdd, Int.reduceBEq, Int.natCast_one, ex_rput, sRo_f, kRput1_ok, kRput2_ok, kRput3_1, kRput3_2, kRput3_3, seen_ref0, ixL0, ixL1, ixL2, ixL3, Int.reduceLT, Int.reduceLE, decide_true, decide_false, isi_tupT, isi_intI, isi_intB, isi_intT, isi_intL, isi_intS, isi_tupL, lf_int, lf_intI, lf_lenT, lf_lenL, lf_tupL, op_addI, op_subI, kTup0, kTup1, kTup2, kTup3, kTup4, kTup5, kLst0, kLst1, kLst2, kLst3, kLst4, kLst5, beqf, List.length_cons, List.length_nil, reduceCtorEq, List.cons.injEq, Nat.reduceEqDiff, and_false, false_and, and_true, true_and, and_self, Bool.and_self, Bool.or_false, Bool.false_or, Bool.true_or, Bool.or_true, beq_self_eq_true, ne_eq, not_false_eq_true, List.length_map, h1, hA, hf3, hf5, pos1, sub1, e', hx, e2, e3, Sn.toD]
  · refine ⟨.or s t, L3, ?_, h7, .or h6 h8⟩
    cases h1 : decide (f < 3) <;> rw [h1] at hA <;> (try simp only [Bool.true_and] at hA) <;> simp only [f_28, dropS, e28, ev_var, ev_non, ev_bl, ev_int, ev_str, ev_glob, evO_e, evO_pk, ev_tup, ev_fr, kFrz_ok, ev_op, kOp1_ok, kOp2_ok, ev_cmp, kCmp1_ok, kCmp2_ok, ev_not, kNot_ok, ev_and, kAnd_bl, ev_or, kOr_bl, ev_ite, kIte_ok, kIteB_t, kIteB_f, ev_ix, kIx1_ok, kIx2_ok, ev_isi, kIsi_ok, ev_bi, kBi_ok, ev_call, kCall_ok, ev_callP, kCallP_ok, ev_meth, kMeth1_ins, kMeth2_ok, ev_make, kMake_ok, kIns_ok, ev_fld, kFld_ins, evs_nil, evs_cons, kCons1_ok, kCons2_ok, evOs_nil, evOs_cons, kConsO1_ok, evF_lst, evF_dct0, evF_bi, evF_comp, evI_seq, evI_rng, kSeq_tup, kSeq_lst, opt_some, exs_nil, exs_cons, kSeqS_next, kSeqS_ret, kSeqS_exc, ex_set, kSet_v, ex_setF, kSetF_ok, ex_ite, kIteS_ok, kIteSB_t, kIteSB_f, ex_ret, kRet_ok, ex_expr, kExpr_ok, ex_loop, kLoop_ok, ex_while, fin_ret, fin_next, fin_exc, seen_tup, seen_lst, seen_str, seen_int, seen_bl, seen_non, seen_dct, seen_ins, truth_bl, slot0, slotS, rdV_val, rdP_some, List.set_cons_zero, List.set_cons_succ, frz, Option.map_some, if_true, Bool.not_true, Bool.not_false, Bool.false_eq_true, if_false, ite_true, ite_false, es_dput, sDput_ok, es_dupd, sDupd_ok, es_app, sApp_ok, es_frz, sFrz_v, sFrz_l, sFrz_d, es_aug, sAug_ok, kAug_add, kDput1_ok, kApp_ok, ev_sl1, ev_slm, kSl_ok, ev_chain, kChain1_ok, kChain3_ok, evF_dcomp, evF_comp2, kSet2, kSet3, cmp_lt_int, cmp_le_int, cmp_gt_int, cmp_ge_int, ev_neg_int, cmp_in2, cmp_in2l, cmp_in3, cmp_eq_str, cmp_ne_str, cmp_eq_int, cmp_ne_int, ixT0, ixT1, ixT2, ixT3, List.getElem?_cons_succ, List.getElem?_cons_zero, Int.cast_ofNat_Int, Nat.zero_add, Nat.reduceAdd, Int.reduceBEq, Int.natCast_one, ex_rput, sRo_f, kRput1_ok, kRput2_ok, kRput3_1, kRput3_2, kRput3_3, seen_ref0, ixL0, ixL1, ixL2, ixL3, Int.reduceLT, Int.reduceLE, decide_true, decide_false, isi_tupT, isi_intI, isi_intB, isi_intT, isi_intL, isi_intS, isi_tupL, lf_int, lf_intI, lf_lenT, lf_lenL, lf_tupL, op_addI, op_subI, kTup0, kTup1, kTup2, kTup3, kTup4, kTup5, kLst0, kLst1, kLst2, kLst3, kLst4, kLst5, beqf, List.length_cons, List.length_nil, reduceCtorEq, List.cons.injEq, Nat.reduceEqDiff, and_false, false_and, and_true, true_and, and_self, Bool.and_self, Bool.or_false, Bool.false_or, Bool.true_or, Bool.or_true, beq_self_eq_true, ne_eq, not_false_eq_true, List.length_map, h1, hA, hf3, hf5, pos1, sub1, e', hx, e2, e3, Sn.toD]
/-- the names within -/
def inn (names : List Nat) (x : Nat) : List Nat := names.filter (fun y => !(([y] : Txt) == [x])) ++ [x]
theorem comp_inn {n : Nat} {env : Env} {x : Nat} {L : List Cell} (h9 : ∀ d : D, slot ((wipe env [9]).set 9 (some (.val d))) 9 = some (.val d)) (h5 : ∀ d : D, slot ((wipe env [9]).set 9 (some (.val d))) 5 = vs (vD x)) (hl : names.length < 1000) :
    kComp (G0 n) [9] (.var 9) (.v 9) (.some (.cmp .ne (.e (.var 9)) (.e (.var 5)))) env (.ok (names.map vD) L) = .ok (.olst ((names.filter (fun y => !(([y] : Txt) == [x]))).map vD)) L := by
  have : ∀ names : List Nat, compL (.v 9) (evB (G0 n) (.some (.cmp .ne (.e (.var 9)) (.e (.var 5))))) (ev (G0 n) (.var 9)) (wipe env [9]) (names.map vD) L = .ok ((names.filter (fun y => !(([y] : Txt) == [x]))).map vD) L := by
    intro names
    induction names with
    | nil => rfl
    | cons y ys ih =>
      have hb : evB (G0 n) (.some (.cmp .ne (.e (.var 9)) (.e (.var 5)))) ((wipe env [9]).set 9 (some (.val (vD y)))) L = .ok (!(([y] : Txt) == [x])) L :=
        evB_some (by simp only [ev_var, ev_non, ev_bl, ev_int, ev_str, ev_glob, evO_e, evO_pk, ev_tup, ev_fr, kFrz_ok, ev_op, kOp1_ok, kOp2_ok, ev_cmp, kCmp1_ok, kCmp2_ok, ev_not, kNot_ok, ev_and, kAnd_bl, ev_or, kOr_bl, ev_ite, kIte_ok, kIteB_t, kIteB_f, ev_ix, kIx1_ok, kIx2_ok, ev_isi, kIsi_ok, ev_bi, kBi_ok, ev_call, kCall_ok, ev_callP, kCallP_ok, ev_meth, kMeth1_ins, kMeth2_ok, ev_make, kMake_ok, kIns_ok, ev_fld, kFld_ins, evs_nil, evs_cons, kCons1_ok, kCons2_ok, evOs_nil, evOs_cons, kConsO1_ok, evF_lst, evF_dct0, evF_bi, evF_comp, evI_seq, evI_rng, kSeq_tup, kSeq_lst, opt_some, exs_nil, exs_cons, kSeqS_next, kSeqS_ret, kSeqS_exc, ex_set, kSet_v, ex_setF, kSetF_ok, ex_ite, kIteS_ok, kIteSB_t, kIteSB_f, ex_ret, kRet_ok, ex_expr, kExpr_ok, ex_loop, kLoop_ok, ex_while, fin_ret, fin_next, fin_exc, seen_tup, seen_lst, seen_str, seen_int, seen_bl, seen_non, seen_dct, seen_ins, truth_bl, slot0, slotS, rdV_val, rdP_some, List.set_cons_zero, List.set_cons_succ, frz, Option.map_some, if_true, Bool.not_true, Bool.not_false, Bool.false_eq_true, if_false, ite_true, ite_false, h9, h5, ne_v, show seen (vD x) L = vD x from rfl])
      have he : ev (G0 n) (.var 9) ((wipe env [9]).set 9 (some (.val (vD y)))) L = .ok (vD y) L := by rw [ev_var, h9]; rfl
      show (evB (G0 n) (.some (.cmp .ne (.e (.var 9)) (.e (.var 5)))) ((wipe env [9]).set 9 (some (.val (vD y)))) L).bind _ = _
      rw [hb]
      cases hp : !(([y] : Txt) == [x]) with
      | false => rw [List.filter_cons_of_neg (p := fun y => !(([y] : Txt) == [x])) (by show ¬ (!(([y] : Txt) == [x])) = true; rw [hp]; decide)]; exact ih
      | true =>
        rw [List.filter_cons_of_pos (p := fun y => !(([y] : Txt) == [x])) hp]
        show (ev (G0 n) (.var 9) ((wipe env [9]).set 9 (some (.val (vD y)))) L).bind _ = _
        rw [he]
        show (compL _ _ _ _ (ys.map vD) L).bind _ = _
        rw [ih]
        rfl
  show (nox (compL _ _ _ _ _ _)).bind _ = _
  rw [this]
  have := List.length_filter_le (fun y => !(([y] : Txt) == [x])) names
  show sized _ _ _ = _
  unfold sized
  rw [if_pos (by unfold line; simp only [List.length_map]; omega)]
theorem op_addL {a b : List D} (h : a.length + b.length ≤ line) : opD .add (.lst a) (.lst b) = some (.lst (a ++ b)) := by
  show (if a.length + b.length ≤ line then some (D.lst (a ++ b)) else none) = _
  rw [if_pos h]
theorem sent_q {n d : Nat} {f : Int} {L : List Cell} (h : ∀ x, Rec rels (inn names x) (n + 1) d) (hl : names.length < 1000) (hf3 : decide (f < 3) = false) (hfe : (f == 3) = false) (hf5 : decide (f < 5) = false) (hf7 : decide (f < 7) = true) (hL : DrOk L) :
    Says rels names (d + 1) (finR (exs (G0 (n + 1)) (dropS 1 f_28.body) (e28 rels names ((d + 1 : Nat) : Int) f) L)) := by
  obtain ⟨k, L1, e, h3, h4⟩ := draw_nat (n := n) (lim := 3) (L := L) (by omega) (by omega) hL
  obtain ⟨x, hx, hx3⟩ := ix_s0 h4
  obtain ⟨s, L2, e2, h5, h6⟩ := h x L1 h3
  obtain ⟨j, L3, e3, h7, h8⟩ := draw_nat (n := n) (lim := 2) (L := L2) (by omega) (by omega) h5
  have e' : callN tab 1000 (n + 1) false 22 [.ref 0, .int 3] L = .ok (.int (k : Nat)) L1 := e
  have e3' : callN tab 1000 (n + 1) false 22 [.ref 0, .int 2] L2 = .ok (.int (j : Nat)) L3 := e3
  have hd0 : (((d + 1 : Nat) : Int) == 0) = false := by simp; omega
  have hw : Wf rels (x :: names) d s := h6.weak fun y m => by
    rcases List.mem_append.mp m with m | m
    · exact List.mem_cons_of_mem _ (List.mem_filter.mp m).1
    · rcases List.mem_singleton.mp m with rfl; exact List.mem_cons_self
  have hc := comp_inn (n := n + 1) (names := names) (env := [vs (.ref 0), vs (relD rels), vs (.lst (names.map vD)), vs (.int ((d + 1 : Nat) : Int)), vs (.int f), vs (vD x), none, none, none, none]) (x := x) (L := L1) (fun _ => rfl) (fun _ => rfl) hl
  have ha : opD .add (.lst ((names.filter (fun y => !(([y] : Txt) == [x]))).map vD)) (.lst [vD x]) = some (.lst ((inn names x).map vD)) := by
    rw [op_addL (by have := List.length_filter_le (fun y => !(([y] : Txt) == [x])) names; unfold line; simp only [List.length_map, List.length_cons, List.length_nil]; omega)]
    simp [inn]
  rcases ix_two (a := .str [115, 111, 109, 101]) (b := .str [97, 108, 108]) h8 with hy | hy
  · refine ⟨.some x s, L3, ?_, h7, .some hx3 hw⟩
    simp only [f_28, dropS, e28, ev_var, ev_non, ev_bl, ev_int, ev_str, ev_glob, evO_e, evO_pk, ev_tup, ev_fr, kFrz_ok, ev_op, kOp1_ok, kOp2_ok, ev_cmp, kCmp1_ok, kCmp2_ok, ev_not, kNot_ok, ev_and, kAnd_bl, ev_or, kOr_bl, ev_ite, kIte_ok, kIteB_t, kIteB_f, ev_ix, kIx1_ok, kIx2_ok, ev_isi, kIsi_ok, ev_bi, kBi_ok, ev_call, kCall_ok, ev_callP, kCallP_ok, ev_meth, kMeth1_ins, kMeth2_ok, ev_make, kMake_ok, kIns_ok, ev_fld, kFld_ins, evs_nil, evs_cons, kCons1_ok, kCons2_ok, evOs_nil, evOs_cons, kConsO1_ok, evF_lst, evF_dct0, evF_bi, evF_comp, evI_seq, evI_rng, kSeq_tup, kSeq_lst, opt_some, exs_nil, exs_cons, kSeqS_next, kSeqS_ret, kSeqS_exc, ex_set, kSet_v, ex_setF, kSetF_ok, ex_ite, kIteS_ok, kIteSB_t, kIteSB_f, ex_ret, kRet_ok, ex_expr, kExpr_ok, ex_loop, kLoop_ok, ex_while, fin_ret, fin_next, fin_exc, seen_tup, seen_lst, seen_str, seen_int, seen_bl, seen_non, seen_dct, seen_ins, truth_bl, slot0, slotS, rdV_val, rdP_some, List.set_cons_zero, List.set_cons_succ, frz, Option.map_some, if_true, Bool.not_true, Bool.not_false, Bool.false_eq_true, if_false, ite_true, ite_false, es_dput, sDput_ok, es_dupd, sDupd_ok, es_app, sApp_ok, es_frz, sFrz_v, sFrz_l, sFrz_d, es_aug, sAug_ok, kAug_add, kDput1_ok, kApp_ok, ev_sl1, ev_slm, kSl_ok, ev_chain, kChain1_ok, kChain3_ok, evF_dcomp, evF_comp2, kSet2, kSet3, cmp_lt_int, cmp_le_int, cmp_gt_int, cmp_ge_int, ev_neg_int, cmp_in2, cmp_in2l, cmp_in3, cmp_eq_str, cmp_ne_str, cmp_eq_int, cmp_ne_int, ixT0, ixT1, ixT2, ixT3, List.getElem?_cons_succ, List.getElem?_cons_zero, Int.cast_ofNat_Int, Nat.zero_add, Nat.reduceAdd, Int.reduceBEq, Int.natCast_one, ex_rput, sRo_f, kRput1_ok, kRput2_ok, kRput3_1, kRput3_2, kRput3_3, seen_ref0, ixL0, ixL1, ixL2, ixL3, Int.reduceLT, Int.reduceLE, decide_true, decide_false, isi_tupT, isi_intI, isi_intB, isi_intT, isi_intL, isi_intS, isi_tupL, lf_int, lf_intI, lf_lenT, lf_lenL, lf_tupL, op_addI, op_subI, kTup0, kTup1, kTup2, kTup3, kTup4, kTup5, kLst0, kLst1, kLst2, kLst3, kLst4, kLst5, beqf, List.length_cons, List.length_nil, reduceCtorEq, List.cons.injEq, Nat.reduceEqDiff, and_false, false_and, and_true, true_and, and_self, Bool.and_self, Bool.or_false, Bool.false_or, Bool.true_or, Bool.or_true, beq_self_eq_true, ne_eq, not_false_eq_true, hf3, hfe, hf5, hf7, hd0, pos1, sub1, e', seen_str, hx, hc, ha, e2, e3', hy, Sn.toD]
  · refine ⟨.all x s, L3, ?_, h7, .all hx3 hw⟩
    simp only [f_28, dropS, e28, ev_var, ev_non, ev_bl, ev_int, ev_str, ev_glob, evO_e, evO_pk, ev_tup, ev_fr, kFrz_ok, ev_op, kOp1_ok, kOp2_ok, ev_cmp, kCmp1_ok, kCmp2_ok, ev_not, kNot_ok, ev_and, kAnd_bl, ev_or, kOr_bl, ev_ite, kIte_ok, kIteB_t, kIteB_f, ev_ix, kIx1_ok, kIx2_ok, ev_isi, kIsi_ok, ev_bi, kBi_ok, ev_call, kCall_ok, ev_callP, kCallP_ok, ev_meth, kMeth1_ins, kMeth2_ok, ev_make, kMake_ok, kIns_ok, ev_fld, kFld_ins, evs_nil, evs_cons, kCons1_ok, kCons2_ok, evOs_nil, evOs_cons, kConsO1_ok, evF_lst, evF_dct0, evF_bi, evF_comp, evI_seq, evI_rng, kSeq_tup, kSeq_lst, opt_some, exs_nil, exs_cons, kSeqS_next, kSeqS_ret, kSeqS_exc, ex_set, kSet_v, ex_setF, kSetF_ok, ex_ite, kIteS_ok, kIteSB_t, kIteSB_f, ex_ret, kRet_ok, ex_expr, kExpr_ok, ex_loop, kLoop_ok, ex_while, fin_ret, fin_next, fin_exc, seen_tup, seen_lst, seen_str, seen_int, seen_bl, seen_non, seen_dct, seen_ins, truth_bl, slot0, slotS, rdV_val, rdP_some, List.set_cons_zero, List.set_cons_succ, frz, Option.map_some, if_true, Bool.not_true, Bool.not_false, Bool.false_eq_true, if_false, ite_true, ite_false, es_dput, sDput_ok, es_dupd, sDupd_ok, es_app, sApp_ok, es_frz, sFrz_v, sFrz_l, sFrz_d, es_aug, sAug_ok, kAug_add, kDput1_ok, kApp_ok, ev_sl1, ev_slm, kSl_ok, ev_chain, kChain1_ok, kChain3_ok, evF_dcomp, evF_comp2, kSet2, kSet3, cmp_lt_int, cmp_le_int, cmp_gt_int, cmp_ge_int, ev_neg_int, cmp_in2, cmp_in2l, cmp_in3, cmp_eq_str, cmp_ne_str, cmp_eq_int, cmp_ne_int, ixT0, ixT1, ixT2, ixT3, List.getElem?_cons_succ, List.getElem?_cons_zero, Int.cast_ofNat_Int, Nat.zero_add, Nat.reduceAdd, Int.reduceBEq, Int.natCast_one, ex_rput, sRo_f, kRput1_ok, kRput2_ok, kRput3_1, kRput3_2, kRput3_3, seen_ref0, ixL0, ixL1, ixL2, ixL3, Int.reduceLT, Int.reduceLE, decide_true, decide_false, isi_tupT, isi_intI, isi_intB, isi_intT, isi_intL, isi_intS, isi_tupL, lf_int, lf_intI, lf_lenT, lf_lenL, lf_tupL, op_addI, op_subI, kTup0, kTup1, kTup2, kTup3, kTup4, kTup5, kLst0, kLst1, kLst2, kLst3, kLst4, kLst5, beqf, List.length_cons, List.length_nil, reduceCtorEq, List.cons.injEq, Nat.reduceEqDiff, and_false, false_and, and_true, true_and, and_self, Bool.and_self, Bool.or_false, Bool.false_or, Bool.true_or, Bool.or_true, beq_self_eq_true, ne_eq, not_false_eq_true, hf3, hfe, hf5, hf7, hd0, pos1, sub1, e', seen_str, hx, hc, ha, e2, e3', hy, Sn.toD]
theorem sent_many {n d : Nat} {f : Int} {L : List Cell} (h : ∀ x, Rec rels (inn names x) (n + 1) d) (hl : names.length < 1000) (hf3 : decide (f < 3) = false) (hfe : (f == 3) = false) (hf5 : decide (f < 5) = false) (hf7 : decide (f < 7) = false) (hL : DrOk L) :
    Says rels names (d + 1) (finR (exs (G0 (n + 1)) (dropS 1 f_28.body) (e28 rels names ((d + 1 : Nat) : Int) f) L)) := by
  obtain ⟨k, L1, e, h3, h4⟩ := draw_nat (n := n) (lim := 3) (L := L) (by omega) (by omega) hL
  obtain ⟨x, hx, hx3⟩ := ix_s0 h4
  obtain ⟨s, L2, e2, h5, h6⟩ := h x L1 h3
  obtain ⟨j, L3, e3, h7, h8⟩ := draw_nat (n := n) (lim := 4) (L := L2) (by omega) (by omega) h5
  have e' : callN tab 1000 (n + 1) false 22 [.ref 0, .int 3] L = .ok (.int (k : Nat)) L1 := e
  have e3' : callN tab 1000 (n + 1) false 22 [.ref 0, .int 4] L2 = .ok (.int (j : Nat)) L3 := e3
  have hd0 : (((d + 1 : Nat) : Int) == 0) = false := by simp; omega
  have hw : Wf rels (x :: names) d s := h6.weak fun y m => by
    rcases List.mem_append.mp m with m | m
    · exact List.mem_cons_of_mem _ (List.mem_filter.mp m).1
    · rcases List.mem_singleton.mp m with rfl; exact List.mem_cons_self
  have hc := comp_inn (n := n + 1) (names := names) (env := [vs (.ref 0), vs (relD rels), vs (.lst (names.map vD)), vs (.int ((d + 1 : Nat) : Int)), vs (.int f), vs (vD x), none, none, none, none]) (x := x) (L := L1) (fun _ => rfl) (fun _ => rfl) hl
  have ha : opD .add (.lst ((names.filter (fun y => !(([y] : Txt) == [x]))).map vD)) (.lst [vD x]) = some (.lst ((inn names x).map vD)) := by
    rw [op_addL (by have := List.length_filter_le (fun y => !(([y] : Txt) == [x])) names; unfold line; simp only [List.length_map, List.length_cons, List.length_nil]; omega)]
    simp [inn]
  refine ⟨.many j x s, L3, ?_, h7, .many h8 hx3 hw⟩
  simp only [f_28, dropS, e28, ev_var, ev_non, ev_bl, ev_int, ev_str, ev_glob, evO_e, evO_pk, ev_tup, ev_fr, kFrz_ok, ev_op, kOp1_ok, kOp2_ok, ev_cmp, kCmp1_ok, kCmp2_ok, ev_not, kNot_ok, ev_and, kAnd_bl, ev_or, kOr_bl, ev_ite, kIte_ok, kIteB_t, kIteB_f, ev_ix, kIx1_ok, kIx2_ok, ev_isi, kIsi_ok, ev_bi, kBi_ok, ev_call, kCall_ok, ev_callP, kCallP_ok, ev_meth, kMeth1_ins, kMeth2_ok, ev_make, kMake_ok, kIns_ok, ev_fld, kFld_ins, evs_nil, evs_cons, kCons1_ok, kCons2_ok, evOs_nil, evOs_cons, kConsO1_ok, evF_lst, evF_dct0, evF_bi, evF_comp, evI_seq, evI_rng, kSeq_tup, kSeq_lst, opt_some, exs_nil, exs_cons, kSeqS_next, kSeqS_ret, kSeqS_exc, ex_set, kSet_v, ex_setF, kSetF_ok, ex_ite, kIteS_ok, kIteSB_t, kIteSB_f, ex_ret, kRet_ok, ex_expr, kExpr_ok, ex_loop, kLoop_ok, ex_while, fin_ret, fin_next, fin_exc, seen_tup, seen_lst, seen_str, seen_int, seen_bl, seen_non, seen_dct, seen_ins, truth_bl, slot0, slotS, rdV_val, rdP_some, List.set_cons_zero, List.set_cons_succ, frz, Option.map_some, if_true, Bool.not_true, Bool.not_false, Bool.false_eq_true, if_false, ite_true, ite_false, es_dput, sDput_ok, es_dupd, sDupd_ok, es_app, sApp_ok, es_frz, sFrz_v, sFrz_l, sFrz_d, es_aug, sAug_ok, kAug_add, kDput1_ok, kApp_ok, ev_sl1, ev_slm, kSl_ok, ev_chain, kChain1_ok, kChain3_ok, evF_dcomp, evF_comp2, kSet2, kSet3, cmp_lt_int, cmp_le_int, cmp_gt_int, cmp_ge_int, ev_neg_int, cmp_in2, cmp_in2l, cmp_in3, cmp_eq_str, cmp_ne_str, cmp_eq_int, cmp_ne_int, ixT0, ixT1, ixT2, ixT3, List.getElem?_cons_succ, List.getElem?_cons_zero, Int.cast_ofNat_Int, Nat.zero_add, Nat.reduceAdd, Int.reduceBEq, Int.natCast_one, ex_rput, sRo_f, kRput1_ok, kRput2_ok, kRput3_1, kRput3_2, kRput3_3, seen_ref0, ixL0, ixL1, ixL2, ixL3, Int.reduceLT, Int.reduceLE, decide_true, decide_false, isi_tupT, isi_intI, isi_intB, isi_intT, isi_intL, isi_intS, isi_tupL, lf_int, lf_intI, lf_lenT, lf_lenL, lf_tupL, op_addI, op_subI, kTup0, kTup1, kTup2, kTup3, kTup4, kTup5, kLst0, kLst1, kLst2, kLst3, kLst4, kLst5, beqf, List.length_cons, List.length_nil, reduceCtorEq, List.cons.injEq, Nat.reduceEqDiff, and_false, false_and, and_true, true_and, and_self, Bool.and_self, Bool.or_false, Bool.false_or, Bool.true_or, Bool.or_true, beq_self_eq_true, ne_eq, not_false_eq_true, hf3, hfe, hf5, hf7, hd0, pos1, sub1, e', seen_str, hx, hc, ha, e2, e3', Sn.toD]
theorem sent_yes {n : Nat} {L : List Cell} (hL : DrOk L) : Says rels [] 0 (finR (exs (G0 n) (dropS 1 f_28.body) (e28 rels [] 0 0) L)) := by
  refine ⟨.yes, L, ?_, hL, .yes⟩
  simp only [f_28, dropS, e28, List.map_nil, ev_var, ev_non, ev_bl, ev_int, ev_str, ev_glob, evO_e, evO_pk, ev_tup, ev_fr, kFrz_ok, ev_op, kOp1_ok, kOp2_ok, ev_cmp, kCmp1_ok, kCmp2_ok, ev_not, kNot_ok, ev_and, kAnd_bl, ev_or, kOr_bl, ev_ite, kIte_ok, kIteB_t, kIteB_f, ev_ix, kIx1_ok, kIx2_ok, ev_isi, kIsi_ok, ev_bi, kBi_ok, ev_call, kCall_ok, ev_callP, kCallP_ok, ev_meth, kMeth1_ins, kMeth2_ok, ev_make, kMake_ok, kIns_ok, ev_fld, kFld_ins, evs_nil, evs_cons, kCons1_ok, kCons2_ok, evOs_nil, evOs_cons, kConsO1_ok, evF_lst, evF_dct0, evF_bi, evF_comp, evI_seq, evI_rng, kSeq_tup, kSeq_lst, opt_some, exs_nil, exs_cons, kSeqS_next, kSeqS_ret, kSeqS_exc, ex_set, kSet_v, ex_setF, kSetF_ok, ex_ite, kIteS_ok, kIteSB_t, kIteSB_f, ex_ret, kRet_ok, ex_expr, kExpr_ok, ex_loop, kLoop_ok, ex_while, fin_ret, fin_next, fin_exc, seen_tup, seen_lst, seen_str, seen_int, seen_bl, seen_non, seen_dct, seen_ins, truth_bl, slot0, slotS, rdV_val, rdP_some, List.set_cons_zero, List.set_cons_succ, frz, Option.map_some, if_true, Bool.not_true, Bool.not_false, Bool.false_eq_true, if_false, ite_true, ite_false, es_dput, sDput_ok, es_dupd, sDupd_ok, es_app, sApp_ok, es_frz, sFrz_v, sFrz_l, sFrz_d, es_aug, sAug_ok, kAug_add, kDput1_ok, kApp_ok, ev_sl1, ev_slm, kSl_ok, ev_chain, kChain1_ok, kChain3_ok, evF_dcomp, evF_comp2, kSet2, kSet3, cmp_lt_int, cmp_le_int, cmp_gt_int, cmp_ge_int, ev_neg_int, cmp_in2, cmp_in2l, cmp_in3, cmp_eq_str, cmp_ne_str, cmp_eq_int, cmp_ne_int, ixT0, ixT1, ixT2, ixT3, List.getElem?_cons_succ, List.getElem?_cons_zero, Int.cast_ofNat_Int, Nat.zero_add, Nat.reduceAdd, Int.reduceBEq, Int.natCast_one, ex_rput, sRo_f, kRput1_ok, kRput2_ok, kRput3_1, kRput3_2, kRput3_3, seen_ref0, ixL0, ixL1, ixL2, ixL3, Int.reduceLT, Int.reduceLE, decide_true, decide_false, isi_tupT, isi_intI, isi_intB, isi_intT, isi_intL, isi_intS, isi_tupL, lf_int, lf_intI, lf_lenT, lf_lenL, lf_tupL, op_addI, op_subI, kTup0, kTup1, kTup2, kTup3, kTup4, kTup5, kLst0, kLst1, kLst2, kLst3, kLst4, kLst5, beqf, List.length_cons, List.length_nil, reduceCtorEq, List.cons.injEq, Nat.reduceEqDiff, and_false, false_and, and_true, true_and, and_self, Bool.and_self, Bool.or_false, Bool.false_or, Bool.true_or, Bool.or_true, beq_self_eq_true, ne_eq, not_false_eq_true, Sn.toD]
theorem sent_ok (hr : 0 < rels.length) (hr2 : rels.length < 1000) (hr3 : ∀ r ∈ rels, r.2 ≤ 3) : ∀ (d : Nat) (names : List Nat) (n : Nat), names.length + d < 1000 → Rec rels names (n + d + 2) d := by
  intro d
  induction d with
  | zero =>
    intro names n hl L hL
    rw [call_succ (fn := f_28) rfl, run_eq (env := [vs (.ref 0), vs (relD rels), vs (.lst (names.map vD)), vs (.int ((0 : Nat) : Int)), none, none, none, none, none, none]) rfl]
    have h0 : exs (G0 (n + 1)) f_28.body [vs (.ref 0), vs (relD rels), vs (.lst (names.map vD)), vs (.int ((0 : Nat) : Int)), none, none, none, none, none, none] L = exs (G0 (n + 1)) (dropS 1 f_28.body) (e28 rels names 0 0) L := by kernel_rfl
    show Says rels names 0 (finR (exs (G0 (n + 1)) _ _ L))
    rw [h0]
    cases names with
    | nil => exact sent_yes hL
    | cons x xs => exact leaf_same hr hr2 (by simp) (by omega) hL
  | succ d ih =>
    intro names n hl L hL
    rw [call_succ (fn := f_28) rfl, run_eq (env := [vs (.ref 0), vs (relD rels), vs (.lst (names.map vD)), vs (.int ((d + 1 : Nat) : Int)), none, none, none, none, none, none]) rfl]
    obtain ⟨k, L1, e, h3, h4⟩ := draw_nat (n := n + d + 1) (lim := 8) (L := L) (by omega) (by omega) hL
    have e' : callN tab 1000 (n + (d + 1) + 1) false 22 [.ref 0, .int 8] L = .ok (.int (k : Nat)) L1 := e
    have h0 : finR (exs (G0 (n + (d + 1) + 1)) f_28.body [vs (.ref 0), vs (relD rels), vs (.lst (names.map vD)), vs (.int ((d + 1 : Nat) : Int)), none, none, none, none, none, none] L) = finR (exs (G0 (n + (d + 1) + 1)) (dropS 1 f_28.body) (e28 rels names ((d + 1 : Nat) : Int) (k : Nat)) L1) := by
      show finR (exs _ (.cons (match f_28.body with | .cons s _ => s | .nil => .pass) (dropS 1 f_28.body)) _ _) = _
      rw [exs_cons]
      have : ex (G0 (n + (d + 1) + 1)) (match f_28.body with | .cons s _ => s | .nil => .pass) [vs (.ref 0), vs (relD rels), vs (.lst (names.map vD)), vs (.int ((d + 1 : Nat) : Int)), none, none, none, none, none, none] L = .ok .next (e28 rels names ((d + 1 : Nat) : Int) (k : Nat)) L1 := by
        simp only [f_28, e28, ev_var, ev_non, ev_bl, ev_int, ev_str, ev_glob, evO_e, evO_pk, ev_tup, ev_fr, kFrz_ok, ev_op, kOp1_ok, kOp2_ok, ev_cmp, kCmp1_ok, kCmp2_ok, ev_not, kNot_ok, ev_and, kAnd_bl, ev_or, kOr_bl, ev_ite, kIte_ok, kIteB_t, kIteB_f, ev_ix, kIx1_ok, kIx2_ok, ev_isi, kIsi_ok, ev_bi, kBi_ok, ev_call, kCall_ok, ev_callP, kCallP_ok, ev_meth, kMeth1_ins, kMeth2_ok, ev_make, kMake_ok, kIns_ok, ev_fld, kFld_ins, evs_nil, evs_cons, kCons1_ok, kCons2_ok, evOs_nil, evOs_cons, kConsO1_ok, evF_lst, evF_dct0, evF_bi, evF_comp, evI_seq, evI_rng, kSeq_tup, kSeq_lst, opt_some, exs_nil, exs_cons, kSeqS_next, kSeqS_ret, kSeqS_exc, ex_set, kSet_v, ex_setF, kSetF_ok, ex_ite, kIteS_ok, kIteSB_t, kIteSB_f, ex_ret, kRet_ok, ex_expr, kExpr_ok, ex_loop, kLoop_ok, ex_while, fin_ret, fin_next, fin_exc, seen_tup, seen_lst, seen_str, seen_int, seen_bl, seen_non, seen_dct, seen_ins, truth_bl, slot0, slotS, rdV_val, rdP_some, List.set_cons_zero, List.set_cons_succ, frz, Option.map_some, if_true, Bool.not_true, Bool.not_false, Bool.false_eq_true, if_false, ite_true, ite_false, es_dput, sDput_ok, es_dupd, sDupd_ok, es_app, sApp_ok, es_frz, sFrz_v, sFrz_l, sFrz_d, es_aug, sAug_ok, kAug_add, kDput1_ok, kApp_ok, ev_sl1, ev_slm, kSl_ok, ev_chain, kChain1_ok, kChain3_ok, evF_dcomp, evF_comp2, kSet2, kSet3, cmp_lt_int, cmp_le_int, cmp_gt_int, cmp_ge_int, ev_neg_int, cmp_in2, cmp_in2l, cmp_in3, cmp_eq_str, cmp_ne_str, cmp_eq_int, cmp_ne_int, ixT0, ixT1, ixT2, ixT3, List.getElem?_cons_succ, List.getElem?_cons_zero, Int.cast_ofNat_Int, Nat.zero_add, Nat.reduceAdd, Int.reduceBEq, Int.natCast_one, ex_rput, sRo_f, kRput1_ok, kRput2_ok, kRput3_1, kRput3_2, kRput3_3, seen_ref0, ixL0, ixL1, ixL2, ixL3, Int.reduceLT, Int.reduceLE, decide_true, decide_false, isi_tupT, isi_intI, isi_intB, isi_intT, isi_intL, isi_intS, isi_tupL, lf_int, lf_intI, lf_lenT, lf_lenL, lf_tupL, op_addI, op_subI, kTup0, kTup1, kTup2, kTup3, kTup4, kTup5, kLst0, kLst1, kLst2, kLst3, kLst4, kLst5, beqf, List.length_cons, List.length_nil, reduceCtorEq, List.cons.injEq, Nat.reduceEqDiff, and_false, false_and, and_true, true_and, and_self, Bool.and_self, Bool.or_false, Bool.false_or, Bool.true_or, Bool.or_true, beq_self_eq_true, ne_eq, not_false_eq_true, pos1, e']
      rw [this, kSeqS_next]
    show Says rels names (d + 1) (finR (exs (G0 (n + (d + 1) + 1)) _ _ L))
    rw [h0]
    have hR : Rec rels names (n + (d + 1) + 1) d := fun L hL => ih names n (by omega) L hL
    have hI : ∀ x, Rec rels (inn names x) (n + (d + 1) + 1) d := fun x L hL => ih (inn names x) n (by
      have := List.length_filter_le (fun y => !(([y] : Txt) == [x])) names
      simp only [inn, List.length_append, List.length_cons, List.length_nil]; omega) L hL
    have hz : names = [] ∨ 0 < names.length := by cases names <;> simp
    match k, h4 with
    | 0, _ => rcases hz with rfl | hz
              · exact sent_two (f := 0) hR (by simp) rfl rfl h3
              · exact leaf_same hr hr2 hz (by omega) h3
    | 1, _ => rcases hz with rfl | hz
              · exact sent_two (f := 1) hR (by simp) rfl rfl h3
              · exact leaf_rel (f := 1) rfl rfl hr hr2 hr3 hz (by omega) h3
    | 2, _ => rcases hz with rfl | hz
              · exact sent_two (f := 2) hR (by simp) rfl rfl h3
              · exact leaf_rel (f := 2) rfl rfl hr hr2 hr3 hz (by omega) h3
    | 3, _ => exact sent_not hR h3
    | 4, _ => exact sent_two (f := 4) hR (by simp) rfl rfl h3
    | 5, _ => exact sent_q (f := 5) hI (by omega) rfl rfl rfl rfl h3
    | 6, _ => exact sent_q (f := 6) hI (by omega) rfl rfl rfl rfl h3
    | 7, _ => exact sent_many (f := 7) hI (by omega) rfl rfl rfl rfl h3
end k73s

set_option linter.all false
set_option maxRecDepth 100000
namespace k73s
open Wa
open k73 (tab lawNo f_1 f_2 f_3 f_4 f_5 f_6 f_7 f_8 f_9 f_10 f_11 f_12 f_13 f_14 f_15 f_16 f_17 f_18 f_19 f_20 f_21 f_22 f_23 f_24 f_25 f_26 f_27 f_28 f_29 f_30 f_31 f_32)
/-! ### the greatest common divisor, twice -/
theorem fmodN (a b : Nat) : ((a : Int)).fmod b = ((a % b : Nat) : Int) := (Int.ofNat_fmod a b).symm
theorem fdivN (a b : Nat) : ((a : Int)).fdiv b = ((a / b : Nat) : Int) := (Int.ofNat_fdiv a b).symm
theorem gcd_step {a b : Nat} (h : b ≠ 0) : Nat.gcd b (a % b) = Nat.gcd a b := by
  rw [Nat.gcd_comm a b, Nat.gcd_rec b a, Nat.gcd_comm]
theorem while_step {c : Env → List Cell → R Bool} {body : Env → List Cell → RS} {n : Nat} {env env' : Env} {L : List Cell} (h : c env L = .ok true L) (h2 : body env L = .ok .next env' L) : whileS c body (n + 1) env L = whileS c body n env' L := by
  show within env (c env L) _ = _
  rw [h]
  show (match body env L with
      | .ok .next env L => whileS c body n env L
      | .ok .cont env L => whileS c body n env L
      | .ok .brk env L => .ok .next env L
      | r => r) = _
  rw [h2]
theorem while_end {c : Env → List Cell → R Bool} {body : Env → List Cell → RS} {n : Nat} {env : Env} {L : List Cell} (h : c env L = .ok false L) : whileS c body (n + 1) env L = .ok .next env L := by
  show within env (c env L) _ = _
  rw [h]; rfl
theorem condF_bl {G : Cfg} {c : CE} {env : Env} {L : List Cell} {b : Bool} (h : ev G c env L = .ok (.bl b) L) : condF G c env L = .ok b L := by
  show (ev G c env L).bind _ = _
  rw [h]; rfl
def whC : CSs → CE
  | .cons (.while c _) _ => c
  | .cons _ ss => whC ss
  | .nil => .non
def whB : CSs → CSs
  | .cons (.while _ b) _ => b
  | .cons _ ss => whB ss
  | .nil => .nil
theorem wh18 {G : Cfg} {L : List Cell} : ∀ (n b a : Nat), b < n → whileS (condF G (whC f_18.body)) (bodyF G (whB f_18.body)) n [vs (.int (a : Nat)), vs (.int (b : Nat))] L = .ok .next [vs (.int (Nat.gcd a b : Nat)), vs (.int 0)] L := by
  intro n
  induction n with
  | zero => intro b a h; omega
  | succ n ih =>
    intro b a h
    by_cases hb : b = 0
    · subst hb
      rw [while_end (condF_bl (by simp only [f_18, whC, ev_var, ev_non, ev_bl, ev_int, ev_str, ev_glob, evO_e, evO_pk, ev_tup, ev_fr, kFrz_ok, ev_op, kOp1_ok, kOp2_ok, ev_cmp, kCmp1_ok, kCmp2_ok, ev_not, kNot_ok, ev_and, kAnd_bl, ev_or, kOr_bl, ev_ite, kIte_ok, kIteB_t, kIteB_f, ev_ix, kIx1_ok, kIx2_ok, ev_isi, kIsi_ok, ev_bi, kBi_ok, ev_call, kCall_ok, ev_callP, kCallP_ok, ev_meth, kMeth1_ins, kMeth2_ok, ev_make, kMake_ok, kIns_ok, ev_fld, kFld_ins, evs_nil, evs_cons, kCons1_ok, kCons2_ok, evOs_nil, evOs_cons, kConsO1_ok, evF_lst, evF_dct0, evF_bi, evF_comp, evI_seq, evI_rng, kSeq_tup, kSeq_lst, opt_some, exs_nil, exs_cons, kSeqS_next, kSeqS_ret, kSeqS_exc, ex_set, kSet_v, ex_setF, kSetF_ok, ex_ite, kIteS_ok, kIteSB_t, kIteSB_f, ex_ret, kRet_ok, ex_expr, kExpr_ok, ex_loop, kLoop_ok, ex_while, fin_ret, fin_next, fin_exc, seen_tup, seen_lst, seen_str, seen_int, seen_bl, seen_non, seen_dct, seen_ins, truth_bl, slot0, slotS, rdV_val, rdP_some, List.set_cons_zero, List.set_cons_succ, frz, Option.map_some, if_true, Bool.not_true, Bool.not_false, Bool.false_eq_true, if_false, ite_true, ite_false, es_dput, sDput_ok, es_dupd, sDupd_ok, es_app, sApp_ok, es_frz, sFrz_v, sFrz_l, sFrz_d, es_aug, sAug_ok, kAug_add, kDput1_ok, kApp_ok, ev_sl1, ev_slm, kSl_ok, ev_chain, kChain1_ok, kChain3_ok, evF_dcomp, evF_comp2, kSet2, kSet3, cmp_lt_int, cmp_le_int, cmp_gt_int, cmp_ge_int, ev_neg_int, cmp_in2, cmp_in2l, cmp_in3, cmp_eq_str, cmp_ne_str, cmp_eq_int, cmp_ne_int, ixT0, ixT1, ixT2, ixT3, List.getElem?_cons_succ, List.getElem?_cons_zero, Int.cast_ofNat_Int, Nat.zero_add, Nat.reduceAdd, Int.reduceBEq, Int.natCast_one, ex_rput, sRo_f, kRput1_ok, kRput2_ok, kRput3_1, kRput3_2, kRput3_3, seen_ref0, ixL0, ixL1, ixL2, ixL3, Int.reduceLT, Int.reduceLE, decide_true, decide_false, isi_tupT, isi_intI, isi_intB, isi_intT, isi_intL, isi_intS, isi_tupL, lf_int, lf_intI, lf_lenT, lf_lenL, lf_tupL, op_addI, op_subI, kTup0, kTup1, kTup2, kTup3, kTup4, kTup5, kLst0, kLst1, kLst2, kLst3, kLst4, kLst5, beqf, List.length_cons, List.length_nil, reduceCtorEq, List.cons.injEq, Nat.reduceEqDiff, and_false, false_and, and_true, true_and, and_self, Bool.and_self, Bool.or_false, Bool.false_or, Bool.true_or, Bool.or_true, beq_self_eq_true, ne_eq, not_false_eq_true])), Nat.gcd_zero_right]
      rfl
    · have h0 : (((b : Nat) : Int) == 0) = false := by simp; omega
      have hm : ∀ a : Int, opD .mod (.int a) (.int (b : Nat)) = some (.int (a.fmod b)) := fun a => op_mod (by omega)
      rw [while_step (env' := [vs (.int (b : Nat)), vs (.int ((a % b : Nat) : Nat))]) (condF_bl (by simp only [f_18, whC, ev_var, ev_non, ev_bl, ev_int, ev_str, ev_glob, evO_e, evO_pk, ev_tup, ev_fr, kFrz_ok, ev_op, kOp1_ok, kOp2_ok, ev_cmp, kCmp1_ok, kCmp2_ok, ev_not, kNot_ok, ev_and, kAnd_bl, ev_or, kOr_bl, ev_ite, kIte_ok, kIteB_t, kIteB_f, ev_ix, kIx1_ok, kIx2_ok, ev_isi, kIsi_ok, ev_bi, kBi_ok, ev_call, kCall_ok, ev_callP, kCallP_ok, ev_meth, kMeth1_ins, kMeth2_ok, ev_make, kMake_ok, kIns_ok, ev_fld, kFld_ins, evs_nil, evs_cons, kCons1_ok, kCons2_ok, evOs_nil, evOs_cons, kConsO1_ok, evF_lst, evF_dct0, evF_bi, evF_comp, evI_seq, evI_rng, kSeq_tup, kSeq_lst, opt_some, exs_nil, exs_cons, kSeqS_next, kSeqS_ret, kSeqS_exc, ex_set, kSet_v, ex_setF, kSetF_ok, ex_ite, kIteS_ok, kIteSB_t, kIteSB_f, ex_ret, kRet_ok, ex_expr, kExpr_ok, ex_loop, kLoop_ok, ex_while, fin_ret, fin_next, fin_exc, seen_tup, seen_lst, seen_str, seen_int, seen_bl, seen_non, seen_dct, seen_ins, truth_bl, slot0, slotS, rdV_val, rdP_some, List.set_cons_zero, List.set_cons_succ, frz, Option.map_some, if_true, Bool.not_true, Bool.not_false, Bool.false_eq_true, if_false, ite_true, ite_false, es_dput, sDput_ok, es_dupd, sDupd_ok, es_app, sApp_ok, es_frz, sFrz_v, sFrz_l, sFrz_d, es_aug, sAug_ok, kAug_add, kDput1_ok, kApp_ok, ev_sl1, ev_slm, kSl_ok, ev_chain, kChain1_ok, kChain3_ok, evF_dcomp, evF_comp2, kSet2, kSet3, cmp_lt_int, cmp_le_int, cmp_gt_int, cmp_ge_int, ev_neg_int, cmp_in2, cmp_in2l, cmp_in3, cmp_eq_str, cmp_ne_str, cmp_eq_int, cmp_ne_int, ixT0, ixT1, ixT2, ixT3, List.getElem?_cons_succ, List.getElem?_cons_zero, Int.cast_ofNat_Int, Nat.zero_add, Nat.reduceAdd, Int.reduceBEq, Int.natCast_one, ex_rput, sRo_f, kRput1_ok, kRput2_ok, kRput3_1, kRput3_2, kRput3_3, seen_ref0, ixL0, ixL1, ixL2, ixL3, Int.reduceLT, Int.reduceLE, decide_true, decide_false, isi_tupT, isi_intI, isi_intB, isi_intT, isi_intL, isi_intS, isi_tupL, lf_int, lf_intI, lf_lenT, lf_lenL, lf_tupL, op_addI, op_subI, kTup0, kTup1, kTup2, kTup3, kTup4, kTup5, kLst0, kLst1, kLst2, kLst3, kLst4, kLst5, beqf, List.length_cons, List.length_nil, reduceCtorEq, List.cons.injEq, Nat.reduceEqDiff, and_false, false_and, and_true, true_and, and_self, Bool.and_self, Bool.or_false, Bool.false_or, Bool.true_or, Bool.or_true, beq_self_eq_true, ne_eq, not_false_eq_true, h0])) (by rw [bodyF_eq]; simp only [f_18, whB, ev_var, ev_non, ev_bl, ev_int, ev_str, ev_glob, evO_e, evO_pk, ev_tup, ev_fr, kFrz_ok, ev_op, kOp1_ok, kOp2_ok, ev_cmp, kCmp1_ok, kCmp2_ok, ev_not, kNot_ok, ev_and, kAnd_bl, ev_or, kOr_bl, ev_ite, kIte_ok, kIteB_t, kIteB_f, ev_ix, kIx1_ok, kIx2_ok, ev_isi, kIsi_ok, ev_bi, kBi_ok, ev_call, kCall_ok, ev_callP, kCallP_ok, ev_meth, kMeth1_ins, kMeth2_ok, ev_make, kMake_ok, kIns_ok, ev_fld, kFld_ins, evs_nil, evs_cons, kCons1_ok, kCons2_ok, evOs_nil, evOs_cons, kConsO1_ok, evF_lst, evF_dct0, evF_bi, evF_comp, evI_seq, evI_rng, kSeq_tup, kSeq_lst, opt_some, exs_nil, exs_cons, kSeqS_next, kSeqS_ret, kSeqS_exc, ex_set, kSet_v, ex_setF, kSetF_ok, ex_ite, kIteS_ok, kIteSB_t, kIteSB_f, ex_ret, kRet_ok, ex_expr, kExpr_ok, ex_loop, kLoop_ok, ex_while, fin_ret, fin_next, fin_exc, seen_tup, seen_lst, seen_str, seen_int, seen_bl, seen_non, seen_dct, seen_ins, truth_bl, slot0, slotS, rdV_val, rdP_some, List.set_cons_zero, List.set_cons_succ, frz, Option.map_some, if_true, Bool.not_true, Bool.not_false, Bool.false_eq_true, if_false, ite_true, ite_false, es_dput, sDput_ok, es_dupd, sDupd_ok, es_app, sApp_ok, es_frz, sFrz_v, sFrz_l, sFrz_d, es_aug, sAug_ok, kAug_add, kDput1_ok, kApp_ok, ev_sl1, ev_slm, kSl_ok, ev_chain, kChain1_ok, kChain3_ok, evF_dcomp, evF_comp2, kSet2, kSet3, cmp_lt_int, cmp_le_int, cmp_gt_int, cmp_ge_int, ev_neg_int, cmp_in2, cmp_in2l, cmp_in3, cmp_eq_str, cmp_ne_str, cmp_eq_int, cmp_ne_int, ixT0, ixT1, ixT2, ixT3, List.getElem?_cons_succ, List.getElem?_cons_zero, Int.cast_ofNat_Int, Nat.zero_add, Nat.reduceAdd, Int.reduceBEq, Int.natCast_one, ex_rput, sRo_f, kRput1_ok, kRput2_ok, kRput3_1, kRput3_2, kRput3_3, seen_ref0, ixL0, ixL1, ixL2, ixL3, Int.reduceLT, Int.reduceLE, decide_true, decide_false, isi_tupT, isi_intI, isi_intB, isi_intT, isi_intL, isi_intS, isi_tupL, lf_int, lf_intI, lf_lenT, lf_lenL, lf_tupL, op_addI, op_subI, kTup0, kTup1, kTup2, kTup3, kTup4, kTup5, kLst0, kLst1, kLst2, kLst3, kLst4, kLst5, beqf, List.length_cons, List.length_nil, reduceCtorEq, List.cons.injEq, Nat.reduceEqDiff, and_false, false_and, and_true, true_and, and_self, Bool.and_self, Bool.or_false, Bool.false_or, Bool.true_or, Bool.or_true, beq_self_eq_true, ne_eq, not_false_eq_true, hm, fmodN])]
      have := Nat.mod_lt a (Nat.pos_of_ne_zero hb)
      rw [ih (a % b) b (by omega), gcd_step hb]
theorem shared_ok {n a b : Nat} {ro : Bool} {L : List Cell} (h : b < 1000) : callN tab 1000 (n + 1) ro 18 [.int (a : Nat), .int (b : Nat)] L = .ok (.int (Nat.gcd a b : Nat)) L := by
  rw [call_succ (fn := f_18) rfl, run_eq (env := [vs (.int (a : Nat)), vs (.int (b : Nat))]) rfl]
  have hw := wh18 (G := ⟨callN tab 1000 n, initP tab 1000 n, ro, 1000⟩) (L := L) 1000 b a h
  simp only [f_18, whC, whB] at hw
  simp only [f_18, ev_var, ev_non, ev_bl, ev_int, ev_str, ev_glob, evO_e, evO_pk, ev_tup, ev_fr, kFrz_ok, ev_op, kOp1_ok, kOp2_ok, ev_cmp, kCmp1_ok, kCmp2_ok, ev_not, kNot_ok, ev_and, kAnd_bl, ev_or, kOr_bl, ev_ite, kIte_ok, kIteB_t, kIteB_f, ev_ix, kIx1_ok, kIx2_ok, ev_isi, kIsi_ok, ev_bi, kBi_ok, ev_call, kCall_ok, ev_callP, kCallP_ok, ev_meth, kMeth1_ins, kMeth2_ok, ev_make, kMake_ok, kIns_ok, ev_fld, kFld_ins, evs_nil, evs_cons, kCons1_ok, kCons2_ok, evOs_nil, evOs_cons, kConsO1_ok, evF_lst, evF_dct0, evF_bi, evF_comp, evI_seq, evI_rng, kSeq_tup, kSeq_lst, opt_some, exs_nil, exs_cons, kSeqS_next, kSeqS_ret, kSeqS_exc, ex_set, kSet_v, ex_setF, kSetF_ok, ex_ite, kIteS_ok, kIteSB_t, kIteSB_f, ex_ret, kRet_ok, ex_expr, kExpr_ok, ex_loop, kLoop_ok, ex_while, fin_ret, fin_next, fin_exc, seen_tup, seen_lst, seen_str, seen_int, seen_bl, seen_non, seen_dct, seen_ins, truth_bl, slot0, slotS, rdV_val, rdP_some, List.set_cons_zero, List.set_cons_succ, frz, Option.map_some, if_true, Bool.not_true, Bool.not_false, Bool.false_eq_true, if_false, ite_true, ite_false, es_dput, sDput_ok, es_dupd, sDupd_ok, es_app, sApp_ok, es_frz, sFrz_v, sFrz_l, sFrz_d, es_aug, sAug_ok, kAug_add, kDput1_ok, kApp_ok, ev_sl1, ev_slm, kSl_ok, ev_chain, kChain1_ok, kChain3_ok, evF_dcomp, evF_comp2, kSet2, kSet3, cmp_lt_int, cmp_le_int, cmp_gt_int, cmp_ge_int, ev_neg_int, cmp_in2, cmp_in2l, cmp_in3, cmp_eq_str, cmp_ne_str, cmp_eq_int, cmp_ne_int, ixT0, ixT1, ixT2, ixT3, List.getElem?_cons_succ, List.getElem?_cons_zero, Int.cast_ofNat_Int, Nat.zero_add, Nat.reduceAdd, Int.reduceBEq, Int.natCast_one, ex_rput, sRo_f, kRput1_ok, kRput2_ok, kRput3_1, kRput3_2, kRput3_3, seen_ref0, ixL0, ixL1, ixL2, ixL3, Int.reduceLT, Int.reduceLE, decide_true, decide_false, isi_tupT, isi_intI, isi_intB, isi_intT, isi_intL, isi_intS, isi_tupL, lf_int, lf_intI, lf_lenT, lf_lenL, lf_tupL, op_addI, op_subI, kTup0, kTup1, kTup2, kTup3, kTup4, kTup5, kLst0, kLst1, kLst2, kLst3, kLst4, kLst5, beqf, List.length_cons, List.length_nil, reduceCtorEq, List.cons.injEq, Nat.reduceEqDiff, and_false, false_and, and_true, true_and, and_self, Bool.and_self, Bool.or_false, Bool.false_or, Bool.true_or, Bool.or_true, beq_self_eq_true, ne_eq, not_false_eq_true]
  rw [hw]
  simp only [ev_var, ev_non, ev_bl, ev_int, ev_str, ev_glob, evO_e, evO_pk, ev_tup, ev_fr, kFrz_ok, ev_op, kOp1_ok, kOp2_ok, ev_cmp, kCmp1_ok, kCmp2_ok, ev_not, kNot_ok, ev_and, kAnd_bl, ev_or, kOr_bl, ev_ite, kIte_ok, kIteB_t, kIteB_f, ev_ix, kIx1_ok, kIx2_ok, ev_isi, kIsi_ok, ev_bi, kBi_ok, ev_call, kCall_ok, ev_callP, kCallP_ok, ev_meth, kMeth1_ins, kMeth2_ok, ev_make, kMake_ok, kIns_ok, ev_fld, kFld_ins, evs_nil, evs_cons, kCons1_ok, kCons2_ok, evOs_nil, evOs_cons, kConsO1_ok, evF_lst, evF_dct0, evF_bi, evF_comp, evI_seq, evI_rng, kSeq_tup, kSeq_lst, opt_some, exs_nil, exs_cons, kSeqS_next, kSeqS_ret, kSeqS_exc, ex_set, kSet_v, ex_setF, kSetF_ok, ex_ite, kIteS_ok, kIteSB_t, kIteSB_f, ex_ret, kRet_ok, ex_expr, kExpr_ok, ex_loop, kLoop_ok, ex_while, fin_ret, fin_next, fin_exc, seen_tup, seen_lst, seen_str, seen_int, seen_bl, seen_non, seen_dct, seen_ins, truth_bl, slot0, slotS, rdV_val, rdP_some, List.set_cons_zero, List.set_cons_succ, frz, Option.map_some, if_true, Bool.not_true, Bool.not_false, Bool.false_eq_true, if_false, ite_true, ite_false, es_dput, sDput_ok, es_dupd, sDupd_ok, es_app, sApp_ok, es_frz, sFrz_v, sFrz_l, sFrz_d, es_aug, sAug_ok, kAug_add, kDput1_ok, kApp_ok, ev_sl1, ev_slm, kSl_ok, ev_chain, kChain1_ok, kChain3_ok, evF_dcomp, evF_comp2, kSet2, kSet3, cmp_lt_int, cmp_le_int, cmp_gt_int, cmp_ge_int, ev_neg_int, cmp_in2, cmp_in2l, cmp_in3, cmp_eq_str, cmp_ne_str, cmp_eq_int, cmp_ne_int, ixT0, ixT1, ixT2, ixT3, List.getElem?_cons_succ, List.getElem?_cons_zero, Int.cast_ofNat_Int, Nat.zero_add, Nat.reduceAdd, Int.reduceBEq, Int.natCast_one, ex_rput, sRo_f, kRput1_ok, kRput2_ok, kRput3_1, kRput3_2, kRput3_3, seen_ref0, ixL0, ixL1, ixL2, ixL3, Int.reduceLT, Int.reduceLE, decide_true, decide_false, isi_tupT, isi_intI, isi_intB, isi_intT, isi_intL, isi_intS, isi_tupL, lf_int, lf_intI, lf_lenT, lf_lenL, lf_tupL, op_addI, op_subI, kTup0, kTup1, kTup2, kTup3, kTup4, kTup5, kLst0, kLst1, kLst2, kLst3, kLst4, kLst5, beqf, List.length_cons, List.length_nil, reduceCtorEq, List.cons.injEq, Nat.reduceEqDiff, and_false, false_and, and_true, true_and, and_self, Bool.and_self, Bool.or_false, Bool.false_or, Bool.true_or, Bool.or_true, beq_self_eq_true, ne_eq, not_false_eq_true]
theorem wh29 {G : Cfg} {L : List Cell} {x y : D} : ∀ (n b a : Nat), b < n → whileS (condF G (whC f_29.body)) (bodyF G (whB f_29.body)) n [vs x, vs y, vs (.int (a : Nat)), vs (.int (b : Nat))] L = .ok .next [vs x, vs y, vs (.int (Nat.gcd a b : Nat)), vs (.int 0)] L := by
  intro n
  induction n with
  | zero => intro b a h; omega
  | succ n ih =>
    intro b a h
    by_cases hb : b = 0
    · subst hb
      rw [while_end (condF_bl (by simp only [f_29, whC, ev_var, ev_non, ev_bl, ev_int, ev_str, ev_glob, evO_e, evO_pk, ev_tup, ev_fr, kFrz_ok, ev_op, kOp1_ok, kOp2_ok, ev_cmp, kCmp1_ok, kCmp2_ok, ev_not, kNot_ok, ev_and, kAnd_bl, ev_or, kOr_bl, ev_ite, kIte_ok, kIteB_t, kIteB_f, ev_ix, kIx1_ok, kIx2_ok, ev_isi, kIsi_ok, ev_bi, kBi_ok, ev_call, kCall_ok, ev_callP, kCallP_ok, ev_meth, kMeth1_ins, kMeth2_ok, ev_make, kMake_ok, kIns_ok, ev_fld, kFld_ins, evs_nil, evs_cons, kCons1_ok, kCons2_ok, evOs_nil, evOs_cons, kConsO1_ok, evF_lst, evF_dct0, evF_bi, evF_comp, evI_seq, evI_rng, kSeq_tup, kSeq_lst, opt_some, exs_nil, exs_cons, kSeqS_next, kSeqS_ret, kSeqS_exc, ex_set, kSet_v, ex_setF, kSetF_ok, ex_ite, kIteS_ok, kIteSB_t, kIteSB_f, ex_ret, kRet_ok, ex_expr, kExpr_ok, ex_loop, kLoop_ok, ex_while, fin_ret, fin_next, fin_exc, seen_tup, seen_lst, seen_str, seen_int, seen_bl, seen_non, seen_dct, seen_ins, truth_bl, slot0, slotS, rdV_val, rdP_some, List.set_cons_zero, List.set_cons_succ, frz, Option.map_some, if_true, Bool.not_true, Bool.not_false, Bool.false_eq_true, if_false, ite_true, ite_false, es_dput, sDput_ok, es_dupd, sDupd_ok, es_app, sApp_ok, es_frz, sFrz_v, sFrz_l, sFrz_d, es_aug, sAug_ok, kAug_add, kDput1_ok, kApp_ok, ev_sl1, ev_slm, kSl_ok, ev_chain, kChain1_ok, kChain3_ok, evF_dcomp, evF_comp2, kSet2, kSet3, cmp_lt_int, cmp_le_int, cmp_gt_int, cmp_ge_int, ev_neg_int, cmp_in2, cmp_in2l, cmp_in3, cmp_eq_str, cmp_ne_str, cmp_eq_int, cmp_ne_int, ixT0, ixT1, ixT2, ixT3, List.getElem?_cons_succ, List.getElem?_cons_zero, Int.cast_ofNat_Int, Nat.zero_add, Nat.reduceAdd, Int.reduceBEq, Int.natCast_one, ex_rput, sRo_f, kRput1_ok, kRput2_ok, kRput3_1, kRput3_2, kRput3_3, seen_ref0, ixL0, ixL1, ixL2, ixL3, Int.reduceLT, Int.reduceLE, decide_true, decide_false, isi_tupT, isi_intI, isi_intB, isi_intT, isi_intL, isi_intS, isi_tupL, lf_int, lf_intI, lf_lenT, lf_lenL, lf_tupL, op_addI, op_subI, kTup0, kTup1, kTup2, kTup3, kTup4, kTup5, kLst0, kLst1, kLst2, kLst3, kLst4, kLst5, beqf, List.length_cons, List.length_nil, reduceCtorEq, List.cons.injEq, Nat.reduceEqDiff, and_false, false_and, and_true, true_and, and_self, Bool.and_self, Bool.or_false, Bool.false_or, Bool.true_or, Bool.or_true, beq_self_eq_true, ne_eq, not_false_eq_true])), Nat.gcd_zero_right]
      rfl
    · have h0 : (((b : Nat) : Int) == 0) = false := by simp; omega
      have hm : ∀ a : Int, opD .mod (.int a) (.int (b : Nat)) = some (.int (a.fmod b)) := fun a => op_mod (by omega)
      rw [while_step (env' := [vs x, vs y, vs (.int (b : Nat)), vs (.int ((a % b : Nat) : Nat))]) (condF_bl (by simp only [f_29, whC, ev_var, ev_non, ev_bl, ev_int, ev_str, ev_glob, evO_e, evO_pk, ev_tup, ev_fr, kFrz_ok, ev_op, kOp1_ok, kOp2_ok, ev_cmp, kCmp1_ok, kCmp2_ok, ev_not, kNot_ok, ev_and, kAnd_bl, ev_or, kOr_bl, ev_ite, kIte_ok, kIteB_t, kIteB_f, ev_ix, kIx1_ok, kIx2_ok, ev_isi, kIsi_ok, ev_bi, kBi_ok, ev_call, kCall_ok, ev_callP, kCallP_ok, ev_meth, kMeth1_ins, kMeth2_ok, ev_make, kMake_ok, kIns_ok, ev_fld, kFld_ins, evs_nil, evs_cons, kCons1_ok, kCons2_ok, evOs_nil, evOs_cons, kConsO1_ok, evF_lst, evF_dct0, evF_bi, evF_comp, evI_seq, evI_rng, kSeq_tup, kSeq_lst, opt_some, exs_nil, exs_cons, kSeqS_next, kSeqS_ret, kSeqS_exc, ex_set, kSet_v, ex_setF, kSetF_ok, ex_ite, kIteS_ok, kIteSB_t, kIteSB_f, ex_ret, kRet_ok, ex_expr, kExpr_ok, ex_loop, kLoop_ok, ex_while, fin_ret, fin_next, fin_exc, seen_tup, seen_lst, seen_str, seen_int, seen_bl, seen_non, seen_dct, seen_ins, truth_bl, slot0, slotS, rdV_val, rdP_some, List.set_cons_zero, List.set_cons_succ, frz, Option.map_some, if_true, Bool.not_true, Bool.not_false, Bool.false_eq_true, if_false, ite_true, ite_false, es_dput, sDput_ok, es_dupd, sDupd_ok, es_app, sApp_ok, es_frz, sFrz_v, sFrz_l, sFrz_d, es_aug, sAug_ok, kAug_add, kDput1_ok, kApp_ok, ev_sl1, ev_slm, kSl_ok, ev_chain, kChain1_ok, kChain3_ok, evF_dcomp, evF_comp2, kSet2, kSet3, cmp_lt_int, cmp_le_int, cmp_gt_int, cmp_ge_int, ev_neg_int, cmp_in2, cmp_in2l, cmp_in3, cmp_eq_str, cmp_ne_str, cmp_eq_int, cmp_ne_int, ixT0, ixT1, ixT2, ixT3, List.getElem?_cons_succ, List.getElem?_cons_zero, Int.cast_ofNat_Int, Nat.zero_add, Nat.reduceAdd, Int.reduceBEq, Int.natCast_one, ex_rput, sRo_f, kRput1_ok, kRput2_ok, kRput3_1, kRput3_2, kRput3_3, seen_ref0, ixL0, ixL1, ixL2, ixL3, Int.reduceLT, Int.reduceLE, decide_true, decide_false, isi_tupT, isi_intI, isi_intB, isi_intT, isi_intL, isi_intS, isi_tupL, lf_int, lf_intI, lf_lenT, lf_lenL, lf_tupL, op_addI, op_subI, kTup0, kTup1, kTup2, kTup3, kTup4, kTup5, kLst0, kLst1, kLst2, kLst3, kLst4, kLst5, beqf, List.length_cons, List.length_nil, reduceCtorEq, List.cons.injEq, Nat.reduceEqDiff, and_false, false_and, and_true, true_and, and_self, Bool.and_self, Bool.or_false, Bool.false_or, Bool.true_or, Bool.or_true, beq_self_eq_true, ne_eq, not_false_eq_true, h0])) (by rw [bodyF_eq]; simp only [f_29, whB, ev_var, ev_non, ev_bl, ev_int, ev_str, ev_glob, evO_e, evO_pk, ev_tup, ev_fr, kFrz_ok, ev_op, kOp1_ok, kOp2_ok, ev_cmp, kCmp1_ok, kCmp2_ok, ev_not, kNot_ok, ev_and, kAnd_bl, ev_or, kOr_bl, ev_ite, kIte_ok, kIteB_t, kIteB_f, ev_ix, kIx1_ok, kIx2_ok, ev_isi, kIsi_ok, ev_bi, kBi_ok, ev_call, kCall_ok, ev_callP, kCallP_ok, ev_meth, kMeth1_ins, kMeth2_ok, ev_make, kMake_ok, kIns_ok, ev_fld, kFld_ins, evs_nil, evs_cons, kCons1_ok, kCons2_ok, evOs_nil, evOs_cons, kConsO1_ok, evF_lst, evF_dct0, evF_bi, evF_comp, evI_seq, evI_rng, kSeq_tup, kSeq_lst, opt_some, exs_nil, exs_cons, kSeqS_next, kSeqS_ret, kSeqS_exc, ex_set, kSet_v, ex_setF, kSetF_ok, ex_ite, kIteS_ok, kIteSB_t, kIteSB_f, ex_ret, kRet_ok, ex_expr, kExpr_ok, ex_loop, kLoop_ok, ex_while, fin_ret, fin_next, fin_exc, seen_tup, seen_lst, seen_str, seen_int, seen_bl, seen_non, seen_dct, seen_ins, truth_bl, slot0, slotS, rdV_val, rdP_some, List.set_cons_zero, List.set_cons_succ, frz, Option.map_some, if_true, Bool.not_true, Bool.not_false, Bool.false_eq_true, if_false, ite_true, ite_false, es_dput, sDput_ok, es_dupd, sDupd_ok, es_app, sApp_ok, es_frz, sFrz_v, sFrz_l, sFrz_d, es_aug, sAug_ok, kAug_add, kDput1_ok, kApp_ok, ev_sl1, ev_slm, kSl_ok, ev_chain, kChain1_ok, kChain3_ok, evF_dcomp, evF_comp2, kSet2, kSet3, cmp_lt_int, cmp_le_int, cmp_gt_int, cmp_ge_int, ev_neg_int, cmp_in2, cmp_in2l, cmp_in3, cmp_eq_str, cmp_ne_str, cmp_eq_int, cmp_ne_int, ixT0, ixT1, ixT2, ixT3, List.getElem?_cons_succ, List.getElem?_cons_zero, Int.cast_ofNat_Int, Nat.zero_add, Nat.reduceAdd, Int.reduceBEq, Int.natCast_one, ex_rput, sRo_f, kRput1_ok, kRput2_ok, kRput3_1, kRput3_2, kRput3_3, seen_ref0, ixL0, ixL1, ixL2, ixL3, Int.reduceLT, Int.reduceLE, decide_true, decide_false, isi_tupT, isi_intI, isi_intB, isi_intT, isi_intL, isi_intS, isi_tupL, lf_int, lf_intI, lf_lenT, lf_lenL, lf_tupL, op_addI, op_subI, kTup0, kTup1, kTup2, kTup3, kTup4, kTup5, kLst0, kLst1, kLst2, kLst3, kLst4, kLst5, beqf, List.length_cons, List.length_nil, reduceCtorEq, List.cons.injEq, Nat.reduceEqDiff, and_false, false_and, and_true, true_and, and_self, Bool.and_self, Bool.or_false, Bool.false_or, Bool.true_or, Bool.or_true, beq_self_eq_true, ne_eq, not_false_eq_true, hm, fmodN])]
      have := Nat.mod_lt a (Nat.pos_of_ne_zero hb)
      rw [ih (a % b) b (by omega), gcd_step hb]
/-- in lowest terms -/
def low (a b : Nat) : D := .tup [.int (a / Nat.gcd a b : Nat), .int (b / Nat.gcd a b : Nat)]
theorem gcd_ok {a b : Nat} (hb : 0 < b) (h : b < 1000) : ((Nat.gcd a b : Nat) : Int) ≠ 0 ∧ ((Nat.gcd a b : Nat) : Int).natAbs < 1073741824 := by
  have h1 := Nat.gcd_pos_of_pos_right a hb
  have h2 : Nat.gcd a b ≤ b := Nat.gcd_le_right a hb
  constructor <;> omega
theorem low_ok {n a b : Nat} {ro : Bool} {L : List Cell} (hb : 0 < b) (h : b < 1000) : callN tab 1000 (n + 1) ro 29 [.int (a : Nat), .int (b : Nat)] L = .ok (low a b) L := by
  rw [call_succ (fn := f_29) rfl, run_eq (env := [vs (.int (a : Nat)), vs (.int (b : Nat)), none, none]) rfl]
  have hw := wh29 (G := ⟨callN tab 1000 n, initP tab 1000 n, ro, 1000⟩) (L := L) (x := .int (a : Nat)) (y := .int (b : Nat)) 1000 b a h
  simp only [f_29, whC, whB] at hw
  simp only [f_29, ev_var, ev_non, ev_bl, ev_int, ev_str, ev_glob, evO_e, evO_pk, ev_tup, ev_fr, kFrz_ok, ev_op, kOp1_ok, kOp2_ok, ev_cmp, kCmp1_ok, kCmp2_ok, ev_not, kNot_ok, ev_and, kAnd_bl, ev_or, kOr_bl, ev_ite, kIte_ok, kIteB_t, kIteB_f, ev_ix, kIx1_ok, kIx2_ok, ev_isi, kIsi_ok, ev_bi, kBi_ok, ev_call, kCall_ok, ev_callP, kCallP_ok, ev_meth, kMeth1_ins, kMeth2_ok, ev_make, kMake_ok, kIns_ok, ev_fld, kFld_ins, evs_nil, evs_cons, kCons1_ok, kCons2_ok, evOs_nil, evOs_cons, kConsO1_ok, evF_lst, evF_dct0, evF_bi, evF_comp, evI_seq, evI_rng, kSeq_tup, kSeq_lst, opt_some, exs_nil, exs_cons, kSeqS_next, kSeqS_ret, kSeqS_exc, ex_set, kSet_v, ex_setF, kSetF_ok, ex_ite, kIteS_ok, kIteSB_t, kIteSB_f, ex_ret, kRet_ok, ex_expr, kExpr_ok, ex_loop, kLoop_ok, ex_while, fin_ret, fin_next, fin_exc, seen_tup, seen_lst, seen_str, seen_int, seen_bl, seen_non, seen_dct, seen_ins, truth_bl, slot0, slotS, rdV_val, rdP_some, List.set_cons_zero, List.set_cons_succ, frz, Option.map_some, if_true, Bool.not_true, Bool.not_false, Bool.false_eq_true, if_false, ite_true, ite_false, es_dput, sDput_ok, es_dupd, sDupd_ok, es_app, sApp_ok, es_frz, sFrz_v, sFrz_l, sFrz_d, es_aug, sAug_ok, kAug_add, kDput1_ok, kApp_ok, ev_sl1, ev_slm, kSl_ok, ev_chain, kChain1_ok, kChain3_ok, evF_dcomp, evF_comp2, kSet2, kSet3, cmp_lt_int, cmp_le_int, cmp_gt_int, cmp_ge_int, ev_neg_int, cmp_in2, cmp_in2l, cmp_in3, cmp_eq_str, cmp_ne_str, cmp_eq_int, cmp_ne_int, ixT0, ixT1, ixT2, ixT3, List.getElem?_cons_succ, List.getElem?_cons_zero, Int.cast_ofNat_Int, Nat.zero_add, Nat.reduceAdd, Int.reduceBEq, Int.natCast_one, ex_rput, sRo_f, kRput1_ok, kRput2_ok, kRput3_1, kRput3_2, kRput3_3, seen_ref0, ixL0, ixL1, ixL2, ixL3, Int.reduceLT, Int.reduceLE, decide_true, decide_false, isi_tupT, isi_intI, isi_intB, isi_intT, isi_intL, isi_intS, isi_tupL, lf_int, lf_intI, lf_lenT, lf_lenL, lf_tupL, op_addI, op_subI, kTup0, kTup1, kTup2, kTup3, kTup4, kTup5, kLst0, kLst1, kLst2, kLst3, kLst4, kLst5, beqf, List.length_cons, List.length_nil, reduceCtorEq, List.cons.injEq, Nat.reduceEqDiff, and_false, false_and, and_true, true_and, and_self, Bool.and_self, Bool.or_false, Bool.false_or, Bool.true_or, Bool.or_true, beq_self_eq_true, ne_eq, not_false_eq_true]
  rw [hw]
  simp only [ev_var, ev_non, ev_bl, ev_int, ev_str, ev_glob, evO_e, evO_pk, ev_tup, ev_fr, kFrz_ok, ev_op, kOp1_ok, kOp2_ok, ev_cmp, kCmp1_ok, kCmp2_ok, ev_not, kNot_ok, ev_and, kAnd_bl, ev_or, kOr_bl, ev_ite, kIte_ok, kIteB_t, kIteB_f, ev_ix, kIx1_ok, kIx2_ok, ev_isi, kIsi_ok, ev_bi, kBi_ok, ev_call, kCall_ok, ev_callP, kCallP_ok, ev_meth, kMeth1_ins, kMeth2_ok, ev_make, kMake_ok, kIns_ok, ev_fld, kFld_ins, evs_nil, evs_cons, kCons1_ok, kCons2_ok, evOs_nil, evOs_cons, kConsO1_ok, evF_lst, evF_dct0, evF_bi, evF_comp, evI_seq, evI_rng, kSeq_tup, kSeq_lst, opt_some, exs_nil, exs_cons, kSeqS_next, kSeqS_ret, kSeqS_exc, ex_set, kSet_v, ex_setF, kSetF_ok, ex_ite, kIteS_ok, kIteSB_t, kIteSB_f, ex_ret, kRet_ok, ex_expr, kExpr_ok, ex_loop, kLoop_ok, ex_while, fin_ret, fin_next, fin_exc, seen_tup, seen_lst, seen_str, seen_int, seen_bl, seen_non, seen_dct, seen_ins, truth_bl, slot0, slotS, rdV_val, rdP_some, List.set_cons_zero, List.set_cons_succ, frz, Option.map_some, if_true, Bool.not_true, Bool.not_false, Bool.false_eq_true, if_false, ite_true, ite_false, es_dput, sDput_ok, es_dupd, sDupd_ok, es_app, sApp_ok, es_frz, sFrz_v, sFrz_l, sFrz_d, es_aug, sAug_ok, kAug_add, kDput1_ok, kApp_ok, ev_sl1, ev_slm, kSl_ok, ev_chain, kChain1_ok, kChain3_ok, evF_dcomp, evF_comp2, kSet2, kSet3, cmp_lt_int, cmp_le_int, cmp_gt_int, cmp_ge_int, ev_neg_int, cmp_in2, cmp_in2l, cmp_in3, cmp_eq_str, cmp_ne_str, cmp_eq_int, cmp_ne_int, ixT0, ixT1, ixT2, ixT3, List.getElem?_cons_succ, List.getElem?_cons_zero, Int.cast_ofNat_Int, Nat.zero_add, Nat.reduceAdd, Int.reduceBEq, Int.natCast_one, ex_rput, sRo_f, kRput1_ok, kRput2_ok, kRput3_1, kRput3_2, kRput3_3, seen_ref0, ixL0, ixL1, ixL2, ixL3, Int.reduceLT, Int.reduceLE, decide_true, decide_false, isi_tupT, isi_intI, isi_intB, isi_intT, isi_intL, isi_intS, isi_tupL, lf_int, lf_intI, lf_lenT, lf_lenL, lf_tupL, op_addI, op_subI, kTup0, kTup1, kTup2, kTup3, kTup4, kTup5, kLst0, kLst1, kLst2, kLst3, kLst4, kLst5, beqf, List.length_cons, List.length_nil, reduceCtorEq, List.cons.injEq, Nat.reduceEqDiff, and_false, false_and, and_true, true_and, and_self, Bool.and_self, Bool.or_false, Bool.false_or, Bool.true_or, Bool.or_true, beq_self_eq_true, ne_eq, not_false_eq_true, op_fdiv (gcd_ok hb h), fdivN, low]
/-! ### chance -/
def SH (rels : List (Txt × Nat)) : D := .ins 5 [relD rels]
def dctT : D → D
  | .tup xs => .dct xs (xs.map fun _ => .bl true)
  | d => d
def WD (rels : List (Txt × Nat)) (N : Nat) (rows : List D) : D := .ins 6 [SH rels, .int N, .tup rows, .lst (rows.map dctT)]
def KD (rels : List (Txt × Nat)) (rows : List D) : D := .dct (rels.map fun r => .str r.1) rows
def rowsT : CT := .tup (.cons (.v 4) (.cons (.v 5) .nil))
structure OOk (rels : List (Txt × Nat)) (N : Nat) (RL : List (List D)) (Rl : List D → Txt → List Int → Bool) : Prop where
  sh : ShOk rels (SH rels)
  r3 : ∀ r ∈ rels, r.2 ≤ 3
  r0 : 0 < rels.length
  r1 : rels.length < 1000
  sm : small N = true
  n1 : 1 ≤ N
  many : ∀ {n ro L}, ∃ t : Int, t ≤ 16 ∧ callN tab 1000 (n + 1) ro 17 [SH rels, .int N] L = .ok (.int t) L
  rows : ∀ {n ro L} {s : D}, ∃ x4 x5, loopS rowsT (bodyF ⟨callN tab 1000 (n + 2), initP tab 1000 (n + 2), ro, 1000⟩ (loopB f_19.body)) (rels.map fun r => .tup [.str r.1, .int (r.2 : Nat)]) [vs (SH rels), vs s, vs (.int N), vs (.lst [.lst []]), none, none, none, none, none, none] L = .ok .next [vs (SH rels), vs s, vs (.int N), vs (.lst (RL.map .lst)), x4, x5, none, none, none, none] L
  world : ∀ {n ro L}, ∀ rows ∈ RL, initP tab 1000 (n + 4) ro 6 [SH rels, .int N, .tup rows] L = .ok [SH rels, .int N, .tup rows, .lst (rows.map dctT)] L
  wok : ∀ rows ∈ RL, WOk rels (WD rels N rows) N (Rl rows)
  kok : ∀ rows ∈ RL, KOk rels (KD rels rows) (Rl rows)
  len0 : 0 < RL.length
  len1 : RL.length < 1000
/-- in how many worlds -/
def cntS (RL : List (List D)) (Rl : List D → Txt → List Int → Bool) (N : Nat) (s : Sn) : Nat := RL.countP fun rows => sat (Rl rows) N s fun _ => 0
def cstep (Rl : List D → Txt → List Int → Bool) (N : Nat) (s : Sn) (a : Nat × Option S) (d : D) : Nat × Option S :=
  match d with
  | .lst rows => (if sat (Rl rows) N s (fun _ => 0) then a.1 + 1 else a.1, vs (.lst rows))
  | _ => a
theorem cstep_fst {Rl : List D → Txt → List Int → Bool} {N : Nat} {s : Sn} : ∀ (RL : List (List D)) (a : Nat × Option S), ((RL.map .lst).foldl (cstep Rl N s) a).1 = a.1 + cntS RL Rl N s
  | [], a => rfl
  | rows :: RL, a => by
    show ((RL.map .lst).foldl (cstep Rl N s) (cstep Rl N s a (.lst rows))).1 = _
    rw [cstep_fst RL]
    unfold cntS
    cases h : sat (Rl rows) N s fun _ => 0 with
    | true => rw [List.countP_cons_of_pos (p := fun rows => sat (Rl rows) N s fun _ => 0) h]; simp [cstep, h]; omega
    | false => rw [List.countP_cons_of_neg (p := fun rows => sat (Rl rows) N s fun _ => 0) (by simp [h])]; simp [cstep, h]
theorem kSeq_rel {rels : List (Txt × Nat)} {L : List Cell} : kSeq (.ok (relD rels) L) = .ok (rels.map fun r => .tup [.str r.1, .int (r.2 : Nat)]) L := rfl
theorem chance_ok {rels : List (Txt × Nat)} {N : Nat} {RL : List (List D)} {Rl : List D → Txt → List Int → Bool} (h : OOk rels N RL Rl) {d : Nat} {s : Sn} (hs : Wf rels [] d s) (hd : d ≤ 10) {n : Nat} {ro : Bool} {L : List Cell} :
    callN tab 1000 (n + d + 5) ro 19 [SH rels, s.toD, .int N] L = .ok (low (cntS RL Rl N s) RL.length) L := by
  rw [call_succ (fn := f_19) rfl, run_eq (env := [vs (SH rels), vs s.toD, vs (.int N), none, none, none, none, none, none, none]) rfl]
  have hlook : callN tab 1000 (n + d + 4) ro 12 [SH rels, s.toD] L = .ok .non L := by
    have := look_ok h.sh h.r3 hs (by omega) (n := n + 1) (ro := ro) (L := L)
    rwa [show n + 1 + d + 3 = n + d + 4 by omega] at this
  have hfree : callN tab 1000 (n + d + 4) ro 15 [s.toD] L = .ok (.tup []) L := by
    have := free_nil h.r3 hs hd (n := n + 2) (ro := ro) (L := L)
    rwa [show n + 2 + d + 2 = n + d + 4 by omega] at this
  have hint : callN tab 1000 (n + d + 4) ro 1 [.int N] L = .ok (.bl true) L := isInt_ok (n := n + d + 3)
  obtain ⟨t, ht, hmany⟩ := h.many (n := n + d + 3) (ro := ro) (L := L)
  have hn1 : decide ((N : Int) < 1) = false := by have := h.n1; simp only [decide_eq_false_iff_not]; omega
  have ht16 : decide ((16 : Int) < t) = false := by simp only [decide_eq_false_iff_not]; omega
  obtain ⟨x4, x5, hrows⟩ := h.rows (n := n + d + 2) (ro := ro) (L := L) (s := s.toD)
  simp only [f_19, loopB, rowsT, SH] at hrows
  simp only [SH] at hlook hmany
  simp only [f_19, SH, ev_var, ev_non, ev_bl, ev_int, ev_str, ev_glob, evO_e, evO_pk, ev_tup, ev_fr, kFrz_ok, ev_op, kOp1_ok, kOp2_ok, ev_cmp, kCmp1_ok, kCmp2_ok, ev_not, kNot_ok, ev_and, kAnd_bl, ev_or, kOr_bl, ev_ite, kIte_ok, kIteB_t, kIteB_f, ev_ix, kIx1_ok, kIx2_ok, ev_isi, kIsi_ok, ev_bi, kBi_ok, ev_call, kCall_ok, ev_callP, kCallP_ok, ev_meth, kMeth1_ins, kMeth2_ok, ev_make, kMake_ok, kIns_ok, ev_fld, kFld_ins, evs_nil, evs_cons, kCons1_ok, kCons2_ok, evOs_nil, evOs_cons, kConsO1_ok, evF_lst, evF_dct0, evF_bi, evF_comp, evI_seq, evI_rng, kSeq_tup, kSeq_lst, opt_some, exs_nil, exs_cons, kSeqS_next, kSeqS_ret, kSeqS_exc, ex_set, kSet_v, ex_setF, kSetF_ok, ex_ite, kIteS_ok, kIteSB_t, kIteSB_f, ex_ret, kRet_ok, ex_expr, kExpr_ok, ex_loop, kLoop_ok, ex_while, fin_ret, fin_next, fin_exc, seen_tup, seen_lst, seen_str, seen_int, seen_bl, seen_non, seen_dct, seen_ins, truth_bl, slot0, slotS, rdV_val, rdP_some, List.set_cons_zero, List.set_cons_succ, frz, Option.map_some, if_true, Bool.not_true, Bool.not_false, Bool.false_eq_true, if_false, ite_true, ite_false, es_dput, sDput_ok, es_dupd, sDupd_ok, es_app, sApp_ok, es_frz, sFrz_v, sFrz_l, sFrz_d, es_aug, sAug_ok, kAug_add, kDput1_ok, kApp_ok, ev_sl1, ev_slm, kSl_ok, ev_chain, kChain1_ok, kChain3_ok, evF_dcomp, evF_comp2, kSet2, kSet3, cmp_lt_int, cmp_le_int, cmp_gt_int, cmp_ge_int, ev_neg_int, cmp_in2, cmp_in2l, cmp_in3, cmp_eq_str, cmp_ne_str, cmp_eq_int, cmp_ne_int, ixT0, ixT1, ixT2, ixT3, List.getElem?_cons_succ, List.getElem?_cons_zero, Int.cast_ofNat_Int, Nat.zero_add, Nat.reduceAdd, Int.reduceBEq, Int.natCast_one, ex_rput, sRo_f, kRput1_ok, kRput2_ok, kRput3_1, kRput3_2, kRput3_3, seen_ref0, ixL0, ixL1, ixL2, ixL3, Int.reduceLT, Int.reduceLE, decide_true, decide_false, isi_tupT, isi_intI, isi_intB, isi_intT, isi_intL, isi_intS, isi_tupL, lf_int, lf_intI, lf_lenT, lf_lenL, lf_tupL, op_addI, op_subI, kTup0, kTup1, kTup2, kTup3, kTup4, kTup5, kLst0, kLst1, kLst2, kLst3, kLst4, kLst5, beqf, List.length_cons, List.length_nil, reduceCtorEq, List.cons.injEq, Nat.reduceEqDiff, and_false, false_and, and_true, true_and, and_self, Bool.and_self, Bool.or_false, Bool.false_or, Bool.true_or, Bool.or_true, beq_self_eq_true, ne_eq, not_false_eq_true, hlook, hfree, hint, hn1, hmany, ht16, kSeq_rel]
  rw [hrows]
  simp only [ev_var, ev_non, ev_bl, ev_int, ev_str, ev_glob, evO_e, evO_pk, ev_tup, ev_fr, kFrz_ok, ev_op, kOp1_ok, kOp2_ok, ev_cmp, kCmp1_ok, kCmp2_ok, ev_not, kNot_ok, ev_and, kAnd_bl, ev_or, kOr_bl, ev_ite, kIte_ok, kIteB_t, kIteB_f, ev_ix, kIx1_ok, kIx2_ok, ev_isi, kIsi_ok, ev_bi, kBi_ok, ev_call, kCall_ok, ev_callP, kCallP_ok, ev_meth, kMeth1_ins, kMeth2_ok, ev_make, kMake_ok, kIns_ok, ev_fld, kFld_ins, evs_nil, evs_cons, kCons1_ok, kCons2_ok, evOs_nil, evOs_cons, kConsO1_ok, evF_lst, evF_dct0, evF_bi, evF_comp, evI_seq, evI_rng, kSeq_tup, kSeq_lst, opt_some, exs_nil, exs_cons, kSeqS_next, kSeqS_ret, kSeqS_exc, ex_set, kSet_v, ex_setF, kSetF_ok, ex_ite, kIteS_ok, kIteSB_t, kIteSB_f, ex_ret, kRet_ok, ex_expr, kExpr_ok, ex_loop, kLoop_ok, ex_while, fin_ret, fin_next, fin_exc, seen_tup, seen_lst, seen_str, seen_int, seen_bl, seen_non, seen_dct, seen_ins, truth_bl, slot0, slotS, rdV_val, rdP_some, List.set_cons_zero, List.set_cons_succ, frz, Option.map_some, if_true, Bool.not_true, Bool.not_false, Bool.false_eq_true, if_false, ite_true, ite_false, es_dput, sDput_ok, es_dupd, sDupd_ok, es_app, sApp_ok, es_frz, sFrz_v, sFrz_l, sFrz_d, es_aug, sAug_ok, kAug_add, kDput1_ok, kApp_ok, ev_sl1, ev_slm, kSl_ok, ev_chain, kChain1_ok, kChain3_ok, evF_dcomp, evF_comp2, kSet2, kSet3, cmp_lt_int, cmp_le_int, cmp_gt_int, cmp_ge_int, ev_neg_int, cmp_in2, cmp_in2l, cmp_in3, cmp_eq_str, cmp_ne_str, cmp_eq_int, cmp_ne_int, ixT0, ixT1, ixT2, ixT3, List.getElem?_cons_succ, List.getElem?_cons_zero, Int.cast_ofNat_Int, Nat.zero_add, Nat.reduceAdd, Int.reduceBEq, Int.natCast_one, ex_rput, sRo_f, kRput1_ok, kRput2_ok, kRput3_1, kRput3_2, kRput3_3, seen_ref0, ixL0, ixL1, ixL2, ixL3, Int.reduceLT, Int.reduceLE, decide_true, decide_false, isi_tupT, isi_intI, isi_intB, isi_intT, isi_intL, isi_intS, isi_tupL, lf_int, lf_intI, lf_lenT, lf_lenL, lf_tupL, op_addI, op_subI, kTup0, kTup1, kTup2, kTup3, kTup4, kTup5, kLst0, kLst1, kLst2, kLst3, kLst4, kLst5, beqf, List.length_cons, List.length_nil, reduceCtorEq, List.cons.injEq, Nat.reduceEqDiff, and_false, false_and, and_true, true_and, and_self, Bool.and_self, Bool.or_false, Bool.false_or, Bool.true_or, Bool.or_true, beq_self_eq_true, ne_eq, not_false_eq_true]
  refine fin_loop (E := fun a : Nat × Option S => [vs (.ins 5 [relD rels]), vs s.toD, vs (.int N), vs (.lst (RL.map .lst)), x4, x5, vs (.int a.1), a.2, none, none]) (step := cstep Rl N s) (I := fun _ => True) (a0 := (0, none)) rfl trivial ?_ ?_
  · intro x hx a _
    obtain ⟨rows, hm, rfl⟩ := List.mem_map.mp hx
    refine ⟨trivial, _, rfl, ?_⟩
    show exs _ _ [vs (.ins 5 [relD rels]), vs s.toD, vs (.int N), vs (.lst (RL.map .lst)), x4, x5, vs (.int a.1), vs (.lst rows), none, none] L = _
    have hw := h.world (n := n + d) (ro := ro) (L := L) rows hm
    have ht := told_ok h.sm (h.wok rows hm) h.r3 hs (n := n + 1) (ro := ro) (ks := []) (ws := []) (ρ := fun _ => 0) (L := L) EnvOk.nil (by simp; omega)
    rw [show n + 1 + d + 3 = n + d + 4 by omega] at ht
    simp only [WD, SH] at hw ht
    cases hb : sat (Rl rows) N s fun _ => 0 <;> rw [hb] at ht <;> simp only [ev_var, ev_non, ev_bl, ev_int, ev_str, ev_glob, evO_e, evO_pk, ev_tup, ev_fr, kFrz_ok, ev_op, kOp1_ok, kOp2_ok, ev_cmp, kCmp1_ok, kCmp2_ok, ev_not, kNot_ok, ev_and, kAnd_bl, ev_or, kOr_bl, ev_ite, kIte_ok, kIteB_t, kIteB_f, ev_ix, kIx1_ok, kIx2_ok, ev_isi, kIsi_ok, ev_bi, kBi_ok, ev_call, kCall_ok, ev_callP, kCallP_ok, ev_meth, kMeth1_ins, kMeth2_ok, ev_make, kMake_ok, kIns_ok, ev_fld, kFld_ins, evs_nil, evs_cons, kCons1_ok, kCons2_ok, evOs_nil, evOs_cons, kConsO1_ok, evF_lst, evF_dct0, evF_bi, evF_comp, evI_seq, evI_rng, kSeq_tup, kSeq_lst, opt_some, exs_nil, exs_cons, kSeqS_next, kSeqS_ret, kSeqS_exc, ex_set, kSet_v, ex_setF, kSetF_ok, ex_ite, kIteS_ok, kIteSB_t, kIteSB_f, ex_ret, kRet_ok, ex_expr, kExpr_ok, ex_loop, kLoop_ok, ex_while, fin_ret, fin_next, fin_exc, seen_tup, seen_lst, seen_str, seen_int, seen_bl, seen_non, seen_dct, seen_ins, truth_bl, slot0, slotS, rdV_val, rdP_some, List.set_cons_zero, List.set_cons_succ, frz, Option.map_some, if_true, Bool.not_true, Bool.not_false, Bool.false_eq_true, if_false, ite_true, ite_false, es_dput, sDput_ok, es_dupd, sDupd_ok, es_app, sApp_ok, es_frz, sFrz_v, sFrz_l, sFrz_d, es_aug, sAug_ok, kAug_add, kDput1_ok, kApp_ok, ev_sl1, ev_slm, kSl_ok, ev_chain, kChain1_ok, kChain3_ok, evF_dcomp, evF_comp2, kSet2, kSet3, cmp_lt_int, cmp_le_int, cmp_gt_int, cmp_ge_int, ev_neg_int, cmp_in2, cmp_in2l, cmp_in3, cmp_eq_str, cmp_ne_str, cmp_eq_int, cmp_ne_int, ixT0, ixT1, ixT2, ixT3, List.getElem?_cons_succ, List.getElem?_cons_zero, Int.cast_ofNat_Int, Nat.zero_add, Nat.reduceAdd, Int.reduceBEq, Int.natCast_one, ex_rput, sRo_f, kRput1_ok, kRput2_ok, kRput3_1, kRput3_2, kRput3_3, seen_ref0, ixL0, ixL1, ixL2, ixL3, Int.reduceLT, Int.reduceLE, decide_true, decide_false, isi_tupT, isi_intI, isi_intB, isi_intT, isi_intL, isi_intS, isi_tupL, lf_int, lf_intI, lf_lenT, lf_lenL, lf_tupL, op_addI, op_subI, kTup0, kTup1, kTup2, kTup3, kTup4, kTup5, kLst0, kLst1, kLst2, kLst3, kLst4, kLst5, beqf, List.length_cons, List.length_nil, reduceCtorEq, List.cons.injEq, Nat.reduceEqDiff, and_false, false_and, and_true, true_and, and_self, Bool.and_self, Bool.or_false, Bool.false_or, Bool.true_or, Bool.or_true, beq_self_eq_true, ne_eq, not_false_eq_true, hw, ht] <;> simp [cstep, hb]
  · intro _
    have e1 : ((RL.map .lst).foldl (cstep Rl N s) (0, none)).1 = cntS RL Rl N s := by rw [cstep_fst]; simp
    have hsh : callN tab 1000 (n + d + 4) ro 18 [.int (cntS RL Rl N s : Nat), .int (RL.length : Nat)] L = .ok (.int (Nat.gcd (cntS RL Rl N s) RL.length : Nat)) L := shared_ok (n := n + d + 3) h.len1
    simp only [ev_var, ev_non, ev_bl, ev_int, ev_str, ev_glob, evO_e, evO_pk, ev_tup, ev_fr, kFrz_ok, ev_op, kOp1_ok, kOp2_ok, ev_cmp, kCmp1_ok, kCmp2_ok, ev_not, kNot_ok, ev_and, kAnd_bl, ev_or, kOr_bl, ev_ite, kIte_ok, kIteB_t, kIteB_f, ev_ix, kIx1_ok, kIx2_ok, ev_isi, kIsi_ok, ev_bi, kBi_ok, ev_call, kCall_ok, ev_callP, kCallP_ok, ev_meth, kMeth1_ins, kMeth2_ok, ev_make, kMake_ok, kIns_ok, ev_fld, kFld_ins, evs_nil, evs_cons, kCons1_ok, kCons2_ok, evOs_nil, evOs_cons, kConsO1_ok, evF_lst, evF_dct0, evF_bi, evF_comp, evI_seq, evI_rng, kSeq_tup, kSeq_lst, opt_some, exs_nil, exs_cons, kSeqS_next, kSeqS_ret, kSeqS_exc, ex_set, kSet_v, ex_setF, kSetF_ok, ex_ite, kIteS_ok, kIteSB_t, kIteSB_f, ex_ret, kRet_ok, ex_expr, kExpr_ok, ex_loop, kLoop_ok, ex_while, fin_ret, fin_next, fin_exc, seen_tup, seen_lst, seen_str, seen_int, seen_bl, seen_non, seen_dct, seen_ins, truth_bl, slot0, slotS, rdV_val, rdP_some, List.set_cons_zero, List.set_cons_succ, frz, Option.map_some, if_true, Bool.not_true, Bool.not_false, Bool.false_eq_true, if_false, ite_true, ite_false, es_dput, sDput_ok, es_dupd, sDupd_ok, es_app, sApp_ok, es_frz, sFrz_v, sFrz_l, sFrz_d, es_aug, sAug_ok, kAug_add, kDput1_ok, kApp_ok, ev_sl1, ev_slm, kSl_ok, ev_chain, kChain1_ok, kChain3_ok, evF_dcomp, evF_comp2, kSet2, kSet3, cmp_lt_int, cmp_le_int, cmp_gt_int, cmp_ge_int, ev_neg_int, cmp_in2, cmp_in2l, cmp_in3, cmp_eq_str, cmp_ne_str, cmp_eq_int, cmp_ne_int, ixT0, ixT1, ixT2, ixT3, List.getElem?_cons_succ, List.getElem?_cons_zero, Int.cast_ofNat_Int, Nat.zero_add, Nat.reduceAdd, Int.reduceBEq, Int.natCast_one, ex_rput, sRo_f, kRput1_ok, kRput2_ok, kRput3_1, kRput3_2, kRput3_3, seen_ref0, ixL0, ixL1, ixL2, ixL3, Int.reduceLT, Int.reduceLE, decide_true, decide_false, isi_tupT, isi_intI, isi_intB, isi_intT, isi_intL, isi_intS, isi_tupL, lf_int, lf_intI, lf_lenT, lf_lenL, lf_tupL, op_addI, op_subI, kTup0, kTup1, kTup2, kTup3, kTup4, kTup5, kLst0, kLst1, kLst2, kLst3, kLst4, kLst5, beqf, List.length_cons, List.length_nil, reduceCtorEq, List.cons.injEq, Nat.reduceEqDiff, and_false, false_and, and_true, true_and, and_self, Bool.and_self, Bool.or_false, Bool.false_or, Bool.true_or, Bool.or_true, beq_self_eq_true, ne_eq, not_false_eq_true, e1, List.length_map, hsh, op_fdiv (gcd_ok h.len0 h.len1), fdivN, low]
end k73s

set_option linter.all false
set_option maxRecDepth 100000
namespace k73s
open Wa
open k73 (tab lawNo f_1 f_2 f_3 f_4 f_5 f_6 f_7 f_8 f_9 f_10 f_11 f_12 f_13 f_14 f_15 f_16 f_17 f_18 f_19 f_20 f_21 f_22 f_23 f_24 f_25 f_26 f_27 f_28 f_29 f_30 f_31 f_32)
/-! ### the five shapes -/
/-- what the law's own list of worlds holds -/
def rlOf (r : R D) : List (List D) :=
  match r with
  | .ok (.lst ws) _ => ws.map fun d => match d with
    | .dct _ rows => rows
    | _ => []
  | _ => []
def rels0 : List (Txt × Nat) := [([101], 2)]
def rels1 : List (Txt × Nat) := [([101], 2), ([117], 1)]
def rels2 : List (Txt × Nat) := [([117], 1), ([118], 1)]
def rels3 : List (Txt × Nat) := [([117], 1)]
def rels4 : List (Txt × Nat) := [([116], 3)]
def RL0 := rlOf (callN tab 1000 20 false 30 [relD rels0, .int 2] [])
def RL1 := rlOf (callN tab 1000 20 false 30 [relD rels1, .int 2] [])
def RL2 := rlOf (callN tab 1000 20 false 30 [relD rels2, .int 3] [])
def RL3 := rlOf (callN tab 1000 20 false 30 [relD rels3, .int 5] [])
def RL4 := rlOf (callN tab 1000 20 false 30 [relD rels4, .int 2] [])
/-- tuples that are in one row -/
def rowOk : D → Bool
  | .tup xs => xs.all D.isTup && plains deep xs
  | _ => false
def rowOf : D → List D
  | .tup xs => xs
  | _ => []
/-- what a world says -/
def Rl1 (a : Txt) (rows : List D) (r : Txt) (is : List Int) : Bool :=
  match rows with
  | [x] => inL (.tup (is.map iD)) (rowOf x)
  | _ => false
def Rl2 (a b : Txt) (rows : List D) (r : Txt) (is : List Int) : Bool :=
  match rows with
  | [x, y] => if r = a then inL (.tup (is.map iD)) (rowOf x) else inL (.tup (is.map iD)) (rowOf y)
  | _ => false
theorem keyins_ints : ∀ {is : List Int}, keyins 6 (is.map iD) = true
  | [] => rfl
  | i :: is => by
    show (D.keyin 6 (.int i) && keyins 6 (is.map iD)) = true
    rw [keyins_ints]; rfl
theorem plains_ints {n : Nat} : ∀ {is : List Int}, plains n (is.map iD) = true
  | [] => by cases n <;> rfl
  | i :: is => by
    have h := @plains_ints n is
    cases n <;> simp [plains, D.plain, iD] <;> exact h
theorem plain_ints {is : List Int} : D.plain deep (.tup (is.map iD)) = true := by
  show plains 39 (is.map iD) = true
  exact plains_ints
theorem atK_in {k : D} : ∀ {xs : List D}, (atK k xs (xs.map fun _ => .bl true)).isSome = inL k xs
  | [] => rfl
  | x :: xs => by
    show (if D.eqv x k then some (D.bl true) else atK k xs (xs.map fun _ => .bl true)).isSome = (D.eqv x k || inL k xs)
    cases h : D.eqv x k with
    | true => rfl
    | false => rw [if_neg (by simp), Bool.false_or]; exact atK_in
theorem in_dct {is : List Int} {xs : List D} (h : rowOk (.tup xs) = true) : cmpD .isin (.tup (is.map iD)) (.dct xs (xs.map fun _ => .bl true)) = some (inL (.tup (is.map iD)) xs) := by
  show (if kok (.tup (is.map iD)) xs then some (atK (.tup (is.map iD)) xs (xs.map fun _ => .bl true)).isSome else none) = _
  have hk : kok (.tup (is.map iD)) xs = true := by
    cases xs with
    | nil => exact keyins_ints
    | cons x xs =>
      have : (D.isTup x && xs.all D.isTup && plains deep (x :: xs)) = true := h
      simp only [Bool.and_eq_true] at this
      show (keyins 6 (is.map iD) && (D.isTup x == true)) = true
      rw [keyins_ints, this.1.1]; rfl
  rw [hk, if_pos rfl, atK_in]
theorem in_tup {is : List Int} {xs : List D} (h : rowOk (.tup xs) = true) : cmpD .isin (.tup (is.map iD)) (.tup xs) = some (inL (.tup (is.map iD)) xs) := by
  show (if D.plain deep (.tup (is.map iD)) && plains deep xs then some (inL (.tup (is.map iD)) xs) else none) = _
  have : (xs.all D.isTup && plains deep xs) = true := h
  rw [Bool.and_eq_true] at this
  rw [plain_ints, this.2]; rfl
/-- one relation -/
theorem one_rows {a : Txt} {p N : Nat} {rows : List D} (h : (rows.length == 1 && rows.all rowOk) = true) : ∃ xs, rows = [.tup xs] ∧ rowOk (.tup xs) = true := by
  match rows, h with
  | [.tup xs], h => exact ⟨xs, rfl, by simpa using h⟩
  | [.non], h | [.bl _], h | [.int _], h | [.str _], h | [.lst _], h | [.dct _ _], h | [.ins _ _], h | [.ref _], h => simp [rowOk] at h
  | [], h => simp at h
  | _ :: _ :: _, h => simp at h
theorem two_rows {rows : List D} (h : (rows.length == 2 && rows.all rowOk) = true) : ∃ xs ys, rows = [.tup xs, .tup ys] ∧ rowOk (.tup xs) = true ∧ rowOk (.tup ys) = true := by
  have g : ∀ d, rowOk d = true → ∃ xs, d = .tup xs := by
    intro d hd
    cases d <;> first | exact ⟨_, rfl⟩ | simp [rowOk] at hd
  match rows, h with
  | [a, b], h =>
    simp only [List.all_cons, List.all_nil, Bool.and_true, Bool.and_eq_true] at h
    obtain ⟨xs, rfl⟩ := g a h.2.1
    obtain ⟨ys, rfl⟩ := g b h.2.2
    exact ⟨xs, ys, rfl, h.2.1, h.2.2⟩
  | [], h => simp at h
  | [_], h => simp at h
  | _ :: _ :: _ :: _, h => simp at h
theorem hold8 {rels : List (Txt × Nat)} {m : Nat} {ro : Bool} {L : List Cell} {a : Txt} {ix sz rs x : D} {kn k v : List D} {b : Bool} (hh : callN tab 1000 (m + 1) ro 5 [SH rels, .str a] L = .ok ix L) (hi : ixD (.lst kn) ix = some (.dct k v)) (hc : cmpD .isin x (.dct k v) = some b) :
    callN tab 1000 (m + 2) ro 8 [.ins 6 [SH rels, sz, rs, .lst kn], .str a, x] L = .ok (.bl b) L := by
  rw [call_succ (fn := f_8) rfl, run_eq (env := [vs (.ins 6 [SH rels, sz, rs, .lst kn]), vs (.str a), vs x]) rfl]
  simp only [SH] at hh ⊢
  simp only [f_8, ev_var, ev_non, ev_bl, ev_int, ev_str, ev_glob, evO_e, evO_pk, ev_tup, ev_fr, kFrz_ok, ev_op, kOp1_ok, kOp2_ok, ev_cmp, kCmp1_ok, kCmp2_ok, ev_not, kNot_ok, ev_and, kAnd_bl, ev_or, kOr_bl, ev_ite, kIte_ok, kIteB_t, kIteB_f, ev_ix, kIx1_ok, kIx2_ok, ev_isi, kIsi_ok, ev_bi, kBi_ok, ev_call, kCall_ok, ev_callP, kCallP_ok, ev_meth, kMeth1_ins, kMeth2_ok, ev_make, kMake_ok, kIns_ok, ev_fld, kFld_ins, evs_nil, evs_cons, kCons1_ok, kCons2_ok, evOs_nil, evOs_cons, kConsO1_ok, evF_lst, evF_dct0, evF_bi, evF_comp, evI_seq, evI_rng, kSeq_tup, kSeq_lst, opt_some, exs_nil, exs_cons, kSeqS_next, kSeqS_ret, kSeqS_exc, ex_set, kSet_v, ex_setF, kSetF_ok, ex_ite, kIteS_ok, kIteSB_t, kIteSB_f, ex_ret, kRet_ok, ex_expr, kExpr_ok, ex_loop, kLoop_ok, ex_while, fin_ret, fin_next, fin_exc, seen_tup, seen_lst, seen_str, seen_int, seen_bl, seen_non, seen_dct, seen_ins, truth_bl, slot0, slotS, rdV_val, rdP_some, List.set_cons_zero, List.set_cons_succ, frz, Option.map_some, if_true, Bool.not_true, Bool.not_false, Bool.false_eq_true, if_false, ite_true, ite_false, es_dput, sDput_ok, es_dupd, sDupd_ok, es_app, sApp_ok, es_frz, sFrz_v, sFrz_l, sFrz_d, es_aug, sAug_ok, kAug_add, kDput1_ok, kApp_ok, ev_sl1, ev_slm, kSl_ok, ev_chain, kChain1_ok, kChain3_ok, evF_dcomp, evF_comp2, kSet2, kSet3, cmp_lt_int, cmp_le_int, cmp_gt_int, cmp_ge_int, ev_neg_int, cmp_in2, cmp_in2l, cmp_in3, cmp_eq_str, cmp_ne_str, cmp_eq_int, cmp_ne_int, ixT0, ixT1, ixT2, ixT3, List.getElem?_cons_succ, List.getElem?_cons_zero, Int.cast_ofNat_Int, Nat.zero_add, Nat.reduceAdd, Int.reduceBEq, Int.natCast_one, ex_rput, sRo_f, kRput1_ok, kRput2_ok, kRput3_1, kRput3_2, kRput3_3, seen_ref0, ixL0, ixL1, ixL2, ixL3, Int.reduceLT, Int.reduceLE, decide_true, decide_false, isi_tupT, isi_intI, isi_intB, isi_intT, isi_intL, isi_intS, isi_tupL, lf_int, lf_intI, lf_lenT, lf_lenL, lf_tupL, op_addI, op_subI, kTup0, kTup1, kTup2, kTup3, kTup4, kTup5, kLst0, kLst1, kLst2, kLst3, kLst4, kLst5, beqf, List.length_cons, List.length_nil, reduceCtorEq, List.cons.injEq, Nat.reduceEqDiff, and_false, false_and, and_true, true_and, and_self, Bool.and_self, Bool.or_false, Bool.false_or, Bool.true_or, Bool.or_true, beq_self_eq_true, ne_eq, not_false_eq_true, hh, hi, hc]
theorem wok1 {a : Txt} {p N : Nat} {rows : List D} (h : (rows.length == 1 && rows.all rowOk) = true)
    (hh : ∀ {m ro L}, callN tab 1000 (m + 1) ro 5 [SH [(a, p)], .str a] L = .ok (.int 0) L) : WOk [(a, p)] (WD [(a, p)] N rows) N (Rl1 a rows) := by
  obtain ⟨xs, rfl, hx⟩ := one_rows (a := a) (p := p) (N := N) h
  refine ⟨⟨_, _, _, rfl⟩, ?_⟩
  intro m ro L r is hm
  rcases List.mem_singleton.mp hm with e
  obtain rfl : r = a := congrArg Prod.fst e
  exact hold8 (ix := .int 0) hh rfl (in_dct hx)
theorem kok1 {a : Txt} {p : Nat} {rows : List D} (h : (rows.length == 1 && rows.all rowOk) = true) : KOk [(a, p)] (KD [(a, p)] rows) (Rl1 a rows) := by
  obtain ⟨xs, rfl, hx⟩ := one_rows (a := a) (p := p) (N := 0) h
  refine ⟨?_⟩
  intro r is hm
  rcases List.mem_singleton.mp hm with e
  obtain rfl : r = a := congrArg Prod.fst e
  refine ⟨xs, ?_, in_tup hx⟩
  simp [KD, ixD, kok, D.key, D.isTup, atK, eqv_str]
theorem wok2 {a b : Txt} {p q N : Nat} {rows : List D} (hab : b ≠ a) (h : (rows.length == 2 && rows.all rowOk) = true)
    (hh : ∀ {m ro L}, callN tab 1000 (m + 1) ro 5 [SH [(a, p), (b, q)], .str a] L = .ok (.int 0) L)
    (hh2 : ∀ {m ro L}, callN tab 1000 (m + 1) ro 5 [SH [(a, p), (b, q)], .str b] L = .ok (.int 1) L) :
    WOk [(a, p), (b, q)] (WD [(a, p), (b, q)] N rows) N (Rl2 a b rows) := by
  obtain ⟨xs, ys, rfl, hx, hy⟩ := two_rows h
  refine ⟨⟨_, _, _, rfl⟩, ?_⟩
  intro m ro L r is hm
  rcases List.mem_cons.mp hm with e | e
  · obtain rfl : r = a := congrArg Prod.fst e
    simp only [Rl2, if_true, rowOf]
    exact hold8 (ix := .int 0) hh rfl (in_dct hx)
  · rcases List.mem_singleton.mp e with e
    obtain rfl : r = b := congrArg Prod.fst e
    simp only [Rl2, if_neg hab, rowOf]
    exact hold8 (ix := .int 1) hh2 rfl (in_dct hy)
theorem kok2 {a b : Txt} {p q : Nat} {rows : List D} (hab : b ≠ a) (h : (rows.length == 2 && rows.all rowOk) = true) : KOk [(a, p), (b, q)] (KD [(a, p), (b, q)] rows) (Rl2 a b rows) := by
  obtain ⟨xs, ys, rfl, hx, hy⟩ := two_rows h
  refine ⟨?_⟩
  intro r is hm
  rcases List.mem_cons.mp hm with e | e
  · obtain rfl : r = a := congrArg Prod.fst e
    refine ⟨xs, ?_, ?_⟩
    · simp [KD, ixD, kok, D.key, D.isTup, atK, eqv_str]
    · simp only [Rl2, if_true, rowOf]; exact in_tup hx
  · rcases List.mem_singleton.mp e with e
    obtain rfl : r = b := congrArg Prod.fst e
    refine ⟨ys, ?_, ?_⟩
    · simp [KD, ixD, kok, D.key, D.isTup, atK, eqv_str, Ne.symm hab]
    · simp only [Rl2, if_neg hab, rowOf]; exact in_tup hy
theorem RL0_ok : (RL0.all fun rows => rows.length == 1 && rows.all rowOk) = true := by decide +kernel
theorem RL1_ok : (RL1.all fun rows => rows.length == 2 && rows.all rowOk) = true := by decide +kernel
theorem RL2_ok : (RL2.all fun rows => rows.length == 2 && rows.all rowOk) = true := by decide +kernel
theorem RL3_ok : (RL3.all fun rows => rows.length == 1 && rows.all rowOk) = true := by decide +kernel
theorem RL4_ok : (RL4.all fun rows => rows.length == 1 && rows.all rowOk) = true := by decide +kernel
theorem OOk0 : OOk rels0 2 RL0 (Rl1 [101]) where
  sh := ⟨fun {n ro L r} h => by
      rcases List.mem_singleton.mp h with rfl; kernel_rfl, fun {n ro L r} h => by
      rcases List.mem_singleton.mp h with rfl; kernel_rfl, ⟨_, rfl⟩⟩
  r3 := by decide
  r0 := by decide
  r1 := by decide
  sm := by decide
  n1 := by decide
  many := fun {n ro L} => ⟨4, by decide, by kernel_rfl⟩
  rows := fun {n ro L s} => ⟨vs (.str [101]), vs (.int 2), by kernel_rfl⟩
  world := fun {n ro L} => List.map_inj_left.mp (by kernel_rfl)
  wok := fun rows m => wok1 (List.all_eq_true.mp RL0_ok rows m) (by intros; kernel_rfl)
  kok := fun rows m => kok1 (List.all_eq_true.mp RL0_ok rows m)
  len0 := by decide +kernel
  len1 := by decide +kernel
theorem worlds0 {n : Nat} {L : List Cell} : callN tab 1000 (n + 3) false 30 [relD rels0, .int 2] L = .ok (.lst (RL0.map (KD rels0))) L := by kernel_rfl
theorem shape0 {n : Nat} {L : List Cell} : initP tab 1000 (n + 4) false 5 [relD rels0] L = .ok [relD rels0] L := by kernel_rfl
theorem OOk1 : OOk rels1 2 RL1 (Rl2 [101] [117]) where
  sh := ⟨fun {n ro L r} h => by
      rcases List.mem_cons.mp h with rfl | h
      · kernel_rfl
      · rcases List.mem_singleton.mp h with rfl; kernel_rfl, fun {n ro L r} h => by
      rcases List.mem_cons.mp h with rfl | h
      · kernel_rfl
      · rcases List.mem_singleton.mp h with rfl; kernel_rfl, ⟨_, rfl⟩⟩
  r3 := by decide
  r0 := by decide
  r1 := by decide
  sm := by decide
  n1 := by decide
  many := fun {n ro L} => ⟨6, by decide, by kernel_rfl⟩
  rows := fun {n ro L s} => ⟨vs (.str [117]), vs (.int 1), by kernel_rfl⟩
  world := fun {n ro L} => List.map_inj_left.mp (by kernel_rfl)
  wok := fun rows m => wok2 (by decide) (List.all_eq_true.mp RL1_ok rows m) (by intros; kernel_rfl) (by intros; kernel_rfl)
  kok := fun rows m => kok2 (by decide) (List.all_eq_true.mp RL1_ok rows m)
  len0 := by decide +kernel
  len1 := by decide +kernel
theorem worlds1 {n : Nat} {L : List Cell} : callN tab 1000 (n + 3) false 30 [relD rels1, .int 2] L = .ok (.lst (RL1.map (KD rels1))) L := by kernel_rfl
theorem shape1 {n : Nat} {L : List Cell} : initP tab 1000 (n + 4) false 5 [relD rels1] L = .ok [relD rels1] L := by kernel_rfl
theorem OOk2 : OOk rels2 3 RL2 (Rl2 [117] [118]) where
  sh := ⟨fun {n ro L r} h => by
      rcases List.mem_cons.mp h with rfl | h
      · kernel_rfl
      · rcases List.mem_singleton.mp h with rfl; kernel_rfl, fun {n ro L r} h => by
      rcases List.mem_cons.mp h with rfl | h
      · kernel_rfl
      · rcases List.mem_singleton.mp h with rfl; kernel_rfl, ⟨_, rfl⟩⟩
  r3 := by decide
  r0 := by decide
  r1 := by decide
  sm := by decide
  n1 := by decide
  many := fun {n ro L} => ⟨6, by decide, by kernel_rfl⟩
  rows := fun {n ro L s} => ⟨vs (.str [118]), vs (.int 1), by kernel_rfl⟩
  world := fun {n ro L} => List.map_inj_left.mp (by kernel_rfl)
  wok := fun rows m => wok2 (by decide) (List.all_eq_true.mp RL2_ok rows m) (by intros; kernel_rfl) (by intros; kernel_rfl)
  kok := fun rows m => kok2 (by decide) (List.all_eq_true.mp RL2_ok rows m)
  len0 := by decide +kernel
  len1 := by decide +kernel
theorem worlds2 {n : Nat} {L : List Cell} : callN tab 1000 (n + 3) false 30 [relD rels2, .int 3] L = .ok (.lst (RL2.map (KD rels2))) L := by kernel_rfl
theorem shape2 {n : Nat} {L : List Cell} : initP tab 1000 (n + 4) false 5 [relD rels2] L = .ok [relD rels2] L := by kernel_rfl
theorem OOk3 : OOk rels3 5 RL3 (Rl1 [117]) where
  sh := ⟨fun {n ro L r} h => by
      rcases List.mem_singleton.mp h with rfl; kernel_rfl, fun {n ro L r} h => by
      rcases List.mem_singleton.mp h with rfl; kernel_rfl, ⟨_, rfl⟩⟩
  r3 := by decide
  r0 := by decide
  r1 := by decide
  sm := by decide
  n1 := by decide
  many := fun {n ro L} => ⟨5, by decide, by kernel_rfl⟩
  rows := fun {n ro L s} => ⟨vs (.str [117]), vs (.int 1), by kernel_rfl⟩
  world := fun {n ro L} => List.map_inj_left.mp (by kernel_rfl)
  wok := fun rows m => wok1 (List.all_eq_true.mp RL3_ok rows m) (by intros; kernel_rfl)
  kok := fun rows m => kok1 (List.all_eq_true.mp RL3_ok rows m)
  len0 := by decide +kernel
  len1 := by decide +kernel
theorem worlds3 {n : Nat} {L : List Cell} : callN tab 1000 (n + 3) false 30 [relD rels3, .int 5] L = .ok (.lst (RL3.map (KD rels3))) L := by kernel_rfl
theorem shape3 {n : Nat} {L : List Cell} : initP tab 1000 (n + 4) false 5 [relD rels3] L = .ok [relD rels3] L := by kernel_rfl
theorem OOk4 : OOk rels4 2 RL4 (Rl1 [116]) where
  sh := ⟨fun {n ro L r} h => by
      rcases List.mem_singleton.mp h with rfl; kernel_rfl, fun {n ro L r} h => by
      rcases List.mem_singleton.mp h with rfl; kernel_rfl, ⟨_, rfl⟩⟩
  r3 := by decide
  r0 := by decide
  r1 := by decide
  sm := by decide
  n1 := by decide
  many := fun {n ro L} => ⟨8, by decide, by kernel_rfl⟩
  rows := fun {n ro L s} => ⟨vs (.str [116]), vs (.int 3), by kernel_rfl⟩
  world := fun {n ro L} => List.map_inj_left.mp (by kernel_rfl)
  wok := fun rows m => wok1 (List.all_eq_true.mp RL4_ok rows m) (by intros; kernel_rfl)
  kok := fun rows m => kok1 (List.all_eq_true.mp RL4_ok rows m)
  len0 := by decide +kernel
  len1 := by decide +kernel
theorem worlds4 {n : Nat} {L : List Cell} : callN tab 1000 (n + 3) false 30 [relD rels4, .int 2] L = .ok (.lst (RL4.map (KD rels4))) L := by kernel_rfl
theorem shape4 {n : Nat} {L : List Cell} : initP tab 1000 (n + 4) false 5 [relD rels4] L = .ok [relD rels4] L := by kernel_rfl
end k73s

set_option linter.all false
set_option maxRecDepth 100000
namespace k73s
open Wa
open k73 (tab lawNo f_1 f_2 f_3 f_4 f_5 f_6 f_7 f_8 f_9 f_10 f_11 f_12 f_13 f_14 f_15 f_16 f_17 f_18 f_19 f_20 f_21 f_22 f_23 f_24 f_25 f_26 f_27 f_28 f_29 f_30 f_31 f_32)
theorem Wf.up {rels : List (Txt × Nat)} {Γ : List Nat} {d : Nat} {s : Sn} (h : Wf rels Γ d s) : ∀ {e : Nat}, d ≤ e → Wf rels Γ e s := by
  have g : ∀ {d e : Nat}, d + 1 ≤ e → ∃ e', e = e' + 1 ∧ d ≤ e' := fun {d e} h => ⟨e - 1, by omega, by omega⟩
  induction h with
  | yes => exact fun _ => .yes
  | same h1 h2 => exact fun _ => .same h1 h2
  | rel h1 h2 => exact fun _ => .rel h1 h2
  | not _ ih => intro e he; obtain ⟨e, rfl, he'⟩ := g he; exact .not (ih he')
  | and _ _ i1 i2 => intro e he; obtain ⟨e, rfl, he'⟩ := g he; exact .and (i1 he') (i2 he')
  | or _ _ i1 i2 => intro e he; obtain ⟨e, rfl, he'⟩ := g he; exact .or (i1 he') (i2 he')
  | some hx _ ih => intro e he; obtain ⟨e, rfl, he'⟩ := g he; exact .some hx (ih he')
  | all hx _ ih => intro e he; obtain ⟨e, rfl, he'⟩ := g he; exact .all hx (ih he')
  | many hk hx _ ih => intro e he; obtain ⟨e, rfl, he'⟩ := g he; exact .many hk hx (ih he')
/-! ### _law_same -/
theorem cmp_is_int {a : Int} : cmpD .is (.int a) .non = some false := rfl
theorem cmp_ne_bl {a b : Bool} : cmpD .ne (.bl a) (.bl b) = some (!(a == b)) := rfl
theorem same_int {n : Nat} {ro : Bool} {a : Int} {L : List Cell} : callN tab 1000 (n + 1) ro 23 [.int a, .int a] L = .ok (.bl true) L := by
  rw [call_succ (fn := f_23) rfl, run_eq (env := [vs (.int a), vs (.int a), none]) rfl]
  simp only [f_23, ev_var, ev_non, ev_bl, ev_int, ev_str, ev_glob, evO_e, evO_pk, ev_tup, ev_fr, kFrz_ok, ev_op, kOp1_ok, kOp2_ok, ev_cmp, kCmp1_ok, kCmp2_ok, ev_not, kNot_ok, ev_and, kAnd_bl, ev_or, kOr_bl, ev_ite, kIte_ok, kIteB_t, kIteB_f, ev_ix, kIx1_ok, kIx2_ok, ev_isi, kIsi_ok, ev_bi, kBi_ok, ev_call, kCall_ok, ev_callP, kCallP_ok, ev_meth, kMeth1_ins, kMeth2_ok, ev_make, kMake_ok, kIns_ok, ev_fld, kFld_ins, evs_nil, evs_cons, kCons1_ok, kCons2_ok, evOs_nil, evOs_cons, kConsO1_ok, evF_lst, evF_dct0, evF_bi, evF_comp, evI_seq, evI_rng, kSeq_tup, kSeq_lst, opt_some, exs_nil, exs_cons, kSeqS_next, kSeqS_ret, kSeqS_exc, ex_set, kSet_v, ex_setF, kSetF_ok, ex_ite, kIteS_ok, kIteSB_t, kIteSB_f, ex_ret, kRet_ok, ex_expr, kExpr_ok, ex_loop, kLoop_ok, ex_while, fin_ret, fin_next, fin_exc, seen_tup, seen_lst, seen_str, seen_int, seen_bl, seen_non, seen_dct, seen_ins, truth_bl, slot0, slotS, rdV_val, rdP_some, List.set_cons_zero, List.set_cons_succ, frz, Option.map_some, if_true, Bool.not_true, Bool.not_false, Bool.false_eq_true, if_false, ite_true, ite_false, es_dput, sDput_ok, es_dupd, sDupd_ok, es_app, sApp_ok, es_frz, sFrz_v, sFrz_l, sFrz_d, es_aug, sAug_ok, kAug_add, kDput1_ok, kApp_ok, ev_sl1, ev_slm, kSl_ok, ev_chain, kChain1_ok, kChain3_ok, evF_dcomp, evF_comp2, kSet2, kSet3, cmp_lt_int, cmp_le_int, cmp_gt_int, cmp_ge_int, ev_neg_int, cmp_in2, cmp_in2l, cmp_in3, cmp_eq_str, cmp_ne_str, cmp_eq_int, cmp_ne_int, ixT0, ixT1, ixT2, ixT3, List.getElem?_cons_succ, List.getElem?_cons_zero, Int.cast_ofNat_Int, Nat.zero_add, Nat.reduceAdd, Int.reduceBEq, Int.natCast_one, ex_rput, sRo_f, kRput1_ok, kRput2_ok, kRput3_1, kRput3_2, kRput3_3, seen_ref0, ixL0, ixL1, ixL2, ixL3, Int.reduceLT, Int.reduceLE, decide_true, decide_false, isi_tupT, isi_intI, isi_intB, isi_intT, isi_intL, isi_intS, isi_tupL, lf_int, lf_intI, lf_lenT, lf_lenL, lf_tupL, op_addI, op_subI, kTup0, kTup1, kTup2, kTup3, kTup4, kTup5, kLst0, kLst1, kLst2, kLst3, kLst4, kLst5, beqf, List.length_cons, List.length_nil, reduceCtorEq, List.cons.injEq, Nat.reduceEqDiff, and_false, false_and, and_true, true_and, and_self, Bool.and_self, Bool.or_false, Bool.false_or, Bool.true_or, Bool.or_true, beq_self_eq_true, ne_eq, not_false_eq_true, cmp_is_int]
theorem same_two {n : Nat} {ro : Bool} {a b : Int} {L : List Cell} : callN tab 1000 (n + 2) ro 23 [.tup [.int a, .int b], .tup [.int a, .int b]] L = .ok (.bl true) L := by
  rw [call_succ (fn := f_23) rfl, run_eq (env := [vs (.tup [.int a, .int b]), vs (.tup [.int a, .int b]), none]) rfl]
  have hc : kComp ⟨callN tab 1000 (n + 1), initP tab 1000 (n + 1), ro, 1000⟩ [2] (.var 2) (.v 2) (.some (.not (.call 23 (.cons (.ix (.e (.var 0)) (.var 2)) (.cons (.ix (.e (.var 1)) (.var 2)) .nil))))) [vs (.tup [.int a, .int b]), vs (.tup [.int a, .int b]), none] (.ok (rngL 0 (Int.toNat 2)) L) = .ok (.olst []) L := by
    have := compL_map (t := .v 2) (tst := evB ⟨callN tab 1000 (n + 1), initP tab 1000 (n + 1), ro, 1000⟩ (.some (.not (.call 23 (.cons (.ix (.e (.var 0)) (.var 2)) (.cons (.ix (.e (.var 1)) (.var 2)) .nil)))))) (el := ev ⟨callN tab 1000 (n + 1), initP tab 1000 (n + 1), ro, 1000⟩ (.var 2)) (env := [vs (.tup [.int a, .int b]), vs (.tup [.int a, .int b]), none]) (L := L) (p := fun _ => false) (g := fun x => x) (xs := [.int 0, .int 1]) (by
      intro x hx
      refine ⟨_, rfl, ?_, fun h => by simp at h⟩
      rcases List.mem_cons.mp hx with rfl | hx
      · exact evB_some (by simp only [ev_var, ev_non, ev_bl, ev_int, ev_str, ev_glob, evO_e, evO_pk, ev_tup, ev_fr, kFrz_ok, ev_op, kOp1_ok, kOp2_ok, ev_cmp, kCmp1_ok, kCmp2_ok, ev_not, kNot_ok, ev_and, kAnd_bl, ev_or, kOr_bl, ev_ite, kIte_ok, kIteB_t, kIteB_f, ev_ix, kIx1_ok, kIx2_ok, ev_isi, kIsi_ok, ev_bi, kBi_ok, ev_call, kCall_ok, ev_callP, kCallP_ok, ev_meth, kMeth1_ins, kMeth2_ok, ev_make, kMake_ok, kIns_ok, ev_fld, kFld_ins, evs_nil, evs_cons, kCons1_ok, kCons2_ok, evOs_nil, evOs_cons, kConsO1_ok, evF_lst, evF_dct0, evF_bi, evF_comp, evI_seq, evI_rng, kSeq_tup, kSeq_lst, opt_some, exs_nil, exs_cons, kSeqS_next, kSeqS_ret, kSeqS_exc, ex_set, kSet_v, ex_setF, kSetF_ok, ex_ite, kIteS_ok, kIteSB_t, kIteSB_f, ex_ret, kRet_ok, ex_expr, kExpr_ok, ex_loop, kLoop_ok, ex_while, fin_ret, fin_next, fin_exc, seen_tup, seen_lst, seen_str, seen_int, seen_bl, seen_non, seen_dct, seen_ins, truth_bl, slot0, slotS, rdV_val, rdP_some, List.set_cons_zero, List.set_cons_succ, frz, Option.map_some, if_true, Bool.not_true, Bool.not_false, Bool.false_eq_true, if_false, ite_true, ite_false, es_dput, sDput_ok, es_dupd, sDupd_ok, es_app, sApp_ok, es_frz, sFrz_v, sFrz_l, sFrz_d, es_aug, sAug_ok, kAug_add, kDput1_ok, kApp_ok, ev_sl1, ev_slm, kSl_ok, ev_chain, kChain1_ok, kChain3_ok, evF_dcomp, evF_comp2, kSet2, kSet3, cmp_lt_int, cmp_le_int, cmp_gt_int, cmp_ge_int, ev_neg_int, cmp_in2, cmp_in2l, cmp_in3, cmp_eq_str, cmp_ne_str, cmp_eq_int, cmp_ne_int, ixT0, ixT1, ixT2, ixT3, List.getElem?_cons_succ, List.getElem?_cons_zero, Int.cast_ofNat_Int, Nat.zero_add, Nat.reduceAdd, Int.reduceBEq, Int.natCast_one, ex_rput, sRo_f, kRput1_ok, kRput2_ok, kRput3_1, kRput3_2, kRput3_3, seen_ref0, ixL0, ixL1, ixL2, ixL3, Int.reduceLT, Int.reduceLE, decide_true, decide_false, isi_tupT, isi_intI, isi_intB, isi_intT, isi_intL, isi_intS, isi_tupL, lf_int, lf_intI, lf_lenT, lf_lenL, lf_tupL, op_addI, op_subI, kTup0, kTup1, kTup2, kTup3, kTup4, kTup5, kLst0, kLst1, kLst2, kLst3, kLst4, kLst5, beqf, List.length_cons, List.length_nil, reduceCtorEq, List.cons.injEq, Nat.reduceEqDiff, and_false, false_and, and_true, true_and, and_self, Bool.and_self, Bool.or_false, Bool.false_or, Bool.true_or, Bool.or_true, beq_self_eq_true, ne_eq, not_false_eq_true, same_int])
      · rcases List.mem_singleton.mp hx with rfl
        exact evB_some (by simp only [ev_var, ev_non, ev_bl, ev_int, ev_str, ev_glob, evO_e, evO_pk, ev_tup, ev_fr, kFrz_ok, ev_op, kOp1_ok, kOp2_ok, ev_cmp, kCmp1_ok, kCmp2_ok, ev_not, kNot_ok, ev_and, kAnd_bl, ev_or, kOr_bl, ev_ite, kIte_ok, kIteB_t, kIteB_f, ev_ix, kIx1_ok, kIx2_ok, ev_isi, kIsi_ok, ev_bi, kBi_ok, ev_call, kCall_ok, ev_callP, kCallP_ok, ev_meth, kMeth1_ins, kMeth2_ok, ev_make, kMake_ok, kIns_ok, ev_fld, kFld_ins, evs_nil, evs_cons, kCons1_ok, kCons2_ok, evOs_nil, evOs_cons, kConsO1_ok, evF_lst, evF_dct0, evF_bi, evF_comp, evI_seq, evI_rng, kSeq_tup, kSeq_lst, opt_some, exs_nil, exs_cons, kSeqS_next, kSeqS_ret, kSeqS_exc, ex_set, kSet_v, ex_setF, kSetF_ok, ex_ite, kIteS_ok, kIteSB_t, kIteSB_f, ex_ret, kRet_ok, ex_expr, kExpr_ok, ex_loop, kLoop_ok, ex_while, fin_ret, fin_next, fin_exc, seen_tup, seen_lst, seen_str, seen_int, seen_bl, seen_non, seen_dct, seen_ins, truth_bl, slot0, slotS, rdV_val, rdP_some, List.set_cons_zero, List.set_cons_succ, frz, Option.map_some, if_true, Bool.not_true, Bool.not_false, Bool.false_eq_true, if_false, ite_true, ite_false, es_dput, sDput_ok, es_dupd, sDupd_ok, es_app, sApp_ok, es_frz, sFrz_v, sFrz_l, sFrz_d, es_aug, sAug_ok, kAug_add, kDput1_ok, kApp_ok, ev_sl1, ev_slm, kSl_ok, ev_chain, kChain1_ok, kChain3_ok, evF_dcomp, evF_comp2, kSet2, kSet3, cmp_lt_int, cmp_le_int, cmp_gt_int, cmp_ge_int, ev_neg_int, cmp_in2, cmp_in2l, cmp_in3, cmp_eq_str, cmp_ne_str, cmp_eq_int, cmp_ne_int, ixT0, ixT1, ixT2, ixT3, List.getElem?_cons_succ, List.getElem?_cons_zero, Int.cast_ofNat_Int, Nat.zero_add, Nat.reduceAdd, Int.reduceBEq, Int.natCast_one, ex_rput, sRo_f, kRput1_ok, kRput2_ok, kRput3_1, kRput3_2, kRput3_3, seen_ref0, ixL0, ixL1, ixL2, ixL3, Int.reduceLT, Int.reduceLE, decide_true, decide_false, isi_tupT, isi_intI, isi_intB, isi_intT, isi_intL, isi_intS, isi_tupL, lf_int, lf_intI, lf_lenT, lf_lenL, lf_tupL, op_addI, op_subI, kTup0, kTup1, kTup2, kTup3, kTup4, kTup5, kLst0, kLst1, kLst2, kLst3, kLst4, kLst5, beqf, List.length_cons, List.length_nil, reduceCtorEq, List.cons.injEq, Nat.reduceEqDiff, and_false, false_and, and_true, true_and, and_self, Bool.and_self, Bool.or_false, Bool.false_or, Bool.true_or, Bool.or_true, beq_self_eq_true, ne_eq, not_false_eq_true, same_int]))
    show (nox (compL _ _ _ [vs (.tup [.int a, .int b]), vs (.tup [.int a, .int b]), none] [.int 0, .int 1] L)).bind _ = _
    rw [this]
    rfl
  have hs : small 2 = true := by decide
  simp only [f_23, ev_var, ev_non, ev_bl, ev_int, ev_str, ev_glob, evO_e, evO_pk, ev_tup, ev_fr, kFrz_ok, ev_op, kOp1_ok, kOp2_ok, ev_cmp, kCmp1_ok, kCmp2_ok, ev_not, kNot_ok, ev_and, kAnd_bl, ev_or, kOr_bl, ev_ite, kIte_ok, kIteB_t, kIteB_f, ev_ix, kIx1_ok, kIx2_ok, ev_isi, kIsi_ok, ev_bi, kBi_ok, ev_call, kCall_ok, ev_callP, kCallP_ok, ev_meth, kMeth1_ins, kMeth2_ok, ev_make, kMake_ok, kIns_ok, ev_fld, kFld_ins, evs_nil, evs_cons, kCons1_ok, kCons2_ok, evOs_nil, evOs_cons, kConsO1_ok, evF_lst, evF_dct0, evF_bi, evF_comp, evI_seq, evI_rng, kSeq_tup, kSeq_lst, opt_some, exs_nil, exs_cons, kSeqS_next, kSeqS_ret, kSeqS_exc, ex_set, kSet_v, ex_setF, kSetF_ok, ex_ite, kIteS_ok, kIteSB_t, kIteSB_f, ex_ret, kRet_ok, ex_expr, kExpr_ok, ex_loop, kLoop_ok, ex_while, fin_ret, fin_next, fin_exc, seen_tup, seen_lst, seen_str, seen_int, seen_bl, seen_non, seen_dct, seen_ins, truth_bl, slot0, slotS, rdV_val, rdP_some, List.set_cons_zero, List.set_cons_succ, frz, Option.map_some, if_true, Bool.not_true, Bool.not_false, Bool.false_eq_true, if_false, ite_true, ite_false, es_dput, sDput_ok, es_dupd, sDupd_ok, es_app, sApp_ok, es_frz, sFrz_v, sFrz_l, sFrz_d, es_aug, sAug_ok, kAug_add, kDput1_ok, kApp_ok, ev_sl1, ev_slm, kSl_ok, ev_chain, kChain1_ok, kChain3_ok, evF_dcomp, evF_comp2, kSet2, kSet3, cmp_lt_int, cmp_le_int, cmp_gt_int, cmp_ge_int, ev_neg_int, cmp_in2, cmp_in2l, cmp_in3, cmp_eq_str, cmp_ne_str, cmp_eq_int, cmp_ne_int, ixT0, ixT1, ixT2, ixT3, List.getElem?_cons_succ, List.getElem?_cons_zero, Int.cast_ofNat_Int, Nat.zero_add, Nat.reduceAdd, Int.reduceBEq, Int.natCast_one, ex_rput, sRo_f, kRput1_ok, kRput2_ok, kRput3_1, kRput3_2, kRput3_3, seen_ref0, ixL0, ixL1, ixL2, ixL3, Int.reduceLT, Int.reduceLE, decide_true, decide_false, isi_tupT, isi_intI, isi_intB, isi_intT, isi_intL, isi_intS, isi_tupL, lf_int, lf_intI, lf_lenT, lf_lenL, lf_tupL, op_addI, op_subI, kTup0, kTup1, kTup2, kTup3, kTup4, kTup5, kLst0, kLst1, kLst2, kLst3, kLst4, kLst5, beqf, List.length_cons, List.length_nil, reduceCtorEq, List.cons.injEq, Nat.reduceEqDiff, and_false, false_and, and_true, true_and, and_self, Bool.and_self, Bool.or_false, Bool.false_or, Bool.true_or, Bool.or_true, beq_self_eq_true, ne_eq, not_false_eq_true, cmp_ne_bl, kRng1 hs, hc]
theorem same_low {n a b : Nat} {ro : Bool} {L : List Cell} : callN tab 1000 (n + 2) ro 23 [low a b, low a b] L = .ok (.bl true) L := same_two
/-! ### counts -/
variable {rels : List (Txt × Nat)} {N : Nat} {RL : List (List D)} {Rl : List D → Txt → List Int → Bool}
theorem cnt_le' (s : Sn) : cntS RL Rl N s ≤ RL.length := List.countP_le_length
theorem cnt_not (s : Sn) : cntS RL Rl N (.not s) = RL.length - cntS RL Rl N s := by
  unfold cntS
  induction RL with
  | nil => rfl
  | cons r RL ih =>
    have := List.countP_le_length (p := fun rows => sat (Rl rows) N s fun _ => 0) (l := RL)
    simp only [List.countP_cons, List.length_cons, sat] at ih ⊢
    rw [ih]
    cases sat (Rl r) N s fun _ => 0 <;> simp <;> omega
theorem cnt_two (s t : Sn) : cntS RL Rl N (.and s t) + cntS RL Rl N (.or s t) = cntS RL Rl N s + cntS RL Rl N t := by
  unfold cntS
  induction RL with
  | nil => rfl
  | cons r RL ih =>
    simp only [List.countP_cons, sat] at ih ⊢
    cases sat (Rl r) N s fun _ => 0 <;> cases sat (Rl r) N t fun _ => 0 <;> simp <;> omega
theorem low_cross {c M : Nat} : (((c / Nat.gcd c M : Nat) : Int)) * M = c * ((M / Nat.gcd c M : Nat) : Int) := by
  have h1 : Nat.gcd c M ∣ c := Nat.gcd_dvd_left c M
  have h2 : Nat.gcd c M ∣ M := Nat.gcd_dvd_right c M
  obtain ⟨x, hx⟩ := h1
  obtain ⟨y, hy⟩ := h2
  by_cases h0 : Nat.gcd c M = 0
  · have : c = 0 := by rw [hx, h0, Nat.zero_mul]
    have hM : M = 0 := by rw [hy, h0, Nat.zero_mul]
    simp [this, hM]
  · have e1 : c / Nat.gcd c M = x := Nat.div_eq_of_eq_mul_right (Nat.pos_of_ne_zero h0) hx
    have e2 : M / Nat.gcd c M = y := Nat.div_eq_of_eq_mul_right (Nat.pos_of_ne_zero h0) hy
    rw [e1, e2]
    have : x * M = c * y := by
      generalize Nat.gcd c M = g at *
      rw [hx, hy, Nat.mul_left_comm, Nat.mul_assoc]
    exact_mod_cast this
theorem cross {M c1 c2 cb ce x1 y1 x2 y2 xb yb xe ye : Int} (hM : M ≠ 0) (hc : cb + ce = c1 + c2) (h1 : x1 * M = c1 * y1) (h2 : x2 * M = c2 * y2) (hb : xb * M = cb * yb) (he : xe * M = ce * ye) :
    (xb * ye + xe * yb) * y1 * y2 = (x1 * y2 + x2 * y1) * yb * ye := by
  apply Int.eq_of_mul_eq_mul_left hM
  grind
/-! ### the law -/
theorem comp_good (h : OOk rels N RL Rl) {d : Nat} {s : Sn} (hs : Wf rels [] d s) {n : Nat} {env : Env} {L : List Cell} (hd : d ≤ 10)
    (h3 : ∀ x, slot ((wipe env [15]).set 15 (some (.val x))) 3 = vs (.int N)) (h7 : ∀ x, slot ((wipe env [15]).set 15 (some (.val x))) 7 = vs s.toD) (h15 : ∀ x, slot ((wipe env [15]).set 15 (some (.val x))) 15 = vs x) :
    kComp (G0 (n + d + 1)) [15] (.var 15) (.v 15) (.some (.call 27 (.cons (.tup (.cons (.var 3) (.cons (.var 15) .nil))) (.cons (.var 7) (.cons (.fr (.dct .nil .nil)) .nil))))) env (.ok (RL.map (KD rels)) L) = .ok (.olst ((RL.filter fun rows => sat (Rl rows) N s fun _ => 0).map (KD rels))) L := by
  have : ∀ RL' : List (List D), (∀ rows ∈ RL', rows ∈ RL) → compL (.v 15) (evB (G0 (n + d + 1)) (.some (.call 27 (.cons (.tup (.cons (.var 3) (.cons (.var 15) .nil))) (.cons (.var 7) (.cons (.fr (.dct .nil .nil)) .nil)))))) (ev (G0 (n + d + 1)) (.var 15)) (wipe env [15]) (RL'.map (KD rels)) L = .ok ((RL'.filter fun rows => sat (Rl rows) N s fun _ => 0).map (KD rels)) L := by
    intro RL'
    induction RL' with
    | nil => intro _; rfl
    | cons rows RL' ih =>
      intro hm
      have h2 := ih fun y m => hm y (List.mem_cons_of_mem _ m)
      have hh := holds_ok h.sm (h.kok rows (hm rows List.mem_cons_self)) (fun _ => rfl) h.r3 hs (n := n) (ro := false) (ks := []) (ws := []) (ρ := fun _ => 0) (L := L) EnvOk.nil (by simp; omega)
      have hb : evB (G0 (n + d + 1)) (.some (.call 27 (.cons (.tup (.cons (.var 3) (.cons (.var 15) .nil))) (.cons (.var 7) (.cons (.fr (.dct .nil .nil)) .nil))))) ((wipe env [15]).set 15 (some (.val (KD rels rows)))) L = .ok (sat (Rl rows) N s fun _ => 0) L :=
        evB_some (by simp only [ev_var, ev_non, ev_bl, ev_int, ev_str, ev_glob, evO_e, evO_pk, ev_tup, ev_fr, kFrz_ok, ev_op, kOp1_ok, kOp2_ok, ev_cmp, kCmp1_ok, kCmp2_ok, ev_not, kNot_ok, ev_and, kAnd_bl, ev_or, kOr_bl, ev_ite, kIte_ok, kIteB_t, kIteB_f, ev_ix, kIx1_ok, kIx2_ok, ev_isi, kIsi_ok, ev_bi, kBi_ok, ev_call, kCall_ok, ev_callP, kCallP_ok, ev_meth, kMeth1_ins, kMeth2_ok, ev_make, kMake_ok, kIns_ok, ev_fld, kFld_ins, evs_nil, evs_cons, kCons1_ok, kCons2_ok, evOs_nil, evOs_cons, kConsO1_ok, evF_lst, evF_dct0, evF_bi, evF_comp, evI_seq, evI_rng, kSeq_tup, kSeq_lst, opt_some, exs_nil, exs_cons, kSeqS_next, kSeqS_ret, kSeqS_exc, ex_set, kSet_v, ex_setF, kSetF_ok, ex_ite, kIteS_ok, kIteSB_t, kIteSB_f, ex_ret, kRet_ok, ex_expr, kExpr_ok, ex_loop, kLoop_ok, ex_while, fin_ret, fin_next, fin_exc, seen_tup, seen_lst, seen_str, seen_int, seen_bl, seen_non, seen_dct, seen_ins, truth_bl, slot0, slotS, rdV_val, rdP_some, List.set_cons_zero, List.set_cons_succ, frz, Option.map_some, if_true, Bool.not_true, Bool.not_false, Bool.false_eq_true, if_false, ite_true, ite_false, es_dput, sDput_ok, es_dupd, sDupd_ok, es_app, sApp_ok, es_frz, sFrz_v, sFrz_l, sFrz_d, es_aug, sAug_ok, kAug_add, kDput1_ok, kApp_ok, ev_sl1, ev_slm, kSl_ok, ev_chain, kChain1_ok, kChain3_ok, evF_dcomp, evF_comp2, kSet2, kSet3, cmp_lt_int, cmp_le_int, cmp_gt_int, cmp_ge_int, ev_neg_int, cmp_in2, cmp_in2l, cmp_in3, cmp_eq_str, cmp_ne_str, cmp_eq_int, cmp_ne_int, ixT0, ixT1, ixT2, ixT3, List.getElem?_cons_succ, List.getElem?_cons_zero, Int.cast_ofNat_Int, Nat.zero_add, Nat.reduceAdd, Int.reduceBEq, Int.natCast_one, ex_rput, sRo_f, kRput1_ok, kRput2_ok, kRput3_1, kRput3_2, kRput3_3, seen_ref0, ixL0, ixL1, ixL2, ixL3, Int.reduceLT, Int.reduceLE, decide_true, decide_false, isi_tupT, isi_intI, isi_intB, isi_intT, isi_intL, isi_intS, isi_tupL, lf_int, lf_intI, lf_lenT, lf_lenL, lf_tupL, op_addI, op_subI, kTup0, kTup1, kTup2, kTup3, kTup4, kTup5, kLst0, kLst1, kLst2, kLst3, kLst4, kLst5, beqf, List.length_cons, List.length_nil, reduceCtorEq, List.cons.injEq, Nat.reduceEqDiff, and_false, false_and, and_true, true_and, and_self, Bool.and_self, Bool.or_false, Bool.false_or, Bool.true_or, Bool.or_true, beq_self_eq_true, ne_eq, not_false_eq_true, h3, h7, h15, hh])
      have he : ev (G0 (n + d + 1)) (.var 15) ((wipe env [15]).set 15 (some (.val (KD rels rows)))) L = .ok (KD rels rows) L := by rw [ev_var, h15]; rfl
      show (evB (G0 (n + d + 1)) _ ((wipe env [15]).set 15 (some (.val (KD rels rows)))) L).bind _ = _
      rw [hb]
      cases hp : sat (Rl rows) N s fun _ => 0 with
      | false => rw [List.filter_cons_of_neg (p := fun rows => sat (Rl rows) N s fun _ => 0) (by simp [hp])]; exact h2
      | true =>
        rw [List.filter_cons_of_pos (p := fun rows => sat (Rl rows) N s fun _ => 0) hp]
        show (ev (G0 (n + d + 1)) (.var 15) ((wipe env [15]).set 15 (some (.val (KD rels rows)))) L).bind _ = _
        rw [he]
        show (compL _ _ _ _ (RL'.map (KD rels)) L).bind _ = _
        rw [h2]
        rfl
  show (nox (compL _ _ _ _ _ _)).bind _ = _
  rw [this RL fun _ m => m]
  have h1 := List.length_filter_le (fun rows => sat (Rl rows) N s fun _ => 0) RL
  have h2 := h.len1
  show sized _ _ _ = _
  unfold sized
  rw [if_pos (by unfold line; simp only [List.length_map]; omega)]
end k73s

set_option linter.all false
set_option maxRecDepth 100000
namespace k73s
open Wa
open k73 (tab lawNo f_1 f_2 f_3 f_4 f_5 f_6 f_7 f_8 f_9 f_10 f_11 f_12 f_13 f_14 f_15 f_16 f_17 f_18 f_19 f_20 f_21 f_22 f_23 f_24 f_25 f_26 f_27 f_28 f_29 f_30 f_31 f_32)
variable {rels : List (Txt × Nat)} {N : Nat} {RL : List (List D)} {Rl : List D → Txt → List Int → Bool}
theorem mulN {a : Int} {b : Nat} (h : b < 1000) : opD .mul (.int a) (.int (b : Nat)) = some (.int (a * (b : Nat))) := op_mul (by constructor <;> omega)
theorem divle {b g : Nat} (h : b < 1000) : b / g < 1000 := Nat.lt_of_le_of_lt (Nat.div_le_self _ _) h
theorem ixlow0 {a b : Nat} {L : List Cell} : ixD (seen (low a b) L) (.int 0) = some (.int (a / Nat.gcd a b : Nat)) := rfl
theorem ixlow1 {a b : Nat} {L : List Cell} : ixD (seen (low a b) L) (.int 1) = some (.int (b / Nat.gcd a b : Nat)) := rfl
def stm : Nat → CSs → CS
  | 0, .cons s _ => s
  | n + 1, .cons _ ss => stm n ss
  | _, .nil => .pass
abbrev eL (rels : List (Txt × Nat)) (N : Nat) (RL : List (List D)) (sc : D) (x6 x7 x8 x9 x10 x11 x12 x13 x14 x15 : Option S) : Env :=
  [vs sc, vs (.ref 0), vs (relD rels), vs (.int N), vs (SH rels), vs (.lst (RL.map (KD rels))), x6, x7, x8, x9, x10, x11, x12, x13, x14, x15]
theorem turn_ok (h : OOk rels N RL Rl) {sc : D} {x6 x7 x8 x9 x10 x11 x12 x13 x14 x15 : Option S} {L : List Cell} (hL : DrOk L) :
    ∃ y7 y8 y9 y10 y11 y12 y13 L2, bodyF (G0 29) (loopB f_32.body) (eL rels N RL sc x6 x7 x8 x9 x10 x11 x12 x13 x14 x15) L = .ok .next (eL rels N RL sc x6 y7 y8 y9 y10 y11 y12 y13 x14 x15) L2 ∧ DrOk L2 := by
  obtain ⟨s, L1, e1, hL1, w1⟩ := sent_ok (rels := rels) h.r0 h.r1 h.r3 4 [] 23 (by simp) L hL
  obtain ⟨t, L2, e2, hL2, w2⟩ := sent_ok (rels := rels) h.r0 h.r1 h.r3 3 [] 24 (by simp) L1 hL1
  have e1' : callN tab 1000 29 false 28 [.ref 0, relD rels, .lst [], .int 4] L = .ok s.toD L1 := e1
  have e2' : callN tab 1000 29 false 28 [.ref 0, relD rels, .lst [], .int 3] L1 = .ok t.toD L2 := e2
  have w2' := w2.up (e := 4) (by omega)
  have c1 : callN tab 1000 29 false 19 [SH rels, s.toD, .int N] L2 = .ok (low (cntS RL Rl N s) RL.length) L2 := chance_ok h w1 (by omega) (n := 20)
  have c2 : callN tab 1000 29 false 19 [SH rels, t.toD, .int N] L2 = .ok (low (cntS RL Rl N t) RL.length) L2 := chance_ok h w2' (by omega) (n := 20)
  have cn : callN tab 1000 29 false 19 [SH rels, .tup [.str [110, 111, 116], s.toD], .int N] L2 = .ok (low (cntS RL Rl N (.not s)) RL.length) L2 := chance_ok h (.not w1) (by omega) (n := 19)
  have ca : callN tab 1000 29 false 19 [SH rels, .tup [.str [97, 110, 100], s.toD, t.toD], .int N] L2 = .ok (low (cntS RL Rl N (.and s t)) RL.length) L2 := chance_ok h (.and w1 w2') (by omega) (n := 19)
  have co : callN tab 1000 29 false 19 [SH rels, .tup [.str [111, 114], s.toD, t.toD], .int N] L2 = .ok (low (cntS RL Rl N (.or s t)) RL.length) L2 := chance_ok h (.or w1 w2') (by omega) (n := 19)
  have l1 : callN tab 1000 29 false 29 [.int (cntS RL Rl N s : Nat), .int (RL.length : Nat)] L2 = .ok (low (cntS RL Rl N s) RL.length) L2 := low_ok (n := 28) h.len0 h.len1
  have hsub : ((RL.length : Nat) : Int) - ((cntS RL Rl N s : Nat) : Int) = ((cntS RL Rl N (.not s) : Nat) : Int) := by
    have := cnt_le' (RL := RL) (Rl := Rl) (N := N) s
    rw [cnt_not]; omega
  have l2 : callN tab 1000 29 false 29 [.int (cntS RL Rl N (.not s) : Nat), .int (RL.length : Nat)] L2 = .ok (low (cntS RL Rl N (.not s)) RL.length) L2 := low_ok (n := 28) h.len0 h.len1
  have sm : ∀ a b : Nat, callN tab 1000 29 false 23 [low a b, low a b] L2 = .ok (.bl true) L2 := fun a b => same_low (n := 27)
  have hg := comp_good h w1 (n := 24) (L := L2) (by omega) (env := eL rels N RL sc x6 (vs s.toD) (vs t.toD) x9 x10 x11 x12 x13 x14 x15) (fun _ => rfl) (fun _ => rfl) (fun _ => rfl)
  have hlen : ((RL.filter fun rows => sat (Rl rows) N s fun _ => 0).map (KD rels)).length = cntS RL Rl N s := by rw [List.length_map, cntS, List.countP_eq_length_filter]
  have hM : ((RL.length : Nat) : Int) ≠ 0 := by have := h.len0; omega
  have hx := cross (M := (RL.length : Nat)) hM (c1 := (cntS RL Rl N s : Nat)) (c2 := (cntS RL Rl N t : Nat)) (cb := (cntS RL Rl N (.and s t) : Nat)) (ce := (cntS RL Rl N (.or s t) : Nat)) (by have := cnt_two (RL := RL) (Rl := Rl) (N := N) s t; omega) low_cross low_cross low_cross low_cross
  have hmul : ∀ (a : Int) (g : Nat), opD .mul (.int a) (.int (RL.length / g : Nat)) = some (.int (a * (RL.length / g : Nat))) := fun a g => mulN (divle h.len1)
  refine ⟨vs s.toD, vs t.toD, vs (.int (cntS RL Rl N s : Nat)), vs (low (cntS RL Rl N s) RL.length), vs (low (cntS RL Rl N (.and s t)) RL.length), vs (low (cntS RL Rl N (.or s t)) RL.length), vs (low (cntS RL Rl N t) RL.length), L2, ?_, hL2⟩
  rw [bodyF_eq]
  simp only [eL, f_32, loopB, ev_var, ev_non, ev_bl, ev_int, ev_str, ev_glob, evO_e, evO_pk, ev_tup, ev_fr, kFrz_ok, ev_op, kOp1_ok, kOp2_ok, ev_cmp, kCmp1_ok, kCmp2_ok, ev_not, kNot_ok, ev_and, kAnd_bl, ev_or, kOr_bl, ev_ite, kIte_ok, kIteB_t, kIteB_f, ev_ix, kIx1_ok, kIx2_ok, ev_isi, kIsi_ok, ev_bi, kBi_ok, ev_call, kCall_ok, ev_callP, kCallP_ok, ev_meth, kMeth1_ins, kMeth2_ok, ev_make, kMake_ok, kIns_ok, ev_fld, kFld_ins, evs_nil, evs_cons, kCons1_ok, kCons2_ok, evOs_nil, evOs_cons, kConsO1_ok, evF_lst, evF_dct0, evF_bi, evF_comp, evI_seq, evI_rng, kSeq_tup, kSeq_lst, opt_some, exs_nil, exs_cons, kSeqS_next, kSeqS_ret, kSeqS_exc, ex_set, kSet_v, ex_setF, kSetF_ok, ex_ite, kIteS_ok, kIteSB_t, kIteSB_f, ex_ret, kRet_ok, ex_expr, kExpr_ok, ex_loop, kLoop_ok, ex_while, fin_ret, fin_next, fin_exc, seen_tup, seen_lst, seen_str, seen_int, seen_bl, seen_non, seen_dct, seen_ins, truth_bl, slot0, slotS, rdV_val, rdP_some, List.set_cons_zero, List.set_cons_succ, frz, Option.map_some, if_true, Bool.not_true, Bool.not_false, Bool.false_eq_true, if_false, ite_true, ite_false, es_dput, sDput_ok, es_dupd, sDupd_ok, es_app, sApp_ok, es_frz, sFrz_v, sFrz_l, sFrz_d, es_aug, sAug_ok, kAug_add, kDput1_ok, kApp_ok, ev_sl1, ev_slm, kSl_ok, ev_chain, kChain1_ok, kChain3_ok, evF_dcomp, evF_comp2, kSet2, kSet3, cmp_lt_int, cmp_le_int, cmp_gt_int, cmp_ge_int, ev_neg_int, cmp_in2, cmp_in2l, cmp_in3, cmp_eq_str, cmp_ne_str, cmp_eq_int, cmp_ne_int, ixT0, ixT1, ixT2, ixT3, List.getElem?_cons_succ, List.getElem?_cons_zero, Int.cast_ofNat_Int, Nat.zero_add, Nat.reduceAdd, Int.reduceBEq, Int.natCast_one, ex_rput, sRo_f, kRput1_ok, kRput2_ok, kRput3_1, kRput3_2, kRput3_3, seen_ref0, ixL0, ixL1, ixL2, ixL3, Int.reduceLT, Int.reduceLE, decide_true, decide_false, isi_tupT, isi_intI, isi_intB, isi_intT, isi_intL, isi_intS, isi_tupL, lf_int, lf_intI, lf_lenT, lf_lenL, lf_tupL, op_addI, op_subI, kTup0, kTup1, kTup2, kTup3, kTup4, kTup5, kLst0, kLst1, kLst2, kLst3, kLst4, kLst5, beqf, List.length_cons, List.length_nil, reduceCtorEq, List.cons.injEq, Nat.reduceEqDiff, and_false, false_and, and_true, true_and, and_self, Bool.and_self, Bool.or_false, Bool.false_or, Bool.true_or, Bool.or_true, beq_self_eq_true, ne_eq, not_false_eq_true, e1', e2']
  simp only [eL] at hg
  simp only [hg, ev_var, ev_non, ev_bl, ev_int, ev_str, ev_glob, evO_e, evO_pk, ev_tup, ev_fr, kFrz_ok, ev_op, kOp1_ok, kOp2_ok, ev_cmp, kCmp1_ok, kCmp2_ok, ev_not, kNot_ok, ev_and, kAnd_bl, ev_or, kOr_bl, ev_ite, kIte_ok, kIteB_t, kIteB_f, ev_ix, kIx1_ok, kIx2_ok, ev_isi, kIsi_ok, ev_bi, kBi_ok, ev_call, kCall_ok, ev_callP, kCallP_ok, ev_meth, kMeth1_ins, kMeth2_ok, ev_make, kMake_ok, kIns_ok, ev_fld, kFld_ins, evs_nil, evs_cons, kCons1_ok, kCons2_ok, evOs_nil, evOs_cons, kConsO1_ok, evF_lst, evF_dct0, evF_bi, evF_comp, evI_seq, evI_rng, kSeq_tup, kSeq_lst, opt_some, exs_nil, exs_cons, kSeqS_next, kSeqS_ret, kSeqS_exc, ex_set, kSet_v, ex_setF, kSetF_ok, ex_ite, kIteS_ok, kIteSB_t, kIteSB_f, ex_ret, kRet_ok, ex_expr, kExpr_ok, ex_loop, kLoop_ok, ex_while, fin_ret, fin_next, fin_exc, seen_tup, seen_lst, seen_str, seen_int, seen_bl, seen_non, seen_dct, seen_ins, truth_bl, slot0, slotS, rdV_val, rdP_some, List.set_cons_zero, List.set_cons_succ, frz, Option.map_some, if_true, Bool.not_true, Bool.not_false, Bool.false_eq_true, if_false, ite_true, ite_false, es_dput, sDput_ok, es_dupd, sDupd_ok, es_app, sApp_ok, es_frz, sFrz_v, sFrz_l, sFrz_d, es_aug, sAug_ok, kAug_add, kDput1_ok, kApp_ok, ev_sl1, ev_slm, kSl_ok, ev_chain, kChain1_ok, kChain3_ok, evF_dcomp, evF_comp2, kSet2, kSet3, cmp_lt_int, cmp_le_int, cmp_gt_int, cmp_ge_int, ev_neg_int, cmp_in2, cmp_in2l, cmp_in3, cmp_eq_str, cmp_ne_str, cmp_eq_int, cmp_ne_int, ixT0, ixT1, ixT2, ixT3, List.getElem?_cons_succ, List.getElem?_cons_zero, Int.cast_ofNat_Int, Nat.zero_add, Nat.reduceAdd, Int.reduceBEq, Int.natCast_one, ex_rput, sRo_f, kRput1_ok, kRput2_ok, kRput3_1, kRput3_2, kRput3_3, seen_ref0, ixL0, ixL1, ixL2, ixL3, Int.reduceLT, Int.reduceLE, decide_true, decide_false, isi_tupT, isi_intI, isi_intB, isi_intT, isi_intL, isi_intS, isi_tupL, lf_int, lf_intI, lf_lenT, lf_lenL, lf_tupL, op_addI, op_subI, kTup0, kTup1, kTup2, kTup3, kTup4, kTup5, kLst0, kLst1, kLst2, kLst3, kLst4, kLst5, beqf, List.length_cons, List.length_nil, reduceCtorEq, List.cons.injEq, Nat.reduceEqDiff, and_false, false_and, and_true, true_and, and_self, Bool.and_self, Bool.or_false, Bool.false_or, Bool.true_or, Bool.or_true, beq_self_eq_true, ne_eq, not_false_eq_true, hlen, List.length_map, c1, c2, cn, ca, co, l1, hsub, l2, sm]
  simp only [ixlow0, ixlow1, ev_var, ev_non, ev_bl, ev_int, ev_str, ev_glob, evO_e, evO_pk, ev_tup, ev_fr, kFrz_ok, ev_op, kOp1_ok, kOp2_ok, ev_cmp, kCmp1_ok, kCmp2_ok, ev_not, kNot_ok, ev_and, kAnd_bl, ev_or, kOr_bl, ev_ite, kIte_ok, kIteB_t, kIteB_f, ev_ix, kIx1_ok, kIx2_ok, ev_isi, kIsi_ok, ev_bi, kBi_ok, ev_call, kCall_ok, ev_callP, kCallP_ok, ev_meth, kMeth1_ins, kMeth2_ok, ev_make, kMake_ok, kIns_ok, ev_fld, kFld_ins, evs_nil, evs_cons, kCons1_ok, kCons2_ok, evOs_nil, evOs_cons, kConsO1_ok, evF_lst, evF_dct0, evF_bi, evF_comp, evI_seq, evI_rng, kSeq_tup, kSeq_lst, opt_some, exs_nil, exs_cons, kSeqS_next, kSeqS_ret, kSeqS_exc, ex_set, kSet_v, ex_setF, kSetF_ok, ex_ite, kIteS_ok, kIteSB_t, kIteSB_f, ex_ret, kRet_ok, ex_expr, kExpr_ok, ex_loop, kLoop_ok, ex_while, fin_ret, fin_next, fin_exc, seen_tup, seen_lst, seen_str, seen_int, seen_bl, seen_non, seen_dct, seen_ins, truth_bl, slot0, slotS, rdV_val, rdP_some, List.set_cons_zero, List.set_cons_succ, frz, Option.map_some, if_true, Bool.not_true, Bool.not_false, Bool.false_eq_true, if_false, ite_true, ite_false, es_dput, sDput_ok, es_dupd, sDupd_ok, es_app, sApp_ok, es_frz, sFrz_v, sFrz_l, sFrz_d, es_aug, sAug_ok, kAug_add, kDput1_ok, kApp_ok, ev_sl1, ev_slm, kSl_ok, ev_chain, kChain1_ok, kChain3_ok, evF_dcomp, evF_comp2, kSet2, kSet3, cmp_lt_int, cmp_le_int, cmp_gt_int, cmp_ge_int, ev_neg_int, cmp_in2, cmp_in2l, cmp_in3, cmp_eq_str, cmp_ne_str, cmp_eq_int, cmp_ne_int, ixT0, ixT1, ixT2, ixT3, List.getElem?_cons_succ, List.getElem?_cons_zero, Int.cast_ofNat_Int, Nat.zero_add, Nat.reduceAdd, Int.reduceBEq, Int.natCast_one, ex_rput, sRo_f, kRput1_ok, kRput2_ok, kRput3_1, kRput3_2, kRput3_3, seen_ref0, ixL0, ixL1, ixL2, ixL3, Int.reduceLT, Int.reduceLE, decide_true, decide_false, isi_tupT, isi_intI, isi_intB, isi_intT, isi_intL, isi_intS, isi_tupL, lf_int, lf_intI, lf_lenT, lf_lenL, lf_tupL, op_addI, op_subI, kTup0, kTup1, kTup2, kTup3, kTup4, kTup5, kLst0, kLst1, kLst2, kLst3, kLst4, kLst5, beqf, List.length_cons, List.length_nil, reduceCtorEq, List.cons.injEq, Nat.reduceEqDiff, and_false, false_and, and_true, true_and, and_self, Bool.and_self, Bool.or_false, Bool.false_or, Bool.true_or, Bool.or_true, beq_self_eq_true, ne_eq, not_false_eq_true, hmul, hx]
/-- the law, a shape being drawn -/
theorem law_shape (h : OOk rels N RL Rl) {sc : D} {L : List Cell} (hL : DrOk L)
    (htail : ∀ (x6 x7 x8 x9 x10 x11 x12 x13 x14 x15 : Option S) (L : List Cell), finR (exs (G0 29) (dropS 5 f_32.body) (eL rels N RL sc x6 x7 x8 x9 x10 x11 x12 x13 x14 x15) L) = .ok (.bl true) L) :
    ∃ L', finR (exs (G0 29) (dropS 4 f_32.body) (eL rels N RL sc none none none none none none none none none none) L) = .ok (.bl true) L' := by
  have e : exs (G0 29) (dropS 4 f_32.body) (eL rels N RL sc none none none none none none none none none none) L = kSeqS (G0 29) (dropS 5 f_32.body) (loopS (.v 6) (bodyF (G0 29) (loopB f_32.body)) [.int 0, .int 1] (eL rels N RL sc none none none none none none none none none none) L) := by
    show exs (G0 29) (.cons (.loop (.v 6) (.rng (.cons (.e (.int 2)) .nil)) (loopB f_32.body)) (dropS 5 f_32.body)) _ _ = _
    rw [exs_cons, ex_loop]
    rfl
  rw [e]
  refine fin_loopM (I := fun env L => DrOk L ∧ ∃ x6 x7 x8 x9 x10 x11 x12 x13 x14 x15, env = eL rels N RL sc x6 x7 x8 x9 x10 x11 x12 x13 x14 x15) (P := fun r => ∃ L', r = .ok (.bl true) L') ⟨hL, _, _, _, _, _, _, _, _, _, _, rfl⟩ ?_ ?_
  · rintro x _ env L ⟨hL, x6, x7, x8, x9, x10, x11, x12, x13, x14, x15, rfl⟩
    obtain ⟨y7, y8, y9, y10, y11, y12, y13, L2, e2, h2⟩ := turn_ok h (sc := sc) (x6 := vs x) (x7 := x7) (x8 := x8) (x9 := x9) (x10 := x10) (x11 := x11) (x12 := x12) (x13 := x13) (x14 := x14) (x15 := x15) hL
    exact ⟨_, rfl, _, _, e2, h2, _, _, _, _, _, _, _, _, _, _, rfl⟩
  · rintro env L ⟨hL, x6, x7, x8, x9, x10, x11, x12, x13, x14, x15, rfl⟩
    exact ⟨L, htail _ _ _ _ _ _ _ _ _ _ L⟩
/-- up to the loop -/
theorem law_head {k : Nat} {sc : D} {L0 L1 L : List Cell} (h21 : callN tab 1000 29 false 21 [sc] L0 = .ok (.ref 0) L1) (h22 : callN tab 1000 29 false 22 [.ref 0, .int 5] L1 = .ok (.int k) L)
    (hi : ixD (.lst [.tup [.tup [.tup [.str [101], .int 2]], .int 2], .tup [.tup [.tup [.str [101], .int 2], .tup [.str [117], .int 1]], .int 2], .tup [.tup [.tup [.str [117], .int 1], .tup [.str [118], .int 1]], .int 3], .tup [.tup [.tup [.str [117], .int 1]], .int 5], .tup [.tup [.tup [.str [116], .int 3]], .int 2]]) (.int k) = some (.tup [relD rels, .int N]))
    (hs : initP tab 1000 29 false 5 [relD rels] L = .ok [relD rels] L) (hw : callN tab 1000 29 false 30 [relD rels, .int N] L = .ok (.lst (RL.map (KD rels))) L) :
    callN tab 1000 30 false 32 [sc] L0 = finR (exs (G0 29) (dropS 4 f_32.body) (eL rels N RL sc none none none none none none none none none none) L) := by
  rw [call_succ (n := 29) (fn := f_32) rfl, run_eq (env := [vs sc, none, none, none, none, none, none, none, none, none, none, none, none, none, none, none]) rfl]
  show finR (exs (G0 29) (.cons (stm 0 f_32.body) (.cons (stm 1 f_32.body) (.cons (stm 2 f_32.body) (.cons (stm 3 f_32.body) (dropS 4 f_32.body))))) _ _) = _
  have s0 : ex (G0 29) (stm 0 f_32.body) [vs sc, none, none, none, none, none, none, none, none, none, none, none, none, none, none, none] L0 = .ok .next [vs sc, vs (.ref 0), none, none, none, none, none, none, none, none, none, none, none, none, none, none] L1 := by
    simp only [f_32, stm, ev_var, ev_non, ev_bl, ev_int, ev_str, ev_glob, evO_e, evO_pk, ev_tup, ev_fr, kFrz_ok, ev_op, kOp1_ok, kOp2_ok, ev_cmp, kCmp1_ok, kCmp2_ok, ev_not, kNot_ok, ev_and, kAnd_bl, ev_or, kOr_bl, ev_ite, kIte_ok, kIteB_t, kIteB_f, ev_ix, kIx1_ok, kIx2_ok, ev_isi, kIsi_ok, ev_bi, kBi_ok, ev_call, kCall_ok, ev_callP, kCallP_ok, ev_meth, kMeth1_ins, kMeth2_ok, ev_make, kMake_ok, kIns_ok, ev_fld, kFld_ins, evs_nil, evs_cons, kCons1_ok, kCons2_ok, evOs_nil, evOs_cons, kConsO1_ok, evF_lst, evF_dct0, evF_bi, evF_comp, evI_seq, evI_rng, kSeq_tup, kSeq_lst, opt_some, exs_nil, exs_cons, kSeqS_next, kSeqS_ret, kSeqS_exc, ex_set, kSet_v, ex_setF, kSetF_ok, ex_ite, kIteS_ok, kIteSB_t, kIteSB_f, ex_ret, kRet_ok, ex_expr, kExpr_ok, ex_loop, kLoop_ok, ex_while, fin_ret, fin_next, fin_exc, seen_tup, seen_lst, seen_str, seen_int, seen_bl, seen_non, seen_dct, seen_ins, truth_bl, slot0, slotS, rdV_val, rdP_some, List.set_cons_zero, List.set_cons_succ, frz, Option.map_some, if_true, Bool.not_true, Bool.not_false, Bool.false_eq_true, if_false, ite_true, ite_false, es_dput, sDput_ok, es_dupd, sDupd_ok, es_app, sApp_ok, es_frz, sFrz_v, sFrz_l, sFrz_d, es_aug, sAug_ok, kAug_add, kDput1_ok, kApp_ok, ev_sl1, ev_slm, kSl_ok, ev_chain, kChain1_ok, kChain3_ok, evF_dcomp, evF_comp2, kSet2, kSet3, cmp_lt_int, cmp_le_int, cmp_gt_int, cmp_ge_int, ev_neg_int, cmp_in2, cmp_in2l, cmp_in3, cmp_eq_str, cmp_ne_str, cmp_eq_int, cmp_ne_int, ixT0, ixT1, ixT2, ixT3, List.getElem?_cons_succ, List.getElem?_cons_zero, Int.cast_ofNat_Int, Nat.zero_add, Nat.reduceAdd, Int.reduceBEq, Int.natCast_one, ex_rput, sRo_f, kRput1_ok, kRput2_ok, kRput3_1, kRput3_2, kRput3_3, seen_ref0, ixL0, ixL1, ixL2, ixL3, Int.reduceLT, Int.reduceLE, decide_true, decide_false, isi_tupT, isi_intI, isi_intB, isi_intT, isi_intL, isi_intS, isi_tupL, lf_int, lf_intI, lf_lenT, lf_lenL, lf_tupL, op_addI, op_subI, kTup0, kTup1, kTup2, kTup3, kTup4, kTup5, kLst0, kLst1, kLst2, kLst3, kLst4, kLst5, beqf, List.length_cons, List.length_nil, reduceCtorEq, List.cons.injEq, Nat.reduceEqDiff, and_false, false_and, and_true, true_and, and_self, Bool.and_self, Bool.or_false, Bool.false_or, Bool.true_or, Bool.or_true, beq_self_eq_true, ne_eq, not_false_eq_true, h21]
  have s1 : ex (G0 29) (stm 1 f_32.body) [vs sc, vs (.ref 0), none, none, none, none, none, none, none, none, none, none, none, none, none, none] L1 = .ok .next [vs sc, vs (.ref 0), vs (relD rels), vs (.int N), none, none, none, none, none, none, none, none, none, none, none, none] L := by
    simp only [f_32, stm, ev_var, ev_non, ev_bl, ev_int, ev_str, ev_glob, evO_e, evO_pk, ev_tup, ev_fr, kFrz_ok, ev_op, kOp1_ok, kOp2_ok, ev_cmp, kCmp1_ok, kCmp2_ok, ev_not, kNot_ok, ev_and, kAnd_bl, ev_or, kOr_bl, ev_ite, kIte_ok, kIteB_t, kIteB_f, ev_ix, kIx1_ok, kIx2_ok, ev_isi, kIsi_ok, ev_bi, kBi_ok, ev_call, kCall_ok, ev_callP, kCallP_ok, ev_meth, kMeth1_ins, kMeth2_ok, ev_make, kMake_ok, kIns_ok, ev_fld, kFld_ins, evs_nil, evs_cons, kCons1_ok, kCons2_ok, evOs_nil, evOs_cons, kConsO1_ok, evF_lst, evF_dct0, evF_bi, evF_comp, evI_seq, evI_rng, kSeq_tup, kSeq_lst, opt_some, exs_nil, exs_cons, kSeqS_next, kSeqS_ret, kSeqS_exc, ex_set, kSet_v, ex_setF, kSetF_ok, ex_ite, kIteS_ok, kIteSB_t, kIteSB_f, ex_ret, kRet_ok, ex_expr, kExpr_ok, ex_loop, kLoop_ok, ex_while, fin_ret, fin_next, fin_exc, seen_tup, seen_lst, seen_str, seen_int, seen_bl, seen_non, seen_dct, seen_ins, truth_bl, slot0, slotS, rdV_val, rdP_some, List.set_cons_zero, List.set_cons_succ, frz, Option.map_some, if_true, Bool.not_true, Bool.not_false, Bool.false_eq_true, if_false, ite_true, ite_false, es_dput, sDput_ok, es_dupd, sDupd_ok, es_app, sApp_ok, es_frz, sFrz_v, sFrz_l, sFrz_d, es_aug, sAug_ok, kAug_add, kDput1_ok, kApp_ok, ev_sl1, ev_slm, kSl_ok, ev_chain, kChain1_ok, kChain3_ok, evF_dcomp, evF_comp2, kSet2, kSet3, cmp_lt_int, cmp_le_int, cmp_gt_int, cmp_ge_int, ev_neg_int, cmp_in2, cmp_in2l, cmp_in3, cmp_eq_str, cmp_ne_str, cmp_eq_int, cmp_ne_int, ixT0, ixT1, ixT2, ixT3, List.getElem?_cons_succ, List.getElem?_cons_zero, Int.cast_ofNat_Int, Nat.zero_add, Nat.reduceAdd, Int.reduceBEq, Int.natCast_one, ex_rput, sRo_f, kRput1_ok, kRput2_ok, kRput3_1, kRput3_2, kRput3_3, seen_ref0, ixL0, ixL1, ixL2, ixL3, Int.reduceLT, Int.reduceLE, decide_true, decide_false, isi_tupT, isi_intI, isi_intB, isi_intT, isi_intL, isi_intS, isi_tupL, lf_int, lf_intI, lf_lenT, lf_lenL, lf_tupL, op_addI, op_subI, kTup0, kTup1, kTup2, kTup3, kTup4, kTup5, kLst0, kLst1, kLst2, kLst3, kLst4, kLst5, beqf, List.length_cons, List.length_nil, reduceCtorEq, List.cons.injEq, Nat.reduceEqDiff, and_false, false_and, and_true, true_and, and_self, Bool.and_self, Bool.or_false, Bool.false_or, Bool.true_or, Bool.or_true, beq_self_eq_true, ne_eq, not_false_eq_true, h22, hi]
  have s2 : ex (G0 29) (stm 2 f_32.body) [vs sc, vs (.ref 0), vs (relD rels), vs (.int N), none, none, none, none, none, none, none, none, none, none, none, none] L = .ok .next [vs sc, vs (.ref 0), vs (relD rels), vs (.int N), vs (SH rels), none, none, none, none, none, none, none, none, none, none, none] L := by
    simp only [f_32, stm, ev_var, ev_non, ev_bl, ev_int, ev_str, ev_glob, evO_e, evO_pk, ev_tup, ev_fr, kFrz_ok, ev_op, kOp1_ok, kOp2_ok, ev_cmp, kCmp1_ok, kCmp2_ok, ev_not, kNot_ok, ev_and, kAnd_bl, ev_or, kOr_bl, ev_ite, kIte_ok, kIteB_t, kIteB_f, ev_ix, kIx1_ok, kIx2_ok, ev_isi, kIsi_ok, ev_bi, kBi_ok, ev_call, kCall_ok, ev_callP, kCallP_ok, ev_meth, kMeth1_ins, kMeth2_ok, ev_make, kMake_ok, kIns_ok, ev_fld, kFld_ins, evs_nil, evs_cons, kCons1_ok, kCons2_ok, evOs_nil, evOs_cons, kConsO1_ok, evF_lst, evF_dct0, evF_bi, evF_comp, evI_seq, evI_rng, kSeq_tup, kSeq_lst, opt_some, exs_nil, exs_cons, kSeqS_next, kSeqS_ret, kSeqS_exc, ex_set, kSet_v, ex_setF, kSetF_ok, ex_ite, kIteS_ok, kIteSB_t, kIteSB_f, ex_ret, kRet_ok, ex_expr, kExpr_ok, ex_loop, kLoop_ok, ex_while, fin_ret, fin_next, fin_exc, seen_tup, seen_lst, seen_str, seen_int, seen_bl, seen_non, seen_dct, seen_ins, truth_bl, slot0, slotS, rdV_val, rdP_some, List.set_cons_zero, List.set_cons_succ, frz, Option.map_some, if_true, Bool.not_true, Bool.not_false, Bool.false_eq_true, if_false, ite_true, ite_false, es_dput, sDput_ok, es_dupd, sDupd_ok, es_app, sApp_ok, es_frz, sFrz_v, sFrz_l, sFrz_d, es_aug, sAug_ok, kAug_add, kDput1_ok, kApp_ok, ev_sl1, ev_slm, kSl_ok, ev_chain, kChain1_ok, kChain3_ok, evF_dcomp, evF_comp2, kSet2, kSet3, cmp_lt_int, cmp_le_int, cmp_gt_int, cmp_ge_int, ev_neg_int, cmp_in2, cmp_in2l, cmp_in3, cmp_eq_str, cmp_ne_str, cmp_eq_int, cmp_ne_int, ixT0, ixT1, ixT2, ixT3, List.getElem?_cons_succ, List.getElem?_cons_zero, Int.cast_ofNat_Int, Nat.zero_add, Nat.reduceAdd, Int.reduceBEq, Int.natCast_one, ex_rput, sRo_f, kRput1_ok, kRput2_ok, kRput3_1, kRput3_2, kRput3_3, seen_ref0, ixL0, ixL1, ixL2, ixL3, Int.reduceLT, Int.reduceLE, decide_true, decide_false, isi_tupT, isi_intI, isi_intB, isi_intT, isi_intL, isi_intS, isi_tupL, lf_int, lf_intI, lf_lenT, lf_lenL, lf_tupL, op_addI, op_subI, kTup0, kTup1, kTup2, kTup3, kTup4, kTup5, kLst0, kLst1, kLst2, kLst3, kLst4, kLst5, beqf, List.length_cons, List.length_nil, reduceCtorEq, List.cons.injEq, Nat.reduceEqDiff, and_false, false_and, and_true, true_and, and_self, Bool.and_self, Bool.or_false, Bool.false_or, Bool.true_or, Bool.or_true, beq_self_eq_true, ne_eq, not_false_eq_true, hs, SH]
  have s3 : ex (G0 29) (stm 3 f_32.body) [vs sc, vs (.ref 0), vs (relD rels), vs (.int N), vs (SH rels), none, none, none, none, none, none, none, none, none, none, none] L = .ok .next (eL rels N RL sc none none none none none none none none none none) L := by
    simp only [f_32, stm, ev_var, ev_non, ev_bl, ev_int, ev_str, ev_glob, evO_e, evO_pk, ev_tup, ev_fr, kFrz_ok, ev_op, kOp1_ok, kOp2_ok, ev_cmp, kCmp1_ok, kCmp2_ok, ev_not, kNot_ok, ev_and, kAnd_bl, ev_or, kOr_bl, ev_ite, kIte_ok, kIteB_t, kIteB_f, ev_ix, kIx1_ok, kIx2_ok, ev_isi, kIsi_ok, ev_bi, kBi_ok, ev_call, kCall_ok, ev_callP, kCallP_ok, ev_meth, kMeth1_ins, kMeth2_ok, ev_make, kMake_ok, kIns_ok, ev_fld, kFld_ins, evs_nil, evs_cons, kCons1_ok, kCons2_ok, evOs_nil, evOs_cons, kConsO1_ok, evF_lst, evF_dct0, evF_bi, evF_comp, evI_seq, evI_rng, kSeq_tup, kSeq_lst, opt_some, exs_nil, exs_cons, kSeqS_next, kSeqS_ret, kSeqS_exc, ex_set, kSet_v, ex_setF, kSetF_ok, ex_ite, kIteS_ok, kIteSB_t, kIteSB_f, ex_ret, kRet_ok, ex_expr, kExpr_ok, ex_loop, kLoop_ok, ex_while, fin_ret, fin_next, fin_exc, seen_tup, seen_lst, seen_str, seen_int, seen_bl, seen_non, seen_dct, seen_ins, truth_bl, slot0, slotS, rdV_val, rdP_some, List.set_cons_zero, List.set_cons_succ, frz, Option.map_some, if_true, Bool.not_true, Bool.not_false, Bool.false_eq_true, if_false, ite_true, ite_false, es_dput, sDput_ok, es_dupd, sDupd_ok, es_app, sApp_ok, es_frz, sFrz_v, sFrz_l, sFrz_d, es_aug, sAug_ok, kAug_add, kDput1_ok, kApp_ok, ev_sl1, ev_slm, kSl_ok, ev_chain, kChain1_ok, kChain3_ok, evF_dcomp, evF_comp2, kSet2, kSet3, cmp_lt_int, cmp_le_int, cmp_gt_int, cmp_ge_int, ev_neg_int, cmp_in2, cmp_in2l, cmp_in3, cmp_eq_str, cmp_ne_str, cmp_eq_int, cmp_ne_int, ixT0, ixT1, ixT2, ixT3, List.getElem?_cons_succ, List.getElem?_cons_zero, Int.cast_ofNat_Int, Nat.zero_add, Nat.reduceAdd, Int.reduceBEq, Int.natCast_one, ex_rput, sRo_f, kRput1_ok, kRput2_ok, kRput3_1, kRput3_2, kRput3_3, seen_ref0, ixL0, ixL1, ixL2, ixL3, Int.reduceLT, Int.reduceLE, decide_true, decide_false, isi_tupT, isi_intI, isi_intB, isi_intT, isi_intL, isi_intS, isi_tupL, lf_int, lf_intI, lf_lenT, lf_lenL, lf_tupL, op_addI, op_subI, kTup0, kTup1, kTup2, kTup3, kTup4, kTup5, kLst0, kLst1, kLst2, kLst3, kLst4, kLst5, beqf, List.length_cons, List.length_nil, reduceCtorEq, List.cons.injEq, Nat.reduceEqDiff, and_false, false_and, and_true, true_and, and_self, Bool.and_self, Bool.or_false, Bool.false_or, Bool.true_or, Bool.or_true, beq_self_eq_true, ne_eq, not_false_eq_true, hw, eL]
  rw [exs_cons, s0, kSeqS_next, exs_cons, s1, kSeqS_next, exs_cons, s2, kSeqS_next, exs_cons, s3, kSeqS_next]
theorem tail0 {sc : D} {x6 x7 x8 x9 x10 x11 x12 x13 x14 x15 : Option S} {L : List Cell} : finR (exs (G0 29) (dropS 5 f_32.body) (eL rels0 2 RL0 sc x6 x7 x8 x9 x10 x11 x12 x13 x14 x15) L) = .ok (.bl true) L := by kernel_rfl
theorem tail1 {sc : D} {x6 x7 x8 x9 x10 x11 x12 x13 x14 x15 : Option S} {L : List Cell} : finR (exs (G0 29) (dropS 5 f_32.body) (eL rels1 2 RL1 sc x6 x7 x8 x9 x10 x11 x12 x13 x14 x15) L) = .ok (.bl true) L := by kernel_rfl
theorem tail2 {sc : D} {x6 x7 x8 x9 x10 x11 x12 x13 x14 x15 : Option S} {L : List Cell} : finR (exs (G0 29) (dropS 5 f_32.body) (eL rels2 3 RL2 sc x6 x7 x8 x9 x10 x11 x12 x13 x14 x15) L) = .ok (.bl true) L := by kernel_rfl
theorem tail3 {sc : D} {x6 x7 x8 x9 x10 x11 x12 x13 x14 x15 : Option S} {L : List Cell} : finR (exs (G0 29) (dropS 5 f_32.body) (eL rels3 5 RL3 sc x6 x7 x8 x9 x10 x11 x12 x13 x14 x15) L) = .ok (.bl true) L := by kernel_rfl
theorem tail4 {sc : D} {x6 x7 x8 x9 x10 x11 x12 x13 x14 x15 : Option S} {L : List Cell} : finR (exs (G0 29) (dropS 5 f_32.body) (eL rels4 2 RL4 sc x6 x7 x8 x9 x10 x11 x12 x13 x14 x15) L) = .ok (.bl true) L := by kernel_rfl
theorem lawval : ∀ ns : List Int, ∃ L', callN tab 1000 30 false lawNo [.lst (ns.map D.int)] [] = .ok (.bl true) L' := by
  intro ns
  have h21 : callN tab 1000 29 false 21 [.lst (ns.map iD)] [] = .ok (.ref 0) [.lst [.lst (ns.map iD), .int 0, .int 0, .int 1]] := draws_ok (n := 28)
  obtain ⟨k, L, e, hL, hk⟩ := draw_nat (n := 28) (lim := 5) (L := [.lst [.lst (ns.map iD), .int 0, .int 0, .int 1]]) (by omega) (by omega) ⟨ns, 0, 0, 1, rfl⟩
  have h22 : callN tab 1000 29 false 22 [.ref 0, .int 5] [.lst [.lst (ns.map iD), .int 0, .int 0, .int 1]] = .ok (.int (k : Nat)) L := e
  show ∃ L', callN tab 1000 30 false 32 [.lst (ns.map iD)] [] = .ok (.bl true) L'
  match k, hk with
  | 0, _ =>
    obtain ⟨L', h⟩ := law_shape OOk0 (sc := .lst (ns.map iD)) hL fun _ _ _ _ _ _ _ _ _ _ _ => tail0
    exact ⟨L', by rw [law_head (k := 0) (rels := rels0) (N := 2) (RL := RL0) h21 h22 rfl (shape0 (n := 25)) (worlds0 (n := 26))]; exact h⟩
  | 1, _ =>
    obtain ⟨L', h⟩ := law_shape OOk1 (sc := .lst (ns.map iD)) hL fun _ _ _ _ _ _ _ _ _ _ _ => tail1
    exact ⟨L', by rw [law_head (k := 1) (rels := rels1) (N := 2) (RL := RL1) h21 h22 rfl (shape1 (n := 25)) (worlds1 (n := 26))]; exact h⟩
  | 2, _ =>
    obtain ⟨L', h⟩ := law_shape OOk2 (sc := .lst (ns.map iD)) hL fun _ _ _ _ _ _ _ _ _ _ _ => tail2
    exact ⟨L', by rw [law_head (k := 2) (rels := rels2) (N := 3) (RL := RL2) h21 h22 rfl (shape2 (n := 25)) (worlds2 (n := 26))]; exact h⟩
  | 3, _ =>
    obtain ⟨L', h⟩ := law_shape OOk3 (sc := .lst (ns.map iD)) hL fun _ _ _ _ _ _ _ _ _ _ _ => tail3
    exact ⟨L', by rw [law_head (k := 3) (rels := rels3) (N := 5) (RL := RL3) h21 h22 rfl (shape3 (n := 25)) (worlds3 (n := 26))]; exact h⟩
  | 4, _ =>
    obtain ⟨L', h⟩ := law_shape OOk4 (sc := .lst (ns.map iD)) hL fun _ _ _ _ _ _ _ _ _ _ _ => tail4
    exact ⟨L', by rw [law_head (k := 4) (rels := rels4) (N := 2) (RL := RL4) h21 h22 rfl (shape4 (n := 25)) (worlds4 (n := 26))]; exact h⟩
end k73s
theorem PySem.Challenge.cw_worldsalike_k73_whole_exact_chances_holds : PySem.Challenge.rw_worldsalike_k73_whole_exact_chances.Holds := by
  exact k73.holds_of (d := 30) (turns := 1000) (by decide) (fun ns _ => k73s.lawval ns)
