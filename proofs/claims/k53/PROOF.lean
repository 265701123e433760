import PyProof.Rows.All
import HandS.ForMost
import HandS.Wide
import HandS.WideMore
import HandS.Flow
import HandS.Style
import HandS.TupAny
import HandS.Deep
import HandS.Walk
import HandS.Zip
import HandS.Conv
import HandS.CallLocal
import HandS.SortInts
import KE.SortData
import KE.DataMinMax
import KE.KeyNested
import HandS.SetFor
import HandS.TupMul
import HandS.DictComp
import HandS.SetKeys
import KE.KDictWalk
import KE.KDictSum
import HandS.DictTup
import KE.KDictPairs
import PyProof.Rows.TupDisplay
import PySem.Challenge.RW_machinehall_k53_whole_long_rows_and_many
set_option Elab.async false
set_option linter.all false
set_option maxRecDepth 100000
/-! Z1: deep values, the store, the small language, its evaluator, the checker. -/
namespace Z
open PySem PySem.Spec PyProof.Rows L2

inductive D where
  | non | bl (b : Bool) | int (i : Int) | str (x : Str) | tup (xs : List D)
  /-- a list that nobody writes (the script) -/
  | fz (xs : List D)
  /-- a tuple that an iterator hands out -/
  | wt (xs : List D)
  | ref (n : Nat) | fn (x : Str)
  deriving Inhabited

/-- what stands in the store: a list, a dict with keys that are ints and texts -/
inductive O where
  | lst (xs : List D)
  | dk (kvs : List (Key × D))
  /-- a dict with keys that are tuples of ints, None and such tuples -/
  | dd (kvs : List (D × D))
  deriving Inhabited
abbrev Sto := List O
abbrev Env := List (Option D)
/-- a value, or a list that nothing else holds -/
inductive W where
  | d (x : D)
  | tmp (xs : List D)
  deriving Inhabited

mutual
def D.py : D → PyData
  | .non => .none
  | .bl b => .bool b
  | .int i => .int i
  | .str x => .str x
  | .tup xs => .tuple (D.pys xs)
  | .fz xs => .list (D.pys xs)
  | .wt _ => .dict []
  | .ref _ => .dict []
  | .fn _ => .dict []
def D.pys : List D → List PyData
  | [] => []
  | x :: xs => x.py :: D.pys xs
end
mutual
/-- no mutable thing within -/
def D.pure : D → Bool
  | .tup xs => D.pures xs
  | .fz xs => D.pures xs
  | .ref _ => false
  | .wt _ => false
  | _ => true
def D.pures : List D → Bool
  | [] => true
  | x :: xs => x.pure && D.pures xs
end

mutual
def eqD : D → D → Bool
  | .non, .non => true
  | .bl a, .bl b => decide (a = b)
  | .int a, .int b => decide (a = b)
  | .str a, .str b => decide (a = b)
  | .tup a, .tup b => eqDs a b
  | .fz a, .fz b => eqDs a b
  | .wt a, .wt b => eqDs a b
  | .ref a, .ref b => decide (a = b)
  | .fn a, .fn b => decide (a = b)
  | _, _ => false
def eqDs : List D → List D → Bool
  | [], [] => true
  | a :: as, b :: bs => eqD a b && eqDs as bs
  | _, _ => false
end
/-! keys that are tuples -/
def keyN : Nat → D → Bool
  | _, .int _ => true
  | _, .non => true
  | n + 1, .tup xs => xs.all (keyN n)
  | _, _ => false
def keyT : D → Bool
  | .tup xs => keyN 8 (.tup xs)
  | _ => false
def getDD (kvs : List (D × D)) (k : D) : Option D := (kvs.find? fun kv => eqD kv.1 k).map (·.2)
def putDD (kvs : List (D × D)) (k v : D) : List (D × D) :=
  if (kvs.any fun kv => eqD kv.1 k) = true then kvs.map (fun kv => if eqD kv.1 k = true then (kv.1, v) else kv) else kvs ++ [(k, v)]
/-! order -/
def ltD (x y : D) : Bool := PySem.W.dataLt x.py y.py
def alkD (x y : D) : Bool := PySem.W.alike x.py y.py
/-- may stand in an order: a tuple with an item at least; no tuple, not None -/
def tupNE : D → Bool
  | .tup (_ :: _) => true
  | _ => false
def plnNE : D → Bool
  | .tup _ => false
  | .non => false
  | _ => true
/-- all items are alike for the order -/
def ordOk (xs : List D) : Bool := (xs.all fun x => SeqAt.shaped x.py) && (xs.all fun x => xs.all fun y => alkD x y) && (xs.all tupNE || xs.all plnNE)
def sortD (xs : List D) : List D := xs.mergeSort fun a b => !ltD b a
/-- the first least, the first greatest -/
def minD : List D → D
  | [] => .non
  | a :: r => r.foldl (fun a y => if ltD y a = true then y else a) a
def maxD : List D → D
  | [] => .non
  | a :: r => r.foldl (fun a y => if ltD a y = true then y else a) a
abbrev LN : Nat := 1000000
def big : Nat := 2 ^ 1000
inductive Bop where
  | add | sub | mul | fdiv | mod | pow | shl | shr | band | bor | bxor
  deriving DecidableEq
inductive Cop where
  | lt | le | gt | ge | eq | ne | isN | notN | isB | notB | inn | notin
  deriving DecidableEq

def sm64 (a : Int) : Bool := decide (-(2 ^ 64) < a) && decide (a < 2 ^ 64)
def mulOk (a b : Int) : Bool := sm64 a || sm64 b || (decide (a.natAbs < big) && decide (b.natAbs < big))
def divOk (b : Int) : Bool := decide (0 < b) && decide (b.natAbs < big)
def powOk (a b : Int) : Bool := decide (0 ≤ b) && decide (b ≤ 1000000) && decide (a.natAbs < 2 ^ 64)

def binI : Bop → Int → Int → Option Int
  | .add, a, b => some (a + b)
  | .sub, a, b => some (a - b)
  | .mul, a, b => if mulOk a b then some (a * b) else none
  | .fdiv, a, b => if divOk b then some (a / b) else none
  | .mod, a, b => if decide (0 < b) then some (a % b) else none
  | .pow, a, b => if powOk a b then some (a ^ b.toNat) else none
  | .shl, a, b => if powOk a b then some (a * 2 ^ b.toNat) else none
  | .shr, a, b => if decide (0 ≤ b) then some (a / 2 ^ b.toNat) else none
  | .band, a, b => some (Builtin.bitAnd a b)
  | .bor, a, b => some (Builtin.bitOr a b)
  | .bxor, a, b => some (Builtin.bitXor a b)

/-- the items of a list -/
def lstOf (S : Sto) : W → Option (List D)
  | .tmp xs => some xs
  | .d (.fz xs) => some xs
  | .d (.ref n) => match S[n]? with
    | some (.lst xs) => some xs
    | _ => none
  | _ => none
/-- .. of a list that may be written (for + of lists) -/
def lstOfW (S : Sto) : W → Option (List D)
  | .tmp xs => some xs
  | .d (.ref n) => match S[n]? with
    | some (.lst xs) => some xs
    | _ => none
  | _ => none
/-- the items of a list or a tuple -/
def seqOf (S : Sto) : W → Option (List D)
  | .d (.tup xs) => some xs
  | w => lstOf S w

def binW (S : Sto) (o : Bop) : W → W → Option W
  | .d (.int a), .d (.int b) => (binI o a b).map fun i => .d (.int i)
  | .d (.str a), .d (.str b) => match o with
    | .add => if a.length + b.length ≤ LN then some (.d (.str (a ++ b))) else none
    | _ => none
  | .d (.tup a), .d (.tup b) => match o with
    | .add => if a.length + b.length ≤ LN then some (.d (.tup (a ++ b))) else none
    | _ => none
  | .d (.tup a), .d (.int k) => match o with
    | .mul => if (decide (1 ≤ k) && decide (k ≤ 1000) && !a.isEmpty && decide (a.length ≤ 1000)) then some (.d (.tup (List.replicate k.toNat a).flatten)) else none
    | _ => none
  | x, .d (.int k) => match o with
    | .mul => match lstOfW S x with
      | some a => if (decide (-(2 ^ 63) ≤ k) && decide (k < 2 ^ 63) && decide (a.length * k.toNat ≤ LN)) then some (.tmp (List.replicate k.toNat a).flatten) else none
      | none => none
    | _ => none
  | x, y => match o with
    | .add => match lstOfW S x, lstOfW S y with
      | some a, some b => if a.length + b.length ≤ LN then some (.tmp (a ++ b)) else none
      | _, _ => none
    | _ => none

def pyW (S : Sto) : W → PyData
  | .tmp xs => .list (D.pys xs)
  | .d (.ref n) => match S[n]? with
    | some (.lst xs) => .list (D.pys xs)
    | _ => .dict []
  | .d x => x.py

/-- a key of a dict -/
def keyD : D → Option Key
  | .int i => some (.inl i)
  | .str x => some (.inr x)
  | _ => none
def kD : Key → D
  | .inl i => .int i
  | .inr x => .str x
def valD (kvs : List (Key × D)) (k : Key) : Option D := (kvs.find? fun kv => decide (kv.1 = k)).map (·.2)
def putD (kvs : List (Key × D)) (k : Key) (v : D) : List (Key × D) :=
  if (kvs.any fun kv => decide (kv.1 = k)) = true then kvs.map (fun kv => if kv.1 = k then (kv.1, v) else kv) else kvs ++ [(k, v)]
/-- what a dict holds at a key: none is stuck -/
def oGet : O → D → Option (Option D)
  | .dk kvs, k => (keyD k).map fun k => valD kvs k
  | .dd kvs, k => if keyT k = true then some (getDD kvs k) else none
  | .lst _, _ => none
def oLen : O → Nat
  | .lst xs => xs.length
  | .dk kvs => kvs.length
  | .dd kvs => kvs.length
/-- .. with another value -/
def oPut : O → D → D → Option O
  | .dk kvs, k, v => if kvs.length < LN then (keyD k).map fun k => .dk (putD kvs k v) else none
  | .dd kvs, k, v => if kvs.length < LN then (if keyT k = true then some (.dd (putDD kvs k v)) else none) else none
  | .lst _, _, _ => none
def eqW (S : Sto) (x y : W) : Option Bool :=
  if SeqAt.shaped (pyW S x) && SeqAt.shaped (pyW S y) then some (PyData.eqv (pyW S x) (pyW S y)) else none
/-- a dict of the store -/
def isDO : O → Bool
  | .lst _ => false
  | _ => true
def dicOf (S : Sto) : W → Option O
  | .d (.ref n) => match S[n]? with
    | some o => if isDO o = true then some o else none
    | none => none
  | _ => none
def inW (S : Sto) (x y : W) : Option Bool :=
  match dicOf S y with
  | some o => match x with
    | .d k => (oGet o k).map Option.isSome
    | _ => none
  | none => match seqOf S y with
  | some ys => if SeqAt.shaped (pyW S x) && SeqAt.shaped (.list (D.pys ys)) then some ((D.pys ys).any fun z => PyData.eqv z (pyW S x)) else none
  | none => none

def cmpW (S : Sto) (o : Cop) (x y : W) : Option Bool :=
  match o with
  | .eq => eqW S x y
  | .ne => (eqW S x y).map (!·)
  | .inn => inW S x y
  | .notin => (inW S x y).map (!·)
  | .isN => match x, y with
    | .d .non, .d .non => some true
    | _, .d .non => some false
    | _, _ => none
  | .notN => match x, y with
    | .d .non, .d .non => some false
    | _, .d .non => some true
    | _, _ => none
  | .isB => match x, y with
    | .d (.bl a), .d (.bl b) => some (decide (a = b))
    | _, _ => none
  | .notB => match x, y with
    | .d (.bl a), .d (.bl b) => some (!decide (a = b))
    | _, _ => none
  | o => match x, y with
    | .d (.int a), .d (.int b) => match o with
      | .lt => some (decide (a < b))
      | .le => some (decide (a ≤ b))
      | .gt => some (decide (b < a))
      | _ => some (decide (b ≤ a))
    | .d (.tup a), .d (.tup b) =>
      if (SeqAt.shaped (D.py (.tup a)) && SeqAt.shaped (D.py (.tup b)) && alkD (.tup a) (.tup b)) then (match o with
        | .lt => some (ltD (.tup a) (.tup b))
        | .le => some (!ltD (.tup b) (.tup a))
        | .gt => some (ltD (.tup b) (.tup a))
        | _ => some (!ltD (.tup a) (.tup b))) else none
    | _, _ => none

def truW (S : Sto) : W → Option Bool
  | .tmp xs => some (!xs.isEmpty)
  | .d .non => some false
  | .d (.bl b) => some b
  | .d (.int i) => some (i != 0)
  | .d (.str x) => if x.length ≤ LN then some (x.length != 0) else none
  | .d (.tup xs) => some (!xs.isEmpty)
  | .d (.fz xs) => some (!xs.isEmpty)
  | .d (.fn _) => none
  | .d (.wt _) => none
  | .d (.ref n) => match S[n]? with
    | some (.lst xs) => some (!xs.isEmpty)
    | some (.dk kvs) => some (!kvs.isEmpty)
    | some (.dd _) => none
    | none => none

def ixW (S : Sto) (x : W) (i : W) : Option W :=
  match i with
  | .d (.int k) => match x with
    | .d (.str z) => if z.length ≤ LN then (atI z.cps.toList k).map fun c => .d (.str ⟨#[c]⟩) else none
    | _ => match seqOf S x with
      | some xs => (atI xs k).map .d
      | none => none
  | _ => none
def cutD (xs : List D) (lo hi : Option Int) : List D := (xs.drop (HT.sIx xs.length 0 lo)).take (HT.sIx xs.length xs.length hi - HT.sIx xs.length 0 lo)
def slW (S : Sto) (x : W) (lo hi : Option Int) : Option W :=
  match x with
  | .d (.tup xs) => some (.d (.tup (cutD xs lo hi)))
  | w => (lstOf S w).map fun xs => .tmp (cutD xs lo hi)
def revW (S : Sto) (x : W) : Option W :=
  match x with
  | .d (.tup xs) => some (.d (.tup xs.reverse))
  | w => (lstOf S w).map fun xs => .tmp xs.reverse
def partW : W → Option Int
  | .d (.int i) => some i
  | _ => none

def dgetW (S : Sto) (x i : W) : Option W :=
  match x, i with
  | .d (.ref n), .d k => match S[n]? with
    | some o => match oGet o k with
      | some (some v) => some (.d v)
      | _ => none
    | _ => none
  | _, _ => none

/-- a display's dict -/
def mergeD : List (Key × D) → List Key → List D → List (Key × D)
  | acc, k :: ks, d :: ds => mergeD (putD acc k d) ks ds
  | acc, _, _ => acc
/-- built-in functions of one or two arguments -/
inductive BI where
  | len | abs | int | bool | tuple | list | sum | all | any | max | min | sorted
  deriving DecidableEq
def intsOf : List D → Option (List Int)
  | [] => some []
  | .int i :: r => (intsOf r).map (i :: ·)
  | _ => none
def blsOf : List D → Option (List Bool)
  | [] => some []
  | .bl b :: r => (blsOf r).map (b :: ·)
  | _ => none
/-- what list(..) collects of a value: a list's, a tuple's items, a dict's keys -/
def collW (S : Sto) (w : W) : Option (List D) := match dicOf S w with
  | some (.dd kvs) => some (kvs.map (·.1))
  | some (.dk kvs) => some (kvs.map fun kv => kD kv.1)
  | _ => seqOf S w
def maxL : List Int → Int
  | [] => 0
  | [a] => a
  | a :: r => if maxL r > a then maxL r else a
def minL : List Int → Int
  | [] => 0
  | [a] => a
  | a :: r => if minL r < a then minL r else a
def insI (a : Int) : List Int → List Int
  | [] => [a]
  | b :: r => if a ≤ b then a :: b :: r else b :: insI a r
def sortI : List Int → List Int
  | [] => []
  | a :: r => insI a (sortI r)
def biW (S : Sto) (b : BI) (ws : List W) : Option W :=
  match b, ws with
  | .len, [w] => match w with
    | .d (.str z) => if z.length ≤ LN then some (.d (.int z.length)) else none
    | _ => (seqOf S w).map fun xs => .d (.int xs.length)
  | .abs, [.d (.int i)] => some (.d (.int (if i < 0 then -i else i)))
  | .int, [.d (.int i)] => some (.d (.int i))
  | .int, [.d (.bl b)] => some (.d (.int (if b then 1 else 0)))
  | .bool, [.d (.bl b)] => some (.d (.bl b))
  | .bool, [.d (.int i)] => some (.d (.bl (i != 0)))
  | .tuple, [w] => (seqOf S w).map fun xs => .d (.tup xs)
  | .list, [w] => (seqOf S w).map .tmp
  | .sum, [w] => (lstOf S w).bind fun xs => (intsOf xs).map fun ns => .d (.int ns.sum)
  | .all, [w] => (lstOf S w).bind fun xs => (blsOf xs).map fun bs => .d (.bl (bs.all id))
  | .any, [w] => (lstOf S w).bind fun xs => (blsOf xs).map fun bs => .d (.bl (bs.any id))
  | .max, [.d (.int i), .d (.int j)] => some (.d (.int (if j > i then j else i)))
  | .min, [.d (.int i), .d (.int j)] => some (.d (.int (if j < i then j else i)))
  | .max, [w] => (lstOf S w).bind fun xs => if xs.isEmpty then none else (match intsOf xs with
    | some ns => some (.d (.int (maxL ns)))
    | none => if ordOk xs = true then some (.d (maxD xs)) else none)
  | .min, [w] => (lstOf S w).bind fun xs => if xs.isEmpty then none else (match intsOf xs with
    | some ns => some (.d (.int (minL ns)))
    | none => if ordOk xs = true then some (.d (minD xs)) else none)
  | .sorted, [w] => (collW S w).bind fun xs => match intsOf xs with
    | some ns => some (.tmp ((sortI ns).map .int))
    | none => if ordOk xs = true then some (.tmp (sortD xs)) else none
  | _, _ => none

/-- the place of the first item that is the one asked for -/
def idxD (x : D) : List D → Nat → Option Nat
  | [], _ => none
  | y :: ys, j => if PyData.eqv y.py x.py = true then some j else idxD x ys (j + 1)
/-- a list that was nothing else's comes into the store -/
def matW : W → Sto → D × Sto
  | .d x, S => (x, S)
  | .tmp xs, S => (.ref S.length, S ++ [.lst xs])
def matsW : List W → Sto → List D × Sto
  | [], S => ([], S)
  | w :: ws, S =>
    let p := matW w S
    let q := matsW ws p.2
    (p.1 :: q.1, q.2)

/-- dict(xs) of pairs -/
def pairsW : List D → Option (List (D × D))
  | [] => some []
  | .tup [k, v] :: r => (pairsW r).map ((k, v) :: ·)
  | _ => none
def dctK : List (D × D) → Option (List (Key × D))
  | [] => some []
  | (k, v) :: r => match keyD k, dctK r with
    | some k, some r => some ((k, v) :: r)
    | _, _ => none
def dctO (deep : Bool) (ps : List (D × D)) : Option O :=
  if ps.length ≤ LN then (if deep then (if (ps.all fun p => keyT p.1) = true then some (.dd (ps.foldl (fun acc p => putDD acc p.1 p.2) [])) else none)
    else (dctK ps).map fun ks => .dk (ks.foldl (fun acc p => putD acc p.1 p.2) [])) else none
/-- methods of lists and dicts -/
inductive Mt where
  | pop0 | pop1 | ext | rem | idx | get1 | get2 | setd
  deriving DecidableEq
/-- is it a dict's method? -/
def mtDict : Mt → Bool
  | .get1 => true
  | .get2 => true
  | .setd => true
  | _ => false
/-- may the method be looked up here? -/
def mtOk (S : Sto) (m : Mt) : W → Bool
  | .d (.ref n) => match S[n]? with
    | some o => isDO o == mtDict m
    | none => false
  | _ => false
def mthW (S : Sto) (m : Mt) (x : W) (ws : List W) : Option (W × Sto) :=
  match x with
  | .d (.ref n) => match S[n]? with
    | some (.lst xs) => match m, ws with
      | .pop0, [] => match xs.getLast? with
        | some d => some (.d d, S.set n (.lst xs.dropLast))
        | none => none
      | .pop1, [.d (.int i)] => if decide (-(2 ^ 62) ≤ i) && decide (i < 2 ^ 62) then match ixN xs.length i with
        | some k => match xs[k]? with
          | some d => some (.d d, S.set n (.lst (xs.eraseIdx k)))
          | none => none
        | none => none else none
      | .ext, [w] => match lstOfW S w with
        | some ys => if xs.length + ys.length ≤ LN then some (.d .non, S.set n (.lst (xs ++ ys))) else none
        | none => none
      | .rem, [.d (.int i)] => match intsOf xs with
        | some ns => match idxD (.int i) xs 0 with
          | some k => some (.d .non, S.set n (.lst (xs.eraseIdx k)))
          | none => none
        | none => none
      | .idx, [.d d] => if SeqAt.shaped d.py && SeqAt.shaped (.list (D.pys xs)) then (idxD d xs 0).map fun k => (.d (.int k), S) else none
      | _, _ => none
    | some o => match m, ws with
      | .get1, [.d k] => (oGet o k).map fun r => (.d (r.getD .non), S)
      | .get2, [.d k, w] => (oGet o k).map fun r => match r with
        | some d => (.d d, S)
        | none => (w, S)
      | .setd, [.d k, w] => if oLen o < LN then (match oGet o k with
        | some (some d) => some (.d d, S)
        | some none => (oPut o k (matW w S).1).map fun o' => (.d (matW w S).1, (matW w S).2.set n o')
        | none => none) else none
      | _, _ => none
    | none => none
  | _ => none

/-- patterns: names, tuples of patterns -/
inductive P where
  | nm (i : Nat) (x : Str)
  | tup (ps : P)
  | nil
  | cons (p ps : P)
mutual
def bindP : P → D → Env → Option Env
  | .nm i _, d, ρ => some (ρ.set i (some d))
  | .tup ps, .tup ds, ρ => bindPs ps ds ρ
  | .tup ps, .wt ds, ρ => bindPs ps ds ρ
  | _, _, _ => none
def bindPs : P → List D → Env → Option Env
  | .nil, [], ρ => some ρ
  | .cons p ps, d :: ds, ρ => (bindP p d ρ).bind fun ρ' => bindPs ps ds ρ'
  | _, _, _ => none
end

inductive E where
  | var (i : Nat) (x : Str)
  | cI (i : Int) | cB (b : Bool) | cN | cS (x : Str)
  | glob (x : Str)
  | bin (o : Bop) (a b : E)
  | neg (a : E)
  | cmp (o : Cop) (a b : E)
  | chn (o1 o2 : Cop) (a b c : E)
  | not (a : E)
  | and (as : E) | or (as : E)
  | ite (t a b : E)
  | tup (as : E) | lst (as : E)
  | ix (a i : E)
  | dget (a i : E)
  | slc (a lo hi : E)
  | call (f : Str) (as : E)
  | lcall (i : Nat) (x : Str) (as : E)
  | bi (b : BI) (as : E)
  | rng (as : E) | enm (a : E) | zip (a b : E)
  | lc (own : List (Str × Nat)) (elt : E) (p : P) (it tst : E)
  | app (o e : E)
  | disp (ks : List Key) (vs : E)
  /-- the truth of a value -/
  | tst (a : E)
  /-- a[::-1] -/
  | rev (a : E)
  /-- o.m(as) -/
  | mth (m : Mt) (o as : E)
  | chn3 (o1 o2 o3 : Cop) (a b c d : E)
  /-- {}, of keys that are tuples or of others -/
  | dnew (deep : Bool)
  /-- {k: v}, k a tuple -/
  | ddisp (k v : E)
  /-- list(range(..)), tuple(range(..)) -/
  | lrng (tp : Bool) (as : E)
  /-- dict(pairs) -/
  | dct (deep : Bool) (a : E)
  /-- sorted(d.items()) -/
  | sitm (a : E)
  | nil
  | cons (a as : E)

/-- lists that are walked must stand still: their places and their items -/
abbrev Grd := List (Nat × List D)
def chk1 (S : Sto) (p : Nat × List D) : Bool := match S[p.1]? with
  | some (.lst ys) => eqDs p.2 ys
  | _ => false
def chkG (g : Grd) (S : Sto) : Bool := g.all (chk1 S)
def guardOf (S : Sto) : W → Grd
  | .d (.ref n) => match S[n]? with
    | some (.lst xs) => [(n, xs)]
    | _ => []
  | _ => []
def wipeD (ρ : Env) : List Nat → Env
  | [] => ρ
  | v :: vs => (wipeD ρ vs).set v none
def rngL (lo : Int) (n : Nat) : List D := (List.range n).map fun i => .int (lo + (i : Nat))
def rngOk (i : Int) : Bool := decide (-(2 ^ 62) ≤ i) && decide (i < 2 ^ 62)
def rngW : List W → Option (List D)
  | [.d (.int j)] => if rngOk j then some (rngL 0 j.toNat) else none
  | [.d (.int i), .d (.int j)] => if rngOk i && rngOk j then some (rngL i (j - i).toNat) else none
  | [.d (.int i), .d (.int j), .d (.int c)] =>
    if rngOk i && rngOk j && decide (c = -1) then some ((List.range (i - j).toNat).map fun k => .int (i - (k : Nat))) else none
  | _ => none
def enumL (xs : List D) : List D := (List.range xs.length).map fun i => .wt [.int (i : Nat), xs.getD i .non]
def zipL (xs ys : List D) : List D := (List.range (min xs.length ys.length)).map fun i => .wt [xs.getD i .non, ys.getD i .non]

abbrev Calls := Str → List D → Sto → Option (W × Sto)
/-- what the program's top holds -/
structure Tab where
  /-- names of defs with the number of their parameters -/
  defs : List (Str × Nat)
  globs : List (Str × D)
  /-- names of built-ins that the top leaves alone -/
  blts : List Str

def lcLoop (g : Grd) (step : D → Sto → Option (Option D × Sto)) : List D → List D → Sto → Option (List D × Sto)
  | [], acc, S => if chkG g S then some (acc, S) else none
  | x :: xs, acc, S => if chkG g S then match step x S with
    | none => none
    | some (none, S') => lcLoop g step xs acc S'
    | some (some d, S') => if acc.length < LN then lcLoop g step xs (acc ++ [d]) S' else none
    else none

section
variable (T : Tab) (cl : Calls)
mutual
/-- a value -/
def evW : E → Env → Sto → Option (W × Sto)
  | .var i _, ρ, S => match ρ[i]? with
    | some (some d) => some (.d d, S)
    | _ => none
  | .cI i, _, S => some (.d (.int i), S)
  | .cB b, _, S => some (.d (.bl b), S)
  | .cN, _, S => some (.d .non, S)
  | .cS x, _, S => some (.d (.str x), S)
  | .glob x, _, S => (T.globs.lookup x).map fun d => (.d d, S)
  | .bin o a b, ρ, S => match evW a ρ S with
    | none => none
    | some (x, S1) => match evW b ρ S1 with
      | none => none
      | some (y, S2) => (binW S2 o x y).map fun z => (z, S2)
  | .neg a, ρ, S => match evW a ρ S with
    | some (.d (.int i), S1) => some (.d (.int (-i)), S1)
    | _ => none
  | .cmp o a b, ρ, S => match evW a ρ S with
    | none => none
    | some (x, S1) => match evW b ρ S1 with
      | none => none
      | some (y, S2) => (cmpW S2 o x y).map fun z => (.d (.bl z), S2)
  | .chn o1 o2 a b c, ρ, S => match evW a ρ S with
    | none => none
    | some (x, S1) => match evW b ρ S1 with
      | none => none
      | some (y, S2) => match cmpW S2 o1 x y with
        | none => none
        | some false => some (.d (.bl false), S2)
        | some true => match evW c ρ S2 with
          | none => none
          | some (z, S3) => (cmpW S3 o2 y z).map fun k => (.d (.bl k), S3)
  | .not a, ρ, S => match evW a ρ S with
    | none => none
    | some (w, S1) => (truW S1 w).map fun b => (.d (.bl (!b)), S1)
  | .and as, ρ, S => evAnd as ρ S
  | .or as, ρ, S => evOr as ρ S
  | .ite t a b, ρ, S => match evT t ρ S with
    | none => none
    | some (true, S1) => evW a ρ S1
    | some (false, S1) => evW b ρ S1
  | .tup as, ρ, S => match evs as ρ S with
    | none => none
    | some (ws, S1) => if ws.length ≤ LN then some (.d (.tup (matsW ws S1).1), (matsW ws S1).2) else none
  | .lst as, ρ, S => match evs as ρ S with
    | none => none
    | some (ws, S1) => if ws.length ≤ LN then some (.tmp (matsW ws S1).1, (matsW ws S1).2) else none
  | .ix a i, ρ, S => match evW a ρ S with
    | none => none
    | some (x, S1) => match evW i ρ S1 with
      | none => none
      | some (y, S2) => (ixW S2 x y).map fun z => (z, S2)
  | .dget a i, ρ, S => match evW a ρ S with
    | none => none
    | some (x, S1) => match evW i ρ S1 with
      | none => none
      | some (y, S2) => (dgetW S2 x y).map fun z => (z, S2)
  | .slc a lo hi, ρ, S => match evW a ρ S with
    | none => none
    | some (x, S1) => match evO lo ρ S1 with
      | none => none
      | some (l, S2) => match evO hi ρ S2 with
        | none => none
        | some (h, S3) => (slW S3 x l h).map fun z => (z, S3)
  | .rev a, ρ, S => match evW a ρ S with
    | none => none
    | some (x, S1) => (revW S1 x).map fun z => (z, S1)
  | .call f as, ρ, S => match evs as ρ S with
    | none => none
    | some (ws, S1) => cl f (matsW ws S1).1 (matsW ws S1).2
  | .lcall i _ as, ρ, S => match ρ[i]? with
    | some (some (.fn f)) => match evs as ρ S with
      | none => none
      | some (ws, S1) => if T.defs.lookup f = some ws.length then cl f (matsW ws S1).1 (matsW ws S1).2 else none
    | _ => none
  | .bi b as, ρ, S => match evs as ρ S with
    | none => none
    | some (ws, S1) => (biW S1 b ws).map fun z => (z, S1)
  | .lc own elt p it tst, ρ, S => match evI it ρ S with
    | none => none
    | some ((xs, g), S1) =>
      (lcLoop g (fun d S => match bindP p d (wipeD ρ (own.map (·.2))) with
          | none => none
          | some ρ' => match evC tst ρ' S with
            | none => none
            | some (false, S') => some (none, S')
            | some (true, S') => match evW elt ρ' S' with
              | none => none
              | some (w, S'') => some (some (matW w S'').1, (matW w S'').2)) xs [] S1).map
        fun r => (.tmp r.1, r.2)
  | .app o e, ρ, S => match evW o ρ S with
    | some (.d (.ref n), S1) => match S1[n]? with
      | some (.lst _) => match evW e ρ S1 with
        | none => none
        | some (w, S2) => match (matW w S2).2[n]? with
          | some (.lst xs) => if xs.length < LN then some (.d .non, (matW w S2).2.set n (.lst (xs ++ [(matW w S2).1]))) else none
          | _ => none
      | _ => none
    | _ => none
  | .disp ks as, ρ, S => match evs as ρ S with
    | none => none
    | some (ws, S1) => if ws.length = ks.length then some (.d (.ref (matsW ws S1).2.length), (matsW ws S1).2 ++ [.dk (mergeD [] ks (matsW ws S1).1)]) else none
  | .mth m o as, ρ, S => match evW o ρ S with
    | none => none
    | some (x, S1) => if mtOk S1 m x = true then (match evs as ρ S1 with
      | none => none
      | some (ws, S2) => mthW S2 m x ws) else none
  | .chn3 o1 o2 o3 a b c d, ρ, S => match evW a ρ S with
    | none => none
    | some (x, S1) => match evW b ρ S1 with
      | none => none
      | some (y, S2) => match cmpW S2 o1 x y with
        | none => none
        | some false => some (.d (.bl false), S2)
        | some true => match evW c ρ S2 with
          | none => none
          | some (z, S3) => match cmpW S3 o2 y z with
            | none => none
            | some false => some (.d (.bl false), S3)
            | some true => match evW d ρ S3 with
              | none => none
              | some (u, S4) => (cmpW S4 o3 z u).map fun k => (.d (.bl k), S4)
  | .dnew deep, _, S => some (.d (.ref S.length), S ++ [if deep then .dd [] else .dk []])
  | .ddisp k v, ρ, S => match evW k ρ S with
    | none => none
    | some (x, S1) => match evW v ρ S1 with
      | none => none
      | some (w, S2) => match x with
        | .d kd => if keyT kd = true then some (.d (.ref (matW w S2).2.length), (matW w S2).2 ++ [.dd [(kd, (matW w S2).1)]]) else none
        | _ => none
  | .dct deep a, ρ, S => match evW a ρ S with
    | none => none
    | some (w, S1) => (seqOf S1 w).bind fun xs => (pairsW xs).bind fun ps => (dctO deep ps).map fun o => (.d (.ref S1.length), S1 ++ [o])
  | .sitm a, ρ, S => match evW a ρ S with
    | some (.d (.ref n), S1) => match S1[n]? with
      | some (.dk kvs) => if ordOk (kvs.map fun kv => .tup [kD kv.1, kv.2]) = true then some (.tmp (sortD (kvs.map fun kv => .tup [kD kv.1, kv.2])), S1) else none
      | some (.dd kvs) => if ordOk (kvs.map fun kv => .tup [kv.1, kv.2]) = true then some (.tmp (sortD (kvs.map fun kv => .tup [kv.1, kv.2])), S1) else none
      | _ => none
    | _ => none
  | .lrng tp as, ρ, S => match evs as ρ S with
    | none => none
    | some (ws, S1) => (rngW ws).bind fun xs => if xs.length ≤ LN then some (if tp then .d (.tup xs) else .tmp xs, S1) else none
  | _, _, _ => none
/-- a test -/
def evT : E → Env → Sto → Option (Bool × Sto)
  | .not a, ρ, S => match evT a ρ S with
    | none => none
    | some (b, S1) => some (!b, S1)
  | .and as, ρ, S => evTAnd as ρ S
  | .or as, ρ, S => evTOr as ρ S
  | .cmp o a b, ρ, S => match evW a ρ S with
    | none => none
    | some (x, S1) => match evW b ρ S1 with
      | none => none
      | some (y, S2) => (cmpW S2 o x y).map fun z => (z, S2)
  | .chn o1 o2 a b c, ρ, S => match evW a ρ S with
    | none => none
    | some (x, S1) => match evW b ρ S1 with
      | none => none
      | some (y, S2) => match cmpW S2 o1 x y with
        | none => none
        | some false => some (false, S2)
        | some true => match evW c ρ S2 with
          | none => none
          | some (z, S3) => (cmpW S3 o2 y z).map fun k => (k, S3)
  | .chn3 o1 o2 o3 a b c d, ρ, S => match evW a ρ S with
    | none => none
    | some (x, S1) => match evW b ρ S1 with
      | none => none
      | some (y, S2) => match cmpW S2 o1 x y with
        | none => none
        | some false => some (false, S2)
        | some true => match evW c ρ S2 with
          | none => none
          | some (z, S3) => match cmpW S3 o2 y z with
            | none => none
            | some false => some (false, S3)
            | some true => match evW d ρ S3 with
              | none => none
              | some (u, S4) => (cmpW S4 o3 z u).map fun k => (k, S4)
  | .tst a, ρ, S => match evW a ρ S with
    | none => none
    | some (w, S1) => (truW S1 w).map fun b => (b, S1)
  | _, _, _ => none
/-- and, or as tests -/
def evTAnd : E → Env → Sto → Option (Bool × Sto)
  | .cons a as, ρ, S => match evT a ρ S with
    | none => none
    | some (false, S1) => some (false, S1)
    | some (true, S1) => evTAnd as ρ S1
  | .nil, _, S => some (true, S)
  | _, _, _ => none
def evTOr : E → Env → Sto → Option (Bool × Sto)
  | .cons a as, ρ, S => match evT a ρ S with
    | none => none
    | some (true, S1) => some (true, S1)
    | some (false, S1) => evTOr as ρ S1
  | .nil, _, S => some (false, S)
  | _, _, _ => none
/-- and, or as values: all but the last one True or False -/
def evAnd : E → Env → Sto → Option (W × Sto)
  | .cons a as, ρ, S => match evW a ρ S with
    | none => none
    | some (w, S1) => match as with
      | .nil => some (w, S1)
      | _ => match w with
        | .d (.bl false) => some (.d (.bl false), S1)
        | .d (.bl true) => evAnd as ρ S1
        | _ => none
  | _, _, _ => none
def evOr : E → Env → Sto → Option (W × Sto)
  | .cons a as, ρ, S => match evW a ρ S with
    | none => none
    | some (w, S1) => match as with
      | .nil => some (w, S1)
      | _ => match w with
        | .d (.bl true) => some (.d (.bl true), S1)
        | .d (.bl false) => evOr as ρ S1
        | _ => none
  | _, _, _ => none
/-- arguments -/
def evs : E → Env → Sto → Option (List W × Sto)
  | .nil, _, S => some ([], S)
  | .cons a as, ρ, S => match evW a ρ S with
    | none => none
    | some (w, S1) => match evs as ρ S1 with
      | none => none
      | some (ws, S2) => some (w :: ws, S2)
  | _, _, _ => none
/-- a slice's part: nil is none -/
def evO : E → Env → Sto → Option (Option Int × Sto)
  | .nil, _, S => some (none, S)
  | .cons a _, ρ, S => match evW a ρ S with
    | some (.d (.int i), S1) => some (some i, S1)
    | _ => none
  | _, _, _ => none
/-- a comprehension's test: nil is none -/
def evC : E → Env → Sto → Option (Bool × Sto)
  | .nil, _, S => some (true, S)
  | .cons a _, ρ, S => evT a ρ S
  | _, _, _ => none
/-- what is walked: its items, and the list that must stand still -/
def evI : E → Env → Sto → Option ((List D × Grd) × Sto)
  | .rng as, ρ, S => match evs as ρ S with
    | none => none
    | some (ws, S1) => (rngW ws).map fun xs => ((xs, []), S1)
  | .enm a, ρ, S => match evW a ρ S with
    | none => none
    | some (w, S1) => (seqOf S1 w).map fun xs => ((enumL xs, guardOf S1 w), S1)
  | .zip a b, ρ, S => match evW a ρ S with
    | none => none
    | some (x, S1) => match evW b ρ S1 with
      | none => none
      | some (y, S2) => match x, y with
        | .d (.tup xs), .d (.tup ys) => some ((zipL xs ys, []), S2)
        | x, y => match lstOf S2 x, lstOf S2 y with
          | some xs, some ys => some ((zipL xs ys, guardOf S2 x ++ guardOf S2 y), S2)
          | _, _ => none
  | .cons a .nil, ρ, S => match evW a ρ S with
    | none => none
    | some (w, S1) => (seqOf S1 w).map fun xs => ((xs, guardOf S1 w), S1)
  | _, _, _ => none
end
end
end Z

set_option Elab.async false
set_option linter.all false
set_option maxRecDepth 100000
/-! ZT: tuple * 1. -/
namespace ZT
open PySem PySem.Spec PyProof.Rows L2
open PySem.AutoSeq1 (wpAny_loadPart')
open PySem.MeetsSeq PySem.MeetsSeq2 PySem.MeetsSeq3
theorem tuple_mul1 (l : Addr) (items : Array Value) (n : Nat) (dd : Option Addr) (sl : Array (Option Value)) (u : Tok) :
    Meets (Builtin.«tuple.__mul__» ⟨[.ref l, .int 1 u], []⟩) (fun _ R s => s.heap.get? l = some { cls := .type "tuple", dict := dd, data := .seq items n, slots := sl } ∧
      R (.ok (.ret (Value.ref l))) s) :=
  .of_wp fun prog w A R s h => by
    obtain ⟨hp, g, d, tk, os⟩ := s
    obtain ⟨hl, h⟩ := h
    have f1 := AutoSeq1.idx_int
    wp_walk using wpAny_loadPart' hl
    exact ⟨_, rfl, h⟩
def rRep1 (K : PySem.W.Frag) : R2 := fun x y H Q => ∃ l xs, x = .ref l ∧ y = .int 1 ∧ SqT K H l xs ∧ Q (.ref l) H
theorem op_rep1 {X : Cx} : OpR X (binaryOp .Mult) (rRep1 X.K) := by
  intro pins s σ H x y v u Q I rx ry h
  obtain ⟨l, xs, rfl, rfl, hT, q⟩ := h
  cases rx
  obtain ⟨t, rfl⟩ := ry
  obtain ⟨its, r, ⟨⟨cls, dd, data, sl⟩, ho, hc, n, hd⟩, hs⟩ := I.tuple hT
  simp only at hc hd
  subst hc hd
  refine wpAny_binaryOp_repeat_ref (T := "tuple") (U := "int") (by decide) ⟨_, ho, rfl⟩ (fun s' => typeIs_int s' 1 t) noFill_tuple_mul F.fills_int_mul F.slot_int_rmul repeat_tuple F.slot_int_index.lookup
    (call_meets F.slot_int_rmul (typeIs_int s 1 t) F.entry_int_rmul (F.args_int_rmul_2 _ _) (int_rmul_tuple 1 t l its.toArray n dd sl)
      ⟨ho, rfl, ⟨_, ho, rfl⟩, call_meets F.slot_tuple_mul ⟨_, ho, rfl⟩ F.entry_tuple_mul (F.args_tuple_mul_2 _ _) (tuple_mul1 l its.toArray n dd sl t) ⟨ho, ?_⟩⟩)
  exact ⟨.ref l, H, I, rfl, q⟩
end ZT

set_option Elab.async false
set_option linter.all false
set_option maxRecDepth 100000
/-! ZN: tuples whose object is known (it has no dict): made by displays, +, *, slices, tuple(..). -/
namespace Z
open PySem PySem.Spec PyProof.Rows L2
abbrev tobj (its : List Value) : Obj := { cls := .type "tuple", data := .seq its.toArray }
def KTup (its : List Value) (vs : List V) : HO := .frz (tobj its) (.tup vs)
def SqK (K : PySem.W.Frag) (H : Hp) (a : Addr) (vs : List V) : Prop :=
  (∃ its, H a = some (KTup its vs)) ∨
    ∃ (o : Obj) (its : Array Value) (n : Nat), K.lookup a = some o ∧ o.cls = .type "tuple" ∧ o.dict = none ∧ o.data = .seq its n ∧ its.size ≤ sizeLine ∧ Vals vs its.toList
theorem SqK.sq {K : PySem.W.Frag} {H : Hp} {a : Addr} {vs : List V} (h : SqK K H a vs) : SqT K H a vs := by
  rcases h with ⟨its, h⟩ | ⟨o, its, n, h1, h2, _, h3, h4, h5⟩
  · exact .inl (.inr ⟨_, h⟩)
  · exact .inr ⟨o, its, n, h1, h2, h3, h4, h5⟩
section
variable {X : Cx} {pins : List (Addr × Obj)} {σ : L2.St} {H : Hp} {s : Shared} {a : Addr} {vs : List V}
/-- its object -/
theorem SqK.obj (I : Inv X pins σ H s) (h : SqK X.K H a vs) : ∃ its o n, Vals vs its ∧ s.heap.get? a = some o ∧ o.cls = .type "tuple" ∧ o.dict = none ∧ o.data = .seq its.toArray n ∧ vs.length ≤ sizeLine := by
  rcases h with ⟨its, h⟩ | ⟨o, its, n, h1, h2, h3, h4, h5, h6⟩
  · obtain ⟨e, z, its', r, o, e1, e2, n, e3⟩ := I.hok a _ h
    rw [e] at e1
    cases e1
    exact ⟨its', tobj its, n, r, e, rfl, rfl, e3, z⟩
  · refine ⟨its.toList, o, n, h6, I.kIn a o h1, h2, h3, by simpa using h4, ?_⟩
    rw [h6.length, Array.length_toList]; exact h5
/-- a known tuple is laid -/
theorem ktup_ok {P : Program} {w : World} {H' : Hp} {h' : Heap} {its : List Value} (e : h'.get? a = some (tobj its)) (hz : vs.length ≤ sizeLine) (r : Vals vs its) : ObjOk P w H' h' a (KTup its vs) :=
  ⟨e, hz, its, r, _, e, rfl, 0, rfl⟩
def tTupK (t : TA) : TE := fun σ H Q => t σ H fun xs H1 => xs.length ≤ sizeLine ∧ ∀ p its, H1 p = none → Q (.ref p) (upd H1 p (KTup its xs))
theorem pe_tupK {es : List Expr} {t : TA} {pos : Pos} {x1} (h : PA X es t) : PE X (.Tuple es x1 pos) (tTupK t) := by
  refine ⟨fun pins s σ H Q I hq => ?_⟩
  refine wpAny_Tuple_spliced (thn (h.run pos pins s σ H _ I hq) fun us s1 ⟨xs, H1, I1, r, z, q⟩ => ⟨by rw [← r.length]; exact z, ?_⟩)
  exact ⟨.ref s1.heap.objs.size, upd H1 s1.heap.objs.size (KTup us xs), I1.laid (t' := s1.toks) (fun b u e => Heap.get?_push_of_some _ e) (Nat.le_refl _) (ktup_ok (Heap.get?_push_size _ rfl) z r), rfl, q _ us (I1.hok.fresh (Nat.le_refl _))⟩
theorem call_tupleK : CallR X (.type "tuple") (fun xs H Q => ∃ p ys, xs = [.ref p] ∧ ((SqL X.K H p ys ∧ ∀ l its, H l = none → Q (.ref l) (upd H l (KTup its ys))) ∨ (SqT X.K H p ys ∧ Q (.ref p) H))) := by
  intro pins s σ H xs us Q I r h
  obtain ⟨p, ys, rfl, h⟩ := h
  obtain ⟨u, rfl, rx⟩ := vals1 r
  cases rx
  rcases h with ⟨hq, q⟩ | ⟨hq, q⟩
  · obtain ⟨its, r', pl, hz⟩ := I.list hq
    have hlen := r'.length
    refine call_tuple_list pl.isList (fun h' kp => ?_) (by simp only [List.size_toArray] <;> omega)
    have I1 : Inv X pins σ H { s with heap := h' } := I.kept (t' := s.toks) kp
    exact ⟨.ref h'.objs.size, _, I1.laid (t' := s.toks) (o := KTup its ys) (fun b o e => Heap.get?_push_of_some _ e) (Nat.le_refl _) (ktup_ok (Heap.get?_push_size _ rfl) hz r'), rfl, q _ its (I1.hok.fresh (Nat.le_refl _))⟩
  · obtain ⟨its, r', pl, hz⟩ := I.tuple hq
    exact call_tuple_same pl ⟨.ref p, H, I, rfl, q⟩
def rCatK (K : PySem.W.Frag) : R2 := fun x y H Q => ∃ a b xs ys, x = .ref a ∧ y = .ref b ∧ SqT K H a xs ∧ SqT K H b ys ∧ xs.length + ys.length ≤ sizeLine ∧
  (xs = [] → Q (.ref b) H) ∧ (xs ≠ [] → ys = [] → Q (.ref a) H) ∧ (xs ≠ [] → ys ≠ [] → ∀ p its, H p = none → Q (.ref p) (upd H p (KTup its (xs ++ ys))))
theorem op_catK : OpR X (binaryOp .Add) (rCatK X.K) := by
  intro pins s σ H x y v u Q I rx ry h
  obtain ⟨a, b, xs, ys, rfl, rfl, ha, hb, hz, q0, q1, q2⟩ := h
  cases rx
  cases ry
  obtain ⟨its, r1, p1, _⟩ := I.tuple ha
  obtain ⟨its2, r2, p2, _⟩ := I.tuple hb
  by_cases hx : xs = []
  · subst hx
    cases r1
    exact cat_tup0 p1 p2 ⟨.ref b, H, I, rfl, q0 rfl⟩
  · refine HT.cat_tup p1 p2 (fun z => hx (r1.nil_iff.mp z)) (fun z => ⟨.ref a, H, I, rfl, q1 hx (r2.nil_iff.mp z)⟩) (fun z => ?_) (by rw [← r1.length, ← r2.length]; exact hz)
    exact ⟨.ref s.heap.objs.size, _, I.laid (t' := s.toks) (o := KTup (its ++ its2) (xs ++ ys)) (fun b ob q => Heap.get?_push_of_some _ q) (Nat.le_refl _) (ktup_ok (Heap.get?_push_size _ rfl) (by rw [List.length_append]; exact hz) (r1.append r2)), rfl, q2 hx (fun w => z (r2.nil_iff.mpr w)) _ _ (I.hok.fresh (Nat.le_refl _))⟩
def rSlK (K : PySem.W.Frag) : V → Option Int → Option Int → Hp → VK → Prop := fun x lo hi H Q => ∃ a xs, x = .ref a ∧ SqT K H a xs ∧
  (HT.sIx xs.length 0 lo = 0 ∧ HT.sIx xs.length xs.length hi = xs.length → Q (.ref a) H) ∧ (¬ (HT.sIx xs.length 0 lo = 0 ∧ HT.sIx xs.length xs.length hi = xs.length) → ∀ p its, H p = none → Q (.ref p) (upd H p (KTup its (cutV xs lo hi))))
theorem sl_tupK : SlR X (rSlK X.K) := by
  intro pins s σ H x v vl vu lo hi sl Q I rx hs pl pu h
  obtain ⟨a, xs, rfl, hx, q1, q2⟩ := h
  cases rx
  obtain ⟨its, r, ht, hz⟩ := I.tuple hx
  have hlen : its.toArray.size = xs.length := by rw [List.size_toArray]; exact r.length.symm
  refine ⟨"tuple", _, PyProof.Rows.slot_tuple_getitem.lookup, ht.typeIs, ?_⟩
  by_cases hw : HT.sIx xs.length 0 lo = 0 ∧ HT.sIx xs.length xs.length hi = xs.length
  · exact getItem_tuple_whole ht hs pl pu (by rw [hlen]; exact hw) ⟨.ref a, H, I, rfl, q1 hw⟩
  · refine HT.getItem_tuple_cut ht hs pl pu (by rw [hlen]; exact hw) ?_ (by rw [hlen]; exact hz)
    rw [hlen]
    exact ⟨.ref s.heap.objs.size, _, I.laid (t' := s.toks) (o := KTup _ (cutV xs lo hi)) (fun b ob q => Heap.get?_push_of_some _ q) (Nat.le_refl _) (ktup_ok (Heap.get?_push_size _ rfl) (Nat.le_trans (cutV_length xs lo hi) hz) ((r.drop (HT.sIx xs.length 0 lo)).take (HT.sIx xs.length xs.length hi - HT.sIx xs.length 0 lo))), rfl, q2 hw _ _ (I.hok.fresh (Nat.le_refl _))⟩
def rRepK (K : PySem.W.Frag) : R2 := fun x y H Q => ∃ l k xs, x = .ref l ∧ y = .int k ∧ SqT K H l xs ∧ xs ≠ [] ∧ 2 ≤ k ∧ k ≤ 1000 ∧ xs.length ≤ 1000 ∧ ∀ p its, H p = none → Q (.ref p) (upd H p (KTup its (List.replicate k.toNat xs).flatten))
theorem op_repK : OpR X (binaryOp .Mult) (rRepK X.K) := by
  intro pins s σ H x y v u Q I rx ry h
  obtain ⟨l, k, xs, rfl, rfl, hT, hne, h1, h2, hz, q⟩ := h
  cases rx
  obtain ⟨t, rfl⟩ := ry
  obtain ⟨its, r, ⟨⟨cls, dd, data, sl⟩, ho, hc, n, hd⟩, hs⟩ := I.tuple hT
  simp only at hc hd
  subst hc hd
  have hle : its.length = xs.length := r.length.symm
  have hn : its ≠ [] := fun e => hne (List.eq_nil_of_length_eq_zero (by rw [← hle, e]; rfl))
  have hi : its.toArray.isEmpty = false := by
    cases its with
    | nil => exact absurd rfl hn
    | cons a b => rfl
  have hsz0 : its.toArray.size = xs.length := by rw [List.size_toArray, hle]
  have bd : k.toNat * xs.length ≤ 1000000 := Nat.mul_le_mul (show k.toNat ≤ 1000 by omega) hz
  have hm : ((its.toArray.size : Nat) : Int) * k ≤ 1000000 := by
    rw [hsz0]
    have := Int.mul_le_mul_of_nonneg_right (show ((xs.length : Nat) : Int) ≤ 1000 by omega) (show (0 : Int) ≤ k by omega)
    omega
  have flen : (List.replicate k.toNat its).flatten.length ≤ sizeLine := by
    rw [PyProof.Rows.lm_len_rep_flat, hle, sizeLine_eq]; omega
  have c0 : (decide (k < -(2 ^ 63)) || decide (k ≥ 2 ^ 63)) = false := by
    rw [decide_eq_false (by omega), decide_eq_false (by omega)] <;> rfl
  have c1 : (its.toArray.isEmpty || k == 1) = false := by
    rw [hi, Bool.false_or]; exact beq_eq_false_iff_ne.mpr (by omega)
  have c2 : (decide (k ≤ 0) || its.toArray.isEmpty) = false := by
    rw [hi, Bool.or_false]; exact decide_eq_false (by omega)
  have c4 : Builtin.Tuple.tupleTooMany (((its.toArray.size : Nat) : Int) * k) = false := by
    unfold Builtin.Tuple.tupleTooMany
    rw [sizeLine_eq]
    exact decide_eq_false (by omega)
  refine wpAny_binaryOp_repeat_ref (T := "tuple") (U := "int") (by decide) ⟨_, ho, rfl⟩ (fun s' => typeIs_int s' k t) noFill_tuple_mul PySem.F.fills_int_mul PySem.F.slot_int_rmul repeat_tuple PySem.F.slot_int_index.lookup
    (call_meets PySem.F.slot_int_rmul (typeIs_int s k t) PySem.F.entry_int_rmul (PySem.F.args_int_rmul_2 _ _) (int_rmul_tuple k t l its.toArray n dd sl)
      ⟨ho, rfl, ⟨_, ho, rfl⟩, call_meets PySem.F.slot_tuple_mul ⟨_, ho, rfl⟩ PySem.F.entry_tuple_mul (PySem.F.args_tuple_mul_2 _ _) (tuple_mulW l its.toArray n dd sl k t c0 c1 c2 (by omega) c4 (by rw [size_rep, List.size_toArray]; exact flen)) ⟨ho, ?_⟩⟩)
  rw [size_rep]
  exact ⟨.ref s.heap.objs.size, _, I.laid (t' := s.toks) (o := KTup _ (List.replicate k.toNat xs).flatten) (fun b ob q => Heap.get?_push_of_some _ q) (Nat.le_refl _) (ktup_ok (Heap.get?_push_size _ rfl) (by rw [PyProof.Rows.lm_len_rep_flat, sizeLine_eq]; omega) (r.rep k.toNat)), rfl, q _ _ (I.hok.fresh (Nat.le_refl _))⟩
end
end Z

set_option Elab.async false
set_option linter.all false
set_option maxRecDepth 100000
/-! Z2: what a deep value says of a value in the abstract heap; how heaps grow. -/
namespace Z
open PySem PySem.Spec PyProof.Rows L2

/-- a list that stays as it is: locked, or an object of the module -/
def SqF (K : PySem.W.Frag) (H : Hp) (a : Addr) (xs : List V) : Prop :=
  (∃ o, H a = some (.frz o (.lst xs))) ∨
    ∃ (o : Obj) (its : Array Value) (n : Nat), K.lookup a = some o ∧ o.cls = .type "list" ∧ o.dict = none ∧ o.data = .seq its n ∧ its.size ≤ sizeLine ∧ Vals xs its.toList
theorem SqF.sq {K : PySem.W.Frag} {H : Hp} {a : Addr} {xs : List V} (h : SqF K H a xs) : SqL K H a xs := by
  rcases h with ⟨o, h⟩ | h
  · exact .inl (.inr ⟨o, h⟩)
  · exact .inr h
mutual
/-- the key that a deep value is -/
def nk : D → NestedKey
  | .int i => .num i
  | .tup xs => .tup (nks xs)
  | _ => .none
def nks : List D → List NestedKey
  | [] => []
  | x :: xs => nk x :: nks xs
end
/-- the raw dict at a: keys, the places of their tuples, values -/
def RawD (a : Addr) (xs : List (NestedKey × Addr × Value)) : HO := .ext fun h => (a == sysModules) = false ∧ ∃ (o : Obj) (es : Array DictEntry) (ep : Nat), h.get? a = some o ∧ o.ExactDict ∧ o.data = .dict es ep ∧ ∀ (P : Program) (w : World), es.toList = xs.map (entryOfKey (nestedKind P w))
section
variable (K : PySem.W.Frag) (mg : Str → Option Value) (φ : List Addr) (H : Hp)
mutual
inductive Den : V → D → Prop
  | non : Den .non .non
  | bl (b : Bool) : Den (.bl b) (.bl b)
  | int (i : Int) : Den (.int i) (.int i)
  | str (x : Str) : Den (.str x) (.str x)
  | tup {a : Addr} {vs : List V} {ds : List D} : SqK K H a vs → Dens vs ds → Den (.ref a) (.tup ds)
  | wt {a : Addr} {vs : List V} {ds : List D} : SqT K H a vs → Dens vs ds → Den (.ref a) (.wt ds)
  | fz {a : Addr} {vs : List V} {ds : List D} : SqF K H a vs → Dens vs ds → Den (.ref a) (.fz ds)
  | ref {a : Addr} {n : Nat} : φ[n]? = some a → Den (.ref a) (.ref n)
  | fn {a : Addr} {x : Str} : mg x = some (.ref a) → Den (.ref a) (.fn x)
inductive Dens : List V → List D → Prop
  | nil : Dens [] []
  | cons {v : V} {d : D} {vs : List V} {ds : List D} : Den v d → Dens vs ds → Dens (v :: vs) (d :: ds)
end
def KD : List (Key × V) → List (Key × D) → Prop := Paired fun p q => p.1 = q.1 ∧ Den K mg φ H p.2 q.2
def PDr (x : NestedKey × Addr × Value) (p : D × D) : Prop := x.1 = nk p.1 ∧ keyT p.1 = true ∧ Den K mg φ H (.ref x.2.1) p.1 ∧ ∃ v, RelV v x.2.2 ∧ Den K mg φ H v p.2
def PD : List (NestedKey × Addr × Value) → List (D × D) → Prop := Paired (PDr K mg φ H)
def ObjD (a : Addr) : O → Prop
  | .lst xs => ∃ vs, H a = some (.lst vs) ∧ Dens K mg φ H vs xs
  | .dk kvs => ∃ vs, H a = some (.dK vs) ∧ KD K mg φ H vs kvs
  | .dd kvs => ∃ xs, H a = some (RawD a xs) ∧ xs.length ≤ sizeLine ∧ (xs.map (·.1)).Nodup ∧ PD K mg φ H xs kvs
def DenW : V → W → Prop
  | v, .d x => Den K mg φ H v x
  | v, .tmp xs => ∃ a vs, v = .ref a ∧ a ∉ φ ∧ H a = some (.lst vs) ∧ Dens K mg φ H vs xs
end

def Stb : HO → Prop
  | .tup _ => True
  | .frz _ _ => True
  | _ => False

structure StOk (K : PySem.W.Frag) (mg : Str → Option Value) (φ : List Addr) (S : Sto) (H : Hp) : Prop where
  len : φ.length = S.length
  nd : φ.Nodup
  obj : ∀ (n : Nat) (a : Addr) (o : O), φ[n]? = some a → S[n]? = some o → ObjD K mg φ H a o
structure Evo (φ : List Addr) (H : Hp) (φ' : List Addr) (H' : Hp) : Prop where
  ext : ∃ ψ, φ' = φ ++ ψ ∧ ∀ a ∈ ψ, H a = none
  out : ∀ a o, H a = some o → a ∉ φ → H' a = some o
  stb : ∀ a u, Stb u → H a = some u → H' a = some u
  thr : ∀ a, H' a = none → H a = none

section
variable {K : PySem.W.Frag} {mg : Str → Option Value} {φ φ' φ'' : List Addr} {H H' H'' : Hp} {S : Sto}

theorem Evo.refl (φ : List Addr) (H : Hp) : Evo φ H φ H := ⟨⟨[], by simp, by simp⟩, fun _ _ h _ => h, fun _ _ _ h => h, fun _ h => h⟩
theorem Evo.trans (a : Evo φ H φ' H') (b : Evo φ' H' φ'' H'') : Evo φ H φ'' H'' := by
  obtain ⟨ψ, rfl, hψ⟩ := a.ext
  obtain ⟨χ, rfl, hχ⟩ := b.ext
  refine ⟨⟨ψ ++ χ, by simp, fun x hx => ?_⟩, fun x o h hn => ?_, fun x u hu h => b.stb x u hu (a.stb x u hu h), fun x h => a.thr x (b.thr x h)⟩
  · rcases List.mem_append.mp hx with h | h
    · exact hψ x h
    · exact a.thr x (hχ x h)
  · refine b.out x o (a.out x o h hn) fun hx => ?_
    rcases List.mem_append.mp hx with z | z
    · exact hn z
    · rw [hψ x z] at h; cases h
theorem Evo.pre (a : Evo φ H φ' H') {n : Nat} {x : Addr} (h : φ[n]? = some x) : φ'[n]? = some x := by
  obtain ⟨ψ, rfl, _⟩ := a.ext
  have : n < φ.length := by
    rcases Nat.lt_or_ge n φ.length with z | z
    · exact z
    · rw [List.getElem?_eq_none z] at h; cases h
  rw [List.getElem?_append_left this]; exact h
theorem rd_stb {a : Addr} {u : HO} (e : Evo φ H φ' H') (hs : Stb u) (r : Rd H a u) : Rd H' a u := by
  rcases r with r | ⟨o, r⟩
  · exact .inl (e.stb _ _ hs r)
  · exact .inr ⟨o, e.stb _ (.frz o u) trivial r⟩
theorem sqT_evo {a : Addr} {vs : List V} (e : Evo φ H φ' H') (h : SqT K H a vs) : SqT K H' a vs := by
  rcases h with h | h
  · exact .inl (rd_stb e trivial h)
  · exact .inr h
theorem sqK_evo {a : Addr} {vs : List V} (e : Evo φ H φ' H') (h : SqK K H a vs) : SqK K H' a vs := by
  rcases h with ⟨its, h⟩ | h
  · exact .inl ⟨its, e.stb _ (.frz _ _) trivial h⟩
  · exact .inr h
theorem sqF_evo {a : Addr} {vs : List V} (e : Evo φ H φ' H') (h : SqF K H a vs) : SqF K H' a vs := by
  rcases h with ⟨o, h⟩ | h
  · exact .inl ⟨o, e.stb _ (.frz o _) trivial h⟩
  · exact .inr h
mutual
theorem Den.evo (e : Evo φ H φ' H') : ∀ {v : V} {d : D}, Den K mg φ H v d → Den K mg φ' H' v d
  | _, _, .non => .non
  | _, _, .bl b => .bl b
  | _, _, .int i => .int i
  | _, _, .str x => .str x
  | _, _, .tup h hs => .tup (sqK_evo e h) (Dens.evo e hs)
  | _, _, .wt h hs => .wt (sqT_evo e h) (Dens.evo e hs)
  | _, _, .fz h hs => .fz (sqF_evo e h) (Dens.evo e hs)
  | _, _, .ref h => .ref (e.pre h)
  | _, _, .fn h => .fn h
theorem Dens.evo (e : Evo φ H φ' H') : ∀ {vs : List V} {ds : List D}, Dens K mg φ H vs ds → Dens K mg φ' H' vs ds
  | _, _, .nil => .nil
  | _, _, .cons h hs => .cons (Den.evo e h) (Dens.evo e hs)
end

theorem Dens.length : ∀ {vs : List V} {ds : List D}, Dens K mg φ H vs ds → vs.length = ds.length
  | _, _, .nil => rfl
  | _, _, .cons _ h => by rw [List.length_cons, List.length_cons, Dens.length h]
theorem Dens.get : ∀ {vs : List V} {ds : List D} {i : Nat} {d : D}, Dens K mg φ H vs ds → ds[i]? = some d → ∃ v, vs[i]? = some v ∧ Den K mg φ H v d
  | _, _, _, _, .nil, e => by simp at e
  | _, _, 0, _, .cons h _, e => by simp at e; subst e; exact ⟨_, rfl, h⟩
  | _, _, i + 1, d, .cons _ h, e => by
    obtain ⟨v, h1, h2⟩ := Dens.get (i := i) (d := d) h (by simpa using e)
    exact ⟨v, by simpa using h1, h2⟩
theorem Dens.getV : ∀ {vs : List V} {ds : List D} {i : Nat} {v : V}, Dens K mg φ H vs ds → vs[i]? = some v → ∃ d, ds[i]? = some d ∧ Den K mg φ H v d
  | _, _, _, _, .nil, e => by simp at e
  | _, _, 0, _, .cons h _, e => by simp at e; subst e; exact ⟨_, rfl, h⟩
  | _, _, i + 1, d, .cons _ h, e => by
    obtain ⟨v, h1, h2⟩ := Dens.getV (i := i) (v := d) h (by simpa using e)
    exact ⟨v, by simpa using h1, h2⟩
theorem Dens.append : ∀ {vs us : List V} {ds es : List D}, Dens K mg φ H vs ds → Dens K mg φ H us es → Dens K mg φ H (vs ++ us) (ds ++ es)
  | _, _, _, _, .nil, h => h
  | _, _, _, _, .cons a b, h => .cons a (Dens.append b h)
theorem Dens.take : ∀ (n : Nat) {vs : List V} {ds : List D}, Dens K mg φ H vs ds → Dens K mg φ H (vs.take n) (ds.take n)
  | 0, _, _, _ => .nil
  | _ + 1, _, _, .nil => .nil
  | n + 1, _, _, .cons a b => .cons a (Dens.take n b)
theorem Dens.drop : ∀ (n : Nat) {vs : List V} {ds : List D}, Dens K mg φ H vs ds → Dens K mg φ H (vs.drop n) (ds.drop n)
  | 0, _, _, h => h
  | _ + 1, _, _, .nil => .nil
  | n + 1, _, _, .cons a b => Dens.drop n b
theorem Dens.set : ∀ (n : Nat) {vs : List V} {ds : List D} {v : V} {d : D}, Dens K mg φ H vs ds → Den K mg φ H v d → Dens K mg φ H (vs.set n v) (ds.set n d)
  | _, _, _, _, _, .nil, _ => .nil
  | 0, _, _, _, _, .cons _ b, h => .cons h b
  | n + 1, _, _, _, _, .cons a b, h => .cons a (Dens.set n b h)
theorem Dens.snoc {vs : List V} {ds : List D} {v : V} {d : D} (h : Dens K mg φ H vs ds) (h' : Den K mg φ H v d) : Dens K mg φ H (vs ++ [v]) (ds ++ [d]) := h.append (.cons h' .nil)
theorem Dens.isEmpty {vs : List V} {ds : List D} (h : Dens K mg φ H vs ds) : vs.isEmpty = ds.isEmpty := by cases h <;> rfl
theorem Dens.flat : ∀ (k : Nat) {vs : List V} {ds : List D}, Dens K mg φ H vs ds → Dens K mg φ H (List.replicate k vs).flatten (List.replicate k ds).flatten
  | 0, _, _, _ => .nil
  | k + 1, _, _, h => by
    rw [List.replicate_succ, List.replicate_succ, List.flatten_cons, List.flatten_cons]
    exact h.append (Dens.flat k h)
theorem Dens.ints : ∀ {vs : List V} {ds : List D} {ns : List Int}, Dens K mg φ H vs ds → intsOf ds = some ns → vs = ns.map V.int
  | _, _, _, .nil, e => by cases e; rfl
  | _, _, ns, .cons (d := d) (ds := ds) a b, e => by
    cases d with
    | int i =>
      cases a
      unfold intsOf at e
      cases h : intsOf ds with
      | none => rw [h] at e; cases e
      | some ms =>
        rw [h] at e
        cases e
        rw [List.map_cons, Dens.ints b h]
    | _ => cases e
theorem Dens.bls : ∀ {vs : List V} {ds : List D} {ns : List Bool}, Dens K mg φ H vs ds → blsOf ds = some ns → vs = ns.map V.bl
  | _, _, _, .nil, e => by cases e; rfl
  | _, _, ns, .cons (d := d) (ds := ds) a b, e => by
    cases d with
    | bl i =>
      cases a
      unfold blsOf at e
      cases h : blsOf ds with
      | none => rw [h] at e; cases e
      | some ms =>
        rw [h] at e
        cases e
        rw [List.map_cons, Dens.bls b h]
    | _ => cases e
theorem Dens.of_ints : ∀ ns : List Int, Dens K mg φ H (ns.map V.int) (ns.map D.int)
  | [] => .nil
  | n :: ns => .cons (.int n) (Dens.of_ints ns)

theorem KD.evo {vs : List (Key × V)} {kvs : List (Key × D)} (e : Evo φ H φ' H') (h : KD K mg φ H vs kvs) : KD K mg φ' H' vs kvs := Paired.mapP h fun _ _ z => ⟨z.1, z.2.evo e⟩
theorem PD.evo {xs : List (NestedKey × Addr × Value)} {kvs : List (D × D)} (e : Evo φ H φ' H') (h : PD K mg φ H xs kvs) : PD K mg φ' H' xs kvs := Paired.mapP h fun _ _ z => ⟨z.1, z.2.1, z.2.2.1.evo e, let ⟨v, r, d⟩ := z.2.2.2; ⟨v, r, d.evo e⟩⟩
/-- an object that stands as it stood -/
theorem ObjD.evo {a : Addr} {o : O} (e : Evo φ H φ' H') (s : H' a = H a) (h : ObjD K mg φ H a o) : ObjD K mg φ' H' a o := by
  cases o with
  | lst xs => obtain ⟨vs, h1, h2⟩ := h; exact ⟨vs, by rw [s]; exact h1, h2.evo e⟩
  | dk kvs => obtain ⟨vs, h1, h2⟩ := h; exact ⟨vs, by rw [s]; exact h1, h2.evo e⟩
  | dd kvs => obtain ⟨xs, h1, h2, h3, h4⟩ := h; exact ⟨xs, by rw [s]; exact h1, h2, h3, h4.evo e⟩
theorem ObjD.some {a : Addr} {o : O} (h : ObjD K mg φ H a o) : ∃ u, H a = some u ∧ ¬ Stb u := by
  cases o with
  | lst xs => obtain ⟨vs, h1, h2⟩ := h; exact ⟨_, h1, fun z => z⟩
  | dk kvs => obtain ⟨vs, h1, h2⟩ := h; exact ⟨_, h1, fun z => z⟩
  | dd kvs => obtain ⟨vs, h1, h2⟩ := h; exact ⟨_, h1, fun z => z⟩
theorem StOk.at (h : StOk K mg φ S H) {n : Nat} {o : O} (e : S[n]? = some o) : ∃ a, φ[n]? = some a ∧ ObjD K mg φ H a o := by
  have hn : n < S.length := by
    rcases Nat.lt_or_ge n S.length with z | z
    · exact z
    · rw [List.getElem?_eq_none z] at e; cases e
  have hp : n < φ.length := by rw [h.len]; exact hn
  exact ⟨φ[n], by simp [hp], h.obj n _ o (by simp [hp]) e⟩
theorem StOk.at' (h : StOk K mg φ S H) {n : Nat} {a : Addr} (e : φ[n]? = some a) : ∃ o, S[n]? = some o ∧ ObjD K mg φ H a o := by
  have hn : n < φ.length := by
    rcases Nat.lt_or_ge n φ.length with z | z
    · exact z
    · rw [List.getElem?_eq_none z] at e; cases e
  have hp : n < S.length := by rw [← h.len]; exact hn
  exact ⟨S[n], by simp [hp], h.obj n _ _ e (by simp [hp])⟩
theorem StOk.mem (h : StOk K mg φ S H) {a : Addr} (e : a ∈ φ) : ∃ u, H a = some u ∧ ¬ Stb u := by
  obtain ⟨n, hn, rfl⟩ := List.mem_iff_getElem.mp e
  obtain ⟨o, _, ho⟩ := h.at' (n := n) (a := φ[n]) (by simp [hn])
  exact ho.some
theorem StOk.fresh (h : StOk K mg φ S H) {a : Addr} (e : H a = none) : a ∉ φ := fun z => by
  obtain ⟨u, hu, _⟩ := h.mem z
  rw [e] at hu; cases hu
theorem StOk.stbn (h : StOk K mg φ S H) {a : Addr} {u : HO} (hs : Stb u) (e : H a = some u) : a ∉ φ := fun z => by
  obtain ⟨v, hv, nv⟩ := h.mem z
  rw [e] at hv; cases hv; exact nv hs

/-- a new object that the store does not know -/
theorem Evo.new {p : Addr} {o : HO} (h : H p = none) : Evo φ H φ (upd H p o) :=
  ⟨⟨[], by simp, by simp⟩, fun a u e _ => by rw [upd_ne (ne_of_none e h)]; exact e, fun a u _ e => by rw [upd_ne (ne_of_none e h)]; exact e,
    fun a e => by
      by_cases z : a = p
      · rw [z]; exact h
      · rw [upd_ne z] at e; exact e⟩
theorem StOk.new {p : Addr} {o : HO} (s : StOk K mg φ S H) (h : H p = none) : StOk K mg φ S (upd H p o) :=
  ⟨s.len, s.nd, fun n a u e1 e2 => (s.obj n a u e1 e2).evo (Evo.new h) (upd_ne fun z => by
    obtain ⟨w, hw, _⟩ := (s.obj n a u e1 e2).some
    rw [z, h] at hw; cases hw)⟩
/-- the object at a comes into the store -/
theorem Evo.put {φ₀ : List Addr} {H₀ : Hp} {a : Addr} (e : Evo φ₀ H₀ φ H) (h : H₀ a = none) : Evo φ₀ H₀ (φ ++ [a]) H := by
  obtain ⟨ψ, rfl, hψ⟩ := e.ext
  refine ⟨⟨ψ ++ [a], by simp, fun x hx => ?_⟩, e.out, e.stb, e.thr⟩
  rcases List.mem_append.mp hx with z | z
  · exact hψ x z
  · have : x = a := by simpa using z
    rw [this]; exact h
/-- more of the store's places alone -/
theorem Den.more {a : Addr} : ∀ {v : V} {d : D}, Den K mg φ H v d → Den K mg (φ ++ [a]) H v d
  | _, _, .non => .non
  | _, _, .bl b => .bl b
  | _, _, .int i => .int i
  | _, _, .str x => .str x
  | _, _, .tup h hs => .tup h (go hs)
  | _, _, .wt h hs => .wt h (go hs)
  | _, _, .fz h hs => .fz h (go hs)
  | _, _, .ref (n := n) h => .ref (by
    have : n < φ.length := by
      rcases Nat.lt_or_ge n φ.length with z | z
      · exact z
      · rw [List.getElem?_eq_none z] at h; cases h
    rw [List.getElem?_append_left this]; exact h)
  | _, _, .fn h => .fn h
where go : ∀ {vs : List V} {ds : List D}, Dens K mg φ H vs ds → Dens K mg (φ ++ [a]) H vs ds
  | _, _, .nil => .nil
  | _, _, .cons h hs => .cons (Den.more h) (go hs)
theorem Dens.more {a : Addr} : ∀ {vs : List V} {ds : List D}, Dens K mg φ H vs ds → Dens K mg (φ ++ [a]) H vs ds
  | _, _, .nil => .nil
  | _, _, .cons h hs => .cons h.more (Dens.more hs)
theorem ObjD.more {a b : Addr} {o : O} (h : ObjD K mg φ H b o) : ObjD K mg (φ ++ [a]) H b o := by
  cases o with
  | lst xs => obtain ⟨vs, h1, h2⟩ := h; exact ⟨vs, h1, h2.more⟩
  | dk kvs => obtain ⟨vs, h1, h2⟩ := h; exact ⟨vs, h1, Paired.mapP h2 fun _ _ z => ⟨z.1, z.2.more⟩⟩
  | dd kvs => obtain ⟨xs, h1, h2, h3, h4⟩ := h; exact ⟨xs, h1, h2, h3, Paired.mapP h4 fun _ _ z => ⟨z.1, z.2.1, z.2.2.1.more, let ⟨v, r, d⟩ := z.2.2.2; ⟨v, r, d.more⟩⟩⟩
theorem StOk.put {a : Addr} {o : O} (s : StOk K mg φ S H) (h : a ∉ φ) (ho : ObjD K mg φ H a o) : StOk K mg (φ ++ [a]) (S ++ [o]) H := by
  refine ⟨by simp [s.len], ?_, fun n b u e1 e2 => ?_⟩
  · rw [List.nodup_append]
    refine ⟨s.nd, by simp, fun x hx y hy z => ?_⟩
    have : y = a := by simpa using hy
    exact h (by rw [← this, ← z]; exact hx)
  · rcases Nat.lt_trichotomy n φ.length with z | z | z
    · rw [List.getElem?_append_left z] at e1
      rw [List.getElem?_append_left (by rw [← s.len]; exact z)] at e2
      exact (s.obj n b u e1 e2).more
    · subst z
      rw [List.getElem?_append_right (Nat.le_refl _), Nat.sub_self] at e1
      rw [s.len, List.getElem?_append_right (Nat.le_refl _), Nat.sub_self] at e2
      cases e1; cases e2
      exact ho.more
    · rw [List.getElem?_eq_none (by simp; omega)] at e1; cases e1
/-- an object of the store is written -/
theorem Evo.write {a : Addr} {u : HO} (s : StOk K mg φ S H) (h : a ∈ φ) : Evo φ H φ (upd H a u) := by
  obtain ⟨w, hw, nw⟩ := s.mem h
  refine ⟨⟨[], by simp, by simp⟩, fun b o e n => ?_, fun b o hs e => ?_, fun b e => ?_⟩
  · rw [upd_ne (fun z : b = a => n (by rw [z]; exact h))]; exact e
  · rw [upd_ne (fun z : b = a => s.stbn hs e (by rw [z]; exact h))]; exact e
  · by_cases z : b = a
    · subst z; rw [upd_same] at e; cases e
    · rw [upd_ne z] at e; exact e
theorem StOk.write {n : Nat} {a : Addr} {u : HO} {o : O} (s : StOk K mg φ S H) (h : φ[n]? = some a) (ho : ObjD K mg φ (upd H a u) a o) : StOk K mg φ (S.set n o) (upd H a u) := by
  have hm : a ∈ φ := List.mem_of_getElem? h
  refine ⟨by rw [List.length_set]; exact s.len, s.nd, fun m b w e1 e2 => ?_⟩
  by_cases hmn : n = m
  · subst hmn
    rw [h] at e1; cases e1
    have hn : n < S.length := by
      rw [← s.len]
      rcases Nat.lt_or_ge n φ.length with z | z
      · exact z
      · rw [List.getElem?_eq_none z] at h; cases h
    rw [List.getElem?_set_self hn] at e2
    cases e2
    exact ho
  · rw [List.getElem?_set_ne hmn] at e2
    refine (s.obj m b w e1 e2).evo (Evo.write s hm) (upd_ne fun z => hmn ?_)
    subst z
    have h1 : n < φ.length := by
      rcases Nat.lt_or_ge n φ.length with z | z
      · exact z
      · rw [List.getElem?_eq_none z] at h; cases h
    have h2 : m < φ.length := by
      rcases Nat.lt_or_ge m φ.length with z | z
      · exact z
      · rw [List.getElem?_eq_none z] at e1; cases e1
    have g1 : φ[n] = b := by simpa [h1] using h
    have g2 : φ[m] = b := by simpa [h2] using e1
    by_cases hlt : n < m
    · exact absurd (g1.trans g2.symm) (List.pairwise_iff_getElem.mp s.nd n m h1 h2 hlt)
    · by_cases hgt : m < n
      · exact absurd (g2.trans g1.symm) (List.pairwise_iff_getElem.mp s.nd m n h2 h1 hgt)
      · omega

/-! ### values and lists that nothing else holds -/
theorem DenW.evo {v : V} {w : W} (e : Evo φ H φ' H') (h : DenW K mg φ H v w) : DenW K mg φ' H' v w := by
  cases w with
  | d x => exact Den.evo e h
  | tmp xs =>
    obtain ⟨a, vs, rfl, hn, ha, hs⟩ := h
    obtain ⟨ψ, rfl, hψ⟩ := id e.ext
    refine ⟨a, vs, rfl, fun z => ?_, e.out a _ ha hn, hs.evo e⟩
    rcases List.mem_append.mp z with z | z
    · exact hn z
    · rw [hψ a z] at ha; cases ha
/-- a list made since H -/
def FrW (H : Hp) : V → W → Prop
  | v, .tmp _ => ∃ a, v = .ref a ∧ H a = none
  | _, _ => True
theorem FrW.back {v : V} {w : W} (t : ∀ a, H' a = none → H a = none) (h : FrW H' v w) : FrW H v w := by
  cases w with
  | d x => trivial
  | tmp xs => obtain ⟨a, e, h⟩ := h; exact ⟨a, e, t a h⟩
def DenWs (K : PySem.W.Frag) (mg : Str → Option Value) (φ : List Addr) (H : Hp) : List V → List W → Prop := Paired (DenW K mg φ H)
def tmps : List V → List W → List Addr
  | .ref a :: vs, .tmp _ :: ws => a :: tmps vs ws
  | _ :: vs, _ :: ws => tmps vs ws
  | _, _ => []
def FrWs (H : Hp) (vs : List V) (ws : List W) : Prop := (tmps vs ws).Nodup ∧ ∀ a ∈ tmps vs ws, H a = none
theorem DenWs.evo {vs : List V} {ws : List W} (e : Evo φ H φ' H') (h : DenWs K mg φ H vs ws) : DenWs K mg φ' H' vs ws := Paired.mapP h fun _ _ z => z.evo e
theorem tmps_d {v : V} {x : D} {vs : List V} {ws : List W} : tmps (v :: vs) (.d x :: ws) = tmps vs ws := by
  cases v <;> rfl
theorem FrWs.cons {H0 H1 : Hp} {v : V} {w : W} {vs : List V} {ws : List W} (t : ∀ a, H1 a = none → H0 a = none) (hw : DenW K mg φ H1 v w) (h : FrW H0 v w) (hs : FrWs H1 vs ws) : FrWs H0 (v :: vs) (w :: ws) := by
  cases w with
  | d x =>
    unfold FrWs
    rw [tmps_d]
    exact ⟨hs.1, fun a ha => t a (hs.2 a ha)⟩
  | tmp xs =>
    obtain ⟨a, rfl, ha⟩ := h
    obtain ⟨b, us, e, _, hb, _⟩ := hw
    cases e
    refine ⟨List.nodup_cons.mpr ⟨fun z => ?_, hs.1⟩, fun x hx => ?_⟩
    · rw [hs.2 a z] at hb; cases hb
    · rcases List.mem_cons.mp hx with rfl | z
      · exact ha
      · exact t x (hs.2 x z)
theorem DenWs.more {a : Addr} : ∀ {vs : List V} {ws : List W}, DenWs K mg φ H vs ws → a ∉ tmps vs ws → DenWs K mg (φ ++ [a]) H vs ws
  | _, _, .nil, _ => .nil
  | _, _, .cons (a := v) (b := w) (l₁ := vs) (l₂ := ws) h hs, n => by
    cases w with
    | d x =>
      rw [tmps_d] at n
      exact .cons (Den.more (show Den K mg φ H v x from h)) (DenWs.more hs n)
    | tmp xs =>
      obtain ⟨b, us, rfl, hb, h1, h2⟩ := h
      have n1 : a ≠ b := fun z => n (by rw [z]; exact List.mem_cons_self)
      have n2 : a ∉ tmps vs ws := fun z => n (List.mem_cons_of_mem _ z)
      refine .cons ⟨b, us, rfl, fun z => ?_, h1, h2.more⟩ (DenWs.more hs n2)
      rcases List.mem_append.mp z with z | z
      · exact hb z
      · exact n1 (by simpa using z : b = a).symm
/-- into the store -/
theorem mat_ok {φ₀ : List Addr} {H₀ : Hp} {v : V} {w : W} (e : Evo φ₀ H₀ φ H) (s : StOk K mg φ S H) (h : DenW K mg φ H v w) (f : FrW H₀ v w) :
    ∃ φ', Evo φ₀ H₀ φ' H ∧ StOk K mg φ' (matW w S).2 H ∧ Den K mg φ' H v (matW w S).1 ∧ (φ' = φ ∨ ∃ a xs, v = .ref a ∧ w = .tmp xs ∧ φ' = φ ++ [a]) := by
  cases w with
  | d x => exact ⟨φ, e, s, h, .inl rfl⟩
  | tmp xs =>
    obtain ⟨a, vs, rfl, hn, ha, hs⟩ := h
    obtain ⟨b, eb, hb⟩ := f
    cases eb
    refine ⟨φ ++ [a], e.put hb, s.put hn ⟨vs, ha, hs⟩, .ref ?_, .inr ⟨a, xs, rfl, rfl, rfl⟩⟩
    show (φ ++ [a])[S.length]? = some a
    rw [← s.len, List.getElem?_append_right (Nat.le_refl _), Nat.sub_self]; rfl
theorem mats_ok {φ₀ : List Addr} {H₀ : Hp} : ∀ {vs : List V} {ws : List W} {φ : List Addr} {S : Sto}, Evo φ₀ H₀ φ H → StOk K mg φ S H → DenWs K mg φ H vs ws → FrWs H₀ vs ws →
    ∃ φ', Evo φ₀ H₀ φ' H ∧ StOk K mg φ' (matsW ws S).2 H ∧ Dens K mg φ' H vs (matsW ws S).1 ∧ (∀ u x, Den K mg φ H u x → Den K mg φ' H u x)
  | _, _, φ, S, e, s, .nil, f => ⟨φ, e, s, .nil, fun _ _ z => z⟩
  | _, _, φ, S, e, s, .cons (a := v) (b := w) (l₁ := vs) (l₂ := ws) h hs, f => by
    cases w with
    | d x =>
      unfold FrWs at f
      rw [tmps_d] at f
      obtain ⟨φ2, e2, s2, d2, m2⟩ := mats_ok e s hs f
      exact ⟨φ2, e2, s2, .cons (m2 _ _ h) d2, m2⟩
    | tmp xs =>
      obtain ⟨a, us, rfl, hn, ha, hd⟩ := h
      have e1 : Evo φ₀ H₀ (φ ++ [a]) H := e.put (f.2 a List.mem_cons_self)
      have s1 : StOk K mg (φ ++ [a]) (S ++ [.lst xs]) H := s.put hn ⟨us, ha, hd⟩
      have nd := List.nodup_cons.mp f.1
      obtain ⟨φ2, e2, s2, d2, m2⟩ := mats_ok e1 s1 (DenWs.more hs nd.1) ⟨nd.2, fun x hx => f.2 x (List.mem_cons_of_mem _ hx)⟩
      refine ⟨φ2, e2, s2, .cons (m2 _ _ (.ref ?_)) d2, fun u x z => m2 u x z.more⟩
      show (φ ++ [a])[S.length]? = some a
      rw [← s.len, List.getElem?_append_right (Nat.le_refl _), Nat.sub_self]; rfl
end
end Z

set_option Elab.async false
set_option linter.all false
set_option maxRecDepth 100000
/-! Z3: operators, comparisons, subscripts, built-ins by deep values. -/
namespace Z
open PySem PySem.Spec PyProof.Rows L2

section
variable {K : PySem.W.Frag} {mg : Str → Option Value} {φ φ' : List Addr} {H H' : Hp} {S : Sto}
/-- what may follow a value z -/
def Kont (K : PySem.W.Frag) (mg : Str → Option Value) (φ : List Addr) (S : Sto) (H : Hp) (z : W) (Q : VK) : Prop :=
  ∀ t H', Evo φ H φ H' → StOk K mg φ S H' → DenW K mg φ H' t z → FrW H t z → Q t H'
theorem Kont.old {x : D} {Q : VK} {t : V} (k : Kont K mg φ S H (.d x) Q) (s : StOk K mg φ S H) (h : Den K mg φ H t x) : Q t H := k t H (Evo.refl _ _) s h trivial
theorem Kont.tup {ds : List D} {vs : List V} {Q : VK} (k : Kont K mg φ S H (.d (.tup ds)) Q) (s : StOk K mg φ S H) (h : Dens K mg φ H vs ds) : ∀ p its, H p = none → Q (.ref p) (upd H p (KTup its vs)) := fun p its hp =>
  k _ _ (Evo.new hp) (s.new hp) (.tup (.inl ⟨its, upd_same⟩) (h.evo (Evo.new hp))) trivial
theorem Kont.lst {ds : List D} {vs : List V} {Q : VK} (k : Kont K mg φ S H (.tmp ds) Q) (s : StOk K mg φ S H) (h : Dens K mg φ H vs ds) : ∀ p, H p = none → Q (.ref p) (upd H p (.lst vs)) := fun p hp =>
  k _ _ (Evo.new hp) (s.new hp) ⟨p, vs, rfl, s.fresh hp, upd_same, h.evo (Evo.new hp)⟩ ⟨p, rfl, hp⟩

theorem LN_le {n : Nat} (h : n ≤ LN) : n ≤ sizeLine := Nat.le_trans h (by decide)
theorem LN_lt {n : Nat} (h : n < LN) : n < sizeLine := Nat.lt_of_lt_of_le h (by decide)

theorem lstOfW_ok {w : W} {v : V} {xs : List D} (s : StOk K mg φ S H) (h : DenW K mg φ H v w) (e : lstOfW S w = some xs) : ∃ a vs, v = .ref a ∧ H a = some (.lst vs) ∧ Dens K mg φ H vs xs := by
  cases w with
  | tmp ys => cases e; obtain ⟨a, vs, rfl, _, h1, h2⟩ := h; exact ⟨a, vs, rfl, h1, h2⟩
  | d x =>
    cases x with
    | ref n =>
      cases (show Den K mg φ H v (.ref n) from h) with
      | ref hn =>
        unfold lstOfW at e
        simp only at e
        split at e
        · next ys hs =>
          cases e
          obtain ⟨vs, h1, h2⟩ := s.obj _ _ _ hn hs
          exact ⟨_, vs, rfl, h1, h2⟩
        · cases e
    | _ => cases e
theorem lstOf_ok {w : W} {v : V} {xs : List D} (s : StOk K mg φ S H) (h : DenW K mg φ H v w) (e : lstOf S w = some xs) : ∃ a vs, v = .ref a ∧ SqL K H a vs ∧ Dens K mg φ H vs xs := by
  cases w with
  | tmp ys => cases e; obtain ⟨a, vs, rfl, _, h1, h2⟩ := h; exact ⟨a, vs, rfl, SqL.of h1, h2⟩
  | d x =>
    cases x with
    | ref n =>
      cases (show Den K mg φ H v (.ref n) from h) with
      | ref hn =>
        unfold lstOf at e
        simp only at e
        split at e
        · next ys hs =>
          cases e
          obtain ⟨vs, h1, h2⟩ := s.obj _ _ _ hn hs
          exact ⟨_, vs, rfl, SqL.of h1, h2⟩
        · cases e
    | fz ys =>
      cases e
      cases (show Den K mg φ H v (.fz _) from h) with
      | fz h1 h2 => exact ⟨_, _, rfl, h1.sq, h2⟩
    | _ => cases e
theorem seqOf_ok {w : W} {v : V} {xs : List D} (s : StOk K mg φ S H) (h : DenW K mg φ H v w) (e : seqOf S w = some xs) : ∃ a vs, v = .ref a ∧ (SqL K H a vs ∨ SqT K H a vs) ∧ Dens K mg φ H vs xs := by
  cases w with
  | d x =>
    cases x with
    | tup ys =>
      cases e
      cases (show Den K mg φ H v (.tup _) from h) with
      | tup h1 h2 => exact ⟨_, _, rfl, .inr h1.sq, h2⟩
    | _ => obtain ⟨a, vs, h1, h2, h3⟩ := lstOf_ok s h e; exact ⟨a, vs, h1, .inl h2, h3⟩
  | tmp ys => obtain ⟨a, vs, h1, h2, h3⟩ := lstOf_ok s h e; exact ⟨a, vs, h1, .inl h2, h3⟩

/-! ### as data -/
mutual
theorem Den.dp : ∀ {v : V} {d : D}, Den K mg φ H v d → d.py.canLay0 = true → Dp K H v d.py
  | _, _, .non, _ => .non
  | _, _, .bl b, _ => .bl b
  | _, _, .int i, _ => .int i
  | _, _, .str x, _ => .str x
  | _, _, .tup h hs, c => .tup h.sq (Dens.dp hs (by simpa [D.py, PyData.canLay0] using c))
  | _, _, .fz h hs, c => .lst h.sq (Dens.dp hs (by simpa [D.py, PyData.canLay0] using c))
  | _, _, .wt _ _, c => by simp [D.py, PyData.canLay0] at c
  | _, _, .ref _, c => by simp [D.py, PyData.canLay0] at c
  | _, _, .fn _, c => by simp [D.py, PyData.canLay0] at c
theorem Dens.dp : ∀ {vs : List V} {ds : List D}, Dens K mg φ H vs ds → PyData.canLayAll0 (D.pys ds) = true → DpAll K H vs (D.pys ds)
  | _, _, .nil, _ => .nil
  | _, _, .cons (d := d) (ds := ds) h hs, c => by
    have c' : d.py.canLay0 = true ∧ PyData.canLayAll0 (D.pys ds) = true := by simpa [D.pys, PyData.canLayAll0] using c
    exact .cons (Den.dp h c'.1) (Dens.dp hs c'.2)
end
theorem shaped_lay {d : PyData} (h : SeqAt.shaped d = true) : d.canLay0 = true := by
  unfold SeqAt.shaped at h
  simp only [Bool.and_eq_true] at h
  exact h.1
theorem DenW.dp {v : V} {w : W} (s : StOk K mg φ S H) (h : DenW K mg φ H v w) (c : (pyW S w).canLay0 = true) : Dp K H v (pyW S w) := by
  cases w with
  | tmp xs =>
    obtain ⟨a, vs, rfl, _, h1, h2⟩ := h
    exact .lst (SqL.of h1) (h2.dp (by simpa [pyW, PyData.canLay0] using c))
  | d x =>
    cases x with
    | ref n =>
      cases (show Den K mg φ H v (.ref n) from h) with
      | ref hn =>
        unfold pyW at c ⊢
        simp only at c ⊢
        split at c
        · next ys hs =>
          obtain ⟨vs, h1, h2⟩ := s.obj _ _ _ hn hs
          exact .lst (SqL.of h1) (h2.dp (by simpa [PyData.canLay0] using c))
        · simp [PyData.canLay0] at c
    | non => exact Den.dp (show Den K mg φ H v _ from h) c
    | bl b => exact Den.dp (show Den K mg φ H v _ from h) c
    | int i => exact Den.dp (show Den K mg φ H v _ from h) c
    | str i => exact Den.dp (show Den K mg φ H v _ from h) c
    | tup i => exact Den.dp (show Den K mg φ H v _ from h) c
    | fz i => exact Den.dp (show Den K mg φ H v _ from h) c
    | wt i => exact Den.dp (show Den K mg φ H v _ from h) c
    | fn i => exact Den.dp (show Den K mg φ H v _ from h) c
end

/-! ### binary operators -/
def opOf : Bop → Operator
  | .add => .Add | .sub => .Sub | .mul => .Mult | .fdiv => .FloorDiv | .mod => .Mod | .pow => .Pow | .shl => .LShift | .shr => .RShift | .band => .BitAnd | .bor => .BitOr | .bxor => .BitXor
def vBin (K : PySem.W.Frag) (mg : Str → Option Value) (o : Bop) : R2 := fun v u H Q => ∃ φ S x y z, StOk K mg φ S H ∧ DenW K mg φ H v x ∧ DenW K mg φ H u y ∧ binW S o x y = some z ∧ Kont K mg φ S H z Q
theorem big_log {a : Int} (h : a.natAbs < big) : a.natAbs.log2 < 1000 := PySem.Flt.log2_lt_of (by decide) h
section
variable {X : Cx}
theorem opI_ok (o : Bop) {a b c : Int} (h : binI o a b = some c) {pins : List (Addr × Obj)} {s : Shared} {σ : L2.St} {H : Hp} {v u : Value} {Q : VK} (I : Inv X pins σ H s) (rx : RelV (.int a) v) (ry : RelV (.int b) u) (q : Q (.int c) H) :
    wpAny (model X.prog X.w) X.A (binaryOp (opOf o) v u) (EP X pins σ Q) X.xe s := by
  cases o with
  | add => cases h; exact op_add pins s σ H _ _ v u Q I rx ry ⟨a, b, rfl, rfl, q⟩
  | sub => cases h; exact op_sub pins s σ H _ _ v u Q I rx ry ⟨a, b, rfl, rfl, q⟩
  | mul =>
    unfold binI at h
    simp only at h
    split at h
    · next hc =>
      cases h
      unfold mulOk sm64 at hc
      simp only [Bool.or_eq_true, Bool.and_eq_true, decide_eq_true_eq] at hc
      rcases hc with (hc | hc) | hc
      · exact op_mul pins s σ H _ _ v u Q I rx ry ⟨a, b, rfl, rfl, .inl hc, q⟩
      · exact op_mul pins s σ H _ _ v u Q I rx ry ⟨a, b, rfl, rfl, .inr hc, q⟩
      · exact op_mulW pins s σ H _ _ v u Q I rx ry ⟨a, b, rfl, rfl, by
          have h1 := big_log hc.1
          have h2 := big_log hc.2
          show _ < _
          omega, q⟩
    · cases h
  | fdiv =>
    unfold binI at h
    simp only at h
    split at h
    · next hc =>
      cases h
      unfold divOk at hc
      simp only [Bool.and_eq_true, decide_eq_true_eq] at hc
      exact op_fdivW pins s σ H _ _ v u Q I rx ry ⟨a, b, rfl, rfl, ⟨hc.1, by have := big_log hc.2; omega⟩, q⟩
    · cases h
  | mod =>
    unfold binI at h
    simp only at h
    split at h
    · next hc => cases h; exact op_mod pins s σ H _ _ v u Q I rx ry ⟨a, b, rfl, rfl, of_decide_eq_true hc, q⟩
    · cases h
  | pow =>
    unfold binI at h
    simp only at h
    split at h
    · next hc =>
      cases h
      unfold powOk at hc
      simp only [Bool.and_eq_true, decide_eq_true_eq] at hc
      exact op_pow pins s σ H _ _ v u Q I rx ry ⟨a, b, rfl, rfl, ⟨hc.1.1, hc.1.2, hc.2⟩, q⟩
    · cases h
  | shl =>
    unfold binI at h
    simp only at h
    split at h
    · next hc =>
      cases h
      unfold powOk at hc
      simp only [Bool.and_eq_true, decide_eq_true_eq] at hc
      exact op_shl pins s σ H _ _ v u Q I rx ry ⟨a, b, rfl, rfl, ⟨hc.1.1, hc.1.2, hc.2⟩, q⟩
    · cases h
  | shr =>
    unfold binI at h
    simp only at h
    split at h
    · next hc => cases h; exact op_shr pins s σ H _ _ v u Q I rx ry ⟨a, b, rfl, rfl, of_decide_eq_true hc, q⟩
    · cases h
  | band => cases h; exact op_and pins s σ H _ _ v u Q I rx ry ⟨a, b, rfl, rfl, q⟩
  | bor => cases h; exact op_or pins s σ H _ _ v u Q I rx ry ⟨a, b, rfl, rfl, q⟩
  | bxor => cases h; exact op_xor pins s σ H _ _ v u Q I rx ry ⟨a, b, rfl, rfl, q⟩
theorem Dens.nil_iff {K : PySem.W.Frag} {mg : Str → Option Value} {φ : List Addr} {H : Hp} {vs : List V} {ds : List D} (h : Dens K mg φ H vs ds) : vs = [] ↔ ds = [] := by
  cases h <;> simp
theorem addT_ok {K : PySem.W.Frag} {mg : Str → Option Value} (hK : X.K = K) {φ : List Addr} {S : Sto} {a b : List D} (hl : a.length + b.length ≤ LN) {pins : List (Addr × Obj)} {s : Shared} {σ : L2.St} {H : Hp} {x y : V} {v u : Value} {Q : VK} (I : Inv X pins σ H s) (rx : RelV x v) (ry : RelV y u)
    (st : StOk K mg φ S H) (hx : Den K mg φ H x (.tup a)) (hy : Den K mg φ H y (.tup b)) (k : Kont K mg φ S H (.d (.tup (a ++ b))) Q) : wpAny (model X.prog X.w) X.A (binaryOp .Add v u) (EP X pins σ Q) X.xe s := by
  subst hK
  have hx0 := hx
  have hy0 := hy
  cases hx with
  | tup h1 d1 =>
    cases hy with
    | tup h2 d2 =>
      refine op_catK pins s σ H _ _ v u Q I rx ry ⟨_, _, _, _, rfl, rfl, h1.sq, h2.sq, ?_, fun e => ?_, fun e1 e2 => ?_, fun e1 e2 => ?_⟩
      · rw [d1.length, d2.length]; exact LN_le hl
      · have := d1.nil_iff.mp e
        subst this
        exact k.old st hy0
      · have := d2.nil_iff.mp e2
        subst this
        rw [List.append_nil] at k
        exact k.old st hx0
      · exact k.tup st (d1.append d2)
theorem addL_ok {K : PySem.W.Frag} {mg : Str → Option Value} {φ : List Addr} {S : Sto} {x y : W} {a b : List D} (ha : lstOfW S x = some a) (hb : lstOfW S y = some b) (hl : a.length + b.length ≤ LN) {pins : List (Addr × Obj)} {s : Shared} {σ : L2.St} {H : Hp} {v u : V} {v' u' : Value} {Q : VK} (I : Inv X pins σ H s) (rx : RelV v v') (ry : RelV u u')
    (st : StOk K mg φ S H) (hx : DenW K mg φ H v x) (hy : DenW K mg φ H u y) (k : Kont K mg φ S H (.tmp (a ++ b)) Q) : wpAny (model X.prog X.w) X.A (binaryOp .Add v' u') (EP X pins σ Q) X.xe s := by
  obtain ⟨p, vs, rfl, h1, d1⟩ := lstOfW_ok st hx ha
  obtain ⟨q, us, rfl, h2, d2⟩ := lstOfW_ok st hy hb
  exact op_cat pins s σ H _ _ v' u' Q I rx ry ⟨p, q, vs, us, rfl, rfl, h1, h2, by rw [d1.length, d2.length]; exact LN_le hl, k.lst st (d1.append d2)⟩
theorem opr_bin {mg : Str → Option Value} (o : Bop) : OpR X (binaryOp (opOf o)) (vBin X.K mg o) := by
  intro pins s σ H vx vy v u Q I rx ry h
  obtain ⟨φ, S, x, y, z, st, hx, hy, e, k⟩ := h
  unfold binW at e
  split at e
  · next a b =>
    cases hc : binI o a b with
    | none => rw [hc] at e; cases e
    | some c =>
      rw [hc] at e
      cases e
      cases (show Den X.K mg φ H vx (.int a) from hx)
      cases (show Den X.K mg φ H vy (.int b) from hy)
      exact opI_ok o hc I rx ry (k.old st (.int c))
  · next a b =>
    split at e
    · split at e
      · next hl =>
        cases e
        cases (show Den X.K mg φ H vx (.str a) from hx)
        cases (show Den X.K mg φ H vy (.str b) from hy)
        exact op_add_str pins s σ H _ _ v u Q I rx ry ⟨a, b, rfl, rfl, LN_le hl, k.old st (.str _)⟩
      · cases e
    · cases e
  · next a b =>
    split at e
    · split at e
      · next hl => cases e; exact addT_ok rfl hl I rx ry st hx hy k
      · cases e
    · cases e
  · next a k' =>
    split at e
    · split at e
      · next hc =>
        cases e
        simp only [Bool.and_eq_true, decide_eq_true_eq, Bool.not_eq_true', List.isEmpty_eq_false_iff] at hc
        have hx0 := hx
        cases (show Den X.K mg φ H vx (.tup a) from hx) with
        | tup h1 d1 =>
          cases (show Den X.K mg φ H vy (.int k') from hy)
          by_cases hk : k' = 1
          · subst hk
            refine ZT.op_rep1 pins s σ H _ _ v u Q I rx ry ⟨_, _, rfl, rfl, h1.sq, ?_⟩
            have : (List.replicate (1 : Int).toNat a).flatten = a := by simp
            rw [this] at k
            exact k.old st hx0
          · refine op_repK pins s σ H _ _ v u Q I rx ry ⟨_, k', _, rfl, rfl, h1.sq, fun z => hc.1.2 ?_, by omega, hc.1.1.2, by rw [d1.length]; exact hc.2, k.tup st (d1.flat _)⟩
            exact (Dens.nil_iff d1).mp z
      · cases e
    · cases e
  · next x' k' hne hne2 =>
    split at e
    · split at e
      · next a ha =>
        split at e
        · next hc =>
          cases e
          simp only [Bool.and_eq_true, decide_eq_true_eq] at hc
          obtain ⟨p, vs, rfl, h1, d1⟩ := lstOfW_ok st hx ha
          cases (show Den X.K mg φ H vy (.int k') from hy)
          exact op_rep pins s σ H _ _ v u Q I rx ry ⟨p, k', vs, rfl, rfl, h1, hc.1.1, hc.1.2, by rw [d1.length]; exact LN_le hc.2, k.lst st (d1.flat _)⟩
        · cases e
      · cases e
    · cases e
  · next x' y' h1 h2 h3 h4 h5 =>
    split at e
    · split at e
      · next a b ha hb =>
        split at e
        · next hl => cases e; exact addL_ok ha hb hl I rx ry st hx hy k
        · cases e
      · cases e
    · cases e
end
end Z

set_option Elab.async false
set_option linter.all false
set_option maxRecDepth 100000
/-! ZD: dicts whose keys are tuples (of ints, None, such tuples). -/
namespace Z
open PySem PySem.Spec PyProof.Rows L2

mutual
theorem eqD_eq : ∀ (a b : D), eqD a b = true → a = b
  | .non, b, h => by cases b <;> first | rfl | exact absurd h (by unfold eqD; exact Bool.false_ne_true)
  | .bl a, b, h => by
    cases b <;> first | (unfold eqD at h; rw [of_decide_eq_true h]) | exact absurd h (by unfold eqD; exact Bool.false_ne_true)
  | .int a, b, h => by
    cases b <;> first | (unfold eqD at h; rw [of_decide_eq_true h]) | exact absurd h (by unfold eqD; exact Bool.false_ne_true)
  | .str a, b, h => by
    cases b <;> first | (unfold eqD at h; rw [of_decide_eq_true h]) | exact absurd h (by unfold eqD; exact Bool.false_ne_true)
  | .tup a, b, h => by
    cases b <;> first | (unfold eqD at h; rw [eqDs_eq _ _ h]) | exact absurd h (by unfold eqD; exact Bool.false_ne_true)
  | .fz a, b, h => by
    cases b <;> first | (unfold eqD at h; rw [eqDs_eq _ _ h]) | exact absurd h (by unfold eqD; exact Bool.false_ne_true)
  | .wt a, b, h => by
    cases b <;> first | (unfold eqD at h; rw [eqDs_eq _ _ h]) | exact absurd h (by unfold eqD; exact Bool.false_ne_true)
  | .ref a, b, h => by
    cases b <;> first | (unfold eqD at h; rw [of_decide_eq_true h]) | exact absurd h (by unfold eqD; exact Bool.false_ne_true)
  | .fn a, b, h => by
    cases b <;> first | (unfold eqD at h; rw [of_decide_eq_true h]) | exact absurd h (by unfold eqD; exact Bool.false_ne_true)
theorem eqDs_eq : ∀ (a b : List D), eqDs a b = true → a = b
  | [], [], _ => rfl
  | a :: as, b :: bs, h => by
    unfold eqDs at h
    rw [Bool.and_eq_true] at h
    rw [eqD_eq a b h.1, eqDs_eq as bs h.2]
  | [], _ :: _, h => by unfold eqDs at h; cases h
  | _ :: _, [], h => by unfold eqDs at h; cases h
end
mutual
theorem eqD_refl : ∀ (a : D), eqD a a = true
  | .non => by unfold eqD; rfl
  | .bl a => by unfold eqD; exact decide_eq_true rfl
  | .int a => by unfold eqD; exact decide_eq_true rfl
  | .str a => by unfold eqD; exact decide_eq_true rfl
  | .tup a => by unfold eqD; exact eqDs_refl a
  | .fz a => by unfold eqD; exact eqDs_refl a
  | .wt a => by unfold eqD; exact eqDs_refl a
  | .ref a => by unfold eqD; exact decide_eq_true rfl
  | .fn a => by unfold eqD; exact decide_eq_true rfl
theorem eqDs_refl : ∀ (a : List D), eqDs a a = true
  | [] => by unfold eqDs; rfl
  | a :: as => by unfold eqDs; rw [eqD_refl a, eqDs_refl as]; rfl
end
theorem eqD_iff {a b : D} : eqD a b = true ↔ a = b := ⟨eqD_eq a b, fun h => by rw [h]; exact eqD_refl b⟩

/-! ### keys -/
theorem nk_non : nk .non = .none := by simp [nk]
theorem nk_int (i : Int) : nk (.int i) = .num i := by simp [nk]
theorem nk_tup (xs : List D) : nk (.tup xs) = .tup (nks xs) := by simp [nk]
theorem key0_tup (xs : List D) : keyN 0 (.tup xs) = false := by simp [keyN]
theorem keyN_tup {n : Nat} {xs : List D} (h : keyN (n + 1) (.tup xs) = true) : ∀ x ∈ xs, keyN n x = true := by
  rw [keyN] at h; exact List.all_eq_true.mp h
theorem nks_map : ∀ xs : List D, nks xs = xs.map nk
  | [] => by rw [nks]; rfl
  | x :: xs => by rw [nks, nks_map xs]; rfl
theorem depthAll_le {n : Nat} : ∀ {ks : List NestedKey}, (∀ k ∈ ks, k.depth ≤ n) → NestedKey.depthAll ks ≤ n
  | [], _ => by rw [NestedKey.depthAll]; omega
  | k :: ks, h => by
    rw [NestedKey.depthAll]
    have h1 := h k List.mem_cons_self
    have h2 := depthAll_le (ks := ks) fun x hx => h x (List.mem_cons_of_mem _ hx)
    omega
theorem nk_depth : ∀ (n : Nat) (d : D), keyN n d = true → (nk d).depth ≤ n
  | n, .int i, _ => by rw [nk, NestedKey.depth]; omega
  | n, .non, _ => by rw [nk_non, NestedKey.depth]; omega
  | n + 1, .tup xs, h => by
    rw [nk, NestedKey.depth, nks_map]
    have := depthAll_le (n := n) (ks := xs.map nk) fun k hk => by
      obtain ⟨x, hx, rfl⟩ := List.mem_map.mp hk
      exact nk_depth n x (keyN_tup h x hx)
    omega
  | 0, .tup xs, h => by rw [key0_tup] at h; cases h
  | _, .bl _, h => by unfold keyN at h; cases h
  | _, .str _, h => by unfold keyN at h; cases h
  | _, .fz _, h => by unfold keyN at h; cases h
  | _, .wt _, h => by unfold keyN at h; cases h
  | _, .ref _, h => by unfold keyN at h; cases h
  | _, .fn _, h => by unfold keyN at h; cases h
theorem hashes_map (w : World) : ∀ ks : List NestedKey, NestedKey.hashes w ks = ks.map (NestedKey.hash w)
  | [] => by rw [NestedKey.hashes]; rfl
  | k :: ks => by rw [NestedKey.hashes, hashes_map w ks]; rfl
theorem nk_hash (w w' : World) : ∀ (n : Nat) (d : D), keyN n d = true → (nk d).hash w = (nk d).hash w'
  | n, .int i, _ => by rw [nk, NestedKey.hash, NestedKey.hash]
  | n, .non, _ => by rw [nk_non, NestedKey.hash, NestedKey.hash]
  | n + 1, .tup xs, h => by
    rw [nk, NestedKey.hash, NestedKey.hash, nks_map, hashes_map, hashes_map, List.map_map, List.map_map]
    congr 2
    exact List.map_congr_left fun x hx => nk_hash w w' n x (keyN_tup h x hx)
  | 0, .tup xs, h => by rw [key0_tup] at h; cases h
  | _, .bl _, h => by unfold keyN at h; cases h
  | _, .str _, h => by unfold keyN at h; cases h
  | _, .fz _, h => by unfold keyN at h; cases h
  | _, .wt _, h => by unfold keyN at h; cases h
  | _, .ref _, h => by unfold keyN at h; cases h
  | _, .fn _, h => by unfold keyN at h; cases h
theorem map_inj_of {α β : Type} {f : α → β} : ∀ {xs ys : List α}, (∀ x ∈ xs, ∀ y ∈ ys, f x = f y → x = y) → xs.map f = ys.map f → xs = ys
  | [], [], _, _ => rfl
  | [], _ :: _, _, h => by simp at h
  | _ :: _, [], _, h => by simp at h
  | x :: xs, y :: ys, hi, h => by
    rw [List.map_cons, List.map_cons] at h
    injection h with h1 h2
    rw [hi x List.mem_cons_self y List.mem_cons_self h1, map_inj_of (fun a ha b hb => hi a (List.mem_cons_of_mem _ ha) b (List.mem_cons_of_mem _ hb)) h2]
theorem nk_inj : ∀ (n m : Nat) (a b : D), keyN n a = true → keyN m b = true → nk a = nk b → a = b
  | n, m, .int i, b, _, hb, e => by
    cases b with
    | int j => rw [nk, nk] at e; injection e with e; rw [e]
    | non => simp [nk] at e
    | tup xs => simp [nk] at e
    | _ => unfold keyN at hb; cases hb
  | n, m, .non, b, _, hb, e => by
    cases b with
    | int j => simp [nk] at e
    | non => rfl
    | tup xs => simp [nk] at e
    | _ => unfold keyN at hb; cases hb
  | n + 1, 0, .tup xs, b, ha, hb, e => by
    cases b with
    | int j => simp [nk] at e
    | non => simp [nk] at e
    | tup ys => rw [key0_tup] at hb; cases hb
    | _ => unfold keyN at hb; cases hb
  | n + 1, m + 1, .tup xs, b, ha, hb, e => by
    cases b with
    | int j => simp [nk] at e
    | non => simp [nk] at e
    | tup ys =>
      rw [nk, nk, nks_map, nks_map] at e
      injection e with e
      rw [map_inj_of (fun x hx y hy q => nk_inj n m x y (keyN_tup ha x hx) (keyN_tup hb y hy) q) e]
    | _ => unfold keyN at hb; cases hb
  | 0, _, .tup xs, _, h, _, _ => by rw [key0_tup] at h; cases h
  | _, _, .bl _, _, h, _, _ => by unfold keyN at h; cases h
  | _, _, .str _, _, h, _, _ => by unfold keyN at h; cases h
  | _, _, .fz _, _, h, _, _ => by unfold keyN at h; cases h
  | _, _, .wt _, _, h, _, _ => by unfold keyN at h; cases h
  | _, _, .ref _, _, h, _, _ => by unfold keyN at h; cases h
  | _, _, .fn _, _, h, _, _ => by unfold keyN at h; cases h
theorem keyT_N {d : D} (h : keyT d = true) : keyN 8 d = true ∧ ∃ xs, d = .tup xs := by
  cases d with
  | tup xs => exact ⟨h, xs, rfl⟩
  | _ => cases h
theorem keyT_inj {a b : D} (ha : keyT a = true) (hb : keyT b = true) : nk a = nk b ↔ a = b := ⟨nk_inj 8 8 a b (keyT_N ha).1 (keyT_N hb).1, fun h => by rw [h]⟩

section
variable {X : Cx} {mg : Str → Option Value} {pins : List (Addr × Obj)} {σ : L2.St} {s : Shared} {φ : List Addr} {H : Hp} {a b : Addr} {xs : List (NestedKey × Addr × Value)} {kvs : List (D × D)}
theorem nested_all (I : Inv X pins σ H s) {n : Nat} (ih : ∀ (d : D) (v : V) (u : Value), keyN n d = true → Den X.K mg φ H v d → RelV v u → NestedIs s.heap (nk d) u) :
    ∀ (ds : List D) (vs : List V) (us : List Value), (∀ d ∈ ds, keyN n d = true) → Dens X.K mg φ H vs ds → Vals vs us → NestedAll s.heap (ds.map nk) us
  | [], _, _, _, .nil, .nil => .nil
  | d :: ds, _, _, h, .cons h1 h2, .cons r1 r2 => .cons (ih d _ _ (h d List.mem_cons_self) h1 r1) (nested_all I ih ds _ _ (fun x hx => h x (List.mem_cons_of_mem _ hx)) h2 r2)
theorem nested_of (I : Inv X pins σ H s) : ∀ (n : Nat) (d : D) (v : V) (u : Value), keyN n d = true → Den X.K mg φ H v d → RelV v u → NestedIs s.heap (nk d) u
  | n, .int i, _, _, _, .int _, r => by obtain ⟨t, rfl⟩ := r; rw [nk]; exact .int i t
  | n, .non, _, _, _, .non, r => by cases r; rw [nk_non]; exact .none
  | n + 1, .tup ds, _, _, h, .tup (vs := vs) h1 h2, r => by
    cases r
    obtain ⟨its, rv, ⟨o, ho, hc, k, hd⟩, _⟩ := I.tuple h1.sq
    rw [nk, nks_map]
    exact .tup ho hc hd (nested_all I (nested_of I n) ds vs its (keyN_tup h) h2 rv)
  | 0, .tup xs, _, _, h, _, _ => by rw [key0_tup] at h; cases h
  | _, .bl _, _, _, h, _, _ => by unfold keyN at h; cases h
  | _, .str _, _, _, h, _, _ => by unfold keyN at h; cases h
  | _, .fz _, _, _, h, _, _ => by unfold keyN at h; cases h
  | _, .wt _, _, _, h, _, _ => by unfold keyN at h; cases h
  | _, .ref _, _, _, h, _, _ => by unfold keyN at h; cases h
  | _, .fn _, _, _, h, _, _ => by unfold keyN at h; cases h
theorem key_is (I : Inv X pins σ H s) {d : D} (h : keyT d = true) (hd : Den X.K mg φ H (.ref b) d) : (nestedKind X.prog X.w).is s.heap (nk d) b :=
  ⟨nested_of I 8 d (.ref b) (.ref b) (keyT_N h).1 hd rfl, nk_depth 8 d (keyT_N h).1⟩
theorem key_ref {K : PySem.W.Frag} {d : D} {v : V} {u : Value} (h : keyT d = true) (hd : Den K mg φ H v d) (r : RelV v u) : ∃ b, v = .ref b ∧ u = .ref b := by
  obtain ⟨_, xs, rfl⟩ := keyT_N h
  cases hd
  exact ⟨_, rfl, r⟩
theorem dd_is (I : Inv X pins σ H s) (h : H a = some (RawD a xs)) (nd : (xs.map (·.1)).Nodup) (p : PD X.K mg φ H xs kvs) : s.heap.DictOfH (nestedKind X.prog X.w) a xs ∧ (a == sysModules) = false := by
  obtain ⟨⟨h1, o, es, ep, h2, h3, h4, h5⟩, _⟩ := I.hok a _ h
  refine ⟨⟨o, es, ep, h2, h3, h4, h5 _ _, ?_, nd⟩, h1⟩
  have all : ∀ {l : List (NestedKey × Addr × Value)} {m : List (D × D)}, PD X.K mg φ H l m → ∀ x ∈ l, (nestedKind X.prog X.w).is s.heap x.1 x.2.1 := by
    intro l m q
    induction q with
    | nil => intro x hx; exact nomatch hx
    | @cons p q ps qs hq t ih =>
      intro x hx
      rcases List.mem_cons.mp hx with e | hx
      · subst e
        rw [hq.1]
        exact key_is I hq.2.1 hq.2.2.1
      · exact ih x hx
  exact all p
theorem PD.get {K : PySem.W.Frag} {k : D} (hk : keyT k = true) : ∀ {xs : List (NestedKey × Addr × Value)} {kvs : List (D × D)}, PD K mg φ H xs kvs →
    (∀ d, getDD kvs k = some d → ∃ p v, atKey xs (nk k) = some p ∧ RelV v p.2 ∧ Den K mg φ H v d) ∧ (getDD kvs k = none → atKey xs (nk k) = none)
  | _, _, .nil => ⟨fun d e => (nomatch e), fun _ => rfl⟩
  | _, _, .cons (a := x) (b := p) (l₁ := xs) (l₂ := kvs) h hs => by
    have ih := PD.get (K := K) hk hs
    unfold getDD atKey at *
    by_cases e : p.1 = k
    · have e' : x.1 = nk k := by rw [h.1, e]
      rw [List.find?_cons, List.find?_cons]
      simp only [e, eqD_refl, e', decide_true, Option.map_some]
      refine ⟨fun d hd => ?_, fun z => nomatch z⟩
      cases hd
      obtain ⟨v, r, dv⟩ := h.2.2.2
      exact ⟨_, v, rfl, r, dv⟩
    · have e1 : eqD p.1 k = false := by
        cases q : eqD p.1 k with
        | true => exact absurd (eqD_eq _ _ q) e
        | false => rfl
      have e2 : ¬ x.1 = nk k := fun z => e ((keyT_inj h.2.1 hk).mp (h.1.symm.trans z))
      rw [List.find?_cons, List.find?_cons]
      simp only [e1, e2, decide_false]
      exact ih
theorem PD.any {K : PySem.W.Frag} {k : D} (hk : keyT k = true) : ∀ {xs : List (NestedKey × Addr × Value)} {kvs : List (D × D)}, PD K mg φ H xs kvs → (kvs.any fun kv => eqD kv.1 k) = (atKey xs (nk k)).isSome
  | _, _, .nil => rfl
  | _, _, .cons (a := x) (b := p) (l₁ := xs) (l₂ := kvs) h hs => by
    have ih := PD.any (K := K) hk hs
    unfold atKey at *
    rw [List.any_cons, List.find?_cons, ih]
    by_cases e : p.1 = k
    · have e' : x.1 = nk k := by rw [h.1, e]
      simp only [e, eqD_refl, e', decide_true, Option.map_some, Bool.true_or, Option.isSome_some]
    · have e1 : eqD p.1 k = false := by
        cases q : eqD p.1 k with
        | true => exact absurd (eqD_eq _ _ q) e
        | false => rfl
      have e2 : ¬ x.1 = nk k := fun z => e ((keyT_inj h.2.1 hk).mp (h.1.symm.trans z))
      simp only [e1, e2, decide_false, Bool.false_or]
theorem PD.repl {K : PySem.W.Frag} {k d : D} {v : V} {u : Value} (hk : keyT k = true) (r : RelV v u) (hd : Den K mg φ H v d) : ∀ {xs : List (NestedKey × Addr × Value)} {kvs : List (D × D)}, PD K mg φ H xs kvs →
    PD K mg φ H (xs.map (putAt (nk k) u)) (kvs.map fun kv => if eqD kv.1 k = true then (kv.1, d) else kv)
  | _, _, .nil => .nil
  | _, _, .cons (a := x) (b := p) (l₁ := xs) (l₂ := kvs) h hs => by
    refine .cons ?_ (PD.repl hk r hd hs)
    unfold putAt
    by_cases e : p.1 = k
    · have e' : x.1 = nk k := by rw [h.1, e]
      simp only [if_pos e', if_pos (eqD_iff.mpr e)]
      exact ⟨h.1, h.2.1, h.2.2.1, v, r, hd⟩
    · have e2 : ¬ x.1 = nk k := fun z => e ((keyT_inj h.2.1 hk).mp (h.1.symm.trans z))
      simp only [if_neg e2, if_neg (fun z => e (eqD_iff.mp z))]
      exact h
theorem PD.put {K : PySem.W.Frag} {k d : D} {v : V} {u : Value} (hk : keyT k = true) (hb : Den K mg φ H (.ref b) k) (r : RelV v u) (hd : Den K mg φ H v d) {xs : List (NestedKey × Addr × Value)} {kvs : List (D × D)} (p : PD K mg φ H xs kvs) :
    PD K mg φ H (storedH xs (nk k) b u) (putDD kvs k d) := by
  have ha := PD.any hk p
  unfold putDD
  cases e : atKey xs (nk k) with
  | some q =>
    rw [e] at ha
    rw [storedH_old e, if_pos (show (kvs.any fun kv => eqD kv.1 k) = true from ha)]
    exact PD.repl hk r hd p
  | none =>
    rw [e] at ha
    rw [storedH_new e, if_neg (by rw [ha]; exact Bool.false_ne_true)]
    have app : ∀ {l : List (NestedKey × Addr × Value)} {m : List (D × D)}, PD K mg φ H l m → PD K mg φ H (l ++ [(nk k, b, u)]) (m ++ [(k, d)]) := by
      intro l m q
      induction q with
      | nil => exact .cons ⟨rfl, hk, hb, v, r, hd⟩ .nil
      | cons z _ ih => exact .cons z ih
    exact app p
theorem PD.textless {K : PySem.W.Frag} {xs : List (NestedKey × Addr × Value)} {kvs : List (D × D)} (p : PD K mg φ H xs kvs) (P P' : Program) (w w' : World) : xs.map (entryOfKey (nestedKind P w)) = xs.map (entryOfKey (nestedKind P' w')) := by
  induction p with
  | nil => rfl
  | cons z _ ih =>
    rw [List.map_cons, List.map_cons, ih]
    congr 1
    unfold entryOfKey
    have := nk_hash w w' 8 _ (keyT_N z.2.1).1
    rw [← z.1] at this
    rw [show (nestedKind P w).hash _ = NestedKey.hash w _ from rfl, show (nestedKind P' w').hash _ = NestedKey.hash w' _ from rfl, this]
theorem length_storedH (xs : List (NestedKey × Addr × Value)) (k : NestedKey) (a : Addr) (v : Value) : (storedH xs k a v).length ≤ xs.length + 1 := by
  cases e : atKey xs k with
  | some q => rw [storedH_old e, List.length_map]; omega
  | none => rw [storedH_new e, List.length_append]; simp
theorem raw_ok {P : Program} {w : World} {H' : Hp} {h' : Heap} (hd : (a == sysModules) = false) (dd : h'.DictOfH (nestedKind P w) a xs) (ht : ∀ P' w', xs.map (entryOfKey (nestedKind P w)) = xs.map (entryOfKey (nestedKind P' w'))) : ObjOk P w H' h' a (RawD a xs) := by
  obtain ⟨o, es, ep, h1, h2, h3, h4, _⟩ := dd
  exact ⟨⟨hd, o, es, ep, h1, h2, h3, fun P' w' => by rw [h4, ht P' w']⟩, ⟨o, h1⟩, fun h1 h2 ⟨q, o, es, ep, a1, a2, a3, a4⟩ st => ⟨q, o, es, ep, st _ a1, a2, a3, a4⟩⟩
theorem room8 {A : Around} (hu : A.units + 65 < cLine) : (nestedKind X.prog X.w).room A.in1 := by
  show A.in1.units + 8 < cLine
  have : A.in1.units = A.units + 1 := rfl
  omega
end
end Z

set_option Elab.async false
set_option linter.all false
set_option maxRecDepth 100000
/-! ZO: what is asked of the store's dicts, of both kinds. -/
namespace Z
open PySem PySem.Spec PyProof.Rows L2

theorem keyD_ok {mg : Str → Option Value} {K : PySem.W.Frag} {φ : List Addr} {H : Hp} {v : V} {d : D} {k : Key} (h : Den K mg φ H v d) (e : keyD d = some k) : v = kV k := by
  cases d with
  | int i => cases e; cases h; rfl
  | str i => cases e; cases h; rfl
  | _ => cases e
theorem KD.val {mg : Str → Option Value} {K : PySem.W.Frag} {φ : List Addr} {H : Hp} {k : Key} : ∀ {vs : List (Key × V)} {kvs : List (Key × D)}, KD K mg φ H vs kvs →
    (∀ d, valD kvs k = some d → ∃ v, valV vs k = some v ∧ Den K mg φ H v d) ∧ (valD kvs k = none → valV vs k = none)
  | _, _, .nil => ⟨fun d e => (nomatch e), fun _ => rfl⟩
  | _, _, .cons (a := p) (b := q) (l₁ := vs) (l₂ := kvs) h hs => by
    have ih := KD.val (k := k) hs
    by_cases e : q.1 = k
    · have e' : p.1 = k := h.1.trans e
      rw [valV_pos e']
      have : valD (q :: kvs) k = some q.2 := by simp [valD, List.find?_cons, e]
      rw [this]
      exact ⟨fun d hd => by (cases hd; exact ⟨_, rfl, h.2⟩), fun z => nomatch z⟩
    · have e' : ¬ p.1 = k := fun z => e (h.1.symm.trans z)
      rw [valV_neg e']
      have : valD (q :: kvs) k = valD kvs k := by simp [valD, List.find?_cons, e]
      rw [this]
      exact ih
theorem KD.any {mg : Str → Option Value} {K : PySem.W.Frag} {φ : List Addr} {H : Hp} {k : Key} : ∀ {vs : List (Key × V)} {kvs : List (Key × D)}, KD K mg φ H vs kvs → (vs.any fun kv => decide (kv.1 = k)) = kvs.any fun kv => decide (kv.1 = k)
  | _, _, .nil => rfl
  | _, _, .cons h hs => by rw [List.any_cons, List.any_cons, KD.any hs, h.1]
theorem KD.mapPut {mg : Str → Option Value} {K : PySem.W.Frag} {φ : List Addr} {H : Hp} {k : Key} {v : V} {d : D} (hd : Den K mg φ H v d) : ∀ {vs : List (Key × V)} {kvs : List (Key × D)}, KD K mg φ H vs kvs →
    KD K mg φ H (vs.map fun kv => if kv.1 = k then (kv.1, v) else kv) (kvs.map fun kv => if kv.1 = k then (kv.1, d) else kv)
  | _, _, .nil => .nil
  | _, _, .cons (a := p) (b := q) h hs => by
    refine .cons ?_ (KD.mapPut hd hs)
    by_cases e : p.1 = k
    · simp only [if_pos e, if_pos (h.1.symm.trans e)]; exact ⟨h.1, hd⟩
    · simp only [if_neg e, if_neg (fun z => e (h.1.trans z))]; exact h
theorem KD.snoc {mg : Str → Option Value} {K : PySem.W.Frag} {φ : List Addr} {H : Hp} {k : Key} {v : V} {d : D} (hd : Den K mg φ H v d) : ∀ {vs : List (Key × V)} {kvs : List (Key × D)}, KD K mg φ H vs kvs → KD K mg φ H (vs ++ [(k, v)]) (kvs ++ [(k, d)])
  | _, _, .nil => .cons ⟨rfl, hd⟩ .nil
  | _, _, .cons h hs => .cons h (KD.snoc hd hs)
theorem KD.put {mg : Str → Option Value} {K : PySem.W.Frag} {φ : List Addr} {H : Hp} {k : Key} {v : V} {d : D} {vs : List (Key × V)} {kvs : List (Key × D)} (h : KD K mg φ H vs kvs) (hd : Den K mg φ H v d) : KD K mg φ H (putK vs k v) (putD kvs k d) := by
  unfold putK putD
  have e := KD.any (k := k) h
  by_cases c : (kvs.any fun kv => decide (kv.1 = k)) = true
  · rw [if_pos c, if_pos (e.trans c)]; exact KD.mapPut hd h
  · rw [if_neg c, if_neg (fun z => c (e.symm.trans z))]; exact KD.snoc hd h

/-- what is not a tuple, nor locked, may be written over -/
theorem stb_updN {H : Hp} {L : Addr} {l o : HO} (h : H L = some l) (hl : ¬ Stb l) {a : Addr} {u : HO} (hs : Stb u) (e : H a = some u) : upd H L o a = some u := by
  rw [upd_ne (fun z => hl (by rw [z, h] at e; cases e; exact hs))]; exact e
mutual
theorem Den.updN {mg : Str → Option Value} {K : PySem.W.Frag} {φ : List Addr} {H : Hp} {L : Addr} {l o : HO} (h : H L = some l) (hl : ¬ Stb l) : ∀ {v : V} {d : D}, Den K mg φ H v d → Den K mg φ (L2.upd H L o) v d
  | _, _, .non => .non
  | _, _, .bl b => .bl b
  | _, _, .int i => .int i
  | _, _, .str x => .str x
  | _, _, .tup h1 h2 => .tup (by
      rcases h1 with ⟨its, r⟩ | r
      · exact .inl ⟨its, stb_updN h hl (by unfold KTup; trivial) r⟩
      · exact .inr r) (Dens.updN h hl h2)
  | _, _, .wt h1 h2 => .wt (by
      rcases h1 with (r | ⟨q, r⟩) | r
      · exact .inl (.inl (stb_updN h hl (by trivial) r))
      · exact .inl (.inr ⟨q, stb_updN h hl (by trivial) r⟩)
      · exact .inr r) (Dens.updN h hl h2)
  | _, _, .fz h1 h2 => .fz (by
      rcases h1 with ⟨q, r⟩ | r
      · exact .inl ⟨q, stb_updN h hl (by trivial) r⟩
      · exact .inr r) (Dens.updN h hl h2)
  | _, _, .ref e => .ref e
  | _, _, .fn e => .fn e
theorem Dens.updN {mg : Str → Option Value} {K : PySem.W.Frag} {φ : List Addr} {H : Hp} {L : Addr} {l o : HO} (h : H L = some l) (hl : ¬ Stb l) : ∀ {vs : List V} {ds : List D}, Dens K mg φ H vs ds → Dens K mg φ (L2.upd H L o) vs ds
  | _, _, .nil => .nil
  | _, _, .cons a b => .cons (Den.updN h hl a) (Dens.updN h hl b)
end
theorem KD.updN {mg : Str → Option Value} {K : PySem.W.Frag} {φ : List Addr} {H : Hp} {L : Addr} {l o : HO} (h : H L = some l) (hl : ¬ Stb l) {vs : List (Key × V)} {kvs : List (Key × D)} (d : KD K mg φ H vs kvs) : KD K mg φ (L2.upd H L o) vs kvs := Paired.mapP d fun _ _ z => ⟨z.1, z.2.updN h hl⟩
theorem PD.updN {mg : Str → Option Value} {K : PySem.W.Frag} {φ : List Addr} {H : Hp} {L : Addr} {l o : HO} (h : H L = some l) (hl : ¬ Stb l) {xs : List (NestedKey × Addr × Value)} {kvs : List (D × D)} (d : PD K mg φ H xs kvs) : PD K mg φ (L2.upd H L o) xs kvs :=
  Paired.mapP d fun _ _ z => ⟨z.1, z.2.1, z.2.2.1.updN h hl, let ⟨v, r, d⟩ := z.2.2.2; ⟨v, r, d.updN h hl⟩⟩
theorem stb_lst {xs : List V} : ¬ Stb (.lst xs) := fun z => z
theorem stb_dK {kvs : List (Key × V)} : ¬ Stb (.dK kvs) := fun z => z
theorem stb_raw {a : Addr} {xs : List (NestedKey × Addr × Value)} : ¬ Stb (RawD a xs) := fun z => z

section
variable {X : Cx} {mg : Str → Option Value} {pins : List (Addr × Obj)} {σ : L2.St} {s : Shared} {φ : List Addr} {H : Hp} {a : Addr} {o : O} {kd : D} {vy : V} {u : Value} {E : Value → Shared → Prop}
theorem oGet_k (kvs : List (Key × D)) (k : D) : oGet (.dk kvs) k = (keyD k).map fun k => valD kvs k := rfl
theorem oGet_d (kvs : List (D × D)) (k : D) : oGet (.dd kvs) k = if keyT k = true then some (getDD kvs k) else none := rfl
theorem oPut_k (kvs : List (Key × D)) (k v : D) : oPut (.dk kvs) k v = if kvs.length < LN then (keyD k).map fun k => .dk (putD kvs k v) else none := rfl
theorem oPut_d (kvs : List (D × D)) (k v : D) : oPut (.dd kvs) k v = if kvs.length < LN then (if keyT k = true then some (.dd (putDD kvs k v)) else none) else none := rfl
/-- a dict's type -/
theorem o_type (I : Inv X pins σ H s) (h : ObjD X.K mg φ H a o) (hd : isDO o = true) : s.TypeIs (.ref a) "dict" ∧ ∀ b, Value.ref a = .ref b → ∃ ob, s.heap.get? b = some ob ∧ ob.dict = none := by
  cases o with
  | lst xs => cases hd
  | dk kvs =>
    obtain ⟨vs, h1, h2⟩ := h
    obtain ⟨t1, t2, _⟩ := isD_at I (.inl ⟨vs, .inl h1⟩)
    exact ⟨t1, t2⟩
  | dd kvs =>
    obtain ⟨xs, h1, h2, h3, h4⟩ := h
    obtain ⟨⟨o, es, ep, e1, e2, _⟩, _⟩ := dd_is I h1 h3 h4
    refine ⟨⟨o, e1, e2.1⟩, fun b z => ?_⟩
    cases z
    exact ⟨o, e1, e2.2.1⟩
theorem l_type (I : Inv X pins σ H s) {xs : List D} (h : ObjD X.K mg φ H a (.lst xs)) : s.TypeIs (.ref a) "list" ∧ ∀ b, Value.ref a = .ref b → ∃ ob, s.heap.get? b = some ob ∧ ob.dict = none := by
  obtain ⟨vs, h1, h2⟩ := h
  obtain ⟨z, its, n, r, hl, e⟩ := I.lstM h1
  refine ⟨⟨_, e, rfl⟩, fun b z => ?_⟩
  cases z
  exact ⟨_, e, rfl⟩
/-- d[k], there -/
theorem o_getItem {d : D} {Q : Value → Shared → Prop} (hu : X.A.units + 65 < cLine) (I : Inv X pins σ H s) (h : ObjD X.K mg φ H a o) (hk : Den X.K mg φ H vy kd) (ry : RelV vy u) (g : oGet o kd = some (some d))
    (q : ∀ v w' s', Inv X pins σ H s' → RelV v w' → Den X.K mg φ H v d → Q w' s') : wpAny (model X.prog X.w) X.A (getItem (.ref a) u) Q E s := by
  cases o with
  | lst xs => cases g
  | dk kvs =>
    obtain ⟨vs, h1, h2⟩ := h
    rw [oGet_k] at g
    cases hk' : keyD kd with
    | none => rw [hk'] at g; cases g
    | some k =>
      rw [hk'] at g
      obtain ⟨v, e1, e2⟩ := (KD.val h2).1 d (Option.some.inj g)
      have := keyD_ok hk hk'
      subst this
      exact d_getItem (by omega) I (v := v) (by rw [← e1]; exact DGet.k h1) ry fun w' s' I' r => q v w' s' I' r e2
  | dd kvs =>
    obtain ⟨xs, h1, h2, h3, h4⟩ := h
    rw [oGet_d] at g
    split at g
    · next hk' =>
      obtain ⟨b, rfl, rfl⟩ := key_ref hk' hk ry
      obtain ⟨dd, _⟩ := dd_is I h1 h3 h4
      obtain ⟨p, v, e1, e2, e3⟩ := (PD.get hk' h4).1 d (Option.some.inj g)
      exact wpAny_getItem_heap (room8 (X := X) hu) (key_is I hk' hk) dd e1 (q v _ _ (I.tok _) e2 e3)
    · cases g
theorem o_in {r : Option D} {Q : Value → Shared → Prop} (hu : X.A.units + 65 < cLine) (I : Inv X pins σ H s) (h : ObjD X.K mg φ H a o) (hk : Den X.K mg φ H vy kd) (ry : RelV vy u) (g : oGet o kd = some r) :
    ((∀ s', Inv X pins σ H s' → Q (.bool r.isSome) s') → wpAny (model X.prog X.w) X.A (compareOp .In u (.ref a)) Q E s) ∧ ((∀ s', Inv X pins σ H s' → Q (.bool (!r.isSome)) s') → wpAny (model X.prog X.w) X.A (compareOp .NotIn u (.ref a)) Q E s) := by
  cases o with
  | lst xs => cases g
  | dk kvs =>
    obtain ⟨vs, h1, h2⟩ := h
    rw [oGet_k] at g
    cases hk' : keyD kd with
    | none => rw [hk'] at g; cases g
    | some k =>
      rw [hk'] at g
      have g := Option.some.inj g
      have := keyD_ok hk hk'
      subst this
      have e : (valV vs k).isSome = r.isSome := by
        cases r with
        | some d => obtain ⟨v, e1, e2⟩ := (KD.val h2).1 d g; rw [e1]; rfl
        | none => rw [(KD.val h2).2 g]; rfl
      exact ⟨fun q => d_in (by omega) I (o := valV vs k) (DGet.k h1) ry fun s' I' => by rw [e]; exact q s' I', fun q => d_notIn (by omega) I (o := valV vs k) (DGet.k h1) ry fun s' I' => by rw [e]; exact q s' I'⟩
  | dd kvs =>
    obtain ⟨xs, h1, h2, h3, h4⟩ := h
    rw [oGet_d] at g
    split at g
    · next hk' =>
      have g := Option.some.inj g
      obtain ⟨b, rfl, rfl⟩ := key_ref hk' hk ry
      obtain ⟨dd, hs⟩ := dd_is I h1 h3 h4
      have e : (atKey xs (nk kd)).isSome = r.isSome := by
        cases r with
        | some d => obtain ⟨p, v, e1, e2⟩ := (PD.get hk' h4).1 d g; rw [e1]; rfl
        | none => rw [(PD.get hk' h4).2 g]; rfl
      exact ⟨fun q => wpAny_in_heap (room8 (X := X) hu) (key_is I hk' hk) hs dd (by rw [e]; exact q _ (I.tok _)), fun q => wpAny_notIn_heap (room8 (X := X) hu) (key_is I hk' hk) hs dd (by rw [e]; exact q _ (I.tok _))⟩
    · cases g
/-- d.get(k), d.get(k, x) -/
theorem o_get1 {r : Option D} {Q : Value → Shared → Prop} (hu : X.A.units + 65 < cLine) (I : Inv X pins σ H s) (h : ObjD X.K mg φ H a o) (hk : Den X.K mg φ H vy kd) (ry : RelV vy u) (g : oGet o kd = some r)
    (q : ∀ v w' s', Inv X pins σ H s' → RelV v w' → Den X.K mg φ H v (r.getD .non) → Q w' s') : wpAny (model X.prog X.w) X.A (call (.builtin "dict.get") [.ref a, u]) Q E s := by
  cases o with
  | lst xs => cases g
  | dk kvs =>
    obtain ⟨vs, h1, h2⟩ := h
    rw [oGet_k] at g
    cases hk' : keyD kd with
    | none => rw [hk'] at g; cases g
    | some k =>
      rw [hk'] at g
      have g := Option.some.inj g
      have := keyD_ok hk hk'
      subst this
      refine d_get1 (by omega) I (o := valV vs k) (DGet.k h1) ry fun w' s' I' rw' => ?_
      cases r with
      | some d => obtain ⟨v, e1, e2⟩ := (KD.val h2).1 d g; rw [e1] at rw'; exact q v w' s' I' rw' e2
      | none => rw [(KD.val h2).2 g] at rw'; exact q _ w' s' I' rw' .non
  | dd kvs =>
    obtain ⟨xs, h1, h2, h3, h4⟩ := h
    rw [oGet_d] at g
    split at g
    · next hk' =>
      have g := Option.some.inj g
      obtain ⟨b, rfl, rfl⟩ := key_ref hk' hk ry
      obtain ⟨dd, hs⟩ := dd_is I h1 h3 h4
      refine call_meetsIn PySem.F.slot_dict_get dd.typeIs PySem.F.entry_dict_get (PySem.F.args_dict_get_2 _ _) (meetsH_dict_get (nestedKind X.prog X.w) a b hs) ⟨room8 (X := X) hu, nk kd, xs, key_is I hk' hk, dd, ?_⟩
      cases r with
      | some d => obtain ⟨p, v, e1, e2, e3⟩ := (PD.get hk' h4).1 d g; rw [e1]; exact q v _ _ (I.tok _) e2 e3
      | none => rw [(PD.get hk' h4).2 g]; exact q .non _ _ (I.tok _) rfl .non
    · cases g
theorem o_get2 {r : Option D} {x : V} {y : Value} {Q : Value → Shared → Prop} (hu : X.A.units + 65 < cLine) (I : Inv X pins σ H s) (h : ObjD X.K mg φ H a o) (hk : Den X.K mg φ H vy kd) (ry : RelV vy u) (rx : RelV x y) (g : oGet o kd = some r)
    (q1 : ∀ d, r = some d → ∀ v w' s', Inv X pins σ H s' → RelV v w' → Den X.K mg φ H v d → Q w' s') (q2 : r = none → ∀ w' s', Inv X pins σ H s' → RelV x w' → Q w' s') : wpAny (model X.prog X.w) X.A (call (.builtin "dict.get") [.ref a, u, y]) Q E s := by
  cases o with
  | lst xs => cases g
  | dk kvs =>
    obtain ⟨vs, h1, h2⟩ := h
    rw [oGet_k] at g
    cases hk' : keyD kd with
    | none => rw [hk'] at g; cases g
    | some k =>
      rw [hk'] at g
      have g := Option.some.inj g
      have := keyD_ok hk hk'
      subst this
      refine d_get2 (by omega) I (o := valV vs k) (DGet.k h1) ry rx fun w' s' I' rw' => ?_
      cases r with
      | some d => obtain ⟨v, e1, e2⟩ := (KD.val h2).1 d g; rw [e1] at rw'; exact q1 d rfl v w' s' I' rw' e2
      | none => rw [(KD.val h2).2 g] at rw'; exact q2 rfl w' s' I' rw'
  | dd kvs =>
    obtain ⟨xs, h1, h2, h3, h4⟩ := h
    rw [oGet_d] at g
    split at g
    · next hk' =>
      have g := Option.some.inj g
      obtain ⟨b, rfl, rfl⟩ := key_ref hk' hk ry
      obtain ⟨dd, hs⟩ := dd_is I h1 h3 h4
      refine call_meetsIn PySem.F.slot_dict_get dd.typeIs PySem.F.entry_dict_get (PySem.F.args_dict_get_3 _ _ _) (meetsH_dict_get_default (nestedKind X.prog X.w) a b hs y) ⟨room8 (X := X) hu, nk kd, xs, key_is I hk' hk, dd, ?_⟩
      cases r with
      | some d => obtain ⟨p, v, e1, e2, e3⟩ := (PD.get hk' h4).1 d g; rw [e1]; exact q1 d rfl v _ _ (I.tok _) e2 e3
      | none => rw [(PD.get hk' h4).2 g]; exact q2 rfl _ _ (I.tok _) rx
    · cases g
/-- the written dict -/
theorem raw_write {kvs : List (D × D)} {v : V} {vv : Value} {d : D} {b : Addr} {h' : Heap} {tk : Nat} {xs : List (NestedKey × Addr × Value)} (I : Inv X pins σ H s) (h1 : H a = some (RawD a xs)) (h2 : xs.length ≤ sizeLine) (h4 : PD X.K mg φ H xs kvs) (hl : kvs.length < LN) (hs : (a == sysModules) = false)
    (hk' : keyT kd = true) (hk : Den X.K mg φ H (.ref b) kd) (rv : RelV v vv) (dv : Den X.K mg φ H v d)
    (dd' : h'.DictOfH (nestedKind X.prog X.w) a (storedH xs (nk kd) b vv)) (hsb : Heap.SameBut a s.heap h') : ∃ H', Inv X pins σ H' { s with heap := h', toks := tk } ∧ H' = upd H a (RawD a (storedH xs (nk kd) b vv)) ∧ ObjD X.K mg φ H' a (.dd (putDD kvs kd d)) := by
  have p := PD.put hk' hk rv dv h4
  obtain ⟨ob, _, _, ho, _, _, _, _, hnd⟩ := id dd'
  refine ⟨_, d_write I (by rw [h1]; trivial) hsb ⟨ob, ho⟩ (raw_ok hs dd' fun P' w' => p.textless _ _ _ _), rfl, _, upd_same, ?_, hnd, p.updN h1 stb_raw⟩
  have := length_storedH xs (nk kd) b vv
  have e : xs.length = kvs.length := Paired.length h4
  rw [sizeLine_eq]; unfold LN at hl; omega
/-- d[k] = v -/
theorem o_setItem {o' : O} {v : V} {vv : Value} {d : D} {Q : Unit → Shared → Prop} (hu : X.A.units + 65 < cLine) (I : Inv X pins σ H s) (h : ObjD X.K mg φ H a o) (hk : Den X.K mg φ H vy kd) (ry : RelV vy u) (rv : RelV v vv) (dv : Den X.K mg φ H v d) (g : oPut o kd d = some o')
    (q : ∀ s' z, Inv X pins σ (upd H a z) s' → ObjD X.K mg φ (upd H a z) a o' → Q () s') : wpAny (model X.prog X.w) X.A (setItem (.ref a) u vv) Q E s := by
  cases o with
  | lst xs => cases g
  | dk kvs =>
    obtain ⟨vs, h1, h2⟩ := h
    rw [oPut_k] at g
    split at g
    · next hl =>
      cases hk' : keyD kd with
      | none => rw [hk'] at g; cases g
      | some k =>
        rw [hk'] at g
        cases g
        have := keyD_ok hk hk'
        subst this
        have el : vs.length = kvs.length := Paired.length h2
        exact d_setItem (by omega) I (DPut.k (v := v) h1 (by rw [el]; exact LN_lt hl)) ry rv fun s' I' => q s' _ I' ⟨_, upd_same, (KD.put h2 dv).updN h1 stb_dK⟩
    · cases g
  | dd kvs =>
    obtain ⟨xs, h1, h2, h3, h4⟩ := h
    rw [oPut_d] at g
    split at g
    · next hl =>
      split at g
      · next hk' =>
        cases g
        obtain ⟨b, rfl, rfl⟩ := key_ref hk' hk ry
        obtain ⟨dd, hs⟩ := dd_is I h1 h3 h4
        refine wpAny_setItem_heap (hsz := h2) (room8 (X := X) hu) (key_is I hk' hk) dd fun h' dd' hsb => ?_
        obtain ⟨H', I', e, ob⟩ := raw_write (tk := s.toks + (nestedKind X.prog X.w).draws (nk kd)) I h1 h2 h4 hl hs hk' hk rv dv dd' hsb
        subst e
        exact q _ _ I' ob
      · cases g
    · cases g
/-- d.setdefault(k, x) -/
theorem o_setd {r : Option D} {o' : O} {v : V} {vv : Value} {d : D} {Q : Value → Shared → Prop} (hu : X.A.units + 65 < cLine) (I : Inv X pins σ H s) (h : ObjD X.K mg φ H a o) (hk : Den X.K mg φ H vy kd) (ry : RelV vy u) (rv : RelV v vv) (dv : r = none → Den X.K mg φ H v d) (g : oGet o kd = some r)
    (q1 : ∀ d, r = some d → ∀ v w' s', Inv X pins σ H s' → RelV v w' → Den X.K mg φ H v d → Q w' s')
    (q2 : r = none → oPut o kd d = some o' ∧ ∀ w' s' z, Inv X pins σ (upd H a z) s' → ObjD X.K mg φ (upd H a z) a o' → RelV v w' → Q w' s')
    (hl : oLen o < sizeLine) : wpAny (model X.prog X.w) X.A (call (.builtin "dict.setdefault") [.ref a, u, vv]) Q E s := by
  cases o with
  | lst xs => cases g
  | dk kvs =>
    obtain ⟨vs, h1, h2⟩ := h
    rw [oGet_k] at g
    cases hk' : keyD kd with
    | none => rw [hk'] at g; cases g
    | some k =>
      rw [hk'] at g
      have g := Option.some.inj g
      have := keyD_ok hk hk'
      subst this
      have el : vs.length = kvs.length := Paired.length h2
      refine d_setd I h1 ry rv (by rw [el]; exact hl) (fun v0 hv w' s' I' rw' => ?_) fun hn w' s' I' rw' => ?_
      · cases r with
        | some d => obtain ⟨v1, e1, e2⟩ := (KD.val h2).1 d g; rw [hv] at e1; cases e1; exact q1 d rfl _ w' s' I' rw' e2
        | none => rw [(KD.val h2).2 g] at hv; cases hv
      · cases r with
        | some d => obtain ⟨v1, e1, e2⟩ := (KD.val h2).1 d g; rw [hn] at e1; cases e1
        | none =>
          obtain ⟨g2, q2⟩ := q2 rfl
          rw [oPut_k] at g2
          split at g2
          · rw [hk'] at g2
            cases g2
            exact q2 w' s' _ I' ⟨_, upd_same, (KD.put h2 (dv rfl)).updN h1 stb_dK⟩ rw'
          · cases g2
  | dd kvs =>
    obtain ⟨xs, h1, h2, h3, h4⟩ := h
    rw [oGet_d] at g
    split at g
    · next hk' =>
      have g := Option.some.inj g
      obtain ⟨b, rfl, rfl⟩ := key_ref hk' hk ry
      obtain ⟨dd, hs⟩ := dd_is I h1 h3 h4
      refine call_setdefault_heap (hsz := h2) (room8 (X := X) hu) (key_is I hk' hk) hs dd (fun p hp => ?_) fun hn h' dd' hsb => ?_
      · cases r with
        | some d => obtain ⟨p', v1, e1, e2, e3⟩ := (PD.get hk' h4).1 d g; rw [hp] at e1; cases e1; exact q1 d rfl _ _ _ (I.tok _) e2 e3
        | none => rw [(PD.get hk' h4).2 g] at hp; cases hp
      · cases r with
        | some d => obtain ⟨p', v1, e1, e2, e3⟩ := (PD.get hk' h4).1 d g; rw [hn] at e1; cases e1
        | none =>
          obtain ⟨g2, q2⟩ := q2 rfl
          rw [oPut_d] at g2
          split at g2
          · next hl' =>
            try rw [if_pos hk'] at g2
            cases g2
            obtain ⟨H', I', e, ob⟩ := raw_write (tk := s.toks + (nestedKind X.prog X.w).draws (nk kd)) I h1 h2 h4 hl' hs hk' hk rv (dv rfl) dd' hsb
            subst e
            exact q2 _ _ _ I' ob rv
          · cases g2
    · cases g
end
end Z

set_option Elab.async false
set_option linter.all false
set_option maxRecDepth 100000
/-! Z4: comparisons, truth, subscripts, slices, built-ins by deep values. -/
namespace Z
open PySem PySem.Spec PyProof.Rows L2

def cpOf : Cop → CmpOp
  | .lt => .Lt | .le => .LtE | .gt => .Gt | .ge => .GtE | .eq => .Eq | .ne => .NotEq | .isN => .Is | .notN => .IsNot | .isB => .Is | .notB => .IsNot | .inn => .In | .notin => .NotIn
def vCmp (K : PySem.W.Frag) (mg : Str → Option Value) (o : Cop) : R2 := fun v u H Q => ∃ φ S x y z, StOk K mg φ S H ∧ DenW K mg φ H v x ∧ DenW K mg φ H u y ∧ cmpW S o x y = some z ∧ Q (.bl z) H
section
variable {X : Cx} {mg : Str → Option Value}
theorem den_non {K : PySem.W.Frag} {φ : List Addr} {H : Hp} {v : V} {w : W} (h : DenW K mg φ H v w) (hn : ∀ (z : D), w = .d z → z ≠ .non) : v ≠ .non := by
  cases w with
  | tmp xs => obtain ⟨a, vs, rfl, _⟩ := h; exact fun z => nomatch z
  | d x =>
    intro z
    subst z
    cases (show Den K mg φ H .non x from h)
    exact hn .non rfl rfl
theorem eqW_ok {K : PySem.W.Frag} (hK : X.K = K) (hu : X.A.units + 65 < cLine) {φ : List Addr} {S : Sto} {x y : W} {z : Bool} (e : eqW S x y = some z) {pins : List (Addr × Obj)} {s : Shared} {σ : L2.St} {H : Hp} {v u : V} {v' u' : Value} {Q : VK} (I : Inv X pins σ H s) (rx : RelV v v') (ry : RelV u u')
    (st : StOk K mg φ S H) (hx : DenW K mg φ H v x) (hy : DenW K mg φ H u y) :
    (Q (.bl z) H → wpAny (model X.prog X.w) X.A (compareOp .Eq v' u') (EP X pins σ Q) X.xe s) ∧ (Q (.bl (!z)) H → wpAny (model X.prog X.w) X.A (compareOp .NotEq v' u') (EP X pins σ Q) X.xe s) := by
  subst hK
  unfold eqW at e
  split at e
  · next h =>
    cases e
    simp only [Bool.and_eq_true] at h
    have d1 := DenW.dp st hx (shaped_lay h.1)
    have d2 := DenW.dp st hy (shaped_lay h.2)
    exact ⟨fun q => op_eqD (by omega) pins s σ H v u v' u' Q I rx ry ⟨_, _, d1, d2, h.1, h.2, q⟩, fun q => op_neD (by omega) pins s σ H v u v' u' Q I rx ry ⟨_, _, d1, d2, h.1, h.2, q⟩⟩
  · cases e
/-- what stands in the store at a reference -/
theorem ref_at {K : PySem.W.Frag} {φ : List Addr} {S : Sto} {H : Hp} {v : V} {n : Nat} {o : O} (st : StOk K mg φ S H) (h : DenW K mg φ H v (.d (.ref n))) (e : S[n]? = some o) : ∃ a, v = .ref a ∧ φ[n]? = some a ∧ ObjD K mg φ H a o := by
  cases (show Den K mg φ H v (.ref n) from h) with
  | ref hn => exact ⟨_, rfl, hn, st.obj _ _ _ hn e⟩
theorem dicOf_ok {K : PySem.W.Frag} {φ : List Addr} {S : Sto} {H : Hp} {v : V} {w : W} {o : O} (st : StOk K mg φ S H) (h : DenW K mg φ H v w) (e : dicOf S w = some o) : ∃ a n, v = .ref a ∧ w = .d (.ref n) ∧ S[n]? = some o ∧ φ[n]? = some a ∧ ObjD K mg φ H a o ∧ isDO o = true := by
  unfold dicOf at e
  split at e
  · next n =>
    split at e
    · next o' ho =>
      split at e
      · next hd =>
        cases e
        obtain ⟨a, rfl, hn, ob⟩ := ref_at st h ho
        exact ⟨a, n, rfl, rfl, ho, hn, ob, hd⟩
      · cases e
    · cases e
  · cases e
theorem inW_ok {K : PySem.W.Frag} (hK : X.K = K) (hu : X.A.units + 65 < cLine) {φ : List Addr} {S : Sto} {x y : W} {z : Bool} (e : inW S x y = some z) {pins : List (Addr × Obj)} {s : Shared} {σ : L2.St} {H : Hp} {v u : V} {v' u' : Value} {Q : VK} (I : Inv X pins σ H s) (rx : RelV v v') (ry : RelV u u')
    (st : StOk K mg φ S H) (hx : DenW K mg φ H v x) (hy : DenW K mg φ H u y) :
    (Q (.bl z) H → wpAny (model X.prog X.w) X.A (compareOp .In v' u') (EP X pins σ Q) X.xe s) ∧ (Q (.bl (!z)) H → wpAny (model X.prog X.w) X.A (compareOp .NotIn v' u') (EP X pins σ Q) X.xe s) := by
  subst hK
  unfold inW at e
  split at e
  · next o ho =>
    split at e
    · next kd =>
      cases hg : oGet o kd with
      | none => rw [hg] at e; cases e
      | some r =>
        rw [hg] at e
        cases e
        obtain ⟨a, n, rfl, _, _, _, ob, _⟩ := dicOf_ok st hy ho
        cases ry
        obtain ⟨p1, p2⟩ := o_in (E := X.xe) (Q := EP X pins σ Q) hu I ob (show Den X.K mg φ H v kd from hx) rx hg
        exact ⟨fun q => p1 fun s' I' => ⟨.bl _, H, I', rfl, q⟩, fun q => p2 fun s' I' => ⟨.bl _, H, I', rfl, q⟩⟩
    · cases e
  split at e
  · next ys hys =>
    split at e
    · next h =>
      cases e
      simp only [Bool.and_eq_true] at h
      have d1 := DenW.dp st hx (shaped_lay h.1)
      obtain ⟨a, us, rfl, hq, ds⟩ := seqOf_ok st hy hys
      have hl : PyData.canLayAll0 (D.pys ys) = true := by simpa [PyData.canLay0] using shaped_lay h.2
      have d2 := ds.dp hl
      obtain ⟨as, r1⟩ := Dp.reads I _ v v' d1 rx
      rcases hq with hq | hq
      · exact ⟨fun q => op_inD hu pins s σ H v _ v' u' Q I rx ry ⟨_, _, d1, .lst hq d2, h.1, h.2, q⟩, fun q => op_notInD hu pins s σ H v _ v' u' Q I rx ry ⟨_, _, d1, .lst hq d2, h.1, h.2, q⟩⟩
      · obtain ⟨bs, r2⟩ := Dp.reads I (.tuple (D.pys ys)) _ u' (.tup hq d2) ry
        exact ⟨fun q => SeqAt.in_tuple_reads r2 r1 hl (shaped_lay h.1) (room_in_shaped h.1 hu) ⟨.bl _, H, I, rfl, q⟩, fun q => SeqAt.notIn_tuple_reads r2 r1 hl (shaped_lay h.1) (room_in_shaped h.1 hu) ⟨.bl _, H, I, rfl, q⟩⟩
    · cases e
  · cases e
theorem tupLt_ok {a b : List D} {K : PySem.W.Frag} (hK : X.K = K) (hu : X.A.units + 65 < cLine) {φ : List Addr} (hc : (SeqAt.shaped (D.py (.tup a)) && SeqAt.shaped (D.py (.tup b)) && alkD (.tup a) (.tup b)) = true) {pins : List (Addr × Obj)} {s : Shared} {σ : L2.St} {H : Hp} {v u : V} {v' u' : Value} (I : Inv X pins σ H s) (rx : RelV v v') (ry : RelV u u')
    (hx : Den K mg φ H v (.tup a)) (hy : Den K mg φ H u (.tup b)) :
    ∃ as bs, Reads s.heap v' (D.py (.tup a)) as ∧ Reads s.heap u' (D.py (.tup b)) bs ∧ PySem.W.alike (D.py (.tup a)) (D.py (.tup b)) = true ∧ D.py (.tup a) ≠ .none ∧ X.A.units + min (D.py (.tup a)).depth (D.py (.tup b)).depth < cLine := by
  subst hK
  simp only [Bool.and_eq_true] at hc
  obtain ⟨as, r1⟩ := Dp.reads I _ v v' (hx.dp (shaped_lay hc.1.1)) rx
  obtain ⟨bs, r2⟩ := Dp.reads I _ u u' (hy.dp (shaped_lay hc.1.2)) ry
  refine ⟨as, bs, r1, r2, hc.2, ?_, ?_⟩
  · rw [D.py]; exact fun z => nomatch z
  have := SeqAt.depth_of_shaped hc.1.1
  have : min (D.py (.tup a)).depth (D.py (.tup b)).depth ≤ (D.py (.tup a)).depth := Nat.min_le_left _ _
  omega
theorem opr_cmp (hu : X.A.units + 65 < cLine) (o : Cop) : OpR X (compareOp (cpOf o)) (vCmp X.K mg o) := by
  intro pins s σ H vx vy v u Q I rx ry h
  obtain ⟨φ, S, x, y, z, st, hx, hy, e, q⟩ := h
  cases o with
  | eq => exact (eqW_ok rfl hu e I rx ry st hx hy).1 q
  | ne =>
    unfold cmpW at e
    simp only at e
    cases h : eqW S x y with
    | none => rw [h] at e; cases e
    | some b => rw [h] at e; cases e; exact (eqW_ok rfl hu h I rx ry st hx hy).2 q
  | inn => exact (inW_ok rfl hu e I rx ry st hx hy).1 q
  | notin =>
    unfold cmpW at e
    simp only at e
    cases h : inW S x y with
    | none => rw [h] at e; cases e
    | some b => rw [h] at e; cases e; exact (inW_ok rfl hu h I rx ry st hx hy).2 q
  | isN =>
    unfold cmpW at e
    simp only at e
    split at e
    · cases e
      cases (show Den X.K mg φ H vx .non from hx)
      cases (show Den X.K mg φ H vy .non from hy)
      exact op_isN pins s σ H _ _ v u Q I rx ry ⟨rfl, q⟩
    · next x' hn =>
      cases e
      cases (show Den X.K mg φ H vy .non from hy)
      exact op_isN pins s σ H _ _ v u Q I rx ry ⟨rfl, by rw [decide_eq_false (den_non hx fun z e1 e2 => hn (by rw [e1, e2]))]; exact q⟩
    · cases e
  | notN =>
    unfold cmpW at e
    simp only at e
    split at e
    · cases e
      cases (show Den X.K mg φ H vx .non from hx)
      cases (show Den X.K mg φ H vy .non from hy)
      exact op_notN pins s σ H _ _ v u Q I rx ry ⟨rfl, q⟩
    · next x' hn =>
      cases e
      cases (show Den X.K mg φ H vy .non from hy)
      exact op_notN pins s σ H _ _ v u Q I rx ry ⟨rfl, by rw [decide_eq_false (den_non hx fun z e1 e2 => hn (by rw [e1, e2]))]; exact q⟩
    · cases e
  | isB =>
    unfold cmpW at e
    simp only at e
    split at e
    · next a b =>
      cases e
      cases (show Den X.K mg φ H vx (.bl a) from hx)
      cases (show Den X.K mg φ H vy (.bl b) from hy)
      exact op_isBl pins s σ H _ _ v u Q I rx ry ⟨a, b, rfl, rfl, q⟩
    · cases e
  | notB =>
    unfold cmpW at e
    simp only at e
    split at e
    · next a b =>
      cases e
      cases (show Den X.K mg φ H vx (.bl a) from hx)
      cases (show Den X.K mg φ H vy (.bl b) from hy)
      exact op_notBl pins s σ H _ _ v u Q I rx ry ⟨a, b, rfl, rfl, q⟩
    · cases e
  | lt =>
    unfold cmpW at e
    simp only at e
    split at e
    · next a b =>
      cases e
      cases (show Den X.K mg φ H vx (.int a) from hx)
      cases (show Den X.K mg φ H vy (.int b) from hy)
      exact op_lt pins s σ H _ _ v u Q I rx ry ⟨a, b, rfl, rfl, q⟩
    · next a b =>
      split at e
      · next hc =>
        cases e
        obtain ⟨as, bs, r1, r2, r3, r4, r5⟩ := tupLt_ok rfl hu hc I rx ry (show Den X.K mg φ H vx (.tup a) from hx) (show Den X.K mg φ H vy (.tup b) from hy)
        exact PySem.W.lt_data r1 r2 r3 r4 r5 ⟨.bl _, H, I, rfl, q⟩
      · cases e
    · cases e
  | le =>
    unfold cmpW at e
    simp only at e
    split at e
    · next a b =>
      cases e
      cases (show Den X.K mg φ H vx (.int a) from hx)
      cases (show Den X.K mg φ H vy (.int b) from hy)
      exact op_le pins s σ H _ _ v u Q I rx ry ⟨a, b, rfl, rfl, q⟩
    · next a b =>
      split at e
      · next hc =>
        cases e
        obtain ⟨as, bs, r1, r2, r3, r4, r5⟩ := tupLt_ok rfl hu hc I rx ry (show Den X.K mg φ H vx (.tup a) from hx) (show Den X.K mg φ H vy (.tup b) from hy)
        exact PySem.W.le_data r1 r2 r3 r4 r5 ⟨.bl _, H, I, rfl, q⟩
      · cases e
    · cases e
  | gt =>
    unfold cmpW at e
    simp only at e
    split at e
    · next a b =>
      cases e
      cases (show Den X.K mg φ H vx (.int a) from hx)
      cases (show Den X.K mg φ H vy (.int b) from hy)
      exact op_gt pins s σ H _ _ v u Q I rx ry ⟨a, b, rfl, rfl, q⟩
    · next a b =>
      split at e
      · next hc =>
        cases e
        obtain ⟨as, bs, r1, r2, r3, r4, r5⟩ := tupLt_ok rfl hu hc I rx ry (show Den X.K mg φ H vx (.tup a) from hx) (show Den X.K mg φ H vy (.tup b) from hy)
        exact PySem.W.gt_data r1 r2 r3 r4 r5 ⟨.bl _, H, I, rfl, q⟩
      · cases e
    · cases e
  | ge =>
    unfold cmpW at e
    simp only at e
    split at e
    · next a b =>
      cases e
      cases (show Den X.K mg φ H vx (.int a) from hx)
      cases (show Den X.K mg φ H vy (.int b) from hy)
      exact op_ge pins s σ H _ _ v u Q I rx ry ⟨a, b, rfl, rfl, q⟩
    · next a b =>
      split at e
      · next hc =>
        cases e
        obtain ⟨as, bs, r1, r2, r3, r4, r5⟩ := tupLt_ok rfl hu hc I rx ry (show Den X.K mg φ H vx (.tup a) from hx) (show Den X.K mg φ H vy (.tup b) from hy)
        exact PySem.W.ge_data r1 r2 r3 r4 r5 ⟨.bl _, H, I, rfl, q⟩
      · cases e
    · cases e

/-! ### truth -/
theorem tru_of {K : PySem.W.Frag} {φ : List Addr} {S : Sto} {H : Hp} {v : V} {w : W} {b : Bool} (st : StOk K mg φ S H) (h : DenW K mg φ H v w) (e : truW S w = some b) : TruV K v H b := by
  cases w with
  | tmp xs =>
    obtain ⟨a, vs, rfl, _, h1, h2⟩ := h
    cases e
    exact .inl ⟨vs, SqL.of h1, by rw [h2.isEmpty]⟩
  | d x =>
    have hd : Den K mg φ H v x := h
    cases x with
    | non => cases e; cases hd; rfl
    | bl c => cases e; cases hd; rfl
    | int i => cases e; cases hd; rfl
    | str y =>
      unfold truW at e
      simp only at e
      split at e
      · next hl =>
        cases e
        cases hd
        refine ⟨LN_le hl, ?_⟩
        rw [Bool.eq_iff_iff]
        simp
      · cases e
    | tup xs =>
      cases e
      cases hd with
      | tup h1 h2 => exact .inr (.inl ⟨_, h1.sq, by rw [h2.isEmpty]⟩)
    | fz xs =>
      cases e
      cases hd with
      | fz h1 h2 => exact .inl ⟨_, h1.sq, by rw [h2.isEmpty]⟩
    | fn y => cases e
    | wt y => cases e
    | ref n =>
      cases hd with
      | ref hn =>
        unfold truW at e
        simp only at e
        split at e
        · next xs hs =>
          cases e
          obtain ⟨vs, h1, h2⟩ := st.obj _ _ _ hn hs
          exact .inl ⟨vs, SqL.of h1, by rw [h2.isEmpty]⟩
        · next kvs hs =>
          cases e
          obtain ⟨vs, h1, h2⟩ := st.obj _ _ _ hn hs
          refine .inr (.inr ⟨vs, h1, ?_⟩)
          cases h2 <;> rfl
        · cases e
        · cases e

/-! ### subscripts -/
def vIx (K : PySem.W.Frag) (mg : Str → Option Value) : R2 := fun v u H Q => ∃ φ S x y z, StOk K mg φ S H ∧ DenW K mg φ H v x ∧ DenW K mg φ H u y ∧ ixW S x y = some z ∧ Kont K mg φ S H z Q
theorem atI_get {α : Type} {xs : List α} {k : Int} {x : α} (h : atI xs k = some x) : ∃ j, ixN xs.length k = some j ∧ xs[j]? = some x := by
  unfold atI at h
  cases e : ixN xs.length k with
  | none => rw [e] at h; cases h
  | some j => rw [e] at h; exact ⟨j, rfl, h⟩
theorem ixr_ix : IxR X (vIx X.K mg) := by
  intro value slice pins s σ H vx vy v u Q I rx ry h hs
  obtain ⟨φ, S, x, y, z, st, hx, hy, e, k⟩ := h
  have seq : ∀ {xs : List D} {i : Int}, seqOf S x = some xs → y = .d (.int i) → ((atI xs i).map W.d) = some z → wpAny (model X.prog X.w) X.A (subscriptTail value slice v u) (EP X pins σ Q) X.xe s := fun {xs i} h1 h2 h3 => by
    subst h2
    cases (show Den X.K mg φ H vy (.int i) from hy)
    cases ha : atI xs i with
    | none => rw [ha] at h3; cases h3
    | some d =>
      rw [ha] at h3
      cases h3
      obtain ⟨a, vs, rfl, hq, ds⟩ := seqOf_ok st hx h1
      obtain ⟨j, e1, e2⟩ := atI_get ha
      obtain ⟨w, hw, dw⟩ := ds.get e2
      have hat : atI vs i = some w := by unfold atI; rw [ds.length, e1]; exact hw
      rcases hq with hq | hq
      · exact ix_list value slice pins s σ H _ _ v u Q I rx ry ⟨a, vs, i, w, rfl, rfl, hq, hat, k.old st dw⟩ hs
      · exact ix_tup value slice pins s σ H _ _ v u Q I rx ry ⟨a, vs, i, w, rfl, rfl, hq, hat, k.old st dw⟩ hs
  unfold ixW at e
  split at e
  · next i =>
    split at e
    · next zz =>
      split at e
      · next hl =>
        cases ha : atI zz.cps.toList i with
        | none => rw [ha] at e; cases e
        | some c =>
          rw [ha] at e
          cases e
          cases (show Den X.K mg φ H vx (.str zz) from hx)
          cases (show Den X.K mg φ H vy (.int i) from hy)
          exact ix_str value slice pins s σ H _ _ v u Q I rx ry ⟨zz, i, c, rfl, rfl, LN_le hl, ha, k.old st (.str _)⟩ hs
      · cases e
    · split at e
      · next xs hxs => exact seq hxs rfl e
      · cases e
  · cases e
/-- d[k] -/
def vDg (K : PySem.W.Frag) (mg : Str → Option Value) : R2 := fun v u H Q => ∃ φ S x y z, StOk K mg φ S H ∧ DenW K mg φ H v x ∧ DenW K mg φ H u y ∧ dgetW S x y = some z ∧ Kont K mg φ S H z Q
theorem dgr_ok (hu : X.A.units + 65 < cLine) {pins : List (Addr × Obj)} {s : Shared} {σ : L2.St} {H : Hp} {vx vy : V} {v u : Value} {Q : VK} (I : Inv X pins σ H s) (rx : RelV vx v) (ry : RelV vy u) (h : vDg X.K mg vx vy H Q) :
    s.TypeIs v "dict" ∧ wpAny (model X.prog X.w) X.A (getItem v u) (EP X pins σ Q) X.xe s := by
  obtain ⟨φ, S, x, y, z, st, hx, hy, e, k⟩ := h
  unfold dgetW at e
  split at e
  · next n kd =>
    split at e
    · next o ho =>
      split at e
      · next d hg =>
        cases e
        obtain ⟨a, rfl, hn, ob⟩ := ref_at st hx ho
        cases rx
        refine ⟨(o_type I ob (by cases o <;> first | rfl | cases hg)).1, o_getItem hu I ob (show Den X.K mg φ H vy kd from hy) ry hg fun v w' s' I' r dv => ⟨v, H, I', r, k.old st dv⟩⟩
      · cases e
    · cases e
  · cases e

/-! ### slices -/
def vSl (K : PySem.W.Frag) (mg : Str → Option Value) : V → Option Int → Option Int → Hp → VK → Prop := fun v lo hi H Q => ∃ φ S x z, StOk K mg φ S H ∧ DenW K mg φ H v x ∧ slW S x lo hi = some z ∧ Kont K mg φ S H z Q
theorem cut_whole {xs : List D} {lo hi : Option Int} (h : HT.sIx xs.length 0 lo = 0 ∧ HT.sIx xs.length xs.length hi = xs.length) : cutD xs lo hi = xs := by
  unfold cutD
  rw [h.1, h.2]
  simp
theorem cut_dens {K : PySem.W.Frag} {φ : List Addr} {H : Hp} {vs : List V} {ds : List D} (h : Dens K mg φ H vs ds) (lo hi : Option Int) : Dens K mg φ H (cutV vs lo hi) (cutD ds lo hi) := by
  unfold cutV cutD
  rw [h.length]
  exact (h.drop _).take _
theorem slr_sl : SlR X (vSl X.K mg) := by
  intro pins s σ H vx v vl vu lo hi sl Q I rx hs pl pu h
  obtain ⟨φ, S, x, z, st, hx, e, k⟩ := h
  have lst : ∀ {w : W}, DenW X.K mg φ H vx w → ((lstOf S w).map fun xs => W.tmp (cutD xs lo hi)) = some z → ∃ T id, typeLookup (.type T) "__getitem__" = pure (some (.builtin id)) ∧ s.TypeIs v T ∧ wpAny (model X.prog X.w) X.A (getItem v (.ref sl)) (EP X pins σ Q) X.xe s := fun {w} hw e => by
    cases hl : lstOf S w with
    | none => rw [hl] at e; cases e
    | some xs =>
      rw [hl] at e
      cases e
      obtain ⟨a, vs, rfl, hq, ds⟩ := lstOf_ok st hw hl
      exact sl_list pins s σ H _ v vl vu lo hi sl Q I rx hs pl pu ⟨a, vs, rfl, hq, k.lst st (cut_dens ds lo hi)⟩
  unfold slW at e
  split at e
  · next xs =>
    cases e
    have hx0 := hx
    cases (show Den X.K mg φ H vx (.tup xs) from hx) with
    | tup h1 h2 =>
      refine sl_tupK pins s σ H _ v vl vu lo hi sl Q I rx hs pl pu ⟨_, _, rfl, h1.sq, fun hw => ?_, fun _ => k.tup st (cut_dens h2 lo hi)⟩
      rw [h2.length] at hw
      rw [cut_whole hw] at k
      exact k.old st hx0
  · exact lst hx e
end
end Z

set_option Elab.async false
set_option linter.all false
set_option maxRecDepth 100000
/-! ZS: sorted, min, max of items that are alike. -/
namespace Z
open PySem PySem.Spec PyProof.Rows L2
abbrev encP (p : V × D) : PyData := p.2.py
abbrev relP (u : Value) (p : V × D) : Prop := RelV p.1 u
theorem ordOk_all {ds : List D} (h : ordOk ds = true) : (∀ d ∈ ds, SeqAt.shaped d.py = true) ∧ (∀ d ∈ ds, ∀ e ∈ ds, PySem.W.alike d.py e.py = true) ∧ ((∀ d ∈ ds, tupNE d = true) ∨ ∀ d ∈ ds, plnNE d = true) := by
  unfold ordOk at h
  simp only [Bool.and_eq_true, Bool.or_eq_true, List.all_eq_true] at h
  exact ⟨h.1.1, h.1.2, h.2⟩
theorem zip_mem {α β : Type} : ∀ {xs : List α} {ys : List β} {p : α × β}, p ∈ xs.zip ys → p.1 ∈ xs ∧ p.2 ∈ ys := fun h => List.of_mem_zip h
theorem ord_alike {ds : List D} {bs : List (V × D)} (h : ordOk ds = true) (hm : ∀ p ∈ bs, p.2 ∈ ds) : PySem.W.AllAlike (bs.map encP) := by
  intro x hx y hy
  obtain ⟨p, hp, rfl⟩ := List.mem_map.mp hx
  obtain ⟨q, hq, rfl⟩ := List.mem_map.mp hy
  exact (ordOk_all h).2.1 _ (hm p hp) _ (hm q hq)
theorem tupNE_py {d : D} (h : tupNE d = true) : ∃ x r, d.py = .tuple (x :: r) := by
  unfold tupNE at h
  split at h
  · next x r => exact ⟨x.py, D.pys r, by rw [D.py, D.pys]⟩
  · cases h
theorem plnNE_py {d : D} (h : plnNE d = true) : d.py ≠ .none ∧ ∀ xs, d.py ≠ .tuple xs := by
  cases d with
  | non => cases h
  | tup xs => cases h
  | bl b => unfold D.py; exact ⟨(fun z => by cases z), (fun _ z => by cases z)⟩
  | int b => unfold D.py; exact ⟨(fun z => by cases z), (fun _ z => by cases z)⟩
  | str b => unfold D.py; exact ⟨(fun z => by cases z), (fun _ z => by cases z)⟩
  | fz b => unfold D.py; exact ⟨(fun z => by cases z), (fun _ z => by cases z)⟩
  | ref b => unfold D.py; exact ⟨(fun z => by cases z), (fun _ z => by cases z)⟩
  | wt b => unfold D.py; exact ⟨(fun z => by cases z), (fun _ z => by cases z)⟩
  | fn b => unfold D.py; exact ⟨(fun z => by cases z), (fun _ z => by cases z)⟩
theorem ord_sortable {ds : List D} {bs : List (V × D)} (h : ordOk ds = true) (hm : ∀ p ∈ bs, p.2 ∈ ds) : PySem.W.Sortable (bs.map encP) := by
  rcases (ordOk_all h).2.2 with z | z
  · refine .inl fun d hd => ?_
    obtain ⟨p, hp, rfl⟩ := List.mem_map.mp hd
    exact tupNE_py (z _ (hm p hp))
  · refine .inr fun d hd => ?_
    obtain ⟨p, hp, rfl⟩ := List.mem_map.mp hd
    exact plnNE_py (z _ (hm p hp))
theorem each_zip : ∀ {vs : List V} {its : List Value} {ds : List D}, Vals vs its → vs.length = ds.length → PySem.W.EachIs relP its (vs.zip ds)
  | _, _, [], .nil, _ => .nil
  | _, _, _ :: _, .nil, h => by simp at h
  | _, _, [], .cons _ _, h => by simp at h
  | _, _, d :: ds, .cons r rs, h => .cons r (each_zip rs (by simpa using h))
theorem each_vals : ∀ {out : List Value} {bs : List (V × D)}, PySem.W.EachIs relP out bs → Vals (bs.map (·.1)) out
  | _, _, .nil => .nil
  | _, _, .cons r rs => .cons r (each_vals rs)
theorem dens_of {K : PySem.W.Frag} {mg : Str → Option Value} {φ : List Addr} {H : Hp} : ∀ {bs : List (V × D)}, (∀ p ∈ bs, Den K mg φ H p.1 p.2) → Dens K mg φ H (bs.map (·.1)) (bs.map (·.2))
  | [], _ => .nil
  | p :: bs, h => .cons (h p List.mem_cons_self) (dens_of fun q hq => h q (List.mem_cons_of_mem _ hq))
theorem zip_dens {K : PySem.W.Frag} {mg : Str → Option Value} {φ : List Addr} {H : Hp} : ∀ {vs : List V} {ds : List D}, Dens K mg φ H vs ds → ∀ p ∈ vs.zip ds, Den K mg φ H p.1 p.2
  | _, _, .nil, p, h => by simp at h
  | _, _, .cons a b, p, h => by
    rw [List.zip_cons_cons] at h
    rcases List.mem_cons.mp h with rfl | h
    · exact a
    · exact zip_dens b p h
theorem zip_snd {α β : Type} : ∀ {xs : List α} {ys : List β}, xs.length = ys.length → (xs.zip ys).map (·.2) = ys
  | [], [], _ => rfl
  | [], _ :: _, h => by simp at h
  | _ :: _, [], h => by simp at h
  | x :: xs, y :: ys, h => by rw [List.zip_cons_cons, List.map_cons, zip_snd (by simpa using h)]
theorem sort_snd {vs : List V} {ds : List D} (hl : vs.length = ds.length) : ((vs.zip ds).mergeSort (PySem.W.dataLe false encP)).map (·.2) = sortD ds := by
  unfold sortD
  have e := List.map_mergeSort (r := PySem.W.dataLe false encP) (s := fun a b => !ltD b a) (f := fun p : V × D => p.2) (l := vs.zip ds) fun a _ b _ => congrFun (congrFun (PySem.W.dataLe_eq false encP) a) b
  rw [show (vs.zip ds).map (fun p : V × D => p.2) = ds from zip_snd hl] at e
  exact e
section
variable {X : Cx} {mg : Str → Option Value} {pins : List (Addr × Obj)} {σ : L2.St} {s : Shared} {φ : List Addr} {H : Hp} {S : Sto}
theorem each_reads (I : Inv X pins σ H s) {vs : List V} {its : List Value} {ds : List D} (rv : Vals vs its) (h : Dens X.K mg φ H vs ds) (hs : ∀ d ∈ ds, SeqAt.shaped d.py = true) : PySem.W.EachIs (fun v b => ∃ as, Reads s.heap v (encP b) as) its (vs.zip ds) := by
  induction rv generalizing ds with
  | nil => exact .nil
  | cons r rs ih =>
    cases h with
    | cons d h => exact .cons (Dp.reads I _ _ _ (d.dp (shaped_lay (hs _ List.mem_cons_self))) r) (ih h fun e he => hs e (List.mem_cons_of_mem _ he))
theorem depth_ok (hu : X.A.units + 65 < cLine) : X.A.units + 66 < cLine ∨ True := .inr trivial
theorem sortedL_ok (hu : X.A.units + 67 < cLine) {ds : List D} {a : Addr} {vs : List V} {Q : VK} (I : Inv X pins σ H s) (st : StOk X.K mg φ S H) (hq : SqL X.K H a vs) (hd : Dens X.K mg φ H vs ds) (ho : ordOk ds = true) (k : Kont X.K mg φ S H (.tmp (sortD ds)) Q) :
    wpAny (model X.prog X.w) X.A (call (.builtin "sorted") [.ref a]) (EP X pins σ Q) X.xe s := by
  obtain ⟨its, rv, pl, hz⟩ := I.list hq
  have hl := hd.length
  have hli := rv.length
  have hm : ∀ p ∈ vs.zip ds, p.2 ∈ ds := fun p hp => (zip_mem hp).2
  have hs := (ordOk_all ho).1
  refine PySem.W.sorted_data (R := relP) (bs := vs.zip ds) (enc := encP) pl.isList (each_zip rv hl) (each_reads I rv hd hs) (ord_alike ho hm) (ord_sortable ho hm) (by rw [List.length_zip, ← hl, Nat.min_self]; exact hz) (fun b hb => ?_) fun out h1 h2 => ?_
  · have := SeqAt.depth_of_shaped (hs _ (hm b hb))
    show X.A.units + 2 + b.2.py.depth < cLine
    omega
  · obtain ⟨ep, he'⟩ := PyProof.Rows.sortedAll_at s.heap its out.toArray
    have hv := each_vals h2
    have hlen : (((vs.zip ds).mergeSort (PySem.W.dataLe false encP)).map (·.1)).length ≤ sizeLine := by
      rw [List.length_map, List.length_mergeSort, List.length_zip, ← hl, Nat.min_self]; exact hz
    have hd' : Dens X.K mg φ H (((vs.zip ds).mergeSort (PySem.W.dataLe false encP)).map (·.1)) (sortD ds) := by
      rw [← sort_snd hl]
      exact dens_of fun p hp => zip_dens hd p (List.mem_mergeSort.mp hp)
    exact ⟨.ref _, upd H (s.heap.objs.size + 1) (.lst (((vs.zip ds).mergeSort (PySem.W.dataLe false encP)).map (·.1))), I.laid (t' := s.toks) (fun _ _ => PyProof.Rows.sortedAll_old) (Nat.le_succ _) ⟨hlen, out, ep, hv, he'⟩, rfl, k.lst st hd' _ (I.hok.fresh (Nat.le_succ _))⟩
/-- the value that is found among the items -/
theorem reads_all (I : Inv X pins σ H s) : ∀ {vs : List V} {its : List Value} {ds : List D}, Vals vs its → Dens X.K mg φ H vs ds → (∀ d ∈ ds, SeqAt.shaped d.py = true) → ∃ as, ReadsAll s.heap its (ds.map D.py) as
  | _, _, _, .nil, .nil, _ => ⟨_, .nil⟩
  | _, _, _, .cons r rs, .cons d h, hs => by
    obtain ⟨as, h1⟩ := Dp.reads I _ _ _ (d.dp (shaped_lay (hs _ List.mem_cons_self))) r
    obtain ⟨bs, h2⟩ := reads_all I rs h fun e he => hs e (List.mem_cons_of_mem _ he)
    exact ⟨_, .cons h1 h2⟩
end
mutual
theorem py_inj : ∀ (a b : D), a.py.canLay0 = true → b.py.canLay0 = true → a.py = b.py → a = b
  | .non, b, _, hb, e => by
    cases b <;> first | rfl | (unfold D.py at e; cases e) | (unfold D.py at hb; simp [PyData.canLay0] at hb)
  | .bl a, b, _, hb, e => by
    cases b <;> first | (unfold D.py at e; cases e; rfl) | (unfold D.py at e; cases e) | (unfold D.py at hb; simp [PyData.canLay0] at hb)
  | .int a, b, _, hb, e => by
    cases b <;> first | (unfold D.py at e; cases e; rfl) | (unfold D.py at e; cases e) | (unfold D.py at hb; simp [PyData.canLay0] at hb)
  | .str a, b, _, hb, e => by
    cases b <;> first | (unfold D.py at e; cases e; rfl) | (unfold D.py at e; cases e) | (unfold D.py at hb; simp [PyData.canLay0] at hb)
  | .tup a, b, ha, hb, e => by
    cases b with
    | tup b =>
      unfold D.py at e ha hb
      simp only [PyData.canLay0] at ha hb
      injection e with e
      rw [pys_inj a b ha hb e]
    | _ => first | (unfold D.py at e; cases e) | (unfold D.py at hb; simp [PyData.canLay0] at hb)
  | .fz a, b, ha, hb, e => by
    cases b with
    | fz b =>
      unfold D.py at e ha hb
      simp only [PyData.canLay0] at ha hb
      injection e with e
      rw [pys_inj a b ha hb e]
    | _ => first | (unfold D.py at e; cases e) | (unfold D.py at hb; simp [PyData.canLay0] at hb)
  | .ref _, _, ha, _, _ => by unfold D.py at ha; simp [PyData.canLay0] at ha
  | .fn _, _, ha, _, _ => by unfold D.py at ha; simp [PyData.canLay0] at ha
  | .wt _, _, ha, _, _ => by unfold D.py at ha; simp [PyData.canLay0] at ha
theorem pys_inj : ∀ (a b : List D), PyData.canLayAll0 (D.pys a) = true → PyData.canLayAll0 (D.pys b) = true → D.pys a = D.pys b → a = b
  | [], [], _, _, _ => rfl
  | [], _ :: _, _, _, e => by rw [D.pys, D.pys] at e; cases e
  | _ :: _, [], _, _, e => by rw [D.pys, D.pys] at e; cases e
  | x :: xs, y :: ys, ha, hb, e => by
    rw [D.pys, D.pys] at e
    rw [D.pys] at ha hb
    simp only [PyData.canLayAll0, Bool.and_eq_true] at ha hb
    injection e with e1 e2
    rw [py_inj x y ha.1 hb.1 e1, pys_inj xs ys ha.2 hb.2 e2]
end
theorem minD_py (x : D) : ∀ xs : List D, (minD (x :: xs)).py = PySem.W.minD x.py (xs.map D.py) := by
  intro xs
  show (xs.foldl (fun a y => if ltD y a = true then y else a) x).py = _
  unfold PySem.W.minD
  induction xs generalizing x with
  | nil => rfl
  | cons y ys ih =>
    rw [List.map_cons, List.foldl_cons, List.foldl_cons]
    have : (if PySem.W.dataLt y.py x.py = true then y.py else x.py) = (if ltD y x = true then y else x).py := by unfold ltD; split <;> rfl
    rw [this]
    exact ih _
theorem maxD_py (x : D) : ∀ xs : List D, (maxD (x :: xs)).py = PySem.W.maxD x.py (xs.map D.py) := by
  intro xs
  show (xs.foldl (fun a y => if ltD a y = true then y else a) x).py = _
  unfold PySem.W.maxD
  induction xs generalizing x with
  | nil => rfl
  | cons y ys ih =>
    rw [List.map_cons, List.foldl_cons, List.foldl_cons]
    have : (if PySem.W.dataLt x.py y.py = true then y.py else x.py) = (if ltD x y = true then y else x).py := by unfold ltD; split <;> rfl
    rw [this]
    exact ih _
theorem fold_mem {α : Type} (f : α → α → Bool) : ∀ (xs : List α) (x : α), (xs.foldl (fun a y => if f a y = true then y else a) x) ∈ x :: xs
  | [], x => List.mem_cons_self
  | y :: ys, x => by
    rw [List.foldl_cons]
    have h := fold_mem f ys (if f x y = true then y else x)
    rcases List.mem_cons.mp h with z | z
    · rw [z]; split
      · exact List.mem_cons_of_mem _ List.mem_cons_self
      · exact List.mem_cons_self
    · exact List.mem_cons_of_mem _ (List.mem_cons_of_mem _ z)
theorem minD_mem {ds : List D} (h : ds ≠ []) : minD ds ∈ ds := by
  cases ds with
  | nil => exact absurd rfl h
  | cons x xs => exact fold_mem (fun a y => ltD y a) xs x
theorem maxD_mem {ds : List D} (h : ds ≠ []) : maxD ds ∈ ds := by
  cases ds with
  | nil => exact absurd rfl h
  | cons x xs => exact fold_mem (fun a y => ltD a y) xs x
section
variable {X : Cx} {mg : Str → Option Value} {pins : List (Addr × Obj)} {σ : L2.St} {s : Shared} {φ : List Addr} {H : Hp} {S : Sto}
theorem ord_alikeAll {ds : List D} (h : ordOk ds = true) : PySem.W.AlikeAll (ds.map D.py) := by
  obtain ⟨h1, h2, h3⟩ := ordOk_all h
  refine ⟨fun x hx y hy => ?_, fun x hx => ?_⟩
  · obtain ⟨a, ha, rfl⟩ := List.mem_map.mp hx
    obtain ⟨b, hb, rfl⟩ := List.mem_map.mp hy
    exact h2 a ha b hb
  · obtain ⟨a, ha, rfl⟩ := List.mem_map.mp hx
    rcases h3 with z | z
    · obtain ⟨x, r, e⟩ := tupNE_py (z a ha)
      rw [e]; exact fun z => nomatch z
    · exact (plnNE_py (z a ha)).1
theorem depths_le {n : Nat} : ∀ {ds : List D}, (∀ d ∈ ds, d.py.depth ≤ n) → PyData.depthAll (ds.map D.py) ≤ n
  | [], _ => by simp [PyData.depthAll]
  | d :: ds, h => by
    rw [List.map_cons, PyData.depthAll]
    have h1 := h d List.mem_cons_self
    have h2 := depths_le (ds := ds) fun x hx => h x (List.mem_cons_of_mem _ hx)
    omega
theorem found_ok (I : Inv X pins σ H s) {ds : List D} {vs : List V} {its : List Value} {m : D} {i : Nat} {v : Value} {h' : Heap} {bs : List Addr} (rv : Vals vs its) (hd : Dens X.K mg φ H vs ds) (ho : ordOk ds = true) (hm : m ∈ ds) (hi : its.toArray[i]? = some v) (r : Reads h' v m.py bs)
    (k : ∀ b o, s.heap.get? b = some o → h'.get? b = some o) : ∃ x, RelV x v ∧ Den X.K mg φ H x m := by
  have hi' : its[i]? = some v := by simpa using hi
  have hlt : i < vs.length := by
    rw [rv.length]
    exact (List.getElem?_eq_some_iff.mp hi').1
  obtain ⟨d, e1, dd⟩ := hd.getV (List.getElem?_eq_getElem hlt)
  obtain ⟨u, e2, ru⟩ := rv.get (List.getElem?_eq_getElem hlt)
  rw [hi'] at e2
  cases e2
  obtain ⟨h1, h2, _⟩ := ordOk_all ho
  have hdm : d ∈ ds := List.mem_of_getElem? e1
  obtain ⟨cs, r2⟩ := Dp.reads I _ _ _ (dd.dp (shaped_lay (h1 d hdm))) ru
  have e := PySem.W.alike_unique d.py m.py v cs bs (h2 d hdm m hm) (PyProof.Rows.Reads.keeps k r2) r
  have := py_inj d m (shaped_lay (h1 d hdm)) (shaped_lay (h1 m hm)) e
  subst this
  exact ⟨_, ru, dd⟩
theorem min_ok (hc : X.calm = true) (hu : X.A.units + 67 < cLine) {ds : List D} {a : Addr} {vs : List V} {Q : VK} (I : Inv X pins σ H s) (st : StOk X.K mg φ S H) (hq : SqL X.K H a vs) (hd : Dens X.K mg φ H vs ds) (ho : ordOk ds = true) (hne : ds ≠ []) (k : Kont X.K mg φ S H (.d (minD ds)) Q) :
    wpAny (model X.prog X.w) X.A (call (.builtin "min") [.ref a]) (EP X pins σ Q) X.xe s := by
  obtain ⟨its, rv, pl, hz⟩ := I.list hq
  cases ds with
  | nil => exact absurd rfl hne
  | cons x xs =>
    have hs := (ordOk_all ho).1
    obtain ⟨as, hr⟩ := reads_all I rv hd hs
    have hdep := depths_le (n := 64) (ds := x :: xs) fun d hd => SeqAt.depth_of_shaped (hs d hd)
    refine PySem.W.min_list_data (I.ok.hd hc) pl.isList (x := x.py) (xs := xs.map D.py) (as := as) (by simpa using hr) (by simpa using ord_alikeAll ho) (by rw [List.map_cons] at hdep; omega) fun i v h' tk bs hi r kp => ?_
    rw [← minD_py] at r
    obtain ⟨y, ry, dy⟩ := found_ok I rv hd ho (minD_mem hne) hi r kp
    exact ⟨y, H, I.kept kp, ry, k.old st dy⟩
theorem max_ok (hc : X.calm = true) (hu : X.A.units + 67 < cLine) {ds : List D} {a : Addr} {vs : List V} {Q : VK} (I : Inv X pins σ H s) (st : StOk X.K mg φ S H) (hq : SqL X.K H a vs) (hd : Dens X.K mg φ H vs ds) (ho : ordOk ds = true) (hne : ds ≠ []) (k : Kont X.K mg φ S H (.d (maxD ds)) Q) :
    wpAny (model X.prog X.w) X.A (call (.builtin "max") [.ref a]) (EP X pins σ Q) X.xe s := by
  obtain ⟨its, rv, pl, hz⟩ := I.list hq
  cases ds with
  | nil => exact absurd rfl hne
  | cons x xs =>
    have hs := (ordOk_all ho).1
    obtain ⟨as, hr⟩ := reads_all I rv hd hs
    have hdep := depths_le (n := 64) (ds := x :: xs) fun d hd => SeqAt.depth_of_shaped (hs d hd)
    refine PySem.W.max_list_data (I.ok.hd hc) pl.isList (x := x.py) (xs := xs.map D.py) (as := as) (by simpa using hr) (by simpa using ord_alikeAll ho) (by rw [List.map_cons] at hdep; omega) fun i v h' tk bs hi r kp => ?_
    rw [← maxD_py] at r
    obtain ⟨y, ry, dy⟩ := found_ok I rv hd ho (maxD_mem hne) hi r kp
    exact ⟨y, H, I.kept kp, ry, k.old st dy⟩
end
end Z

set_option Elab.async false
set_option linter.all false
set_option maxRecDepth 100000
/-! ZC: what is collected from lists, tuples, dicts; sorted of it. -/
namespace ZC
open PySem PyProof.Rows
section
variable {prog : Program} {w : World} {A : Around} {E : Value → Shared → Prop} {s : Shared}
theorem collect_tuple {l : Addr} {vs : List Value} {Q : List Value → Shared → Prop} (hl : IsTup s.heap l vs.toArray)
    (h : Q vs { s with heap := (s.heap.push (seqObj "list" #[] 0)).update s.heap.objs.size (Obj.mapSeq (· ++ vs.toArray)) }) (hsz : vs.length ≤ sizeLine) :
    wpAny (model prog w) A (collect (.ref l)) Q E s := by
  obtain ⟨o, ho, hc, n, hd⟩ := id hl
  unfold collect
  refine wpAny_bind (wpAny_runValue (codeAny_builtin entry_proto_collect' ?_))
  show wpAny _ _ (do again (.builtin "list.__iadd__" ⟨[← newList [], .ref l], []⟩)) _ _ s
  refine wpAny_bind (wpAny_newList (wpAny_pure ⟨Code.quiet_builtin _ (by decide +kernel), codeAny_builtin entry_list_iadd' ?_⟩))
  show wpAny _ _ (Builtin.List.listExtendWith (.ref s.heap.objs.size) (.ref l) (.ref s.heap.objs.size)) _ _ { s with heap := s.heap.push (seqObj "list" #[] 0) }
  unfold Builtin.List.listExtendWith
  have ho' : (s.heap.push (seqObj "list" #[] 0)).get? l = some o := Heap.get?_push_of_some _ ho
  refine wpAny_bind (wpAny_typeOf (T := "tuple") ⟨o, ho', hc⟩ ?_)
  have ht : (Value.type "tuple" == Value.type "tuple") = true := by rfl
  rw [if_pos (by rw [ht]; simp)]
  refine wpAny_bind (listItems_at ho' hd ?_)
  refine wpAny_bind (listItems_at (xs := #[]) (n := 0) (Heap.get?_push_size _ rfl) rfl ?_)
  rw [if_neg (by simp)]
  refine wpAny_bind (listUpdate_at (xs := #[]) (n := 0) (Heap.get?_push_size _ rfl) rfl ?_ (Nat.zero_le _) (by show (#[] ++ vs.toArray).size ≤ sizeLine + 1; simp only [Array.size_append, List.size_toArray, List.length_nil]; omega))
  refine wpAny_pure ?_
  show wpAny (model prog w) A (do
      let o ← load s.heap.objs.size
      match o.data with
      | .seq xs _ => pure xs.toList
      | _ => unsupported "internal:collect") Q E { s with heap := (s.heap.push (seqObj "list" #[] 0)).update s.heap.objs.size (Obj.mapSeq (· ++ vs.toArray)) }
  refine wpAny_bind (wpAny_load (get?_update_seq (Heap.get?_push_size _ rfl) _) ?_)
  show wpAny _ _ (pure ((#[] : Array Value) ++ vs.toArray).toList) Q E _
  rw [show ((#[] : Array Value) ++ vs.toArray).toList = vs by simp]
  exact wpAny_pure h
theorem src_dict {d : Addr} {es : Array DictEntry} {ep : Nat} (lo : (d == sysModules) = false) : PySem.W.KdlSrc prog w "dict" d d es.size (fun i v => ∃ hi : i < es.size, v = es[i].key) (fun h => h.DictRaw d es ep) where
  type := fun _ hm => hm.typeIs
  there := fun _ hm => ⟨let ⟨_, ho, _⟩ := hm; Heap.lt_size ho, let ⟨_, ho, _⟩ := hm; Heap.lt_size ho⟩
  keep := fun _ _ hm hk => hm.at fun o e => hk d (.inl rfl) o e
  notList := by decide
  notTuple := by decide
  hint := fun _ _ _ _ hm hq => PySem.W.kdl_hint_dict hm.typeIs hq
  iter := fun _ s hh hm => ⟨_, _, (fun _ _ hq => wpAny_pyIter_dict_raw lo hm hq), Walks.rawKeys hh _ d (Nat.ne_of_lt (let ⟨_, ho, _⟩ := hm; Heap.lt_size ho)) es ep, ⟨⟨_, Heap.get?_push_size _ rfl, rfl, rfl⟩, hm.at fun o e => Heap.get?_push_of_some _ e⟩⟩
theorem src_values {r d : Addr} {es : Array DictEntry} {ep : Nat} (lo : (d == sysModules) = false) : PySem.W.KdlSrc prog w "dict_values" r d es.size (fun i v => ∃ hi : i < es.size, v = es[i].val) (fun h => h.IsValuesView r d ∧ h.DictRaw d es ep) where
  type := fun _ hm => hm.1.typeIs
  there := fun _ hm => ⟨let ⟨_, ho, _⟩ := hm.1; Heap.lt_size ho, let ⟨_, ho, _⟩ := hm.2; Heap.lt_size ho⟩
  keep := fun _ _ hm hk => ⟨let ⟨o, ho, x⟩ := hm.1; ⟨o, hk r (.inl rfl) o ho, x⟩, hm.2.at fun o e => hk d (.inr rfl) o e⟩
  notList := by decide
  notTuple := by decide
  hint := fun _ _ _ _ hm hq => PySem.W.kdl_hint_values hm.1.typeIs hq
  iter := fun _ s hh hm => ⟨_, _, (fun _ _ hq => wpAny_pyIter_values_raw hm.1 hm.2 hq), Walks.rawValues hh _ d (Nat.ne_of_lt (let ⟨_, ho, _⟩ := hm.2; Heap.lt_size ho)) es ep, ⟨⟨_, Heap.get?_push_size _ rfl, rfl, rfl⟩, hm.2.at fun o e => Heap.get?_push_of_some _ e⟩⟩
/-- sorted(x), what is collected told -/
theorem sorted_by {r : Addr} {Q : Value → Shared → Prop} {P : Heap → List Value → Prop}
    (hc : ∀ R : List Value → Shared → Prop, (∀ h' tk vs, (∀ b o, s.heap.get? b = some o → h'.get? b = some o) → P h' vs → R vs { s with heap := h', toks := tk }) → wpAny (model prog w) A.in1 (collect (.ref r)) R E s)
    (hs : ∀ h' tk vs, (∀ b o, s.heap.get? b = some o → h'.get? b = some o) → P h' vs → vs.length ≤ sizeLine ∧
      wpAny (model prog w) A.in1 (call (.builtin "list.sort") [.ref h'.objs.size]) (fun _ s' => Q (.ref h'.objs.size) s') E { s with heap := h'.push { cls := .type "list", data := .seq vs.toArray }, toks := tk }) :
    wpAny (model prog w) A (call (.builtin "sorted") [.ref r]) Q E s := by
  refine Calls.call_function_entry kind_sorted plain_sorted entry_sorted (args_sorted1 _) ?_
  unfold Builtin.«sorted»
  refine wpAny_bind (m := checkCount "sorted" 1 1 _) (wpAny_pure ?_)
  refine wpAny_bind (hc _ fun h' tk vs hk hp => ?_)
  obtain ⟨hz, hg⟩ := hs h' tk vs hk hp
  refine wpAny_bind (wpAny_newList ?_ hz)
  refine wpAny_bind (wpAny_holding (wpAny_mono hg (fun _ s' x => ?_) fun _ _ e => e))
  exact wpAny_pure ⟨_, rfl, x⟩
end
end ZC

set_option Elab.async false
set_option linter.all false
set_option maxRecDepth 100000
/-! ZK: collected items as deep values; sorted. -/
namespace Z
open PySem PySem.Spec PyProof.Rows L2
section
variable {X : Cx} {mg : Str → Option Value} {pins : List (Addr × Obj)} {σ : L2.St} {s : Shared} {φ : List Addr} {H : Hp} {S : Sto}
theorem vals_map {α : Type} (f : α → V) (g : α → Value) (h : ∀ x, RelV (f x) (g x)) : ∀ xs : List α, Vals (xs.map f) (xs.map g)
  | [] => .nil
  | x :: xs => .cons (h x) (vals_map f g h xs)
theorem PD.keys {K : PySem.W.Frag} {xs : List (NestedKey × Addr × Value)} {kvs : List (D × D)} (h : PD K mg φ H xs kvs) : Dens K mg φ H (xs.map fun x => V.ref x.2.1) (kvs.map (·.1)) := by
  induction h with
  | nil => exact .nil
  | cons z _ ih => exact .cons z.2.2.1 ih
theorem PD.vals {K : PySem.W.Frag} {xs : List (NestedKey × Addr × Value)} {kvs : List (D × D)} (h : PD K mg φ H xs kvs) : ∃ us, Vals us (xs.map fun x => x.2.2) ∧ Dens K mg φ H us (kvs.map (·.2)) := by
  induction h with
  | nil => exact ⟨[], .nil, .nil⟩
  | cons z _ ih =>
    obtain ⟨us, h1, h2⟩ := ih
    obtain ⟨v, r, d⟩ := z.2.2.2
    exact ⟨v :: us, .cons r h1, .cons d h2⟩
theorem den_kD {K : PySem.W.Frag} (k : Key) : Den K mg φ H (kV k) (kD k) := by
  cases k with
  | inl i => exact .int i
  | inr x => exact .str x
/-- a dict's raw entries: keys and values -/
theorem o_raw (I : Inv X pins σ H s) {a : Addr} {o : O} (h : ObjD X.K mg φ H a o) (hd : isDO o = true) : ∃ es ep us ws, s.heap.DictRaw a es ep ∧ (a == sysModules) = false ∧ es.size ≤ sizeLine ∧ Vals us (es.toList.map (·.key)) ∧ Vals ws (es.toList.map (·.val)) ∧
    (match o with
      | .dk kvs => Dens X.K mg φ H us (kvs.map fun kv => kD kv.1) ∧ Dens X.K mg φ H ws (kvs.map (·.2))
      | .dd kvs => Dens X.K mg φ H us (kvs.map (·.1)) ∧ Dens X.K mg φ H ws (kvs.map (·.2))
      | _ => False) := by
  cases o with
  | lst xs => cases hd
  | dk kvs =>
    obtain ⟨vs, h1, h2⟩ := h
    obtain ⟨hz, hs, ps, rel, dd⟩ := dk_of I.hok h1
    obtain ⟨es, ep, r1, r2, r3⟩ := dd.raw
    have l1 : vs.length = ps.length := Paired.length rel
    have hget : ∀ (i : Nat), (es.toList.map (·.key))[i]? = (es[i]?).map (·.key) := fun i => by rw [List.getElem?_map, Array.getElem?_toList]
    have ks : ∀ (l : List (Key × V)) (m : List DictEntry) (p : List (Key × Value)), KV l p → m.length = p.length → (∀ (i : Nat) (e : DictEntry) (q : Key × Value), m[i]? = some e → p[i]? = some q → (mixKind X.prog X.w).is q.1 e.key = true ∧ e.val = q.2) →
        Vals (l.map fun kv => kV kv.1) (m.map (·.key)) ∧ Vals (l.map (·.2)) (m.map (·.val)) := by
      intro l m p r
      unfold KV at r
      induction r generalizing m with
      | nil => intro hl _; cases m with | nil => exact ⟨.nil, .nil⟩ | cons _ _ => simp at hl
      | @cons a b as bs hab t ih =>
        intro hl hh
        cases m with
        | nil => simp at hl
        | cons e m =>
          obtain ⟨i1, i2⟩ := ih m (by simpa using hl) fun i e' q' he hq => hh (i + 1) e' q' (by simpa using he) (by simpa using hq)
          obtain ⟨k1, k2⟩ := hh 0 e b rfl rfl
          refine ⟨.cons ?_ i1, .cons (by show RelV a.2 e.val; rw [k2]; exact hab.2) i2⟩
          show RelV (kV a.1) e.key
          rw [hab.1]
          rw [mixKind_is] at k1
          rcases keyIs_shape k1 with ⟨j, t, e1, e2⟩ | ⟨x, t, e1, e2⟩
          · rw [e1, e2]; exact ⟨t, rfl⟩
          · rw [e1, e2]; exact ⟨t, rfl⟩
    obtain ⟨v1, v2⟩ := ks vs es.toList ps rel (by rw [Array.length_toList, r2]) fun i e q he hq => by
      rw [Array.getElem?_toList] at he
      obtain ⟨hi, e1⟩ := Array.getElem?_eq_some_iff.mp he
      have := r3 i hi q.1 q.2 hq
      rw [e1] at this
      exact this
    have dn : ∀ {l : List (Key × V)} {m : List (Key × D)}, KD X.K mg φ H l m → Dens X.K mg φ H (l.map fun kv => kV kv.1) (m.map fun kv => kD kv.1) ∧ Dens X.K mg φ H (l.map (·.2)) (m.map (·.2)) := by
      intro l m r
      unfold KD at r
      induction r with
      | nil => exact ⟨.nil, .nil⟩
      | @cons p q ps qs z _ ih =>
        have z' : Den X.K mg φ H (kV p.1) (kD q.1) := by rw [z.1]; exact den_kD _
        exact ⟨.cons z' ih.1, .cons z.2 ih.2⟩
    exact ⟨es, ep, _, _, r1, hs, by rw [r2, ← l1]; exact hz, v1, v2, dn h2⟩
  | dd kvs =>
    obtain ⟨xs, h1, h2, h3, h4⟩ := h
    obtain ⟨⟨ob, es, ep, e1, e2, e3, e4, e5, e6⟩, hs⟩ := dd_is I h1 h3 h4
    obtain ⟨ws, w1, w2⟩ := h4.vals
    have k1 : es.toList.map (·.key) = xs.map fun x => Value.ref x.2.1 := by rw [e4, List.map_map]; rfl
    have k2 : es.toList.map (·.val) = xs.map fun x => x.2.2 := by rw [e4, List.map_map]; rfl
    refine ⟨es, ep, xs.map fun x => V.ref x.2.1, ws, ⟨ob, e1, e2, e3⟩, hs, by rw [← Array.length_toList, e4, List.length_map]; exact h2, ?_, by rw [k2]; exact w1, h4.keys, w2⟩
    rw [k1]
    exact vals_map (fun x => V.ref x.2.1) (fun x => Value.ref x.2.1) (fun x => by show Value.ref x.2.1 = Value.ref x.2.1; rfl) xs
theorem items_map {es : Array DictEntry} {f : DictEntry → Value} {acc : Array Value} (h : ItemsOf (fun i v => ∃ hi : i < es.size, v = f es[i]) acc es.size) : acc.toList = es.toList.map f := by
  apply List.ext_getElem?
  intro i
  rw [List.getElem?_map, Array.getElem?_toList, Array.getElem?_toList]
  by_cases hi : i < es.size
  · have ha : i < acc.size := by rw [h.1]; exact hi
    obtain ⟨_, e⟩ := h.2 i acc[i] (Array.getElem?_eq_getElem ha)
    rw [Array.getElem?_eq_getElem ha, Array.getElem?_eq_getElem hi, e]; rfl
  · have ha : ¬ i < acc.size := by rw [h.1]; exact hi
    rw [Array.getElem?_eq_none (by omega), Array.getElem?_eq_none (by omega)]; rfl
/-- collected -/
theorem coll_ok (hc : X.calm = true) (I : Inv X pins σ H s) (st : StOk X.K mg φ S H) {v : V} {u : Value} {w : W} {ds : List D} (hd : DenW X.K mg φ H v w) (rv : RelV v u) (e : collW S w = some ds) {E : Value → Shared → Prop} :
    ∃ r, u = .ref r ∧ ∀ R : List Value → Shared → Prop, (∀ h' tk vs, (∀ b o, s.heap.get? b = some o → h'.get? b = some o) → (vs.length ≤ sizeLine ∧ ∃ us, Vals us vs ∧ Dens X.K mg φ H us ds) → R vs { s with heap := h', toks := tk }) →
      wpAny (model X.prog X.w) X.A.in1 (collect (.ref r)) R E s := by
  have kp : ∀ vs : List Value, ∀ b o, s.heap.get? b = some o → ((s.heap.push (seqObj "list" #[] 0)).update s.heap.objs.size (Obj.mapSeq (· ++ vs.toArray))).get? b = some o := fun vs b o z => by
    rw [Heap.get?_update_ne _ _ _ _ (Nat.ne_of_lt (Heap.lt_size z))]
    exact Heap.get?_push_of_some _ z
  unfold collW at e
  split at e
  · next kvs ho =>
    cases e
    obtain ⟨a, n, rfl, _, _, _, ob, hdo⟩ := dicOf_ok st hd ho
    cases rv
    obtain ⟨es, ep, us, ws, r1, r2, r3, r4, r5, r6, r7⟩ := o_raw I ob hdo
    refine ⟨a, rfl, fun R h => PySem.W.kdu_collect (ZC.src_dict r2) (I.ok.hd hc) r1 r3 fun h' tk acc hk hacc => ?_⟩
    exact h h' tk _ hk ⟨by rw [Array.length_toList, hacc.1]; exact r3, us, by rw [items_map (f := (·.key)) hacc]; exact r4, r6⟩
  · next kvs ho =>
    cases e
    obtain ⟨a, n, rfl, _, _, _, ob, hdo⟩ := dicOf_ok st hd ho
    cases rv
    obtain ⟨es, ep, us, ws, r1, r2, r3, r4, r5, r6, r7⟩ := o_raw I ob hdo
    refine ⟨a, rfl, fun R h => PySem.W.kdu_collect (ZC.src_dict r2) (I.ok.hd hc) r1 r3 fun h' tk acc hk hacc => ?_⟩
    exact h h' tk _ hk ⟨by rw [Array.length_toList, hacc.1]; exact r3, us, by rw [items_map (f := (·.key)) hacc]; exact r4, r6⟩
  · obtain ⟨a, vs, rfl, hq, dn⟩ := seqOf_ok st hd e
    cases rv
    rcases hq with hq | hq
    · obtain ⟨its, r, pl, hz⟩ := I.list hq
      have hl := r.length
      exact ⟨a, rfl, fun R h => collect_list (hsz := by omega) pl.isList (h _ s.toks its (kp its) ⟨by omega, vs, r, dn⟩)⟩
    · obtain ⟨its, r, pl, hz⟩ := I.tuple hq
      have hl := r.length
      exact ⟨a, rfl, fun R h => ZC.collect_tuple pl (h _ s.toks its (kp its) ⟨by omega, vs, r, dn⟩) (by omega)⟩
theorem each_reads' (I : Inv X pins σ H s) {h2 : Heap} {a : Addr} (k : ∀ b o, s.heap.get? b = some o → h2.get? b = some o) (hn : ∀ b o, s.heap.get? b = some o → b ≠ a) {vs : List V} {its : List Value} {ds : List D} (rv : Vals vs its) (h : Dens X.K mg φ H vs ds) (hs : ∀ d ∈ ds, SeqAt.shaped d.py = true) :
    PySem.W.EachIs (fun v b => ∃ as, Reads h2 v (encP b) as ∧ a ∉ as) its (vs.zip ds) := by
  induction rv generalizing ds with
  | nil => exact .nil
  | cons r rs ih =>
    cases h with
    | cons d h =>
      obtain ⟨as, q⟩ := Dp.reads I _ _ _ (d.dp (shaped_lay (hs _ List.mem_cons_self))) r
      refine .cons ⟨as, PyProof.Rows.Reads.keeps k q, fun z => ?_⟩ (ih h fun e he => hs e (List.mem_cons_of_mem _ he))
      obtain ⟨o, ho⟩ := PyProof.On.reads_mem_get q a z
      exact hn a o ho rfl
/-- the new list is sorted -/
theorem sort_new (hu : X.A.units + 67 < cLine) (I : Inv X pins σ H s) (st : StOk X.K mg φ S H) {ds : List D} {us : List V} {vs : List Value} {h' : Heap} {tk : Nat} {Q : VK} (hk : ∀ b o, s.heap.get? b = some o → h'.get? b = some o) (hz : vs.length ≤ sizeLine) (rv : Vals us vs) (hd : Dens X.K mg φ H us ds) (ho : ordOk ds = true)
    (k : Kont X.K mg φ S H (.tmp (sortD ds)) Q) :
    wpAny (model X.prog X.w) X.A.in1 (call (.builtin "list.sort") [.ref h'.objs.size]) (fun _ s' => EP X pins σ Q (.ref h'.objs.size) s') X.xe { s with heap := h'.push { cls := .type "list", data := .seq vs.toArray }, toks := tk } := by
  have hob : (h'.push { cls := .type "list", data := .seq vs.toArray }).get? h'.objs.size = some (seqObj "list" vs.toArray 0) := Heap.get?_push_size _ rfl
  have k2 : ∀ b o, s.heap.get? b = some o → (h'.push { cls := .type "list", data := .seq vs.toArray }).get? b = some o := fun b o e => Heap.get?_push_of_some _ (hk b o e)
  have hlt : ∀ b o, s.heap.get? b = some o → b ≠ h'.objs.size := fun b o e => Nat.ne_of_lt (Heap.lt_size (hk b o e))
  have I' : Inv X pins σ H { s with heap := h', toks := tk } := I.kept hk
  have hl := hd.length
  have hm : ∀ p ∈ us.zip ds, p.2 ∈ ds := fun p hp => (zip_mem hp).2
  have hs := (ordOk_all ho).1
  have hli := rv.length
  refine PySem.W.list_sort_data (R := relP) (bs := us.zip ds) (enc := encP) hob (each_zip rv hl) (each_reads' I k2 hlt rv hd hs) (ord_alike ho hm) (ord_sortable ho hm) (by rw [List.length_zip, ← hl, Nat.min_self]; omega) (fun b hb => ?_) fun out h1 h2 => ?_
  · have := SeqAt.depth_of_shaped (hs _ (hm b hb))
    show X.A.units + 1 + 1 + b.2.py.depth < cLine
    omega
  · obtain ⟨ep, he'⟩ := PyProof.Rows.sortedHeap_at (vs := vs) (out := out.toArray) hob
    have hv := each_vals h2
    have hlen : (((us.zip ds).mergeSort (PySem.W.dataLe false encP)).map (·.1)).length ≤ sizeLine := by
      rw [List.length_map, List.length_mergeSort, List.length_zip, ← hl, Nat.min_self]; omega
    have hd' : Dens X.K mg φ H (((us.zip ds).mergeSort (PySem.W.dataLe false encP)).map (·.1)) (sortD ds) := by
      rw [← sort_snd hl]
      exact dens_of fun p hp => zip_dens hd p (List.mem_mergeSort.mp hp)
    exact ⟨.ref _, upd H h'.objs.size (.lst (((us.zip ds).mergeSort (PySem.W.dataLe false encP)).map (·.1))), I'.laid (t' := tk) (fun b o e => (PyProof.Rows.sortedHeap_old (Nat.ne_of_lt (Heap.lt_size e)) (Heap.lt_size (Heap.get?_push_of_some _ e))).trans (Heap.get?_push_of_some _ e)) (Nat.le_refl _) ⟨hlen, out, ep, hv, he'⟩, rfl, k.lst st hd' _ (I'.hok.fresh (Nat.le_refl _))⟩
end
end Z

set_option Elab.async false
set_option linter.all false
set_option maxRecDepth 100000
/-! Z5: built-in functions by deep values. -/
namespace Z
open PySem PySem.Spec PyProof.Rows L2

def biTy : BI → Bool
  | .int | .bool | .tuple | .list => true
  | _ => false
def biName : BI → String
  | .len => "len" | .abs => "abs" | .int => "int" | .bool => "bool" | .tuple => "tuple" | .list => "list" | .sum => "sum" | .all => "all" | .any => "any" | .max => "max" | .min => "min" | .sorted => "sorted"
def biVal (b : BI) : Value := if biTy b then .type (biName b) else .builtin (biName b)
def vBi (K : PySem.W.Frag) (mg : Str → Option Value) (b : BI) : List V → Hp → VK → Prop := fun vs H Q => ∃ φ S ws z, StOk K mg φ S H ∧ DenWs K mg φ H vs ws ∧ biW S b ws = some z ∧ Kont K mg φ S H z Q

theorem maxL_mem : ∀ {ns : List Int}, ns ≠ [] → maxL ns ∈ ns
  | [], h => absurd rfl h
  | [a], _ => by simp [maxL]
  | a :: b :: r, _ => by
    have ih := maxL_mem (ns := b :: r) (by simp)
    unfold maxL
    split
    · exact List.mem_cons_of_mem _ ih
    · exact List.mem_cons_self
theorem maxL_le : ∀ {ns : List Int} {x : Int}, x ∈ ns → x ≤ maxL ns
  | [a], x, h => by simp at h; subst h; simp [maxL]
  | a :: b :: r, x, h => by
    unfold maxL
    rcases List.mem_cons.mp h with rfl | h
    · split <;> omega
    · have ih := maxL_le (ns := b :: r) h
      split <;> omega
theorem minL_mem : ∀ {ns : List Int}, ns ≠ [] → minL ns ∈ ns
  | [], h => absurd rfl h
  | [a], _ => by simp [minL]
  | a :: b :: r, _ => by
    have ih := minL_mem (ns := b :: r) (by simp)
    unfold minL
    split
    · exact List.mem_cons_of_mem _ ih
    · exact List.mem_cons_self
theorem minL_le : ∀ {ns : List Int} {x : Int}, x ∈ ns → minL ns ≤ x
  | [a], x, h => by simp at h; subst h; simp [minL]
  | a :: b :: r, x, h => by
    unfold minL
    rcases List.mem_cons.mp h with rfl | h
    · split <;> omega
    · have ih := minL_le (ns := b :: r) h
      split <;> omega
theorem insI_perm (a : Int) : ∀ l : List Int, (insI a l).Perm (a :: l)
  | [] => .refl _
  | b :: r => by
    unfold insI
    split
    · exact .refl _
    · exact ((insI_perm a r).cons b).trans (.swap a b r)
theorem sortI_perm : ∀ l : List Int, (sortI l).Perm l
  | [] => .refl _
  | a :: r => (insI_perm a (sortI r)).trans ((sortI_perm r).cons a)
theorem insI_sorted (a : Int) : ∀ {l : List Int}, l.Pairwise (· ≤ ·) → (insI a l).Pairwise (· ≤ ·)
  | [], _ => by simp [insI]
  | b :: r, h => by
    have h' := List.pairwise_cons.mp h
    unfold insI
    split
    · next hab => exact List.pairwise_cons.mpr ⟨fun x hx => by
        rcases List.mem_cons.mp hx with rfl | hx
        · exact hab
        · exact Int.le_trans hab (h'.1 x hx), h⟩
    · next hab => exact List.pairwise_cons.mpr ⟨fun x hx => by
        rcases List.mem_cons.mp ((insI_perm a r).mem_iff.mp hx) with rfl | hx
        · omega
        · exact h'.1 x hx, insI_sorted a h'.2⟩
theorem sortI_sorted : ∀ l : List Int, (sortI l).Pairwise (· ≤ ·)
  | [] => .nil
  | a :: r => insI_sorted a (sortI_sorted r)
theorem sorted_unique {l m : List Int} (p : l.Perm m) (hl : l.Pairwise (· ≤ ·)) (hm : m.Pairwise (· ≤ ·)) : l = m :=
  p.eq_of_pairwise (fun a b _ _ h1 h2 => Int.le_antisymm h1 h2) hl hm

section
variable {X : Cx} {mg : Str → Option Value}
theorem denWs1 {K : PySem.W.Frag} {φ : List Addr} {H : Hp} {vs : List V} {w : W} (h : DenWs K mg φ H vs [w]) : ∃ v, vs = [v] ∧ DenW K mg φ H v w := by
  cases h with
  | cons a b => cases b; exact ⟨_, rfl, a⟩
theorem denWs2 {K : PySem.W.Frag} {φ : List Addr} {H : Hp} {vs : List V} {w w' : W} (h : DenWs K mg φ H vs [w, w']) : ∃ v u, vs = [v, u] ∧ DenW K mg φ H v w ∧ DenW K mg φ H u w' := by
  cases h with
  | cons a b =>
    obtain ⟨u, rfl, d⟩ := denWs1 b
    exact ⟨_, u, rfl, a, d⟩
theorem intsOf_len : ∀ {ds : List D} {ns : List Int}, intsOf ds = some ns → ns.length = ds.length
  | [], _, e => by cases e; rfl
  | d :: ds, ns, e => by
    cases d with
    | int i =>
      unfold intsOf at e
      cases h : intsOf ds with
      | none => rw [h] at e; cases e
      | some ms => rw [h] at e; cases e; rw [List.length_cons, List.length_cons, intsOf_len h]
    | _ => cases e
theorem intsOf_map : ∀ {ds : List D} {ns : List Int}, intsOf ds = some ns → ds = ns.map D.int
  | [], _, e => by cases e; rfl
  | d :: ds, ns, e => by
    cases d with
    | int i =>
      unfold intsOf at e
      cases h : intsOf ds with
      | none => rw [h] at e; cases e
      | some ms => rw [h] at e; cases e; rw [List.map_cons, ← intsOf_map h]
    | _ => cases e
theorem sortD_ints (ns : List Int) : sortD (ns.map D.int) = (sortI ns).map .int := by
  unfold sortD
  have e := List.map_mergeSort (r := fun a b : Int => decide (a ≤ b)) (s := fun a b => !ltD b a) (f := D.int) (l := ns) fun a _ b _ => by
    show decide (a ≤ b) = !PySem.W.dataLt (D.int b).py (D.int a).py
    rw [D.py, D.py, PySem.W.dataLt_int]
    by_cases h : a ≤ b
    · rw [decide_eq_true h, decide_eq_false (by omega)]; rfl
    · rw [decide_eq_false h, decide_eq_true (by omega)]; rfl
  rw [← e]
  congr 1
  refine sorted_unique ((List.mergeSort_perm _ _).trans (sortI_perm ns).symm) ?_ (sortI_sorted ns)
  have := List.pairwise_mergeSort (le := fun a b : Int => decide (a ≤ b)) (fun a b c h1 h2 => by simp at *; omega) (fun a b => by simp; omega) ns
  exact this.imp fun h => by simpa using h
theorem ordOk_ints (ns : List Int) : ordOk (ns.map D.int) = true := by
  unfold ordOk
  simp only [Bool.and_eq_true, Bool.or_eq_true, List.all_eq_true]
  refine ⟨⟨fun x hx => ?_, fun x hx y hy => ?_⟩, .inr fun x hx => ?_⟩
  · obtain ⟨i, _, rfl⟩ := List.mem_map.mp hx; rw [D.py]; rfl
  · obtain ⟨i, _, rfl⟩ := List.mem_map.mp hx
    obtain ⟨j, _, rfl⟩ := List.mem_map.mp hy
    unfold alkD; rw [D.py, D.py]; rfl
  · obtain ⟨i, _, rfl⟩ := List.mem_map.mp hx; rfl
theorem callR_bi (hc : X.calm = true) (hu : X.A.units + 67 < cLine) (b : BI) : CallR X (biVal b) (vBi X.K mg b) := by
  intro pins s σ H vs us Q I r h
  obtain ⟨φ, S, ws, z, st, hw, e, k⟩ := h
  unfold biW at e
  split at e
  · -- len
    next w =>
    obtain ⟨v, rfl, d⟩ := denWs1 hw
    split at e
    · next zz =>
      split at e
      · next hl =>
        cases e
        cases (show Den X.K mg φ H v (.str zz) from d)
        exact call_len pins s σ H _ us Q I r ⟨_, _, rfl, ⟨LN_le hl, rfl⟩, k.old st (.int _)⟩
      · cases e
    · cases hs : seqOf S w with
      | none => rw [hs] at e; cases e
      | some xs =>
        rw [hs] at e
        cases e
        obtain ⟨a, vs, rfl, hq, ds⟩ := seqOf_ok st d hs
        exact call_len_seq pins s σ H _ us Q I r ⟨a, vs, rfl, hq, by rw [ds.length]; exact k.old st (.int _)⟩
  · next i =>
    cases e
    obtain ⟨v, rfl, d⟩ := denWs1 hw
    cases (show Den X.K mg φ H v (.int i) from d)
    exact call_abs pins s σ H _ us Q I r ⟨i, rfl, k.old st (.int _)⟩
  · next i =>
    cases e
    obtain ⟨v, rfl, d⟩ := denWs1 hw
    cases (show Den X.K mg φ H v (.int i) from d)
    exact call_int1 pins s σ H _ us Q I r (.inl ⟨i, rfl, k.old st (.int _)⟩)
  · next i =>
    cases e
    obtain ⟨v, rfl, d⟩ := denWs1 hw
    cases (show Den X.K mg φ H v (.bl i) from d)
    exact call_int1 pins s σ H _ us Q I r (.inr ⟨i, rfl, k.old st (.int _)⟩)
  · next i =>
    cases e
    obtain ⟨v, rfl, d⟩ := denWs1 hw
    cases (show Den X.K mg φ H v (.bl i) from d)
    exact call_bool1 pins s σ H _ us Q I r (.inr ⟨i, rfl, k.old st (.bl _)⟩)
  · next i =>
    cases e
    obtain ⟨v, rfl, d⟩ := denWs1 hw
    cases (show Den X.K mg φ H v (.int i) from d)
    exact call_bool1 pins s σ H _ us Q I r (.inl ⟨i, rfl, k.old st (.bl _)⟩)
  · -- tuple
    next w =>
    obtain ⟨v, rfl, d⟩ := denWs1 hw
    have lst : ∀ xs, lstOf S w = some xs → z = .d (.tup xs) → wpAny (model X.prog X.w) X.A (call (.type "tuple") us) (EP X pins σ Q) X.xe s := fun xs hs e => by
      subst e
      obtain ⟨a, vs, rfl, hq, ds⟩ := lstOf_ok st d hs
      exact call_tupleK pins s σ H _ us Q I r ⟨a, vs, rfl, .inl ⟨hq, k.tup st ds⟩⟩
    cases hs : seqOf S w with
    | none => rw [hs] at e; cases e
    | some xs =>
      rw [hs] at e
      have e := (Option.some.inj e).symm
      unfold seqOf at hs
      split at hs
      · next ys =>
        cases hs
        cases (show Den X.K mg φ H v (.tup xs) from d) with
        | tup h1 h2 => exact call_tupleK pins s σ H _ us Q I r ⟨_, _, rfl, .inr ⟨h1.sq, by subst e; exact k.old st (.tup h1 h2)⟩⟩
      · exact lst xs hs e
  · -- list
    next w =>
    obtain ⟨v, rfl, d⟩ := denWs1 hw
    cases hs : seqOf S w with
    | none => rw [hs] at e; cases e
    | some xs =>
      rw [hs] at e
      cases e
      obtain ⟨a, vs, rfl, hq, ds⟩ := seqOf_ok st d hs
      exact call_list_of pins s σ H _ us Q I r ⟨a, vs, rfl, hq, k.lst st ds⟩
  · -- sum
    next w =>
    obtain ⟨v, rfl, d⟩ := denWs1 hw
    cases hs : lstOf S w with
    | none => rw [hs] at e; cases e
    | some xs =>
      rw [hs] at e
      cases hi : intsOf xs with
      | none => rw [Option.bind_some, hi] at e; cases e
      | some ns =>
        rw [Option.bind_some, hi] at e
        cases e
        obtain ⟨a, vs, rfl, hq, ds⟩ := lstOf_ok st d hs
        exact cr_sum hc pins s σ H _ us Q I r ⟨a, ns, rfl, by rw [← ds.ints hi]; exact hq, k.old st (.int _)⟩
  · -- all
    next w =>
    obtain ⟨v, rfl, d⟩ := denWs1 hw
    cases hs : lstOf S w with
    | none => rw [hs] at e; cases e
    | some xs =>
      rw [hs] at e
      cases hi : blsOf xs with
      | none => rw [Option.bind_some, hi] at e; cases e
      | some ns =>
        rw [Option.bind_some, hi] at e
        cases e
        obtain ⟨a, vs, rfl, hq, ds⟩ := lstOf_ok st d hs
        exact cr_all hc pins s σ H _ us Q I r ⟨a, ns, rfl, by rw [← ds.bls hi]; exact hq, k.old st (.bl _)⟩
  · next w =>
    obtain ⟨v, rfl, d⟩ := denWs1 hw
    cases hs : lstOf S w with
    | none => rw [hs] at e; cases e
    | some xs =>
      rw [hs] at e
      cases hi : blsOf xs with
      | none => rw [Option.bind_some, hi] at e; cases e
      | some ns =>
        rw [Option.bind_some, hi] at e
        cases e
        obtain ⟨a, vs, rfl, hq, ds⟩ := lstOf_ok st d hs
        exact cr_any hc pins s σ H _ us Q I r ⟨a, ns, rfl, by rw [← ds.bls hi]; exact hq, k.old st (.bl _)⟩
  · next i j =>
    cases e
    obtain ⟨v, u, rfl, d, d'⟩ := denWs2 hw
    cases (show Den X.K mg φ H v (.int i) from d)
    cases (show Den X.K mg φ H u (.int j) from d')
    exact call_max2 hc pins s σ H _ us Q I r ⟨i, j, rfl, k.old st (.int _)⟩
  · next i j =>
    cases e
    obtain ⟨v, u, rfl, d, d'⟩ := denWs2 hw
    cases (show Den X.K mg φ H v (.int i) from d)
    cases (show Den X.K mg φ H u (.int j) from d')
    exact call_min2 hc pins s σ H _ us Q I r ⟨i, j, rfl, k.old st (.int _)⟩
  · next w =>
    obtain ⟨v, rfl, d⟩ := denWs1 hw
    cases hs : lstOf S w with
    | none => rw [hs] at e; cases e
    | some xs =>
      rw [hs, Option.bind_some] at e
      obtain ⟨a, vs, rfl, hq, ds⟩ := lstOf_ok st d hs
      split at e
      · cases e
      · next hne =>
        split at e
        · next ns hi =>
          cases e
          have hne' : ns ≠ [] := fun z => hne (by rw [z] at hi; have := intsOf_len hi; simp at this; rw [List.eq_nil_of_length_eq_zero this.symm]; rfl)
          refine cr_max hc pins s σ H _ us Q I r ⟨a, ns, rfl, by rw [← ds.ints hi]; exact hq, List.length_pos_iff.mpr hne', fun m hm hle => ?_⟩
          have : m = maxL ns := Int.le_antisymm (maxL_le hm) (hle _ (maxL_mem hne'))
          subst this
          exact k.old st (.int _)
        · split at e
          · next ho =>
            cases e
            rw [Vals.ref1 r]
            exact max_ok hc hu I st hq ds ho (fun z => hne (by rw [z]; rfl)) k
          · cases e
  · next w =>
    obtain ⟨v, rfl, d⟩ := denWs1 hw
    cases hs : lstOf S w with
    | none => rw [hs] at e; cases e
    | some xs =>
      rw [hs, Option.bind_some] at e
      obtain ⟨a, vs, rfl, hq, ds⟩ := lstOf_ok st d hs
      split at e
      · cases e
      · next hne =>
        split at e
        · next ns hi =>
          cases e
          have hne' : ns ≠ [] := fun z => hne (by rw [z] at hi; have := intsOf_len hi; simp at this; rw [List.eq_nil_of_length_eq_zero this.symm]; rfl)
          refine cr_min hc pins s σ H _ us Q I r ⟨a, ns, rfl, by rw [← ds.ints hi]; exact hq, List.length_pos_iff.mpr hne', fun m hm hle => ?_⟩
          have : m = minL ns := Int.le_antisymm (hle _ (minL_mem hne')) (minL_le hm)
          subst this
          exact k.old st (.int _)
        · split at e
          · next ho =>
            cases e
            rw [Vals.ref1 r]
            exact min_ok hc hu I st hq ds ho (fun z => hne (by rw [z]; rfl)) k
          · cases e
  · -- sorted
    next w =>
    obtain ⟨v, rfl, d⟩ := denWs1 hw
    cases hs : collW S w with
    | none => rw [hs] at e; cases e
    | some xs =>
      rw [hs, Option.bind_some] at e
      obtain ⟨u, rfl, ru⟩ : ∃ u, us = [u] ∧ RelV v u := by
        cases r with
        | cons a b => cases b; exact ⟨_, rfl, a⟩
      have gen : ordOk xs = true → Kont X.K mg φ S H (.tmp (sortD xs)) Q → wpAny (model X.prog X.w) X.A (call (.builtin "sorted") [u]) (EP X pins σ Q) X.xe s := fun ho k => by
        obtain ⟨r, rfl, hcol⟩ := coll_ok (E := X.xe) hc I st d ru hs
        refine ZC.sorted_by (P := fun _ vs => vs.length ≤ sizeLine ∧ ∃ us, Vals us vs ∧ Dens X.K mg φ H us xs) hcol fun h' tk vs hk hp => ?_
        obtain ⟨hz, us, rv, hd⟩ := hp
        exact ⟨hz, sort_new hu I st hk hz rv hd ho k⟩
      split at e
      · next ns hi =>
        cases e
        have e1 := intsOf_map hi
        have e2 : sortD xs = (sortI ns).map .int := by rw [e1]; exact sortD_ints ns
        exact gen (by rw [e1]; exact ordOk_ints ns) (by rw [e2]; exact k)
      · split at e
        · next ho => cases e; exact gen ho k
        · cases e
  · cases e
end
end Z

set_option Elab.async false
set_option linter.all false
set_option maxRecDepth 100000
/-! ZM: methods of lists and dicts. -/
namespace Z
open PySem PySem.Spec PyProof.Rows L2
/-- the value is of that builtin type, where the heap is held -/
def TyS (X : Cx) (T : String) (x : V) (H : Hp) : Prop := ∀ (pins : List (Addr × Obj)) (s : Shared) (σ : L2.St) (v : Value), Inv X pins σ H s → RelV x v → s.TypeIs v T ∧ ∀ a, v = .ref a → ∃ ob, s.heap.get? a = some ob ∧ ob.dict = none
def tMS0 (X : Cx) (T : String) (r : V → List V → Hp → VK → Prop) (to : TE) : TE := fun σ H Q => to σ H fun x H1 => TyS X T x H1 ∧ r x [] H1 Q
def tMS (X : Cx) (T : String) (r : V → List V → Hp → VK → Prop) (to : TE) (t : TA) : TE := fun σ H Q => to σ H fun x H1 => TyS X T x H1 ∧ t σ H1 fun xs H2 => r x xs H2 Q
section
variable {X : Cx} {o e : Expr} {es : List Expr} {to : TE} {t : TA} {name : Str} {apos cpos : Pos} {T id : String} {r : V → List V → Hp → VK → Prop}
theorem pe_ms0 (pa : PlainAttrs T) (slot : Slot T name id) (hty : typeOf (.builtin id) = pure (.type "method_descriptor")) (hm : MtR X id r) (ho : PE X o to)
    (hbase : attributeBase o name X.env (eval o X.env) = eval o X.env := by rfl) (hline : (apos.endLine == cpos.line) = true := by rfl) : PE X (.Call (.Attribute o name apos) [] [] cpos) (tMS0 X T r to) := by
  refine ⟨fun pins s σ H Q I h => ?_⟩
  refine wpAny_Call_method0_late hbase hline (thn (ho.run pins s σ H _ I h) fun v s1 ⟨x, H1, I1, r1, ty, q1⟩ => ?_)
  obtain ⟨h1, h2⟩ := ty pins s1 σ v I1 r1
  exact ⟨T, id, pa, slot, hty, h1, h2, Calls.callWith_builtin rfl (PySem.evalArgs_none (hm pins s1 σ H1 x [] v [] Q I1 r1 .nil q1))⟩
theorem pe_ms (pa : PlainAttrs T) (slot : Slot T name id) (hty : typeOf (.builtin id) = pure (.type "method_descriptor")) (hm : MtR X id r) (ho : PE X o to) (ha : PA X (e :: es) t)
    (hbase : attributeBase o name X.env (eval o X.env) = eval o X.env := by rfl)
    (hfew : ((backTo cpos (starEach (e :: es) X.env)).all (fun x => !x.1) && (backToKw cpos (keywordEach [] X.env)).all (fun x => x.1.isSome)
      && decide ((e :: es).length + ([] : List Keyword).length + (if ([] : List Keyword).isEmpty then 0 else 1) < 30)) = true := by rfl)
    (hline : (apos.endLine == cpos.line) = true := by rfl) (hs : starEach (e :: es) X.env = (false, eval e X.env) :: starEach es X.env := by rfl) (hplain : (backTo cpos (starEach es X.env)).any (·.1) = false := by rfl) :
    PE X (.Call (.Attribute o name apos) (e :: es) [] cpos) (tMS X T r to t) := by
  refine ⟨fun pins s σ H Q I h => ?_⟩
  refine wpAny_Call_method_late hbase hfew hline rfl (thn (ho.run pins s σ H _ I h) fun v s1 ⟨x, H1, I1, r1, ty, q1⟩ => ?_)
  obtain ⟨h1, h2⟩ := ty pins s1 σ v I1 r1
  refine ⟨T, id, pa, slot, hty, h1, h2, ?_⟩
  have hA := ha.run cpos pins s1 σ H1 _ I1 q1
  rw [hs] at hA ⊢
  refine Calls.callWith_builtin (by show (false || (backTo cpos (starEach es X.env)).any (·.1)) = false; rw [hplain] <;> rfl) (Calls.evalArgs_plain ?_)
  exact thn hA fun us s2 ⟨vs, H2, I2, r2, q2⟩ => hm pins s2 σ H2 x vs v us Q I2 r1 r2 q2
end
/-- a method by deep values: φ0, H0 stand ahead of the arguments -/
def vMth (K : PySem.W.Frag) (mg : Str → Option Value) (m : Mt) : V → List V → Hp → VK → Prop := fun v us H Q =>
  ∃ φ0 H0 φ S x ws z S', Evo φ0 H0 φ H ∧ StOk K mg φ S H ∧ DenW K mg φ H v x ∧ DenWs K mg φ H us ws ∧ FrWs H0 us ws ∧ mthW S m x ws = some (z, S') ∧
    ∀ t φ' H', Evo φ0 H0 φ' H' → StOk K mg φ' S' H' → DenW K mg φ' H' t z → FrW H0 t z → Q t H'
def mtName : Mt → Str
  | .pop0 => "pop" | .pop1 => "pop" | .ext => "extend" | .rem => "remove" | .idx => "index" | .get1 => "get" | .get2 => "get" | .setd => "setdefault"
def mtTy : Mt → String
  | .get1 => "dict" | .get2 => "dict" | .setd => "dict" | _ => "list"
def mtId : Mt → String
  | .pop0 => "list.pop" | .pop1 => "list.pop" | .ext => "list.extend" | .rem => "list.remove" | .idx => "list.index" | .get1 => "dict.get" | .get2 => "dict.get" | .setd => "dict.setdefault"
/-- its arguments -/
def mtAr : Mt → Nat
  | .pop0 => 0 | .pop1 => 1 | .ext => 1 | .rem => 1 | .idx => 1 | .get1 => 1 | .get2 => 2 | .setd => 2
theorem mtOk_ty {X : Cx} {mg : Str → Option Value} {φ : List Addr} {S : Sto} {H : Hp} {v : V} {w : W} {m : Mt} (st : StOk X.K mg φ S H) (hd : DenW X.K mg φ H v w) (h : mtOk S m w = true) : TyS X (mtTy m) v H := by
  unfold mtOk at h
  split at h
  · next n =>
    split at h
    · next o ho =>
      obtain ⟨a, rfl, hn, ob⟩ := ref_at st hd ho
      intro pins s σ v I rv
      cases rv
      have e := eq_of_beq h
      cases o with
      | lst xs =>
        have : mtTy m = "list" := by cases m <;> first | rfl | cases e
        rw [this]; exact l_type I ob
      | dk kvs =>
        have : mtTy m = "dict" := by cases m <;> first | rfl | cases e
        rw [this]; exact o_type I ob rfl
      | dd kvs =>
        have : mtTy m = "dict" := by cases m <;> first | rfl | cases e
        rw [this]; exact o_type I ob rfl
    · cases h
  · cases h
theorem Dens.erase {K : PySem.W.Frag} {mg : Str → Option Value} {φ : List Addr} {H : Hp} : ∀ (n : Nat) {vs : List V} {ds : List D}, Dens K mg φ H vs ds → Dens K mg φ H (vs.eraseIdx n) (ds.eraseIdx n)
  | _, _, _, .nil => .nil
  | 0, _, _, .cons _ b => b
  | n + 1, _, _, .cons a b => .cons a (Dens.erase n b)
theorem Dens.dropLast {K : PySem.W.Frag} {mg : Str → Option Value} {φ : List Addr} {H : Hp} {vs : List V} {ds : List D} (h : Dens K mg φ H vs ds) : Dens K mg φ H vs.dropLast ds.dropLast := by
  rw [List.dropLast_eq_take, List.dropLast_eq_take, h.length]
  exact h.take _
theorem pys_map : ∀ xs : List D, D.pys xs = xs.map D.py
  | [] => by rw [D.pys]; rfl
  | x :: xs => by rw [D.pys, pys_map xs]; rfl
theorem idxD_ok {x : D} : ∀ {xs : List D} {j k : Nat}, idxD x xs j = some k → j ≤ k ∧ ∃ y, xs[k - j]? = some y ∧ PyData.eqv y.py x.py = true ∧ ∀ m z, m < k - j → xs[m]? = some z → PyData.eqv z.py x.py = false
  | [], j, k, h => by cases h
  | y :: ys, j, k, h => by
    unfold idxD at h
    split at h
    · next e => cases h; exact ⟨Nat.le_refl _, y, by simp, e, fun m z hm => by omega⟩
    · next e =>
      obtain ⟨h1, z, h2, h3, h4⟩ := idxD_ok h
      refine ⟨by omega, z, ?_, h3, fun m w hm hw => ?_⟩
      · rw [show k - j = (k - (j + 1)) + 1 by omega, List.getElem?_cons_succ]; exact h2
      · cases m with
        | zero => rw [List.getElem?_cons_zero] at hw; cases hw; simpa using e
        | succ m => rw [List.getElem?_cons_succ] at hw; exact h4 m w (by omega) hw
section
variable {X : Cx} {mg : Str → Option Value}
/-- a list of the store is written -/
theorem lst_write {φ0 φ : List Addr} {H0 H : Hp} {S : Sto} {n : Nat} {a : Addr} {ys : List D} {us : List V} {vs : List V} (e0 : Evo φ0 H0 φ H) (st : StOk X.K mg φ S H) (hn : φ[n]? = some a) (ha : H a = some (.lst vs)) (hd : Dens X.K mg φ H us ys) :
    Evo φ0 H0 φ (upd H a (.lst us)) ∧ StOk X.K mg φ (S.set n (.lst ys)) (upd H a (.lst us)) :=
  ⟨e0.trans (Evo.write st (List.mem_of_getElem? hn)), st.write hn ⟨us, upd_same, hd.updN ha stb_lst⟩⟩
theorem mt_ok (hu : X.A.units + 67 < cLine) (m : Mt) : MtR X (mtId m) (vMth X.K mg m) := by
  intro pins s σ H v us u uss Q I rv rs h
  obtain ⟨φ0, H0, φ, S, x, ws, z, S', e0, st, hx, hw, fw, e, q⟩ := h
  unfold mthW at e
  split at e
  · next n =>
    split at e
    · next xs ho =>
      obtain ⟨a, rfl, hn, vs, ha, hd⟩ := ref_at st hx ho
      cases rv
      split at e
      · -- pop()
        split at e
        · next d hl =>
          cases e
          cases hw
          cases rs
          have hl' : xs[xs.length - 1]? = some d := by rw [List.getLast?_eq_getElem?] at hl; exact hl
          obtain ⟨y, hy, dy⟩ := hd.get hl'
          obtain ⟨e1, s1⟩ := lst_write e0 st hn ha hd.dropLast
          exact mt_pop pins s σ H (.ref a) _ _ _ Q I rfl .nil ⟨a, vs, y, rfl, rfl, ha, by rw [hd.length]; exact hy, q y φ _ e1 s1 (dy.updN ha stb_lst) trivial⟩
        · cases e
      · next i =>
        split at e
        · next hi =>
          split at e
          · next k hk =>
            split at e
            · next d hl =>
              cases e
              simp only [Bool.and_eq_true, decide_eq_true_eq] at hi
              obtain ⟨v1, rfl, d1⟩ := denWs1 hw
              cases (show Den X.K mg φ H v1 (.int i) from d1)
              obtain ⟨y, hy, dy⟩ := hd.get hl
              obtain ⟨e1, s1⟩ := lst_write e0 st hn ha (hd.erase k)
              obtain ⟨k1, _⟩ := ixN_seq hk
              exact mt_popAt pins s σ H (.ref a) _ _ _ Q I rfl rs ⟨a, vs, i, k, y, rfl, rfl, ha, by omega, by omega, by rw [hd.length]; exact k1, hy, q y φ _ e1 s1 (dy.updN ha stb_lst) trivial⟩
            · cases e
          · cases e
        · cases e
      · next w =>
        split at e
        · next ys hys =>
          split at e
          · next hl =>
            cases e
            obtain ⟨v1, rfl, d1⟩ := denWs1 hw
            obtain ⟨b, zs, rfl, hb, dz⟩ := lstOfW_ok st d1 hys
            obtain ⟨e1, s1⟩ := lst_write e0 st hn ha (hd.append dz)
            exact mt_extend pins s σ H (.ref a) _ _ _ Q I rfl rs ⟨a, b, vs, zs, rfl, rfl, ha, hb, by rw [hd.length, dz.length]; exact LN_le hl, q _ φ _ e1 s1 .non trivial⟩
          · cases e
        · cases e
      · next i =>
        split at e
        · next ns hns =>
          split at e
          · next k hk =>
            cases e
            obtain ⟨v1, rfl, d1⟩ := denWs1 hw
            cases (show Den X.K mg φ H v1 (.int i) from d1)
            obtain ⟨_, y, h2, h3, h4⟩ := idxD_ok hk
            rw [Nat.sub_zero] at h2 h4
            have em := intsOf_map hns
            subst em
            have ev : ∀ (j : Nat) (z : D), (ns.map D.int)[j]? = some z → ∃ x, ns[j]? = some x ∧ z = .int x ∧ PyData.eqv z.py (D.int i).py = decide (x = i) := fun j z hz => by
              rw [List.getElem?_map] at hz
              cases hx : ns[j]? with
              | none => rw [hx] at hz; cases hz
              | some x =>
                rw [hx] at hz
                cases hz
                refine ⟨x, rfl, rfl, ?_⟩
                rw [D.py, D.py, PyData.eqv]
                by_cases q : x = i
                · subst q; simp
                · rw [decide_eq_false q]; exact beq_eq_false_iff_ne.mpr q
            obtain ⟨x, hx1, rfl, hx2⟩ := ev k y h2
            rw [hx2] at h3
            have hxi := of_decide_eq_true h3
            subst hxi
            obtain ⟨e1, s1⟩ := lst_write e0 st hn ha (hd.erase k)
            have hvs := hd.ints hns
            subst hvs
            refine mt_remove pins s σ H (.ref a) _ _ _ Q I rfl rs ⟨a, ns, x, k, rfl, rfl, ha, hx1, fun m hm z => ?_, ?_⟩
            · have := h4 m (.int x) hm (by rw [List.getElem?_map, z]; rfl)
              rw [D.py, PyData.eqv] at this
              simp at this
            · rw [← erase_mapI]
              exact q _ φ _ e1 s1 .non trivial
          · cases e
        · cases e
      · next d =>
        split at e
        · next hc =>
          simp only [Bool.and_eq_true] at hc
          cases hk : idxD d xs 0 with
          | none => rw [hk] at e; cases e
          | some k =>
            rw [hk] at e
            cases e
            obtain ⟨v1, rfl, d1⟩ := denWs1 hw
            obtain ⟨_, y, h2, h3, h4⟩ := idxD_ok hk
            rw [Nat.sub_zero] at h2 h4
            have hl : PyData.canLayAll0 (D.pys xs) = true := by simpa [PyData.canLay0] using shaped_lay hc.2
            have pg : ∀ j : Nat, (D.pys xs)[j]? = (xs[j]?).map D.py := fun j => by rw [pys_map, List.getElem?_map]
            refine mt_indexD (by omega) pins s σ H (.ref a) _ _ _ Q I rfl rs ⟨a, v1, d.py, D.pys xs, k, y.py, rfl, rfl, .lst (SqL.of ha) (hd.dp hl), (show Den X.K mg φ H v1 d from d1).dp (shaped_lay hc.1), hc.2, hc.1, by rw [pg, h2]; rfl, h3, fun m z hm hz => ?_, q _ φ H e0 st (.int _) trivial⟩
            rw [pg] at hz
            cases hxm : xs[m]? with
            | none => rw [hxm] at hz; cases hz
            | some w => rw [hxm] at hz; cases hz; exact h4 m w hm hxm
        · cases e
      · cases e
    · next o hno ho =>
      obtain ⟨a, rfl, hn, ob⟩ := ref_at st hx ho
      cases rv
      split at e
      · next kd =>
        cases hg : oGet o kd with
        | none => rw [hg] at e; cases e
        | some r =>
          rw [hg] at e
          cases e
          obtain ⟨v1, rfl, d1⟩ := denWs1 hw
          obtain ⟨u1, rfl, ru⟩ := rs.one
          exact o_get1 (by omega) I ob (show Den X.K mg φ H v1 kd from d1) ru hg fun v w' s' I' rw' dv => ⟨v, H, I', rw', q v φ H e0 st dv trivial⟩
      · next kd w =>
        cases hg : oGet o kd with
        | none => rw [hg] at e; cases e
        | some r =>
          rw [hg] at e
          obtain ⟨v1, v2, rfl, d1, d2⟩ := denWs2 hw
          obtain ⟨u1, u2, rfl, ru, ru2⟩ := rs.two
          have f2 : FrW H0 v2 w := by
            cases w with
            | d x => trivial
            | tmp xs =>
              obtain ⟨b, us, rfl, _⟩ := id d2
              exact ⟨b, rfl, fw.2 b (by rw [tmps_d]; exact List.mem_cons_self)⟩
          refine o_get2 (by omega) I ob (show Den X.K mg φ H v1 kd from d1) ru ru2 hg (fun d hd v w' s' I' rw' dv => ?_) fun hd w' s' I' rw' => ?_
          · subst hd
            cases e
            exact ⟨v, H, I', rw', q v φ H e0 st dv trivial⟩
          · subst hd
            cases e
            exact ⟨v2, H, I', rw', q v2 φ H e0 st d2 f2⟩
      · next kd w =>
        split at e
        · next hlen =>
          split at e
          · next d hg =>
            cases e
            obtain ⟨v1, v2, rfl, d1, d2⟩ := denWs2 hw
            obtain ⟨u1, u2, rfl, ru, ru2⟩ := rs.two
            refine o_setd (r := some d) (o' := o) (d := .non) (by omega) I ob (show Den X.K mg φ H v1 kd from d1) ru ru2 (fun z => nomatch z) hg (fun d' hd v w' s' I' rw' dv => ?_) (fun z => nomatch z) (LN_lt hlen)
            cases hd
            exact ⟨v, H, I', rw', q v φ H e0 st dv trivial⟩
          · next hg =>
            cases hp : oPut o kd (matW w S).1 with
            | none => rw [hp] at e; cases e
            | some o' =>
              rw [hp] at e
              cases e
              obtain ⟨v1, v2, rfl, d1, d2⟩ := denWs2 hw
              obtain ⟨u1, u2, rfl, ru, ru2⟩ := rs.two
              have f2 : FrW H0 v2 w := by
                cases w with
                | d x => trivial
                | tmp xs =>
                  obtain ⟨b, us, rfl, _⟩ := id d2
                  exact ⟨b, rfl, fw.2 b (by rw [tmps_d]; exact List.mem_cons_self)⟩
              obtain ⟨φ1, e1, s1, dm, hφ⟩ := mat_ok e0 st d2 f2
              have hn1 : φ1[n]? = some a := by
                rcases hφ with rfl | ⟨b, xs, _, _, rfl⟩
                · exact hn
                · have : n < φ.length := (List.getElem?_eq_some_iff.mp hn).1
                  rw [List.getElem?_append_left this]; exact hn
              have ho1 : (matW w S).2[n]? = some o := by
                cases w with
                | d x => exact ho
                | tmp xs =>
                  show (S ++ [O.lst xs])[n]? = _
                  rw [List.getElem?_append_left (List.getElem?_eq_some_iff.mp ho).1]; exact ho
              have ob1 := s1.obj n a o hn1 ho1
              have dk1 : Den X.K mg φ1 H v1 kd := by
                rcases hφ with rfl | ⟨b, xs, _, _, rfl⟩
                · exact d1
                · exact Den.more (show Den X.K mg φ H v1 kd from d1)
              refine o_setd (r := none) (by omega) I ob1 dk1 ru ru2 (fun _ => dm) hg (fun d' hd => nomatch hd) (fun _ => ⟨hp, fun w' s' z I' ob' rw' => ?_⟩) (LN_lt hlen)
              have hm : a ∈ φ1 := List.mem_of_getElem? hn1
              refine ⟨v2, _, I', rw', q v2 φ1 _ (e1.trans (Evo.write s1 hm)) (s1.write hn1 ob') (dm.evo (Evo.write s1 hm)) trivial⟩
          · cases e
        · cases e
      · cases e
    · cases e
  · cases e
end
end Z

set_option Elab.async false
set_option linter.all false
set_option maxRecDepth 100000
/-! ZX: rules for expressions: chains of four, dicts made. -/
namespace Z
open PySem PySem.Spec PyProof.Rows L2
section
variable {X : Cx} {a b c d : Expr} {ta tb tc td : TE} {pos : Pos}
def tChain3 (r r' r'' : R2) (ta tb tc td : TE) : TE := fun σ H Q => ta σ H fun x H1 => tb σ H1 fun y H2 => r x y H2 fun z H3 => ∃ k, z = .bl k ∧
  (if k = true then tc σ H3 fun w' H4 => r' y w' H4 fun z' H5 => ∃ k', z' = .bl k' ∧ (if k' = true then td σ H5 fun u' H6 => r'' w' u' H6 Q else Q (.bl false) H5) else Q (.bl false) H3)
theorem pe_chain3 {op op' op'' : CmpOp} {r r' r'' : R2} (ho : OpR X (compareOp op) r) (ho' : OpR X (compareOp op') r') (ho'' : OpR X (compareOp op'') r'') (ha : PE X a ta) (hb : PE X b tb) (hc : PE X c tc) (hd : PE X d td)
    (hm : lastMarks [op, op', op''] [b, c, d] = false) : PE X (.Compare a [op, op', op''] [b, c, d] pos) (tChain3 r r' r'' ta tb tc td) := by
  refine ⟨fun pins s σ H Q I h => ?_⟩
  refine Compare_chain (thn (ha.run pins s σ H _ I h) fun v s1 ⟨x, H1, I1, r1, q1⟩ => chain_link (thn (hb.run pins s1 σ H1 _ I1 q1) fun u s2 ⟨y, H2, I2, r2, q2⟩ =>
    thn (ho pins s2 σ H2 x y v u _ I2 r1 r2 q2) fun dd s3 ⟨z, H3, I3, r3, k, e, q3⟩ => ?_)) hm
  subst e
  cases r3
  refine wpAny_truthy_bool ?_
  cases k with
  | false => exact ite_ff ⟨.bl false, H3, I3, rfl, q3⟩
  | true =>
    refine ite_tt (chain_link (thn (hc.run pins s3 σ H3 _ I3 q3) fun w' s4 ⟨z', H4, I4, r4, q4⟩ => thn (ho' pins s4 σ H4 y z' u w' _ I4 r2 r4 q4) fun d' s5 ⟨z2, H5, I5, r5, k2, e2, q5⟩ => ?_))
    subst e2
    cases r5
    refine wpAny_truthy_bool ?_
    cases k2 with
    | false => exact ite_ff ⟨.bl false, H5, I5, rfl, q5⟩
    | true => exact ite_tt (chain_last (thn (hd.run pins s5 σ H5 _ I5 q5) fun w6 s6 ⟨z6, H6, I6, r6, q6⟩ => ho'' pins s6 σ H6 z' z6 w' w6 Q I6 r4 r6 q6))
theorem pt_chain3 {op op' op'' : CmpOp} {r r' r'' : R2} (ho : OpR X (compareOp op) r) (ho' : OpR X (compareOp op') r') (ho'' : OpR X (compareOp op'') r'') (ha : PE X a ta) (hb : PE X b tb) (hc : PE X c tc) (hd : PE X d td)
    (hm : lastMarks [op, op', op''] [b, c, d] = false) : PT X (.Compare a [op, op', op''] [b, c, d] pos) (tTest (tChain3 r r' r'' ta tb tc td)) := by
  refine ⟨fun pins s σ H Q I h => ?_⟩
  refine isTrue_chain (thn (ha.run pins s σ H _ I h) fun v s1 ⟨x, H1, I1, r1, q1⟩ => test_link (thn (hb.run pins s1 σ H1 _ I1 q1) fun u s2 ⟨y, H2, I2, r2, q2⟩ =>
    thn (ho pins s2 σ H2 x y v u _ I2 r1 r2 q2) fun dd s3 ⟨z, H3, I3, r3, k, e, q3⟩ => ?_)) hm
  subst e
  cases r3
  refine wpAny_truthy_bool ?_
  cases k with
  | false =>
    obtain ⟨k', e', q'⟩ := q3
    cases e'
    exact ite_ff ⟨H3, I3, q'⟩
  | true =>
    refine ite_tt (test_link (thn (hc.run pins s3 σ H3 _ I3 q3) fun w' s4 ⟨z', H4, I4, r4, q4⟩ => thn (ho' pins s4 σ H4 y z' u w' _ I4 r2 r4 q4) fun d' s5 ⟨z2, H5, I5, r5, k2, e2, q5⟩ => ?_))
    subst e2
    cases r5
    refine wpAny_truthy_bool ?_
    cases k2 with
    | false =>
      obtain ⟨k', e', q'⟩ := q5
      cases e'
      exact ite_ff ⟨H5, I5, q'⟩
    | true =>
      refine ite_tt (test_last (thn (hd.run pins s5 σ H5 _ I5 q5) fun w6 s6 ⟨z6, H6, I6, r6, q6⟩ => thn (ho'' pins s6 σ H6 z' z6 w' w6 _ I6 r4 r6 q6) fun d7 s7 ⟨z7, H7, I7, r7, k7, e7, q7⟩ => ?_))
      subst e7
      cases r7
      exact wpAny_truthy_bool ⟨H7, I7, q7⟩
/-- d[k] -/
theorem pe_dgO {mg : Str → Option Value} {i : Expr} {o : Expr} {to ty : TE} (hu : X.A.units + 65 < cLine) (ho : PE X o to) (hi : PE X i ty) (hs : NoSl i) : PE X (.Subscript o i pos) (tOp (vDg X.K mg) to ty) := by
  refine ⟨fun pins s σ H Q I h => ?_⟩
  refine subD_of PySem.F.slot_dict_getitem.lookup hs (thn (ho.run pins s σ H _ I h) fun u s1 ⟨x, H1, I1, rx, q1⟩ => thn (hi.run pins s1 σ H1 _ I1 q1) fun iv s2 ⟨y, H2, I2, ry, q2⟩ => ?_)
  exact dgr_ok hu I2 rx ry q2
/-- {} for keys that are tuples -/
def tDNewD : TE := fun _ H Q => ∀ p, H p = none → Q (.ref p) (upd H p (RawD p []))
theorem raw_empty {P : Program} {w : World} {H : Hp} (h : Heap) (hb : sysModules < h.objs.size) : ObjOk P w H (h.push { cls := .type "dict", data := .dict #[] }) h.objs.size (RawD h.objs.size []) :=
  raw_ok (beq_eq_false_iff_ne.mpr (Ne.symm (Nat.ne_of_lt hb))) (Heap.DictOfH.new (knd := nestedKind P w) h) fun _ _ => rfl
theorem pe_dnewD : PE X (.Dict [] [] pos) tDNewD := ⟨fun pins s σ H Q I h =>
  wpAny_Dict_empty ⟨.ref s.heap.objs.size, _, I.laid (a := s.heap.objs.size) (o := RawD s.heap.objs.size []) (t' := s.toks) (fun _ _ q => Heap.get?_push_of_some _ q) (Nat.le_refl _) (raw_empty s.heap I.big), rfl, h _ (I.hok.fresh (Nat.le_refl _))⟩⟩
/-- {k: v}, k a tuple: the new dict stands empty while the pair is made -/
def tDisp1 (K : PySem.W.Frag) (mg : Str → Option Value) (tk tv : TE) : TE := fun σ H Q => ∀ p, H p = none → tk σ (upd H p (RawD p [])) fun x H1 => tv σ H1 fun y H2 => H2 p = some (RawD p []) ∧
  ∃ φ b kd, x = .ref b ∧ keyT kd = true ∧ Den K mg φ H2 (.ref b) kd ∧ ∀ u : Value, RelV y u → Q (.ref p) (upd H2 p (RawD p [(nk kd, b, u)]))
theorem pe_disp1 {mg : Str → Option Value} {k v : Expr} {tk tv : TE} (hu : X.A.units + 65 < cLine) (hk : PE X k tk) (hv : PE X v tv) : PE X (.Dict [some k] [v] pos) (tDisp1 X.K mg tk tv) := by
  refine ⟨fun pins s σ H Q I q => ?_⟩
  have hn := I.hok.fresh (Nat.le_refl s.heap.objs.size)
  have I1 := I.laid (a := s.heap.objs.size) (o := RawD s.heap.objs.size []) (h' := s.heap.push { cls := .type "dict", data := .dict #[] }) (t' := s.toks) (fun _ _ q => Heap.get?_push_of_some _ q) (Nat.le_refl _) (raw_empty s.heap I.big)
  refine wpAny_Dict_any rfl rfl (by simp) (by simp) (pairTrees_cons_walk (thn (hk.run pins _ σ _ _ I1 (q _ hn)) fun kv s2 ⟨x, H1, I2, rx, q2⟩ => thn (hv.run pins s2 σ H1 _ I2 q2) fun vv s3 ⟨y, H2, I3, ry, hp, φ, b, kd, ex, hkd, dk, q3⟩ => pairTrees_nil_walk ?_))
  subst ex
  obtain rfl : kv = Value.ref b := rx
  obtain ⟨dd, hs⟩ := dd_is (kvs := []) (φ := φ) (mg := mg) I3 hp List.nodup_nil .nil
  show wpAny _ _ (storeAll s.heap.objs.size [(.ref b, vv)]) _ _ _
  unfold storeAll
  rw [List.forIn_cons]
  refine wpAny_bind (wpAny_bind (wpAny_dictSet_heap (hsz := Nat.zero_le _) (knd := nestedKind X.prog X.w) (by show X.A.units + 8 < cLine; omega) (key_is I3 hkd dk) dd fun h' dd' hsb => wpAny_pure ?_))
  simp only [List.forIn_nil]
  refine wpAny_pure ?_
  have e : storedH ([] : List (NestedKey × Addr × Value)) (nk kd) b vv = [(nk kd, b, vv)] := rfl
  rw [e] at dd'
  obtain ⟨ob, _, _, hob, _⟩ := id dd'
  refine ⟨.ref _, _, d_write (t' := s3.toks + (nestedKind X.prog X.w).draws (nk kd)) I3 (by rw [hp]; trivial) hsb ⟨ob, hob⟩ (raw_ok hs dd' fun P' w' => ?_), rfl, q3 vv ry⟩
  have := nk_hash X.w w' 8 kd (keyT_N hkd).1
  show [entryOfKey _ _] = [entryOfKey _ _]
  unfold entryOfKey
  rw [show (nestedKind X.prog X.w).hash (nk kd) = NestedKey.hash X.w (nk kd) from rfl, show (nestedKind P' w').hash (nk kd) = NestedKey.hash w' (nk kd) from rfl, this]
end
end Z

set_option Elab.async false
set_option linter.all false
set_option maxRecDepth 100000
/-! Z6: the checker; slots; patterns. -/
namespace Z
open PySem PySem.Spec PyProof.Rows L2

/-! ### shapes of expressions -/
def noStar : Expr → Bool
  | .Starred _ _ => false
  | _ => true
def noSet : Expr → Bool
  | .Set _ _ _ => false
  | _ => true
def noSlc : Expr → Bool
  | .Slice _ _ _ _ => false
  | _ => true
def noLc : Expr → Bool
  | .ListComp _ _ _ _ => false
  | .SetComp _ _ _ _ => false
  | .DictComp _ _ _ _ _ => false
  | _ => true
def plainT : Expr → Bool
  | .UnaryOp .Not _ _ => false
  | .BoolOp _ _ _ => false
  | .IfExp _ _ _ _ => false
  | .Compare _ _ _ _ => false
  | _ => true
def recvOk : Expr → Bool
  | .Name _ _ => true
  | .Attribute _ _ _ => true
  | .Subscript _ _ _ => true
  | _ => false
theorem star_cons {e : Expr} (h : noStar e = true) (es : List Expr) (env : PySem.Env) : starEach (e :: es) env = (false, eval e env) :: starEach es env := by
  cases e <;> first | rfl | (exact absurd h (by decide)) | (simp [noStar] at h)
theorem noMark {e : Expr} (h : noSet e = true) (op : CmpOp) : behindInMarks op e = false := by
  cases e <;> first | rfl | (simp [noSet] at h)
theorem noFold {e : Expr} (h : noSet e = true) (env : PySem.Env) (x : Value) : foldedSetIterable e env x = pure x := by
  cases e <;> first | rfl | (simp [noSet] at h)
theorem plainIx {e : Expr} (h : noSlc e = true) : PlainIx e := by
  intro o i
  cases e <;> first | rfl | (simp [noSlc] at h)
theorem noSwap {e : Expr} (h : noLc e = true) (t : Option Expr) (l : Nat) (env : PySem.Env) : swapsWith e t l env = pure false := by
  cases e <;> first | rfl | (simp [noLc] at h)
theorem plainTr {e : Expr} (h : plainT e = true) (env : PySem.Env) (whole : Sem Value) : isTrue e env whole = (do let v ← whole; standAt e.pos; holding [v] (truthy v)) := by
  cases e with
  | UnaryOp op a p => cases op <;> first | rfl | (simp [plainT] at h)
  | _ => first | rfl | (simp [plainT] at h)
theorem recvBase {e : Expr} (h : recvOk e = true) (n : Str) (env : PySem.Env) (w : Sem Value) : attributeBase e n env w = w := by
  cases e <;> first | rfl | (simp [recvOk] at h)
theorem noStars : ∀ {es : List Expr}, es.all noStar = true → ∀ (pos : Pos) (env : PySem.Env), (backTo pos (starEach es env)).any (·.1) = false
  | [], _, _, _ => rfl
  | e :: es, h, pos, env => by
    have h' : noStar e = true ∧ es.all noStar = true := by simpa using h
    rw [star_cons h'.1]
    show (false || (backTo pos (starEach es env)).any (·.1)) = false
    rw [noStars h'.2]
    rfl

/-! ### names -/
def visB (sc : Scope) (x : Str) : Bool := match sc.names.lookup x with
  | some .local => true
  | some .cell => true
  | some .free => true
  | _ => false
def glB (sc : Scope) (x : Str) : Bool := match sc.names.lookup x with
  | some .globalImplicit => true
  | _ => false
/-- cells that may be stored to: all, a comprehension's own -/
def allB : Str → Bool := fun _ => true
def cellB (scope : Scope) : Str → Bool := fun x => scope.names.lookup x == some .cell
/-- a name that may be stored to -/
def locB (df : Str → Bool) (sc : Scope) (x : Str) : Bool := match sc.names.lookup x with
  | some .local => true
  | some .cell => df x
  | _ => false
def dunderB (x : Str) : Bool := decide (x ≠ "__debug__") && decide (x ≠ "__classdict__") && decide (x ≠ "__name__")
def varB (N : List Str) (sc : Scope) (i : Nat) (x : Str) : Bool := decide (N[i]? = some x) && visB sc x && dunderB x
theorem vis_of {sc : Scope} {x : Str} (h : visB sc x = true) : Vis sc x := by
  unfold visB at h
  split at h <;> first | exact .inl (by assumption) | exact .inr (.inl (by assumption)) | exact .inr (.inr (by assumption)) | cases h
theorem gl_of {sc : Scope} {x : Str} (h : glB sc x = true) : sc.names.lookup x = some .globalImplicit := by
  unfold glB at h
  split at h <;> first | assumption | cases h
theorem dun1 {x : Str} (h : dunderB x = true) : (x == ("__debug__" : Str)) = false := by
  unfold dunderB at h
  simp only [Bool.and_eq_true, decide_eq_true_eq] at h
  simpa using h.1.1
theorem dun2 {x : Str} (h : dunderB x = true) : (x == ("__classdict__" : Str)) = false := by
  unfold dunderB at h
  simp only [Bool.and_eq_true, decide_eq_true_eq] at h
  simpa using h.1.2
theorem dun3 {x : Str} (h : dunderB x = true) : x ≠ "__name__" := by
  unfold dunderB at h
  simp only [Bool.and_eq_true, decide_eq_true_eq] at h
  exact h.2

/-! ### patterns -/
mutual
def okP (N : List Str) (df : Str → Bool) (sc : Scope) : P → Expr → Bool
  | .nm i x, .Name y _ => decide (x = y) && decide (N[i]? = some x) && locB df sc x
  | .tup ps, .Tuple es _ _ => okPs N df sc ps es
  | _, _ => false
def okPs (N : List Str) (df : Str → Bool) (sc : Scope) : P → List Expr → Bool
  | .nil, [] => true
  | .cons p ps, e :: es => okP N df sc p e && noStar e && okPs N df sc ps es
  | _, _ => false
end
mutual
def psl : P → List Nat
  | .nm i _ => [i]
  | .tup ps => psls ps
  | _ => []
def psls : P → List Nat
  | .cons p ps => psl p ++ psls ps
  | _ => []
end

/-! ### slots -/
structure EnvOk (K : PySem.W.Frag) (mg : Str → Option Value) (φ : List Addr) (H : Hp) (σ : L2.St) (ρ : Env) : Prop where
  len : σ.length = ρ.length
  at' : ∀ (i : Nat) (d : D), ρ[i]? = some (some d) → ∃ v, σ[i]? = some (some v) ∧ Den K mg φ H v d
section
variable {K : PySem.W.Frag} {mg : Str → Option Value} {φ φ' : List Addr} {H H' : Hp} {σ : L2.St} {ρ : Env}
theorem EnvOk.evo (h : EnvOk K mg φ H σ ρ) (e : Evo φ H φ' H') : EnvOk K mg φ' H' σ ρ := ⟨h.len, fun i d hd => let ⟨v, h1, h2⟩ := h.at' i d hd; ⟨v, h1, h2.evo e⟩⟩
theorem EnvOk.set (h : EnvOk K mg φ H σ ρ) (i : Nat) {v : V} {d : D} (hv : Den K mg φ H v d) : EnvOk K mg φ H (σ.set i (some v)) (ρ.set i (some d)) := by
  refine ⟨by simp [h.len], fun j d' hd => ?_⟩
  by_cases e : i = j
  · subst e
    by_cases hi : i < ρ.length
    · rw [List.getElem?_set_self hi] at hd
      cases hd
      exact ⟨v, by rw [List.getElem?_set_self (by rw [h.len]; exact hi)], hv⟩
    · rw [List.getElem?_eq_none (by simpa using hi)] at hd; cases hd
  · rw [List.getElem?_set_ne e] at hd
    rw [List.getElem?_set_ne e]
    exact h.at' j d' hd
theorem EnvOk.unset (h : EnvOk K mg φ H σ ρ) (i : Nat) : EnvOk K mg φ H (σ.set i none) (ρ.set i none) := by
  refine ⟨by simp [h.len], fun j d' hd => ?_⟩
  by_cases e : i = j
  · subst e
    by_cases hi : i < ρ.length
    · rw [List.getElem?_set_self hi] at hd; cases hd
    · rw [List.getElem?_eq_none (by simpa using hi)] at hd; cases hd
  · rw [List.getElem?_set_ne e] at hd
    rw [List.getElem?_set_ne e]
    exact h.at' j d' hd
theorem EnvOk.wipe (h : EnvOk K mg φ H σ ρ) : ∀ vs : List Nat, EnvOk K mg φ H (L2.wipe σ vs) (wipeD ρ vs)
  | [] => h
  | v :: vs => (EnvOk.wipe h vs).unset v
theorem wipe_set_in (σ : L2.St) (i : Nat) (x : Option V) : ∀ {vs : List Nat}, i ∈ vs → L2.wipe (σ.set i x) vs = L2.wipe σ vs
  | v :: vs, h => by
    unfold L2.wipe
    by_cases hi : i ∈ vs
    · rw [wipe_set_in σ i x hi]
    · have e : i = v := by
        rcases List.mem_cons.mp h with z | z
        · exact z
        · exact absurd z hi
      subst e
      clear h
      have gen : ∀ (vs : List Nat), i ∉ vs → (L2.wipe (σ.set i x) vs).set i none = (L2.wipe σ vs).set i none := by
        intro vs
        induction vs with
        | nil => intro _; unfold L2.wipe; rw [List.set_set]
        | cons w ws ih =>
          intro hw
          have h1 : i ≠ w := fun z => hw (by rw [z]; exact List.mem_cons_self)
          have h2 : i ∉ ws := fun z => hw (List.mem_cons_of_mem _ z)
          unfold L2.wipe
          rw [List.set_comm _ _ (Ne.symm h1), List.set_comm _ _ (Ne.symm h1), ih h2]
      exact gen vs hi
end

/-! ### targets -/
/-- what a target's store gives: the pattern's slots alone are changed -/
def tP (K : PySem.W.Frag) (mg : Str → Option Value) (p : P) : TG := fun v σ H Q => ∃ φ ρ d ρ', EnvOk K mg φ H σ ρ ∧ Den K mg φ H v d ∧ bindP p d ρ = some ρ' ∧
  ∀ σ', EnvOk K mg φ H σ' ρ' → (∀ vs : List Nat, (∀ i ∈ psl p, i ∈ vs) → L2.wipe σ' vs = L2.wipe σ vs) → Q σ' H
def tPs (K : PySem.W.Frag) (mg : Str → Option Value) (p : P) : TGs := fun vs σ H Q => ∃ φ ρ ds ρ', EnvOk K mg φ H σ ρ ∧ Dens K mg φ H vs ds ∧ bindPs p ds ρ = some ρ' ∧
  ∀ σ', EnvOk K mg φ H σ' ρ' → (∀ ws : List Nat, (∀ i ∈ psls p, i ∈ ws) → L2.wipe σ' ws = L2.wipe σ ws) → Q σ' H
structure XN (N : List Str) (df : Str → Bool) (sc : Scope) (X : Cx) : Prop where
  hN : X.N = N
  nd : N.Nodup
  hsc : X.env.scope = sc
  calm : X.calm = true
  df : ∀ x, df x = true → X.fn x = true
theorem PG.imp {X : Cx} {e : Expr} {t t' : TG} (h : PG X e t) (hi : ∀ v σ H Q, t' v σ H Q → t v σ H Q) : PG X e t' := ⟨fun pins s σ H v u Q I r hw => h.run pins s σ H v u Q I r (hi _ _ _ _ hw)⟩
theorem PGs.imp {X : Cx} {es : List Expr} {t t' : TGs} (h : PGs X es t) (hi : ∀ v σ H Q, t' v σ H Q → t v σ H Q) : PGs X es t' := ⟨fun pins s σ H v u Q I r hw => h.run pins s σ H v u Q I r (hi _ _ _ _ hw)⟩
theorem asgEach {e : Expr} (h : noStar e = true) (es : List Expr) (env : PySem.Env) : assignEach (e :: es) env = (false, assign e env) :: assignEach es env := by
  cases e <;> first | rfl | (simp [noStar] at h)
theorem asgLen : ∀ {es : List Expr} (env : PySem.Env), es.all noStar = true → (assignEach es env).length = es.length ∧ (assignEach es env).findIdx? (·.1) = none
  | [], _, _ => ⟨rfl, rfl⟩
  | e :: es, env, h => by
    have h' : noStar e = true ∧ es.all noStar = true := by simpa using h
    have ih := asgLen env h'.2
    rw [asgEach h'.1]
    refine ⟨by rw [List.length_cons, List.length_cons, ih.1], ?_⟩
    rw [List.findIdx?_cons]
    simp [ih.2]
theorem okPs_star {N : List Str} {df : Str → Bool} {sc : Scope} : ∀ {p : P} {es : List Expr}, okPs N df sc p es = true → es.all noStar = true
  | .nil, [], _ => rfl
  | .cons p ps, e :: es, h => by
    unfold okPs at h
    simp only [Bool.and_eq_true] at h
    simp [h.1.2]
    exact List.all_eq_true.mp (okPs_star h.2)
  | .nm _ _, _, h => by unfold okPs at h; cases h
  | .tup _, _, h => by unfold okPs at h; cases h
  | .nil, _ :: _, h => by unfold okPs at h; cases h
  | .cons _ _, [], h => by unfold okPs at h; cases h
theorem bindPs_len : ∀ {p : P} {ds : List D} {ρ ρ' : Env} {N : List Str} {df : Str → Bool} {sc : Scope} {es : List Expr}, bindPs p ds ρ = some ρ' → okPs N df sc p es = true → ds.length = es.length
  | .nil, [], _, _, _, _, _, [], _, _ => rfl
  | .cons p ps, d :: ds, ρ, ρ', N, df, sc, e :: es, h, ho => by
    unfold bindPs at h
    unfold okPs at ho
    simp only [Bool.and_eq_true] at ho
    cases hb : bindP p d ρ with
    | none => rw [hb] at h; cases h
    | some ρ1 =>
      rw [hb] at h
      rw [List.length_cons, List.length_cons, bindPs_len h ho.2]
  | .nil, _ :: _, _, _, _, _, _, _, h, _ => by unfold bindPs at h; cases h
  | .cons _ _, [], _, _, _, _, _, _, h, _ => by unfold bindPs at h; cases h
  | .nm _ _, _, _, _, _, _, _, _, h, _ => by unfold bindPs at h; cases h
  | .tup _, _, _, _, _, _, _, _, h, _ => by unfold bindPs at h; cases h
  | .nil, [], _, _, _, _, _, _ :: _, _, ho => by unfold okPs at ho; cases ho
  | .cons _ _, _ :: _, _, _, _, _, _, [], _, ho => by unfold okPs at ho; cases ho
section
variable {N : List Str} {df : Str → Bool} {sc : Scope} {X : Cx} {mg : Str → Option Value}
mutual
theorem pg_ok (x : XN N df sc X) : ∀ (p : P) (e : Expr), okP N df sc p e = true → PG X e (tP X.K mg p)
  | .nm i y, e, h => by
    cases e with
    | Name z pos =>
      unfold okP at h
      simp only [Bool.and_eq_true, decide_eq_true_eq] at h
      obtain ⟨⟨rfl, hi⟩, hl⟩ := h
      have hloc : Loc X.env.scope y ∧ (X.fn y = true ∨ X.env.scope.names.lookup y = some .local) := by
        rw [x.hsc]
        unfold locB at hl
        split at hl
        · next q => exact ⟨.inl q, .inr q⟩
        · next q => exact ⟨.inr q, .inl (x.df y hl)⟩
        · cases hl
      refine PG.imp (pg_name (i := i) (by rw [x.hN]; exact x.nd) (by rw [x.hN]; exact hi) hloc.1 hloc.2) fun v σ H Q hw => ?_
      obtain ⟨φ, ρ, d, ρ', he, hd, hb, k⟩ := hw
      unfold bindP at hb
      cases hb
      exact k _ (he.set i hd) fun vs hv => wipe_set_in σ i _ (hv i (by simp [psl]))
    | _ => unfold okP at h; cases h
  | .tup ps, e, h => by
    cases e with
    | Tuple es kk pos =>
      unfold okP at h
      have hs := okPs_star h
      have al := asgLen X.env hs
      refine PG.imp (pg_tup x.calm (pgs_ok x ps es h) al.1 al.2) fun v σ H Q hw => ?_
      obtain ⟨φ, ρ, d, ρ', he, hd, hb, k⟩ := hw
      cases d with
      | tup ds =>
        unfold bindP at hb
        cases hd with
        | tup h1 h2 =>
          exact ⟨_, _, rfl, h1.sq, by rw [h2.length]; exact bindPs_len hb h, φ, ρ, ds, ρ', he, h2, hb, fun σ' e' w => k σ' e' fun vs hv => w vs (by simpa [psl] using hv)⟩
      | wt ds =>
        unfold bindP at hb
        cases hd with
        | wt h1 h2 =>
          exact ⟨_, _, rfl, h1, by rw [h2.length]; exact bindPs_len hb h, φ, ρ, ds, ρ', he, h2, hb, fun σ' e' w => k σ' e' fun vs hv => w vs (by simpa [psl] using hv)⟩
      | _ => unfold bindP at hb; cases hb
    | _ => unfold okP at h; cases h
  | .nil, e, h => by unfold okP at h; cases h
  | .cons _ _, e, h => by unfold okP at h; cases h
theorem pgs_ok (x : XN N df sc X) : ∀ (p : P) (es : List Expr), okPs N df sc p es = true → PGs X es (tPs X.K mg p)
  | .nil, es, h => by
    cases es with
    | nil =>
      refine PGs.imp pgs_nil fun v σ H Q hw => ?_
      obtain ⟨φ, ρ, ds, ρ', he, hd, hb, k⟩ := hw
      cases ds with
      | nil =>
        unfold bindPs at hb
        cases hb
        cases hd
        exact ⟨rfl, k _ he fun _ _ => rfl⟩
      | cons d ds => unfold bindPs at hb; cases hb
    | cons e es => unfold okPs at h; cases h
  | .cons p ps, es, h => by
    cases es with
    | nil => unfold okPs at h; cases h
    | cons e es =>
      unfold okPs at h
      simp only [Bool.and_eq_true] at h
      refine PGs.imp (pgs_cons (pg_ok x p e h.1.1) (pgs_ok x ps es h.2) (by rw [asgEach h.1.2]; rfl)) fun v σ H Q hw => ?_
      obtain ⟨φ, ρ, ds, ρ', he, hd, hb, k⟩ := hw
      cases ds with
      | nil => unfold bindPs at hb; cases hb
      | cons d ds =>
        unfold bindPs at hb
        cases hb1 : bindP p d ρ with
        | none => rw [hb1] at hb; cases hb
        | some ρ1 =>
          rw [hb1] at hb
          cases hd with
          | cons d1 d2 =>
            refine ⟨_, _, rfl, φ, ρ, d, ρ1, he, d1, hb1, fun σ1 e1 w1 => ⟨φ, ρ1, ds, ρ', e1, d2, hb, fun σ2 e2 w2 => k σ2 e2 fun ws hv => ?_⟩⟩
            have hv' : ∀ i, i ∈ psl p ∨ i ∈ psls ps → i ∈ ws := fun i hi => hv i (by simpa [psls] using hi)
            rw [w2 ws fun i hi => hv' i (.inr hi), w1 ws fun i hi => hv' i (.inl hi)]
  | .nm _ _, es, h => by unfold okPs at h; cases h
  | .tup _, es, h => by unfold okPs at h; cases h
end
end
end Z

set_option Elab.async false
set_option linter.all false
set_option maxRecDepth 100000
/-! ZP: dict(pairs), sorted(d.items()). -/
namespace Z
open PySem PySem.Spec PyProof.Rows L2
section
variable {X : Cx} {mg : Str → Option Value} {pins : List (Addr × Obj)} {σ : L2.St} {s : Shared} {φ : List Addr} {H : Hp} {S : Sto}
/-- the pairs' places, keys and values -/
structure PsOk (X : Cx) (mg : Str → Option Value) (φ : List Addr) (H : Hp) (h : Heap) (us : List Value) (ps : List (D × D)) (ks : List (Value × Value)) : Prop where
  len : ks.length = ps.length
  lenu : us.length = ps.length
  at' : ∀ (j : Nat) (p : D × D), ps[j]? = some p → ∃ T k v vk vv, us[j]? = some (.ref T) ∧ ks[j]? = some (k, v) ∧ h.IsTuple T #[k, v] ∧ RelV vk k ∧ RelV vv v ∧ Den X.K mg φ H vk p.1 ∧ Den X.K mg φ H vv p.2
theorem pairs_ok (I : Inv X pins σ H s) : ∀ {xs : List D} {ps : List (D × D)} {vs : List V} {us : List Value}, pairsW xs = some ps → Dens X.K mg φ H vs xs → Vals vs us → ∃ ks, PsOk X mg φ H s.heap us ps ks
  | [], ps, _, _, e, .nil, .nil => by
    unfold pairsW at e
    cases e
    exact ⟨[], rfl, rfl, fun j p h => by simp at h⟩
  | x :: xs, ps, _, _, e, .cons d ds, .cons r rs => by
    unfold pairsW at e
    split at e
    · rename_i h1; cases h1
    · next k v rest hx =>
      cases hx
      cases hp : pairsW xs with
      | none => rw [hp] at e; cases e
      | some qs =>
        rw [hp] at e
        cases e
        obtain ⟨ks, ok⟩ := pairs_ok I hp ds rs
        cases d with
        | tup h1 h2 =>
          cases r
          obtain ⟨its, o, n, rv, g1, g2, g3, g4, _⟩ := SqK.obj I h1
          cases h2 with
          | cons dk h2 =>
            cases h2 with
            | cons dv h2 =>
              cases h2
              cases rv with
              | @cons _ uk _ _ rk rv =>
                cases rv with
                | @cons _ uv _ _ rw' rv =>
                  cases rv
                  refine ⟨(uk, uv) :: ks, by simp [ok.len], by simp [ok.lenu], fun j p hj => ?_⟩
                  cases j with
                  | zero => cases hj; exact ⟨_, _, _, _, _, rfl, rfl, ⟨o, g1, g2, n, g4⟩, rk, rw', dk, dv⟩
                  | succ j => exact ok.at' j p (by simpa using hj)
    · cases e
/-- where the j-th pair stands -/
def tsOf (us : List Value) (j : Nat) : Addr := match us[j]? with
  | some (.ref T) => T
  | _ => 0
theorem PsOk.items {us : List Value} {ps : List (D × D)} {ks : List (Value × Value)} (ok : PsOk X mg φ H s.heap us ps ks) : PairItems s.heap us.toArray (tsOf us) ks := by
  refine ⟨by rw [List.size_toArray, ok.lenu, ok.len], fun j k v hj => ?_⟩
  have hlt : j < ps.length := by rw [← ok.len]; exact (List.getElem?_eq_some_iff.mp hj).1
  obtain ⟨T, k', v', vk, vv, h1, h2, h3, _⟩ := ok.at' j _ (List.getElem?_eq_getElem hlt)
  rw [hj] at h2
  cases h2
  have : tsOf us j = T := by unfold tsOf; rw [h1]
  rw [this]
  exact ⟨by simpa using h1, .inl h3⟩
/-- what an argument of dict(..) is -/
def DArg (X : Cx) (mg : Str → Option Value) (φ : List Addr) (H : Hp) (s : Shared) (u : Value) (ps : List (D × D)) : Prop :=
    ∃ a T us ks, u = .ref a ∧ PsOk X mg φ H s.heap us ps ks ∧ us.length ≤ sizeLine ∧ PairArg X.prog X.w T a (a :: (List.range ks.length).map (tsOf us)) [] ks.length (PairRel ks) (fun h => PlainSeq T h a us.toArray ∧ PairItems h us.toArray (tsOf us) ks) ∧ PlainSeq T s.heap a us.toArray
/-- the argument of dict(..) -/
theorem dict_arg (I : Inv X pins σ H s) (st : StOk X.K mg φ S H) {v : V} {u : Value} {w : W} {xs : List D} {ps : List (D × D)} (hd : DenW X.K mg φ H v w) (ru : RelV v u) (e : seqOf S w = some xs) (ep : pairsW xs = some ps) :
    DArg X mg φ H s u ps := by
  have lst : lstOf S w = some xs → DArg X mg φ H s u ps := fun e => by
    obtain ⟨a, vs, rfl, hq, ds⟩ := lstOf_ok st hd e
    cases ru
    obtain ⟨its, rv, ⟨o, n, g1, g2, g3, g4⟩, hz⟩ := I.list hq
    obtain ⟨ks, ok⟩ := pairs_ok I ep ds rv
    exact ⟨a, "list", its, ks, rfl, ok, by rw [← rv.length]; exact hz, PairArg.list a its.toArray (tsOf its) ks, ⟨o, n, g1, g2, g3, g4⟩⟩
  unfold seqOf at e
  split at e
  · next ys =>
    cases e
    cases (show Den X.K mg φ H v (.tup xs) from hd) with
    | tup h1 h2 =>
      cases ru
      obtain ⟨its, o, n, rv, g1, g2, g3, g4, hz⟩ := SqK.obj I h1
      obtain ⟨ks, ok⟩ := pairs_ok I ep h2 rv
      exact ⟨_, "tuple", its, ks, rfl, ok, by rw [← rv.length]; exact hz, PairArg.tuple _ its.toArray (tsOf its) ks, ⟨o, n, g1, g2, g3, g4⟩⟩
  · exact lst e
theorem KV_merge_D {K : PySem.W.Frag} : ∀ {more : List (Key × D)} {rs : List (Key × Value)} {kvs : List (Key × D)} {vs : List (Key × V)} {ws : List (Key × Value)}, Paired (fun p q => p.1 = q.1 ∧ ∃ v, RelV v q.2 ∧ Den K mg φ H v p.2) more rs → KD K mg φ H vs kvs → KV vs ws →
    ∃ vs', KD K mg φ H vs' (more.foldl (fun acc p => putD acc p.1 p.2) kvs) ∧ KV vs' (merged ws rs)
  | _, _, kvs, vs, ws, .nil, h1, h2 => ⟨vs, h1, h2⟩
  | _, _, kvs, vs, ws, @Paired.cons _ _ _ p q _ _ h hs, h1, h2 => by
    obtain ⟨e, v, r, d⟩ := h
    have h3 : KV (putK vs p.1 v) (stored ws q.1 q.2) := by rw [← e]; exact h2.put p.1 r
    have := KV_merge_D hs (KD.put h1 d) h3
    exact this
theorem dctK_ok (I : Inv X pins σ H s) : ∀ {ps : List (D × D)} {ks : List (Key × D)} {us : List Value} {rs : List (Value × Value)}, dctK ps = some ks → PsOk X mg φ H s.heap us ps rs →
    ∃ ms : List (Key × Value), Paired (fun p q => p.1 = q.1 ∧ ∃ v, RelV v q.2 ∧ Den X.K mg φ H v p.2) ks ms ∧ ms.length = rs.length ∧ ∀ (i : Nat) k v, rs[i]? = some (k, v) → ∃ kk, ms[i]? = some (kk, v) ∧ (mixKind X.prog X.w).is kk k = true
  | [], ks, us, rs, e, ok => by
    cases e
    have : rs = [] := List.eq_nil_of_length_eq_zero ok.len
    subst this
    exact ⟨[], .nil, rfl, fun i k v h => by simp at h⟩
  | (k0, v0) :: ps, ks, us, rs, e, ok => by
    unfold dctK at e
    split at e
    · next kk r hk hr =>
      cases e
      obtain ⟨T, k, v, vk, vv, h1, h2, h3, h4, h5, h6, h7⟩ := ok.at' 0 _ rfl
      cases rs with
      | nil => simp at h2
      | cons q rs =>
        cases us with
        | nil => simp at h1
        | cons u us =>
          cases h2
          have ok' : PsOk X mg φ H s.heap us ps rs := ⟨by have := ok.len; simpa using this, by have := ok.lenu; simpa using this, fun j p hj => by
            have := ok.at' (j + 1) p (by simpa using hj)
            simpa using this⟩
          obtain ⟨ms, m1, m2, m3⟩ := dctK_ok I hr ok'
          refine ⟨(kk, v) :: ms, .cons ⟨rfl, vv, h5, h7⟩ m1, by simp [m2], fun i k' v' hi => ?_⟩
          cases i with
          | zero =>
            cases hi
            have := keyD_ok h6 hk
            subst this
            exact ⟨kk, rfl, kV_is h4⟩
          | succ i => exact m3 i k' v' (by simpa using hi)
    · cases e
theorem storedAll_D {K : PySem.W.Frag} : ∀ {ps : List (D × D)} {ms : List (NestedKey × Addr × Value)} {xs : List (NestedKey × Addr × Value)} {kvs : List (D × D)}, Paired (fun p m => m.1 = nk p.1 ∧ keyT p.1 = true ∧ Den K mg φ H (.ref m.2.1) p.1 ∧ ∃ v, RelV v m.2.2 ∧ Den K mg φ H v p.2) ps ms → PD K mg φ H xs kvs →
    PD K mg φ H (storedAllH xs ms) (ps.foldl (fun acc p => putDD acc p.1 p.2) kvs)
  | _, _, xs, kvs, .nil, h => h
  | _, _, xs, kvs, @Paired.cons _ _ _ p m _ _ h hs, h1 => by
    obtain ⟨e, hk, d, v, r, dv⟩ := h
    have h2 : PD K mg φ H (storedH xs m.1 m.2.1 m.2.2) (putDD kvs p.1 p.2) := by rw [e]; exact PD.put hk d r dv h1
    have := storedAll_D hs h2
    exact this
theorem dctD_ok : ∀ {ps : List (D × D)} {us : List Value} {rs : List (Value × Value)}, (∀ p ∈ ps, keyT p.1 = true) → PsOk X mg φ H s.heap us ps rs →
    ∃ ms : List (NestedKey × Addr × Value), Paired (fun p m => m.1 = nk p.1 ∧ keyT p.1 = true ∧ Den X.K mg φ H (.ref m.2.1) p.1 ∧ ∃ v, RelV v m.2.2 ∧ Den X.K mg φ H v p.2) ps ms ∧ ms.length = rs.length ∧ ∀ (i : Nat) k v, rs[i]? = some (k, v) → ∃ kk b, ms[i]? = some (kk, b, v) ∧ k = .ref b
  | [], us, rs, _, ok => by
    have : rs = [] := List.eq_nil_of_length_eq_zero ok.len
    subst this
    exact ⟨[], .nil, rfl, fun i k v h => by simp at h⟩
  | (k0, v0) :: ps, us, rs, hk, ok => by
    obtain ⟨T, k, v, vk, vv, h1, h2, h3, h4, h5, h6, h7⟩ := ok.at' 0 _ rfl
    cases rs with
    | nil => simp at h2
    | cons q rs =>
      cases us with
      | nil => simp at h1
      | cons u us =>
        cases h2
        have ok' : PsOk X mg φ H s.heap us ps rs := ⟨by have := ok.len; simpa using this, by have := ok.lenu; simpa using this, fun j p hj => by
          have := ok.at' (j + 1) p (by simpa using hj)
          simpa using this⟩
        have hk0 := hk (k0, v0) List.mem_cons_self
        obtain ⟨b, rfl, rfl⟩ := key_ref hk0 h6 h4
        obtain ⟨ms, m1, m2, m3⟩ := dctD_ok (fun p hp => hk p (List.mem_cons_of_mem _ hp)) ok'
        refine ⟨(nk k0, b, v) :: ms, .cons ⟨rfl, hk0, h6, vv, h5, h7⟩ m1, by simp [m2], fun i k' v' hi => ?_⟩
        cases i with
        | zero => cases hi; exact ⟨nk k0, b, rfl, rfl⟩
        | succ i => exact m3 i k' v' (by simpa using hi)
/-- dict(xs) -/
theorem dct_ok (hc : X.calm = true) (hu : X.A.units + 67 < cLine) (I : Inv X pins σ H s) (st : StOk X.K mg φ S H) {v : V} {u : Value} {w : W} {xs : List D} {ps : List (D × D)} {deep : Bool} {o : O} (hd : DenW X.K mg φ H v w) (ru : RelV v u) (e : seqOf S w = some xs) (ep : pairsW xs = some ps) (eo : dctO deep ps = some o) {Q : VK}
    (q : ∀ p z, H p = none → ObjD X.K mg φ (upd H p z) p o → Q (.ref p) (upd H p z)) : wpAny (model X.prog X.w) X.A (call (.type "dict") [u]) (EP X pins σ Q) X.xe s := by
  obtain ⟨a, T, us, ks, rfl, ok, hz, P, pl⟩ := dict_arg I st hd ru e ep
  have hkz : ks.length ≤ sizeLine := by rw [ok.len, ← ok.lenu]; exact hz
  unfold dctO at eo
  split at eo
  · next hlen =>
    split at eo
    · split at eo
      · next hk =>
        cases eo
        obtain ⟨ms, m1, m2, m3⟩ := dctD_ok (fun p hp => List.all_eq_true.mp hk p hp) ok
        have his : ∀ m ∈ ms, (nestedKind X.prog X.w).is s.heap m.1 m.2.1 := by
          have all : ∀ {l : List (D × D)} {m : List (NestedKey × Addr × Value)}, Paired (fun p m => m.1 = nk p.1 ∧ keyT p.1 = true ∧ Den X.K mg φ H (.ref m.2.1) p.1 ∧ ∃ v, RelV v m.2.2 ∧ Den X.K mg φ H v p.2) l m → ∀ x ∈ m, (nestedKind X.prog X.w).is s.heap x.1 x.2.1 := by
            intro l m q
            induction q with
            | nil => intro x hx; exact nomatch hx
            | @cons p q ps qs hq t ih =>
              intro x hx
              rcases List.mem_cons.mp hx with e | hx
              · subst e; rw [hq.1]; exact key_is I hq.2.1 hq.2.2.1
              · exact ih x hx
          exact all m1
        refine call_dict_pairsH (knd := nestedKind X.prog X.w) (ps := ms) P (I.ok.hd hc) (by show X.A.units + 1 + 1 + 8 < cLine; omega) ⟨pl, ok.items⟩ ⟨m2, fun i k v h => m3 i k v h⟩ (fun h' hk' x hx => ⟨NestedIs.at (fun b o vs n hb hd => hk' b o (Nat.ne_of_lt (Heap.lt_size hb)) (by simp) hb) _ _ (his x hx).1, (his x hx).2⟩) (by omega) fun h' tk dd' hk' => ?_
        have pd := storedAll_D m1 (.nil : PD X.K mg φ H [] [])
        have I1 : Inv X pins σ H { s with heap := h', toks := tk } := I.kept fun b o e => hk' b o (by simp) e
        have hf : H s.heap.objs.size = none := I.hok.fresh (Nat.le_refl _)
        obtain ⟨ob, _, _, hob, _, _, _, _, hnd⟩ := id dd'
        have hs : (s.heap.objs.size == sysModules) = false := beq_eq_false_iff_ne.mpr (Ne.symm (Nat.ne_of_lt I.big))
        have hlen2 : (storedAllH [] ms).length ≤ sizeLine := by
          have := storedAllH_length ms []
          rw [List.length_nil] at this
          omega
        refine ⟨.ref s.heap.objs.size, upd H s.heap.objs.size (RawD s.heap.objs.size (storedAllH [] ms)), I.laid (fun b o e => hk' b o (by simp) e) (Nat.le_refl _) (raw_ok hs dd' fun P' w' => pd.textless _ _ _ _), rfl, q _ _ hf ⟨_, upd_same, hlen2, hnd, pd.evo (Evo.new hf)⟩⟩
      · cases eo
    · cases hd' : dctK ps with
      | none => rw [hd'] at eo; cases eo
      | some kd =>
        rw [hd'] at eo
        cases eo
        obtain ⟨ms, m1, m2, m3⟩ := dctK_ok I hd' ok
        refine call_dict_pairs (knd := mixKind X.prog X.w) (kvs := ms) P (I.ok.hd hc) ⟨pl, ok.items⟩ ⟨m2, fun i k v h => m3 i k v h⟩ (by omega) fun h' tk dd' hk' => ?_
        obtain ⟨vs', k1, k2⟩ := KV_merge_D m1 (.nil : KD X.K mg φ H [] []) (.nil : KV ([] : List (Key × V)) [])
        have hf : H s.heap.objs.size = none := I.hok.fresh (Nat.le_refl _)
        have hs : (s.heap.objs.size == sysModules) = false := beq_eq_false_iff_ne.mpr (Ne.symm (Nat.ne_of_lt I.big))
        have hlen2 : vs'.length ≤ sizeLine := by
          have h1 := merged_length ([] : List (Key × Value)) ms
          have h2 := k2.length
          rw [List.length_nil] at h1
          omega
        exact ⟨.ref s.heap.objs.size, upd H s.heap.objs.size (.dK vs'), I.laid (fun b o e => hk' b o (by simp) e) (Nat.le_refl _) (dk_new hlen2 hs k2 dd'), rfl, q _ _ hf ⟨_, upd_same, k1.evo (Evo.new hf)⟩⟩
  · cases eo
end
end Z

set_option Elab.async false
set_option linter.all false
set_option maxRecDepth 100000
/-! ZI: sorted(d.items()), dict(xs), tuple(range(..)). -/
namespace Z
open PySem PySem.Spec PyProof.Rows L2 L2.DX
/-- the pairs of a dict -/
def itsO : O → List D
  | .dk kvs => kvs.map fun kv => .tup [kD kv.1, kv.2]
  | .dd kvs => kvs.map fun kv => .tup [kv.1, kv.2]
  | .lst _ => []
section
variable {X : Cx} {mg : Str → Option Value} {pins : List (Addr × Obj)} {σ : L2.St} {s : Shared} {φ : List Addr} {H : Hp} {S : Sto}
def rItemsO (K : PySem.W.Frag) (mg : Str → Option Value) : V → List V → Hp → VK → Prop := fun x xs H Q => ∃ φ a o, x = .ref a ∧ xs = [] ∧ ObjD K mg φ H a o ∧ isDO o = true ∧ ∀ p, H p = none → Q (.ref p) (upd H p (itemsO p a))
theorem mt_itemsO : MtR X "dict.items" (rItemsO X.K mg) := by
  intro pins s σ H x xs v us Q I rx rxs h
  obtain ⟨φ, a, o, rfl, rfl, ob, hd, q⟩ := h
  cases rx
  cases rxs
  obtain ⟨es, ep, us, ws, r1, r2, r3, r4, r5, r6⟩ := o_raw I ob hd
  refine DT.callItems (es := es) (ep := ep) r2 r1 ?_
  have hf : H s.heap.objs.size = none := I.hok.fresh (Nat.le_refl _)
  exact ⟨.ref s.heap.objs.size, upd H s.heap.objs.size (itemsO s.heap.objs.size a), I.laid (t' := s.toks) (fun b u e => Heap.get?_push_of_some _ e) (Nat.le_refl _) (itemsO_ok (Heap.get?_push_size _ rfl)), rfl, q _ hf⟩
/-- known tuples already laid are tracked -/
theorem takeK {pins : List (Addr × Obj)} {σ : L2.St} {H0 : Hp} {s : Shared} {h' : Heap} {tk : Nat} {P : Addr → List Value → List V → Prop} (I0 : Inv X pins σ H0 s) : ∀ (L : List Addr) (H1 : Hp), Inv X pins σ H1 { s with heap := h', toks := tk } → L.Nodup →
    (∀ a ∈ L, s.heap.objs.size ≤ a ∧ H1 a = none ∧ ∃ its vs, P a its vs ∧ ∀ H2, ObjOk X.prog X.w H2 h' a (KTup its vs)) →
    ∃ H2, Inv X pins σ H2 { s with heap := h', toks := tk } ∧ (∀ b o, H1 b = some o → H2 b = some o) ∧ ∀ a ∈ L, ∃ its vs, P a its vs ∧ H2 a = some (KTup its vs)
  | [], H1, I1, _, _ => ⟨H1, I1, fun _ _ e => e, fun _ h => nomatch h⟩
  | a :: L, H1, I1, hn, h => by
    obtain ⟨hb, hnone, its, vs, hP, ok⟩ := h a (List.mem_cons_self ..)
    have I2 : Inv X pins σ (upd H1 a (KTup its vs)) { s with heap := h', toks := tk } := I1.take (h' := h') (t' := tk) (fun b ob _ e => e) (I0.fpOk hb hnone) (ok _)
    rw [List.nodup_cons] at hn
    obtain ⟨H2, I3, g, q⟩ := takeK I0 L (upd H1 a (KTup its vs)) I2 hn.2 fun c hc => by
      obtain ⟨c1, c2, c3⟩ := h c (List.mem_cons_of_mem _ hc)
      exact ⟨c1, by rw [upd_ne (fun z => hn.1 (by rw [← z]; exact hc))]; exact c2, c3⟩
    refine ⟨H2, I3, fun b o e => g b o (by rw [upd_ne (ne_of_none e hnone)]; exact e), fun c hc => ?_⟩
    rcases List.mem_cons.mp hc with rfl | hc
    · exact ⟨its, vs, hP, g _ _ upd_same⟩
    · exact q c hc
theorem evo_grow {H2 : Hp} (h : ∀ b o, H b = some o → H2 b = some o) : Evo φ H φ H2 := ⟨⟨[], by simp, by simp⟩, fun a o e _ => h a o e, fun a u _ e => h a u e, fun a e => by
  cases q : H a with
  | none => rfl
  | some o => rw [h a o q] at e; cases e⟩
theorem StOk.grow {K : PySem.W.Frag} {H2 : Hp} (s : StOk K mg φ S H) (h : ∀ b o, H b = some o → H2 b = some o) : StOk K mg φ S H2 := by
  refine ⟨s.len, s.nd, fun n a o e1 e2 => ?_⟩
  have ev : Evo φ H φ H2 := evo_grow h
  have ob := s.obj n a o e1 e2
  cases o with
  | lst xs => obtain ⟨vs, h1, h2⟩ := ob; exact ⟨vs, h a _ h1, h2.evo ev⟩
  | dk kvs => obtain ⟨vs, h1, h2⟩ := ob; exact ⟨vs, h a _ h1, h2.evo ev⟩
  | dd kvs => obtain ⟨vs, h1, h2, h3, h4⟩ := ob; exact ⟨vs, h a _ h1, h2, h3, h4.evo ev⟩
/-- what stands at j -/
def nth' {α : Type} (j : Nat) (xs : List α) : Option α := xs[j]?
def rSitm (K : PySem.W.Frag) (mg : Str → Option Value) : List V → Hp → VK → Prop := fun vs H Q => ∃ p a φ S o, vs = [.ref p] ∧ H p = some (itemsO p a) ∧ StOk K mg φ S H ∧ ObjD K mg φ H a o ∧ isDO o = true ∧ ordOk (itsO o) = true ∧
  ∀ H2, (∀ b o, H b = some o → H2 b = some o) → Kont K mg φ S H2 (.tmp (sortD (itsO o))) Q
theorem dens_at {K : PySem.W.Frag} : ∀ {vs : List V} {ds : List D} {j : Nat} {v : V}, Dens K mg φ H vs ds → vs[j]? = some v → ∃ d, ds[j]? = some d ∧ Den K mg φ H v d
  | _, _, _, _, h, e => h.getV e
theorem dens_mk {K : PySem.W.Frag} : ∀ (vs : List V) (ds : List D), vs.length = ds.length → (∀ (j : Nat) (v : V) (d : D), vs[j]? = some v → ds[j]? = some d → Den K mg φ H v d) → Dens K mg φ H vs ds
  | [], [], _, _ => .nil
  | v :: vs, d :: ds, e, h => .cons (h 0 v d rfl rfl) (dens_mk vs ds (by simpa using e) fun j w f e1 e2 => h (j + 1) w f (by simpa using e1) (by simpa using e2))
  | [], _ :: _, e, _ => by simp at e
  | _ :: _, [], e, _ => by simp at e
theorem its_ok {o : O} {us ws : List V} (hd : isDO o = true) (m : match o with
      | .dk kvs => Dens X.K mg φ H us (kvs.map fun kv => kD kv.1) ∧ Dens X.K mg φ H ws (kvs.map (·.2))
      | .dd kvs => Dens X.K mg φ H us (kvs.map (·.1)) ∧ Dens X.K mg φ H ws (kvs.map (·.2))
      | .lst _ => False) : us.length = (itsO o).length ∧ ws.length = (itsO o).length ∧ ∀ (j : Nat) (v u : V), us[j]? = some v → ws[j]? = some u → ∃ k d, (itsO o)[j]? = some (.tup [k, d]) ∧ Den X.K mg φ H v k ∧ Den X.K mg φ H u d := by
  cases o with
  | lst _ => cases hd
  | dk kvs =>
    obtain ⟨m1, m2⟩ := m
    refine ⟨by rw [m1.length]; simp [itsO], by rw [m2.length]; simp [itsO], fun j v u e1 e2 => ?_⟩
    obtain ⟨k, g1, g2⟩ := m1.getV e1
    obtain ⟨d, g3, g4⟩ := m2.getV e2
    rw [List.getElem?_map] at g1 g3
    cases hj : kvs[j]? with
    | none => rw [hj] at g1; cases g1
    | some kv =>
      rw [hj] at g1 g3
      cases g1
      cases g3
      exact ⟨_, _, by unfold itsO; rw [List.getElem?_map, hj]; rfl, g2, g4⟩
  | dd kvs =>
    obtain ⟨m1, m2⟩ := m
    refine ⟨by rw [m1.length]; simp [itsO], by rw [m2.length]; simp [itsO], fun j v u e1 e2 => ?_⟩
    obtain ⟨k, g1, g2⟩ := m1.getV e1
    obtain ⟨d, g3, g4⟩ := m2.getV e2
    rw [List.getElem?_map] at g1 g3
    cases hj : kvs[j]? with
    | none => rw [hj] at g1; cases g1
    | some kv =>
      rw [hj] at g1 g3
      cases g1
      cases g3
      exact ⟨_, _, by unfold itsO; rw [List.getElem?_map, hj]; rfl, g2, g4⟩
theorem vals_at : ∀ {vs : List V} {us : List Value} {j : Nat} {u : Value}, Vals vs us → us[j]? = some u → ∃ v, vs[j]? = some v ∧ RelV v u
  | _, _, _, _, .nil, e => by simp at e
  | _, _, 0, _, .cons r rs, e => by cases e; exact ⟨_, rfl, r⟩
  | _, _, j + 1, _, .cons r rs, e => by
    obtain ⟨v, h1, h2⟩ := vals_at (j := j) rs (by simpa using e)
    exact ⟨v, by simpa using h1, h2⟩
theorem cr_sitm (hc : X.calm = true) (hu : X.A.units + 67 < cLine) : CallR X (.builtin "sorted") (rSitm X.K mg) := by
  intro pins s σ H xs us Q I r h
  obtain ⟨p, a, φ, S, o, rfl, hp, st, ob, hd, ho, q⟩ := h
  obtain rfl := Vals.ref1 r
  have view : s.heap.IsItemsView p a := (show ObjOk X.prog X.w H s.heap p (itemsO p a) from I.hok p _ hp).1
  obtain ⟨es, ep, uk, uv, r1, r2, r3, r4, r5, r6⟩ := o_raw I ob hd
  obtain ⟨lk, lv, itm⟩ := its_ok (X := X) (o := o) hd (by cases o <;> first | exact r6 | cases hd)
  have le1 : es.size = uk.length := by rw [r4.length, List.length_map, Array.length_toList]
  refine DT.sortedI (es := es) (ep := ep) (I.ok.hd hc) view r1 r3 fun h' tk as hk hlt hl hG => ?_
  have nd : as.Nodup := List.Pairwise.imp (fun h => Nat.ne_of_lt h) hG.rise
  have pr : ∀ (j : Nat) (b : Addr), as[j]? = some b → ∃ vk vv k d k' v', (itsO o)[j]? = some (.tup [k, d]) ∧ Den X.K mg φ H vk k ∧ Den X.K mg φ H vv d ∧ RelV vk k' ∧ RelV vv v' ∧ h'.get? b = some (tobj [k', v']) := by
    intro j b hj
    obtain ⟨en, he, hg⟩ := hG.pairs j b hj
    obtain ⟨vk, g1, g2⟩ := vals_at (j := j) r4 (by rw [List.getElem?_map, Array.getElem?_toList, he]; rfl)
    obtain ⟨vv, g3, g4⟩ := vals_at (j := j) r5 (by rw [List.getElem?_map, Array.getElem?_toList, he]; rfl)
    obtain ⟨k, d, i1, i2, i3⟩ := itm j vk vv g1 g3
    exact ⟨vk, vv, k, d, _, _, i1, i2, i3, g2, g4, hg⟩
  have I1 : Inv X pins σ H { s with heap := h', toks := tk } := I.kept hk
  obtain ⟨H2, I2, gr, tks⟩ := takeK (X := X) (P := fun b its vs => ∃ (k d : D) (k' v' : Value) (vk vv : V), its = [k', v'] ∧ vs = [vk, vv] ∧ Den X.K mg φ H vk k ∧ Den X.K mg φ H vv d ∧ ∀ j, as[j]? = some b → (itsO o)[j]? = some (D.tup [k, d])) I as H I1 nd fun b hb => by
    obtain ⟨j, hj⟩ := List.mem_iff_getElem?.mp hb
    obtain ⟨vk, vv, k, d, k', v', i1, i2, i3, i4, i5, i6⟩ := pr j b hj
    have hlo := Nat.le_of_lt (hG.above b hb)
    refine ⟨hlo, I.hok.fresh hlo, [k', v'], [vk, vv], ⟨k, d, k', v', vk, vv, rfl, rfl, i2, i3, fun m hm => ?_⟩, fun H2 => ktup_ok i6 (by show 2 ≤ sizeLine; decide) (.cons i4 (.cons i5 .nil))⟩
    have hjl : j < as.length := (List.getElem?_eq_some_iff.mp hj).1
    have hml : m < as.length := (List.getElem?_eq_some_iff.mp hm).1
    have : m = j := (List.getElem_inj nd (h₀ := hml) (h₁ := hjl)).mp (by
      rw [(List.getElem?_eq_some_iff.mp hj).2, (List.getElem?_eq_some_iff.mp hm).2])
    rw [this]; exact i1
  have ev : Evo φ H φ H2 := evo_grow gr
  have st2 : StOk X.K mg φ S H2 := st.grow gr
  have dn : Dens X.K mg φ H2 (as.map V.ref) (itsO o) := by
    refine dens_mk _ _ (by rw [List.length_map, hl, le1, lk]) fun j v d e1 e2 => ?_
    rw [List.getElem?_map] at e1
    cases hj : as[j]? with
    | none => rw [hj] at e1; cases e1
    | some b =>
      rw [hj] at e1
      cases e1
      obtain ⟨its, vs, ⟨k, d', k', v', vk, vv, rfl, rfl, i2, i3, i4⟩, hb⟩ := tks b (List.mem_of_getElem? hj)
      have := i4 j hj
      rw [e2] at this
      cases this
      exact .tup (.inl ⟨_, hb⟩) (.cons (i2.evo ev) (.cons (i3.evo ev) .nil))
  exact sort_new (s := { s with heap := h', toks := tk }) (tk := tk) hu I2 st2 (us := as.map V.ref) (fun b o e => e) (by rw [List.length_map, hl]; exact r3) (vals_map V.ref Value.ref (fun _ => rfl) as) dn ho (q H2 gr)
/-- dict(xs) -/
def rDct (K : PySem.W.Frag) (mg : Str → Option Value) (deep : Bool) : List V → Hp → VK → Prop := fun vs H Q => ∃ φ S v w xs ps o, vs = [v] ∧ StOk K mg φ S H ∧ DenW K mg φ H v w ∧ seqOf S w = some xs ∧ pairsW xs = some ps ∧ dctO deep ps = some o ∧
  ∀ p z, H p = none → ObjD K mg φ (upd H p z) p o → Q (.ref p) (upd H p z)
theorem cr_dct (hc : X.calm = true) (hu : X.A.units + 67 < cLine) (deep : Bool) : CallR X (.type "dict") (rDct X.K mg deep) := by
  intro pins s σ H xs us Q I r h
  obtain ⟨φ, S, v, w, xs, ps, o, rfl, st, hd, e1, e2, e3, q⟩ := h
  obtain ⟨u, rfl, rx⟩ := vals1 r
  exact dct_ok hc hu I st hd rx e1 e2 e3 q
/-- tuple(range(..)), the tuple's object known -/
def tTupRgK (te : L2.St → Hp → (Int → Int → Hp → Prop) → Prop) : TE := fun σ H Q => te σ H fun a b H1 => RgOk a b ∧ ∀ q its, H1 q = none → Q (.ref q) (upd H1 q (KTup its (rgV a b)))
theorem pe_tupRgK {e : Expr} {te : L2.St → Hp → (Int → Int → Hp → Prop) → Prop} {p pos : Pos} (hc : X.calm = true) (hg : Gl X "tuple") (hm : X.mg "tuple" = none) (he : PRg X e te) (na : starEach [e] X.env = (false, eval e X.env) :: starEach [] X.env := by rfl) : PE X (.Call (.Name "tuple" p) [e] [] pos) (tTupRgK te) := by
  refine ⟨fun pins s σ H Q I h => ?_⟩
  refine Call_ (ld_blt I hg hm boot_tuple (PyProof.Rows.callWith_type1 (args_cons (thn (he pins s σ H _ I h) fun x s1 ⟨r, a, b, t, u, v, H1, ex, hr, I1, ok, q⟩ => args_nil ?_) na) na))
  subst ex
  obtain ⟨b1, b2, b3, b4, b5⟩ := ok
  refine call_tuple_range (n := (b - a).toNat) (I1.ok.hd hc) hr (small_one b1 b2 b3 b4) (rangeSize_nat a b) b5 fun h' tk acc hk hi => ?_
  have I2 : Inv X pins σ H1 { s1 with heap := h', toks := tk } := I1.kept hk
  refine ⟨.ref h'.objs.size, upd H1 h'.objs.size (KTup acc.toList (rgV a b)), I2.laid (t' := tk) (fun c o e => Heap.get?_push_of_some _ e) (Nat.le_refl _) (ktup_ok ?_ ?_ (vals_rg hi)), rfl, q _ _ (I2.hok.fresh (Nat.le_refl _))⟩
  · rw [Heap.get?_push_size _ rfl]
  · rw [rgV_length, sizeLine_eq]; omega
end
end Z

set_option Elab.async false
set_option linter.all false
set_option maxRecDepth 100000
/-! Z7: readings by the evaluator; the checker of expressions. -/
namespace Z
open PySem PySem.Spec PyProof.Rows L2

abbrev Ev := Env → Sto → Option (W × Sto)
section
variable (K : PySem.W.Frag) (mg : Str → Option Value)
def tW (f : Ev) : TE := fun σ H Q => ∃ φ ρ S w S', EnvOk K mg φ H σ ρ ∧ StOk K mg φ S H ∧ f ρ S = some (w, S') ∧
  ∀ v φ' H', Evo φ H φ' H' → StOk K mg φ' S' H' → DenW K mg φ' H' v w → FrW H v w → Q v H'
def tT (f : Env → Sto → Option (Bool × Sto)) : TT := fun σ H Q => ∃ φ ρ S b S', EnvOk K mg φ H σ ρ ∧ StOk K mg φ S H ∧ f ρ S = some (b, S') ∧
  ∀ φ' H', Evo φ H φ' H' → StOk K mg φ' S' H' → Q b H'
def tAs (f : Env → Sto → Option (List W × Sto)) : TA := fun σ H Q => ∃ φ ρ S ws S', EnvOk K mg φ H σ ρ ∧ StOk K mg φ S H ∧ f ρ S = some (ws, S') ∧
  ∀ vs φ' H', Evo φ H φ' H' → StOk K mg φ' S' H' → DenWs K mg φ' H' vs ws → FrWs H vs ws → Q vs H'
def tO (f : Env → Sto → Option (Option Int × Sto)) : TO := fun σ H Q => ∃ φ ρ S o S', EnvOk K mg φ H σ ρ ∧ StOk K mg φ S H ∧ f ρ S = some (o, S') ∧
  ∀ φ' H', Evo φ H φ' H' → StOk K mg φ' S' H' → Q o H'
end
theorem PE.imp {X : Cx} {e : Expr} {t t' : TE} (h : PE X e t) (hi : ∀ σ H Q, t' σ H Q → t σ H Q) : PE X e t' := ⟨fun pins s σ H Q I hw => h.run pins s σ H Q I (hi _ _ _ hw)⟩
theorem PT.imp {X : Cx} {e : Expr} {t t' : TT} (h : PT X e t) (hi : ∀ σ H Q, t' σ H Q → t σ H Q) : PT X e t' := ⟨fun pins s σ H Q I hw => h.run pins s σ H Q I (hi _ _ _ hw)⟩
theorem PW.imp {X : Cx} {e : Expr} {t t' : TT} (h : PW X e t) (hi : ∀ σ H Q, t' σ H Q → t σ H Q) : PW X e t' := ⟨fun wh pins s σ H Q I hw => h.run wh pins s σ H Q I (hi _ _ _ hw)⟩
theorem PA.imp {X : Cx} {e : List Expr} {t t' : TA} (h : PA X e t) (hi : ∀ σ H Q, t' σ H Q → t σ H Q) : PA X e t' := ⟨fun pos pins s σ H Q I hw => h.run pos pins s σ H Q I (hi _ _ _ hw)⟩
theorem PO.imp {X : Cx} {e : Option Expr} {t t' : TO} (h : PO X e t) (hi : ∀ σ H Q, t' σ H Q → t σ H Q) : PO X e t' := ⟨fun pins s σ H Q I hw => h.run pins s σ H Q I (hi _ _ _ hw)⟩
theorem PTs.imp {X : Cx} {e : List Expr} {t t' : TT} (h : PTs X e t) (hi : ∀ σ H Q, t' σ H Q → t σ H Q) : PTs X e t' := ⟨fun pins s σ H Q I hw => h.run pins s σ H Q I (hi _ _ _ hw)⟩
theorem PI.imp {X : Cx} {tg e : Expr} {t t' : TI} (h : PI X tg e t) (hi : ∀ σ H Q, t' σ H Q → t σ H Q) : PI X tg e t' := ⟨fun pins s σ H Q I hw => h.run pins s σ H Q I (hi _ _ _ hw)⟩
theorem PI.or {X : Cx} {tg e : Expr} {t t' : TI} (h : PI X tg e t) (h' : PI X tg e t') : PI X tg e (fun σ H R => t σ H R ∨ t' σ H R) := ⟨fun pins s σ H R I hw => by
  rcases hw with hw | hw
  · exact h.run pins s σ H R I hw
  · exact h'.run pins s σ H R I hw⟩

section
variable {K : PySem.W.Frag} {mg : Str → Option Value} {σ : L2.St} {H : Hp} {Q : VK}
def ev2 (fa fb : Ev) (g : Sto → W → W → Option W) : Ev := fun ρ S => match fa ρ S with
  | none => none
  | some (x, S1) => match fb ρ S1 with
    | none => none
    | some (y, S2) => (g S2 x y).map fun z => (z, S2)
theorem tW_op {r : R2} {fa fb : Ev} {g : Sto → W → W → Option W}
    (hr : ∀ v u H Q φ S x y z, StOk K mg φ S H → DenW K mg φ H v x → DenW K mg φ H u y → g S x y = some z → Kont K mg φ S H z Q → r v u H Q)
    (h : tW K mg (ev2 fa fb g) σ H Q) : tOp r (tW K mg fa) (tW K mg fb) σ H Q := by
  obtain ⟨φ, ρ, S, w, S', he, hs, hf, k⟩ := h
  unfold ev2 at hf
  cases h1 : fa ρ S with
  | none => rw [h1] at hf; cases hf
  | some p =>
    obtain ⟨x, S1⟩ := p
    rw [h1] at hf
    simp only at hf
    cases h2 : fb ρ S1 with
    | none => rw [h2] at hf; cases hf
    | some q =>
      obtain ⟨y, S2⟩ := q
      rw [h2] at hf
      simp only at hf
      cases h3 : g S2 x y with
      | none => rw [h3] at hf; cases hf
      | some z =>
        rw [h3] at hf
        cases hf
        refine ⟨φ, ρ, S, x, S1, he, hs, h1, fun v φ1 H1 e1 s1 d1 f1 => ⟨φ1, ρ, S1, y, S', he.evo e1, s1, h2, fun u φ2 H2 e2 s2 d2 f2 => ?_⟩⟩
        exact hr v u H2 Q φ2 S' x y w s2 (d1.evo e2) d2 h3 fun t H' e3 s3 d3 f3 => k t φ2 H' ((e1.trans e2).trans e3) s3 d3 (f3.back fun a ha => e1.thr a (e2.thr a ha))
/-- a value's test -/
theorem tT_tru {fa : Ev} {Q : Bool → Hp → Prop} (h : tT K mg (fun ρ S => match fa ρ S with | none => none | some (w, S1) => (truW S1 w).map fun b => (b, S1)) σ H Q) :
    tW K mg fa σ H fun x H1 => ∃ k, TruV K x H1 k ∧ Q k H1 := by
  obtain ⟨φ, ρ, S, w, S', he, hs, hf, k⟩ := h
  simp only at hf
  cases h1 : fa ρ S with
  | none => rw [h1] at hf; cases hf
  | some p =>
    obtain ⟨x, S1⟩ := p
    rw [h1] at hf
    simp only at hf
    cases h3 : truW S1 x with
    | none => rw [h3] at hf; cases hf
    | some z =>
      rw [h3] at hf
      cases hf
      exact ⟨φ, ρ, S, x, _, he, hs, h1, fun v φ1 H1 e1 s1 d1 f1 => ⟨_, tru_of s1 d1 h3, k φ1 H1 e1 s1⟩⟩
end

/-! ### the checker -/
def lineOk (a b : Pos) : Bool := a.endLine == b.line
def ownOk (own : List (Str × Nat)) (p : P) : Bool := (psl p).all fun i => decide (i ∈ own.map (·.2))
/-- names for the built-ins -/
def rgName : Str := "range"
def enName : Str := "enumerate"
def zpName : Str := "zip"
def ltName : Str := "list"
def tpName : Str := "tuple"
def dtName : Str := "dict"
def srName : Str := "sorted"
/-- the keys of a display -/
def okKs : List Key → List (Option Expr) → Bool
  | [], l => match l with
    | [] => true
    | _ => false
  | .inl i :: r, l => match l with
    | some (.Constant (.int j) _ _) :: l => decide (i = j) && okKs r l
    | _ => false
  | .inr i :: r, l => match l with
    | some (.Constant (.str j) _ _) :: l => decide (i = j) && okKs r l
    | _ => false
mutual
def okE (T : Tab) (N : List Str) : E → Scope → Expr → Bool
  | .disp ks as, sc, e0 => match e0 with
    | .Dict keys vals _ => okKs ks keys && okA T N as sc vals && decide (ks.length = vals.length) && decide (ks.length ≤ 15) && !ks.isEmpty
    | _ => false
  | .var i x, sc, e0 => match e0 with
    | .Name y _ => decide (x = y) && varB N sc i x
    | _ => false
  | .cI i, _, e0 => match e0 with
    | .Constant (.int j) _ _ => decide (i = j)
    | _ => false
  | .cB b, _, e0 => match e0 with
    | .Constant (.bool c) _ _ => decide (b = c)
    | _ => false
  | .cN, _, e0 => match e0 with
    | .Constant .none _ _ => true
    | _ => false
  | .cS x, _, e0 => match e0 with
    | .Constant (.str y) _ _ => decide (x = y)
    | _ => false
  | .glob x, sc, e0 => match e0 with
    | .Name y _ => decide (x = y) && glB sc x && dunderB x && (T.globs.lookup x).isSome
    | _ => false
  | .bin o a b, sc, e0 => match e0 with
    | .BinOp x p y _ => decide (p = opOf o) && okE T N a sc x && okE T N b sc y
    | _ => false
  | .neg a, sc, e0 => match e0 with
    | .UnaryOp .USub x _ => okE T N a sc x
    | _ => false
  | .cmp o a b, sc, e0 => match e0 with
    | .Compare x [p] [y] _ => decide (p = cpOf o) && noSet y && okE T N a sc x && okE T N b sc y
    | _ => false
  | .chn o1 o2 a b c, sc, e0 => match e0 with
    | .Compare x [p1, p2] [y, z] _ => decide (p1 = cpOf o1) && decide (p2 = cpOf o2) && noSet z && okE T N a sc x && okE T N b sc y && okE T N c sc z
    | _ => false
  | .not a, sc, e0 => match e0 with
    | .UnaryOp .Not x _ => okE T N a sc x
    | _ => false
  | .and as, sc, e0 => match e0 with
    | .BoolOp .And es _ => okA T N as sc es
    | _ => false
  | .or as, sc, e0 => match e0 with
    | .BoolOp .Or es _ => okA T N as sc es
    | _ => false
  | .ite t a b, sc, e0 => match e0 with
    | .IfExp x y z _ => okT T N t sc x && okE T N a sc y && okE T N b sc z
    | _ => false
  | .tup as, sc, e0 => match e0 with
    | .Tuple es _ _ => okA T N as sc es
    | _ => false
  | .lst as, sc, e0 => match e0 with
    | .List es _ => okA T N as sc es
    | _ => false
  | .ix a i, sc, e0 => match e0 with
    | .Subscript x y _ => noSlc y && okE T N a sc x && okE T N i sc y
    | _ => false
  | .dget a i, sc, e0 => match e0 with
    | .Subscript x y _ => noSlc y && okE T N a sc x && okE T N i sc y
    | _ => false
  | .slc a lo hi, sc, e0 => match e0 with
    | .Subscript x (.Slice l h none _) _ => okE T N a sc x && okO T N lo sc l && okO T N hi sc h
    | _ => false
  | .rev a, sc, e0 => match e0 with
    | .Subscript x (.Slice none none (some (.UnaryOp .USub (.Constant (.int z) _ _) _)) _) _ => decide (z = 1) && okE T N a sc x
    | _ => false
  | .call f as, sc, e0 => match e0 with
    | .Call (.Name g _) es [] _ => decide (f = g) && glB sc f && dunderB f && decide (T.defs.lookup f = some es.length) && okA T N as sc es && !es.isEmpty
    | _ => false
  | .lcall i x as, sc, e0 => match e0 with
    | .Call (.Name g _) es [] _ => decide (x = g) && varB N sc i x && okA T N as sc es && !es.isEmpty
    | _ => false
  | .bi b as, sc, e0 => match e0 with
    | .Call (.Name g _) es [] _ => decide (g = Str.ofString (biName b)) && glB sc g && dunderB g && decide (g ∈ T.blts) && okA T N as sc es && !es.isEmpty
    | _ => false
  | .lc own elt p it tst, sc, e0 => match e0 with
    | .ListComp x [⟨tg, iter, ifs, asy⟩] scope _ => decide (asy = 0) && blkC N sc scope own && ownOk own p && noSet iter && okI T N it sc iter && okP N (cellB scope) (relS scope sc) p tg && okC T N tst (relS scope sc) ifs && okE T N elt (relS scope sc) x && (match tg with | .Tuple _ _ _ => true | _ => !needTup it)
    | _ => false
  | .app o e, sc, e0 => match e0 with
    | .Call (.Attribute x nm ap) [y] [] cp => decide (nm = "append") && recvOk x && noStar y && lineOk ap cp && okE T N o sc x && okE T N e sc y
    | _ => false
  | .mth m o as, sc, e0 => match e0 with
    | .Call (.Attribute x nm ap) es [] cp => decide (nm = mtName m) && recvOk x && lineOk ap cp && decide (es.length = mtAr m) && okE T N o sc x && okA T N as sc es
    | _ => false
  | .chn3 o1 o2 o3 a b c d, sc, e0 => match e0 with
    | .Compare x [p1, p2, p3] [y, z, u] _ => decide (p1 = cpOf o1) && decide (p2 = cpOf o2) && decide (p3 = cpOf o3) && noSet u && okE T N a sc x && okE T N b sc y && okE T N c sc z && okE T N d sc u
    | _ => false
  | .dnew _, _, e0 => match e0 with
    | .Dict [] [] _ => true
    | _ => false
  | .ddisp k v, sc, e0 => match e0 with
    | .Dict [some x] [y] _ => okE T N k sc x && okE T N v sc y
    | _ => false
  | .lrng tp as, sc, e0 => match e0 with
    | .Call (.Name g _) [.Call (.Name r _) es [] _] [] _ => decide (g = if tp then tpName else ltName) && glB sc g && decide ((if tp then tpName else ltName) ∈ T.blts) && decide (r = rgName) && glB sc r && decide (rgName ∈ T.blts) && okA T N as sc es && (decide (es.length = 1) || decide (es.length = 2))
    | _ => false
  | .dct _ a, sc, e0 => match e0 with
    | .Call (.Name g _) [x] [] _ => decide (g = dtName) && glB sc g && decide (dtName ∈ T.blts) && noStar x && okE T N a sc x
    | _ => false
  | .sitm a, sc, e0 => match e0 with
    | .Call (.Name g _) [.Call (.Attribute x nm ap) [] [] cp] [] _ => decide (g = srName) && glB sc g && decide (srName ∈ T.blts) && decide (nm = "items") && recvOk x && lineOk ap cp && okE T N a sc x
    | _ => false
  | _, _, _ => false
def okT (T : Tab) (N : List Str) : E → Scope → Expr → Bool
  | .not a, sc, e0 => match e0 with
    | .UnaryOp .Not x _ => okT T N a sc x
    | _ => false
  | .and as, sc, e0 => match e0 with
    | .BoolOp .And es _ => okTs T N as sc es && !es.isEmpty
    | _ => false
  | .or as, sc, e0 => match e0 with
    | .BoolOp .Or es _ => okTs T N as sc es && !es.isEmpty
    | _ => false
  | .cmp o a b, sc, e0 => match e0 with
    | .Compare x [p] [y] _ => decide (p = cpOf o) && noSet y && okE T N a sc x && okE T N b sc y
    | _ => false
  | .chn o1 o2 a b c, sc, e0 => match e0 with
    | .Compare x [p1, p2] [y, z] _ => decide (p1 = cpOf o1) && decide (p2 = cpOf o2) && noSet z && okE T N a sc x && okE T N b sc y && okE T N c sc z
    | _ => false
  | .chn3 o1 o2 o3 a b c d, sc, e0 => match e0 with
    | .Compare x [p1, p2, p3] [y, z, u] _ => decide (p1 = cpOf o1) && decide (p2 = cpOf o2) && decide (p3 = cpOf o3) && noSet u && okE T N a sc x && okE T N b sc y && okE T N c sc z && okE T N d sc u
    | _ => false
  | .tst a, sc, e => plainT e && okE T N a sc e
  | _, _, _ => false
def okTs (T : Tab) (N : List Str) : E → Scope → List Expr → Bool
  | .nil, _, e0 => match e0 with
    | [] => true
    | _ => false
  | .cons a as, sc, e0 => match e0 with
    | e :: es => okT T N a sc e && okTs T N as sc es
    | _ => false
  | _, _, _ => false
def okA (T : Tab) (N : List Str) : E → Scope → List Expr → Bool
  | .nil, _, e0 => match e0 with
    | [] => true
    | _ => false
  | .cons a as, sc, e0 => match e0 with
    | e :: es => noStar e && okE T N a sc e && okA T N as sc es
    | _ => false
  | _, _, _ => false
def okO (T : Tab) (N : List Str) : E → Scope → Option Expr → Bool
  | .nil, _, e0 => match e0 with
    | none => true
    | _ => false
  | .cons a _, sc, e0 => match e0 with
    | some e => okE T N a sc e
    | _ => false
  | _, _, _ => false
def okC (T : Tab) (N : List Str) : E → Scope → List Expr → Bool
  | .nil, _, e0 => match e0 with
    | [] => true
    | _ => false
  | .cons a _, sc, e0 => match e0 with
    | [e] => okT T N a sc e
    | _ => false
  | _, _, _ => false
def okI (T : Tab) (N : List Str) : E → Scope → Expr → Bool
  | .rng as, sc, e0 => match e0 with
    | .Call (.Name g _) es [] _ => decide (g = rgName) && glB sc g && decide (rgName ∈ T.blts) && okA T N as sc es && (decide (es.length = 1) || decide (es.length = 2) || decide (es.length = 3))
    | _ => false
  | .enm a, sc, e0 => match e0 with
    | .Call (.Name g _) [e] [] _ => decide (g = enName) && glB sc g && decide (enName ∈ T.blts) && noStar e && okE T N a sc e
    | _ => false
  | .zip a b, sc, e0 => match e0 with
    | .Call (.Name g _) [e, f] [] _ => decide (g = zpName) && glB sc g && decide (zpName ∈ T.blts) && noStar e && noStar f && okE T N a sc e && okE T N b sc f
    | _ => false
  | .cons a .nil, sc, e => okE T N a sc e
  | _, _, _ => false
/-- enumerate and zip want a tuple as the target -/
def needTup : E → Bool
  | .enm _ => true
  | .zip _ _ => true
  | _ => false
end
end Z

set_option Elab.async false
set_option linter.all false
set_option maxRecDepth 100000
/-! ZE: enumerate over a tuple. -/
namespace ZE
open PySem PySem.Spec PyProof.Rows L2
open PySem.AutoSeq1 (wpAny_loadPart')

theorem meets_enumerate_newT (l : Addr) (items : Array Value) (n : Nat) (dct : Option Addr) (sl : Array (Option Value)) :
    Meets (Builtin.«enumerate.__new__» ⟨[.type "enumerate", .ref l], []⟩) (fun _ R s => s.heap.get? l = some { cls := .type "tuple", dict := dct, data := .seq items n, slots := sl } ∧
      R (.ok (.ret (.ref (s.heap.push { cls := .type "tuple_iterator", data := .fields #[.ref l, .int 0 0] }).objs.size)))
        { s with heap := (s.heap.push { cls := .type "tuple_iterator", data := .fields #[.ref l, .int 0 0] }).push { cls := .type "enumerate", data := .fields #[.none, .bool false, .ref s.heap.objs.size, rawInt 0, .none, .none] } }) :=
  .of_wp fun prog w A R s h => by
    obtain ⟨hp, g, d, tk, os⟩ := s; obtain ⟨hl, h⟩ := h
    have hsub := sub_enumerate
    have hL : Heap.IsTuple (Shared.heap ⟨hp, g, d, tk, os⟩) l items := ⟨_, hl, rfl, n, rfl⟩
    wp_walk using wpAny_loadPart' hl
    refine wpAny_stack_any fun st => wpAny_pure ?_
    split
    · rename_i c _ _ _ _ _
      cases (c == Value.type "enumerate")
      · wp_walk using wpAny_loadPart' hl, wpAny_pyIter_tuple hL
        exact ⟨_, rfl, h⟩
      · wp_walk using wpAny_loadPart' hl, wpAny_pyIter_tuple hL
        exact ⟨_, rfl, h⟩
    · wp_walk using wpAny_loadPart' hl, wpAny_pyIter_tuple hL
      exact ⟨_, rfl, h⟩
section
variable {prog : Program} {w : World} {A : Around} {E : Value → Shared → Prop} {s : Shared}
theorem call_enumerate_tuple {l : Addr} {items : Array Value} {Q : Value → Shared → Prop} (hL : s.heap.IsTuple l items)
    (h : ∀ h', IsEnum h' (s.heap.objs.size + 1) s.heap.objs.size 0 .none → h'.IsTupleIter s.heap.objs.size l 0 → h'.objs.size = s.heap.objs.size + 2 →
      (∀ b o, s.heap.get? b = some o → h'.get? b = some o) → Q (.ref (s.heap.objs.size + 1)) { s with heap := h' }) :
    wpAny (model prog w) A (call (.type "enumerate") [.ref l]) Q E s := by
  obtain ⟨⟨c, dct, dt, sl⟩, hl, hc, n, hd⟩ := hL
  replace hc : c = .type "tuple" := hc
  replace hd : dt = .seq items n := hd
  subst hc hd
  refine callType_new F.called_enumerate (by decide) (F.typeCall_enumerate_1 _) (F.newCall_enumerate_1 _) (fun obj => F.args_object_init_2 obj _) F.entry_enumerate_new
    (meets_enumerate_newT l items n dct sl) ⟨hl, ?_⟩
  have hz : (s.heap.push { cls := .type "tuple_iterator", data := .fields #[.ref l, .int 0 0] }).objs.size = s.heap.objs.size + 1 := Heap.size_push ..
  show _ ∧ _
  rw [hz]
  have he : IsEnum ((s.heap.push { cls := .type "tuple_iterator", data := .fields #[.ref l, .int 0 0] }).push
      { cls := .type "enumerate", data := .fields #[.none, .bool false, .ref s.heap.objs.size, rawInt 0, .none, .none] }) (s.heap.objs.size + 1) s.heap.objs.size 0 .none := by
    have := Heap.get?_push_size (s.heap.push { cls := .type "tuple_iterator", data := .fields #[.ref l, .int 0 0] })
      (o := { cls := .type "enumerate", data := .fields #[.none, .bool false, .ref s.heap.objs.size, rawInt 0, .none, .none] }) rfl
    rw [hz] at this; exact this
  refine ⟨⟨_, he, rfl⟩, h _ he ⟨_, Heap.get?_push_of_some _ (Heap.get?_push_size _ rfl), rfl, rfl⟩ (by rw [Heap.size_push, hz]) fun b o x => Heap.get?_push_of_some _ (Heap.get?_push_of_some _ x)⟩
end
theorem drawsTuple {prog : Program} {w : World} {A : Around} (hh : A.handled = none) (it l : Addr) (hne : l ≠ it) (items : Array Value) :
    Draws prog w A it [it, l] items.size (fun i v => items[i]? = some v) (fun i h => h.IsTupleIter it l i ∧ h.IsTuple l items) where
  live := fun _ _ st => let ⟨o, ho, _⟩ := st.1; ⟨o, ho⟩
  frame := fun _ _ _ st hk => ⟨let ⟨o, ho, r⟩ := st.1; ⟨o, hk it (by simp) o ho, r⟩, let ⟨o, ho, r⟩ := st.2; ⟨o, hk l (by simp) o ho, r⟩⟩
  item := fun i s Q E hi st hQ => by
    refine RZ.nextOf_tuple_item st.1 st.2 (x := items[i]) (by simp [hi]) fun h' hit' hs' => ?_
    exact hQ _ h' s.toks (by simp [hi]) ⟨hit', st.2.extBut hs'.extBut hne⟩ hs'
  done := fun s Q E st hE => RZ.nextOf_tuple_end hh st.1 st.2 (by simp) hE
/-- the tuple at a, each item in a new pair -/
def IteT (K : PySem.W.Frag) (a : Addr) : It :=
  ⟨fun i H => ∃ (xs : List V) (x : V), SqT K H a xs ∧ xs[i]? = some x, fun i H v H' => ∃ T x, v = .ref T ∧ H T = none ∧ H' = upd H T (.tup [.int (i : Nat), x]) ∧ ∀ xs, SqT K H a xs → xs[i]? = some x, fun i H => ∃ xs : List V, SqT K H a xs ∧ xs.length = i⟩
theorem cls_ne {h : Heap} {a b : Addr} {o o' : Obj} {c c' : Value} (h1 : h.get? a = some o) (h2 : h.get? b = some o') (e1 : o.cls = c) (e2 : o'.cls = c') (n : c ≠ c') : a ≠ b := fun z => by
  subst z
  rw [h1] at h2
  cases h2
  exact n (e1.symm.trans e2)
theorem turn_enumT {P : Program} {w : World} {K : PySem.W.Frag} {elts : List Expr} {kk : Nat} {tpos : Pos} (a e it : Addr) :
    Turn P w K (.Tuple elts kk tpos) (IteT K a) [e, it] e (fun i h => (∃ old, IsEnum h e it ((i : Nat) : Int) old) ∧ h.IsTupleIter it a i ∧ e ≠ it) where
  mem := by simp
  obj := fun i h st b hb => by
    obtain ⟨⟨old, he⟩, ⟨o, ho, hc, hd⟩, _⟩ := st
    have e' : b = e ∨ b = it := by simpa using hb
    rcases e' with z | z
    · rw [z]; exact ⟨_, he, fun v q => nomatch q⟩
    · rw [z]; exact ⟨o, ho, fun v q => by rw [hd] at q; cases q⟩
  keep := fun i h h' st k => let ⟨⟨old, he⟩, ⟨o, ho, r⟩, hne⟩ := st; ⟨⟨old, k e (by simp) _ he⟩, ⟨o, k it (by simp) o ho, r⟩, hne⟩
  item := by
    intro X hP hw hK hc i pins s σ H E I hf st hg
    subst hP hw hK
    obtain ⟨⟨old, he⟩, hit, hne⟩ := st
    obtain ⟨xs, x, hq, hx⟩ := hg
    obtain ⟨its, rv, p, hz⟩ := I.tuple hq
    obtain ⟨u, hu, ru⟩ := rv.get hx
    have hel : e < s.heap.objs.size := Heap.lt_size he
    have hil : it < s.heap.objs.size := by obtain ⟨_, q, _⟩ := hit; exact Heap.lt_size q
    have hT : s.heap.IsTuple a its.toArray := p
    have hai : a ≠ it := by
      obtain ⟨o, h1, h2, _⟩ := hT
      obtain ⟨o', h3, h4, _⟩ := hit
      exact cls_ne h1 h3 h2 h4 (by decide)
    have hea : e ≠ a := by
      obtain ⟨o, h1, h2, _⟩ := hT
      exact cls_ne (c := .type "enumerate") he h1 rfl h2 (by decide)
    have hlt : i < its.toArray.size := by
      rw [List.size_toArray]
      rcases Nat.lt_or_ge i its.length with z | z
      · exact z
      · rw [List.getElem?_eq_none z] at hu; cases hu
    refine wpAny_pyNext_enum_itemD (drawsTuple (A := X.A.in1) (I.ok.hd hc) it a hai its.toArray) he ⟨hit, hT⟩ hlt hne (by simp [hne, hea]) fun x' h' tk hPx ho hit' hT1 hsz hk => ?_
    have hx' : x' = u := by
      have q : its.toArray[i]? = some x' := hPx
      have q2 : its.toArray[i]? = some u := by simpa using hu
      rw [q2] at q
      exact (Option.some.inj q).symm
    subst hx'
    refine ⟨_, rfl, wpAny_letOwnedTupleGo_enum (s := { s with heap := h', toks := tk + 1 }) ho fun h'' he' sb => ?_⟩
    have hT2 : h''.get? s.heap.objs.size = some { cls := .type "tuple", data := .seq #[.int i tk, x'] } := (sb.2 _ (Nat.ne_of_gt hel)).trans hT1
    have new : ObjOk X.prog X.w (upd H s.heap.objs.size (.tup [.int (i : Nat), x])) h'' s.heap.objs.size (.tup [.int (i : Nat), x]) :=
      ⟨by show 2 ≤ sizeLine; decide, [.int i tk, x'], .cons ⟨_, rfl⟩ (.cons ru .nil), ⟨_, hT2, rfl, _, rfl⟩⟩
    have I1 : Inv X pins σ (upd H s.heap.objs.size (.tup [.int (i : Nat), x])) { s with heap := h'', toks := tk + 1 } :=
      I.turnedNew (ch := [e, it]) (fun b ob hb q => (sb.2 b (fun z => hb (by simp [z]))).trans (hk b ob (fun z => hb (by simp [z])) (fun z => hb (by simp [z])) q)) hf (Nat.le_refl _) new
    refine ⟨.ref s.heap.objs.size, _, I1, rfl, ⟨_, x, rfl, I.hok.fresh (Nat.le_refl _), rfl, fun ys hy => by rw [I.tuple_inj hy hq]; exact hx⟩, ⟨⟨x', ?_⟩, ?_, hne⟩, fun b hb => ?_⟩
    · have e1 : ((i + 1 : Nat) : Int) = (i : Int) + 1 := by omega
      rw [e1]; exact he'
    · obtain ⟨o, q1, q2⟩ := hit'.1
      exact ⟨o, (sb.2 it (Ne.symm hne)).trans q1, q2⟩
    · have hb' : b < s.heap.objs.size := by
        have e' : b = e ∨ b = it := by simpa using hb
        rcases e' with z | z
        · rw [z]; exact hel
        · rw [z]; exact hil
      rw [upd_ne (Nat.ne_of_lt hb')]
      exact (hf b hb).1
  done := by
    intro X hP hw hK hc i pins s σ H E I hf st hg
    subst hP hw hK
    obtain ⟨⟨old, he⟩, hit, hne⟩ := st
    obtain ⟨xs, hq, hx⟩ := hg
    obtain ⟨its, rv, p, hz⟩ := I.tuple hq
    obtain ⟨f0, f1, f2, f3, f4, f5⟩ := hf it (by simp)
    have hT : s.heap.IsTuple a its.toArray := p
    have hai : a ≠ it := by
      obtain ⟨o, h1, h2, _⟩ := hT
      obtain ⟨o', h3, h4, _⟩ := hit
      exact cls_ne h1 h3 h2 h4 (by decide)
    have hl : its.toArray.size = i := by rw [List.size_toArray, ← rv.length, hx]
    exact wpAny_pyNext_enum_endD (drawsTuple (A := X.A.in1) (I.ok.hd hc) it a hai its.toArray) he (by rw [hl]; exact ⟨hit, hT⟩) fun h' eb => ⟨rfl, I.turned (t' := s.toks) (fun b o hb q => eb b o hb q) f0 f1 f3 f4 f5⟩
  self := fun A i s Q E st h => let ⟨⟨_, he⟩, _⟩ := st; wpAny_pyIter_enum he h
def iEnumT (K : PySem.W.Frag) (ta : TA) : TI := fun σ H R => ta σ H fun vs H1 => ∃ a xs, vs = [.ref a] ∧ SqT K H1 a xs ∧ R (IteT K a) H1
theorem pi_enumT {X : Cx} {e : Expr} {ta : TA} {p pos tpos : Pos} {elts : List Expr} {kk : Nat} (hg : Gl X "enumerate") (hm : X.mg "enumerate" = none) (ha : PA X [e] ta) (hs : starEach [e] X.env = [(false, eval e X.env)] := by rfl) :
    PI X (.Tuple elts kk tpos) (.Call (.Name "enumerate" p) [e] [] pos) (iEnumT X.K ta) := by
  refine ⟨fun pins s σ H R I h => ?_⟩
  refine Call_ (ld_blt I hg hm boot_enumerate (PyProof.Rows.callWith_type1 (thn (ha.run pos pins s σ H _ I h) fun us s1 ⟨vs, H1, I1, r1, q1⟩ => ?_) hs rfl))
  obtain ⟨a, xs, ex, hq, q⟩ := q1
  subst ex
  cases r1 with
  | cons r rr =>
    cases rr
    cases r
    obtain ⟨its, rv, p', hz⟩ := I1.tuple hq
    refine call_enumerate_tuple (show s1.heap.IsTuple a its.toArray from p') fun h' he hit hsz hk => wpAny_pyIter_enum he ?_
    have I2 : Inv X pins σ H1 { s1 with heap := h' } := I1.kept (t' := s1.toks) hk
    refine ⟨s1.heap.objs.size + 1, [s1.heap.objs.size + 1, s1.heap.objs.size], _, _, H1, rfl, I2, turn_enumT a (s1.heap.objs.size + 1) s1.heap.objs.size, ⟨⟨.none, he⟩, hit, Nat.succ_ne_self _⟩, fun b hb => ?_, q⟩
    have e' : b = s1.heap.objs.size + 1 ∨ b = s1.heap.objs.size := by simpa using hb
    have hle : s1.heap.objs.size ≤ b := by
      rcases e' with z | z
      · rw [z]; exact Nat.le_add_right _ _
      · rw [z]; exact Nat.le_refl _
    exact I1.fpOk hle (I1.hok.fresh hle)
end ZE

set_option Elab.async false
set_option linter.all false
set_option maxRecDepth 100000
/-! ZR: t[::-1] of a tuple. -/
namespace ZR
open PySem PySem.Spec PyProof.Rows L2 HT
section
variable {prog : Program} {w : World} {A : Around} {E : Value → Shared → Prop} {s : Shared}
theorem adjust_rev (n : Nat) : Builtin.Slice.sliceAdjust none none (-1) (n : Int) = ((n : Int) - 1, -1) := by
  unfold Builtin.Slice.sliceAdjust
  rfl
theorem places_rev (n : Nat) : Builtin.Slice.slicePlaces ((n : Int) - 1) (-1) (-1) = n := by
  unfold Builtin.Slice.slicePlaces
  have h1 : ¬ ((-1 : Int) > 0) := by decide
  simp only [h1, if_false]
  by_cases h : (n : Int) - 1 > -1
  · rw [if_pos h, show (- -1 : Int) = 1 by decide, Int.ediv_one]
    omega
  · rw [if_neg h]
    omega
theorem sliceApplied_rev {sl : Addr} {u : Tok} {n : Nat} {Q : Int × Int × Nat → Shared → Prop} (hs : s.heap.IsSliceOf sl .none .none (.int (-1) u))
    (h : Q ((n : Int) - 1, -1, n) s) : wpAny (model prog w) A (Builtin.Slice.sliceApplied (.ref sl) (pure (n : Int))) Q E s := by
  obtain ⟨os, hos, hcs, hds⟩ := id hs
  unfold Builtin.Slice.sliceApplied Builtin.Slice.sliceFields
  refine wpAny_bind (wpAny_bind (wpAny_field hos hds (x := .none) rfl (wpAny_bind (wpAny_field hos hds (x := .none) rfl (wpAny_bind (wpAny_field hos hds (x := .int (-1) u) rfl (wpAny_pure ?_)))))))
  refine wpAny_bind (slicePart_int ?_)
  show wpAny _ _ (if ((-1 : Int) == 0) = true then _ else _) _ _ s
  rw [if_neg (by decide)]
  refine wpAny_bind (slicePart_none (wpAny_bind (slicePart_none (wpAny_bind (wpAny_pure ?_)))))
  show wpAny _ _ (match Builtin.Slice.sliceAdjust none none (-1) (n : Int) with | (lo, hi) => pure (lo, (-1 : Int), Builtin.Slice.slicePlaces lo hi (-1))) _ _ s
  rw [adjust_rev]
  show wpAny _ _ (pure (((n : Int) - 1), (-1 : Int), Builtin.Slice.slicePlaces ((n : Int) - 1) (-1) (-1))) _ _ s
  rw [places_rev]
  exact wpAny_pure h
theorem pick_rev (xs : Array Value) : ((List.range xs.size).filterMap fun (m : Nat) => xs[(((xs.size : Int) - 1) + (m : Int) * (-1)).toNat]?).toArray = xs.toList.reverse.toArray := by
  have e : (fun (m : Nat) => xs[(((xs.size : Int) - 1) + (m : Int) * (-1)).toNat]?) = fun m => xs[xs.size - 1 - m]? := by
    funext m
    have : (((xs.size : Int) - 1) + (m : Int) * (-1)).toNat = xs.size - 1 - m := by omega
    rw [this]
  rw [e]
  have q : (List.range xs.size).filterMap (fun m => xs[xs.size - 1 - m]?) = ((List.range xs.size).map fun k => xs.size - 1 - k).filterMap (xs[·]?) := by
    rw [List.filterMap_map]
    rfl
  rw [q, PySem.W.krv_range, List.filterMap_reverse]
  have := PySem.W.krv_all xs
  rw [this]
theorem getItem_tuple_rev {t sl : Addr} {items : Array Value} {u : Tok} {Q : Value → Shared → Prop} (ht : IsTup s.heap t items) (hs : s.heap.IsSliceOf sl .none .none (.int (-1) u))
    (h : Q (.ref s.heap.objs.size) { s with heap := s.heap.push { cls := .type "tuple", data := .seq items.toList.reverse.toArray } })
    (hsz : items.size ≤ sizeLine) : wpAny (model prog w) A (getItem (.ref t) (.ref sl)) Q E s := by
  have htake : sizeOk (.seq items.toList.reverse.toArray) := by
    show items.toList.reverse.toArray.size ≤ sizeLine
    rw [List.size_toArray, List.length_reverse, Array.length_toList]
    exact hsz
  obtain ⟨os, hos, hcs, hds⟩ := id hs
  have hTs : s.TypeIs (.ref sl) "slice" := ⟨os, hos, hcs⟩
  unfold getItem
  try with_reducible refine wpAny_holding ?_
  first | refine wpAny_bind (wpAny_pure ?_) | skip
  refine wpAny_bind (wpAny_sequenceKey ht.typeIs (by decide) ?_)
  refine wpAny_bind (wpAny_callSpecial?_slot (name := Str.ofString "__getitem__") ht.typeIs PyProof.Rows.slot_tuple_getitem
    (wpAny_call_entry PyProof.Rows.slot_tuple_getitem ht.typeIs entry_tuple_getitem ?_ (args_tuple_getitem _ _)))
  show wpAny _ _ (Builtin.Tuple.tupleItemsOf (.ref t) >>= _) _ _ s
  refine wpAny_bind (tupleItemsOf_ ht ?_)
  refine wpAny_bind (wpAny_typeOf hTs ?_)
  rw [if_pos (by decide)]
  refine wpAny_bind (sliceApplied_rev hs ?_)
  have hno : ¬ ((((items.size : Int) - 1) == 0 && (-1 : Int) == 1 && items.size == items.size) = true) := by
    simp
  show wpAny _ _ (if ((((items.size : Int) - 1) == 0 && (-1 : Int) == 1 && items.size == items.size) = true) then _ else _) _ _ s
  rw [if_neg hno, pick_rev]
  first
    | exact wpAny_bind (m := Builtin.Tuple.tupleExact _) (wpAny_newObj_type (wpAny_pure ⟨_, rfl, wpAny_pure h⟩) htake)
    | exact wpAny_bind (m := Builtin.Tuple.tupleExact _) (wpAny_newObj_type (wpAny_bind (wpAny_pure (wpAny_pure ⟨_, rfl, wpAny_pure h⟩))) htake)
    | exact wpAny_bind (wpAny_bind (m := Builtin.Tuple.tupleExact _) (wpAny_newObj_type (wpAny_pure (wpAny_pure ⟨_, rfl, wpAny_pure h⟩)) htake))
    | exact wpAny_bind (wpAny_bind (m := Builtin.Tuple.tupleExact _) (wpAny_newObj_type (wpAny_pure ⟨_, rfl, wpAny_pure h⟩) htake))
end
def tRevT (K : PySem.W.Frag) (te : TE) : TE := fun σ H Q => te σ H fun x H1 => ∃ a xs, x = .ref a ∧ SqT K H1 a xs ∧ ∀ p its, H1 p = none → Q (.ref p) (upd H1 p (Z.KTup its xs.reverse))
theorem pe_revT {X : Cx} {e : Expr} {te : TE} {k : Nat} {p1 p2 p3 pos : Pos} (he : PE X e te) : PE X (.Subscript e (.Slice none none (some (.UnaryOp .USub (.Constant (.int 1) k p1) p2)) p3) pos) (tRevT X.K te) := by
  refine ⟨fun pins s σ H Q I h => ?_⟩
  refine Subscript_ (thn (he.run pins s σ H _ I h) fun v s1 ⟨x, H1, I1, r1, q1⟩ => ?_)
  obtain ⟨a, xs, ex, hx, q⟩ := q1
  subst ex
  cases r1
  have hst : PO X (some (.UnaryOp .USub (.Constant (.int 1) k p1) p2)) (tPart (tUn (rU fun i => .int (-i)) (tC (.int 1)))) := po_some (pe_un un_neg pe_int)
  refine wpAny_Slice (thn (po_none.run pins s1 σ H1 (fun o H2 => o = none ∧ H2 = H1) I1 ⟨rfl, rfl⟩) fun vl s2 ⟨l, H2, I2, pl, el, e2⟩ => ?_)
  subst el e2
  refine thn (po_none.run pins s2 σ H2 (fun o H3 => o = none ∧ H3 = H2) I2 ⟨rfl, rfl⟩) fun vu s3 ⟨u, H3, I3, pu, eu, e3⟩ => ?_
  subst eu e3
  refine thn (hst.run pins s3 σ H3 (fun o H4 => o = some (-1) ∧ H4 = H3) I3 ⟨1, rfl, -1, rfl, rfl, rfl⟩) fun vs s4 ⟨o, H4, I4, ps, eo, e4⟩ => ?_
  subst eo e4
  cases pl
  cases pu
  cases ps with
  | int i t =>
  have I5 : Inv X pins σ H4 { s4 with heap := s4.heap.push { cls := .type "slice", data := .fields #[.none, .none, .int (-1) t] } } := I4.kept (t' := s4.toks) fun b ob q => Heap.get?_push_of_some _ q
  obtain ⟨its, r, ht, hz⟩ := I5.tuple hx
  have hlen := r.length
  show wpAny (model X.prog X.w) X.A (subscriptTail e (.Slice none none (some (.UnaryOp .USub (.Constant (.int 1) k p1) p2)) p3) (.ref a) (.ref s4.heap.objs.size)) (EP X pins σ Q) X.xe { s4 with heap := s4.heap.push { cls := .type "slice", data := .fields #[.none, .none, .int (-1) t] } }
  refine tail_any (ops := [.ref a, .ref s4.heap.objs.size]) ht.typeIs (PyProof.Rows.slot_tuple_getitem.lookup) ?_ (by with_unfolding_all rfl)
  refine getItem_tuple_rev ht (Heap.IsSliceOf.new _ .none .none (.int (-1) t)) ?_ (by rw [List.size_toArray]; omega)
  refine ⟨.ref _, _, I5.laid (t' := s4.toks) (o := Z.KTup its.reverse xs.reverse) (fun b ob q => Heap.get?_push_of_some _ q) (Nat.le_refl _) ?_, rfl, q _ _ (I5.hok.fresh (Nat.le_refl _))⟩
  exact Z.ktup_ok (Heap.get?_push_size _ rfl) (by rw [List.length_reverse]; exact hz) r.reverse
end ZR

set_option Elab.async false
set_option linter.all false
set_option maxRecDepth 100000
/-! Z8: what is walked. -/
namespace Z
open PySem PySem.Spec PyProof.Rows L2

section
variable (K : PySem.W.Frag) (mg : Str → Option Value)
/-- a walk of the items xs; g: the list that must stand still -/
structure WalkD (J : It) (φ0 : List Addr) (H0 : Hp) (g : Grd) (xs : List D) : Prop where
  go : ∀ (i : Nat) φ S H, i < xs.length → Evo φ0 H0 φ H → StOk K mg φ S H → chkG g S = true → J.go i H
  stop : ∀ φ S H, Evo φ0 H0 φ H → StOk K mg φ S H → chkG g S = true → J.stop xs.length H
  yld : ∀ (i : Nat) φ S H x H', i < xs.length → Evo φ0 H0 φ H → StOk K mg φ S H → chkG g S = true → J.yld i H x H' → ∃ d, xs[i]? = some d ∧ Evo φ H φ H' ∧ StOk K mg φ S H' ∧ Den K mg φ H' x d
def tI (f : Env → Sto → Option ((List D × Grd) × Sto)) : TI := fun σ H R => ∃ φ ρ S xs g S', EnvOk K mg φ H σ ρ ∧ StOk K mg φ S H ∧ f ρ S = some ((xs, g), S') ∧
  ∀ J φ' H', Evo φ H φ' H' → StOk K mg φ' S' H' → WalkD K mg J φ' H' g xs → R J H'
end
section
variable {K : PySem.W.Frag} {mg : Str → Option Value} {φ : List Addr} {H : Hp} {S : Sto}
/-- where the list is, as long as it stands still -/
structure Stands (K : PySem.W.Frag) (mg : Str → Option Value) (φ0 : List Addr) (H0 : Hp) (g : Grd) (a : Addr) (xs : List D) : Prop where
  st : ∀ φ S H, Evo φ0 H0 φ H → StOk K mg φ S H → chkG g S = true → ∃ vs, SqL K H a vs ∧ Dens K mg φ H vs xs
theorem stands_of {w : W} {v : V} {xs : List D} (s : StOk K mg φ S H) (h : DenW K mg φ H v w) (e : lstOf S w = some xs) : ∃ a, v = .ref a ∧ (∃ vs, SqL K H a vs ∧ Dens K mg φ H vs xs) ∧ Stands K mg φ H (guardOf S w) a xs := by
  cases w with
  | tmp ys =>
    cases e
    obtain ⟨a, vs, rfl, hn, h1, h2⟩ := id h
    refine ⟨a, rfl, ⟨vs, SqL.of h1, h2⟩, ⟨fun φ' S' H' e' s' _ => ?_⟩⟩
    obtain ⟨b, us, e1, _, h3, h4⟩ := DenW.evo e' h
    cases e1
    exact ⟨us, SqL.of h3, h4⟩
  | d x =>
    cases x with
    | ref n =>
      cases (show Den K mg φ H v (.ref n) from h) with
      | ref hn =>
        unfold lstOf at e
        simp only at e
        unfold guardOf
        simp only
        split at e
        · next ys hs =>
          cases e
          obtain ⟨vs, h1, h2⟩ := s.obj _ _ _ hn hs
          refine ⟨_, rfl, ⟨vs, SqL.of h1, h2⟩, ⟨fun φ' S' H' e' s' c => ?_⟩⟩
          unfold chkG chk1 at c
          simp only [hs, List.all_cons, List.all_nil, Bool.and_true] at c
          split at c
          · next zs hz =>
            have := eqDs_eq _ _ c
            subst this
            obtain ⟨us, h3, h4⟩ := s'.obj _ _ _ (e'.pre hn) hz
            exact ⟨us, SqL.of h3, h4⟩
          · cases c
        · cases e
    | fz ys =>
      cases e
      cases (show Den K mg φ H v (.fz _) from h) with
      | fz h1 h2 => exact ⟨_, rfl, ⟨_, h1.sq, h2⟩, ⟨fun φ' S' H' e' s' _ => ⟨_, (sqF_evo e' h1).sq, h2.evo e'⟩⟩⟩
    | _ => cases e
theorem walkD_list {g : Grd} {a : Addr} {xs : List D} (st : Stands K mg φ H g a xs) : WalkD K mg (Itl K a) φ H g xs where
  go := fun i φ S H hi e s c => by
    obtain ⟨vs, h1, h2⟩ := st.st φ S H e s c
    exact walk_list.goes i H (by rw [h2.length]; exact hi) h1
  stop := fun φ S H e s c => by
    obtain ⟨vs, h1, h2⟩ := st.st φ S H e s c
    have := walk_list.stops H h1
    rw [h2.length] at this
    exact this
  yld := fun i φ S H x H' hi e s c y => by
    obtain ⟨vs, h1, h2⟩ := st.st φ S H e s c
    obtain ⟨rfl, h3⟩ := walk_list.yields i H x H' (by rw [h2.length]; exact hi) h1 y
    obtain ⟨d, h4, h5⟩ := h2.getV h3
    exact ⟨d, h4, Evo.refl _ _, s, h5⟩
theorem walkD_tup {a : Addr} {vs : List V} {xs : List D} (h : SqT K H a vs) (hd : Dens K mg φ H vs xs) : WalkD K mg (Itt K a) φ H [] xs where
  go := fun i φ S H hi e s c => walk_tup.goes i H (by rw [hd.length]; exact hi) (sqT_evo e h)
  stop := fun φ S H e s c => by
    have := walk_tup.stops H (sqT_evo e h)
    rw [hd.length] at this
    exact this
  yld := fun i φ S H x H' hi e s c y => by
    obtain ⟨rfl, h3⟩ := walk_tup.yields i H x H' (by rw [hd.length]; exact hi) (sqT_evo e h) y
    obtain ⟨d, h4, h5⟩ := (hd.evo e).getV h3
    exact ⟨d, h4, Evo.refl _ _, s, h5⟩
theorem rngL_len (lo : Int) (n : Nat) : (rngL lo n).length = n := by simp [rngL]
theorem walkD_range {lo : Int} {n : Nat} : WalkD K mg (Itr lo n) φ H [] (rngL lo n) where
  go := fun i φ S H hi e s c => by rw [rngL_len] at hi; exact hi
  stop := fun φ S H e s c => by rw [rngL_len]; exact Nat.le_refl n
  yld := fun i φ S H x H' hi e s c y => by
    rw [rngL_len] at hi
    obtain ⟨rfl, rfl⟩ := y
    refine ⟨.int (lo + (i : Nat)), ?_, Evo.refl _ _, s, .int _⟩
    simp [rngL, hi]
theorem walkD_down {lo : Int} {n : Nat} : WalkD K mg (Itc lo (-1) n) φ H [] ((List.range n).map fun k => .int (lo - (k : Nat))) where
  go := fun i φ S H hi e s c => by simp at hi; exact walk_rangeC.goes i H hi trivial
  stop := fun φ S H e s c => by simp only [List.length_map, List.length_range]; exact walk_rangeC.stops H trivial
  yld := fun i φ S H x H' hi e s c y => by
    simp at hi
    obtain ⟨rfl, rfl⟩ := walk_rangeC.yields i H x H' hi trivial y
    refine ⟨.int (lo - (i : Nat)), by simp [hi], Evo.refl _ _, s, ?_⟩
    have : lo + (i : Int) * (-1) = lo - (i : Nat) := by omega
    show Den K mg _ _ (.int (lo + (i : Nat) * (-1))) _
    rw [this]
    exact .int _
/-- a new pair of what stands at i -/
theorem pair_yld {xs ys : Nat → Option V} {i : Nat} {x : V} {H H' : Hp} {d d' : D} (s : StOk K mg φ S H) (y : YPair xs ys i H x H') (h1 : ∀ v, xs i = some v → Den K mg φ H v d) (h2 : ∀ v, ys i = some v → Den K mg φ H v d') :
    Evo φ H φ H' ∧ StOk K mg φ S H' ∧ Den K mg φ H' x (.wt [d, d']) := by
  obtain ⟨T, a, b, rfl, hT, rfl, e1, e2⟩ := y
  exact ⟨Evo.new hT, s.new hT, .wt (.inl (.inl upd_same)) (.cons ((h1 a e1).evo (Evo.new hT)) (.cons ((h2 b e2).evo (Evo.new hT)) .nil))⟩
theorem enumL_len (xs : List D) : (enumL xs).length = xs.length := by simp [enumL]
theorem enumL_get {xs : List D} {i : Nat} {d : D} (h : xs[i]? = some d) : (enumL xs)[i]? = some (.wt [.int (i : Nat), d]) := by
  have hi : i < xs.length := by
    rcases Nat.lt_or_ge i xs.length with z | z
    · exact z
    · rw [List.getElem?_eq_none z] at h; cases h
  have hg : xs[i] = d := by simpa [hi] using h
  simp [enumL, hi, List.getD, hg]
theorem walkD_enum {g : Grd} {a : Addr} {xs : List D} (st : Stands K mg φ H g a xs) : WalkD K mg (Ite K a) φ H g (enumL xs) where
  go := fun i φ S H hi e s c => by
    rw [enumL_len] at hi
    obtain ⟨vs, h1, h2⟩ := st.st φ S H e s c
    exact walk_enum.goes i H (by rw [h2.length]; exact hi) h1
  stop := fun φ S H e s c => by
    obtain ⟨vs, h1, h2⟩ := st.st φ S H e s c
    have := walk_enum.stops H h1
    rw [h2.length] at this
    rw [enumL_len]
    exact this
  yld := fun i φ S H x H' hi e s c y => by
    rw [enumL_len] at hi
    obtain ⟨vs, h1, h2⟩ := st.st φ S H e s c
    have y' := walk_enum.yields i H x H' (by rw [h2.length]; exact hi) h1 y
    have hd : xs[i]? = some xs[i] := by simp [hi]
    refine ⟨_, enumL_get hd, pair_yld s y' (fun v hv => ?_) (fun v hv => ?_)⟩
    · cases hv; exact .int _
    · obtain ⟨d, e1, e2⟩ := h2.getV hv
      rw [hd] at e1; cases e1; exact e2
theorem walkD_enumT {a : Addr} {vs : List V} {xs : List D} (h : SqT K H a vs) (hd : Dens K mg φ H vs xs) : WalkD K mg (ZE.IteT K a) φ H [] (enumL xs) where
  go := fun i φ S H hi e s c => by
    rw [enumL_len] at hi
    have h1 : i < vs.length := by rw [hd.length]; exact hi
    exact ⟨vs, vs[i], sqT_evo e h, by simp [h1]⟩
  stop := fun φ S H e s c => ⟨vs, sqT_evo e h, by rw [enumL_len, hd.length]⟩
  yld := fun i φ S H x H' hi e s c y => by
    rw [enumL_len] at hi
    obtain ⟨T, q, rfl, hT, rfl, e1⟩ := y
    have hx : xs[i]? = some xs[i] := by simp [hi]
    refine ⟨_, enumL_get hx, pair_yld (xs := fun i => some (.int (i : Nat))) (ys := fun i => vs[i]?) s ⟨T, _, q, rfl, hT, rfl, rfl, e1 _ (sqT_evo e h)⟩ (fun v hv => ?_) (fun v hv => ?_)⟩
    · cases hv; exact .int _
    · obtain ⟨d, e1, e2⟩ := (hd.evo e).getV hv
      rw [hx] at e1; cases e1; exact e2
theorem Stands.mono {g g' : Grd} {a : Addr} {xs : List D} (st : Stands K mg φ H g a xs) (h : ∀ S, chkG g' S = true → chkG g S = true) : Stands K mg φ H g' a xs := ⟨fun φ S H e s c => st.st φ S H e s (h S c)⟩
theorem Stands.evo {φ' : List Addr} {H' : Hp} {g : Grd} {a : Addr} {xs : List D} (st : Stands K mg φ H g a xs) (e : Evo φ H φ' H') : Stands K mg φ' H' g a xs := ⟨fun φ S H e' s c => st.st φ S H (e.trans e') s c⟩
theorem zipL_len (xs ys : List D) : (zipL xs ys).length = min xs.length ys.length := by simp [zipL]
theorem zipL_get {xs ys : List D} {i : Nat} {d d' : D} (h : xs[i]? = some d) (h' : ys[i]? = some d') : (zipL xs ys)[i]? = some (.wt [d, d']) := by
  have hi : i < xs.length := by
    rcases Nat.lt_or_ge i xs.length with z | z
    · exact z
    · rw [List.getElem?_eq_none z] at h; cases h
  have hi' : i < ys.length := by
    rcases Nat.lt_or_ge i ys.length with z | z
    · exact z
    · rw [List.getElem?_eq_none z] at h'; cases h'
  have hg : xs[i] = d := by simpa [hi] using h
  have hg' : ys[i] = d' := by simpa [hi'] using h'
  have hm : i < min xs.length ys.length := by omega
  simp [zipL, hm, hi, hi', List.getD, hg, hg']
theorem walkD_zip {g : Grd} {a b : Addr} {xs ys : List D} (s1 : Stands K mg φ H g a xs) (s2 : Stands K mg φ H g b ys) : WalkD K mg (Itz K a b) φ H g (zipL xs ys) where
  go := fun i φ S H hi e s c => by
    rw [zipL_len] at hi
    obtain ⟨vs, h1, h2⟩ := s1.st φ S H e s c
    obtain ⟨us, h3, h4⟩ := s2.st φ S H e s c
    exact (walk_zip (n := min vs.length us.length) rfl).goes i H (by rw [h2.length, h4.length]; exact hi) ⟨h1, h3⟩
  stop := fun φ S H e s c => by
    obtain ⟨vs, h1, h2⟩ := s1.st φ S H e s c
    obtain ⟨us, h3, h4⟩ := s2.st φ S H e s c
    have := (walk_zip (n := min vs.length us.length) rfl).stops H ⟨h1, h3⟩
    rw [h2.length, h4.length] at this
    rw [zipL_len]
    exact this
  yld := fun i φ S H x H' hi e s c y => by
    rw [zipL_len] at hi
    obtain ⟨vs, h1, h2⟩ := s1.st φ S H e s c
    obtain ⟨us, h3, h4⟩ := s2.st φ S H e s c
    have y' := (walk_zip (n := min vs.length us.length) rfl).yields i H x H' (by rw [h2.length, h4.length]; exact hi) ⟨h1, h3⟩ y
    have ha : i < xs.length := by omega
    have hb : i < ys.length := by omega
    have hd : xs[i]? = some xs[i] := by simp [ha]
    have hd' : ys[i]? = some ys[i] := by simp [hb]
    refine ⟨_, zipL_get hd hd', pair_yld s y' (fun v hv => ?_) (fun v hv => ?_)⟩
    · obtain ⟨d, e1, e2⟩ := h2.getV hv
      rw [hd] at e1; cases e1; exact e2
    · obtain ⟨d, e1, e2⟩ := h4.getV hv
      rw [hd'] at e1; cases e1; exact e2
theorem walkD_zipT {a b : Addr} {vs us : List V} {xs ys : List D} (h : SqT K H a vs) (hd : Dens K mg φ H vs xs) (h' : SqT K H b us) (hd' : Dens K mg φ H us ys) : WalkD K mg (RZ.ItzT K a b) φ H [] (zipL xs ys) where
  go := fun i φ S H hi e s c => by
    rw [zipL_len] at hi
    have h1 : i < vs.length := by rw [hd.length]; omega
    have h2 : i < us.length := by rw [hd'.length]; omega
    exact ⟨vs, us, vs[i], us[i], sqT_evo e h, sqT_evo e h', by simp [h1], by simp [h2]⟩
  stop := fun φ S H e s c => ⟨vs, us, sqT_evo e h, sqT_evo e h', by rw [zipL_len, hd.length, hd'.length]; omega⟩
  yld := fun i φ S H x H' hi e s c y => by
    rw [zipL_len] at hi
    obtain ⟨T, p, q, rfl, hT, rfl, e1, e2⟩ := y
    have ha : i < xs.length := by omega
    have hb : i < ys.length := by omega
    have hx : xs[i]? = some xs[i] := by simp [ha]
    have hy : ys[i]? = some ys[i] := by simp [hb]
    refine ⟨_, zipL_get hx hy, pair_yld (xs := fun i => vs[i]?) (ys := fun i => us[i]?) s ⟨T, p, q, rfl, hT, rfl, e1 _ (sqT_evo e h), e2 _ (sqT_evo e h')⟩ (fun v hv => ?_) (fun v hv => ?_)⟩
    · obtain ⟨d, e1, e2⟩ := (hd.evo e).getV hv
      rw [hx] at e1; cases e1; exact e2
    · obtain ⟨d, e1, e2⟩ := (hd'.evo e).getV hv
      rw [hy] at e1; cases e1; exact e2
end
end Z

set_option Elab.async false
set_option linter.all false
set_option maxRecDepth 100000
/-! Z9: the evaluator is right: expressions. -/
namespace Z
open PySem PySem.Spec PyProof.Rows L2

/-- the promise of a def: what the calls' table says -/
def spOf (K : PySem.W.Frag) (mg : Str → Option Value) (cl : Calls) (f : Str) (n : Nat) : Sp := fun vs H Q _ => vs.length = n ∧ ∃ φ ds S w S', StOk K mg φ S H ∧ Dens K mg φ H vs ds ∧ cl f ds S = some (w, S') ∧
  ∀ v φ' H', Evo φ H φ' H' → StOk K mg φ' S' H' → DenW K mg φ' H' v w → FrW H v w → Q v H'
structure CallOk (P : Program) (w : World) (K : PySem.W.Frag) (mg : Str → Option Value) (base : Heap) (cl : Calls) (k : Nat) (f : Str) (n : Nat) : Prop where
  ex : ∃ a fd ps, mg f = some (.ref a) ∧ PySem.W.keepIn K (.ref a) = true ∧ Binds K fd ps [] ∧ ps.length = n ∧ FnOk P w K mg base CX0 k a fd ps (spOf K mg cl f n)
structure XOk (T : Tab) (cl : Calls) (N : List Str) (df : Str → Bool) (sc : Scope) (k : Nat) (X : Cx) : Prop where
  xn : XN N df sc X
  room : Room k X.A
  blt : ∀ x ∈ T.blts, X.mg x = none
  glb : ∀ x d, T.globs.lookup x = some d → ∃ u v, X.mg x = some u ∧ RelV v u ∧ ∀ φ H, Den X.K X.mg φ H v d
  calls : ∀ f n, T.defs.lookup f = some n → CallOk X.prog X.w X.K X.mg X.base cl k f n
section
variable {T : Tab} {cl : Calls} {N : List Str} {df : Str → Bool} {sc : Scope} {k : Nat} {X : Cx}
theorem XOk.u64 (x : XOk T cl N df sc k X) : X.A.units + 65 < cLine := by have := x.room.un; omega
theorem XOk.u1 (x : XOk T cl N df sc k X) : X.A.units + 1 < cLine := by have := x.room.un; omega
theorem XOk.blk (x : XOk T cl N df sc k X) (s : Shared) (H : Hp) (scope : Scope) (C : Addr) (cl' : List (Str × Addr)) (fp : List Addr) : XOk T cl N (cellB scope) (relS scope sc) k (X.blk s H scope (compEnvC scope cl' C X.env) fp) :=
  ⟨⟨x.xn.hN, x.xn.nd, by rw [← x.xn.hsc]; rfl, x.xn.calm, fun _ z => z⟩, x.room, x.blt, x.glb, x.calls⟩

/-- a slot's value -/
theorem tW_var {i : Nat} {y : Str} {K : PySem.W.Frag} {mg : Str → Option Value} {σ : L2.St} {H : Hp} {Q : VK} (h : tW K mg (evW T cl (.var i y)) σ H Q) : tVar i σ H Q := by
  obtain ⟨φ, ρ, S, w, S', he, hs, hf, q⟩ := h
  unfold evW at hf
  split at hf
  · next d hd =>
    cases hf
    obtain ⟨v, hv, dv⟩ := he.at' i d hd
    exact ⟨v, hv, q v φ H (Evo.refl _ _) hs dv trivial⟩
  · cases hf
theorem tW_cst {e : E} {d : D} {v : V} {K : PySem.W.Frag} {mg : Str → Option Value} {σ : L2.St} {H : Hp} {Q : VK} (he : ∀ ρ S, evW T cl e ρ S = some (.d d, S)) (hd : ∀ φ H, Den K mg φ H v d) (h : tW K mg (evW T cl e) σ H Q) : Q v H := by
  obtain ⟨φ, ρ, S, w, S', _, hs, hf, q⟩ := h
  rw [he] at hf
  cases hf
  exact q v φ H (Evo.refl _ _) hs (hd _ _) trivial

theorem star1 {e : Expr} (h : noStar e = true) (env : PySem.Env) : starEach [e] env = [(false, eval e env)] := star_cons h [] env
theorem star2 {e f : Expr} (h : noStar e = true) (h' : noStar f = true) (env : PySem.Env) : starEach [e, f] env = [(false, eval e env), (false, eval f env)] := by
  rw [star_cons h, star1 h']
theorem star3 {e f g : Expr} (h : noStar e = true) (h' : noStar f = true) (h'' : noStar g = true) (env : PySem.Env) : starEach [e, f, g] env = [(false, eval e env), (false, eval f env), (false, eval g env)] := by
  rw [star_cons h, star2 h' h'']
theorem okA_star : ∀ {as : E} {es : List Expr}, okA T N as sc es = true → es.all noStar = true
  | .nil, [], _ => rfl
  | .cons a as, e :: es, h => by
    unfold okA at h
    simp only [Bool.and_eq_true] at h
    rw [List.all_cons, h.1.1, okA_star h.2]; rfl
  | .nil, _ :: _, h => by unfold okA at h; cases h
  | .cons _ _, [], h => by unfold okA at h; cases h
  | .var _ _, _, h | .cI _, _, h | .cB _, _, h | .cN, _, h | .cS _, _, h | .glob _, _, h | .bin _ _ _, _, h | .neg _, _, h | .cmp _ _ _, _, h | .chn _ _ _ _ _, _, h | .not _, _, h | .and _, _, h | .or _, _, h | .ite _ _ _, _, h | .tup _, _, h | .lst _, _, h
  | .ix _ _, _, h | .dget _ _, _, h | .slc _ _ _, _, h | .call _ _, _, h | .lcall _ _ _, _, h | .bi _ _, _, h | .rng _, _, h | .enm _, _, h | .zip _ _, _, h | .lc _ _ _ _ _, _, h | .app _ _, _, h | .disp _ _, _, h | .tst _, _, h | .rev _, _, h | .mth _ _ _, _, h | .chn3 _ _ _ _ _ _ _, _, h | .dnew _, _, h | .ddisp _ _, _, h | .lrng _ _, _, h | .dct _ _, _, h | .sitm _, _, h => by unfold okA at h; cases h
theorem evs_len : ∀ {as : E} {es : List Expr} {ρ : Env} {S S' : Sto} {ws : List W}, okA T N as sc es = true → evs T cl as ρ S = some (ws, S') → ws.length = es.length
  | .nil, [], _, _, _, _, _, h => by unfold evs at h; cases h; rfl
  | .cons a as, e :: es, ρ, S, S', ws, ho, h => by
    unfold okA at ho
    simp only [Bool.and_eq_true] at ho
    unfold evs at h
    split at h
    · cases h
    · next w S1 _ =>
      split at h
      · cases h
      · next ws' S2 h2 =>
        cases h
        rw [List.length_cons, List.length_cons, evs_len ho.2 h2]
  | .nil, _ :: _, _, _, _, _, ho, _ => by unfold okA at ho; cases ho
  | .cons _ _, [], _, _, _, _, ho, _ => by unfold okA at ho; cases ho
  | .var _ _, _, _, _, _, _, h, _ | .cI _, _, _, _, _, _, h, _ | .cB _, _, _, _, _, _, h, _ | .cN, _, _, _, _, _, h, _ | .cS _, _, _, _, _, _, h, _ | .glob _, _, _, _, _, _, h, _ | .bin _ _ _, _, _, _, _, _, h, _ | .neg _, _, _, _, _, _, h, _ | .cmp _ _ _, _, _, _, _, _, h, _ | .chn _ _ _ _ _, _, _, _, _, _, h, _ | .not _, _, _, _, _, _, h, _ | .and _, _, _, _, _, _, h, _ | .or _, _, _, _, _, _, h, _ | .ite _ _ _, _, _, _, _, _, h, _ | .tup _, _, _, _, _, _, h, _ | .lst _, _, _, _, _, _, h, _
  | .ix _ _, _, _, _, _, _, h, _ | .dget _ _, _, _, _, _, _, h, _ | .slc _ _ _, _, _, _, _, _, h, _ | .call _ _, _, _, _, _, _, h, _ | .lcall _ _ _, _, _, _, _, _, h, _ | .bi _ _, _, _, _, _, _, h, _ | .rng _, _, _, _, _, _, h, _ | .enm _, _, _, _, _, _, h, _ | .zip _ _, _, _, _, _, _, h, _ | .lc _ _ _ _ _, _, _, _, _, _, h, _ | .app _ _, _, _, _, _, _, h, _ | .disp _ _, _, _, _, _, _, h, _ | .tst _, _, _, _, _, _, h, _ | .rev _, _, _, _, _, _, h, _ | .mth _ _ _, _, _, _, _, _, h, _ | .chn3 _ _ _ _ _ _ _, _, _, _, _, _, h, _ | .dnew _, _, _, _, _, _, h, _ | .ddisp _ _, _, _, _, _, _, h, _ | .lrng _ _, _, _, _, _, _, h, _ | .dct _ _, _, _, _, _, _, h, _ | .sitm _, _, _, _, _, _, h, _ => by unfold okA at h; cases h
theorem Dens.len2 {K : PySem.W.Frag} {mg : Str → Option Value} {φ : List Addr} {H : Hp} {vs : List V} {ws : List W} (h : DenWs K mg φ H vs ws) : vs.length = ws.length := Paired.length h

theorem Dens.rev {K : PySem.W.Frag} {mg : Str → Option Value} {φ : List Addr} {H : Hp} : ∀ {vs : List V} {ds : List D}, Dens K mg φ H vs ds → Dens K mg φ H vs.reverse ds.reverse
  | _, _, .nil => .nil
  | _, _, .cons a b => by
    rw [List.reverse_cons, List.reverse_cons]
    exact (Dens.rev b).snoc a
/-- arguments, then a call: the callee's promise -/
theorem tcall_of {K : PySem.W.Frag} {mg : Str → Option Value} {f : Str} {n : Nat} {fa : Env → Sto → Option (List W × Sto)} {σ : L2.St} {H : Hp} {Q : VK} {φ : List Addr} {ρ : Env} {S S1 S' : Sto} {ws : List W} {w : W}
    (he : EnvOk K mg φ H σ ρ) (hs : StOk K mg φ S H) (h1 : fa ρ S = some (ws, S1)) (hn : ws.length = n) (h2 : cl f (matsW ws S1).1 (matsW ws S1).2 = some (w, S'))
    (q : ∀ v φ' H', Evo φ H φ' H' → StOk K mg φ' S' H' → DenW K mg φ' H' v w → FrW H v w → Q v H') : tCall (spOf K mg cl f n) [] E0 (tAs K mg fa) σ H Q := by
  refine ⟨φ, ρ, S, ws, S1, he, hs, h1, fun vs φ1 H1 e1 s1 d1 f1 => ?_⟩
  obtain ⟨φ2, e2, s2, d2, _⟩ := mats_ok e1 s1 d1 f1
  refine ⟨by rw [List.append_nil, Dens.len2 d1, hn], φ2, _, _, w, S', s2, by rw [List.append_nil]; exact d2, h2, fun v φ' H' e3 s3 d3 f3 => ?_⟩
  exact q v φ' H' (e2.trans e3) s3 d3 (f3.back e1.thr)


theorem tIf_of {K : PySem.W.Frag} {mg : Str → Option Value} {ft : Env → Sto → Option (Bool × Sto)} {fa fb : Ev} {σ : L2.St} {H : Hp} {Q : VK}
    (h : tW K mg (fun ρ S => match ft ρ S with | none => none | some (true, S1) => fa ρ S1 | some (false, S1) => fb ρ S1) σ H Q) : tIf (tT K mg ft) (tW K mg fa) (tW K mg fb) σ H Q := by
  obtain ⟨φ, ρ, S, w, S', he, hs, hf, q⟩ := h
  simp only at hf
  cases h1 : ft ρ S with
  | none => rw [h1] at hf; cases hf
  | some p =>
    obtain ⟨b, S1⟩ := p
    rw [h1] at hf
    refine ⟨φ, ρ, S, b, S1, he, hs, h1, fun φ1 H1 e1 s1 => ?_⟩
    cases b with
    | true => exact iteT ⟨φ1, ρ, S1, w, S', he.evo e1, s1, hf, fun v φ' H' e2 s2 d2 f2 => q v φ' H' (e1.trans e2) s2 d2 (f2.back e1.thr)⟩
    | false => exact iteF ⟨φ1, ρ, S1, w, S', he.evo e1, s1, hf, fun v φ' H' e2 s2 d2 f2 => q v φ' H' (e1.trans e2) s2 d2 (f2.back e1.thr)⟩
theorem tChn_of {K : PySem.W.Frag} {mg : Str → Option Value} {o1 o2 : Cop} {a b c : E} {σ : L2.St} {H : Hp} {Q : VK}
    (h : tW K mg (evW T cl (.chn o1 o2 a b c)) σ H Q) : tChain (vCmp K mg o1) (vCmp K mg o2) (tW K mg (evW T cl a)) (tW K mg (evW T cl b)) (tW K mg (evW T cl c)) σ H Q := by
  obtain ⟨φ, ρ, S, w, S', he, hs, hf, q⟩ := h
  unfold evW at hf
  split at hf
  · cases hf
  · next x S1 h1 =>
    split at hf
    · cases hf
    · next y S2 h2 =>
      refine ⟨φ, ρ, S, x, S1, he, hs, h1, fun v φ1 H1 e1 s1 d1 f1 => ⟨φ1, ρ, S1, y, S2, he.evo e1, s1, h2, fun u φ2 H2 e2 s2 d2 f2 => ?_⟩⟩
      split at hf
      · cases hf
      · next h3 =>
        cases hf
        exact ⟨φ2, _, x, y, false, s2, d1.evo e2, d2, h3, false, rfl, iteF (q _ φ2 H2 (e1.trans e2) s2 (.bl false) trivial)⟩
      · next h3 =>
        split at hf
        · cases hf
        · next z S3 h4 =>
          cases h5 : cmpW S3 o2 y z with
          | none => rw [h5] at hf; cases hf
          | some kk =>
            rw [h5] at hf
            cases hf
            exact ⟨φ2, _, x, y, true, s2, d1.evo e2, d2, h3, true, rfl, iteT ⟨φ2, ρ, S2, z, _, (he.evo e1).evo e2, s2, h4, fun t φ3 H3 e3 s3 d3 f3 =>
              ⟨φ3, _, y, z, kk, s3, d2.evo e3, d3, h5, q _ φ3 H3 ((e1.trans e2).trans e3) s3 (.bl kk) trivial⟩⟩⟩
theorem tChnT_of {K : PySem.W.Frag} {mg : Str → Option Value} {o1 o2 : Cop} {a b c : E} {σ : L2.St} {H : Hp} {Q : Bool → Hp → Prop}
    (h : tT K mg (evT T cl (.chn o1 o2 a b c)) σ H Q) : tTest (tChain (vCmp K mg o1) (vCmp K mg o2) (tW K mg (evW T cl a)) (tW K mg (evW T cl b)) (tW K mg (evW T cl c))) σ H Q := by
  obtain ⟨φ, ρ, S, w, S', he, hs, hf, q⟩ := h
  unfold evT at hf
  split at hf
  · cases hf
  · next x S1 h1 =>
    split at hf
    · cases hf
    · next y S2 h2 =>
      refine ⟨φ, ρ, S, x, S1, he, hs, h1, fun v φ1 H1 e1 s1 d1 f1 => ⟨φ1, ρ, S1, y, S2, he.evo e1, s1, h2, fun u φ2 H2 e2 s2 d2 f2 => ?_⟩⟩
      split at hf
      · cases hf
      · next h3 =>
        cases hf
        exact ⟨φ2, _, x, y, false, s2, d1.evo e2, d2, h3, false, rfl, iteF ⟨false, rfl, q φ2 H2 (e1.trans e2) s2⟩⟩
      · next h3 =>
        split at hf
        · cases hf
        · next z S3 h4 =>
          cases h5 : cmpW S3 o2 y z with
          | none => rw [h5] at hf; cases hf
          | some kk =>
            rw [h5] at hf
            cases hf
            exact ⟨φ2, _, x, y, true, s2, d1.evo e2, d2, h3, true, rfl, iteT ⟨φ2, ρ, S2, z, _, (he.evo e1).evo e2, s2, h4, fun t φ3 H3 e3 s3 d3 f3 =>
              ⟨φ3, _, y, z, _, s3, d2.evo e3, d3, h5, _, rfl, q φ3 H3 ((e1.trans e2).trans e3) s3⟩⟩⟩
theorem tCmpT_of {K : PySem.W.Frag} {mg : Str → Option Value} {o : Cop} {a b : E} {σ : L2.St} {H : Hp} {Q : Bool → Hp → Prop}
    (h : tT K mg (evT T cl (.cmp o a b)) σ H Q) : tTest (tOp (vCmp K mg o) (tW K mg (evW T cl a)) (tW K mg (evW T cl b))) σ H Q := by
  obtain ⟨φ, ρ, S, w, S', he, hs, hf, q⟩ := h
  unfold evT at hf
  split at hf
  · cases hf
  · next x S1 h1 =>
    split at hf
    · cases hf
    · next y S2 h2 =>
      cases h5 : cmpW S2 o x y with
      | none => rw [h5] at hf; cases hf
      | some kk =>
        rw [h5] at hf
        cases hf
        exact ⟨φ, ρ, S, x, S1, he, hs, h1, fun v φ1 H1 e1 s1 d1 f1 => ⟨φ1, ρ, S1, y, _, he.evo e1, s1, h2, fun u φ2 H2 e2 s2 d2 f2 =>
          ⟨φ2, _, x, y, _, s2, d1.evo e2, d2, h5, _, rfl, q φ2 H2 (e1.trans e2) s2⟩⟩⟩
/-- a new tuple, a new list of the arguments -/
theorem tTup_of {K : PySem.W.Frag} {mg : Str → Option Value} {as : E} {σ : L2.St} {H : Hp} {Q : VK} (h : tW K mg (evW T cl (.tup as)) σ H Q) : tTupK (tAs K mg (evs T cl as)) σ H Q := by
  obtain ⟨φ, ρ, S, w, S', he, hs, hf, q⟩ := h
  unfold evW at hf
  split at hf
  · cases hf
  · next ws S1 h1 =>
    split at hf
    · next hl =>
      cases hf
      refine ⟨φ, ρ, S, ws, S1, he, hs, h1, fun vs φ1 H1 e1 s1 d1 f1 => ?_⟩
      obtain ⟨φ2, e2, s2, d2, _⟩ := mats_ok e1 s1 d1 f1
      refine ⟨by rw [Dens.len2 d1]; exact LN_le hl, fun p its hp => ?_⟩
      exact q _ φ2 _ (e2.trans (Evo.new hp)) (s2.new hp) (.tup (.inl ⟨its, upd_same⟩) (d2.evo (Evo.new hp))) trivial
    · cases hf
theorem tLst_of {K : PySem.W.Frag} {mg : Str → Option Value} {as : E} {σ : L2.St} {H : Hp} {Q : VK} (h : tW K mg (evW T cl (.lst as)) σ H Q) : tLst (tAs K mg (evs T cl as)) σ H Q := by
  obtain ⟨φ, ρ, S, w, S', he, hs, hf, q⟩ := h
  unfold evW at hf
  split at hf
  · cases hf
  · next ws S1 h1 =>
    split at hf
    · next hl =>
      cases hf
      refine ⟨φ, ρ, S, ws, S1, he, hs, h1, fun vs φ1 H1 e1 s1 d1 f1 => ?_⟩
      obtain ⟨φ2, e2, s2, d2, _⟩ := mats_ok e1 s1 d1 f1
      refine ⟨by rw [Dens.len2 d1]; exact LN_le hl, fun p hp => ?_⟩
      exact q _ φ2 _ (e2.trans (Evo.new hp)) (s2.new hp) ⟨p, vs, rfl, s2.fresh hp, upd_same, d2.evo (Evo.new hp)⟩ ⟨p, rfl, e1.thr p hp⟩
    · cases hf
theorem tSl_of {K : PySem.W.Frag} {mg : Str → Option Value} {a lo hi : E} {σ : L2.St} {H : Hp} {Q : VK} (h : tW K mg (evW T cl (.slc a lo hi)) σ H Q) : tSl (vSl K mg) (tW K mg (evW T cl a)) (tO K mg (evO T cl lo)) (tO K mg (evO T cl hi)) σ H Q := by
  obtain ⟨φ, ρ, S, w, S', he, hs, hf, q⟩ := h
  unfold evW at hf
  split at hf
  · cases hf
  · next x S1 h1 =>
    split at hf
    · cases hf
    · next l S2 h2 =>
      split at hf
      · cases hf
      · next u S3 h3 =>
        cases h5 : slW S3 x l u with
        | none => rw [h5] at hf; cases hf
        | some z =>
          rw [h5] at hf
          cases hf
          exact ⟨φ, ρ, S, x, S1, he, hs, h1, fun v φ1 H1 e1 s1 d1 f1 => ⟨φ1, ρ, S1, l, S2, he.evo e1, s1, h2, fun φ2 H2 e2 s2 => ⟨φ2, ρ, S2, u, _, (he.evo e1).evo e2, s2, h3, fun φ3 H3 e3 s3 =>
            ⟨φ3, _, x, _, s3, (d1.evo e2).evo e3, h5, fun t H' e4 s4 d4 f4 => q t φ3 H' (((e1.trans e2).trans e3).trans e4) s4 d4 (f4.back fun a ha => e1.thr a (e2.thr a (e3.thr a ha)))⟩⟩⟩⟩
/-- .. of a built-in -/
theorem tBi_of {K : PySem.W.Frag} {mg : Str → Option Value} {b : BI} {as : E} {σ : L2.St} {H : Hp} {Q : VK} (h : tW K mg (evW T cl (.bi b as)) σ H Q) : tCB (vBi K mg b) (tAs K mg (evs T cl as)) σ H Q := by
  obtain ⟨φ, ρ, S, w, S', he, hs, hf, q⟩ := h
  unfold evW at hf
  split at hf
  · cases hf
  · next ws S1 h1 =>
    cases h5 : biW S1 b ws with
    | none => rw [h5] at hf; cases hf
    | some z =>
      rw [h5] at hf
      cases hf
      exact ⟨φ, ρ, S, ws, _, he, hs, h1, fun vs φ1 H1 e1 s1 d1 f1 => ⟨φ1, _, ws, _, s1, d1, h5, fun t H' e4 s4 d4 f4 => q t φ1 H' (e1.trans e4) s4 d4 (f4.back e1.thr)⟩⟩
theorem tRev_of {K : PySem.W.Frag} {mg : Str → Option Value} {a : E} {σ : L2.St} {H : Hp} {Q : VK} (h : tW K mg (evW T cl (.rev a)) σ H Q) : tRevL K (tW K mg (evW T cl a)) σ H Q ∨ ZR.tRevT K (tW K mg (evW T cl a)) σ H Q := by
  obtain ⟨φ, ρ, S, w, S', he, hs, hf, q⟩ := h
  unfold evW at hf
  split at hf
  · cases hf
  · next x S1 h1 =>
    cases h5 : revW S1 x with
    | none => rw [h5] at hf; cases hf
    | some z =>
      rw [h5] at hf
      cases hf
      have lst : ((lstOf S' x).map fun xs => W.tmp xs.reverse) = some w → tRevL K (tW K mg (evW T cl a)) σ H Q := fun h5 => by
        cases hl : lstOf S' x with
        | none => rw [hl] at h5; cases h5
        | some xs =>
          rw [hl] at h5
          cases h5
          refine ⟨φ, ρ, S, x, _, he, hs, h1, fun v φ1 H1 e1 s1 d1 f1 => ?_⟩
          obtain ⟨b, vs, rfl, hq, ds⟩ := lstOf_ok s1 d1 hl
          refine ⟨b, vs, rfl, hq, fun p hp => ?_⟩
          exact q _ φ1 _ (e1.trans (Evo.new hp)) (s1.new hp) ⟨p, _, rfl, s1.fresh hp, upd_same, (Dens.rev ds).evo (Evo.new hp)⟩ ⟨p, rfl, e1.thr p hp⟩
      unfold revW at h5
      split at h5
      · next xs =>
        cases h5
        refine .inr ⟨φ, ρ, S, _, _, he, hs, h1, fun v φ1 H1 e1 s1 d1 f1 => ?_⟩
        cases (show Den K mg φ1 H1 v (.tup xs) from d1) with
        | tup g1 g2 =>
          refine ⟨_, _, rfl, g1.sq, fun p its hp => ?_⟩
          exact q _ φ1 _ (e1.trans (Evo.new hp)) (s1.new hp) (.tup (.inl ⟨its, upd_same⟩) ((Dens.rev g2).evo (Evo.new hp))) trivial
      · exact .inl (lst h5)
end
end Z

set_option Elab.async false
set_option linter.all false
set_option maxRecDepth 100000
/-! Z10: the evaluator is right: expressions, all together. -/
namespace Z
open PySem PySem.Spec PyProof.Rows L2
section
variable {T : Tab} {cl : Calls} {N : List Str} {k : Nat}

theorem tI_rng {K : PySem.W.Frag} {mg : Str → Option Value} {as : E} {σ : L2.St} {H : Hp} {R : It → Hp → Prop} {n : Nat} (hn : ∀ ρ S ws S', evs T cl as ρ S = some (ws, S') → ws.length = n) (h : tI K mg (evI T cl (.rng as)) σ H R) :
    (n = 1 ∧ iRng1 (tAs K mg (evs T cl as)) σ H R) ∨ (n = 2 ∧ iRng2 (tAs K mg (evs T cl as)) σ H R) ∨ (n = 3 ∧ iRng3 (tAs K mg (evs T cl as)) σ H R) := by
  obtain ⟨φ, ρ, S, xs, g, S', he, hs, hf, q⟩ := h
  unfold evI at hf
  split at hf
  · cases hf
  · next ws S1 h1 =>
    cases h2 : rngW ws with
    | none => rw [h2] at hf; cases hf
    | some ys =>
      rw [h2] at hf
      cases hf
      unfold rngW at h2
      split at h2
      · next j =>
        split at h2
        · next hj =>
          cases h2
          unfold rngOk at hj
          simp only [Bool.and_eq_true, decide_eq_true_eq] at hj
          refine .inl ⟨(hn _ _ _ _ h1).symm, φ, ρ, S, _, _, he, hs, h1, fun vs φ1 H1 e1 s1 d1 f1 => ?_⟩
          obtain ⟨v, rfl, dv⟩ := denWs1 d1
          cases (show Den K mg φ1 H1 v (.int j) from dv)
          exact ⟨j, rfl, hj.1, hj.2, q _ φ1 H1 e1 s1 walkD_range⟩
        · cases h2
      · next i j =>
        split at h2
        · next hj =>
          cases h2
          unfold rngOk at hj
          simp only [Bool.and_eq_true, decide_eq_true_eq] at hj
          refine .inr (.inl ⟨(hn _ _ _ _ h1).symm, φ, ρ, S, _, _, he, hs, h1, fun vs φ1 H1 e1 s1 d1 f1 => ?_⟩)
          obtain ⟨v, u, rfl, dv, du⟩ := denWs2 d1
          cases (show Den K mg φ1 H1 v (.int i) from dv)
          cases (show Den K mg φ1 H1 u (.int j) from du)
          exact ⟨i, j, rfl, ⟨hj.1.1, hj.1.2, hj.2.1, hj.2.2⟩, q _ φ1 H1 e1 s1 walkD_range⟩
        · cases h2
      · next i j c =>
        split at h2
        · next hj =>
          cases h2
          unfold rngOk at hj
          simp only [Bool.and_eq_true, decide_eq_true_eq] at hj
          obtain ⟨⟨hi, hj⟩, rfl⟩ := hj
          refine .inr (.inr ⟨(hn _ _ _ _ h1).symm, φ, ρ, S, _, _, he, hs, h1, fun vs φ1 H1 e1 s1 d1 f1 => ?_⟩)
          cases d1 with
          | cons dv d1 =>
            obtain ⟨u, t, rfl, du, dt⟩ := denWs2 d1
            cases (show Den K mg φ1 H1 _ (.int i) from dv)
            cases (show Den K mg φ1 H1 u (.int j) from du)
            cases (show Den K mg φ1 H1 t (.int (-1)) from dt)
            exact ⟨i, j, -1, (i - j).toNat, rfl, RgC.neg (by omega) (by omega) (by omega) (by omega), q _ φ1 H1 e1 s1 walkD_down⟩
        · cases h2
      · cases h2
theorem tI_seq {K : PySem.W.Frag} {mg : Str → Option Value} {a : E} {σ : L2.St} {H : Hp} {R : It → Hp → Prop} (h : tI K mg (evI T cl (.cons a .nil)) σ H R) :
    iList K (tW K mg (evW T cl a)) σ H R ∨ iTup K (tW K mg (evW T cl a)) σ H R := by
  obtain ⟨φ, ρ, S, xs, g, S', he, hs, hf, q⟩ := h
  unfold evI at hf
  split at hf
  · cases hf
  · next w S1 h1 =>
    cases h2 : seqOf S1 w with
    | none => rw [h2] at hf; cases hf
    | some ys =>
      rw [h2] at hf
      cases hf
      have lst : lstOf S' w = some xs → iList K (tW K mg (evW T cl a)) σ H R := fun h2 => ⟨φ, ρ, S, w, _, he, hs, h1, fun v φ1 H1 e1 s1 d1 f1 => by
        obtain ⟨b, rfl, ⟨vs, g1, g2⟩, st⟩ := stands_of s1 d1 h2
        exact ⟨b, rfl, ⟨vs, g1⟩, q _ φ1 H1 e1 s1 (walkD_list st)⟩⟩
      unfold seqOf at h2
      split at h2
      · next ys =>
        cases h2
        refine .inr ⟨φ, ρ, S, _, _, he, hs, h1, fun v φ1 H1 e1 s1 d1 f1 => ?_⟩
        cases (show Den K mg φ1 H1 v (.tup xs) from d1) with
        | tup g1 g2 => exact ⟨_, rfl, ⟨_, g1.sq⟩, q _ φ1 H1 e1 s1 (walkD_tup g1.sq g2)⟩
      · exact .inl (lst h2)
theorem tI_enm {K : PySem.W.Frag} {mg : Str → Option Value} {a : E} {σ : L2.St} {H : Hp} {R : It → Hp → Prop} (h : tI K mg (evI T cl (.enm a)) σ H R) :
    iEnum K (tCons (tW K mg (evW T cl a)) tNil) σ H R ∨ ZE.iEnumT K (tCons (tW K mg (evW T cl a)) tNil) σ H R := by
  obtain ⟨φ, ρ, S, xs, g, S', he, hs, hf, q⟩ := h
  unfold evI at hf
  split at hf
  · cases hf
  · next w S1 h1 =>
    cases h2 : seqOf S1 w with
    | none => rw [h2] at hf; cases hf
    | some ys =>
      rw [h2] at hf
      cases hf
      have lst : lstOf S' w = some ys → iEnum K (tCons (tW K mg (evW T cl a)) tNil) σ H R := fun h2 => ⟨φ, ρ, S, w, _, he, hs, h1, fun v φ1 H1 e1 s1 d1 f1 => by
        obtain ⟨b, rfl, ⟨vs, g1, g2⟩, st⟩ := stands_of s1 d1 h2
        exact ⟨b, vs, rfl, g1, q _ φ1 H1 e1 s1 (walkD_enum st)⟩⟩
      unfold seqOf at h2
      split at h2
      · next zs =>
        cases h2
        refine .inr ⟨φ, ρ, S, _, _, he, hs, h1, fun v φ1 H1 e1 s1 d1 f1 => ?_⟩
        cases (show Den K mg φ1 H1 v (.tup ys) from d1) with
        | tup g1 g2 => exact ⟨_, _, rfl, g1.sq, q _ φ1 H1 e1 s1 (walkD_enumT g1.sq g2)⟩
      · exact .inl (lst h2)
theorem tI_zip {K : PySem.W.Frag} {mg : Str → Option Value} {a b : E} {σ : L2.St} {H : Hp} {R : It → Hp → Prop} (h : tI K mg (evI T cl (.zip a b)) σ H R) :
    RZ.iZipA K (tCons (tW K mg (evW T cl a)) (tCons (tW K mg (evW T cl b)) tNil)) σ H R := by
  obtain ⟨φ, ρ, S, xs, g, S', he, hs, hf, q⟩ := h
  unfold evI at hf
  split at hf
  · cases hf
  · next x S1 h1 =>
    split at hf
    · cases hf
    · next y S2 h2 =>
      refine ⟨φ, ρ, S, x, S1, he, hs, h1, fun v φ1 H1 e1 s1 d1 f1 => ⟨φ1, ρ, S1, y, S2, he.evo e1, s1, h2, fun u φ2 H2 e2 s2 d2 f2 => ?_⟩⟩
      have dx := d1.evo e2
      split at hf
      · next ys zs =>
        cases hf
        cases (show Den K mg φ2 H2 v (.tup ys) from dx) with
        | tup g1 g2 =>
          cases (show Den K mg φ2 H2 u (.tup zs) from d2) with
          | tup g3 g4 => exact ⟨_, _, _, _, rfl, .inr ⟨g1.sq, g3.sq, q _ φ2 H2 (e1.trans e2) s2 (walkD_zipT g1.sq g2 g3.sq g4)⟩⟩
      · split at hf
        · next ys zs hy hz =>
          cases hf
          obtain ⟨b1, rfl, ⟨vs, g1, g2⟩, st1⟩ := stands_of s2 dx hy
          obtain ⟨b2, rfl, ⟨us, g3, g4⟩, st2⟩ := stands_of s2 d2 hz
          refine ⟨b1, b2, vs, us, rfl, .inl ⟨g1, g3, q _ φ2 H2 (e1.trans e2) s2 (walkD_zip (st1.mono fun S c => ?_) (st2.mono fun S c => ?_))⟩⟩
          · unfold chkG at c ⊢
            rw [List.all_append, Bool.and_eq_true] at c
            exact c.1
          · unfold chkG at c ⊢
            rw [List.all_append, Bool.and_eq_true] at c
            exact c.2
        · cases hf
end
end Z

set_option Elab.async false
set_option linter.all false
set_option maxRecDepth 100000
/-! Z11: comprehensions, append; the theorem. -/
namespace Z
open PySem PySem.Spec PyProof.Rows L2
section
variable {K : PySem.W.Frag} {mg : Str → Option Value} {φ : List Addr} {H : Hp} {S : Sto}
theorem StOk.updN {L : Addr} {l o : HO} (s : StOk K mg φ S H) (h : H L = some l) (hl : ¬ Stb l) (n : L ∉ φ) : StOk K mg φ S (L2.upd H L o) := by
  refine ⟨s.len, s.nd, fun m a u e1 e2 => ?_⟩
  have ha : a ≠ L := fun z => n (by rw [← z]; exact List.mem_of_getElem? e1)
  have ob := s.obj m a _ e1 e2
  cases u with
  | lst xs => obtain ⟨vs, h1, h2⟩ := ob; exact ⟨vs, by rw [upd_ne ha]; exact h1, h2.updN h hl⟩
  | dk kvs => obtain ⟨vs, h1, h2⟩ := ob; exact ⟨vs, by rw [upd_ne ha]; exact h1, h2.updN h hl⟩
  | dd kvs => obtain ⟨vs, h1, h2, h3, h4⟩ := ob; exact ⟨vs, by rw [upd_ne ha]; exact h1, h2, h3, h4.updN h hl⟩
theorem Evo.upd {φ' : List Addr} {H' : Hp} {L : Addr} {o : HO} (e : Evo φ H φ' H') (h : H L = none) : Evo φ H φ' (L2.upd H' L o) := by
  refine ⟨e.ext, fun a u h1 h2 => ?_, fun a u h1 h2 => ?_, fun a h1 => ?_⟩
  · rw [upd_ne (ne_of_none h1 h)]; exact e.out a u h1 h2
  · rw [upd_ne (ne_of_none h2 h)]; exact e.stb a u h1 h2
  · by_cases z : a = L
    · rw [z]; exact h
    · rw [upd_ne z] at h1; exact e.thr a h1
theorem Evo.notin {φ' : List Addr} {H' : Hp} {L : Addr} {u : HO} (e : Evo φ H φ' H') (h : H L = some u) (n : L ∉ φ) : L ∉ φ' := by
  obtain ⟨ψ, rfl, hψ⟩ := e.ext
  intro z
  rcases List.mem_append.mp z with z | z
  · exact n z
  · rw [hψ L z] at h; cases h
theorem wipe_wipe (σ : L2.St) : ∀ vs : List Nat, L2.wipe (L2.wipe σ vs) vs = L2.wipe σ vs
  | [] => rfl
  | v :: vs => by
    have e : L2.wipe σ (v :: vs) = (L2.wipe σ vs).set v none := rfl
    rw [e, wipe_set_in _ v none List.mem_cons_self]
    show (L2.wipe (L2.wipe σ vs) vs).set v none = _
    rw [wipe_wipe σ vs]
end
section
variable {T : Tab} {cl : Calls} {N : List Str} {k : Nat}
theorem tLc_of {K : PySem.W.Frag} {mg : Str → Option Value} {own : List (Str × Nat)} {elt it tst : E} {p : P} {σ : L2.St} {H : Hp} {Q : VK} (ho : ownOk own p = true) (h : tW K mg (evW T cl (.lc own elt p it tst)) σ H Q) :
    tLc (tI K mg (evI T cl it)) (tP K mg p) (tT K mg (evC T cl tst)) (tW K mg (evW T cl elt)) (own.map (·.2)) σ H Q := by
  obtain ⟨φ, ρ, S, w, S', he, hs, hf, q⟩ := h
  unfold evW at hf
  split at hf
  · cases hf
  · next xs g S1 h1 =>
    generalize hstep : (fun (d : D) (S : Sto) => match bindP p d (wipeD ρ (own.map (·.2))) with
          | none => none
          | some ρ' => match evC T cl tst ρ' S with
            | none => none
            | some (false, S') => some (none, S')
            | some (true, S') => match evW T cl elt ρ' S' with
              | none => none
              | some (w, S'') => some (some (matW w S'').1, (matW w S'').2)) = step at hf
    cases h2 : lcLoop g step xs [] S1 with
    | none => rw [h2] at hf; cases hf
    | some r =>
      obtain ⟨ds, S2⟩ := r
      rw [h2] at hf
      cases hf
      refine ⟨φ, ρ, S, xs, g, S1, he, hs, h1, fun J φ1 H1 e1 s1 wk D hD => ?_⟩
      have hvs : ∀ i ∈ psl p, i ∈ own.map (·.2) := fun i hi => by
        unfold ownOk at ho
        exact of_decide_eq_true (List.all_eq_true.mp ho i hi)
      generalize own.map (·.2) = vs at *
      refine ⟨fun i m H' => i ≤ xs.length ∧ m = xs.length - i ∧ ∃ φi Si acc us, Evo φ1 H1 φi H' ∧ StOk K mg φi Si H' ∧ D ∉ φi ∧ H' D = some (.lst us) ∧ Dens K mg φi H' us acc ∧ lcLoop g step (xs.drop i) acc Si = some (ds, S2),
        ⟨xs.length, Nat.zero_le _, by simp, φ1, S1, [], [], (Evo.refl _ _).upd hD, s1.new hD, s1.fresh hD, upd_same, .nil, h2⟩, ?_⟩
      rintro i m H' ⟨hi, rfl, φi, Si, acc, us, ei, si, nD, hDi, di, hl⟩
      by_cases hlt : i < xs.length
      · have hx : xs[i]? = some xs[i] := by simp [hlt]
        rw [List.drop_eq_getElem_cons hlt] at hl
        unfold lcLoop at hl
        split at hl
        · next hc =>
          refine .inr ⟨wk.go i φi Si H' hlt ei si hc, fun H'' => ∃ φi Si acc us, Evo φ1 H1 φi H'' ∧ StOk K mg φi Si H'' ∧ D ∉ φi ∧ H'' D = some (.lst us) ∧ Dens K mg φi H'' us acc ∧ lcLoop g step (xs.drop (i + 1)) acc Si = some (ds, S2),
            fun H'' hN => ⟨xs.length - (i + 1), by omega, by omega, rfl, hN⟩, fun x H2 hy => ?_⟩
          obtain ⟨d, hd, e2, s2, dx⟩ := wk.yld i φi Si H' x H2 hlt ei si hc hy
          rw [hx] at hd
          cases hd
          split at hl
          · cases hl
          · next S3 h3 =>
            rw [← hstep] at h3
            simp only at h3
            split at h3
            · cases h3
            · next ρ' hb =>
              refine ⟨φi, wipeD ρ vs, xs[i], ρ', ((he.evo e1).evo (ei.trans e2)).wipe vs, dx, hb, fun σ2 hσ2 hw2 => ⟨by rw [hw2 vs hvs, wipe_wipe], ?_⟩⟩
              split at h3
              · cases h3
              · next S4 h4 =>
                cases h3
                refine ⟨φi, ρ', Si, false, _, hσ2, s2, h4, fun φ3 H3 e3 s3 => iteF ?_⟩
                have eD := e2.out D _ hDi nD
                exact ⟨φ3, _, acc, us, ei.trans (e2.trans e3), s3, e3.notin eD nD, e3.out D _ eD nD, (di.evo e2).evo e3, hl⟩
              · next S4 h4 =>
                split at h3
                · cases h3
                · cases h3
          · next dd S3 h3 =>
            rw [← hstep] at h3
            simp only at h3
            split at h3
            · cases h3
            · next ρ' hb =>
              refine ⟨φi, wipeD ρ vs, xs[i], ρ', ((he.evo e1).evo (ei.trans e2)).wipe vs, dx, hb, fun σ2 hσ2 hw2 => ⟨by rw [hw2 vs hvs, wipe_wipe], ?_⟩⟩
              split at h3
              · cases h3
              · cases h3
              · next S4 h4 =>
                split at h3
                · cases h3
                · next w' S5 h5 =>
                  cases h3
                  split at hl
                  · next hlen =>
                    refine ⟨φi, ρ', Si, true, S4, hσ2, s2, h4, fun φ3 H3 e3 s3 => iteT ⟨φ3, ρ', S4, w', S5, hσ2.evo e3, s3, h5, fun v φ4 H4 e4 s4 d4 f4 => ?_⟩⟩
                    have eD2 := e2.out D _ hDi nD
                    have eD3 := e3.out D _ eD2 nD
                    have nD3 := e3.notin eD2 nD
                    have eD4 := e4.out D _ eD3 nD3
                    obtain ⟨φ5, e5, s5, d5, hφ⟩ := mat_ok (φ₀ := φi) (H₀ := H2) (e3.trans e4) s4 d4 (f4.back e3.thr)
                    have nD5 := e5.notin eD2 nD
                    refine ⟨us, eD4, by rw [di.length]; exact LN_lt hlen, φ5, _, _, _, (ei.trans (e2.trans e5)).upd hD, s5.updN eD4 stb_lst nD5, nD5, upd_same, ?_, hl⟩
                    exact Dens.updN eD4 stb_lst (((di.evo e2).evo e5).snoc d5)
                  · cases hl
        · cases hl
      · have hi' : i = xs.length := by omega
        subst hi'
        rw [List.drop_length] at hl
        unfold lcLoop at hl
        split at hl
        · next hc =>
          cases hl
          exact .inl ⟨wk.stop φi _ H' ei si hc, q _ φi H' (e1.trans ei) si ⟨D, us, rfl, nD, hDi, di⟩ ⟨D, rfl, e1.thr D hD⟩⟩
        · cases hl
theorem tApp_of {K : PySem.W.Frag} {mg : Str → Option Value} {o e : E} {σ : L2.St} {H : Hp} {Q : VK} (h : tW K mg (evW T cl (.app o e)) σ H Q) :
    tBM K "list" rAppend (tW K mg (evW T cl o)) (tCons (tW K mg (evW T cl e)) tNil) σ H Q := by
  obtain ⟨φ, ρ, S, w, S', he, hs, hf, q⟩ := h
  unfold evW at hf
  split at hf
  · next n S1 h1 =>
    split at hf
    · next ys h0 =>
      split at hf
      · cases hf
      · next w' S2 h2 =>
        split at hf
        · next xs h3 =>
          split at hf
          · next hl =>
            cases hf
            refine ⟨φ, ρ, S, _, S1, he, hs, h1, fun v φ1 H1 e1 s1 d1 f1 => ?_⟩
            cases (show Den K mg φ1 H1 v (.ref n) from d1) with
            | @ref a _ hn =>
              obtain ⟨vs0, g1, _⟩ := s1.obj _ _ _ hn h0
              refine ⟨.inl ⟨rfl, vs0, SqL.of g1⟩, φ1, ρ, S1, w', S2, he.evo e1, s1, h2, fun u φ2 H2 e2 s2 d2 f2 => ?_⟩
              obtain ⟨φ3, e3, s3, d3, hφ⟩ := mat_ok (φ₀ := φ) (H₀ := H) (e1.trans e2) s2 d2 (f2.back e1.thr)
              have hn3 : φ3[n]? = some a := by
                rcases hφ with rfl | ⟨b, zs, _, _, rfl⟩
                · exact e2.pre hn
                · have := e2.pre hn
                  have hlt : n < φ2.length := by
                    rcases Nat.lt_or_ge n φ2.length with z | z
                    · exact z
                    · rw [List.getElem?_eq_none z] at this; cases this
                  rw [List.getElem?_append_left hlt]
                  exact this
              obtain ⟨vs, g2, g3⟩ := s3.obj _ _ _ hn3 h3
              refine ⟨_, vs, u, rfl, rfl, g2, by rw [g3.length]; exact LN_lt hl, ?_⟩
              refine q _ φ3 _ (e3.trans (Evo.write s3 (List.mem_of_getElem? hn3))) (s3.write hn3 ⟨_, upd_same, ?_⟩) .non trivial
              exact Dens.updN g2 stb_lst (g3.snoc d3)
          · cases hf
        · cases hf
    · cases hf
  · cases hf
end
end Z

set_option Elab.async false
set_option linter.all false
set_option maxRecDepth 100000
/-! ZQ: the evaluator is right: methods, chains of four, dicts made, ranges laid out. -/
namespace Z
open PySem PySem.Spec PyProof.Rows L2
theorem XOk.u67 {T : Tab} {cl : Calls} {N : List Str} {df : Str → Bool} {sc : Scope} {k : Nat} {X : Cx} (x : XOk T cl N df sc k X) : X.A.units + 67 < cLine := by have := x.room.un; omega
theorem mt_slots (m : Mt) : PlainAttrs (mtTy m) ∧ Slot (mtTy m) (mtName m) (mtId m) ∧ typeOf (.builtin (mtId m)) = pure (.type "method_descriptor") := by
  cases m
  · exact ⟨PySem.F.plainAttrs_list, PySem.F.slot_list_pop, PySem.F.type_list_pop⟩
  · exact ⟨PySem.F.plainAttrs_list, PySem.F.slot_list_pop, PySem.F.type_list_pop⟩
  · exact ⟨PySem.F.plainAttrs_list, PySem.F.slot_list_extend, PySem.F.type_list_extend⟩
  · exact ⟨PySem.F.plainAttrs_list, PySem.F.slot_list_remove, PySem.F.type_list_remove⟩
  · exact ⟨PySem.F.plainAttrs_list, PySem.F.slot_list_index, PySem.F.type_list_index⟩
  · exact ⟨PySem.F.plainAttrs_dict, PySem.F.slot_dict_get, PySem.F.type_dict_get⟩
  · exact ⟨PySem.F.plainAttrs_dict, PySem.F.slot_dict_get, PySem.F.type_dict_get⟩
  · exact ⟨PySem.F.plainAttrs_dict, PySem.F.slot_dict_setdefault, PySem.F.type_dict_setdefault⟩
section
variable {T : Tab} {cl : Calls} {X : Cx} {σ : L2.St} {H : Hp} {Q : VK}
theorem tMth_of {m : Mt} {o as : E} (h : tW X.K X.mg (evW T cl (.mth m o as)) σ H Q) : tMS X (mtTy m) (vMth X.K X.mg m) (tW X.K X.mg (evW T cl o)) (tAs X.K X.mg (evs T cl as)) σ H Q := by
  obtain ⟨φ, ρ, S, w, S', he, hs, hf, q⟩ := h
  unfold evW at hf
  split at hf
  · cases hf
  · next x S1 h1 =>
    split at hf
    · next hm =>
      split at hf
      · cases hf
      · next ws S2 h2 =>
        exact ⟨φ, ρ, S, x, S1, he, hs, h1, fun v φ1 H1 e1 s1 d1 f1 => ⟨mtOk_ty s1 d1 hm, φ1, ρ, S1, ws, S2, he.evo e1, s1, h2, fun us φ2 H2 e2 s2 d2 f2 =>
          ⟨φ1, H1, φ2, S2, x, ws, w, S', e2, s2, d1.evo e2, d2, f2, hf, fun t φ' H' e3 s3 d3 f3 => q t φ' H' (e1.trans e3) s3 d3 (f3.back e1.thr)⟩⟩⟩
    · cases hf
theorem tMth0_of {m : Mt} {o : E} (h : tW X.K X.mg (evW T cl (.mth m o .nil)) σ H Q) : tMS0 X (mtTy m) (vMth X.K X.mg m) (tW X.K X.mg (evW T cl o)) σ H Q := by
  obtain ⟨φ, ρ, S, w, S', he, hs, hf, q⟩ := h
  unfold evW at hf
  split at hf
  · cases hf
  · next x S1 h1 =>
    split at hf
    · next hm =>
      have e0 : evs T cl .nil ρ S1 = some ([], S1) := by unfold evs; rfl
      rw [e0] at hf
      exact ⟨φ, ρ, S, x, S1, he, hs, h1, fun v φ1 H1 e1 s1 d1 f1 => ⟨mtOk_ty s1 d1 hm,
          φ1, H1, φ1, S1, x, [], w, S', Evo.refl _ _, s1, d1, .nil, ⟨.nil, fun a z => nomatch z⟩, hf, fun t φ' H' e3 s3 d3 f3 => q t φ' H' (e1.trans e3) s3 d3 (f3.back e1.thr)⟩⟩
    · cases hf
theorem tChn3_of {K : PySem.W.Frag} {mg : Str → Option Value} {o1 o2 o3 : Cop} {a b c d : E} {σ : L2.St} {H : Hp} {Q : VK}
    (h : tW K mg (evW T cl (.chn3 o1 o2 o3 a b c d)) σ H Q) : tChain3 (vCmp K mg o1) (vCmp K mg o2) (vCmp K mg o3) (tW K mg (evW T cl a)) (tW K mg (evW T cl b)) (tW K mg (evW T cl c)) (tW K mg (evW T cl d)) σ H Q := by
  obtain ⟨φ, ρ, S, w, S', he, hs, hf, q⟩ := h
  unfold evW at hf
  split at hf
  · cases hf
  · next x S1 h1 =>
    split at hf
    · cases hf
    · next y S2 h2 =>
      refine ⟨φ, ρ, S, x, S1, he, hs, h1, fun v φ1 H1 e1 s1 d1 f1 => ⟨φ1, ρ, S1, y, S2, he.evo e1, s1, h2, fun u φ2 H2 e2 s2 d2 f2 => ?_⟩⟩
      split at hf
      · cases hf
      · next h3 =>
        cases hf
        exact ⟨φ2, _, x, y, false, s2, d1.evo e2, d2, h3, false, rfl, iteF (q _ φ2 H2 (e1.trans e2) s2 (.bl false) trivial)⟩
      · next h3 =>
        split at hf
        · cases hf
        · next z S3 h4 =>
          refine ⟨φ2, _, x, y, true, s2, d1.evo e2, d2, h3, true, rfl, iteT ⟨φ2, ρ, S2, z, _, (he.evo e1).evo e2, s2, h4, fun t φ3 H3 e3 s3 d3 f3 => ?_⟩⟩
          split at hf
          · cases hf
          · next h5 =>
            cases hf
            exact ⟨φ3, _, y, z, false, s3, d2.evo e3, d3, h5, false, rfl, iteF (q _ φ3 H3 ((e1.trans e2).trans e3) s3 (.bl false) trivial)⟩
          · next h5 =>
            split at hf
            · cases hf
            · next g S4 h6 =>
              cases h7 : cmpW S4 o3 z g with
              | none => rw [h7] at hf; cases hf
              | some kk =>
                rw [h7] at hf
                cases hf
                exact ⟨φ3, _, y, z, true, s3, d2.evo e3, d3, h5, true, rfl, iteT ⟨φ3, ρ, S3, g, _, ((he.evo e1).evo e2).evo e3, s3, h6, fun t4 φ4 H4 e4 s4 d4 f4 =>
                  ⟨φ4, _, z, g, kk, s4, d3.evo e4, d4, h7, q _ φ4 H4 (((e1.trans e2).trans e3).trans e4) s4 (.bl kk) trivial⟩⟩⟩
theorem tChn3T_of {K : PySem.W.Frag} {mg : Str → Option Value} {o1 o2 o3 : Cop} {a b c d : E} {σ : L2.St} {H : Hp} {Q : Bool → Hp → Prop}
    (h : tT K mg (evT T cl (.chn3 o1 o2 o3 a b c d)) σ H Q) : tTest (tChain3 (vCmp K mg o1) (vCmp K mg o2) (vCmp K mg o3) (tW K mg (evW T cl a)) (tW K mg (evW T cl b)) (tW K mg (evW T cl c)) (tW K mg (evW T cl d))) σ H Q := by
  obtain ⟨φ, ρ, S, w, S', he, hs, hf, q⟩ := h
  unfold evT at hf
  split at hf
  · cases hf
  · next x S1 h1 =>
    split at hf
    · cases hf
    · next y S2 h2 =>
      refine ⟨φ, ρ, S, x, S1, he, hs, h1, fun v φ1 H1 e1 s1 d1 f1 => ⟨φ1, ρ, S1, y, S2, he.evo e1, s1, h2, fun u φ2 H2 e2 s2 d2 f2 => ?_⟩⟩
      split at hf
      · cases hf
      · next h3 =>
        cases hf
        exact ⟨φ2, _, x, y, false, s2, d1.evo e2, d2, h3, false, rfl, iteF ⟨false, rfl, q φ2 H2 (e1.trans e2) s2⟩⟩
      · next h3 =>
        split at hf
        · cases hf
        · next z S3 h4 =>
          refine ⟨φ2, _, x, y, true, s2, d1.evo e2, d2, h3, true, rfl, iteT ⟨φ2, ρ, S2, z, _, (he.evo e1).evo e2, s2, h4, fun t φ3 H3 e3 s3 d3 f3 => ?_⟩⟩
          split at hf
          · cases hf
          · next h5 =>
            cases hf
            exact ⟨φ3, _, y, z, false, s3, d2.evo e3, d3, h5, false, rfl, iteF ⟨false, rfl, q φ3 H3 ((e1.trans e2).trans e3) s3⟩⟩
          · next h5 =>
            split at hf
            · cases hf
            · next g S4 h6 =>
              cases h7 : cmpW S4 o3 z g with
              | none => rw [h7] at hf; cases hf
              | some kk =>
                rw [h7] at hf
                cases hf
                exact ⟨φ3, _, y, z, true, s3, d2.evo e3, d3, h5, true, rfl, iteT ⟨φ3, ρ, S3, g, _, ((he.evo e1).evo e2).evo e3, s3, h6, fun t4 φ4 H4 e4 s4 d4 f4 =>
                  ⟨φ4, _, z, g, _, s4, d3.evo e4, d4, h7, _, rfl, q φ4 H4 (((e1.trans e2).trans e3).trans e4) s4⟩⟩⟩
theorem snd_ref {K : PySem.W.Frag} {mg : Str → Option Value} {φ φ' : List Addr} {H0 H' : Hp} {S : Sto} {p : Addr} {o : O} {Q : VK} (e : Evo φ H0 φ' H') (s : StOk K mg φ' S H') (h : H0 p = none) (n : p ∉ φ') (ob : ObjD K mg φ' H' p o)
    (q : ∀ v φ1 H1, Evo φ H0 φ1 H1 → StOk K mg φ1 (S ++ [o]) H1 → DenW K mg φ1 H1 v (.d (.ref S.length)) → FrW H0 v (.d (.ref S.length)) → Q v H1) : Q (.ref p) H' :=
  q (.ref p) (φ' ++ [p]) H' (e.put h) (s.put n ob) (.ref (by rw [← s.len, List.getElem?_append_right (Nat.le_refl _), Nat.sub_self]; rfl)) trivial
theorem tDNew_of {K : PySem.W.Frag} {mg : Str → Option Value} {deep : Bool} {σ : L2.St} {H : Hp} {Q : VK} (h : tW K mg (evW T cl (.dnew deep)) σ H Q) : (if deep = true then tDNewD σ H Q else tDNewK σ H Q) := by
  obtain ⟨φ, ρ, S, w, S', he, hs, hf, q⟩ := h
  unfold evW at hf
  cases hf
  cases deep with
  | true => exact fun p hp => snd_ref (o := .dd []) (Evo.new hp) (hs.new hp) hp (hs.fresh hp) ⟨[], upd_same, Nat.zero_le _, List.nodup_nil, .nil⟩ q
  | false => exact fun p hp => snd_ref (o := .dk []) (Evo.new hp) (hs.new hp) hp (hs.fresh hp) ⟨[], upd_same, .nil⟩ q
theorem tDdisp_of {K : PySem.W.Frag} {mg : Str → Option Value} {k v : E} {σ : L2.St} {H : Hp} {Q : VK} (h : tW K mg (evW T cl (.ddisp k v)) σ H Q) : tDisp1 K mg (tW K mg (evW T cl k)) (tW K mg (evW T cl v)) σ H Q := by
  intro p hp
  obtain ⟨φ, ρ, S, w, S', he, hs, hf, q⟩ := h
  unfold evW at hf
  split at hf
  · cases hf
  · next x S1 h1 =>
    split at hf
    · cases hf
    · next w2 S2 h2 =>
      split at hf
      · next kd =>
        split at hf
        · next hk =>
          cases hf
          have en : Evo φ H φ (upd H p (RawD p [])) := Evo.new hp
          refine ⟨φ, ρ, S, .d kd, S1, he.evo en, hs.new hp, h1, fun v1 φ1 H1 e1 s1 d1 f1 => ⟨φ1, ρ, S1, w2, S2, (he.evo en).evo e1, s1, h2, fun u φ2 H2 e2 s2 d2 f2 => ?_⟩⟩
          have hpn : p ∉ φ := hs.fresh hp
          have hp1 := e1.out p _ upd_same hpn
          have hpn1 := Evo.notin e1 upd_same hpn
          have hp2 := e2.out p _ hp1 hpn1
          have hpn2 := Evo.notin e2 hp1 hpn1
          obtain ⟨φ3, e3, s3, d3, hφ⟩ := mat_ok (φ₀ := φ1) (H₀ := H1) e2 s2 d2 f2
          have hpn3 := Evo.notin e3 hp1 hpn1
          have dk2 : Den K mg φ3 H2 v1 kd := Den.evo e3 (show Den K mg φ1 H1 v1 kd from d1)
          obtain ⟨_, xs, rfl⟩ := keyT_N hk
          cases hv : v1 with
          | ref b =>
            subst hv
            refine ⟨hp2, φ2, b, _, rfl, hk, Den.evo e2 (show Den K mg φ1 H1 (.ref b) _ from d1), fun uu ru => ?_⟩
            refine snd_ref (o := .dd [(.tup xs, (matW w2 S2).1)]) ((en.trans (e1.trans e3)).upd hp) (s3.updN hp2 stb_raw hpn3) hp hpn3 ⟨[(nk (.tup xs), b, uu)], upd_same, by show 1 ≤ sizeLine; decide, by simp, ?_⟩ q
            exact .cons ⟨rfl, hk, dk2.updN hp2 stb_raw, u, ru, d3.updN hp2 stb_raw⟩ .nil
          | _ => subst hv; cases (show Den K mg φ1 H1 _ (.tup xs) from d1)
        · cases hf
      · cases hf
/-- list(range(..)), tuple(range(..)) -/
theorem rng_dens {K : PySem.W.Frag} {mg : Str → Option Value} {φ : List Addr} {H : Hp} (a b : Int) : Dens K mg φ H (rgV a b) (rngL a (b - a).toNat) := by
  unfold rgV rngL
  generalize List.range (b - a).toNat = l
  induction l with
  | nil => exact .nil
  | cons i l ih => exact .cons (.int _) ih
theorem rngL_length (a : Int) (n : Nat) : (rngL a n).length = n := by unfold rngL; simp
theorem rg_ok {i j : Int} (hi : rngOk i = true) (hj : rngOk j = true) (hl : (j - i).toNat ≤ LN) : RgOk i j := by
  unfold rngOk at hi hj
  simp only [Bool.and_eq_true, decide_eq_true_eq] at hi hj
  exact ⟨hi.1, hi.2, hj.1, hj.2, Nat.le_trans hl (by decide)⟩
theorem rg_fin {K : PySem.W.Frag} {mg : Str → Option Value} {tp : Bool} {φ φ1 : List Addr} {H H1 : Hp} {S1 : Sto} {w : W} {i j : Int} {Q : VK} (e1 : Evo φ H φ1 H1) (s1 : StOk K mg φ1 S1 H1) (hw : w = if tp = true then .d (.tup (rngL i (j - i).toNat)) else .tmp (rngL i (j - i).toNat))
    (q : ∀ v φ' H', Evo φ H φ' H' → StOk K mg φ' S1 H' → DenW K mg φ' H' v w → FrW H v w → Q v H') :
    (tp = true → ∀ p its, H1 p = none → Q (.ref p) (upd H1 p (KTup its (rgV i j)))) ∧ (tp = false → ∀ p, H1 p = none → Q (.ref p) (upd H1 p (.lst (rgV i j)))) := by
  subst hw
  refine ⟨fun z p its hp => ?_, fun z p hp => ?_⟩
  · subst z
    exact q _ φ1 _ (e1.trans (Evo.new hp)) (s1.new hp) (.tup (.inl ⟨its, upd_same⟩) (rng_dens i j)) trivial
  · subst z
    exact q _ φ1 _ (e1.trans (Evo.new hp)) (s1.new hp) ⟨p, _, rfl, s1.fresh hp, upd_same, rng_dens i j⟩ ⟨p, rfl, e1.thr p hp⟩
theorem tLrng1_of {K : PySem.W.Frag} {mg : Str → Option Value} {tp : Bool} {a : E} {σ : L2.St} {H : Hp} {Q : VK} (h : tW K mg (evW T cl (.lrng tp (.cons a .nil))) σ H Q) :
    (tp = true → tTupRgK (tRg1 (tW K mg (evW T cl a))) σ H Q) ∧ (tp = false → tLstRg (tRg1 (tW K mg (evW T cl a))) σ H Q) := by
  obtain ⟨φ, ρ, S, w, S', he, hs, hf, q⟩ := h
  unfold evW at hf
  unfold evs evs at hf
  split at hf
  · cases hf
  · next ws S1 h0 =>
    split at h0
    · cases h0
    · next x S2 h1 =>
      cases h0
      unfold rngW at hf
      split at hf
      · next i hx =>
        cases hx
        split at hf
        · next hi =>
          simp only [Option.bind_some] at hf
          split at hf
          · next hl =>
            rw [rngL_length] at hl
            cases hf
            have z0 : rngOk 0 = true := by decide
            have key : ∀ v φ1 H1, Evo φ H φ1 H1 → StOk K mg φ1 S' H1 → DenW K mg φ1 H1 v (.d (.int i)) → _ := fun v φ1 H1 e1 s1 d1 => rg_fin (tp := tp) (i := 0) (j := i) e1 s1 (by rw [show (i - 0).toNat = i.toNat by omega]) q
            have ok : RgOk 0 i := rg_ok z0 hi (by rw [show (i - 0).toNat = i.toNat by omega]; exact hl)
            refine ⟨fun z => ⟨φ, ρ, S, _, _, he, hs, h1, fun v φ1 H1 e1 s1 d1 f1 => ?_⟩, fun z => ⟨φ, ρ, S, _, _, he, hs, h1, fun v φ1 H1 e1 s1 d1 f1 => ?_⟩⟩
            · cases (show Den K mg φ1 H1 v (.int i) from d1)
              exact ⟨i, rfl, ok, (key _ φ1 H1 e1 s1 d1).1 z⟩
            · cases (show Den K mg φ1 H1 v (.int i) from d1)
              exact ⟨i, rfl, ok, (key _ φ1 H1 e1 s1 d1).2 z⟩
          · cases hf
        · cases hf
      · next hx => cases hx
      · next hx => cases hx
      · cases hf
theorem tLrng2_of {K : PySem.W.Frag} {mg : Str → Option Value} {tp : Bool} {a b : E} {σ : L2.St} {H : Hp} {Q : VK} (h : tW K mg (evW T cl (.lrng tp (.cons a (.cons b .nil)))) σ H Q) :
    (tp = true → tTupRgK (tRg2 (tW K mg (evW T cl a)) (tW K mg (evW T cl b))) σ H Q) ∧ (tp = false → tLstRg (tRg2 (tW K mg (evW T cl a)) (tW K mg (evW T cl b))) σ H Q) := by
  obtain ⟨φ, ρ, S, w, S', he, hs, hf, q⟩ := h
  unfold evW at hf
  unfold evs evs evs at hf
  split at hf
  · cases hf
  · next ws S1 h0 =>
    split at h0
    · cases h0
    · next x S2 h1 =>
      split at h0
      · cases h0
      · next ws2 S3 h2 =>
        split at h2
        · cases h2
        · next y S4 h3 =>
          cases h2
          cases h0
          unfold rngW at hf
          split at hf
          · next hx => cases hx
          · next i j hx =>
            cases hx
            split at hf
            · next hi =>
              simp only [Bool.and_eq_true] at hi
              simp only [Option.bind_some] at hf
              split at hf
              · next hl =>
                rw [rngL_length] at hl
                cases hf
                have key : ∀ φ1 H1, Evo φ H φ1 H1 → StOk K mg φ1 S' H1 → _ := fun φ1 H1 e1 s1 => rg_fin (tp := tp) (i := i) (j := j) e1 s1 rfl q
                have ok : RgOk i j := rg_ok hi.1 hi.2 hl
                refine ⟨fun z => ⟨φ, ρ, S, _, _, he, hs, h1, fun v φ1 H1 e1 s1 d1 f1 => ⟨φ1, ρ, _, _, _, he.evo e1, s1, h3, fun u φ2 H2 e2 s2 d2 f2 => ?_⟩⟩, fun z => ⟨φ, ρ, S, _, _, he, hs, h1, fun v φ1 H1 e1 s1 d1 f1 => ⟨φ1, ρ, _, _, _, he.evo e1, s1, h3, fun u φ2 H2 e2 s2 d2 f2 => ?_⟩⟩⟩
                · cases (show Den K mg φ1 H1 v (.int i) from d1)
                  cases (show Den K mg φ2 H2 u (.int j) from d2)
                  exact ⟨i, j, rfl, rfl, ok, (key φ2 H2 (e1.trans e2) s2).1 z⟩
                · cases (show Den K mg φ1 H1 v (.int i) from d1)
                  cases (show Den K mg φ2 H2 u (.int j) from d2)
                  exact ⟨i, j, rfl, rfl, ok, (key φ2 H2 (e1.trans e2) s2).2 z⟩
              · cases hf
            · cases hf
          · next hx => cases hx
          · cases hf
theorem tDct_of {K : PySem.W.Frag} {mg : Str → Option Value} {deep : Bool} {a : E} {σ : L2.St} {H : Hp} {Q : VK} (h : tW K mg (evW T cl (.dct deep a)) σ H Q) : tCB (rDct K mg deep) (tCons (tW K mg (evW T cl a)) tNil) σ H Q := by
  obtain ⟨φ, ρ, S, w, S', he, hs, hf, q⟩ := h
  unfold evW at hf
  split at hf
  · cases hf
  · next x S1 h1 =>
    cases h2 : seqOf S1 x with
    | none => rw [h2] at hf; cases hf
    | some xs =>
      cases h3 : pairsW xs with
      | none => rw [h2] at hf; simp only [Option.bind_some, h3] at hf; cases hf
      | some ps =>
        cases h4 : dctO deep ps with
        | none => rw [h2] at hf; simp only [Option.bind_some, h3, h4] at hf; cases hf
        | some o =>
          rw [h2] at hf
          simp only [Option.bind_some, h3, h4] at hf
          cases hf
          exact ⟨φ, ρ, S, x, S1, he, hs, h1, fun v φ1 H1 e1 s1 d1 f1 => ⟨φ1, S1, v, x, xs, ps, o, rfl, s1, d1, h2, h3, h4, fun p z hp ob => snd_ref (e1.trans (Evo.new hp)) (s1.new hp) (e1.thr p hp) (s1.fresh hp) ob q⟩⟩
theorem tSitm_of {a : E} (h : tW X.K X.mg (evW T cl (.sitm a)) σ H Q) : tCB (rSitm X.K X.mg) (tCons (tMS0 X "dict" (rItemsO X.K X.mg) (tW X.K X.mg (evW T cl a))) tNil) σ H Q := by
  obtain ⟨φ, ρ, S, w, S', he, hs, hf, q⟩ := h
  unfold evW at hf
  split at hf
  · next n S1 h1 =>
    have go : ∀ o, S1[n]? = some o → isDO o = true → ordOk (itsO o) = true → w = .tmp (sortD (itsO o)) → S1 = S' → tCB (rSitm X.K X.mg) (tCons (tMS0 X "dict" (rItemsO X.K X.mg) (tW X.K X.mg (evW T cl a))) tNil) σ H Q := by
      rintro o ho hd hord rfl rfl
      refine ⟨φ, ρ, S, _, _, he, hs, h1, fun v φ1 H1 e1 s1 d1 f1 => ?_⟩
      obtain ⟨b, rfl, hn, ob⟩ := ref_at s1 d1 ho
      refine ⟨fun pins s σ v I r => ?_, φ1, b, o, rfl, rfl, ob, hd, fun p hp => ?_⟩
      · cases r
        exact o_type I ob hd
      · have s2 : StOk X.K X.mg φ1 S1 (upd H1 p (DX.itemsO p b)) := s1.new hp
        refine ⟨p, b, φ1, S1, o, rfl, upd_same, s2, s2.obj n b o hn ho, hd, hord, fun H2 gr t H' e3 s3 d3 f3 => ?_⟩
        have e2 : Evo φ H φ1 H2 := (e1.trans (Evo.new hp)).trans (evo_grow gr)
        exact q t φ1 H' (e2.trans e3) s3 d3 (f3.back e2.thr)
    split at hf
    · next kvs ho =>
      split at hf
      · next hord => cases hf; exact go _ ho rfl hord rfl rfl
      · cases hf
    · next kvs ho =>
      split at hf
      · next hord => cases hf; exact go _ ho rfl hord rfl rfl
      · cases hf
    · cases hf
  · cases hf
end
end Z

set_option Elab.async false
set_option linter.all false
set_option maxRecDepth 100000
/-! Z12: the evaluator is right: expressions. -/
namespace Z
open PySem PySem.Spec PyProof.Rows L2
section
variable {T : Tab} {cl : Calls} {N : List Str} {k : Nat}
theorem tNil_of {K : PySem.W.Frag} {mg : Str → Option Value} {σ : L2.St} {H : Hp} {Q : List V → Hp → Prop} (h : tAs K mg (evs T cl .nil) σ H Q) : tNil σ H Q := by
  obtain ⟨φ, ρ, S, ws, S', he, hs, hf, q⟩ := h
  unfold evs at hf
  cases hf
  exact q [] φ H (Evo.refl _ _) hs .nil ⟨.nil, fun a z => nomatch z⟩
theorem tCons_of {K : PySem.W.Frag} {mg : Str → Option Value} {a as : E} {σ : L2.St} {H : Hp} {Q : List V → Hp → Prop} (h : tAs K mg (evs T cl (.cons a as)) σ H Q) : tCons (tW K mg (evW T cl a)) (tAs K mg (evs T cl as)) σ H Q := by
  obtain ⟨φ, ρ, S, ws, S', he, hs, hf, q⟩ := h
  unfold evs at hf
  split at hf
  · cases hf
  · next w S1 h1 =>
    split at hf
    · cases hf
    · next ws' S2 h2 =>
      cases hf
      exact ⟨φ, ρ, S, w, S1, he, hs, h1, fun v φ1 H1 e1 s1 d1 f1 => ⟨φ1, ρ, S1, ws', _, he.evo e1, s1, h2, fun vs φ2 H2 e2 s2 d2 f2 =>
        q (v :: vs) φ2 H2 (e1.trans e2) s2 (.cons (d1.evo e2) d2) (FrWs.cons e1.thr d1 f1 f2)⟩⟩
theorem tWAnd_of {K : PySem.W.Frag} {mg : Str → Option Value} {a b as : E} {σ : L2.St} {H : Hp} {Q : VK} (h : tW K mg (evAnd T cl (.cons a (.cons b as))) σ H Q) : tAndV (tW K mg (evW T cl a)) (tW K mg (evAnd T cl (.cons b as))) σ H Q := by
  obtain ⟨φ, ρ, S, w, S', he, hs, hf, q⟩ := h
  unfold evAnd at hf
  split at hf
  · cases hf
  · next w' S1 h1 =>
    simp only at hf
    split at hf
    · cases hf
      refine ⟨φ, ρ, S, _, S', he, hs, h1, fun v φ1 H1 e1 s1 d1 f1 => ?_⟩
      cases (show Den K mg φ1 H1 v (.bl false) from d1)
      exact ⟨false, rfl, iteF (q _ φ1 H1 e1 s1 (.bl false) trivial)⟩
    · refine ⟨φ, ρ, S, _, S1, he, hs, h1, fun v φ1 H1 e1 s1 d1 f1 => ?_⟩
      cases (show Den K mg φ1 H1 v (.bl true) from d1)
      exact ⟨true, rfl, iteT ⟨φ1, ρ, S1, w, S', he.evo e1, s1, hf, fun v φ' H' e2 s2 d2 f2 => q v φ' H' (e1.trans e2) s2 d2 (f2.back e1.thr)⟩⟩
    · cases hf
theorem tWOr_of {K : PySem.W.Frag} {mg : Str → Option Value} {a b as : E} {σ : L2.St} {H : Hp} {Q : VK} (h : tW K mg (evOr T cl (.cons a (.cons b as))) σ H Q) : tOrV (tW K mg (evW T cl a)) (tW K mg (evOr T cl (.cons b as))) σ H Q := by
  obtain ⟨φ, ρ, S, w, S', he, hs, hf, q⟩ := h
  unfold evOr at hf
  split at hf
  · cases hf
  · next w' S1 h1 =>
    simp only at hf
    split at hf
    · cases hf
      refine ⟨φ, ρ, S, _, S', he, hs, h1, fun v φ1 H1 e1 s1 d1 f1 => ?_⟩
      cases (show Den K mg φ1 H1 v (.bl true) from d1)
      exact ⟨true, rfl, iteT (q _ φ1 H1 e1 s1 (.bl true) trivial)⟩
    · refine ⟨φ, ρ, S, _, S1, he, hs, h1, fun v φ1 H1 e1 s1 d1 f1 => ?_⟩
      cases (show Den K mg φ1 H1 v (.bl false) from d1)
      exact ⟨false, rfl, iteF ⟨φ1, ρ, S1, w, S', he.evo e1, s1, hf, fun v φ' H' e2 s2 d2 f2 => q v φ' H' (e1.trans e2) s2 d2 (f2.back e1.thr)⟩⟩
    · cases hf
theorem evAnd_one {a : E} {ρ : Env} {S : Sto} : evAnd T cl (.cons a .nil) ρ S = evW T cl a ρ S := by
  unfold evAnd
  split
  · next h => rw [h]
  · next h => rw [h]
theorem evOr_one {a : E} {ρ : Env} {S : Sto} : evOr T cl (.cons a .nil) ρ S = evW T cl a ρ S := by
  unfold evOr
  split
  · next h => rw [h]
  · next h => rw [h]
theorem tTAnd_of {K : PySem.W.Frag} {mg : Str → Option Value} {a as : E} {σ : L2.St} {H : Hp} {Q : Bool → Hp → Prop} (h : tT K mg (evTAnd T cl (.cons a as)) σ H Q) : tAnd (tT K mg (evT T cl a)) (tT K mg (evTAnd T cl as)) σ H Q := by
  obtain ⟨φ, ρ, S, w, S', he, hs, hf, q⟩ := h
  unfold evTAnd at hf
  split at hf
  · cases hf
  · next S1 h1 =>
    cases hf
    exact ⟨φ, ρ, S, _, _, he, hs, h1, fun φ1 H1 e1 s1 => iteF (q φ1 H1 e1 s1)⟩
  · next S1 h1 => exact ⟨φ, ρ, S, _, S1, he, hs, h1, fun φ1 H1 e1 s1 => iteT ⟨φ1, ρ, S1, w, S', he.evo e1, s1, hf, fun φ2 H2 e2 s2 => q φ2 H2 (e1.trans e2) s2⟩⟩
theorem tTOr_of {K : PySem.W.Frag} {mg : Str → Option Value} {a as : E} {σ : L2.St} {H : Hp} {Q : Bool → Hp → Prop} (h : tT K mg (evTOr T cl (.cons a as)) σ H Q) : tOr (tT K mg (evT T cl a)) (tT K mg (evTOr T cl as)) σ H Q := by
  obtain ⟨φ, ρ, S, w, S', he, hs, hf, q⟩ := h
  unfold evTOr at hf
  split at hf
  · cases hf
  · next S1 h1 =>
    cases hf
    exact ⟨φ, ρ, S, _, _, he, hs, h1, fun φ1 H1 e1 s1 => iteT (q φ1 H1 e1 s1)⟩
  · next S1 h1 => exact ⟨φ, ρ, S, _, S1, he, hs, h1, fun φ1 H1 e1 s1 => iteF ⟨φ1, ρ, S1, w, S', he.evo e1, s1, hf, fun φ2 H2 e2 s2 => q φ2 H2 (e1.trans e2) s2⟩⟩
theorem evTAnd_one {a : E} {ρ : Env} {S : Sto} : evTAnd T cl (.cons a .nil) ρ S = evT T cl a ρ S := by
  unfold evTAnd
  split
  · next h => rw [h]
  · next h => rw [h]
  · next h => rw [h]; unfold evTAnd; rfl
theorem evTOr_one {a : E} {ρ : Env} {S : Sto} : evTOr T cl (.cons a .nil) ρ S = evT T cl a ρ S := by
  unfold evTOr
  split
  · next h => rw [h]
  · next h => rw [h]
  · next h => rw [h]; unfold evTOr; rfl
theorem tTNot_of {K : PySem.W.Frag} {mg : Str → Option Value} {a : E} {σ : L2.St} {H : Hp} {Q : Bool → Hp → Prop} (h : tT K mg (evT T cl (.not a)) σ H Q) : tNot (tT K mg (evT T cl a)) σ H Q := by
  obtain ⟨φ, ρ, S, w, S', he, hs, hf, q⟩ := h
  unfold evT at hf
  split at hf
  · cases hf
  · next b S1 h1 =>
    cases hf
    exact ⟨φ, ρ, S, b, _, he, hs, h1, fun φ1 H1 e1 s1 => q φ1 H1 e1 s1⟩
theorem tWNot_of {K : PySem.W.Frag} {mg : Str → Option Value} {a : E} {σ : L2.St} {H : Hp} {Q : VK} (h : tW K mg (evW T cl (.not a)) σ H Q) : tNotT K (tW K mg (evW T cl a)) σ H Q := by
  obtain ⟨φ, ρ, S, w, S', he, hs, hf, q⟩ := h
  unfold evW at hf
  split at hf
  · cases hf
  · next w' S1 h1 =>
    cases h2 : truW S1 w' with
    | none => rw [h2] at hf; cases hf
    | some b =>
      rw [h2] at hf
      cases hf
      exact ⟨φ, ρ, S, w', _, he, hs, h1, fun v φ1 H1 e1 s1 d1 f1 => ⟨b, tru_of s1 d1 h2, q _ φ1 H1 e1 s1 (.bl _) trivial⟩⟩
theorem tNeg_of {K : PySem.W.Frag} {mg : Str → Option Value} {a : E} {σ : L2.St} {H : Hp} {Q : VK} (h : tW K mg (evW T cl (.neg a)) σ H Q) : tUn (rU fun i => .int (-i)) (tW K mg (evW T cl a)) σ H Q := by
  obtain ⟨φ, ρ, S, w, S', he, hs, hf, q⟩ := h
  unfold evW at hf
  split at hf
  · next i S1 h1 =>
    cases hf
    refine ⟨φ, ρ, S, _, _, he, hs, h1, fun v φ1 H1 e1 s1 d1 f1 => ?_⟩
    cases (show Den K mg φ1 H1 v (.int i) from d1)
    exact ⟨i, rfl, q _ φ1 H1 e1 s1 (.int _) trivial⟩
  · cases hf
theorem tPart_of {K : PySem.W.Frag} {mg : Str → Option Value} {a b : E} {σ : L2.St} {H : Hp} {Q : Option Int → Hp → Prop} (h : tO K mg (evO T cl (.cons a b)) σ H Q) : tPart (tW K mg (evW T cl a)) σ H Q := by
  obtain ⟨φ, ρ, S, w, S', he, hs, hf, q⟩ := h
  unfold evO at hf
  split at hf
  · next i S1 h1 =>
    cases hf
    refine ⟨φ, ρ, S, _, _, he, hs, h1, fun v φ1 H1 e1 s1 d1 f1 => ?_⟩
    cases (show Den K mg φ1 H1 v (.int i) from d1)
    exact ⟨i, rfl, q φ1 H1 e1 s1⟩
  · cases hf
end

theorem boot_bi (b : BI) : bootBuiltins (Str.ofString (biName b)) = some (biVal b) := by
  cases b <;> decide +kernel
theorem dun_bi (b : BI) : Str.ofString (biName b) ≠ "__name__" := by cases b <;> decide
theorem pe_bi {X : Cx} {x : Str} {p pos : Pos} {e : Expr} {es : List Expr} {t : TA} {b : BI} {r : List V → Hp → VK → Prop} (hc : CallR X (biVal b) r) (hg : Gl X x) (hm : X.mg x = none) (hv : bootBuiltins x = some (biVal b)) (ha : PA X (e :: es) t) (hn : x ≠ "__name__") (hdb : (x == ("__debug__" : Str)) = false)
    (he : starEach (e :: es) X.env = (false, eval e X.env) :: starEach es X.env) (hpl : (backTo pos (starEach es X.env)).any (·.1) = false) : PE X (.Call (.Name x p) (e :: es) [] pos) (tCB r t) := by
  unfold biVal at hc hv
  by_cases h : biTy b = true
  · rw [if_pos h] at hc hv
    exact pe_callTy hc hg hm hv ha hn hdb he hpl
  · rw [if_neg h] at hc hv
    exact pe_callB hc hg hm hv ha hn hdb he hpl
section
variable {T : Tab} {cl : Calls} {N : List Str} {k : Nat}
theorem pe_lcall {df : Str → Bool} {sc : Scope} {X : Cx} (x : XOk T cl N df sc k X) {i : Nat} {g : Str} {as : E} {e : Expr} {es : List Expr} {p pos : Pos} (hv : varB N sc i g = true) (ha : PA X (e :: es) (tAs X.K X.mg (evs T cl as))) (hA : okA T N as sc (e :: es) = true) :
    PE X (.Call (.Name g p) (e :: es) [] pos) (tW X.K X.mg (evW T cl (.lcall i g as))) := by
  refine ⟨fun pins s σ H Q I h => ?_⟩
  obtain ⟨φ, ρ, S, w, S', he, hs, hf, q⟩ := h
  unfold varB at hv
  simp only [Bool.and_eq_true, decide_eq_true_eq] at hv
  have hst := okA_star hA
  have hst' : noStar e = true ∧ es.all noStar = true := by simpa using hst
  unfold evW at hf
  split at hf
  · next f hρ =>
    split at hf
    · cases hf
    · next ws S1 h1 =>
      split at hf
      · next hn =>
        obtain ⟨a, fd, ps, g1, g2, g3, g4, F⟩ := (x.calls f ws.length hn).ex
        obtain ⟨v, hσ, dv⟩ := he.at' i _ hρ
        cases dv with
        | fn hm =>
          rw [g1] at hm
          cases hm
          have hN : X.N[i]? = some g := by rw [x.xn.hN]; exact hv.1.1
          have hvis : Vis X.env.scope g := by rw [x.xn.hsc]; exact vis_of hv.1.2
          refine (pe_callL (i := i) (f := a) (dvs := []) (E := E0) F x.room hN hvis g2 g3 .nil pass0 ha (dun1 hv.2) (dun2 hv.2) (star_cons hst'.1 _ _) (noStars hst'.2 _ _)).run pins s σ H Q I ⟨hσ, ?_⟩
          exact tcall_of he hs h1 rfl hf q
      · cases hf
  · cases hf

/-! ### displays of dicts -/
def trsOf (K : PySem.W.Frag) (mg : Str → Option Value) (T : Tab) (cl : Calls) : List Key → E → List (TE × TE)
  | k :: ks, .cons a as => (fun σ H Q => Q (kV k) H, tW K mg (evW T cl a)) :: trsOf K mg T cl ks as
  | _, _ => []
theorem okKs_len : ∀ {ks : List Key} {keys : List (Option Expr)}, okKs ks keys = true → ks.length = keys.length ∧ keys.all (·.isSome) = true
  | [], keys, h => by
    cases keys with
    | nil => exact ⟨rfl, rfl⟩
    | cons _ _ => cases h
  | .inl i :: ks, keys, h => by
    unfold okKs at h
    split at h
    · next j kk p l =>
      simp only [Bool.and_eq_true] at h
      obtain ⟨h1, h2⟩ := okKs_len h.2
      exact ⟨by simp [h1], by simpa using h2⟩
    · cases h
  | .inr i :: ks, keys, h => by
    unfold okKs at h
    split at h
    · next j kk p l =>
      simp only [Bool.and_eq_true] at h
      obtain ⟨h1, h2⟩ := okKs_len h.2
      exact ⟨by simp [h1], by simpa using h2⟩
    · cases h
theorem pkey_ok {X : Cx} : ∀ {k : Key} {ks : List Key} {keys : List (Option Expr)}, okKs (k :: ks) keys = true → ∃ e l, keys = some e :: l ∧ okKs ks l = true ∧ PE X e (fun _ H Q => Q (kV k) H)
  | .inl i, ks, keys, h => by
    unfold okKs at h
    split at h
    · simp only [Bool.and_eq_true, decide_eq_true_eq] at h
      obtain ⟨rfl, h2⟩ := h
      exact ⟨_, _, rfl, h2, PE.imp pe_int fun σ H Q hw => hw⟩
    · cases h
  | .inr i, ks, keys, h => by
    unfold okKs at h
    split at h
    · simp only [Bool.and_eq_true, decide_eq_true_eq] at h
      obtain ⟨rfl, h2⟩ := h
      exact ⟨_, _, rfl, h2, PE.imp pe_str fun σ H Q hw => hw⟩
    · cases h
theorem tPairs_of {K : PySem.W.Frag} {mg : Str → Option Value} {sc : Scope} : ∀ {ks : List Key} {as : E} {es : List Expr} {σ : L2.St} {H : Hp} {Q : List (V × V) → Hp → Prop}, okA T N as sc es = true → ks.length = es.length →
    tAs K mg (evs T cl as) σ H (fun us H' => Q ((ks.map kV).zip us) H') → tPairs (trsOf K mg T cl ks as) σ H Q
  | [], as, es, σ, H, Q, ha, hl, h => by
    cases es with
    | cons _ _ => simp at hl
    | nil =>
      cases as with
      | nil =>
        unfold trsOf tPairs
        exact tNil_of h
      | _ => exact absurd ha (by unfold okA; exact Bool.false_ne_true)
  | k :: ks, as, es, σ, H, Q, ha, hl, h => by
    cases es with
    | nil => simp at hl
    | cons e es =>
      cases as with
      | cons a as =>
        unfold okA at ha
        simp only [Bool.and_eq_true] at ha
        unfold trsOf tPairs
        have h' := tCons_of h
        obtain ⟨φ, ρ, S, w, S', he, hs, hf, q⟩ := h'
        refine ⟨φ, ρ, S, w, S', he, hs, hf, fun v φ1 H1 e1 s1 d1 f1 => ?_⟩
        exact tPairs_of (Q := fun ps H' => Q ((kV k, v) :: ps) H') ha.2 (by simpa using hl) (q v φ1 H1 e1 s1 d1 f1)
      | _ => exact absurd ha (by unfold okA; exact Bool.false_ne_true)
theorem KD.merge {K : PySem.W.Frag} {mg : Str → Option Value} {φ : List Addr} {H : Hp} : ∀ {ks : List Key} {us : List V} {ds : List D} {vs : List (Key × V)} {kvs : List (Key × D)}, KD K mg φ H vs kvs → Dens K mg φ H us ds → ks.length = us.length →
    KD K mg φ H (mergeK vs (ks.zip us)) (mergeD kvs ks ds)
  | [], us, ds, vs, kvs, h, hd, hl => by
    cases us with
    | cons _ _ => simp at hl
    | nil => cases hd; exact h
  | k :: ks, us, ds, vs, kvs, h, hd, hl => by
    cases hd with
    | nil => simp at hl
    | cons hv hd => exact KD.merge (ks := ks) (KD.put h hv) hd (by simpa using hl)
theorem zip_kv : ∀ (ks : List Key) (us : List V), (ks.map kV).zip us = (ks.zip us).map fun kv => (kV kv.1, kv.2)
  | [], us => by simp
  | k :: ks, [] => by simp
  | k :: ks, u :: us => by simp [zip_kv ks us]
theorem tDisp_of {K : PySem.W.Frag} {mg : Str → Option Value} {sc : Scope} {ks : List Key} {as : E} {es : List Expr} {σ : L2.St} {H : Hp} {Q : VK} (ha : okA T N as sc es = true) (hl : ks.length = es.length) (h15 : ks.length ≤ 15)
    (h : tW K mg (evW T cl (.disp ks as)) σ H Q) : tDisp (trsOf K mg T cl ks as) σ H Q := by
  intro p hp
  obtain ⟨φ, ρ, S, w, S', he, hs, hf, q⟩ := h
  unfold evW at hf
  split at hf
  · cases hf
  · next ws S1 h1 =>
    split at hf
    · next hlen =>
      cases hf
      have en : Evo φ H φ (upd H p (.dK [])) := Evo.new hp
      refine tPairs_of ha hl ⟨φ, ρ, S, ws, S1, he.evo en, hs.new hp, h1, fun vs φ1 H1 e1 s1 d1 f1 => ?_⟩
      have hpn : p ∉ φ := hs.fresh hp
      have hp1 : H1 p = some (.dK []) := e1.out p _ upd_same hpn
      refine ⟨hp1, ks.zip vs, zip_kv ks vs, Nat.le_trans (by rw [List.length_zip]; exact Nat.min_le_left _ _) h15, ?_⟩
      obtain ⟨φ2, e2, s2, d2, _⟩ := mats_ok e1 s1 d1 f1
      have hp2 : p ∉ φ2 := Evo.notin e2 upd_same hpn
      have hvl : ks.length = vs.length := by rw [Dens.len2 d1, hlen]
      have kd : KD K mg φ2 H1 (mergeK [] (ks.zip vs)) (mergeD [] ks (matsW ws S1).1) := KD.merge .nil d2 hvl
      have s3 := s2.updN (o := .dK (mergeK [] (ks.zip vs))) hp1 stb_dK hp2
      have e3 : Evo φ H φ2 (upd H1 p (.dK (mergeK [] (ks.zip vs)))) := (en.trans e2).upd hp
      refine q (.ref p) (φ2 ++ [p]) _ (e3.put hp) (s3.put hp2 ⟨_, upd_same, KD.updN hp1 stb_dK kd⟩) (.ref ?_) trivial
      rw [← s3.len, List.getElem?_append_right (Nat.le_refl _), Nat.sub_self]; rfl
    · cases hf

mutual
theorem pe_ok : ∀ (t : E) {df : Str → Bool} {sc : Scope} {X : Cx} (x : XOk T cl N df sc k X) (e : Expr), okE T N t sc e = true → PE X e (tW X.K X.mg (evW T cl t))
  | .var i y, df, sc, X, x, e, h => by
    cases e with
    | Name z pos =>
      unfold okE varB at h
      simp only [Bool.and_eq_true, decide_eq_true_eq] at h
      obtain ⟨rfl, ⟨h1, h2⟩, h3⟩ := h
      exact PE.imp (pe_var (i := i) (by rw [x.xn.hN]; exact h1) (by rw [x.xn.hsc]; exact vis_of h2) (dun1 h3) (dun2 h3)) fun σ H Q hw => tW_var hw
    | _ => exact absurd h (by unfold okE; exact Bool.false_ne_true)
  | .cI i, df, sc, X, x, e, h => by
    cases e with
    | Constant c kk pos =>
      cases c with
      | int j =>
        unfold okE at h
        have := of_decide_eq_true h
        subst this
        exact PE.imp pe_int fun σ H Q hw => tW_cst (d := .int i) (fun _ _ => by unfold evW; rfl) (fun _ _ => .int i) hw
      | _ => exact absurd h (by unfold okE; exact Bool.false_ne_true)
    | _ => exact absurd h (by unfold okE; exact Bool.false_ne_true)
  | .cB b, df, sc, X, x, e, h => by
    cases e with
    | Constant c kk pos =>
      cases c with
      | bool j =>
        unfold okE at h
        have := of_decide_eq_true h
        subst this
        exact PE.imp pe_bl fun σ H Q hw => tW_cst (d := .bl b) (fun _ _ => by unfold evW; rfl) (fun _ _ => .bl b) hw
      | _ => exact absurd h (by unfold okE; exact Bool.false_ne_true)
    | _ => exact absurd h (by unfold okE; exact Bool.false_ne_true)
  | .cN, df, sc, X, x, e, h => by
    cases e with
    | Constant c kk pos =>
      cases c with
      | none => exact PE.imp pe_non fun σ H Q hw => tW_cst (d := .non) (fun _ _ => by unfold evW; rfl) (fun _ _ => .non) hw
      | _ => exact absurd h (by unfold okE; exact Bool.false_ne_true)
    | _ => exact absurd h (by unfold okE; exact Bool.false_ne_true)
  | .cS y, df, sc, X, x, e, h => by
    cases e with
    | Constant c kk pos =>
      cases c with
      | str j =>
        unfold okE at h
        have := of_decide_eq_true h
        subst this
        exact PE.imp pe_str fun σ H Q hw => tW_cst (d := .str y) (fun _ _ => by unfold evW; rfl) (fun _ _ => .str y) hw
      | _ => exact absurd h (by unfold okE; exact Bool.false_ne_true)
    | _ => exact absurd h (by unfold okE; exact Bool.false_ne_true)
  | .glob y, df, sc, X, x, e, h => by
    cases e with
    | Name z pos =>
      unfold okE at h
      simp only [Bool.and_eq_true, decide_eq_true_eq] at h
      obtain ⟨⟨⟨rfl, h1⟩, h2⟩, h3⟩ := h
      obtain ⟨d, hd⟩ := Option.isSome_iff_exists.mp h3
      obtain ⟨u, v, g1, g2, g3⟩ := x.glb y d hd
      exact PE.imp (pe_glob (by unfold Gl Env.kindOf; rw [x.xn.hsc]; exact gl_of h1) g1 g2 (dun1 h2)) fun σ H Q hw => tW_cst (d := d) (fun _ _ => by unfold evW; rw [hd]; rfl) g3 hw
    | _ => exact absurd h (by unfold okE; exact Bool.false_ne_true)
  | .bin o a b, df, sc, X, x, e, h => by
    cases e with
    | BinOp l p r pos =>
      unfold okE at h
      simp only [Bool.and_eq_true, decide_eq_true_eq] at h
      obtain ⟨⟨rfl, h1⟩, h2⟩ := h
      refine PE.imp (pe_op (opr_bin (mg := X.mg) o) (pe_ok a x l h1) (pe_ok b x r h2)) fun σ H Q hw => ?_
      refine tW_op (g := fun S x y => binW S o x y) (fun v u H Q φ S x y z s d d' e k => ⟨φ, S, x, y, z, s, d, d', e, k⟩) ?_
      unfold evW at hw
      exact hw
    | _ => exact absurd h (by unfold okE; exact Bool.false_ne_true)
  | .neg a, df, sc, X, x, e, h => by
    cases e with
    | UnaryOp op l pos =>
      cases op with
      | USub =>
        unfold okE at h
        exact PE.imp (pe_un un_neg (pe_ok a x l h)) fun σ H Q hw => tNeg_of hw
      | _ => exact absurd h (by unfold okE; exact Bool.false_ne_true)
    | _ => exact absurd h (by unfold okE; exact Bool.false_ne_true)
  | .cmp o a b, df, sc, X, x, e, h => by
    unfold okE at h
    split at h
    · next l p r pos =>
      simp only [Bool.and_eq_true, decide_eq_true_eq] at h
      obtain ⟨⟨⟨rfl, hs⟩, h1⟩, h2⟩ := h
      refine PE.imp (pe_cmpR (opr_cmp (mg := X.mg) x.u64 o) (pe_ok a x l h1) (pe_ok b x r h2) (noMark hs _)) fun σ H Q hw => ?_
      refine tW_op (g := fun S x y => (cmpW S o x y).map fun z => .d (.bl z)) (fun v u H Q φ S x y z s d d' e k => ?_) ?_
      · cases hc : cmpW S o x y with
        | none => rw [hc] at e; cases e
        | some b => rw [hc] at e; cases e; exact ⟨φ, S, x, y, b, s, d, d', hc, k.old s (.bl b)⟩
      · obtain ⟨φ, ρ, S, w, S', he, hs, hf, q⟩ := hw
        refine ⟨φ, ρ, S, w, S', he, hs, ?_, q⟩
        unfold evW at hf
        unfold ev2
        split at hf
        · cases hf
        · next x1 S1 g1 =>
          split at hf
          · cases hf
          · next y1 S2 g2 =>
            try rw [g1]
            try simp only
            try rw [g2]
            try simp only
            cases hc : cmpW S2 o x1 y1 with
            | none => rw [hc] at hf; cases hf
            | some b => rw [hc] at hf; cases hf; rfl
    · cases h
  | .chn o1 o2 a b c, df, sc, X, x, e, h => by
    unfold okE at h
    split at h
    · next l p1 p2 r q pos =>
      simp only [Bool.and_eq_true, decide_eq_true_eq] at h
      obtain ⟨⟨⟨⟨⟨rfl, rfl⟩, hs⟩, h1⟩, h2⟩, h3⟩ := h
      exact PE.imp (pe_chain (opr_cmp (mg := X.mg) x.u64 o1) (opr_cmp (mg := X.mg) x.u64 o2) (pe_ok a x l h1) (pe_ok b x r h2) (pe_ok c x q h3) (by show behindInMarks _ q = false; exact noMark hs _)) fun σ H Q hw => tChn_of hw
    · cases h
  | .not a, df, sc, X, x, e, h => by
    cases e with
    | UnaryOp op l pos =>
      cases op with
      | Not =>
        unfold okE at h
        exact PE.imp (pe_notT (pe_ok a x l h)) fun σ H Q hw => tWNot_of hw
      | _ => exact absurd h (by unfold okE; exact Bool.false_ne_true)
    | _ => exact absurd h (by unfold okE; exact Bool.false_ne_true)
  | .and as, df, sc, X, x, e, h => by
    cases e with
    | BoolOp op es pos =>
      cases op with
      | And =>
        unfold okE at h
        refine PE.imp (peand_ok as x es h) fun σ H Q hw => ?_
        unfold evW at hw
        exact hw
      | _ => exact absurd h (by unfold okE; exact Bool.false_ne_true)
    | _ => exact absurd h (by unfold okE; exact Bool.false_ne_true)
  | .or as, df, sc, X, x, e, h => by
    cases e with
    | BoolOp op es pos =>
      cases op with
      | Or =>
        unfold okE at h
        refine PE.imp (peor_ok as x es h) fun σ H Q hw => ?_
        unfold evW at hw
        exact hw
      | _ => exact absurd h (by unfold okE; exact Bool.false_ne_true)
    | _ => exact absurd h (by unfold okE; exact Bool.false_ne_true)
  | .ite t a b, df, sc, X, x, e, h => by
    cases e with
    | IfExp c l r pos =>
      unfold okE at h
      simp only [Bool.and_eq_true] at h
      refine PE.imp (pe_ifExp (pt_ok t x c h.1.1) (pe_ok a x l h.1.2) (pe_ok b x r h.2)) fun σ H Q hw => tIf_of ?_
      unfold evW at hw
      exact hw
    | _ => exact absurd h (by unfold okE; exact Bool.false_ne_true)
  | .tup as, df, sc, X, x, e, h => by
    cases e with
    | Tuple es kk pos =>
      unfold okE at h
      exact PE.imp (pe_tupK (pa_ok as x es h)) fun σ H Q hw => tTup_of hw
    | _ => exact absurd h (by unfold okE; exact Bool.false_ne_true)
  | .lst as, df, sc, X, x, e, h => by
    cases e with
    | List es pos =>
      unfold okE at h
      exact PE.imp (pe_lst (pa_ok as x es h)) fun σ H Q hw => tLst_of hw
    | _ => exact absurd h (by unfold okE; exact Bool.false_ne_true)
  | .ix a i, df, sc, X, x, e, h => by
    cases e with
    | Subscript l r pos =>
      unfold okE at h
      simp only [Bool.and_eq_true] at h
      refine PE.imp (pe_ix (ixr_ix (mg := X.mg)) (pe_ok a x l h.1.2) (pe_ok i x r h.2) (plainIx h.1.1)) fun σ H Q hw => ?_
      refine tW_op (g := ixW) (fun v u H Q φ S x y z s d d' e k => ⟨φ, S, x, y, z, s, d, d', e, k⟩) ?_
      unfold evW at hw
      exact hw
    | _ => exact absurd h (by unfold okE; exact Bool.false_ne_true)
  | .dget a i, df, sc, X, x, e, h => by
    cases e with
    | Subscript l r pos =>
      unfold okE at h
      simp only [Bool.and_eq_true] at h
      refine PE.imp (pe_dgO (mg := X.mg) x.u64 (pe_ok a x l h.1.2) (pe_ok i x r h.2) (plainIx h.1.1)) fun σ H Q hw => ?_
      refine tW_op (g := dgetW) (fun v u H Q φ S x y z s d d' e k => ⟨φ, S, x, y, z, s, d, d', e, k⟩) ?_
      unfold evW at hw
      exact hw
    | _ => exact absurd h (by unfold okE; exact Bool.false_ne_true)
  | .slc a lo hi, df, sc, X, x, e, h => by
    unfold okE at h
    split at h
    · simp only [Bool.and_eq_true] at h
      exact PE.imp (pe_slice (slr_sl (mg := X.mg)) (pe_ok a x _ h.1.1) (po_ok lo x _ h.1.2) (po_ok hi x _ h.2)) fun σ H Q hw => tSl_of hw
    · cases h
  | .rev a, df, sc, X, x, e, h => by
    unfold okE at h
    split at h
    · simp only [Bool.and_eq_true, decide_eq_true_eq] at h
      obtain ⟨rfl, h⟩ := h
      refine ⟨fun pins s σ H Q I hw => ?_⟩
      rcases tRev_of hw with hw | hw
      · exact (pe_revL (pe_ok a x _ h)).run pins s σ H Q I hw
      · exact (ZR.pe_revT (pe_ok a x _ h)).run pins s σ H Q I hw
    · cases h
  | .call f as, df, sc, X, x, e, h => by
    unfold okE at h
    split at h
    · next g p es pos =>
      simp only [Bool.and_eq_true, decide_eq_true_eq] at h
      obtain ⟨⟨⟨⟨⟨rfl, h1⟩, h2⟩, h3⟩, h4⟩, h5⟩ := h
      cases es with
      | nil => simp at h5
      | cons e es =>
        obtain ⟨a, fd, ps, g1, g2, g3, g4, F⟩ := (x.calls f _ h3).ex
        have hst := okA_star h4
        have hst' : noStar e = true ∧ es.all noStar = true := by simpa using hst
        refine PE.imp (pe_call F x.room (by unfold Gl Env.kindOf; rw [x.xn.hsc]; exact gl_of h1) g1 g2 g3 .nil (E := E0) pass0 (pa_ok as x _ h4) (dun1 h2) (star_cons hst'.1 _ _) (noStars hst'.2 _ _)) fun σ H Q hw => ?_
        obtain ⟨φ, ρ, S, w, S', he, hs, hf, q⟩ := hw
        unfold evW at hf
        split at hf
        · cases hf
        · next ws S1 g5 => exact tcall_of he hs g5 (evs_len h4 g5) hf q
    · cases h
  | .lcall i y as, df, sc, X, x, e, h => by
    unfold okE at h
    split at h
    · next g p es pos =>
      simp only [Bool.and_eq_true, decide_eq_true_eq] at h
      obtain ⟨⟨⟨rfl, h1⟩, h4⟩, h5⟩ := h
      cases es with
      | nil => simp at h5
      | cons e es => exact pe_lcall x h1 (pa_ok as x _ h4) h4
    · cases h
  | .bi b as, df, sc, X, x, e, h => by
    unfold okE at h
    split at h
    · next g p es pos =>
      simp only [Bool.and_eq_true, decide_eq_true_eq] at h
      obtain ⟨⟨⟨⟨⟨hg, h1⟩, h2⟩, h3⟩, h4⟩, h5⟩ := h
      cases es with
      | nil => simp at h5
      | cons e es =>
        have hst := okA_star h4
        have hst' : noStar e = true ∧ es.all noStar = true := by simpa using hst
        exact PE.imp (pe_bi (callR_bi (mg := X.mg) x.xn.calm x.u67 b) (by unfold Gl Env.kindOf; rw [x.xn.hsc]; exact gl_of h1) (x.blt _ h3) (by rw [hg]; exact boot_bi b) (pa_ok as x _ h4) (dun3 h2) (dun1 h2) (star_cons hst'.1 _ _) (noStars hst'.2 _ _)) fun σ H Q hw => tBi_of hw
    · cases h
  | .lc own elt p it tst, df, sc, X, x, e, h => by
    unfold okE at h
    split at h
    · next l tg iter ifs asy scope pos =>
      simp only [Bool.and_eq_true, decide_eq_true_eq] at h
      obtain ⟨⟨⟨⟨⟨⟨⟨⟨rfl, h1⟩, h2⟩, h3⟩, h4⟩, h5⟩, h6⟩, h7⟩, h8⟩ := h
      refine PE.imp (pe_lc (own := own) x.xn.calm (by rw [x.xn.hN]; exact x.xn.nd) (pi_ok it x tg iter h4 h8) (by rw [x.xn.hN, x.xn.hsc]; exact blkOk_by h1)
        (fun s H C cl' fp => pg_ok (x.blk s H scope C cl' fp).xn p tg h5) (fun s H C cl' fp => ptc_ok tst (x.blk s H scope C cl' fp) ifs h6) (fun s H C cl' fp => pe_ok elt (x.blk s H scope C cl' fp) l h7) (fun y => noFold h3 _ _)) fun σ H Q hw => tLc_of h2 hw
    · cases h
  | .app o a, df, sc, X, x, e, h => by
    unfold okE at h
    split at h
    · next l nm ap y cp =>
      simp only [Bool.and_eq_true, decide_eq_true_eq] at h
      obtain ⟨⟨⟨⟨⟨rfl, h1⟩, h2⟩, h3⟩, h4⟩, h5⟩ := h
      refine PE.imp (pe_bm PySem.F.plainAttrs_list PySem.F.slot_list_append PySem.F.type_list_append mt_append (pe_ok o x l h4) (pa_cons (pe_ok a x y h5) pa_nil (star_cons h2 _ _)) (recvBase h1 _ _ _) ?_ h3 (star_cons h2 _ _) rfl) fun σ H Q hw => tApp_of hw
      rw [star_cons h2]
      rfl
    · cases h
  | .rng _, _, _, _, _, e, h => by cases e <;> exact absurd h (by unfold okE; exact Bool.false_ne_true)
  | .enm _, _, _, _, _, e, h => by cases e <;> exact absurd h (by unfold okE; exact Bool.false_ne_true)
  | .zip _ _, _, _, _, _, e, h => by cases e <;> exact absurd h (by unfold okE; exact Bool.false_ne_true)
  | .disp ks as, df, sc, X, x, e, h => by
    unfold okE at h
    split at h
    · next keys vals pos =>
      simp only [Bool.and_eq_true, decide_eq_true_eq, Bool.not_eq_true'] at h
      obtain ⟨⟨⟨⟨h1, h2⟩, h3⟩, h4⟩, h5⟩ := h
      obtain ⟨k1, k2⟩ := okKs_len h1
      refine PE.imp (pe_disp (pps_ok as x ks keys vals h1 h2 h3) k2 (by rw [← k1]; exact h3) (fun z => ?_) (by rw [← k1]; exact h4)) fun σ H Q hw => tDisp_of h2 h3 h4 hw
      rw [z] at k1
      cases ks with
      | nil => simp at h5
      | cons _ _ => simp at k1
    · cases h
  | .tst _, _, _, _, _, e, h => by cases e <;> exact absurd h (by unfold okE; exact Bool.false_ne_true)
  | .nil, _, _, _, _, e, h => by cases e <;> exact absurd h (by unfold okE; exact Bool.false_ne_true)
  | .cons _ _, _, _, _, _, e, h => by cases e <;> exact absurd h (by unfold okE; exact Bool.false_ne_true)
  | .mth m o as, df, sc, X, x, e, h => by
    unfold okE at h
    split at h
    · next l nm ap es cp =>
      simp only [Bool.and_eq_true, decide_eq_true_eq] at h
      obtain ⟨⟨⟨⟨⟨rfl, h1⟩, h3⟩, hl⟩, h4⟩, h5⟩ := h
      obtain ⟨g1, g2, g3⟩ := mt_slots m
      have hst := okA_star h5
      have ha := pa_ok as x es h5
      match es, hl, hst, ha, h5 with
      | [], _, _, _, h5 =>
        cases as with
        | nil => exact PE.imp (pe_ms0 g1 g2 g3 (mt_ok (mg := X.mg) x.u67 m) (pe_ok o x l h4) (recvBase h1 _ _ _) h3) fun σ H Q hw => tMth0_of hw
        | _ => exact absurd h5 (by unfold okA; exact Bool.false_ne_true)
      | [a], _, hst, ha, _ =>
        have hst' : noStar a = true := by simpa using hst
        exact PE.imp (pe_ms g1 g2 g3 (mt_ok (mg := X.mg) x.u67 m) (pe_ok o x l h4) ha (recvBase h1 _ _ _) (by rw [star1 hst']; rfl) h3 (star_cons hst' _ _) rfl) fun σ H Q hw => tMth_of hw
      | [a, b], _, hst, ha, _ =>
        have hst' : noStar a = true ∧ noStar b = true := by simpa using hst
        exact PE.imp (pe_ms g1 g2 g3 (mt_ok (mg := X.mg) x.u67 m) (pe_ok o x l h4) ha (recvBase h1 _ _ _) (by rw [star2 hst'.1 hst'.2]; rfl) h3 (star_cons hst'.1 _ _) (noStars (by simp [hst'.2]) _ _)) fun σ H Q hw => tMth_of hw
      | _ :: _ :: _ :: _, hl, _, _, _ => cases m <;> simp [mtAr] at hl
    · cases h
  | .chn3 o1 o2 o3 a b c d, df, sc, X, x, e, h => by
    unfold okE at h
    split at h
    · next l p1 p2 p3 r q u pos =>
      simp only [Bool.and_eq_true, decide_eq_true_eq] at h
      obtain ⟨⟨⟨⟨⟨⟨⟨rfl, rfl⟩, rfl⟩, hs⟩, h1⟩, h2⟩, h3⟩, h4⟩ := h
      exact PE.imp (pe_chain3 (opr_cmp (mg := X.mg) x.u64 o1) (opr_cmp (mg := X.mg) x.u64 o2) (opr_cmp (mg := X.mg) x.u64 o3) (pe_ok a x l h1) (pe_ok b x r h2) (pe_ok c x q h3) (pe_ok d x u h4) (by show behindInMarks _ u = false; exact noMark hs _)) fun σ H Q hw => tChn3_of hw
    · cases h
  | .dnew deep, df, sc, X, x, e, h => by
    unfold okE at h
    split at h
    · refine ⟨fun pins s σ H Q I hw => ?_⟩
      have hw' := tDNew_of hw
      cases deep with
      | true => exact pe_dnewD.run pins s σ H Q I hw'
      | false => exact pe_dnewK.run pins s σ H Q I hw'
    · cases h
  | .ddisp k v, df, sc, X, x, e, h => by
    unfold okE at h
    split at h
    · simp only [Bool.and_eq_true] at h
      exact PE.imp (pe_disp1 (mg := X.mg) x.u64 (pe_ok k x _ h.1) (pe_ok v x _ h.2)) fun σ H Q hw => tDdisp_of hw
    · cases h
  | .lrng tp as, df, sc, X, x, e, h => by
    unfold okE at h
    split at h
    · next g p1 r p2 es p3 p4 =>
      simp only [Bool.and_eq_true, Bool.or_eq_true, decide_eq_true_eq] at h
      obtain ⟨⟨⟨⟨⟨⟨⟨rfl, h1⟩, h2⟩, rfl⟩, h4⟩, h5⟩, h6⟩, h7⟩ := h
      have gl : ∀ {y : Str}, glB sc y = true → Gl X y := fun {y} hy => by unfold Gl Env.kindOf; rw [x.xn.hsc]; exact gl_of hy
      have hr := gl h4
      have hm := x.blt _ h5
      have hg1 := gl h1
      have hb := x.blt _ h2
      refine ⟨fun pins s σ H Q I hw => ?_⟩
      match es, h7, h6 with
      | [a], _, h6 =>
        cases as with
        | cons a1 as1 =>
          unfold okA at h6
          simp only [Bool.and_eq_true] at h6
          cases as1 with
          | nil =>
            have pr := prg_1 hr hm (pe_ok a1 x a h6.1.2) (star1 h6.1.1 _) (p := p2) (pos := p3)
            have hw' := tLrng1_of hw
            cases tp with
            | true => exact (pe_tupRgK x.xn.calm hg1 hb pr rfl).run pins s σ H Q I (hw'.1 rfl)
            | false => exact (pe_listRg x.xn.calm hg1 hb pr rfl).run pins s σ H Q I (hw'.2 rfl)
          | _ => exact absurd h6.2 (by unfold okA; exact Bool.false_ne_true)
        | _ => exact absurd h6 (by unfold okA; exact Bool.false_ne_true)
      | [a, b], _, h6 =>
        cases as with
        | cons a1 as1 =>
          unfold okA at h6
          simp only [Bool.and_eq_true] at h6
          cases as1 with
          | cons b1 as2 =>
            have h8 := h6.2
            unfold okA at h8
            simp only [Bool.and_eq_true] at h8
            cases as2 with
            | nil =>
              have pr := prg_2 hr hm (pe_ok a1 x a h6.1.2) (pe_ok b1 x b h8.1.2) (star_cons h6.1.1 _ _) (star1 h8.1.1 _) (noStars (by simp [h8.1.1]) _ _) (p := p2) (pos := p3)
              have hw' := tLrng2_of hw
              cases tp with
              | true => exact (pe_tupRgK x.xn.calm hg1 hb pr rfl).run pins s σ H Q I (hw'.1 rfl)
              | false => exact (pe_listRg x.xn.calm hg1 hb pr rfl).run pins s σ H Q I (hw'.2 rfl)
            | _ => exact absurd h8.2 (by unfold okA; exact Bool.false_ne_true)
          | _ => exact absurd h6.2 (by unfold okA; exact Bool.false_ne_true)
        | _ => exact absurd h6 (by unfold okA; exact Bool.false_ne_true)
      | [], h7, _ => simp at h7
      | _ :: _ :: _ :: _, h7, _ => simp at h7
    · cases h
  | .dct deep a, df, sc, X, x, e, h => by
    unfold okE at h
    split at h
    · next g p1 y p2 =>
      simp only [Bool.and_eq_true, decide_eq_true_eq] at h
      obtain ⟨⟨⟨⟨rfl, h1⟩, h2⟩, h3⟩, h4⟩ := h
      exact PE.imp (pe_callTy (cr_dct (mg := X.mg) x.xn.calm x.u67 deep) (by unfold Gl Env.kindOf; rw [x.xn.hsc]; exact gl_of h1) (x.blt _ h2) PyProof.Rows.boot_dict (pa_cons (pe_ok a x y h4) pa_nil (star1 h3 _)) (by decide) (by decide) (star1 h3 _) rfl) fun σ H Q hw => tDct_of hw
    · cases h
  | .sitm a, df, sc, X, x, e, h => by
    unfold okE at h
    split at h
    · next g p1 y nm ap cp p2 =>
      simp only [Bool.and_eq_true, decide_eq_true_eq] at h
      obtain ⟨⟨⟨⟨⟨⟨rfl, h1⟩, h2⟩, rfl⟩, h3⟩, h4⟩, h5⟩ := h
      exact PE.imp (pe_callB (cr_sitm (mg := X.mg) x.xn.calm x.u67) (by unfold Gl Env.kindOf; rw [x.xn.hsc]; exact gl_of h1) (x.blt _ h2) PyProof.Rows.boot_sorted
        (pa_cons (pe_ms0 PySem.F.plainAttrs_dict PySem.F.slot_dict_items PySem.F.type_dict_items (mt_itemsO (mg := X.mg)) (pe_ok a x y h5) (recvBase h3 _ _ _) h4) pa_nil rfl) (by decide) (by decide) rfl rfl) fun σ H Q hw => tSitm_of hw
    · cases h
theorem pt_ok : ∀ (t : E) {df : Str → Bool} {sc : Scope} {X : Cx} (x : XOk T cl N df sc k X) (e : Expr), okT T N t sc e = true → PT X e (tT X.K X.mg (evT T cl t))
  | .not a, df, sc, X, x, e, h => by
    unfold okT at h
    split at h
    · exact PT.imp (pt_not (pt_ok a x _ h)) fun σ H Q hw => tTNot_of hw
    · cases h
  | .and as, df, sc, X, x, e, h => by
    unfold okT at h
    split at h
    · simp only [Bool.and_eq_true] at h
      refine PT.imp (pwand_ok as x _ h.1 (by simpa using h.2)).pt fun σ H Q hw => ?_
      unfold evT at hw
      exact hw
    · cases h
  | .or as, df, sc, X, x, e, h => by
    unfold okT at h
    split at h
    · simp only [Bool.and_eq_true] at h
      refine PT.imp (pwor_ok as x _ h.1 (by simpa using h.2)).pt fun σ H Q hw => ?_
      unfold evT at hw
      exact hw
    · cases h
  | .cmp o a b, df, sc, X, x, e, h => by
    unfold okT at h
    split at h
    · next l p r pos =>
      simp only [Bool.and_eq_true, decide_eq_true_eq] at h
      obtain ⟨⟨⟨rfl, hs⟩, h1⟩, h2⟩ := h
      exact PT.imp (pt_cmpR (opr_cmp (mg := X.mg) x.u64 o) (pe_ok a x l h1) (pe_ok b x r h2) (noMark hs _)) fun σ H Q hw => tCmpT_of hw
    · cases h
  | .chn o1 o2 a b c, df, sc, X, x, e, h => by
    unfold okT at h
    split at h
    · next l p1 p2 r q pos =>
      simp only [Bool.and_eq_true, decide_eq_true_eq] at h
      obtain ⟨⟨⟨⟨⟨rfl, rfl⟩, hs⟩, h1⟩, h2⟩, h3⟩ := h
      exact PT.imp (pt_chain (opr_cmp (mg := X.mg) x.u64 o1) (opr_cmp (mg := X.mg) x.u64 o2) (pe_ok a x l h1) (pe_ok b x r h2) (pe_ok c x q h3) (by show behindInMarks _ q = false; exact noMark hs _)) fun σ H Q hw => tChnT_of hw
    · cases h
  | .chn3 o1 o2 o3 a b c d, df, sc, X, x, e, h => by
    unfold okT at h
    split at h
    · next l p1 p2 p3 r q u pos =>
      simp only [Bool.and_eq_true, decide_eq_true_eq] at h
      obtain ⟨⟨⟨⟨⟨⟨⟨rfl, rfl⟩, rfl⟩, hs⟩, h1⟩, h2⟩, h3⟩, h4⟩ := h
      exact PT.imp (pt_chain3 (opr_cmp (mg := X.mg) x.u64 o1) (opr_cmp (mg := X.mg) x.u64 o2) (opr_cmp (mg := X.mg) x.u64 o3) (pe_ok a x l h1) (pe_ok b x r h2) (pe_ok c x q h3) (pe_ok d x u h4) (by show behindInMarks _ u = false; exact noMark hs _)) fun σ H Q hw => tChn3T_of hw
    · cases h
  | .tst a, df, sc, X, x, e, h => by
    unfold okT at h
    simp only [Bool.and_eq_true] at h
    refine PT.imp (pt_truth (pe_ok a x e h.2) (plainTr h.1 _)) fun σ H Q hw => ?_
    refine tT_tru ?_
    unfold evT at hw
    exact hw
  | .var _ _, _, _, _, _, e, h | .cI _, _, _, _, _, e, h | .cB _, _, _, _, _, e, h | .cN, _, _, _, _, e, h | .cS _, _, _, _, _, e, h | .glob _, _, _, _, _, e, h | .bin _ _ _, _, _, _, _, e, h | .neg _, _, _, _, _, e, h | .ite _ _ _, _, _, _, _, e, h | .tup _, _, _, _, _, e, h | .lst _, _, _, _, _, e, h
  | .ix _ _, _, _, _, _, e, h | .dget _ _, _, _, _, _, e, h | .slc _ _ _, _, _, _, _, e, h | .call _ _, _, _, _, _, e, h | .lcall _ _ _, _, _, _, _, e, h | .bi _ _, _, _, _, _, e, h | .rng _, _, _, _, _, e, h | .enm _, _, _, _, _, e, h | .zip _ _, _, _, _, _, e, h | .lc _ _ _ _ _, _, _, _, _, e, h | .app _ _, _, _, _, _, e, h | .disp _ _, _, _, _, _, e, h | .rev _, _, _, _, _, e, h | .mth _ _ _, _, _, _, _, e, h | .dnew _, _, _, _, _, e, h | .ddisp _ _, _, _, _, _, e, h | .lrng _ _, _, _, _, _, e, h | .dct _ _, _, _, _, _, e, h | .sitm _, _, _, _, _, e, h | .nil, _, _, _, _, e, h | .cons _ _, _, _, _, _, e, h => by unfold okT at h; cases h
theorem pwand_ok : ∀ (t : E) {df : Str → Bool} {sc : Scope} {X : Cx} (x : XOk T cl N df sc k X) (es : List Expr) {pos : Pos}, okTs T N t sc es = true → es ≠ [] → PW X (.BoolOp .And es pos) (tT X.K X.mg (evTAnd T cl t))
  | .cons a as, df, sc, X, x, es, pos, h, hn => by
    cases es with
    | nil => exact absurd rfl hn
    | cons e es =>
      unfold okTs at h
      simp only [Bool.and_eq_true] at h
      cases es with
      | nil =>
        cases as with
        | nil =>
          refine PW.imp (pw_and1 (pt_ok a x e h.1)) fun σ H Q hw => ?_
          obtain ⟨φ, ρ, S, b, S', he, hs, hf, q⟩ := hw
          rw [evTAnd_one] at hf
          exact ⟨φ, ρ, S, b, S', he, hs, hf, q⟩
        | _ => exact absurd h.2 (by unfold okTs; exact Bool.false_ne_true)
      | cons e2 es =>
        exact PW.imp (pw_and (pt_ok a x e h.1) (pwand_ok as x (e2 :: es) h.2 (List.cons_ne_nil _ _))) fun σ H Q hw => tTAnd_of hw
  | .nil, _, _, _, _, es, _, h, hn => by
    cases es with
    | nil => exact absurd rfl hn
    | cons e es => unfold okTs at h; cases h
  | .var _ _, _, _, _, _, e, _, h, _ | .cI _, _, _, _, _, e, _, h, _ | .cB _, _, _, _, _, e, _, h, _ | .cN, _, _, _, _, e, _, h, _ | .cS _, _, _, _, _, e, _, h, _ | .glob _, _, _, _, _, e, _, h, _ | .bin _ _ _, _, _, _, _, e, _, h, _ | .neg _, _, _, _, _, e, _, h, _ | .ite _ _ _, _, _, _, _, e, _, h, _ | .tup _, _, _, _, _, e, _, h, _ | .lst _, _, _, _, _, e, _, h, _
  | .ix _ _, _, _, _, _, e, _, h, _ | .dget _ _, _, _, _, _, e, _, h, _ | .slc _ _ _, _, _, _, _, e, _, h, _ | .call _ _, _, _, _, _, e, _, h, _ | .lcall _ _ _, _, _, _, _, e, _, h, _ | .bi _ _, _, _, _, _, e, _, h, _ | .rng _, _, _, _, _, e, _, h, _ | .enm _, _, _, _, _, e, _, h, _ | .zip _ _, _, _, _, _, e, _, h, _ | .lc _ _ _ _ _, _, _, _, _, e, _, h, _ | .app _ _, _, _, _, _, e, _, h, _ | .disp _ _, _, _, _, _, e, _, h, _ | .rev _, _, _, _, _, e, _, h, _ | .mth _ _ _, _, _, _, _, e, _, h, _ | .chn3 _ _ _ _ _ _ _, _, _, _, _, e, _, h, _ | .dnew _, _, _, _, _, e, _, h, _ | .ddisp _ _, _, _, _, _, e, _, h, _ | .lrng _ _, _, _, _, _, e, _, h, _ | .dct _ _, _, _, _, _, e, _, h, _ | .sitm _, _, _, _, _, e, _, h, _ | .tst _, _, _, _, _, e, _, h, _ | .not _, _, _, _, _, e, _, h, _ | .and _, _, _, _, _, e, _, h, _ | .or _, _, _, _, _, e, _, h, _ | .cmp _ _ _, _, _, _, _, e, _, h, _ | .chn _ _ _ _ _, _, _, _, _, e, _, h, _ => by unfold okTs at h; cases h
theorem pwor_ok : ∀ (t : E) {df : Str → Bool} {sc : Scope} {X : Cx} (x : XOk T cl N df sc k X) (es : List Expr) {pos : Pos}, okTs T N t sc es = true → es ≠ [] → PW X (.BoolOp .Or es pos) (tT X.K X.mg (evTOr T cl t))
  | .cons a as, df, sc, X, x, es, pos, h, hn => by
    cases es with
    | nil => exact absurd rfl hn
    | cons e es =>
      unfold okTs at h
      simp only [Bool.and_eq_true] at h
      cases es with
      | nil =>
        cases as with
        | nil =>
          refine PW.imp (pw_or1 (pt_ok a x e h.1)) fun σ H Q hw => ?_
          obtain ⟨φ, ρ, S, b, S', he, hs, hf, q⟩ := hw
          rw [evTOr_one] at hf
          exact ⟨φ, ρ, S, b, S', he, hs, hf, q⟩
        | _ => exact absurd h.2 (by unfold okTs; exact Bool.false_ne_true)
      | cons e2 es =>
        exact PW.imp (pw_or (pt_ok a x e h.1) (pwor_ok as x (e2 :: es) h.2 (List.cons_ne_nil _ _))) fun σ H Q hw => tTOr_of hw
  | .nil, _, _, _, _, es, _, h, hn => by
    cases es with
    | nil => exact absurd rfl hn
    | cons e es => unfold okTs at h; cases h
  | .var _ _, _, _, _, _, e, _, h, _ | .cI _, _, _, _, _, e, _, h, _ | .cB _, _, _, _, _, e, _, h, _ | .cN, _, _, _, _, e, _, h, _ | .cS _, _, _, _, _, e, _, h, _ | .glob _, _, _, _, _, e, _, h, _ | .bin _ _ _, _, _, _, _, e, _, h, _ | .neg _, _, _, _, _, e, _, h, _ | .ite _ _ _, _, _, _, _, e, _, h, _ | .tup _, _, _, _, _, e, _, h, _ | .lst _, _, _, _, _, e, _, h, _
  | .ix _ _, _, _, _, _, e, _, h, _ | .dget _ _, _, _, _, _, e, _, h, _ | .slc _ _ _, _, _, _, _, e, _, h, _ | .call _ _, _, _, _, _, e, _, h, _ | .lcall _ _ _, _, _, _, _, e, _, h, _ | .bi _ _, _, _, _, _, e, _, h, _ | .rng _, _, _, _, _, e, _, h, _ | .enm _, _, _, _, _, e, _, h, _ | .zip _ _, _, _, _, _, e, _, h, _ | .lc _ _ _ _ _, _, _, _, _, e, _, h, _ | .app _ _, _, _, _, _, e, _, h, _ | .disp _ _, _, _, _, _, e, _, h, _ | .rev _, _, _, _, _, e, _, h, _ | .mth _ _ _, _, _, _, _, e, _, h, _ | .chn3 _ _ _ _ _ _ _, _, _, _, _, e, _, h, _ | .dnew _, _, _, _, _, e, _, h, _ | .ddisp _ _, _, _, _, _, e, _, h, _ | .lrng _ _, _, _, _, _, e, _, h, _ | .dct _ _, _, _, _, _, e, _, h, _ | .sitm _, _, _, _, _, e, _, h, _ | .tst _, _, _, _, _, e, _, h, _ | .not _, _, _, _, _, e, _, h, _ | .and _, _, _, _, _, e, _, h, _ | .or _, _, _, _, _, e, _, h, _ | .cmp _ _ _, _, _, _, _, e, _, h, _ | .chn _ _ _ _ _, _, _, _, _, e, _, h, _ => by unfold okTs at h; cases h
theorem peand_ok : ∀ (t : E) {df : Str → Bool} {sc : Scope} {X : Cx} (x : XOk T cl N df sc k X) (es : List Expr) {pos : Pos}, okA T N t sc es = true → PE X (.BoolOp .And es pos) (tW X.K X.mg (evAnd T cl t))
  | .cons a as, df, sc, X, x, es, pos, h => by
    cases es with
    | nil => unfold okA at h; cases h
    | cons e es =>
      unfold okA at h
      simp only [Bool.and_eq_true] at h
      cases es with
      | nil =>
        cases as with
        | nil =>
          refine PE.imp (pe_one (pe_ok a x e h.1.2)) fun σ H Q hw => ?_
          obtain ⟨φ, ρ, S, b, S', he, hs, hf, q⟩ := hw
          rw [evAnd_one] at hf
          exact ⟨φ, ρ, S, b, S', he, hs, hf, q⟩
        | _ => exact absurd h.2 (by unfold okA; exact Bool.false_ne_true)
      | cons e2 es =>
        cases as with
        | cons b bs => exact PE.imp (pe_and (pe_ok a x e h.1.2) (peand_ok (.cons b bs) x (e2 :: es) h.2)) fun σ H Q hw => tWAnd_of hw
        | _ => exact absurd h.2 (by unfold okA; exact Bool.false_ne_true)
  | .nil, _, _, _, _, es, _, h => by
    refine ⟨fun pins s σ H Q I hw => ?_⟩
    obtain ⟨φ, ρ, S, b, S', he, hs, hf, q⟩ := hw
    unfold evAnd at hf
    cases hf
  | .var _ _, _, _, _, _, e, _, h | .cI _, _, _, _, _, e, _, h | .cB _, _, _, _, _, e, _, h | .cN, _, _, _, _, e, _, h | .cS _, _, _, _, _, e, _, h | .glob _, _, _, _, _, e, _, h | .bin _ _ _, _, _, _, _, e, _, h | .neg _, _, _, _, _, e, _, h | .ite _ _ _, _, _, _, _, e, _, h | .tup _, _, _, _, _, e, _, h | .lst _, _, _, _, _, e, _, h
  | .ix _ _, _, _, _, _, e, _, h | .dget _ _, _, _, _, _, e, _, h | .slc _ _ _, _, _, _, _, e, _, h | .call _ _, _, _, _, _, e, _, h | .lcall _ _ _, _, _, _, _, e, _, h | .bi _ _, _, _, _, _, e, _, h | .rng _, _, _, _, _, e, _, h | .enm _, _, _, _, _, e, _, h | .zip _ _, _, _, _, _, e, _, h | .lc _ _ _ _ _, _, _, _, _, e, _, h | .app _ _, _, _, _, _, e, _, h | .disp _ _, _, _, _, _, e, _, h | .rev _, _, _, _, _, e, _, h | .mth _ _ _, _, _, _, _, e, _, h | .chn3 _ _ _ _ _ _ _, _, _, _, _, e, _, h | .dnew _, _, _, _, _, e, _, h | .ddisp _ _, _, _, _, _, e, _, h | .lrng _ _, _, _, _, _, e, _, h | .dct _ _, _, _, _, _, e, _, h | .sitm _, _, _, _, _, e, _, h | .tst _, _, _, _, _, e, _, h | .not _, _, _, _, _, e, _, h | .and _, _, _, _, _, e, _, h | .or _, _, _, _, _, e, _, h | .cmp _ _ _, _, _, _, _, e, _, h | .chn _ _ _ _ _, _, _, _, _, e, _, h => by unfold okA at h; cases h
theorem peor_ok : ∀ (t : E) {df : Str → Bool} {sc : Scope} {X : Cx} (x : XOk T cl N df sc k X) (es : List Expr) {pos : Pos}, okA T N t sc es = true → PE X (.BoolOp .Or es pos) (tW X.K X.mg (evOr T cl t))
  | .cons a as, df, sc, X, x, es, pos, h => by
    cases es with
    | nil => unfold okA at h; cases h
    | cons e es =>
      unfold okA at h
      simp only [Bool.and_eq_true] at h
      cases es with
      | nil =>
        cases as with
        | nil =>
          refine PE.imp (pe_one (pe_ok a x e h.1.2)) fun σ H Q hw => ?_
          obtain ⟨φ, ρ, S, b, S', he, hs, hf, q⟩ := hw
          rw [evOr_one] at hf
          exact ⟨φ, ρ, S, b, S', he, hs, hf, q⟩
        | _ => exact absurd h.2 (by unfold okA; exact Bool.false_ne_true)
      | cons e2 es =>
        cases as with
        | cons b bs => exact PE.imp (pe_or (pe_ok a x e h.1.2) (peor_ok (.cons b bs) x (e2 :: es) h.2)) fun σ H Q hw => tWOr_of hw
        | _ => exact absurd h.2 (by unfold okA; exact Bool.false_ne_true)
  | .nil, _, _, _, _, es, _, h => by
    refine ⟨fun pins s σ H Q I hw => ?_⟩
    obtain ⟨φ, ρ, S, b, S', he, hs, hf, q⟩ := hw
    unfold evOr at hf
    cases hf
  | .var _ _, _, _, _, _, e, _, h | .cI _, _, _, _, _, e, _, h | .cB _, _, _, _, _, e, _, h | .cN, _, _, _, _, e, _, h | .cS _, _, _, _, _, e, _, h | .glob _, _, _, _, _, e, _, h | .bin _ _ _, _, _, _, _, e, _, h | .neg _, _, _, _, _, e, _, h | .ite _ _ _, _, _, _, _, e, _, h | .tup _, _, _, _, _, e, _, h | .lst _, _, _, _, _, e, _, h
  | .ix _ _, _, _, _, _, e, _, h | .dget _ _, _, _, _, _, e, _, h | .slc _ _ _, _, _, _, _, e, _, h | .call _ _, _, _, _, _, e, _, h | .lcall _ _ _, _, _, _, _, e, _, h | .bi _ _, _, _, _, _, e, _, h | .rng _, _, _, _, _, e, _, h | .enm _, _, _, _, _, e, _, h | .zip _ _, _, _, _, _, e, _, h | .lc _ _ _ _ _, _, _, _, _, e, _, h | .app _ _, _, _, _, _, e, _, h | .disp _ _, _, _, _, _, e, _, h | .rev _, _, _, _, _, e, _, h | .mth _ _ _, _, _, _, _, e, _, h | .chn3 _ _ _ _ _ _ _, _, _, _, _, e, _, h | .dnew _, _, _, _, _, e, _, h | .ddisp _ _, _, _, _, _, e, _, h | .lrng _ _, _, _, _, _, e, _, h | .dct _ _, _, _, _, _, e, _, h | .sitm _, _, _, _, _, e, _, h | .tst _, _, _, _, _, e, _, h | .not _, _, _, _, _, e, _, h | .and _, _, _, _, _, e, _, h | .or _, _, _, _, _, e, _, h | .cmp _ _ _, _, _, _, _, e, _, h | .chn _ _ _ _ _, _, _, _, _, e, _, h => by unfold okA at h; cases h
theorem pps_ok : ∀ (t : E) {df : Str → Bool} {sc : Scope} {X : Cx} (x : XOk T cl N df sc k X) (ks : List Key) (keys : List (Option Expr)) (es : List Expr) {pos : Pos}, okKs ks keys = true → okA T N t sc es = true → ks.length = es.length → PPs X pos keys es (trsOf X.K X.mg T cl ks t)
  | .nil, df, sc, X, x, ks, keys, es, pos, h1, h2, h3 => by
    cases es with
    | cons _ _ => exact absurd h2 (by unfold okA; exact Bool.false_ne_true)
    | nil =>
      cases ks with
      | cons _ _ => simp at h3
      | nil =>
        cases keys with
        | cons _ _ => cases h1
        | nil => unfold trsOf; exact pps_nil
  | .cons a as, df, sc, X, x, ks, keys, es, pos, h1, h2, h3 => by
    cases es with
    | nil => exact absurd h2 (by unfold okA; exact Bool.false_ne_true)
    | cons e es =>
      unfold okA at h2
      simp only [Bool.and_eq_true] at h2
      cases ks with
      | nil => simp at h3
      | cons c ks =>
        obtain ⟨e0, l, rfl, g1, g2⟩ := pkey_ok (X := X) h1
        unfold trsOf
        exact pps_cons g2 (pe_ok a x e h2.1.2) (pps_ok as x ks l es g1 h2.2 (by simpa using h3))
  | .var _ _, _, _, _, _, _, _, _, _, _, h2, _ | .cI _, _, _, _, _, _, _, _, _, _, h2, _ | .cB _, _, _, _, _, _, _, _, _, _, h2, _ | .cN, _, _, _, _, _, _, _, _, _, h2, _ | .cS _, _, _, _, _, _, _, _, _, _, h2, _ | .glob _, _, _, _, _, _, _, _, _, _, h2, _ | .bin _ _ _, _, _, _, _, _, _, _, _, _, h2, _ | .neg _, _, _, _, _, _, _, _, _, _, h2, _ | .cmp _ _ _, _, _, _, _, _, _, _, _, _, h2, _ | .chn _ _ _ _ _, _, _, _, _, _, _, _, _, _, h2, _ | .not _, _, _, _, _, _, _, _, _, _, h2, _ | .and _, _, _, _, _, _, _, _, _, _, h2, _ | .or _, _, _, _, _, _, _, _, _, _, h2, _ | .ite _ _ _, _, _, _, _, _, _, _, _, _, h2, _ | .tup _, _, _, _, _, _, _, _, _, _, h2, _ | .lst _, _, _, _, _, _, _, _, _, _, h2, _ | .ix _ _, _, _, _, _, _, _, _, _, _, h2, _ | .dget _ _, _, _, _, _, _, _, _, _, _, h2, _ | .slc _ _ _, _, _, _, _, _, _, _, _, _, h2, _ | .call _ _, _, _, _, _, _, _, _, _, _, h2, _ | .lcall _ _ _, _, _, _, _, _, _, _, _, _, h2, _ | .bi _ _, _, _, _, _, _, _, _, _, _, h2, _ | .rng _, _, _, _, _, _, _, _, _, _, h2, _ | .enm _, _, _, _, _, _, _, _, _, _, h2, _ | .zip _ _, _, _, _, _, _, _, _, _, _, h2, _ | .lc _ _ _ _ _, _, _, _, _, _, _, _, _, _, h2, _ | .app _ _, _, _, _, _, _, _, _, _, _, h2, _ | .disp _ _, _, _, _, _, _, _, _, _, _, h2, _ | .tst _, _, _, _, _, _, _, _, _, _, h2, _ | .rev _, _, _, _, _, _, _, _, _, _, h2, _ | .mth _ _ _, _, _, _, _, _, _, _, _, _, h2, _ | .chn3 _ _ _ _ _ _ _, _, _, _, _, _, _, _, _, _, h2, _ | .dnew _, _, _, _, _, _, _, _, _, _, h2, _ | .ddisp _ _, _, _, _, _, _, _, _, _, _, h2, _ | .lrng _ _, _, _, _, _, _, _, _, _, _, h2, _ | .dct _ _, _, _, _, _, _, _, _, _, _, h2, _ | .sitm _, _, _, _, _, _, _, _, _, _, h2, _ => by unfold okA at h2; cases h2
theorem pa_ok : ∀ (t : E) {df : Str → Bool} {sc : Scope} {X : Cx} (x : XOk T cl N df sc k X) (es : List Expr), okA T N t sc es = true → PA X es (tAs X.K X.mg (evs T cl t))
  | .nil, df, sc, X, x, es, h => by
    cases es with
    | nil => exact PA.imp pa_nil fun σ H Q hw => tNil_of hw
    | cons e es => unfold okA at h; cases h
  | .cons a as, df, sc, X, x, es, h => by
    cases es with
    | nil => unfold okA at h; cases h
    | cons e es =>
      unfold okA at h
      simp only [Bool.and_eq_true] at h
      exact PA.imp (pa_cons (pe_ok a x e h.1.2) (pa_ok as x es h.2) (star_cons h.1.1 _ _)) fun σ H Q hw => tCons_of hw
  | .var _ _, _, _, _, _, e, h | .cI _, _, _, _, _, e, h | .cB _, _, _, _, _, e, h | .cN, _, _, _, _, e, h | .cS _, _, _, _, _, e, h | .glob _, _, _, _, _, e, h | .bin _ _ _, _, _, _, _, e, h | .neg _, _, _, _, _, e, h | .ite _ _ _, _, _, _, _, e, h | .tup _, _, _, _, _, e, h | .lst _, _, _, _, _, e, h
  | .ix _ _, _, _, _, _, e, h | .dget _ _, _, _, _, _, e, h | .slc _ _ _, _, _, _, _, e, h | .call _ _, _, _, _, _, e, h | .lcall _ _ _, _, _, _, _, e, h | .bi _ _, _, _, _, _, e, h | .rng _, _, _, _, _, e, h | .enm _, _, _, _, _, e, h | .zip _ _, _, _, _, _, e, h | .lc _ _ _ _ _, _, _, _, _, e, h | .app _ _, _, _, _, _, e, h | .disp _ _, _, _, _, _, e, h | .rev _, _, _, _, _, e, h | .mth _ _ _, _, _, _, _, e, h | .chn3 _ _ _ _ _ _ _, _, _, _, _, e, h | .dnew _, _, _, _, _, e, h | .ddisp _ _, _, _, _, _, e, h | .lrng _ _, _, _, _, _, e, h | .dct _ _, _, _, _, _, e, h | .sitm _, _, _, _, _, e, h | .tst _, _, _, _, _, e, h | .not _, _, _, _, _, e, h | .and _, _, _, _, _, e, h | .or _, _, _, _, _, e, h | .cmp _ _ _, _, _, _, _, e, h | .chn _ _ _ _ _, _, _, _, _, e, h => by unfold okA at h; cases h
theorem po_ok : ∀ (t : E) {df : Str → Bool} {sc : Scope} {X : Cx} (x : XOk T cl N df sc k X) (o : Option Expr), okO T N t sc o = true → PO X o (tO X.K X.mg (evO T cl t))
  | .nil, df, sc, X, x, o, h => by
    cases o with
    | none =>
      refine PO.imp po_none fun σ H Q hw => ?_
      obtain ⟨φ, ρ, S, b, S', he, hs, hf, q⟩ := hw
      unfold evO at hf
      cases hf
      exact q φ H (Evo.refl _ _) hs
    | some e => unfold okO at h; cases h
  | .cons a as, df, sc, X, x, o, h => by
    cases o with
    | none => unfold okO at h; cases h
    | some e =>
      unfold okO at h
      exact PO.imp (po_some (pe_ok a x e h)) fun σ H Q hw => tPart_of hw
  | .var _ _, _, _, _, _, e, h | .cI _, _, _, _, _, e, h | .cB _, _, _, _, _, e, h | .cN, _, _, _, _, e, h | .cS _, _, _, _, _, e, h | .glob _, _, _, _, _, e, h | .bin _ _ _, _, _, _, _, e, h | .neg _, _, _, _, _, e, h | .ite _ _ _, _, _, _, _, e, h | .tup _, _, _, _, _, e, h | .lst _, _, _, _, _, e, h
  | .ix _ _, _, _, _, _, e, h | .dget _ _, _, _, _, _, e, h | .slc _ _ _, _, _, _, _, e, h | .call _ _, _, _, _, _, e, h | .lcall _ _ _, _, _, _, _, e, h | .bi _ _, _, _, _, _, e, h | .rng _, _, _, _, _, e, h | .enm _, _, _, _, _, e, h | .zip _ _, _, _, _, _, e, h | .lc _ _ _ _ _, _, _, _, _, e, h | .app _ _, _, _, _, _, e, h | .disp _ _, _, _, _, _, e, h | .rev _, _, _, _, _, e, h | .mth _ _ _, _, _, _, _, e, h | .chn3 _ _ _ _ _ _ _, _, _, _, _, e, h | .dnew _, _, _, _, _, e, h | .ddisp _ _, _, _, _, _, e, h | .lrng _ _, _, _, _, _, e, h | .dct _ _, _, _, _, _, e, h | .sitm _, _, _, _, _, e, h | .tst _, _, _, _, _, e, h | .not _, _, _, _, _, e, h | .and _, _, _, _, _, e, h | .or _, _, _, _, _, e, h | .cmp _ _ _, _, _, _, _, e, h | .chn _ _ _ _ _, _, _, _, _, e, h => by unfold okO at h; cases h
theorem ptc_ok : ∀ (t : E) {df : Str → Bool} {sc : Scope} {X : Cx} (x : XOk T cl N df sc k X) (es : List Expr), okC T N t sc es = true → PTs X es (tT X.K X.mg (evC T cl t))
  | .nil, df, sc, X, x, es, h => by
    cases es with
    | nil =>
      refine PTs.imp pts_nil fun σ H Q hw => ?_
      obtain ⟨φ, ρ, S, b, S', he, hs, hf, q⟩ := hw
      unfold evC at hf
      cases hf
      exact q φ H (Evo.refl _ _) hs
    | cons e es => unfold okC at h; cases h
  | .cons a as, df, sc, X, x, es, h => by
    cases es with
    | nil => unfold okC at h; cases h
    | cons e es =>
      cases es with
      | nil =>
        unfold okC at h
        refine PTs.imp (pts_one (pt_ok a x e h)) fun σ H Q hw => ?_
        unfold evC at hw
        exact hw
      | cons e2 es => unfold okC at h; cases h
  | .var _ _, _, _, _, _, e, h | .cI _, _, _, _, _, e, h | .cB _, _, _, _, _, e, h | .cN, _, _, _, _, e, h | .cS _, _, _, _, _, e, h | .glob _, _, _, _, _, e, h | .bin _ _ _, _, _, _, _, e, h | .neg _, _, _, _, _, e, h | .ite _ _ _, _, _, _, _, e, h | .tup _, _, _, _, _, e, h | .lst _, _, _, _, _, e, h
  | .ix _ _, _, _, _, _, e, h | .dget _ _, _, _, _, _, e, h | .slc _ _ _, _, _, _, _, e, h | .call _ _, _, _, _, _, e, h | .lcall _ _ _, _, _, _, _, e, h | .bi _ _, _, _, _, _, e, h | .rng _, _, _, _, _, e, h | .enm _, _, _, _, _, e, h | .zip _ _, _, _, _, _, e, h | .lc _ _ _ _ _, _, _, _, _, e, h | .app _ _, _, _, _, _, e, h | .disp _ _, _, _, _, _, e, h | .rev _, _, _, _, _, e, h | .mth _ _ _, _, _, _, _, e, h | .chn3 _ _ _ _ _ _ _, _, _, _, _, e, h | .dnew _, _, _, _, _, e, h | .ddisp _ _, _, _, _, _, e, h | .lrng _ _, _, _, _, _, e, h | .dct _ _, _, _, _, _, e, h | .sitm _, _, _, _, _, e, h | .tst _, _, _, _, _, e, h | .not _, _, _, _, _, e, h | .and _, _, _, _, _, e, h | .or _, _, _, _, _, e, h | .cmp _ _ _, _, _, _, _, e, h | .chn _ _ _ _ _, _, _, _, _, e, h => by unfold okC at h; cases h
theorem pi_ok : ∀ (t : E) {df : Str → Bool} {sc : Scope} {X : Cx} (x : XOk T cl N df sc k X) (tg e : Expr), okI T N t sc e = true → (match tg with | .Tuple _ _ _ => true | _ => !needTup t) = true → PI X tg e (tI X.K X.mg (evI T cl t))
  | .rng as, df, sc, X, x, tg, e, h, ht => by
    unfold okI at h
    split at h
    · next g p es pos =>
      simp only [Bool.and_eq_true, Bool.or_eq_true, decide_eq_true_eq] at h
      obtain ⟨⟨⟨⟨rfl, h1⟩, h2⟩, h3⟩, h4⟩ := h
      have hg : Gl X rgName := by unfold Gl Env.kindOf; rw [x.xn.hsc]; exact gl_of h1
      have hm := x.blt _ h2
      have hst := okA_star h3
      have ha := pa_ok as x es h3
      have hn : ∀ ρ S ws S', evs T cl as ρ S = some (ws, S') → ws.length = es.length := fun ρ S ws S' hh => evs_len h3 hh
      clear h3
      match es, h4, hst, ha, hn with
      | [a], _, hst, ha, hn =>
        refine PI.imp (pi_range1 hg hm ha (star1 (by simpa using hst) _)) fun σ H R hw => ?_
        rcases tI_rng hn hw with ⟨z, hw⟩ | ⟨z, hw⟩ | ⟨z, hw⟩
        · exact hw
        · cases z
        · cases z
      | [a, b], _, hst, ha, hn =>
        have hst' : noStar a = true ∧ noStar b = true := by simpa using hst
        refine PI.imp (pi_range2 hg hm ha (star2 hst'.1 hst'.2 _) (star1 hst'.2 _)) fun σ H R hw => ?_
        rcases tI_rng hn hw with ⟨z, hw⟩ | ⟨z, hw⟩ | ⟨z, hw⟩
        · cases z
        · exact hw
        · cases z
      | [a, b, c], _, hst, ha, hn =>
        have hst' : noStar a = true ∧ noStar b = true ∧ noStar c = true := by simpa using hst
        refine PI.imp (pi_range3 hg hm ha (star_cons hst'.1 _ _) (noStars (by simp [hst'.2.1, hst'.2.2]) _ _)) fun σ H R hw => ?_
        rcases tI_rng hn hw with ⟨z, hw⟩ | ⟨z, hw⟩ | ⟨z, hw⟩
        · cases z
        · cases z
        · exact hw
      | [], h4, _, _, _ => simp at h4
      | _ :: _ :: _ :: _ :: _, h4, _, _, _ => simp at h4
    · cases h
  | .enm a, df, sc, X, x, tg, e, h, ht => by
    unfold okI at h
    split at h
    · next g p e1 pos =>
      simp only [Bool.and_eq_true, decide_eq_true_eq] at h
      obtain ⟨⟨⟨⟨rfl, h1⟩, h2⟩, h3⟩, h4⟩ := h
      have hg : Gl X enName := by unfold Gl Env.kindOf; rw [x.xn.hsc]; exact gl_of h1
      have ha : PA X [e1] (tCons (tW X.K X.mg (evW T cl a)) tNil) := pa_cons (pe_ok a x e1 h4) pa_nil (star_cons h3 _ _)
      cases tg with
      | Tuple es kk tpos =>
        exact PI.imp (PI.or (pi_enum hg (x.blt _ h2) ha (star1 h3 _)) (ZE.pi_enumT hg (x.blt _ h2) ha (star1 h3 _))) fun σ H R hw => tI_enm hw
      | _ => simp [needTup] at ht
    · cases h
  | .zip a b, df, sc, X, x, tg, e, h, ht => by
    unfold okI at h
    split at h
    · next g p e1 e2 pos =>
      simp only [Bool.and_eq_true, decide_eq_true_eq] at h
      obtain ⟨⟨⟨⟨⟨⟨rfl, h1⟩, h2⟩, h3⟩, h4⟩, h5⟩, h6⟩ := h
      have hg : Gl X zpName := by unfold Gl Env.kindOf; rw [x.xn.hsc]; exact gl_of h1
      have ha : PA X [e1, e2] (tCons (tW X.K X.mg (evW T cl a)) (tCons (tW X.K X.mg (evW T cl b)) tNil)) := pa_cons (pe_ok a x e1 h5) (pa_cons (pe_ok b x e2 h6) pa_nil (star_cons h4 _ _)) (star_cons h3 _ _)
      cases tg with
      | Tuple es kk tpos => exact PI.imp (RZ.pi_zipA hg (x.blt _ h2) ha (star_cons h3 _ _) (noStars (by simp [h4]) _ _)) fun σ H R hw => tI_zip hw
      | _ => simp [needTup] at ht
    · cases h
  | .cons a as, df, sc, X, x, tg, e, h, ht => by
    cases as with
    | nil =>
      unfold okI at h
      exact PI.imp (PI.or (pi_list (pe_ok a x e h)) (pi_tup (pe_ok a x e h))) fun σ H R hw => tI_seq hw
    | _ => unfold okI at h; cases h
  | .nil, _, _, _, _, _, _, h, _ | .var _ _, _, _, _, _, _, _, h, _ | .cI _, _, _, _, _, _, _, h, _ | .cB _, _, _, _, _, _, _, h, _ | .cN, _, _, _, _, _, _, h, _ | .cS _, _, _, _, _, _, _, h, _ | .glob _, _, _, _, _, _, _, h, _ | .bin _ _ _, _, _, _, _, _, _, h, _ | .neg _, _, _, _, _, _, _, h, _ | .ite _ _ _, _, _, _, _, _, _, h, _ | .tup _, _, _, _, _, _, _, h, _ | .lst _, _, _, _, _, _, _, h, _
  | .ix _ _, _, _, _, _, _, _, h, _ | .dget _ _, _, _, _, _, _, _, h, _ | .slc _ _ _, _, _, _, _, _, _, h, _ | .call _ _, _, _, _, _, _, _, h, _ | .lcall _ _ _, _, _, _, _, _, _, h, _ | .bi _ _, _, _, _, _, _, _, h, _ | .lc _ _ _ _ _, _, _, _, _, _, _, h, _ | .app _ _, _, _, _, _, _, _, h, _ | .disp _ _, _, _, _, _, _, _, h, _ | .rev _, _, _, _, _, _, _, h, _ | .mth _ _ _, _, _, _, _, _, _, h, _ | .chn3 _ _ _ _ _ _ _, _, _, _, _, _, _, h, _ | .dnew _, _, _, _, _, _, _, h, _ | .ddisp _ _, _, _, _, _, _, _, h, _ | .lrng _ _, _, _, _, _, _, _, h, _ | .dct _ _, _, _, _, _, _, _, h, _ | .sitm _, _, _, _, _, _, _, h, _ | .tst _, _, _, _, _, _, _, h, _ | .not _, _, _, _, _, _, _, h, _ | .and _, _, _, _, _, _, _, h, _ | .or _, _, _, _, _, _, _, h, _ | .cmp _ _ _, _, _, _, _, _, _, h, _ | .chn _ _ _ _ _, _, _, _, _, _, _, h, _ => by unfold okI at h; cases h
end
end
end Z

set_option Elab.async false
set_option linter.all false
set_option maxRecDepth 100000
/-! Z13: statements: the evaluator, the checker. -/
namespace Z
open PySem PySem.Spec PyProof.Rows L2

inductive Sm where
  | asg (p : P) (e : E)
  | par2 (i : Nat) (x : Str) (j : Nat) (y : Str) (as : E)
  | par3 (i : Nat) (x : Str) (j : Nat) (y : Str) (l : Nat) (z : Str) (as : E)
  | setLc (i : Nat) (x : Str) (own : List (Str × Nat)) (elt : E) (p : P) (it tst : E)
  | seti (o i e : E)
  | setd (o i e : E)
  /-- o1[i1], o2[i2] = e, of lists -/
  | swp (o1 i1 o2 i2 e : E)
  | aug (i : Nat) (x : Str) (b : Bop) (e : E)
  | expr (e : E)
  | ret (e : E) | ret0
  | ite (t : E) (a b : Sm)
  | for (p : P) (it : E) (b : Sm)
  | while (t : E) (b : Sm)
  | pass | brk | cnt | raise
  | nil
  | cons (s ss : Sm)
inductive Fl where
  | nx | bk | ct
  | rt (w : W)
abbrev EvS := Env → Sto → Option (Fl × Env × Sto)

def forLoop (g : Grd) (step : D → Env → Sto → Option (Fl × Env × Sto)) : List D → Env → Sto → Option (Fl × Env × Sto)
  | [], ρ, S => if chkG g S then some (.nx, ρ, S) else none
  | x :: xs, ρ, S => if chkG g S then match step x ρ S with
    | none => none
    | some (.nx, ρ', S') => forLoop g step xs ρ' S'
    | some (.ct, ρ', S') => forLoop g step xs ρ' S'
    | some (.bk, ρ', S') => some (.nx, ρ', S')
    | some (.rt w, ρ', S') => some (.rt w, ρ', S')
    else none
def whileLoop (t : Env → Sto → Option (Bool × Sto)) (body : EvS) : Nat → Env → Sto → Option (Fl × Env × Sto)
  | 0, _, _ => none
  | n + 1, ρ, S => match t ρ S with
    | none => none
    | some (false, S1) => some (.nx, ρ, S1)
    | some (true, S1) => match body ρ S1 with
      | none => none
      | some (.nx, ρ', S') => whileLoop t body n ρ' S'
      | some (.ct, ρ', S') => whileLoop t body n ρ' S'
      | some (.bk, ρ', S') => some (.nx, ρ', S')
      | some (.rt w, ρ', S') => some (.rt w, ρ', S')
/-- name op= value -/
def augW (o : Bop) (x : D) (y : W) : Option D :=
  match x, y with
  | .int a, .d (.int b) => match o with
    | .mul => if sm64 a || sm64 b then some (.int (a * b)) else none
    | .pow => none
    | o => (binI o a b).map .int
  | .str a, .d (.str b) => match o with
    | .add => if a.length + b.length ≤ LN then some (.str (a ++ b)) else none
    | _ => none
  | _, _ => none
/-- o[i] = d, of a list -/
def setI (T : Tab) (cl : Calls) (o i : E) (d : D) (ρ : Env) (S : Sto) : Option Sto := match evW T cl o ρ S with
  | some (.d (.ref n), S2) => match evW T cl i ρ S2 with
    | some (.d (.int k), S3) => match S3[n]? with
      | some (.lst xs) => (ixN xs.length k).map fun j => S3.set n (.lst (xs.set j d))
      | _ => none
    | _ => none
  | _ => none
section
variable (T : Tab) (cl : Calls) (F : Nat)
def evS : Sm → Env → Sto → Option (Fl × Env × Sto)
  | .asg p e, ρ, S => match evW T cl e ρ S with
    | none => none
    | some (w, S1) => (bindP p (matW w S1).1 ρ).map fun ρ' => (.nx, ρ', (matW w S1).2)
  | .par2 i _ j _ as, ρ, S => match evs T cl as ρ S with
    | none => none
    | some (ws, S1) => match (matsW ws S1).1 with
      | [a, b] => some (.nx, (ρ.set i (some a)).set j (some b), (matsW ws S1).2)
      | _ => none
  | .par3 i _ j _ l _ as, ρ, S => match evs T cl as ρ S with
    | none => none
    | some (ws, S1) => match (matsW ws S1).1 with
      | [a, b, c] => some (.nx, ((ρ.set i (some a)).set j (some b)).set l (some c), (matsW ws S1).2)
      | _ => none
  | .setLc i _ own elt p it tst, ρ, S => match evW T cl (.lc own elt p it tst) ρ S with
    | none => none
    | some (w, S1) => some (.nx, ρ.set i (some (matW w S1).1), (matW w S1).2)
  | .seti o i e, ρ, S => match evW T cl e ρ S with
    | none => none
    | some (w, S1) => match evW T cl o ρ S1 with
      | some (.d (.ref n), S2) => match evW T cl i ρ S2 with
        | some (.d (.int k), S3) => match (matW w S3).2[n]? with
          | some (.lst xs) => (ixN xs.length k).map fun j => (.nx, ρ, (matW w S3).2.set n (.lst (xs.set j (matW w S3).1)))
          | _ => none
        | _ => none
      | _ => none
  | .setd o i e, ρ, S => match evW T cl e ρ S with
    | none => none
    | some (w, S1) => match evW T cl o ρ S1 with
      | some (.d (.ref n), S2) => match evW T cl i ρ S2 with
        | some (.d kd, S3) => match (matW w S3).2[n]? with
          | some o => (oPut o kd (matW w S3).1).map fun o' => (.nx, ρ, (matW w S3).2.set n o')
          | none => none
        | _ => none
      | _ => none
  | .swp o1 i1 o2 i2 e, ρ, S => match evW T cl e ρ S with
    | some (.d (.tup [a, b]), S1) => match setI T cl o1 i1 a ρ S1 with
      | none => none
      | some S2 => (setI T cl o2 i2 b ρ S2).map fun S3 => (.nx, ρ, S3)
    | _ => none
  | .aug i _ b e, ρ, S => match ρ[i]? with
    | some (some x) => match evW T cl e ρ S with
      | none => none
      | some (w, S1) => (augW b x w).map fun d => (.nx, ρ.set i (some d), S1)
    | _ => none
  | .expr e, ρ, S => match evW T cl e ρ S with
    | none => none
    | some (_, S1) => some (.nx, ρ, S1)
  | .ret e, ρ, S => match evW T cl e ρ S with
    | none => none
    | some (w, S1) => some (.rt w, ρ, S1)
  | .ret0, ρ, S => some (.rt (.d .non), ρ, S)
  | .ite t a b, ρ, S => match evT T cl t ρ S with
    | none => none
    | some (true, S1) => evS a ρ S1
    | some (false, S1) => evS b ρ S1
  | .for p it b, ρ, S => match evI T cl it ρ S with
    | none => none
    | some ((xs, g), S1) => forLoop g (fun d ρ S => match bindP p d ρ with
        | none => none
        | some ρ' => evS b ρ' S) xs ρ S1
  | .while t b, ρ, S => whileLoop (evT T cl t) (evS b) F ρ S
  | .pass, ρ, S => some (.nx, ρ, S)
  | .brk, ρ, S => some (.bk, ρ, S)
  | .cnt, ρ, S => some (.ct, ρ, S)
  | .raise, _, _ => none
  | .nil, ρ, S => some (.nx, ρ, S)
  | .cons s ss, ρ, S => match evS s ρ S with
    | none => none
    | some (.nx, ρ', S') => evS ss ρ' S'
    | some r => some r
end

/-! ### the checker -/
def isTup : Expr → Bool
  | .Tuple _ _ _ => true
  | _ => false
def isLst : Expr → Bool
  | .List _ _ => true
  | _ => false
def isNm : Expr → Bool
  | .Name _ _ => true
  | _ => false
/-- no exchange of two or three names -/
def noExch : Expr → Bool
  | .Tuple ts _ _ => !(ts.all isNm) || !(ts.length == 2 || ts.length == 3)
  | _ => false
/-- a target that a comprehension is stored to as any value is -/
def noSole (sc : Scope) : Expr → Bool
  | .Name x _ => !(sc.names.lookup x == some .local)
  | _ => true
/-- a target and a value that are stored with no exchange -/
def plainAsg (sc : Scope) (tg e : Expr) : Bool := (noLc e || noSole sc tg) && !isLst tg && (!isTup tg || !isTup e || noExch tg || (match e with | .Tuple vs _ _ => vs.all (foldedForSure 8) | _ => false))
def locL (sc : Scope) (x : Str) : Bool := decide (sc.names.lookup x = some .local)
def isRaise : Stmt → Bool
  | .Raise _ _ _ => true
  | _ => false
def fnKind (sc : Scope) : Bool := decide (sc.kind = .function)
def isOne : Sm → Bool
  | .nil => false
  | .cons _ _ => false
  | _ => true
def okS (T : Tab) (N : List Str) (sc : Scope) : Sm → List Stmt → Bool
  | .nil, l => match l with
    | [] => true
    | _ => false
  | .cons s ss, l => match l with
    | st :: sts => isOne s && okS T N sc s [st] && okS T N sc ss sts
    | _ => false
  | .asg p e, l => match l with
    | [.Assign [tg] v _] => plainAsg sc tg v && noStar tg && okP N allB sc p tg && okE T N e sc v
    | _ => false
  | .par2 i x j y as, l => match l with
    | [.Assign [.Tuple [.Name a pa, .Name b pb] _ _] (.Tuple [u, v] _ _) _] => decide (a = x) && decide (b = y) && decide (N[i]? = some x) && decide (N[j]? = some y) && decide (x ≠ y) && locL sc x && locL sc y && fnKind sc &&
        decide (pa.line = pb.line) && !([u, v].all (foldedForSure 8)) && !([u, v].all (constantsAlone 8)) && okA T N as sc [u, v]
    | _ => false
  | .par3 i x j y k z as, l => match l with
    | [.Assign [.Tuple [.Name a pa, .Name b pb, .Name c pc] _ _] (.Tuple [u, v, w] _ _) _] => decide (a = x) && decide (b = y) && decide (c = z) && decide (N[i]? = some x) && decide (N[j]? = some y) && decide (N[k]? = some z) && decide (x ≠ y) && decide (x ≠ z) && decide (y ≠ z) && locL sc x && locL sc y && locL sc z && fnKind sc &&
        decide (pa.line = pb.line) && decide (pa.line = pc.line) && !([u, v, w].all (foldedForSure 8)) && !([u, v, w].all (constantsAlone 8)) && okA T N as sc [u, v, w]
    | _ => false
  | .setLc i x own el p it tst, l => match l with
    | [.Assign [.Name a pa] (.ListComp elt gs scope lp) sp] => decide (pa.line = lp.line) && decide (a = x) && decide (N[i]? = some x) && locL sc x && fnKind sc && !(scope.names.any fun (n, k) => n == x && (k == .local || k == .cell)) && okE T N (.lc own el p it tst) sc (.ListComp elt gs scope lp)
    | _ => false
  | .seti o i e, l => match l with
    | [.Assign [.Subscript a b _] v _] => noSlc b && okE T N o sc a && okE T N i sc b && okE T N e sc v
    | _ => false
  | .setd o i e, l => match l with
    | [.Assign [.Subscript a b _] v _] => noSlc b && okE T N o sc a && okE T N i sc b && okE T N e sc v
    | _ => false
  | .swp o1 i1 o2 i2 e, l => match l with
    | [.Assign [.Tuple [.Subscript a b p1, .Subscript c d p2] k p3] v _] => plainAsg sc (.Tuple [.Subscript a b p1, .Subscript c d p2] k p3) v && noSlc b && noSlc d && okE T N o1 sc a && okE T N i1 sc b && okE T N o2 sc c && okE T N i2 sc d && okE T N e sc v
    | _ => false
  | .aug i x b e, l => match l with
    | [.AugAssign (.Name a _) op v _] => decide (a = x) && decide (op = opOf b) && decide (N[i]? = some x) && locB allB sc x && okE T N e sc v
    | _ => false
  | .expr e, l => match l with
    | [.Expr v _] => noLc v && okE T N e sc v
    | _ => false
  | .ret e, l => match l with
    | [.Return (some v) _] => okE T N e sc v
    | _ => false
  | .ret0, l => match l with
    | [.Return none _] => true
    | _ => false
  | .ite t a b, l => match l with
    | [.If c x y _] => okT T N t sc c && okS T N sc a x && okS T N sc b y
    | _ => false
  | .for p it b, l => match l with
    | [.For tg iter body [] _] => noSet iter && okI T N it sc iter && okP N allB sc p tg && (match tg with | .Tuple _ _ _ => true | _ => !needTup it) && okS T N sc b body
    | _ => false
  | .while t b, l => match l with
    | [.While c body [] _] => okT T N t sc c && okS T N sc b body
    | _ => false
  | .pass, l => match l with
    | [.Pass _] => true
    | _ => false
  | .brk, l => match l with
    | [.Break _] => true
    | _ => false
  | .cnt, l => match l with
    | [.Continue _] => true
    | _ => false
  | .raise, l => match l with
    | [s] => isRaise s
    | _ => false
theorem noSole_sw {sc : Scope} {tg : Expr} (h : noSole sc tg = true) (env : PySem.Env) (he : env.scope = sc) (e : Expr) (l : Nat) : swapsWith e (some tg) l env = pure false := by
  have hk : ∀ x, env.kindOf x = sc.names.lookup x := fun x => by rw [← he]; rfl
  have key : ∀ (x : Str) (py : Pos) (scope : Scope) (v : Expr), !(sc.names.lookup x == some .local) → (pure (env.blockKind == .function && env.kindOf x == some .local && py.line == v.pos.line && !(scope.names.any fun (n, k) => n == x && (k == .local || k == .cell))) : Sem Bool) = pure false := fun x py scope v hx => by
    rw [hk]
    simp only [Bool.not_eq_true', Bool.not_eq_eq_eq_not, Bool.not_true] at hx
    rw [hx, Bool.and_false]
    rfl
  cases tg with
  | Name x py =>
    unfold noSole at h
    cases e <;> first | rfl | exact key x py _ _ h
  | _ => cases e <;> rfl
theorem noSwapped {sc : Scope} {tg e : Expr} (h : plainAsg sc tg e = true) (hs : noStar tg = true) (env : PySem.Env) (he : env.scope = sc) (l : Nat) : swapsWithSole [tg] e l env = pure false ∧ swappedStores [tg] e env = pure none ∧ (assignEach [tg] env).map (·.2) = [assign tg env] := by
  unfold plainAsg at h
  simp only [Bool.and_eq_true, Bool.not_eq_true', Bool.or_eq_true] at h
  refine ⟨?_, ?_, ?_⟩
  · show swapsWith e (some tg) l env = pure false
    rcases h.1.1 with z | z
    · exact noSwap z _ _ _
    · exact noSole_sw z env he e l
  · cases tg with
    | Tuple ts k p =>
      cases e with
      | Tuple vs k2 p2 =>
        by_cases hx : noExch (.Tuple ts k p) = true
        · unfold noExch at hx
          simp only [Bool.or_eq_true, Bool.not_eq_true'] at hx
          have gen : ∀ (f : Expr → Option Str), (∀ e, isNm e = false → f e = none) → ∀ l : List Expr, l.all isNm = false → (l.filterMap f).length < l.length := by
            intro f hf l
            induction l with
            | nil => intro h; simp at h
            | cons a l ih =>
              intro h
              rw [List.filterMap_cons]
              by_cases ha : isNm a = true
              · have hl : l.all isNm = false := by simpa [ha] using h
                have := ih hl
                split
                · rw [List.length_cons]; omega
                · rw [List.length_cons, List.length_cons]; omega
              · rw [hf a (by simpa using ha)]
                have := List.length_filterMap_le f l
                rw [List.length_cons]
                show (List.filterMap f l).length < _
                omega
          unfold swappedStores
          dsimp only
          split
          · rfl
          · next h0 =>
            split
            · rfl
            · split
              · rfl
              · next h3 =>
                exfalso
                rcases hx with hx | hx
                · apply h3
                  simp only [Bool.or_eq_true, bne_iff_ne]
                  exact .inl (Nat.ne_of_lt (gen _ (fun e he => by cases e <;> first | rfl | (simp [isNm] at he)) ts hx))
                · apply h0
                  rw [hx]
                  rfl
        have hf : vs.all (foldedForSure 8) = true := by
          rcases h.2 with ((z | z) | z) | z
          · simp [isTup] at z
          · simp [isTup] at z
          · exact absurd z hx
          · exact z
        unfold swappedStores
        simp only [hf, if_true]
        split
        · rfl
        · split
          · rfl
          · split
            · rfl
            · rfl
      | _ => rfl
    | List ts p => simp [isLst] at h
    | _ => rfl
  · rw [asgEach hs]; rfl
end Z

set_option Elab.async false
set_option linter.all false
set_option maxRecDepth 100000
/-! Z14: statements: the evaluator is right. -/
namespace Z
open PySem PySem.Spec PyProof.Rows L2

theorem swap2 {x y : Str} {px py pt pt2 : Pos} {kt k2 : Nat} {u v : Expr} {env : PySem.Env} (hk : env.scope.kind = .function) (hu : noStar u = true) (hv : noStar v = true) (hx : env.scope.names.lookup x = some .local) (hy : env.scope.names.lookup y = some .local)
    (hl : px.line = py.line) (hn : x ≠ y) (hf : [u, v].all (foldedForSure 8) = false) (hc : [u, v].all (constantsAlone 8) = false) :
    swappedStores [.Tuple [.Name x px, .Name y py] kt pt] (.Tuple [u, v] k2 pt2) env = pure (some [x, y]) := by
  have hb : env.blockKind = .function := by unfold Env.blockKind; rw [hk]; rfl
  have kx : env.kindOf x = some .local := hx
  have ky : env.kindOf y = some .local := hy
  unfold swappedStores
  simp only [hb, hf, hc]
  simp [kx, ky, Expr.pos, hl, hn, hn.symm, List.eraseDups_cons]
  intro h
  rcases h with h | h
  · cases u <;> first | (exact Bool.noConfusion h) | (simp [noStar] at hu)
  · cases v <;> first | (exact Bool.noConfusion h) | (simp [noStar] at hv)
theorem swap3 {x y z : Str} {px py pz pt pt2 : Pos} {kt k2 : Nat} {u v w : Expr} {env : PySem.Env} (hk : env.scope.kind = .function) (hu : noStar u = true) (hv : noStar v = true) (hw : noStar w = true) (hx : env.scope.names.lookup x = some .local) (hy : env.scope.names.lookup y = some .local) (hz : env.scope.names.lookup z = some .local)
    (hl : px.line = py.line) (hl2 : px.line = pz.line) (hn : x ≠ y) (hn2 : x ≠ z) (hn3 : y ≠ z) (hf : [u, v, w].all (foldedForSure 8) = false) (hc : [u, v, w].all (constantsAlone 8) = false) :
    swappedStores [.Tuple [.Name x px, .Name y py, .Name z pz] kt pt] (.Tuple [u, v, w] k2 pt2) env = pure (some [x, y, z]) := by
  have hb : env.blockKind = .function := by unfold Env.blockKind; rw [hk]; rfl
  have kx : env.kindOf x = some .local := hx
  have ky : env.kindOf y = some .local := hy
  have kz : env.kindOf z = some .local := hz
  unfold swappedStores
  simp only [hb, hf, hc]
  simp [kx, ky, kz, Expr.pos, ← hl, ← hl2, hn, hn2, hn3, hn.symm, hn2.symm, hn3.symm, List.eraseDups_cons]
  intro h
  rcases h with h | h | h
  · cases u <;> first | (exact Bool.noConfusion h) | (simp [noStar] at hu)
  · cases v <;> first | (exact Bool.noConfusion h) | (simp [noStar] at hv)
  · cases w <;> first | (exact Bool.noConfusion h) | (simp [noStar] at hw)

section
variable (K : PySem.W.Frag) (mg : Str → Option Value)
def Fin (D : Ends) (φ : List Addr) (H : Hp) (fl : Fl) (ρ' : Env) (S' : Sto) : Prop :=
  ∀ φ' σ' H', Evo φ H φ' H' → StOk K mg φ' S' H' → EnvOk K mg φ' H' σ' ρ' → match fl with
    | .nx => D.nx σ' H'
    | .bk => D.bk σ' H'
    | .ct => D.ct σ' H'
    | .rt w => ∀ v, DenW K mg φ' H' v w → FrW H v w → D.rt v H'
def tS (f : EvS) : TS := fun D σ H => ∃ φ ρ S fl ρ' S', EnvOk K mg φ H σ ρ ∧ StOk K mg φ S H ∧ f ρ S = some (fl, ρ', S') ∧ Fin K mg D φ H fl ρ' S'
end
theorem PS.imp {X : Cx} {e : Stmt} {t t' : TS} (h : PS X e t) (hi : ∀ D σ H, t' D σ H → t D σ H) : PS X e t' := ⟨fun pins s σ H D I hw => h.run pins s σ H D I (hi _ _ _ hw)⟩
theorem PSs.imp {X : Cx} {e : List Stmt} {t t' : TS} (h : PSs X e t) (hi : ∀ D σ H, t' D σ H → t D σ H) : PSs X e t' := ⟨fun pins s σ H D I hw => h.run pins s σ H D I (hi _ _ _ hw)⟩
section
variable {K : PySem.W.Frag} {mg : Str → Option Value}
/-- onward from a later state -/
theorem Fin.after {D : Ends} {φ φ1 : List Addr} {H H1 : Hp} {fl : Fl} {ρ' : Env} {S' : Sto} (f : Fin K mg D φ H fl ρ' S') (e : Evo φ H φ1 H1) : Fin K mg D φ1 H1 fl ρ' S' := fun φ' σ' H' e' s' r' => by
  have := f φ' σ' H' (e.trans e') s' r'
  cases fl with
  | nx => exact this
  | bk => exact this
  | ct => exact this
  | rt w => exact fun v d fr => this v d (fr.back e.thr)
variable {T : Tab} {cl : Calls} {N : List Str} {k F : Nat} {sc : Scope} {X : Cx}
theorem sAsg_of {p : P} {e : E} {D : Ends} {σ : L2.St} {H : Hp} (h : tS K mg (evS T cl F (.asg p e)) D σ H) : tAsg (tW K mg (evW T cl e)) (tP K mg p) D σ H := by
  obtain ⟨φ, ρ, S, fl, ρ', S', he, hs, hf, q⟩ := h
  unfold evS at hf
  split at hf
  · cases hf
  · next w S1 h1 =>
    cases hb : bindP p (matW w S1).1 ρ with
    | none => rw [hb] at hf; cases hf
    | some ρ1 =>
      rw [hb] at hf
      cases hf
      refine ⟨φ, ρ, S, w, S1, he, hs, h1, fun v φ1 H1 e1 s1 d1 f1 => ?_⟩
      obtain ⟨φ2, e2, s2, d2, _⟩ := mat_ok (φ₀ := φ) (H₀ := H) e1 s1 d1 f1
      exact ⟨φ2, ρ, _, _, he.evo e2, d2, hb, fun σ' e' _ => q φ2 σ' H1 e2 s2 e'⟩
theorem sPar2_of {i j : Nat} {x y : Str} {as : E} {D : Ends} {σ : L2.St} {H : Hp} (h : tS K mg (evS T cl F (.par2 i x j y as)) D σ H) : tPar i j (tAs K mg (evs T cl as)) D σ H := by
  obtain ⟨φ, ρ, S, fl, ρ', S', he, hs, hf, q⟩ := h
  unfold evS at hf
  split at hf
  · cases hf
  · next ws S1 h1 =>
    split at hf
    · next a b hm =>
      cases hf
      refine ⟨φ, ρ, S, ws, S1, he, hs, h1, fun vs φ1 H1 e1 s1 d1 f1 => ?_⟩
      obtain ⟨φ2, e2, s2, d2, _⟩ := mats_ok (φ₀ := φ) (H₀ := H) e1 s1 d1 f1
      rw [hm] at d2
      cases d2 with
      | cons da d2 =>
        cases d2 with
        | cons db d2 =>
          cases d2
          exact ⟨_, _, rfl, q φ2 _ H1 e2 s2 (((he.evo e2).set i da).set j db)⟩
    · cases hf
theorem sPar3_of {i j l : Nat} {x y z : Str} {as : E} {D : Ends} {σ : L2.St} {H : Hp} (h : tS K mg (evS T cl F (.par3 i x j y l z as)) D σ H) : tPar3 i j l (tAs K mg (evs T cl as)) D σ H := by
  obtain ⟨φ, ρ, S, fl, ρ', S', he, hs, hf, q⟩ := h
  unfold evS at hf
  split at hf
  · cases hf
  · next ws S1 h1 =>
    split at hf
    · next a b c hm =>
      cases hf
      refine ⟨φ, ρ, S, ws, S1, he, hs, h1, fun vs φ1 H1 e1 s1 d1 f1 => ?_⟩
      obtain ⟨φ2, e2, s2, d2, _⟩ := mats_ok (φ₀ := φ) (H₀ := H) e1 s1 d1 f1
      rw [hm] at d2
      cases d2 with
      | cons da d2 =>
        cases d2 with
        | cons db d2 =>
          cases d2 with
          | cons dc d2 =>
            cases d2
            exact ⟨_, _, _, rfl, q φ2 _ H1 e2 s2 ((((he.evo e2).set i da).set j db).set l dc)⟩
    · cases hf
theorem sRet_of {e : E} {D : Ends} {σ : L2.St} {H : Hp} (h : tS K mg (evS T cl F (.ret e)) D σ H) : tRet (tW K mg (evW T cl e)) D σ H := by
  obtain ⟨φ, ρ, S, fl, ρ', S', he, hs, hf, q⟩ := h
  unfold evS at hf
  split at hf
  · cases hf
  · next w S1 h1 =>
    cases hf
    exact ⟨φ, ρ, S, w, _, he, hs, h1, fun v φ1 H1 e1 s1 d1 f1 => q φ1 σ H1 e1 s1 (he.evo e1) v d1 f1⟩
theorem sExpr_of {e : E} {D : Ends} {σ : L2.St} {H : Hp} (h : tS K mg (evS T cl F (.expr e)) D σ H) : tDrop (tW K mg (evW T cl e)) D σ H := by
  obtain ⟨φ, ρ, S, fl, ρ', S', he, hs, hf, q⟩ := h
  unfold evS at hf
  split at hf
  · cases hf
  · next w S1 h1 =>
    cases hf
    exact ⟨φ, ρ, S, w, _, he, hs, h1, fun v φ1 H1 e1 s1 d1 f1 => q φ1 σ H1 e1 s1 (he.evo e1)⟩
theorem sSeti_of {o i e : E} {D : Ends} {σ : L2.St} {H : Hp} (h : tS K mg (evS T cl F (.seti o i e)) D σ H) : tAsg (tW K mg (evW T cl e)) (gSub (tW K mg (evW T cl o)) (tW K mg (evW T cl i)) rSetL) D σ H := by
  obtain ⟨φ, ρ, S, fl, ρ', S', he, hs, hf, q⟩ := h
  unfold evS at hf
  split at hf
  · cases hf
  · next w S1 h1 =>
    split at hf
    · next n S2 h2 =>
      split at hf
      · next kk S3 h3 =>
        split at hf
        · next xs hx =>
          cases hj : ixN xs.length kk with
          | none => rw [hj] at hf; cases hf
          | some j =>
            rw [hj] at hf
            cases hf
            refine ⟨φ, ρ, S, w, S1, he, hs, h1, fun v φ1 H1 e1 s1 d1 f1 => ⟨φ1, ρ, S1, _, S2, he.evo e1, s1, h2, fun u φ2 H2 e2 s2 d2 f2 => ⟨φ2, ρ, S2, _, S3, (he.evo e1).evo e2, s2, h3, fun t φ3 H3 e3 s3 d3 f3 => ?_⟩⟩⟩
            have e123 := (e1.trans e2).trans e3
            obtain ⟨φ4, e4, s4, d4, hφ⟩ := mat_ok (φ₀ := φ) (H₀ := H) e123 s3 ((d1.evo e2).evo e3) f1
            cases (show Den K mg φ3 H3 t (.int kk) from d3)
            cases (show Den K mg φ2 H2 u (.ref n) from d2) with
            | @ref a _ hn =>
              have hn3 := e3.pre hn
              have hn4 : φ4[n]? = some a := by
                rcases hφ with rfl | ⟨b, zs, _, _, rfl⟩
                · exact hn3
                · have hlt : n < φ3.length := by
                    rcases Nat.lt_or_ge n φ3.length with z | z
                    · exact z
                    · rw [List.getElem?_eq_none z] at hn3; cases hn3
                  rw [List.getElem?_append_left hlt]
                  exact hn3
              obtain ⟨vs, g2, g3⟩ := s4.obj _ _ _ hn4 hx
              refine ⟨a, vs, kk, j, rfl, rfl, g2, by rw [g3.length]; exact hj, ?_⟩
              exact q φ4 σ _ (e4.trans (Evo.write s4 (List.mem_of_getElem? hn4))) (s4.write hn4 ⟨_, upd_same, (g3.set j d4).updN g2 stb_lst⟩) (he.evo (e4.trans (Evo.write s4 (List.mem_of_getElem? hn4))))
        · cases hf
      · cases hf
    · cases hf
/-- o[i] = v, of a list -/
theorem gSetI_of {o i : E} {d : Z.D} {v : V} {σ : L2.St} {H H0 : Hp} {Q : L2.St → Hp → Prop} {φ0 φ : List Addr} {ρ : Env} {S S' : Sto} (e0 : Evo φ0 H0 φ H) (he : EnvOk K mg φ H σ ρ) (hs : StOk K mg φ S H) (hv : Den K mg φ H v d) (hf : setI T cl o i d ρ S = some S')
    (q : ∀ φ' H', Evo φ0 H0 φ' H' → Evo φ H φ' H' → StOk K mg φ' S' H' → EnvOk K mg φ' H' σ ρ → Q σ H') : gSub (tW K mg (evW T cl o)) (tW K mg (evW T cl i)) rSetL v σ H Q := by
  unfold setI at hf
  split at hf
  · next n S2 h2 =>
    split at hf
    · next kk S3 h3 =>
      split at hf
      · next xs hx =>
        cases hj : ixN xs.length kk with
        | none => rw [hj] at hf; cases hf
        | some j =>
          rw [hj] at hf
          cases hf
          refine ⟨φ, ρ, S, _, S2, he, hs, h2, fun u φ2 H2 e2 s2 d2 f2 => ⟨φ2, ρ, S2, _, S3, he.evo e2, s2, h3, fun t φ3 H3 e3 s3 d3 f3 => ?_⟩⟩
          have e123 := e2.trans e3
          cases (show Den K mg φ3 H3 t (.int kk) from d3)
          cases (show Den K mg φ2 H2 u (.ref n) from d2) with
          | @ref a _ hn =>
            have hn3 := e3.pre hn
            obtain ⟨vs, g2, g3⟩ := s3.obj _ _ _ hn3 hx
            refine ⟨a, vs, kk, j, rfl, rfl, g2, by rw [g3.length]; exact hj, ?_⟩
            have ew := Evo.write (u := .lst (vs.set j v)) s3 (List.mem_of_getElem? hn3)
            exact q φ3 _ ((e0.trans e123).trans ew) (e123.trans ew) (s3.write hn3 ⟨_, upd_same, (g3.set j (hv.evo e123)).updN g2 stb_lst⟩) (he.evo (e123.trans ew))
      · cases hf
    · cases hf
  · cases hf
theorem sSwp_of {o1 i1 o2 i2 e : E} {D : Ends} {σ : L2.St} {H : Hp} (h : tS K mg (evS T cl F (.swp o1 i1 o2 i2 e)) D σ H) :
    tAsg (tW K mg (evW T cl e)) (gTup K 2 (gCons (gSub (tW K mg (evW T cl o1)) (tW K mg (evW T cl i1)) rSetL) (gCons (gSub (tW K mg (evW T cl o2)) (tW K mg (evW T cl i2)) rSetL) gNil))) D σ H := by
  obtain ⟨φ, ρ, S, fl, ρ', S', he, hs, hf, q⟩ := h
  unfold evS at hf
  split at hf
  · next a b S1 h1 =>
    split at hf
    · cases hf
    · next S2 h2 =>
      cases h3 : setI T cl o2 i2 b ρ S2 with
      | none => rw [h3] at hf; cases hf
      | some S3 =>
        rw [h3] at hf
        cases hf
        refine ⟨φ, ρ, S, _, S1, he, hs, h1, fun v φ1 H1 e1 s1 d1 f1 => ?_⟩
        cases (show Den K mg φ1 H1 v (.tup [a, b]) from d1) with
        | tup g1 g2 =>
          cases g2 with
          | cons da g2 =>
            cases g2 with
            | cons db g2 =>
              cases g2
              exact ⟨_, _, rfl, g1.sq, rfl, _, _, rfl, gSetI_of e1 (he.evo e1) s1 da h2 fun φ2 H2 e2 e12 s2 r2 => ⟨_, _, rfl, gSetI_of e2 r2 s2 (db.evo e12) h3 fun φ3 H3 e3 _ s3 r3 => ⟨rfl, q φ3 σ H3 e3 s3 r3⟩⟩⟩
  · cases hf
end
end Z

set_option Elab.async false
set_option linter.all false
set_option maxRecDepth 100000
/-! Z15: statements: the evaluator is right. -/
namespace Z
open PySem PySem.Spec PyProof.Rows L2
section
variable {K : PySem.W.Frag} {mg : Str → Option Value} {φ : List Addr} {H : Hp}
theorem pre_of {φ3 φ4 : List Addr} {n : Nat} {a : Addr} {t : V} {w : W} (hn3 : φ3[n]? = some a) (hφ : φ4 = φ3 ∨ ∃ b xs, t = .ref b ∧ w = .tmp xs ∧ φ4 = φ3 ++ [b]) : φ4[n]? = some a := by
  rcases hφ with rfl | ⟨b, zs, _, _, rfl⟩
  · exact hn3
  · have hlt : n < φ3.length := by
      rcases Nat.lt_or_ge n φ3.length with z | z
      · exact z
      · rw [List.getElem?_eq_none z] at hn3; cases hn3
    rw [List.getElem?_append_left hlt]
    exact hn3
/-- d[k] = v, by deep values -/
def rSetO (K : PySem.W.Frag) (mg : Str → Option Value) : V → V → V → Hp → (Hp → Prop) → Prop := fun x y v H Q => ∃ φ a o kd d o', x = .ref a ∧ ObjD K mg φ H a o ∧ Den K mg φ H y kd ∧ Den K mg φ H v d ∧ oPut o kd d = some o' ∧ ∀ z, ObjD K mg φ (upd H a z) a o' → Q (upd H a z)
theorem set_O {X : Cx} (hu : X.A.units + 65 < cLine) : PSet X (rSetO X.K mg) := by
  intro pins s σ H x y v ov iv u Q I ro ri rv h
  obtain ⟨φ, a, o, kd, d, o', rfl, ob, hk, hd, hp, q⟩ := h
  cases ro
  exact o_setItem hu I ob hk ri rv hd hp fun s' z I' ob' => ⟨_, I', q z ob'⟩
variable {T : Tab} {cl : Calls} {N : List Str} {k F : Nat}
theorem sSetd_of {o i e : E} {D : Ends} {σ : L2.St} {H : Hp} (h : tS K mg (evS T cl F (.setd o i e)) D σ H) : tAsg (tW K mg (evW T cl e)) (gSub (tW K mg (evW T cl o)) (tW K mg (evW T cl i)) (rSetO K mg)) D σ H := by
  obtain ⟨φ, ρ, S, fl, ρ', S', he, hs, hf, q⟩ := h
  unfold evS at hf
  split at hf
  · cases hf
  · next w S1 h1 =>
    split at hf
    · next n S2 h2 =>
      split at hf
      · next kd S3 h3 =>
        split at hf
        · next o hx =>
          cases ho : oPut o kd (matW w S3).1 with
          | none => rw [ho] at hf; cases hf
          | some o' =>
            rw [ho] at hf
            cases hf
            refine ⟨φ, ρ, S, w, S1, he, hs, h1, fun v φ1 H1 e1 s1 d1 f1 => ⟨φ1, ρ, S1, _, S2, he.evo e1, s1, h2, fun u φ2 H2 e2 s2 d2 f2 => ⟨φ2, ρ, S2, _, S3, (he.evo e1).evo e2, s2, h3, fun t φ3 H3 e3 s3 d3 f3 => ?_⟩⟩⟩
            have e123 := (e1.trans e2).trans e3
            obtain ⟨φ4, e4, s4, d4, hφ⟩ := mat_ok (φ₀ := φ) (H₀ := H) e123 s3 ((d1.evo e2).evo e3) f1
            have dk : Den K mg φ4 H3 t kd := by
              rcases hφ with rfl | ⟨b, xs, _, _, rfl⟩
              · exact d3
              · exact Den.more (show Den K mg φ3 H3 t kd from d3)
            cases (show Den K mg φ2 H2 u (.ref n) from d2) with
            | @ref a _ hn =>
              have hn4 : φ4[n]? = some a := pre_of (e3.pre hn) hφ
              have hm := List.mem_of_getElem? hn4
              refine ⟨φ4, a, o, kd, _, o', rfl, s4.obj _ _ _ hn4 hx, dk, d4, ho, fun z ob => ?_⟩
              exact q φ4 σ _ (e4.trans (Evo.write s4 hm)) (s4.write hn4 ob) (he.evo (e4.trans (Evo.write s4 hm)))
        · cases hf
      · cases hf
    · cases hf
end
/-! ### name op= value -/
def vAug (K : PySem.W.Frag) (mg : Str → Option Value) (o : Bop) : TIp := fun v u H Q => ∃ φ x y z, Den K mg φ H v x ∧ DenW K mg φ H u y ∧ augW o x y = some z ∧ ∀ t, Den K mg φ H t z → Q t H
section
variable {X : Cx} {mg : Str → Option Value}
theorem augI_ok (o : Bop) (ho : o ≠ .mul) (hp : o ≠ .pow) {a b c : Int} (h : binI o a b = some c) {pins : List (Addr × Obj)} {s : Shared} {σ : L2.St} {H : Hp} {v u : Value} {Q : VK} (I : Inv X pins σ H s) (rx : RelV (.int a) v) (ry : RelV (.int b) u) (q : Q (.int c) H) :
    wpAny (model X.prog X.w) X.A (inplaceOp (opOf o) v u) (EP X pins σ Q) X.xe s := by
  cases o with
  | add => cases h; exact iop_add pins s σ H _ _ v u Q I rx ry ⟨a, b, rfl, rfl, q⟩
  | sub => cases h; exact iop_sub pins s σ H _ _ v u Q I rx ry ⟨a, b, rfl, rfl, q⟩
  | mul => exact absurd rfl ho
  | pow => exact absurd rfl hp
  | fdiv =>
    unfold binI at h
    simp only at h
    split at h
    · next hc =>
      cases h
      unfold divOk at hc
      simp only [Bool.and_eq_true, decide_eq_true_eq] at hc
      exact iop_fdivW pins s σ H _ _ v u Q I rx ry ⟨a, b, rfl, rfl, ⟨hc.1, by have := big_log hc.2; omega⟩, q⟩
    · cases h
  | mod =>
    unfold binI at h
    simp only at h
    split at h
    · next hc => cases h; exact iop_mod pins s σ H _ _ v u Q I rx ry ⟨a, b, rfl, rfl, of_decide_eq_true hc, q⟩
    · cases h
  | shl =>
    unfold binI at h
    simp only at h
    split at h
    · next hc =>
      cases h
      unfold powOk at hc
      simp only [Bool.and_eq_true, decide_eq_true_eq] at hc
      exact iop_shl pins s σ H _ _ v u Q I rx ry ⟨a, b, rfl, rfl, ⟨hc.1.1, hc.1.2, hc.2⟩, q⟩
    · cases h
  | shr =>
    unfold binI at h
    simp only at h
    split at h
    · next hc => cases h; exact iop_shr pins s σ H _ _ v u Q I rx ry ⟨a, b, rfl, rfl, of_decide_eq_true hc, q⟩
    · cases h
  | band => cases h; exact iop_and pins s σ H _ _ v u Q I rx ry ⟨a, b, rfl, rfl, q⟩
  | bor => cases h; exact iop_or pins s σ H _ _ v u Q I rx ry ⟨a, b, rfl, rfl, q⟩
  | bxor => cases h; exact iop_xor pins s σ H _ _ v u Q I rx ry ⟨a, b, rfl, rfl, q⟩
theorem pip_aug (o : Bop) : PIp X (opOf o) (vAug X.K mg o) := by
  intro pins s σ H vx vy v u Q I rx ry h
  obtain ⟨φ, x, y, z, hx, hy, e, q⟩ := h
  unfold augW at e
  split at e
  · next a b =>
    cases hx
    cases (show Den X.K mg φ H vy (.int b) from hy)
    split at e
    · split at e
      · next hc =>
        cases e
        unfold sm64 at hc
        simp only [Bool.or_eq_true, Bool.and_eq_true, decide_eq_true_eq] at hc
        exact iop_mul pins s σ H _ _ v u Q I rx ry ⟨a, b, rfl, rfl, hc, q _ (.int _)⟩
      · cases e
    · cases e
    · next o' h1 h2 =>
      cases hc : binI o a b with
      | none => rw [hc] at e; cases e
      | some c =>
        rw [hc] at e
        cases e
        exact augI_ok o (fun z => h1 z) (fun z => h2 z) hc I rx ry (q _ (.int c))
  · next a b =>
    cases hx
    cases (show Den X.K mg φ H vy (.str b) from hy)
    split at e
    · split at e
      · next hl => cases e; exact iop_add_str pins s σ H _ _ v u Q I rx ry ⟨a, b, rfl, rfl, LN_le hl, q _ (.str _)⟩
      · cases e
    · cases e
  · cases e
end
section
variable {K : PySem.W.Frag} {mg : Str → Option Value} {T : Tab} {cl : Calls} {N : List Str} {k F : Nat}
theorem sAug_of {i : Nat} {x : Str} {b : Bop} {e : E} {D : Ends} {σ : L2.St} {H : Hp} (h : tS K mg (evS T cl F (.aug i x b e)) D σ H) : tAug i (tW K mg (evW T cl e)) (vAug K mg b) D σ H := by
  obtain ⟨φ, ρ, S, fl, ρ', S', he, hs, hf, q⟩ := h
  unfold evS at hf
  split at hf
  · next x hx =>
    split at hf
    · cases hf
    · next w S1 h1 =>
      cases ha : augW b x w with
      | none => rw [ha] at hf; cases hf
      | some d =>
        rw [ha] at hf
        cases hf
        obtain ⟨v, hσ, dv⟩ := he.at' i x hx
        exact ⟨v, hσ, φ, ρ, S, w, _, he, hs, h1, fun u φ1 H1 e1 s1 d1 f1 => ⟨φ1, x, w, d, dv.evo e1, d1, ha, fun t dt => q φ1 _ H1 e1 s1 ((he.evo e1).set i dt)⟩⟩
  · cases hf
theorem sIf_of {t : E} {a b : Sm} {D : Ends} {σ : L2.St} {H : Hp} (h : tS K mg (evS T cl F (.ite t a b)) D σ H) : tIfS (tT K mg (evT T cl t)) (tS K mg (evS T cl F a)) (tS K mg (evS T cl F b)) D σ H := by
  obtain ⟨φ, ρ, S, fl, ρ', S', he, hs, hf, q⟩ := h
  unfold evS at hf
  split at hf
  · cases hf
  · next S1 h1 => exact ⟨φ, ρ, S, true, S1, he, hs, h1, fun φ1 H1 e1 s1 => iteT ⟨φ1, ρ, S1, fl, ρ', S', he.evo e1, s1, hf, q.after e1⟩⟩
  · next S1 h1 => exact ⟨φ, ρ, S, false, S1, he, hs, h1, fun φ1 H1 e1 s1 => iteF ⟨φ1, ρ, S1, fl, ρ', S', he.evo e1, s1, hf, q.after e1⟩⟩
theorem sSeq_of {s ss : Sm} {D : Ends} {σ : L2.St} {H : Hp} (h : tS K mg (evS T cl F (.cons s ss)) D σ H) : tSeq (tS K mg (evS T cl F s)) (tS K mg (evS T cl F ss)) D σ H := by
  obtain ⟨φ, ρ, S, fl, ρ', S', he, hs, hf, q⟩ := h
  unfold evS at hf
  split at hf
  · cases hf
  · next ρ1 S1 h1 => exact ⟨φ, ρ, S, .nx, ρ1, S1, he, hs, h1, fun φ1 σ1 H1 e1 s1 r1 => ⟨φ1, ρ1, S1, fl, ρ', S', r1, s1, hf, q.after e1⟩⟩
  · next r hn h1 =>
    cases hf
    refine ⟨φ, ρ, S, fl, ρ', S', he, hs, h1, fun φ1 σ1 H1 e1 s1 r1 => ?_⟩
    have := q φ1 σ1 H1 e1 s1 r1
    cases fl with
    | nx => exact absurd rfl (hn _ _)
    | bk => exact this
    | ct => exact this
    | rt w => exact this
def ForN (K : PySem.W.Frag) (mg : Str → Option Value) (φ1 : List Addr) (H1 : Hp) (g : Grd) (step : Z.D → Env → Sto → Option (Fl × Env × Sto)) (xs : List Z.D) (fl : Fl) (ρ' : Env) (S' : Sto) : L2.St → Hp → Prop :=
  fun σ' H' => ∃ φi ρi Si, Evo φ1 H1 φi H' ∧ StOk K mg φi Si H' ∧ EnvOk K mg φi H' σ' ρi ∧ forLoop g step xs ρi Si = some (fl, ρ', S')
theorem sFor_of {p : P} {it : E} {b : Sm} {D : Ends} {σ : L2.St} {H : Hp} (h : tS K mg (evS T cl F (.for p it b)) D σ H) : tFor (tI K mg (evI T cl it)) (tP K mg p) (tS K mg (evS T cl F b)) D σ H := by
  obtain ⟨φ, ρ, S, fl, ρ', S', he, hs, hf, q⟩ := h
  unfold evS at hf
  split at hf
  · cases hf
  · next xs g S1 h1 =>
    generalize hstep : (fun (d : Z.D) (ρ : Env) (S : Sto) => match bindP p d ρ with
        | none => none
        | some ρ' => evS T cl F b ρ' S) = step at hf
    refine ⟨φ, ρ, S, xs, g, S1, he, hs, h1, fun J φ1 H1 e1 s1 wk => ?_⟩
    have q1 := q.after e1
    refine ⟨fun i m σi Hi => i ≤ xs.length ∧ m = xs.length - i ∧ ∃ φi ρi Si, Evo φ1 H1 φi Hi ∧ StOk K mg φi Si Hi ∧ EnvOk K mg φi Hi σi ρi ∧ forLoop g step (xs.drop i) ρi Si = some (fl, ρ', S'),
      ⟨xs.length, Nat.zero_le _, by simp, φ1, ρ, S1, Evo.refl _ _, s1, he.evo e1, hf⟩, ?_⟩
    rintro i m σi Hi ⟨hi, rfl, φi, ρi, Si, ei, si, ri, hl⟩
    by_cases hlt : i < xs.length
    · have hx : xs[i]? = some xs[i] := by simp [hlt]
      rw [List.drop_eq_getElem_cons hlt] at hl
      unfold forLoop at hl
      split at hl
      · next hc =>
        refine .inr ⟨wk.go i φi Si Hi hlt ei si hc, ForN K mg φ1 H1 g step (xs.drop (i + 1)) fl ρ' S',
          fun σ' H' hN => ⟨xs.length - (i + 1), by omega, by omega, rfl, hN⟩, fun x H2 hy => ?_⟩
        obtain ⟨d, hd, e2, s2, dx⟩ := wk.yld i φi Si Hi x H2 hlt ei si hc hy
        rw [hx] at hd
        cases hd
        have go : ∀ {flb : Fl} {ρb : Env} {Sb : Sto}, step xs[i] ρi Si = some (flb, ρb, Sb) →
            Fin K mg { D with nx := ForN K mg φ1 H1 g step (xs.drop (i + 1)) fl ρ' S', ct := ForN K mg φ1 H1 g step (xs.drop (i + 1)) fl ρ' S', bk := D.nx } φi H2 flb ρb Sb →
            tP K mg p x σi H2 fun σ2 H2' => tS K mg (evS T cl F b) { D with nx := ForN K mg φ1 H1 g step (xs.drop (i + 1)) fl ρ' S', ct := ForN K mg φ1 H1 g step (xs.drop (i + 1)) fl ρ' S', bk := D.nx } σ2 H2' := fun {flb ρb Sb} h3 hfin => by
          rw [← hstep] at h3
          simp only at h3
          split at h3
          · cases h3
          · next ρ2 hb => exact ⟨φi, ρi, xs[i], ρ2, ri.evo e2, dx, hb, fun σ2 hσ2 _ => ⟨φi, ρ2, Si, flb, ρb, Sb, hσ2, s2, h3, hfin⟩⟩
        split at hl
        · cases hl
        · next ρb Sb h3 => exact go h3 fun φ3 σ3 H3 e3 s3 r3 => ⟨φ3, ρb, Sb, (ei.trans e2).trans e3, s3, r3, hl⟩
        · next ρb Sb h3 => exact go h3 fun φ3 σ3 H3 e3 s3 r3 => ⟨φ3, ρb, Sb, (ei.trans e2).trans e3, s3, r3, hl⟩
        · next ρb Sb h3 =>
          cases hl
          exact go h3 fun φ3 σ3 H3 e3 s3 r3 => q1 φ3 σ3 H3 ((ei.trans e2).trans e3) s3 r3
        · next w ρb Sb h3 =>
          cases hl
          exact go h3 fun φ3 σ3 H3 e3 s3 r3 v dv fv => q1 φ3 σ3 H3 ((ei.trans e2).trans e3) s3 r3 v dv (fv.back (ei.trans e2).thr)
      · cases hl
    · have hi' : i = xs.length := by omega
      subst hi'
      rw [List.drop_length] at hl
      unfold forLoop at hl
      split at hl
      · next hc =>
        cases hl
        exact .inl ⟨wk.stop φi _ Hi ei si hc, q1 φi σi Hi ei si ri⟩
      · cases hl
theorem sWhile_of {t : E} {b : Sm} {D : Ends} {σ : L2.St} {H : Hp} (h : tS K mg (evS T cl F (.while t b)) D σ H) : tWhile (tT K mg (evT T cl t)) (tS K mg (evS T cl F b)) D σ H := by
  obtain ⟨φ, ρ, S, fl, ρ', S', he, hs, hf, q⟩ := h
  unfold evS at hf
  refine ⟨fun m σi Hi => ∃ φi ρi Si, Evo φ H φi Hi ∧ StOk K mg φi Si Hi ∧ EnvOk K mg φi Hi σi ρi ∧ whileLoop (evT T cl t) (evS T cl F b) m ρi Si = some (fl, ρ', S'), ⟨F, φ, ρ, S, Evo.refl _ _, hs, he, hf⟩, ?_⟩
  rintro m σi Hi ⟨φi, ρi, Si, ei, si, ri, hl⟩
  cases m with
  | zero => unfold whileLoop at hl; cases hl
  | succ m =>
    unfold whileLoop at hl
    split at hl
    · cases hl
    · next S1 h1 =>
      cases hl
      exact ⟨φi, _, Si, false, _, ri, si, h1, fun φ1 H1 e1 s1 => iteF (q φ1 σi H1 (ei.trans e1) s1 (ri.evo e1))⟩
    · next S1 h1 =>
      refine ⟨φi, ρi, Si, true, S1, ri, si, h1, fun φ1 H1 e1 s1 => iteT ⟨fun σ' H' => ∃ φi ρi Si, Evo φ H φi H' ∧ StOk K mg φi Si H' ∧ EnvOk K mg φi H' σ' ρi ∧ whileLoop (evT T cl t) (evS T cl F b) m ρi Si = some (fl, ρ', S'),
        fun σ' H' hN => ⟨m, Nat.lt_succ_self m, hN⟩, ?_⟩⟩
      have e01 := ei.trans e1
      split at hl
      · cases hl
      · next ρb Sb h3 => exact ⟨φ1, ρi, S1, .nx, ρb, Sb, ri.evo e1, s1, h3, fun φ3 σ3 H3 e3 s3 r3 => ⟨φ3, ρb, Sb, e01.trans e3, s3, r3, hl⟩⟩
      · next ρb Sb h3 => exact ⟨φ1, ρi, S1, .ct, ρb, Sb, ri.evo e1, s1, h3, fun φ3 σ3 H3 e3 s3 r3 => ⟨φ3, ρb, Sb, e01.trans e3, s3, r3, hl⟩⟩
      · next ρb Sb h3 =>
        cases hl
        exact ⟨φ1, ρi, S1, .bk, _, _, ri.evo e1, s1, h3, fun φ3 σ3 H3 e3 s3 r3 => q φ3 σ3 H3 (e01.trans e3) s3 r3⟩
      · next w ρb Sb h3 =>
        cases hl
        exact ⟨φ1, ρi, S1, .rt w, _, _, ri.evo e1, s1, h3, fun φ3 σ3 H3 e3 s3 r3 v dv fv => q φ3 σ3 H3 (e01.trans e3) s3 r3 v dv (fv.back e01.thr)⟩
end
end Z

set_option Elab.async false
set_option linter.all false
set_option maxRecDepth 100000
/-! Z16: statements, defs, the calls' table: the evaluator is right. -/
namespace Z
open PySem PySem.Spec PyProof.Rows L2
section
variable {T : Tab} {cl : Calls} {N : List Str} {k F : Nat}
/-- within a def's body -/
structure XS (T : Tab) (cl : Calls) (N : List Str) (sc : Scope) (k : Nat) (X : Cx) : Prop where
  x : XOk T cl N allB sc k X
  nx : X.xe = fun _ _ => False
theorem XS.po {sc : Scope} {X : Cx} (x : XS T cl N sc k X) : PassesOwn (model X.prog X.w) X.A X.env X.xe := by rw [x.nx]; exact PassesOwn.never
theorem loc_of {df : Str → Bool} {sc : Scope} {X : Cx} (x : XOk T cl N allB sc k X) {y : Str} (h : locB allB sc y = true) : Loc X.env.scope y ∧ (X.fn y = true ∨ X.env.scope.names.lookup y = some .local) := by
  rw [x.xn.hsc]
  unfold locB at h
  split at h
  · next q => exact ⟨.inl q, .inr q⟩
  · next q => exact ⟨.inr q, .inl (x.xn.df y rfl)⟩
  · cases h
theorem asgSub {i : Expr} (h : noSlc i = true) {o : Expr} {pos : Pos} (env : PySem.Env) : ∀ v, assign (.Subscript o i pos) env v = (do
      let ov ← holding [v] (eval o env)
      let iv ← holding [v, ov] (eval i env)
      standAt pos
      holding [v, ov, iv] (setItem ov iv v)
      release [v, ov, iv] []) := by
  intro v
  cases i <;> first | rfl | (simp [noSlc] at h)
theorem swSub {e a b : Expr} {p : Pos} (l : Nat) (env : PySem.Env) : swapsWithSole [.Subscript a b p] e l env = pure false := by cases e <;> rfl
theorem sLc_of {K : PySem.W.Frag} {mg : Str → Option Value} {i : Nat} {x : Str} {own : List (Str × Nat)} {elt it tst : E} {p : P} {D : Ends} {σ : L2.St} {H : Hp} (ho : ownOk own p = true) (h : tS K mg (evS T cl F (.setLc i x own elt p it tst)) D σ H) :
    tAsg (tLc (tI K mg (evI T cl it)) (tP K mg p) (tT K mg (evC T cl tst)) (tW K mg (evW T cl elt)) (own.map (·.2))) (gName i) D σ H := by
  refine tLc_of (Q := fun x H1 => D.nx (σ.set i (some x)) H1) ho ?_
  obtain ⟨φ, ρ, S, fl, ρ', S', he, hs, hf, q⟩ := h
  unfold evS at hf
  split at hf
  · cases hf
  · next w S1 h1 =>
    cases hf
    refine ⟨φ, ρ, S, w, S1, he, hs, h1, fun v φ1 H1 e1 s1 d1 f1 => ?_⟩
    obtain ⟨φ2, e2, s2, d2, _⟩ := mat_ok (φ₀ := φ) (H₀ := H) e1 s1 d1 f1
    exact q φ2 _ H1 e2 s2 ((he.evo e2).set i d2)
def Both (T : Tab) (cl : Calls) (F : Nat) (N : List Str) (sc : Scope) (X : Cx) (s : Sm) : Prop :=
  (isOne s = true → ∀ st, okS T N sc s [st] = true → PS X st (tS X.K X.mg (evS T cl F s))) ∧ (∀ l, okS T N sc s l = true → PSs X l (tS X.K X.mg (evS T cl F s)))
theorem both {sc : Scope} {X : Cx} {s : Sm} (h : ∀ st, okS T N sc s [st] = true → PS X st (tS X.K X.mg (evS T cl F s))) (h0 : okS T N sc s [] = false) (h2 : ∀ a b l, okS T N sc s (a :: b :: l) = false) : Both T cl F N sc X s :=
  ⟨fun _ => h, fun l hl => by
    match l, hl with
    | [], hl => rw [h0] at hl; cases hl
    | [st], hl => exact pss_one (h st hl)
    | a :: b :: l, hl => rw [h2] at hl; cases hl⟩
theorem ne_ix {i j : Nat} {x y : Str} (hi : N[i]? = some x) (hj : N[j]? = some y) (h : x ≠ y) : i ≠ j := fun z => by
  subst z
  rw [hi] at hj
  cases hj
  exact h rfl
theorem ps_ok {sc : Scope} {X : Cx} (x : XS T cl N sc k X) : ∀ s : Sm, Both T cl F N sc X s
  | .nil => ⟨fun h => (nomatch h), fun l h => by
      cases l with
      | nil =>
        refine PSs.imp pss_nil fun D σ H hw => ?_
        obtain ⟨φ, ρ, S, fl, ρ', S', he, hs, hf, q⟩ := hw
        unfold evS at hf
        cases hf
        exact q φ σ H (Evo.refl _ _) hs he
      | cons a l => unfold okS at h; cases h⟩
  | .cons s ss => ⟨fun h => (nomatch h), fun l h => by
      cases l with
      | nil => unfold okS at h; cases h
      | cons a l =>
        unfold okS at h
        simp only [Bool.and_eq_true] at h
        exact PSs.imp (pss_cons ((ps_ok x s).1 h.1.1 a h.1.2) ((ps_ok x ss).2 l h.2)) fun D σ H hw => sSeq_of hw⟩
  | .asg p e => both (fun st h => by
      unfold okS at h
      split at h
      · next heq =>
        cases heq
        simp only [Bool.and_eq_true] at h
        obtain ⟨⟨⟨h1, h2⟩, h3⟩, h4⟩ := h
        have hh := noSwapped h1 h2 X.env x.x.xn.hsc
        exact PS.imp (ps_asg (pe_ok e x.x _ h4) (pg_ok x.x.xn p _ h3) (hh _).1 (hh 0).2.1 (hh 0).2.2) fun D σ H hw => sAsg_of hw
      · cases h) (by unfold okS; rfl) (fun a b l => by unfold okS; split <;> first | rfl | (next heq => cases heq))
  | .par2 i y j z as => both (fun st h => by
      unfold okS at h
      split at h
      · next heq =>
        cases heq
        simp only [Bool.and_eq_true, decide_eq_true_eq, Bool.not_eq_true', locL, fnKind] at h
        obtain ⟨⟨⟨⟨⟨⟨⟨⟨⟨⟨⟨rfl, rfl⟩, h1⟩, h2⟩, h3⟩, h4⟩, h5⟩, h6⟩, h7⟩, h8⟩, h9⟩, h10⟩ := h
        have hst := okA_star h10
        simp only [List.all_cons, List.all_nil, Bool.and_true, Bool.and_eq_true] at hst
        have hN : X.N.Nodup := by rw [x.x.xn.hN]; exact x.x.xn.nd
        exact PS.imp (ps_par x.x.xn.calm hN (by rw [x.x.xn.hN]; exact h1) (by rw [x.x.xn.hN]; exact h2) (ne_ix h1 h2 h3) (by rw [x.x.xn.hsc]; exact h4) (by rw [x.x.xn.hsc]; exact h5) (pa_ok as x.x _ h10)
          (by exact swap2 (by rw [x.x.xn.hsc]; exact h6) hst.1 hst.2 (by rw [x.x.xn.hsc]; exact h4) (by rw [x.x.xn.hsc]; exact h5) h7 h3 h8 h9)) fun D σ H hw => sPar2_of hw
      · cases h) (by unfold okS; rfl) (fun a b l => by unfold okS; split <;> first | rfl | (next heq => cases heq))
  | .par3 i y j z l w as => both (fun st h => by
      unfold okS at h
      split at h
      · next heq =>
        cases heq
        simp only [Bool.and_eq_true, decide_eq_true_eq, Bool.not_eq_true', locL, fnKind] at h
        obtain ⟨⟨⟨⟨⟨⟨⟨⟨⟨⟨⟨⟨⟨⟨⟨⟨⟨rfl, rfl⟩, rfl⟩, h1⟩, h2⟩, h3⟩, n1⟩, n2⟩, n3⟩, h4⟩, h5⟩, h5'⟩, h6⟩, h7⟩, h7'⟩, h8⟩, h9⟩, h10⟩ := h
        have hst := okA_star h10
        simp only [List.all_cons, List.all_nil, Bool.and_true, Bool.and_eq_true] at hst
        have hN : X.N.Nodup := by rw [x.x.xn.hN]; exact x.x.xn.nd
        exact PS.imp (ps_par3 x.x.xn.calm hN (by rw [x.x.xn.hN]; exact h1) (by rw [x.x.xn.hN]; exact h2) (by rw [x.x.xn.hN]; exact h3) (ne_ix h1 h2 n1) (ne_ix h1 h3 n2) (ne_ix h2 h3 n3) (by rw [x.x.xn.hsc]; exact h4) (by rw [x.x.xn.hsc]; exact h5) (by rw [x.x.xn.hsc]; exact h5') (pa_ok as x.x _ h10)
          (by exact swap3 (by rw [x.x.xn.hsc]; exact h6) hst.1 hst.2.1 hst.2.2 (by rw [x.x.xn.hsc]; exact h4) (by rw [x.x.xn.hsc]; exact h5) (by rw [x.x.xn.hsc]; exact h5') h7 h7' n1 n2 n3 h8 h9)) fun D σ H hw => sPar3_of hw
      · cases h) (by unfold okS; rfl) (fun a b l => by unfold okS; split <;> first | rfl | (next heq => cases heq))
  | .setLc i y own elt p it tst => both (fun st h => by
      unfold okS at h
      split at h
      · next el gs scope lp sp heq =>
        cases heq
        simp only [Bool.and_eq_true, decide_eq_true_eq, Bool.not_eq_true', locL, fnKind] at h
        obtain ⟨⟨⟨⟨⟨⟨h0, rfl⟩, h1⟩, h2⟩, h3⟩, h4⟩, h5⟩ := h
        unfold okE at h5
        split at h5
        · next heq2 =>
          cases heq2
          simp only [Bool.and_eq_true, decide_eq_true_eq] at h5
          obtain ⟨⟨⟨⟨⟨⟨⟨⟨rfl, g1⟩, g2⟩, g3⟩, g4⟩, g5⟩, g6⟩, g7⟩, g8⟩ := h5
          have hl := h2
          rw [← x.x.xn.hsc] at hl
          refine PS.imp (ps_setLc (i := i) (own := own) x.x.xn.calm (by rw [x.x.xn.hN]; exact x.x.xn.nd) (by rw [x.x.xn.hN]; exact h1) hl (sw_true (by rw [x.x.xn.hsc]; exact h3) hl (by rw [h0]; exact beq_self_eq_true _) h4)
            (pi_ok it x.x _ _ g4 g8) (by rw [x.x.xn.hN, x.x.xn.hsc]; exact blkOk_by g1) (fun s H C cl' fp => pg_ok (x.x.blk s H _ C cl' fp).xn p _ g5) (fun s H C cl' fp => ptc_ok tst (x.x.blk s H _ C cl' fp) _ g6)
            (fun s H C cl' fp => pe_ok elt (x.x.blk s H _ C cl' fp) _ g7) (fun y => noFold g3 _ _)) fun D σ H hw => sLc_of g2 hw
        · cases h5
      · cases h) (by unfold okS; rfl) (fun a b l => by unfold okS; split <;> first | rfl | (next heq => cases heq))
  | .seti o i e => both (fun st h => by
      unfold okS at h
      split at h
      · next heq =>
        cases heq
        simp only [Bool.and_eq_true] at h
        obtain ⟨⟨⟨h0, h2⟩, h3⟩, h4⟩ := h
        exact PS.imp (ps_asg (pe_ok e x.x _ h4) (pg_sub (pe_ok o x.x _ h2) (pe_ok i x.x _ h3) set_list (asgSub h0 _)) (swSub _ _)) fun D σ H hw => sSeti_of hw
      · cases h) (by unfold okS; rfl) (fun a b l => by unfold okS; split <;> first | rfl | (next heq => cases heq))
  | .setd o i e => both (fun st h => by
      unfold okS at h
      split at h
      · next heq =>
        cases heq
        simp only [Bool.and_eq_true] at h
        obtain ⟨⟨⟨h0, h2⟩, h3⟩, h4⟩ := h
        exact PS.imp (ps_asg (pe_ok e x.x _ h4) (pg_sub (pe_ok o x.x _ h2) (pe_ok i x.x _ h3) (set_O (mg := X.mg) x.x.u64) (asgSub h0 _)) (swSub _ _)) fun D σ H hw => sSetd_of hw
      · cases h) (by unfold okS; rfl) (fun a b l => by unfold okS; split <;> first | rfl | (next heq => cases heq))
  | .swp o1 i1 o2 i2 e => both (fun st h => by
      unfold okS at h
      split at h
      · next heq =>
        cases heq
        simp only [Bool.and_eq_true] at h
        obtain ⟨⟨⟨⟨⟨⟨⟨h0, h1⟩, h2⟩, h3⟩, h4⟩, h5⟩, h6⟩, h7⟩ := h
        have hh := noSwapped h0 rfl X.env x.x.xn.hsc
        exact PS.imp (ps_asg (pe_ok e x.x _ h7) (pg_tup x.x.xn.calm (pgs_cons (pg_sub (pe_ok o1 x.x _ h3) (pe_ok i1 x.x _ h4) set_list (asgSub h1 _)) (pgs_cons (pg_sub (pe_ok o2 x.x _ h5) (pe_ok i2 x.x _ h6) set_list (asgSub h2 _)) pgs_nil rfl) rfl) rfl rfl) (hh _).1 (hh 0).2.1 (hh 0).2.2) fun D σ H hw => sSwp_of hw
      · cases h) (by unfold okS; rfl) (fun a b l => by unfold okS; split <;> first | rfl | (next heq => cases heq))
  | .aug i y b e => both (fun st h => by
      unfold okS at h
      split at h
      · next heq =>
        cases heq
        simp only [Bool.and_eq_true, decide_eq_true_eq] at h
        obtain ⟨⟨⟨⟨rfl, rfl⟩, h1⟩, h2⟩, h3⟩ := h
        have hl := loc_of (df := allB) x.x h2
        exact PS.imp (ps_aug (i := i) (by rw [x.x.xn.hN]; exact x.x.xn.nd) (by rw [x.x.xn.hN]; exact h1) hl.1 (pe_ok e x.x _ h3) (pip_aug b) hl.2) fun D σ H hw => sAug_of hw
      · cases h) (by unfold okS; rfl) (fun a b l => by unfold okS; split <;> first | rfl | (next heq => cases heq))
  | .expr e => both (fun st h => by
      unfold okS at h
      split at h
      · next heq =>
        cases heq
        simp only [Bool.and_eq_true] at h
        exact PS.imp (ps_expr (pe_ok e x.x _ h.2) (noSwap h.1 _ _ _)) fun D σ H hw => sExpr_of hw
      · cases h) (by unfold okS; rfl) (fun a b l => by unfold okS; split <;> first | rfl | (next heq => cases heq))
  | .ret e => both (fun st h => by
      unfold okS at h
      split at h
      · next heq =>
        cases heq
        exact PS.imp (ps_ret (pe_ok e x.x _ h)) fun D σ H hw => sRet_of hw
      · cases h) (by unfold okS; rfl) (fun a b l => by unfold okS; split <;> first | rfl | (next heq => cases heq))
  | .ret0 => both (fun st h => by
      unfold okS at h
      split at h
      · next heq =>
        cases heq
        refine PS.imp ps_retN fun D σ H hw => ?_
        obtain ⟨φ, ρ, S, fl, ρ', S', he, hs, hf, q⟩ := hw
        unfold evS at hf
        cases hf
        exact q φ σ H (Evo.refl _ _) hs he .non Den.non trivial
      · cases h) (by unfold okS; rfl) (fun a b l => by unfold okS; split <;> first | rfl | (next heq => cases heq))
  | .ite t a b => both (fun st h => by
      unfold okS at h
      split at h
      · next heq =>
        cases heq
        simp only [Bool.and_eq_true] at h
        exact PS.imp (ps_if (pt_ok t x.x _ h.1.1) ((ps_ok x a).2 _ h.1.2) ((ps_ok x b).2 _ h.2)) fun D σ H hw => sIf_of hw
      · cases h) (by unfold okS; rfl) (fun a b l => by unfold okS; split <;> first | rfl | (next heq => cases heq))
  | .for p it b => both (fun st h => by
      unfold okS at h
      split at h
      · next heq =>
        cases heq
        simp only [Bool.and_eq_true] at h
        obtain ⟨⟨⟨⟨h1, h2⟩, h3⟩, h4⟩, h5⟩ := h
        exact PS.imp (ps_for x.po x.x.xn.calm (pi_ok it x.x _ _ h2 h4) (pg_ok x.x.xn p _ h3) ((ps_ok x b).2 _ h5) (fun y => noFold h1 _ _)) fun D σ H hw => sFor_of hw
      · cases h) (by unfold okS; rfl) (fun a b l => by unfold okS; split <;> first | rfl | (next heq => cases heq))
  | .while t b => both (fun st h => by
      unfold okS at h
      split at h
      · next heq =>
        cases heq
        simp only [Bool.and_eq_true] at h
        exact PS.imp (ps_while x.po (pt_ok t x.x _ h.1) ((ps_ok x b).2 _ h.2)) fun D σ H hw => sWhile_of hw
      · cases h) (by unfold okS; rfl) (fun a b l => by unfold okS; split <;> first | rfl | (next heq => cases heq))
  | .pass => both (fun st h => by
      unfold okS at h
      split at h
      · next heq =>
        cases heq
        refine PS.imp ps_pass fun D σ H hw => ?_
        obtain ⟨φ, ρ, S, fl, ρ', S', he, hs, hf, q⟩ := hw
        unfold evS at hf
        cases hf
        exact q φ σ H (Evo.refl _ _) hs he
      · cases h) (by unfold okS; rfl) (fun a b l => by unfold okS; split <;> first | rfl | (next heq => cases heq))
  | .brk => both (fun st h => by
      unfold okS at h
      split at h
      · next heq =>
        cases heq
        refine PS.imp ps_break fun D σ H hw => ?_
        obtain ⟨φ, ρ, S, fl, ρ', S', he, hs, hf, q⟩ := hw
        unfold evS at hf
        cases hf
        exact q φ σ H (Evo.refl _ _) hs he
      · cases h) (by unfold okS; rfl) (fun a b l => by unfold okS; split <;> first | rfl | (next heq => cases heq))
  | .cnt => both (fun st h => by
      unfold okS at h
      split at h
      · next heq =>
        cases heq
        refine PS.imp ps_continue fun D σ H hw => ?_
        obtain ⟨φ, ρ, S, fl, ρ', S', he, hs, hf, q⟩ := hw
        unfold evS at hf
        cases hf
        exact q φ σ H (Evo.refl _ _) hs he
      · cases h) (by unfold okS; rfl) (fun a b l => by unfold okS; split <;> first | rfl | (next heq => cases heq))
  | .raise => both (fun st h => by
      refine PS.imp ps_never fun D σ H hw => ?_
      obtain ⟨φ, ρ, S, fl, ρ', S', he, hs, hf, q⟩ := hw
      unfold evS at hf
      cases hf) (by unfold okS; rfl) (fun a b l => by unfold okS; split <;> first | rfl | (next heq => cases heq))
end
end Z

set_option Elab.async false
set_option linter.all false
set_option maxRecDepth 100000
/-! Z17: defs and the calls' table. -/
namespace Z
open PySem PySem.Spec PyProof.Rows L2

structure Def where
  N : List Str
  np : Nat
  /-- its calls with pure arguments run over an empty store -/
  px : Bool
  body : Sm
abbrev Prog := List (Str × Def)
/-- a result that leaves a call whose arguments hold no store's places -/
def expW (w : W) (S' : Sto) : Option W :=
  match w with
  | .tmp xs => if D.pures xs then some (.tmp xs) else none
  | .d (.ref k) => match S'[k]? with
    | some (.lst xs) => if D.pures xs then some (.tmp xs) else none
    | _ => none
  | .d x => if x.pure then some (.d x) else none
def env0 (d : Def) (ds : List D) : Env := ds.map some ++ List.replicate (d.N.length - ds.length) none
section
variable (F : Nat) (T : Tab)
def runDef (cl : Calls) (d : Def) (ds : List D) (S : Sto) : Option (W × Sto) :=
  match evS T cl F d.body (env0 d ds) S with
  | some (.nx, _, S') => some (.d .non, S')
  | some (.rt w, _, S') => some (w, S')
  | _ => none
def callD (pg : Prog) : Nat → Calls
  | 0 => fun _ _ _ => none
  | n + 1 => fun f ds S => match pg.lookup f with
    | none => none
    | some d => if ds.length = d.np then (if (d.px && D.pures ds) = true then (match runDef F T (callD pg n) d ds [] with
        | none => none
        | some (w, S') => (expW w S').map fun w' => (w', S)) else runDef F T (callD pg n) d ds S) else none
end
section
variable {K : PySem.W.Frag} {mg : Str → Option Value} {φ φ' : List Addr} {H H' : Hp} {S : Sto}
mutual
theorem Den.pure : ∀ {v : V} {d : D}, Den K mg φ H v d → d.pure = true → Den K mg φ' H v d
  | _, _, .non, _ => .non
  | _, _, .bl b, _ => .bl b
  | _, _, .int i, _ => .int i
  | _, _, .str x, _ => .str x
  | _, _, .tup h hs, p => .tup h (Dens.pure hs (by simpa [D.pure] using p))
  | _, _, .fz h hs, p => .fz h (Dens.pure hs (by simpa [D.pure] using p))
  | _, _, .ref _, p => by simp [D.pure] at p
  | _, _, .fn h, _ => .fn h
  | _, _, .wt _ _, p => by simp [D.pure] at p
theorem Dens.pure : ∀ {vs : List V} {ds : List D}, Dens K mg φ H vs ds → D.pures ds = true → Dens K mg φ' H vs ds
  | _, _, .nil, _ => .nil
  | _, _, .cons (d := d) (ds := ds) a b, p => by
    have p' : d.pure = true ∧ D.pures ds = true := by simpa [D.pures] using p
    exact .cons (Den.pure a p'.1) (Dens.pure b p'.2)
end
/-- a call over an empty store leaves the caller's store as it is -/
theorem own_evo (e : Evo [] H φ' H') (s : StOk K mg φ S H) : Evo φ H φ H' ∧ StOk K mg φ S H' := by
  have ev : Evo φ H φ H' := ⟨⟨[], by simp, by simp⟩, fun a o h _ => e.out a o h (by simp), e.stb, e.thr⟩
  refine ⟨ev, s.len, s.nd, fun n a o h1 h2 => ?_⟩
  have ho := s.obj n a o h1 h2
  obtain ⟨u, hu, _⟩ := ho.some
  exact ho.evo ev ((e.out a u hu (by simp)).trans hu.symm)
theorem expW_ok {S' : Sto} {v : V} {w w' : W} (e : Evo [] H φ' H') (s : StOk K mg φ S H) (s' : StOk K mg φ' S' H') (d : DenW K mg φ' H' v w) (f : FrW H v w) (h : expW w S' = some w') : DenW K mg φ H' v w' ∧ FrW H v w' := by
  have fresh : ∀ a, a ∈ φ' → a ∉ φ ∧ H a = none := fun a ha => by
    obtain ⟨ψ, hp, hψ⟩ := e.ext
    rw [List.nil_append] at hp
    subst hp
    exact ⟨s.fresh (hψ a ha), hψ a ha⟩
  have pur : ∀ x : D, w = .d x → (if x.pure then some (W.d x) else none) = some w' → DenW K mg φ H' v w' ∧ FrW H v w' := fun x hw hh => by
    subst hw
    by_cases hp : x.pure = true
    · rw [if_pos hp] at hh
      cases hh
      exact ⟨Den.pure (show Den K mg φ' H' v x from d) hp, trivial⟩
    · rw [if_neg hp] at hh
      cases hh
  cases w with
  | tmp xs =>
    unfold expW at h
    simp only at h
    split at h
    · next hp =>
      cases h
      obtain ⟨a, vs, rfl, _, h1, h2⟩ := d
      obtain ⟨b, eb, hb⟩ := f
      cases eb
      exact ⟨⟨a, vs, rfl, s.fresh hb, h1, Dens.pure h2 hp⟩, a, rfl, hb⟩
    · cases h
  | d x =>
    cases x with
    | ref k =>
      unfold expW at h
      simp only at h
      split at h
      · next xs hx =>
        split at h
        · next hp =>
          cases h
          cases (show Den K mg φ' H' v (.ref k) from d) with
          | ref hk =>
            obtain ⟨vs, h1, h2⟩ := s'.obj _ _ _ hk hx
            have hf := fresh _ (List.mem_of_getElem? hk)
            exact ⟨⟨_, vs, rfl, hf.1, h1, Dens.pure h2 hp⟩, _, rfl, hf.2⟩
        · cases h
      · cases h
    | non => exact pur _ rfl h
    | bl b => exact pur _ rfl h
    | int i => exact pur _ rfl h
    | str i => exact pur _ rfl h
    | tup i => exact pur _ rfl h
    | fz i => exact pur _ rfl h
    | wt i => exact pur _ rfl h
    | fn i => exact pur _ rfl h
theorem start_ok {d : Def} {vs : List V} {ds : List D} (h : Dens K mg φ H vs ds) : EnvOk K mg φ H (L2.start d.N vs) (env0 d ds) := by
  unfold L2.start env0
  refine ⟨by simp [h.length], fun i x hx => ?_⟩
  by_cases hi : i < ds.length
  · rw [List.getElem?_append_left (by simpa using hi), List.getElem?_map] at hx
    cases hd : ds[i]? with
    | none => rw [hd] at hx; cases hx
    | some y =>
      rw [hd] at hx
      cases hx
      obtain ⟨v, hv, dv⟩ := h.get hd
      exact ⟨v, by rw [List.getElem?_append_left (by rw [List.length_map, h.length]; exact hi), List.getElem?_map, hv]; rfl, dv⟩
  · rw [List.getElem?_append_right (by simpa using hi), List.getElem?_replicate] at hx
    split at hx <;> cases hx
end
/-- a def of the text is the def d of the table -/
structure DefIs (K : PySem.W.Frag) (mg : Str → Option Value) (T : Tab) (f : Str) (d : Def) : Prop where
  ex : ∃ a fd ps x qual st, mg f = some (.ref a) ∧ Fun K x qual st a fd ∧ FnScope d.N ps (defScope st) ∧ ps.length = d.np ∧ Binds K fd ps [] ∧ okS T d.N (defScope st) d.body (defBody st) = true
structure TopIs (K : PySem.W.Frag) (mg : Str → Option Value) (T : Tab) (pg : Prog) : Prop where
  defs : ∀ f n, T.defs.lookup f = some n → ∃ d, pg.lookup f = some d ∧ d.np = n ∧ DefIs K mg T f d
  blt : ∀ x ∈ T.blts, mg x = none
  glb : ∀ x d, T.globs.lookup x = some d → ∃ u v, mg x = some u ∧ RelV v u ∧ ∀ φ H, Den K mg φ H v d
section
variable {P : Program} {w : World} {K : PySem.W.Frag} {mg : Str → Option Value} {base : Heap} {F : Nat} {T : Tab} {pg : Prog}
theorem body_fin {D : Ends} {φ : List Addr} {H : Hp} {r : Option (Fl × Env × Sto)} {wv : W} {S' : Sto}
    (h : (match r with | some (.nx, _, S') => some (W.d .non, S') | some (.rt w, _, S') => some (w, S') | _ => none) = some (wv, S'))
    (q : ∀ v φ' H', Evo φ H φ' H' → StOk K mg φ' S' H' → DenW K mg φ' H' v wv → FrW H v wv → D.rt v H') (hn : ∀ σ H', D.rt .non H' → D.nx σ H') : ∃ fl ρ', r = some (fl, ρ', S') ∧ Fin K mg D φ H fl ρ' S' := by
  cases r with
  | none => cases h
  | some p =>
    obtain ⟨fl, ρ', S1⟩ := p
    cases fl with
    | nx =>
      cases h
      exact ⟨.nx, ρ', rfl, fun φ' σ' H' e s r => hn _ _ (q .non φ' H' e s .non trivial)⟩
    | rt w' =>
      cases h
      exact ⟨.rt wv, ρ', rfl, fun φ' σ' H' e s r v d f => q v φ' H' e s d f⟩
    | bk => cases h
    | ct => cases h
/-- one def, if all that it calls are right -/
theorem def_fn (tp : TopIs K mg T pg) (n : Nat) (ih : ∀ (f : Str) (m : Nat), T.defs.lookup f = some m → CallOk P w K mg base (callD F T pg n) n f m) {f : Str} {d : Def} {a : Addr} {fd : FuncData} {ps : List Str} {x qual : Str} {st : Stmt} (h1 : pg.lookup f = some d)
    (g2 : Fun K x qual st a fd) (g3 : FnScope d.N ps (defScope st)) (g4 : ps.length = d.np) (g6 : okS T d.N (defScope st) d.body (defBody st) = true) : FnOk P w K mg base CX0 (n + 1) a fd ps (spOf K mg (callD F T pg (n + 1)) f d.np) := by
    refine g2.ok g3 (fun vs H Q E hs => by rw [g4]; exact hs.1) fun cdv A outer s H vs Q E hr hs => ?_
    have xs : XS T (callD F T pg n) d.N (defScope st) n (cxOf CX0 P w K mg base d.N qual (defScope st) a cdv A outer s H E).nox :=
      ⟨⟨⟨rfl, g3.nd, rfl, rfl, fun _ _ => rfl⟩, hr, tp.blt, tp.glb, ih⟩, rfl⟩
    refine ⟨_, (ps_ok (F := F) xs d.body).2 _ g6, ?_⟩
    obtain ⟨hl, φ, ds, S, w', S', hst, hds, hf, q⟩ := hs
    unfold callD at hf
    simp only [h1] at hf
    split at hf
    · split at hf
      · next hp =>
        split at hf
        · cases hf
        · next w1 S1 hr1 =>
          cases hx : expW w1 S1 with
          | none => rw [hx] at hf; cases hf
          | some w2 =>
            rw [hx] at hf
            cases hf
            unfold runDef at hr1
            obtain ⟨fl, ρ', hb, hfin⟩ := body_fin (K := K) (mg := mg) (φ := []) (H := H) (D := { nx := fun _ H' => Q .non H', rt := Q }) hr1 (fun v φ' H' e s' dv fv => by
              have ow := own_evo e hst
              have ex := expW_ok e hst s' dv fv hx
              exact q v φ H' ow.1 ow.2 ex.1 ex.2) fun _ _ z => z
            exact ⟨[], env0 d ds, [], fl, ρ', S1, start_ok (Dens.pure hds (Bool.and_eq_true_iff.mp hp).2), ⟨rfl, List.nodup_nil, fun n a o h => by simp at h⟩, hb, hfin⟩
      · next hp =>
        unfold runDef at hf
        obtain ⟨fl, ρ', hb, hfin⟩ := body_fin (K := K) (mg := mg) (φ := φ) (H := H) (D := { nx := fun _ H' => Q .non H', rt := Q }) hf q fun _ _ z => z
        exact ⟨φ, env0 d ds, S, fl, ρ', S', start_ok hds, hst, hb, hfin⟩
    · cases hf
theorem calls_ok (tp : TopIs K mg T pg) : ∀ (n : Nat) (f : Str) (m : Nat), T.defs.lookup f = some m → CallOk P w K mg base (callD F T pg n) n f m
  | 0, f, m, h => by
    obtain ⟨d, h1, rfl, h2⟩ := tp.defs f m h
    obtain ⟨a, fd, ps, x, qual, st, g1, g2, g3, g4, g5, g6⟩ := h2.ex
    refine ⟨a, fd, ps, g1, g2.kp, g5, g4, ⟨fun vs H Q E hs => by rw [g4]; exact hs.1, fun A outer s H args us vs Q E _ _ _ _ hs => ?_⟩⟩
    obtain ⟨_, φ, ds, S, w', S', _, _, hf, _⟩ := hs
    unfold callD at hf
    cases hf
  | n + 1, f, m, h => by
    obtain ⟨d, h1, rfl, h2⟩ := tp.defs f m h
    obtain ⟨a, fd, ps, x, qual, st, g1, g2, g3, g4, g5, g6⟩ := h2.ex
    exact ⟨a, fd, ps, g1, g2.kp, g5, g4, def_fn tp n (fun f' m' h' => calls_ok tp n f' m' h') h1 g2 g3 g4 g6⟩
end
end Z

set_option Elab.async false
set_option linter.all false
set_option maxRecDepth 100000
/-! Z18: the law's own head: what the row says of the top. -/
namespace Z
open PySem PySem.Spec PyProof.Rows L2

/-- what the written part says of a def -/
structure DefRow (K : PySem.W.Frag) (f x qual : Str) (st : Stmt) (a : Addr) (fd : FuncData) : Prop where
  ns : PySem.W.nsIn K mainGlobals f = some (some (.ref a))
  fn : Fun K x qual st a fd
theorem defRow {K : PySem.W.Frag} {f x qual : Str} {st : Stmt} {a : Addr} {oc : Value} {od an : Option Addr} {osl : Array (Option Value)} {kV doc pm cdv ct : Value}
    (h : PySem.W.nsIn K mainGlobals f = some (some (.ref a))) (l : K.lookup a = some ⟨oc, od, .func (PySem.W.fnOf x qual (defArgs st) (defBody st) (defScope st) .none kV doc pm an cdv ct), osl⟩)
    (c : PySem.W.codeIn K cdv qual = true) (k : PySem.W.keepIn K (.ref a) = true) : DefRow K f x qual st a (PySem.W.fnOf x qual (defArgs st) (defBody st) (defScope st) .none kV doc pm an cdv ct) := ⟨h, fun_mk l c k⟩
theorem DefRow.is {K : PySem.W.Frag} {mg : Str → Option Value} {h : Heap} {T : Tab} {f x qual : Str} {st : Stmt} {a : Addr} {fd : FuncData} (R : DefRow K f x qual st a fd) (X : K.In h) (G : h.Ns mainGlobals mg) {d : Def} {ps : List Str}
    (sc : FnScope d.N ps (defScope st)) (hl : ps.length = d.np) (hb : ∀ (kV doc pm : Value) (an : Option Addr) (cdv ct : Value) (us : List Value), us.length = ps.length → bindArgs (PySem.W.fnOf x qual (defArgs st) (defBody st) (defScope st) .none kV doc pm an cdv ct) ⟨us, []⟩ = pure (ps.zip us))
    (ok : okS T d.N (defScope st) d.body (defBody st) = true) : DefIs K mg T f d :=
  ⟨⟨a, fd, ps, x, qual, st, PySem.W.mg_of X G R.ns, R.fn, sc, hl, R.fn.binds hb, ok⟩⟩
/-- all of a list -/
def AllIs (K : PySem.W.Frag) (mg : Str → Option Value) (T : Tab) : List (Str × Def) → Prop
  | [] => True
  | p :: r => DefIs K mg T p.1 p.2 ∧ AllIs K mg T r
theorem AllIs.look {K : PySem.W.Frag} {mg : Str → Option Value} {T : Tab} : ∀ {pg : List (Str × Def)} {f : Str} {n : Nat}, AllIs K mg T pg → (pg.map fun p => (p.1, p.2.np)).lookup f = some n → ∃ d, pg.lookup f = some d ∧ d.np = n ∧ DefIs K mg T f d
  | [], f, n, _, h => by simp at h
  | p :: r, f, n, a, h => by
    obtain ⟨g, d⟩ := p
    rw [List.map_cons, List.lookup_cons] at h
    rw [List.lookup_cons]
    by_cases e : (f == g) = true
    · rw [e] at h ⊢
      cases h
      have e' : f = g := by simpa using e
      subst e'
      exact ⟨d, rfl, rfl, a.1⟩
    · have e2 : (f == g) = false := by simpa using e
      rw [e2] at h ⊢
      exact AllIs.look a.2 h
/-- what the top holds under a name -/
def GlbIs (K : PySem.W.Frag) (mg : Str → Option Value) (p : Str × D) : Prop := ∃ u v, mg p.1 = some u ∧ RelV v u ∧ ∀ φ H, Den K mg φ H v p.2
def GlbsIs (K : PySem.W.Frag) (mg : Str → Option Value) : List (Str × D) → Prop
  | [] => True
  | p :: r => GlbIs K mg p ∧ GlbsIs K mg r
theorem GlbsIs.look {K : PySem.W.Frag} {mg : Str → Option Value} : ∀ {gs : List (Str × D)} {x : Str} {d : D}, GlbsIs K mg gs → gs.lookup x = some d → GlbIs K mg (x, d)
  | [], x, d, _, h => by simp at h
  | p :: r, x, d, a, h => by
    obtain ⟨g, e⟩ := p
    rw [List.lookup_cons] at h
    by_cases hx : (x == g) = true
    · rw [hx] at h
      cases h
      have e' : x = g := by simpa using hx
      subst e'
      exact a.1
    · have e2 : (x == g) = false := by simpa using hx
      rw [e2] at h
      exact GlbsIs.look a.2 h
def BltsIs (mg : Str → Option Value) : List Str → Prop
  | [] => True
  | x :: r => mg x = none ∧ BltsIs mg r
theorem BltsIs.look {mg : Str → Option Value} : ∀ {xs : List Str}, BltsIs mg xs → ∀ x ∈ xs, mg x = none
  | [], _, x, h => by cases h
  | y :: r, a, x, h => by
    rcases List.mem_cons.mp h with rfl | h
    · exact a.1
    · exact BltsIs.look a.2 x h
theorem topIs {K : PySem.W.Frag} {mg : Str → Option Value} {T : Tab} {pg : Prog} (ht : T.defs = pg.map fun p => (p.1, p.2.np)) (a : AllIs K mg T pg) (g : GlbsIs K mg T.globs) (b : BltsIs mg T.blts) : TopIs K mg T pg :=
  ⟨fun f n h => a.look (by rw [← ht]; exact h), b.look, fun x d h => g.look h⟩
/-- constants of the top -/
def valOk : D → Value → Bool
  | .int i, u => match u with
    | .int j _ => decide (i = j)
    | _ => false
  | .str x, u => match u with
    | .str y _ => decide (x = y)
    | _ => false
  | _, _ => false
def valsOk : List D → List Value → Bool
  | [], l => l.isEmpty
  | d :: ds, l => match l with
    | u :: us => valOk d u && valsOk ds us
    | [] => false
theorem valOk_of {K : PySem.W.Frag} {mg : Str → Option Value} : ∀ {d : D} {u : Value}, valOk d u = true → ∃ v, RelV v u ∧ ∀ φ H, Den K mg φ H v d
  | .int i, u, h => by
    cases u with
    | int j t => have := of_decide_eq_true h; subst this; exact ⟨.int i, ⟨t, rfl⟩, fun _ _ => .int i⟩
    | _ => cases h
  | .str i, u, h => by
    cases u with
    | str j t => have := of_decide_eq_true h; subst this; exact ⟨.str i, ⟨t, rfl⟩, fun _ _ => .str i⟩
    | _ => cases h
  | .non, _, h | .bl _, _, h | .tup _, _, h | .fz _, _, h | .wt _, _, h | .ref _, _, h | .fn _, _, h => by cases h
theorem valsOk_of {K : PySem.W.Frag} {mg : Str → Option Value} : ∀ {ds : List D} {us : List Value}, valsOk ds us = true → ∃ vs, Vals vs us ∧ ∀ φ H, Dens K mg φ H vs ds
  | [], us, h => by
    cases us with
    | nil => exact ⟨[], .nil, fun _ _ => .nil⟩
    | cons _ _ => cases h
  | d :: ds, us, h => by
    cases us with
    | nil => cases h
    | cons u us =>
      unfold valsOk at h
      simp only [Bool.and_eq_true] at h
      obtain ⟨v, h1, h2⟩ := valOk_of (K := K) (mg := mg) h.1
      obtain ⟨vs, h3, h4⟩ := valsOk_of (K := K) (mg := mg) h.2
      exact ⟨v :: vs, .cons h1 h3, fun φ H => .cons (h2 φ H) (h4 φ H)⟩
theorem glb_val {K : PySem.W.Frag} {h : Heap} {mg : Str → Option Value} (X : K.In h) (G : h.Ns mainGlobals mg) {x : Str} {d : D} {u : Value} (e : PySem.W.nsIn K mainGlobals x = some (some u)) (hv : valOk d u = true) : GlbIs K mg (x, d) := by
  obtain ⟨v, h1, h2⟩ := valOk_of (K := K) (mg := mg) hv
  exact ⟨u, v, PySem.W.mg_of X G e, h1, h2⟩
theorem glb_tup {K : PySem.W.Frag} {h : Heap} {mg : Str → Option Value} (X : K.In h) (G : h.Ns mainGlobals mg) {x : Str} {ds : List D} {a : Addr} {its : Array Value} {n : Nat} {sl : Array (Option Value)}
    (e : PySem.W.nsIn K mainGlobals x = some (some (.ref a))) (l : K.lookup a = some ⟨.type "tuple", none, .seq its n, sl⟩) (hv : valsOk ds its.toList = true) (hn : its.toList.length ≤ 1000) : GlbIs K mg (x, .tup ds) := by
  obtain ⟨vs, h1, h2⟩ := valsOk_of (K := K) (mg := mg) hv
  exact ⟨.ref a, .ref a, PySem.W.mg_of X G e, rfl, fun φ H => .tup (.inr ⟨_, its, n, l, rfl, rfl, rfl, Nat.le_of_lt (small1000 hn), h1⟩) (h2 φ H)⟩
theorem glb_fn {K : PySem.W.Frag} {h : Heap} {mg : Str → Option Value} (X : K.In h) (G : h.Ns mainGlobals mg) {x : Str} {a : Addr} (e : PySem.W.nsIn K mainGlobals x = some (some (.ref a))) : GlbIs K mg (x, .fn x) :=
  ⟨.ref a, .ref a, PySem.W.mg_of X G e, rfl, fun φ H => .fn (PySem.W.mg_of X G e)⟩

/-- the law's promise -/
def lawSp (K : PySem.W.Frag) : Sp := fun vs H Q _ => ∃ (a : Addr) (ns : List Int), vs = [.ref a] ∧ SqF K H a (ns.map V.int) ∧ ns.length ≤ 63 ∧ ∀ H', Q (.bl true) H'
theorem sqF_of {K : PySem.W.Frag} {H : Hp} {a : Addr} {xs : List V} (o : Only H) (h : SqL K H a xs) : SqF K H a xs := by
  rcases h with h | h
  · rcases h with h | h
    · rcases o a with z | ⟨u, ys, z⟩
      · rw [h] at z; cases z
      · rw [h] at z; cases z
    · obtain ⟨u, h⟩ := h
      exact .inl ⟨u, h⟩
  · exact .inr h
def lawName : Str := "law"
/-- the law, by the evaluator -/
theorem law_ok {P : Program} {w : World} {K : PySem.W.Frag} {mg : Str → Option Value} {base : Heap} {T : Tab} {pg : Prog} (tp : TopIs K mg T pg) {n F : Nat} {fa : Addr} {fd : FuncData} {x qual : Str} {st : Stmt} {d : Def}
    (h1 : pg.lookup lawName = some d) (g2 : Fun K x qual st fa fd) (g3 : FnScope d.N ["script"] (defScope st)) (g4 : d.np = 1) (g6 : okS T d.N (defScope st) d.body (defBody st) = true)
    (hl : ∀ ns : List Int, ns.length ≤ 63 → ∃ S', callD F T pg (n + 1) lawName [.fz (ns.map D.int)] [] = some (.d (.bl true), S')) :
    FnOk P w K mg base CX0 (n + 1) fa fd ["script"] (lawSp K) := by
  refine (def_fn (F := F) (P := P) (w := w) (base := base) tp n (fun f m h => calls_ok tp n f m h) h1 g2 g3 g4.symm g6).imp fun vs H Q E hs => ?_
  obtain ⟨a, ns, rfl, hS, hlen, q⟩ := hs
  obtain ⟨S', hc⟩ := hl ns hlen
  refine ⟨g4.symm, [], [.fz (ns.map D.int)], [], .d (.bl true), S', ⟨rfl, List.nodup_nil, fun n a o h => by simp at h⟩, .cons (.fz hS (Dens.of_ints ns)) .nil, hc, fun v φ' H' e s' dv fv => ?_⟩
  cases (show Den K mg φ' H' v (.bl true) from dv)
  exact q H'
end Z

set_option Elab.async false
set_option linter.all false
set_option maxRecDepth 100000
/-! Y1: the evaluator, step by step: equations whose continuations are named, so that nothing is entered ahead of its time. -/
namespace Z
open PySem PySem.Spec PyProof.Rows L2
def bnd {α β : Type} (x : Option α) (f : α → Option β) : Option β := match x with
  | none => none
  | some a => f a
theorem bnd_some {α β : Type} (a : α) (f : α → Option β) : bnd (some a) f = f a := rfl
theorem bnd_none {α β : Type} (f : α → Option β) : bnd none f = none := rfl
def lk : Env → Nat → Option D
  | [], _ => none
  | x :: _, 0 => x
  | _ :: xs, i + 1 => lk xs i
theorem lk_0 (x : Option D) (xs : Env) : lk (x :: xs) 0 = x := rfl
theorem lk_s (x : Option D) (xs : Env) (i : Nat) : lk (x :: xs) (i + 1) = lk xs i := rfl
theorem lk_eq : ∀ (ρ : Env) (i : Nat), lk ρ i = (ρ[i]?).join
  | [], _ => rfl
  | x :: _, 0 => rfl
  | _ :: xs, i + 1 => by unfold lk; rw [lk_eq xs i]; rfl
def stv : Env → Nat → D → Env
  | [], _, _ => []
  | _ :: xs, 0, d => some d :: xs
  | x :: xs, i + 1, d => x :: stv xs i d
theorem stv_0 (x : Option D) (xs : Env) (d : D) : stv (x :: xs) 0 d = some d :: xs := rfl
theorem stv_s (x : Option D) (xs : Env) (i : Nat) (d : D) : stv (x :: xs) (i + 1) d = x :: stv xs i d := rfl
theorem stv_eq : ∀ (ρ : Env) (i : Nat) (d : D), stv ρ i d = ρ.set i (some d)
  | [], _, _ => rfl
  | _ :: xs, 0, d => rfl
  | x :: xs, i + 1, d => by unfold stv; rw [stv_eq xs i d]; rfl
def mat1 (w : W) (S : Sto) : Option (D × Sto) := some (matW w S)
theorem mat_d (x : D) (S : Sto) : mat1 (.d x) S = some (x, S) := rfl
theorem mat_t (xs : List D) (S : Sto) : mat1 (.tmp xs) S = some (.ref S.length, S ++ [.lst xs]) := rfl
def matM (ws : List W) (S : Sto) : Option (List D × Sto) := some (matsW ws S)
def kMd (x : D) : List D × Sto → Option (List D × Sto)
  | (ds, S) => some (x :: ds, S)
theorem kMd_e (x : D) (ds : List D) (S : Sto) : kMd x (ds, S) = some (x :: ds, S) := rfl
theorem matM_nil (S : Sto) : matM [] S = some ([], S) := rfl
theorem matM_d (x : D) (ws : List W) (S : Sto) : matM (.d x :: ws) S = bnd (matM ws S) (kMd x) := rfl
theorem matM_t (xs : List D) (ws : List W) (S : Sto) : matM (.tmp xs :: ws) S = bnd (matM ws (S ++ [.lst xs])) (kMd (.ref S.length)) := rfl
def zipW (S2 : Sto) (x y : W) : Option ((List D × Grd) × Sto) := match x, y with
        | .d (.tup xs), .d (.tup ys) => some ((zipL xs ys, []), S2)
        | x, y => match lstOf S2 x, lstOf S2 y with
          | some xs, some ys => some ((zipL xs ys, guardOf S2 x ++ guardOf S2 y), S2)
          | _, _ => none
theorem zip_tt (S : Sto) (xs ys : List D) : zipW S (.d (.tup xs)) (.d (.tup ys)) = some ((zipL xs ys, []), S) := rfl
def refW : W → Option Nat
  | .d (.ref n) => some n
  | _ => none
def lstO : Option O → Option (List D)
  | some (.lst xs) => some xs
  | _ => none
def dkO : Option O → Option (List (Key × D))
  | some (.dk xs) => some xs
  | _ => none
def dW : W → Option D
  | .d x => some x
  | _ => none
def blW : W → Option Bool
  | .d (.bl b) => some b
  | _ => none
def fnD : D → Option Str
  | .fn f => some f
  | _ => none
section
variable (T : Tab) (cl : Calls) (F : Nat) (ρ : Env) (S : Sto)

def kRet (S : Sto) : W → Option (W × Sto)
  | z => some (z, S)
theorem kRet_e (S : Sto) (z : W) : kRet S z = some (z, S) := rfl
def kRetB (S : Sto) : Bool → Option (W × Sto)
  | z => some (.d (.bl z), S)
theorem kRetB_e (S : Sto) (z : Bool) : kRetB S z = some (.d (.bl z), S) := rfl
def kRetT (S : Sto) : Bool → Option (Bool × Sto)
  | z => some (z, S)
theorem kRetT_e (S : Sto) (z : Bool) : kRetT S z = some (z, S) := rfl
def kRetD (S : Sto) : D → Option (W × Sto)
  | z => some (.d z, S)
theorem kRetD_e (S : Sto) (z : D) : kRetD S z = some (.d z, S) := rfl
theorem e_var (i x) : evW T cl (.var i x) ρ S = bnd (lk ρ i) (kRetD S) := by
  rw [lk_eq, evW]
  cases h : ρ[i]? with
  | none => rfl
  | some o => cases o <;> rfl
theorem e_cI (i) : evW T cl (.cI i) ρ S = some (.d (.int i), S) := by rw [evW]
theorem e_cB (i) : evW T cl (.cB i) ρ S = some (.d (.bl i), S) := by rw [evW]
theorem e_cN : evW T cl .cN ρ S = some (.d .non, S) := by rw [evW]
theorem e_cS (i) : evW T cl (.cS i) ρ S = some (.d (.str i), S) := by rw [evW]
theorem e_glob (x) : evW T cl (.glob x) ρ S = bnd (T.globs.lookup x) (kRetD S) := by
  rw [evW]; cases T.globs.lookup x <;> rfl
def kBin2 (o : Bop) (x : W) : (W × Sto) → Option (W × Sto)
  | (y, S) => bnd (binW S o x y) (kRet S)
theorem kBin2_e (o : Bop) (x : W) (y : W) (S : Sto) : kBin2 o x (y, S) = bnd (binW S o x y) (kRet S) := rfl
def kBin1 (T : Tab) (cl : Calls) (o : Bop) (b : E) (ρ : Env) : (W × Sto) → Option (W × Sto)
  | (x, S) => bnd (evW T cl b ρ S) (kBin2 o x)
theorem kBin1_e (T : Tab) (cl : Calls) (o : Bop) (b : E) (ρ : Env) (x : W) (S : Sto) : kBin1 T cl o b ρ (x, S) = bnd (evW T cl b ρ S) (kBin2 o x) := rfl
theorem e_bin (o a b) : evW T cl (.bin o a b) ρ S = bnd (evW T cl a ρ S) (kBin1 T cl o b ρ) := by
  rw [evW]
  cases evW T cl a ρ S with
  | none => rfl
  | some p =>
    obtain ⟨x, S1⟩ := p
    simp only [bnd_some, kBin1_e]
    cases evW T cl b ρ S1 with
    | none => rfl
    | some q => obtain ⟨y, S2⟩ := q; simp only [bnd_some, kBin2_e]; generalize binW S2 o x y = z; cases z <;> rfl
def kCmp2 (o : Cop) (x : W) : (W × Sto) → Option (W × Sto)
  | (y, S) => bnd (cmpW S o x y) (kRetB S)
theorem kCmp2_e (o : Cop) (x : W) (y : W) (S : Sto) : kCmp2 o x (y, S) = bnd (cmpW S o x y) (kRetB S) := rfl
def kCmp1 (T : Tab) (cl : Calls) (o : Cop) (b : E) (ρ : Env) : (W × Sto) → Option (W × Sto)
  | (x, S) => bnd (evW T cl b ρ S) (kCmp2 o x)
theorem kCmp1_e (T : Tab) (cl : Calls) (o : Cop) (b : E) (ρ : Env) (x : W) (S : Sto) : kCmp1 T cl o b ρ (x, S) = bnd (evW T cl b ρ S) (kCmp2 o x) := rfl
theorem e_cmp (o a b) : evW T cl (.cmp o a b) ρ S = bnd (evW T cl a ρ S) (kCmp1 T cl o b ρ) := by
  rw [evW]
  cases evW T cl a ρ S with
  | none => rfl
  | some p =>
    obtain ⟨x, S1⟩ := p
    simp only [bnd_some, kCmp1_e]
    cases evW T cl b ρ S1 with
    | none => rfl
    | some q => obtain ⟨y, S2⟩ := q; simp only [bnd_some, kCmp2_e]; generalize cmpW S2 o x y = z; cases z <;> rfl
def kCmpT2 (o : Cop) (x : W) : (W × Sto) → Option (Bool × Sto)
  | (y, S) => bnd (cmpW S o x y) (kRetT S)
theorem kCmpT2_e (o : Cop) (x : W) (y : W) (S : Sto) : kCmpT2 o x (y, S) = bnd (cmpW S o x y) (kRetT S) := rfl
def kCmpT1 (T : Tab) (cl : Calls) (o : Cop) (b : E) (ρ : Env) : (W × Sto) → Option (Bool × Sto)
  | (x, S) => bnd (evW T cl b ρ S) (kCmpT2 o x)
theorem kCmpT1_e (T : Tab) (cl : Calls) (o : Cop) (b : E) (ρ : Env) (x : W) (S : Sto) : kCmpT1 T cl o b ρ (x, S) = bnd (evW T cl b ρ S) (kCmpT2 o x) := rfl
theorem t_cmp (o a b) : evT T cl (.cmp o a b) ρ S = bnd (evW T cl a ρ S) (kCmpT1 T cl o b ρ) := by
  rw [evT]
  cases evW T cl a ρ S with
  | none => rfl
  | some p =>
    obtain ⟨x, S1⟩ := p
    simp only [bnd_some, kCmpT1_e]
    cases evW T cl b ρ S1 with
    | none => rfl
    | some q => obtain ⟨y, S2⟩ := q; simp only [bnd_some, kCmpT2_e]; generalize cmpW S2 o x y = z; cases z <;> rfl
def kIx2 (x : W) : (W × Sto) → Option (W × Sto)
  | (y, S) => bnd (ixW S x y) (kRet S)
theorem kIx2_e (x : W) (y : W) (S : Sto) : kIx2 x (y, S) = bnd (ixW S x y) (kRet S) := rfl
def kIx1 (T : Tab) (cl : Calls) (b : E) (ρ : Env) : (W × Sto) → Option (W × Sto)
  | (x, S) => bnd (evW T cl b ρ S) (kIx2 x)
theorem kIx1_e (T : Tab) (cl : Calls) (b : E) (ρ : Env) (x : W) (S : Sto) : kIx1 T cl b ρ (x, S) = bnd (evW T cl b ρ S) (kIx2 x) := rfl
theorem e_ix (a b) : evW T cl (.ix a b) ρ S = bnd (evW T cl a ρ S) (kIx1 T cl b ρ) := by
  rw [evW]
  cases evW T cl a ρ S with
  | none => rfl
  | some p =>
    obtain ⟨x, S1⟩ := p
    simp only [bnd_some, kIx1_e]
    cases evW T cl b ρ S1 with
    | none => rfl
    | some q => obtain ⟨y, S2⟩ := q; simp only [bnd_some, kIx2_e]; generalize ixW S2 x y = z; cases z <;> rfl
def kDg2 (x : W) : (W × Sto) → Option (W × Sto)
  | (y, S) => bnd (dgetW S x y) (kRet S)
theorem kDg2_e (x : W) (y : W) (S : Sto) : kDg2 x (y, S) = bnd (dgetW S x y) (kRet S) := rfl
def kDg1 (T : Tab) (cl : Calls) (b : E) (ρ : Env) : (W × Sto) → Option (W × Sto)
  | (x, S) => bnd (evW T cl b ρ S) (kDg2 x)
theorem kDg1_e (T : Tab) (cl : Calls) (b : E) (ρ : Env) (x : W) (S : Sto) : kDg1 T cl b ρ (x, S) = bnd (evW T cl b ρ S) (kDg2 x) := rfl
theorem e_dget (a b) : evW T cl (.dget a b) ρ S = bnd (evW T cl a ρ S) (kDg1 T cl b ρ) := by
  rw [evW]
  cases evW T cl a ρ S with
  | none => rfl
  | some p =>
    obtain ⟨x, S1⟩ := p
    simp only [bnd_some, kDg1_e]
    cases evW T cl b ρ S1 with
    | none => rfl
    | some q => obtain ⟨y, S2⟩ := q; simp only [bnd_some, kDg2_e]; generalize dgetW S2 x y = z; cases z <;> rfl
def kChn4 (o2 : Cop) (y : W) : (W × Sto) → Option (Bool × Sto)
  | (z, S) => bnd (cmpW S o2 y z) (kRetT S)
theorem kChn4_e (o2 : Cop) (y : W) (z : W) (S : Sto) : kChn4 o2 y (z, S) = bnd (cmpW S o2 y z) (kRetT S) := rfl
def kChn3 (T : Tab) (cl : Calls) (o2 : Cop) (c : E) (ρ : Env) (y : W) (S : Sto) : Bool → Option (Bool × Sto)
  | true => bnd (evW T cl c ρ S) (kChn4 o2 y)
  | false => some (false, S)
theorem kChn3_t (T : Tab) (cl : Calls) (o2 : Cop) (c : E) (ρ : Env) (y : W) (S : Sto) : kChn3 T cl o2 c ρ y S true = bnd (evW T cl c ρ S) (kChn4 o2 y) := rfl
theorem kChn3_f (T : Tab) (cl : Calls) (o2 : Cop) (c : E) (ρ : Env) (y : W) (S : Sto) : kChn3 T cl o2 c ρ y S false = some (false, S) := rfl
def kChn2 (T : Tab) (cl : Calls) (o1 : Cop) (o2 : Cop) (c : E) (ρ : Env) (x : W) : (W × Sto) → Option (Bool × Sto)
  | (y, S) => bnd (cmpW S o1 x y) (kChn3 T cl o2 c ρ y S)
theorem kChn2_e (T : Tab) (cl : Calls) (o1 : Cop) (o2 : Cop) (c : E) (ρ : Env) (x : W) (y : W) (S : Sto) : kChn2 T cl o1 o2 c ρ x (y, S) = bnd (cmpW S o1 x y) (kChn3 T cl o2 c ρ y S) := rfl
def kChn1 (T : Tab) (cl : Calls) (o1 : Cop) (o2 : Cop) (b : E) (c : E) (ρ : Env) : (W × Sto) → Option (Bool × Sto)
  | (x, S) => bnd (evW T cl b ρ S) (kChn2 T cl o1 o2 c ρ x)
theorem kChn1_e (T : Tab) (cl : Calls) (o1 : Cop) (o2 : Cop) (b : E) (c : E) (ρ : Env) (x : W) (S : Sto) : kChn1 T cl o1 o2 b c ρ (x, S) = bnd (evW T cl b ρ S) (kChn2 T cl o1 o2 c ρ x) := rfl
def kC3d (o3 : Cop) (z : W) : (W × Sto) → Option (Bool × Sto)
  | (u, S) => bnd (cmpW S o3 z u) (kRetT S)
theorem kC3d_e (o3 : Cop) (z : W) (u : W) (S : Sto) : kC3d o3 z (u, S) = bnd (cmpW S o3 z u) (kRetT S) := rfl
def kC3c (T : Tab) (cl : Calls) (o3 : Cop) (d : E) (ρ : Env) (z : W) (S : Sto) : Bool → Option (Bool × Sto)
  | true => bnd (evW T cl d ρ S) (kC3d o3 z)
  | false => some (false, S)
theorem kC3c_t (o3 d z) : kC3c T cl o3 d ρ z S true = bnd (evW T cl d ρ S) (kC3d o3 z) := rfl
theorem kC3c_f (o3 d z) : kC3c T cl o3 d ρ z S false = some (false, S) := rfl
def kC3b (T : Tab) (cl : Calls) (o2 : Cop) (o3 : Cop) (d : E) (ρ : Env) (y : W) : (W × Sto) → Option (Bool × Sto)
  | (z, S) => bnd (cmpW S o2 y z) (kC3c T cl o3 d ρ z S)
theorem kC3b_e (T : Tab) (cl : Calls) (o2 : Cop) (o3 : Cop) (d : E) (ρ : Env) (y : W) (z : W) (S : Sto) : kC3b T cl o2 o3 d ρ y (z, S) = bnd (cmpW S o2 y z) (kC3c T cl o3 d ρ z S) := rfl
def kC3a (T : Tab) (cl : Calls) (o2 o3 : Cop) (c d : E) (ρ : Env) (y : W) (S : Sto) : Bool → Option (Bool × Sto)
  | true => bnd (evW T cl c ρ S) (kC3b T cl o2 o3 d ρ y)
  | false => some (false, S)
theorem kC3a_t (o2 o3 c d y) : kC3a T cl o2 o3 c d ρ y S true = bnd (evW T cl c ρ S) (kC3b T cl o2 o3 d ρ y) := rfl
theorem kC3a_f (o2 o3 c d y) : kC3a T cl o2 o3 c d ρ y S false = some (false, S) := rfl
def kC31 (T : Tab) (cl : Calls) (o1 : Cop) (o2 : Cop) (o3 : Cop) (c : E) (d : E) (ρ : Env) (x : W) : (W × Sto) → Option (Bool × Sto)
  | (y, S) => bnd (cmpW S o1 x y) (kC3a T cl o2 o3 c d ρ y S)
theorem kC31_e (T : Tab) (cl : Calls) (o1 : Cop) (o2 : Cop) (o3 : Cop) (c : E) (d : E) (ρ : Env) (x : W) (y : W) (S : Sto) : kC31 T cl o1 o2 o3 c d ρ x (y, S) = bnd (cmpW S o1 x y) (kC3a T cl o2 o3 c d ρ y S) := rfl
def kC30 (T : Tab) (cl : Calls) (o1 : Cop) (o2 : Cop) (o3 : Cop) (b : E) (c : E) (d : E) (ρ : Env) : (W × Sto) → Option (Bool × Sto)
  | (x, S) => bnd (evW T cl b ρ S) (kC31 T cl o1 o2 o3 c d ρ x)
theorem kC30_e (T : Tab) (cl : Calls) (o1 : Cop) (o2 : Cop) (o3 : Cop) (b : E) (c : E) (d : E) (ρ : Env) (x : W) (S : Sto) : kC30 T cl o1 o2 o3 b c d ρ (x, S) = bnd (evW T cl b ρ S) (kC31 T cl o1 o2 o3 c d ρ x) := rfl
theorem t_chn3 (o1 o2 o3 a b c d) : evT T cl (.chn3 o1 o2 o3 a b c d) ρ S = bnd (evW T cl a ρ S) (kC30 T cl o1 o2 o3 b c d ρ) := by
  rw [evT]
  cases evW T cl a ρ S with
  | none => rfl
  | some p =>
    obtain ⟨x, S1⟩ := p
    simp only [bnd_some, kC30_e]
    cases evW T cl b ρ S1 with
    | none => rfl
    | some q =>
      obtain ⟨y, S2⟩ := q
      simp only [bnd_some, kC31_e]
      cases cmpW S2 o1 x y with
      | none => rfl
      | some k =>
        cases k with
        | false => rfl
        | true =>
          simp only [bnd_some, kC3a_t]
          cases evW T cl c ρ S2 with
          | none => rfl
          | some r =>
            obtain ⟨z, S3⟩ := r
            simp only [bnd_some, kC3b_e]
            cases cmpW S3 o2 y z with
            | none => rfl
            | some k2 =>
              cases k2 with
              | false => rfl
              | true =>
                simp only [bnd_some, kC3c_t]
                cases evW T cl d ρ S3 with
                | none => rfl
                | some r => obtain ⟨u, S4⟩ := r; simp only [bnd_some, kC3d_e]; cases cmpW S4 o3 z u <;> rfl
def kTB  : (Bool × Sto) → Option (W × Sto)
  | (b, S) => some (.d (.bl b), S)
theorem kTB_e  (b : Bool) (S : Sto) : kTB  (b, S) = some (.d (.bl b), S) := rfl
theorem t_chn (o1 o2 a b c) : evT T cl (.chn o1 o2 a b c) ρ S = bnd (evW T cl a ρ S) (kChn1 T cl o1 o2 b c ρ) := by
  rw [evT]
  cases evW T cl a ρ S with
  | none => rfl
  | some p =>
    obtain ⟨x, S1⟩ := p
    simp only [bnd_some, kChn1_e]
    cases evW T cl b ρ S1 with
    | none => rfl
    | some q =>
      obtain ⟨y, S2⟩ := q
      simp only [bnd_some, kChn2_e]
      cases cmpW S2 o1 x y with
      | none => rfl
      | some k =>
        cases k with
        | false => rfl
        | true =>
          simp only [bnd_some, kChn3_t]
          cases evW T cl c ρ S2 with
          | none => rfl
          | some r => obtain ⟨z, S3⟩ := r; simp only [bnd_some, kChn4_e]; cases cmpW S3 o2 y z <;> rfl
theorem e_chn (o1 o2 a b c) : evW T cl (.chn o1 o2 a b c) ρ S = bnd (evT T cl (.chn o1 o2 a b c) ρ S) kTB := by
  rw [evW, evT]
  cases evW T cl a ρ S with
  | none => rfl
  | some p =>
    simp only
    cases evW T cl b ρ p.2 with
    | none => rfl
    | some q =>
      simp only
      cases cmpW q.2 o1 p.1 q.1 with
      | none => rfl
      | some k =>
        cases k with
        | false => rfl
        | true =>
          simp only
          cases evW T cl c ρ q.2 with
          | none => rfl
          | some r => simp only; cases cmpW r.2 o2 q.1 r.1 <;> rfl
def kNegR (S : Sto) : Int → Option (W × Sto)
  | i => some (.d (.int (-i)), S)
theorem kNegR_e (S : Sto) (i : Int) : kNegR S i = some (.d (.int (-i)), S) := rfl
def kNeg  : (W × Sto) → Option (W × Sto)
  | (x, S) => bnd (partW x) (kNegR S)
theorem kNeg_e  (x : W) (S : Sto) : kNeg  (x, S) = bnd (partW x) (kNegR S) := rfl
def kNotR (S : Sto) : Bool → Option (W × Sto)
  | b => some (.d (.bl (!b)), S)
theorem kNotR_e (S : Sto) (b : Bool) : kNotR S b = some (.d (.bl (!b)), S) := rfl
def kNot  : (W × Sto) → Option (W × Sto)
  | (x, S) => bnd (truW S x) (kNotR S)
theorem kNot_e  (x : W) (S : Sto) : kNot  (x, S) = bnd (truW S x) (kNotR S) := rfl
def kNotT  : (Bool × Sto) → Option (Bool × Sto)
  | (b, S) => some (!b, S)
theorem kNotT_e  (b : Bool) (S : Sto) : kNotT  (b, S) = some (!b, S) := rfl
def kTst  : (W × Sto) → Option (Bool × Sto)
  | (x, S) => bnd (truW S x) (kRetT S)
theorem kTst_e  (x : W) (S : Sto) : kTst  (x, S) = bnd (truW S x) (kRetT S) := rfl
theorem e_neg (a) : evW T cl (.neg a) ρ S = bnd (evW T cl a ρ S) kNeg := by
  rw [evW]
  cases evW T cl a ρ S with
  | none => rfl
  | some p => obtain ⟨w, S1⟩ := p; cases w with
    | tmp => rfl
    | d x => cases x <;> rfl
theorem e_not (a) : evW T cl (.not a) ρ S = bnd (evW T cl a ρ S) kNot := by
  rw [evW]
  cases evW T cl a ρ S with
  | none => rfl
  | some p => obtain ⟨w, S1⟩ := p; simp only [bnd_some, kNot_e]; cases truW S1 w <;> rfl
theorem t_not (a) : evT T cl (.not a) ρ S = bnd (evT T cl a ρ S) kNotT := by
  rw [evT]
  cases evT T cl a ρ S <;> rfl
theorem t_tst (a) : evT T cl (.tst a) ρ S = bnd (evW T cl a ρ S) kTst := by
  rw [evT]
  cases evW T cl a ρ S with
  | none => rfl
  | some p => obtain ⟨w, S1⟩ := p; simp only [bnd_some, kTst_e]; cases truW S1 w <;> rfl
theorem t_and (as) : evT T cl (.and as) ρ S = evTAnd T cl as ρ S := by rw [evT]
theorem t_or (as) : evT T cl (.or as) ρ S = evTOr T cl as ρ S := by rw [evT]
theorem ta_nil : evTAnd T cl .nil ρ S = some (true, S) := by rw [evTAnd]
theorem to_nil : evTOr T cl .nil ρ S = some (false, S) := by rw [evTOr]
def kTA (T : Tab) (cl : Calls) (as : E) (ρ : Env) : Bool × Sto → Option (Bool × Sto)
  | (true, S) => evTAnd T cl as ρ S
  | (false, S) => some (false, S)
def kTO (T : Tab) (cl : Calls) (as : E) (ρ : Env) : Bool × Sto → Option (Bool × Sto)
  | (true, S) => some (true, S)
  | (false, S) => evTOr T cl as ρ S
theorem kTA_t (as) : kTA T cl as ρ (true, S) = evTAnd T cl as ρ S := rfl
theorem kTA_f (as) : kTA T cl as ρ (false, S) = some (false, S) := rfl
theorem kTO_t (as) : kTO T cl as ρ (true, S) = some (true, S) := rfl
theorem kTO_f (as) : kTO T cl as ρ (false, S) = evTOr T cl as ρ S := rfl
theorem ta_cons (a as) : evTAnd T cl (.cons a as) ρ S = bnd (evT T cl a ρ S) (kTA T cl as ρ) := by
  rw [evTAnd]
  cases evT T cl a ρ S with
  | none => rfl
  | some p => obtain ⟨b, S1⟩ := p; cases b <;> rfl
theorem to_cons (a as) : evTOr T cl (.cons a as) ρ S = bnd (evT T cl a ρ S) (kTO T cl as ρ) := by
  rw [evTOr]
  cases evT T cl a ρ S with
  | none => rfl
  | some p => obtain ⟨b, S1⟩ := p; cases b <;> rfl
theorem e_and (as) : evW T cl (.and as) ρ S = evAnd T cl as ρ S := by rw [evW]
theorem e_or (as) : evW T cl (.or as) ρ S = evOr T cl as ρ S := by rw [evW]
theorem a_one (a) : evAnd T cl (.cons a .nil) ρ S = evW T cl a ρ S := evAnd_one
theorem o_one (a) : evOr T cl (.cons a .nil) ρ S = evW T cl a ρ S := evOr_one
def kWA (T : Tab) (cl : Calls) (as : E) (ρ : Env) (S : Sto) : Bool → Option (W × Sto)
  | true => evAnd T cl as ρ S
  | false => some (.d (.bl false), S)
def kWO (T : Tab) (cl : Calls) (as : E) (ρ : Env) (S : Sto) : Bool → Option (W × Sto)
  | true => some (.d (.bl true), S)
  | false => evOr T cl as ρ S
theorem kWA_t (as) : kWA T cl as ρ S true = evAnd T cl as ρ S := rfl
theorem kWA_f (as) : kWA T cl as ρ S false = some (.d (.bl false), S) := rfl
theorem kWO_t (as) : kWO T cl as ρ S true = some (.d (.bl true), S) := rfl
theorem kWO_f (as) : kWO T cl as ρ S false = evOr T cl as ρ S := rfl
def kWA1 (T : Tab) (cl : Calls) (as : E) (ρ : Env) : (W × Sto) → Option (W × Sto)
  | (x, S) => bnd (blW x) (kWA T cl as ρ S)
theorem kWA1_e (T : Tab) (cl : Calls) (as : E) (ρ : Env) (x : W) (S : Sto) : kWA1 T cl as ρ (x, S) = bnd (blW x) (kWA T cl as ρ S) := rfl
def kWO1 (T : Tab) (cl : Calls) (as : E) (ρ : Env) : (W × Sto) → Option (W × Sto)
  | (x, S) => bnd (blW x) (kWO T cl as ρ S)
theorem kWO1_e (T : Tab) (cl : Calls) (as : E) (ρ : Env) (x : W) (S : Sto) : kWO1 T cl as ρ (x, S) = bnd (blW x) (kWO T cl as ρ S) := rfl
theorem a_cons (a b as) : evAnd T cl (.cons a (.cons b as)) ρ S = bnd (evW T cl a ρ S) (kWA1 T cl (.cons b as) ρ) := by
  rw [evAnd]
  cases evW T cl a ρ S with
  | none => rfl
  | some p => obtain ⟨w, S1⟩ := p; cases w with
    | tmp => rfl
    | d x => cases x with
      | bl k => cases k <;> rfl
      | _ => rfl
theorem o_cons (a b as) : evOr T cl (.cons a (.cons b as)) ρ S = bnd (evW T cl a ρ S) (kWO1 T cl (.cons b as) ρ) := by
  rw [evOr]
  cases evW T cl a ρ S with
  | none => rfl
  | some p => obtain ⟨w, S1⟩ := p; cases w with
    | tmp => rfl
    | d x => cases x with
      | bl k => cases k <;> rfl
      | _ => rfl
def kIte (T : Tab) (cl : Calls) (a b : E) (ρ : Env) : Bool × Sto → Option (W × Sto)
  | (true, S) => evW T cl a ρ S
  | (false, S) => evW T cl b ρ S
theorem kIte_t (a b) : kIte T cl a b ρ (true, S) = evW T cl a ρ S := rfl
theorem kIte_f (a b) : kIte T cl a b ρ (false, S) = evW T cl b ρ S := rfl
theorem e_ite (t a b) : evW T cl (.ite t a b) ρ S = bnd (evT T cl t ρ S) (kIte T cl a b ρ) := by
  rw [evW]
  cases evT T cl t ρ S with
  | none => rfl
  | some p => obtain ⟨b, S1⟩ := p; cases b <;> rfl
def kTup1  : (List D × Sto) → Option (W × Sto)
  | (ds, S) => some (.d (.tup ds), S)
theorem kTup1_e  (ds : List D) (S : Sto) : kTup1  (ds, S) = some (.d (.tup ds), S) := rfl
def kLst1  : (List D × Sto) → Option (W × Sto)
  | (ds, S) => some (.tmp ds, S)
theorem kLst1_e  (ds : List D) (S : Sto) : kLst1  (ds, S) = some (.tmp ds, S) := rfl
def kTup : List W × Sto → Option (W × Sto)
  | (ws, S) => if ws.length ≤ LN then bnd (matM ws S) kTup1 else none
theorem kTup_e {ws : List W} (S : Sto) (h : decide (ws.length ≤ LN) = true) : kTup (ws, S) = bnd (matM ws S) kTup1 := if_pos (of_decide_eq_true h)
def kLst : List W × Sto → Option (W × Sto)
  | (ws, S) => if ws.length ≤ LN then bnd (matM ws S) kLst1 else none
theorem kLst_e {ws : List W} (S : Sto) (h : decide (ws.length ≤ LN) = true) : kLst (ws, S) = bnd (matM ws S) kLst1 := if_pos (of_decide_eq_true h)
theorem e_tup (as) : evW T cl (.tup as) ρ S = bnd (evs T cl as ρ S) kTup := by
  rw [evW]
  cases evs T cl as ρ S <;> rfl
theorem e_lst (as) : evW T cl (.lst as) ρ S = bnd (evs T cl as ρ S) kLst := by
  rw [evW]
  cases evs T cl as ρ S <;> rfl
theorem o_nil : evO T cl .nil ρ S = some (none, S) := by rw [evO]
def kPartR (S : Sto) : Int → Option (Option Int × Sto)
  | i => some (some i, S)
theorem kPartR_e (S : Sto) (i : Int) : kPartR S i = some (some i, S) := rfl
def kPart  : (W × Sto) → Option (Option Int × Sto)
  | (x, S) => bnd (partW x) (kPartR S)
theorem kPart_e  (x : W) (S : Sto) : kPart  (x, S) = bnd (partW x) (kPartR S) := rfl
def kSl3 (x : W) (l : Option Int) : (Option Int × Sto) → Option (W × Sto)
  | (h, S) => bnd (slW S x l h) (kRet S)
theorem kSl3_e (x : W) (l : Option Int) (h : Option Int) (S : Sto) : kSl3 x l (h, S) = bnd (slW S x l h) (kRet S) := rfl
def kSl2 (T : Tab) (cl : Calls) (hi : E) (ρ : Env) (x : W) : (Option Int × Sto) → Option (W × Sto)
  | (l, S) => bnd (evO T cl hi ρ S) (kSl3 x l)
theorem kSl2_e (T : Tab) (cl : Calls) (hi : E) (ρ : Env) (x : W) (l : Option Int) (S : Sto) : kSl2 T cl hi ρ x (l, S) = bnd (evO T cl hi ρ S) (kSl3 x l) := rfl
def kSl1 (T : Tab) (cl : Calls) (lo : E) (hi : E) (ρ : Env) : (W × Sto) → Option (W × Sto)
  | (x, S) => bnd (evO T cl lo ρ S) (kSl2 T cl hi ρ x)
theorem kSl1_e (T : Tab) (cl : Calls) (lo : E) (hi : E) (ρ : Env) (x : W) (S : Sto) : kSl1 T cl lo hi ρ (x, S) = bnd (evO T cl lo ρ S) (kSl2 T cl hi ρ x) := rfl
def kRev  : (W × Sto) → Option (W × Sto)
  | (x, S) => bnd (revW S x) (kRet S)
theorem kRev_e  (x : W) (S : Sto) : kRev  (x, S) = bnd (revW S x) (kRet S) := rfl
def kCall1 (cl : Calls) (f : Str) : (List D × Sto) → Option (W × Sto)
  | (ds, S) => cl f ds S
theorem kCall1_e (cl : Calls) (f : Str) (ds : List D) (S : Sto) : kCall1 cl f (ds, S) = cl f ds S := rfl
def kCall (cl : Calls) (f : Str) : (List W × Sto) → Option (W × Sto)
  | (ws, S) => bnd (matM ws S) (kCall1 cl f)
theorem kCall_e (cl : Calls) (f : Str) (ws : List W) (S : Sto) : kCall cl f (ws, S) = bnd (matM ws S) (kCall1 cl f) := rfl
def kBi (b : BI) : (List W × Sto) → Option (W × Sto)
  | (ws, S) => bnd (biW S b ws) (kRet S)
theorem kBi_e (b : BI) (ws : List W) (S : Sto) : kBi b (ws, S) = bnd (biW S b ws) (kRet S) := rfl
def kDisp1 (ks : List Key) : (List D × Sto) → Option (W × Sto)
  | (ds, S) => some (.d (.ref S.length), S ++ [.dk (mergeD [] ks ds)])
theorem kDisp1_e (ks : List Key) (ds : List D) (S : Sto) : kDisp1 ks (ds, S) = some (.d (.ref S.length), S ++ [.dk (mergeD [] ks ds)]) := rfl
def kS2 (x : W) : (List W × Sto) → Option (List W × Sto)
  | (ws, S) => some (x :: ws, S)
theorem kS2_e (x : W) (ws : List W) (S : Sto) : kS2 x (ws, S) = some (x :: ws, S) := rfl
def kS1 (T : Tab) (cl : Calls) (as : E) (ρ : Env) : (W × Sto) → Option (List W × Sto)
  | (x, S) => bnd (evs T cl as ρ S) (kS2 x)
theorem kS1_e (T : Tab) (cl : Calls) (as : E) (ρ : Env) (x : W) (S : Sto) : kS1 T cl as ρ (x, S) = bnd (evs T cl as ρ S) (kS2 x) := rfl
theorem o_some (a b) : evO T cl (.cons a b) ρ S = bnd (evW T cl a ρ S) kPart := by
  rw [evO]
  cases evW T cl a ρ S with
  | none => rfl
  | some p => obtain ⟨w, S1⟩ := p; cases w with
    | tmp => rfl
    | d x => cases x <;> rfl
theorem e_slc (a lo hi) : evW T cl (.slc a lo hi) ρ S = bnd (evW T cl a ρ S) (kSl1 T cl lo hi ρ) := by
  rw [evW]
  cases evW T cl a ρ S with
  | none => rfl
  | some p =>
    obtain ⟨x, S1⟩ := p
    simp only [bnd_some, kSl1_e]
    cases evO T cl lo ρ S1 with
    | none => rfl
    | some q =>
      obtain ⟨l, S2⟩ := q
      simp only [bnd_some, kSl2_e]
      cases evO T cl hi ρ S2 with
      | none => rfl
      | some r => obtain ⟨h, S3⟩ := r; simp only [bnd_some, kSl3_e]; cases slW S3 x l h <;> rfl
theorem e_rev (a) : evW T cl (.rev a) ρ S = bnd (evW T cl a ρ S) kRev := by
  rw [evW]
  cases evW T cl a ρ S with
  | none => rfl
  | some p => obtain ⟨x, S1⟩ := p; simp only [bnd_some, kRev_e]; cases revW S1 x <;> rfl
theorem e_call (f as) : evW T cl (.call f as) ρ S = bnd (evs T cl as ρ S) (kCall cl f) := by
  rw [evW]
  cases evs T cl as ρ S <;> rfl
def kLc2 (T : Tab) (cl : Calls) (f : Str) : List W × Sto → Option (W × Sto)
  | (ws, S) => if T.defs.lookup f = some ws.length then bnd (matM ws S) (kCall1 cl f) else none
theorem kLc2_e {f : Str} {ws : List W} (S : Sto) (h : T.defs.lookup f = some ws.length) : kLc2 T cl f (ws, S) = bnd (matM ws S) (kCall1 cl f) := if_pos h
def kLc1 (T : Tab) (cl : Calls) (as : E) (ρ : Env) (S : Sto) : Str → Option (W × Sto)
  | f => bnd (evs T cl as ρ S) (kLc2 T cl f)
theorem kLc1_e (as : E) (f : Str) : kLc1 T cl as ρ S f = bnd (evs T cl as ρ S) (kLc2 T cl f) := rfl
def kLc0 (T : Tab) (cl : Calls) (as : E) (ρ : Env) (S : Sto) : D → Option (W × Sto)
  | d => bnd (fnD d) (kLc1 T cl as ρ S)
theorem kLc0_e (as : E) (d : D) : kLc0 T cl as ρ S d = bnd (fnD d) (kLc1 T cl as ρ S) := rfl
theorem e_lcall (i x as) : evW T cl (.lcall i x as) ρ S = bnd (lk ρ i) (kLc0 T cl as ρ S) := by
  rw [lk_eq, evW]
  cases h : ρ[i]? with
  | none => rfl
  | some o => cases o with
    | none => rfl
    | some d => cases d with
      | fn f =>
        simp only [Option.join_some, bnd_some, kLc0_e, fnD, kLc1_e]
        cases evs T cl as ρ S <;> rfl
      | _ => rfl
theorem e_bi (b as) : evW T cl (.bi b as) ρ S = bnd (evs T cl as ρ S) (kBi b) := by
  rw [evW]
  cases evs T cl as ρ S with
  | none => rfl
  | some p => obtain ⟨ws, S1⟩ := p; simp only [bnd_some, kBi_e]; cases biW S1 b ws <;> rfl
def kDisp (ks : List Key) : List W × Sto → Option (W × Sto)
  | (ws, S) => if ws.length = ks.length then bnd (matM ws S) (kDisp1 ks) else none
theorem kDisp_e {ks : List Key} {ws : List W} (S : Sto) (h : decide (ws.length = ks.length) = true) : kDisp ks (ws, S) = bnd (matM ws S) (kDisp1 ks) := if_pos (of_decide_eq_true h)
theorem e_disp (ks as) : evW T cl (.disp ks as) ρ S = bnd (evs T cl as ρ S) (kDisp ks) := by
  rw [evW]
  cases evs T cl as ρ S <;> rfl
theorem s_nil : evs T cl .nil ρ S = some ([], S) := by rw [evs]
theorem s_cons (a as) : evs T cl (.cons a as) ρ S = bnd (evW T cl a ρ S) (kS1 T cl as ρ) := by
  rw [evs]
  cases evW T cl a ρ S with
  | none => rfl
  | some p => obtain ⟨x, S1⟩ := p; simp only [bnd_some, kS1_e]; cases evs T cl as ρ S1 <;> rfl
def kLcM  : (D × Sto) → Option (Option D × Sto)
  | (d, S) => some (some d, S)
theorem kLcM_e  (d : D) (S : Sto) : kLcM  (d, S) = some (some d, S) := rfl
def kLcE  : (W × Sto) → Option (Option D × Sto)
  | (x, S) => bnd (mat1 x S) kLcM
theorem kLcE_e  (x : W) (S : Sto) : kLcE  (x, S) = bnd (mat1 x S) kLcM := rfl
def kLcT (T : Tab) (cl : Calls) (elt : E) (ρ : Env) : Bool × Sto → Option (Option D × Sto)
  | (true, S) => bnd (evW T cl elt ρ S) kLcE
  | (false, S) => some (none, S)
theorem kLcT_t (elt) : kLcT T cl elt ρ (true, S) = bnd (evW T cl elt ρ S) kLcE := rfl
theorem kLcT_f (elt) : kLcT T cl elt ρ (false, S) = some (none, S) := rfl
def kLcP (T : Tab) (cl : Calls) (elt tst : E) (S : Sto) : Env → Option (Option D × Sto)
  | ρ => bnd (evC T cl tst ρ S) (kLcT T cl elt ρ)
theorem kLcP_e (elt tst) : kLcP T cl elt tst S ρ = bnd (evC T cl tst ρ S) (kLcT T cl elt ρ) := rfl
/-- one round of a comprehension -/
def lcStep (own : List (Str × Nat)) (elt : E) (p : P) (tst : E) (ρ : Env) : D → Sto → Option (Option D × Sto) := fun d S =>
  bnd (bindP p d (wipeD ρ (own.map (·.2)))) (kLcP T cl elt tst S)
theorem lcStep_e (own elt p tst ρ d S) : lcStep T cl own elt p tst ρ d S = bnd (bindP p d (wipeD ρ (own.map (·.2)))) (kLcP T cl elt tst S) := rfl
def kLcR  : (List D × Sto) → Option (W × Sto)
  | (ds, S) => some (.tmp ds, S)
theorem kLcR_e  (ds : List D) (S : Sto) : kLcR  (ds, S) = some (.tmp ds, S) := rfl
def kLc (T : Tab) (cl : Calls) (own : List (Str × Nat)) (elt : E) (p : P) (tst : E) (ρ : Env) : (List D × Grd) × Sto → Option (W × Sto)
  | ((xs, g), S) => bnd (lcLoop g (lcStep T cl own elt p tst ρ) xs [] S) kLcR
theorem kLc_e (own elt p tst xs g) : kLc T cl own elt p tst ρ ((xs, g), S) = bnd (lcLoop g (lcStep T cl own elt p tst ρ) xs [] S) kLcR := rfl
theorem e_lc (own elt p it tst) : evW T cl (.lc own elt p it tst) ρ S = bnd (evI T cl it ρ S) (kLc T cl own elt p tst ρ) := by
  rw [evW]
  cases evI T cl it ρ S with
  | none => rfl
  | some q =>
    obtain ⟨⟨xs, g⟩, S1⟩ := q
    simp only [bnd_some, kLc_e]
    have e : (fun (d : D) (S : Sto) => match bindP p d (wipeD ρ (own.map (·.2))) with
          | none => none
          | some ρ' => match evC T cl tst ρ' S with
            | none => none
            | some (false, S') => some (none, S')
            | some (true, S') => match evW T cl elt ρ' S' with
              | none => none
              | some (w, S'') => some (some (matW w S'').1, (matW w S'').2)) = lcStep T cl own elt p tst ρ := by
      funext d S
      unfold lcStep
      cases bindP p d (wipeD ρ (own.map (·.2))) with
      | none => rfl
      | some ρ' =>
        simp only [bnd_some, kLcP_e]
        cases evC T cl tst ρ' S with
        | none => rfl
        | some z =>
          obtain ⟨b, S1⟩ := z
          cases b with
          | false => rfl
          | true =>
            simp only [bnd_some, kLcT_t]
            cases evW T cl elt ρ' S1 <;> rfl
    rw [← e]
    generalize lcLoop g _ xs [] S1 = z
    cases z <;> rfl
theorem c_nil : evC T cl .nil ρ S = some (true, S) := by rw [evC]
theorem c_cons (a b) : evC T cl (.cons a b) ρ S = evT T cl a ρ S := by rw [evC]
def kIRet (S : Sto) (g : Grd) : (List D) → Option ((List D × Grd) × Sto)
  | xs => some ((xs, g), S)
theorem kIRet_e (S : Sto) (g : Grd) (xs : List D) : kIRet S g xs = some ((xs, g), S) := rfl
def kIEn (S : Sto) (g : Grd) : (List D) → Option ((List D × Grd) × Sto)
  | xs => some ((enumL xs, g), S)
theorem kIEn_e (S : Sto) (g : Grd) (xs : List D) : kIEn S g xs = some ((enumL xs, g), S) := rfl
def kRng  : (List W × Sto) → Option ((List D × Grd) × Sto)
  | (ws, S) => bnd (rngW ws) (kIRet S [])
theorem kRng_e  (ws : List W) (S : Sto) : kRng  (ws, S) = bnd (rngW ws) (kIRet S []) := rfl
def kEnm  : (W × Sto) → Option ((List D × Grd) × Sto)
  | (x, S) => bnd (seqOf S x) (kIEn S (guardOf S x))
theorem kEnm_e  (x : W) (S : Sto) : kEnm  (x, S) = bnd (seqOf S x) (kIEn S (guardOf S x)) := rfl
def kSeq  : (W × Sto) → Option ((List D × Grd) × Sto)
  | (x, S) => bnd (seqOf S x) (kIRet S (guardOf S x))
theorem kSeq_e  (x : W) (S : Sto) : kSeq  (x, S) = bnd (seqOf S x) (kIRet S (guardOf S x)) := rfl
def kZp2 (x : W) : (W × Sto) → Option ((List D × Grd) × Sto)
  | (y, S) => zipW S x y
theorem kZp2_e (x : W) (y : W) (S : Sto) : kZp2 x (y, S) = zipW S x y := rfl
def kZp1 (T : Tab) (cl : Calls) (b : E) (ρ : Env) : (W × Sto) → Option ((List D × Grd) × Sto)
  | (x, S) => bnd (evW T cl b ρ S) (kZp2 x)
theorem kZp1_e (T : Tab) (cl : Calls) (b : E) (ρ : Env) (x : W) (S : Sto) : kZp1 T cl b ρ (x, S) = bnd (evW T cl b ρ S) (kZp2 x) := rfl
theorem i_zip (a b) : evI T cl (.zip a b) ρ S = bnd (evW T cl a ρ S) (kZp1 T cl b ρ) := by
  rw [evI]
  cases evW T cl a ρ S with
  | none => rfl
  | some p =>
    obtain ⟨x, S1⟩ := p
    simp only [bnd_some, kZp1_e]
    cases evW T cl b ρ S1 <;> rfl
theorem i_rng (as) : evI T cl (.rng as) ρ S = bnd (evs T cl as ρ S) kRng := by
  rw [evI]
  cases evs T cl as ρ S with
  | none => rfl
  | some p => obtain ⟨ws, S1⟩ := p; simp only [bnd_some, kRng_e]; cases rngW ws <;> rfl
theorem i_enm (a) : evI T cl (.enm a) ρ S = bnd (evW T cl a ρ S) kEnm := by
  rw [evI]
  cases evW T cl a ρ S with
  | none => rfl
  | some p => obtain ⟨x, S1⟩ := p; simp only [bnd_some, kEnm_e]; cases seqOf S1 x <;> rfl
theorem i_seq (a) : evI T cl (.cons a .nil) ρ S = bnd (evW T cl a ρ S) kSeq := by
  rw [evI]
  cases evW T cl a ρ S with
  | none => rfl
  | some p => obtain ⟨x, S1⟩ := p; simp only [bnd_some, kSeq_e]; cases seqOf S1 x <;> rfl
def kM2 (m : Mt) (x : W) : (List W × Sto) → Option (W × Sto)
  | (ws, S) => mthW S m x ws
theorem kM2_e (m : Mt) (x : W) (ws : List W) (S : Sto) : kM2 m x (ws, S) = mthW S m x ws := rfl
def kMc (T : Tab) (cl : Calls) (m : Mt) (as : E) (ρ : Env) (x : W) (S : Sto) : Bool → Option (W × Sto)
  | true => bnd (evs T cl as ρ S) (kM2 m x)
  | false => none
theorem kMc_t (m as x) : kMc T cl m as ρ x S true = bnd (evs T cl as ρ S) (kM2 m x) := rfl
def kM1 (T : Tab) (cl : Calls) (m : Mt) (as : E) (ρ : Env) : (W × Sto) → Option (W × Sto)
  | (x, S) => kMc T cl m as ρ x S (mtOk S m x)
theorem kM1_e (T : Tab) (cl : Calls) (m : Mt) (as : E) (ρ : Env) (x : W) (S : Sto) : kM1 T cl m as ρ (x, S) = kMc T cl m as ρ x S (mtOk S m x) := rfl
theorem e_mth (m o as) : evW T cl (.mth m o as) ρ S = bnd (evW T cl o ρ S) (kM1 T cl m as ρ) := by
  rw [evW]
  cases evW T cl o ρ S with
  | none => rfl
  | some p =>
    obtain ⟨x, S1⟩ := p
    simp only [bnd_some, kM1_e]
    cases mtOk S1 m x with
    | false => rfl
    | true =>
      simp only [kMc_t, if_true]
      cases evs T cl as ρ S1 <;> rfl
theorem e_dnew (deep) : evW T cl (.dnew deep) ρ S = some (.d (.ref S.length), S ++ [if deep then .dd [] else .dk []]) := by rw [evW]
def kDd3 (kd : D) : (D × Sto) → Option (W × Sto)
  | (d, S) => some (.d (.ref S.length), S ++ [.dd [(kd, d)]])
theorem kDd3_e (kd : D) (d : D) (S : Sto) : kDd3 kd (d, S) = some (.d (.ref S.length), S ++ [.dd [(kd, d)]]) := rfl
def kDd2 (w : W) (S : Sto) : D → Option (W × Sto)
  | kd => if keyT kd = true then bnd (mat1 w S) (kDd3 kd) else none
theorem kDd2_e {kd : D} (w : W) (S : Sto) (h : keyT kd = true) : kDd2 w S kd = bnd (mat1 w S) (kDd3 kd) := if_pos h
def kDd1 (x : W) : (W × Sto) → Option (W × Sto)
  | (w, S) => bnd (dW x) (kDd2 w S)
theorem kDd1_e (x : W) (w : W) (S : Sto) : kDd1 x (w, S) = bnd (dW x) (kDd2 w S) := rfl
def kDd0 (T : Tab) (cl : Calls) (v : E) (ρ : Env) : (W × Sto) → Option (W × Sto)
  | (x, S) => bnd (evW T cl v ρ S) (kDd1 x)
theorem kDd0_e (T : Tab) (cl : Calls) (v : E) (ρ : Env) (x : W) (S : Sto) : kDd0 T cl v ρ (x, S) = bnd (evW T cl v ρ S) (kDd1 x) := rfl
theorem e_ddisp (k v) : evW T cl (.ddisp k v) ρ S = bnd (evW T cl k ρ S) (kDd0 T cl v ρ) := by
  rw [evW]
  cases evW T cl k ρ S with
  | none => rfl
  | some p =>
    obtain ⟨x, S1⟩ := p
    simp only [bnd_some, kDd0_e]
    cases evW T cl v ρ S1 with
    | none => rfl
    | some q =>
      obtain ⟨w, S2⟩ := q
      simp only [bnd_some, kDd1_e]
      cases x with
      | tmp => rfl
      | d kd => rfl
def kLr2 (tp : Bool) (S : Sto) : List D → Option (W × Sto)
  | xs => if xs.length ≤ LN then some (if tp then .d (.tup xs) else .tmp xs, S) else none
theorem kLr2_e {xs : List D} (tp S) (h : xs.length ≤ LN) : kLr2 tp S xs = some (if tp then .d (.tup xs) else .tmp xs, S) := if_pos h
def kLr1 (tp : Bool) : (List W × Sto) → Option (W × Sto)
  | (ws, S) => bnd (rngW ws) (kLr2 tp S)
theorem kLr1_e (tp : Bool) (ws : List W) (S : Sto) : kLr1 tp (ws, S) = bnd (rngW ws) (kLr2 tp S) := rfl
theorem e_lrng (tp as) : evW T cl (.lrng tp as) ρ S = bnd (evs T cl as ρ S) (kLr1 tp) := by
  rw [evW]
  cases evs T cl as ρ S with
  | none => rfl
  | some p => obtain ⟨ws, S1⟩ := p; simp only [bnd_some, kLr1_e]; cases rngW ws <;> rfl
def kDc4 (S : Sto) : O → Option (W × Sto)
  | o => some (.d (.ref S.length), S ++ [o])
theorem kDc4_e (S : Sto) (o : O) : kDc4 S o = some (.d (.ref S.length), S ++ [o]) := rfl
def kDc3 (deep : Bool) (S : Sto) : (List (D × D)) → Option (W × Sto)
  | ps => bnd (dctO deep ps) (kDc4 S)
theorem kDc3_e (deep : Bool) (S : Sto) (ps : List (D × D)) : kDc3 deep S ps = bnd (dctO deep ps) (kDc4 S) := rfl
def kDc2 (deep : Bool) (S : Sto) : (List D) → Option (W × Sto)
  | xs => bnd (pairsW xs) (kDc3 deep S)
theorem kDc2_e (deep : Bool) (S : Sto) (xs : List D) : kDc2 deep S xs = bnd (pairsW xs) (kDc3 deep S) := rfl
def kDc1 (deep : Bool) : (W × Sto) → Option (W × Sto)
  | (w, S) => bnd (seqOf S w) (kDc2 deep S)
theorem kDc1_e (deep : Bool) (w : W) (S : Sto) : kDc1 deep (w, S) = bnd (seqOf S w) (kDc2 deep S) := rfl
theorem e_dct (deep a) : evW T cl (.dct deep a) ρ S = bnd (evW T cl a ρ S) (kDc1 deep) := by
  rw [evW]
  cases evW T cl a ρ S with
  | none => rfl
  | some p =>
    obtain ⟨w, S1⟩ := p
    simp only [bnd_some, kDc1_e]
    cases seqOf S1 w with
    | none => rfl
    | some xs =>
      simp only [bnd_some, kDc2_e, Option.bind]
      cases pairsW xs with
      | none => rfl
      | some ps =>
        simp only [bnd_some, kDc3_e]
        cases dctO deep ps <;> rfl
theorem e_sitm {a : E} {n : Nat} {S1 : Sto} {o : O} (h : evW T cl a ρ S = some (.d (.ref n), S1)) (h1 : S1[n]? = some o) (hd : isDO o = true) (ho : ordOk (itsO o) = true) : evW T cl (.sitm a) ρ S = some (.tmp (sortD (itsO o)), S1) := by
  rw [evW]
  cases o with
  | lst => cases hd
  | dk kvs =>
    have ho' : ordOk (kvs.map fun kv => .tup [kD kv.1, kv.2]) = true := ho
    simp only [h, h1, ho', if_true]
    rfl
  | dd kvs =>
    have ho' : ordOk (kvs.map fun kv => .tup [kv.1, kv.2]) = true := ho
    simp only [h, h1, ho', if_true]
    rfl
def kApp4 (n : Nat) (S : Sto) (d : D) : List D → Option (W × Sto)
  | xs => if xs.length < LN then some (.d .non, S.set n (.lst (xs ++ [d]))) else none
theorem kApp4_e {n : Nat} {d : D} {xs : List D} (h : xs.length < LN) : kApp4 n S d xs = some (.d .non, S.set n (.lst (xs ++ [d]))) := if_pos h
def kApp3 (n : Nat) : (D × Sto) → Option (W × Sto)
  | (d, S) => bnd (lstO S[n]?) (kApp4 n S d)
theorem kApp3_e (n : Nat) (d : D) (S : Sto) : kApp3 n (d, S) = bnd (lstO S[n]?) (kApp4 n S d) := rfl
def kApp2 (n : Nat) : (W × Sto) → Option (W × Sto)
  | (x, S) => bnd (mat1 x S) (kApp3 n)
theorem kApp2_e (n : Nat) (x : W) (S : Sto) : kApp2 n (x, S) = bnd (mat1 x S) (kApp3 n) := rfl
def kApp1 (T : Tab) (cl : Calls) (e : E) (ρ : Env) (n : Nat) (S : Sto) : (List D) → Option (W × Sto)
  | _x => bnd (evW T cl e ρ S) (kApp2 n)
theorem kApp1_e (T : Tab) (cl : Calls) (e : E) (ρ : Env) (n : Nat) (S : Sto) (_x : List D) : kApp1 T cl e ρ n S _x = bnd (evW T cl e ρ S) (kApp2 n) := rfl
def kApp0 (T : Tab) (cl : Calls) (e : E) (ρ : Env) (S : Sto) : Nat → Option (W × Sto)
  | n => bnd (lstO S[n]?) (kApp1 T cl e ρ n S)
theorem kApp0_e (T : Tab) (cl : Calls) (e : E) (ρ : Env) (S : Sto) (n : Nat) : kApp0 T cl e ρ S n = bnd (lstO S[n]?) (kApp1 T cl e ρ n S) := rfl
def kApp (T : Tab) (cl : Calls) (e : E) (ρ : Env) : (W × Sto) → Option (W × Sto)
  | (x, S) => bnd (refW x) (kApp0 T cl e ρ S)
theorem kApp_e (T : Tab) (cl : Calls) (e : E) (ρ : Env) (x : W) (S : Sto) : kApp T cl e ρ (x, S) = bnd (refW x) (kApp0 T cl e ρ S) := rfl
theorem e_app (o e) : evW T cl (.app o e) ρ S = bnd (evW T cl o ρ S) (kApp T cl e ρ) := by
  rw [evW]
  cases evW T cl o ρ S with
  | none => rfl
  | some p =>
    obtain ⟨w, S1⟩ := p
    cases w with
    | tmp => rfl
    | d x => cases x with
      | ref n =>
        simp only [bnd_some, kApp_e, refW, kApp0_e]
        cases S1[n]? with
        | none => rfl
        | some u => cases u with
          | dk => rfl
          | dd => rfl
          | lst ys =>
            simp only [lstO, bnd_some, kApp1_e]
            cases evW T cl e ρ S1 with
            | none => rfl
            | some q =>
              obtain ⟨y, S2⟩ := q
              simp only [bnd_some, kApp2_e, mat1]
              show _ = bnd (lstO (matW y S2).2[n]?) _
              generalize (matW y S2).2[n]? = z
              cases z with
              | none => rfl
              | some u => cases u <;> rfl
      | _ => rfl
/-! patterns -/
theorem p_nm (i x d) : bindP (.nm i x) d ρ = some (stv ρ i d) := by rw [bindP, stv_eq]
theorem p_tup (ps ds) : bindP (.tup ps) (.tup ds) ρ = bindPs ps ds ρ := by rw [bindP]
theorem p_wt (ps ds) : bindP (.tup ps) (.wt ds) ρ = bindPs ps ds ρ := by rw [bindP]
theorem p_nil : bindPs .nil [] ρ = some ρ := by rw [bindPs]
def kPs (ps : P) (ds : List D) : Env → Option Env
  | ρ => bindPs ps ds ρ
theorem kPs_e (ps ds) : kPs ps ds ρ = bindPs ps ds ρ := rfl
theorem p_cons (p ps d ds) : bindPs (.cons p ps) (d :: ds) ρ = bnd (bindP p d ρ) (kPs ps ds) := by
  rw [bindPs]
  cases bindP p d ρ <;> rfl
/-! statements -/
/-- a statement and what comes behind -/
def sq (T : Tab) (cl : Calls) (F : Nat) (ss : Sm) (r : Option (Fl × Env × Sto)) : Option (Fl × Env × Sto) := match r with
  | none => none
  | some (.nx, ρ, S) => evS T cl F ss ρ S
  | some q => some q
theorem sq_nx (ss) : sq T cl F ss (some (.nx, ρ, S)) = evS T cl F ss ρ S := rfl
theorem sq_rt (w : W) (ss) : sq T cl F ss (some (.rt w, ρ, S)) = some (.rt w, ρ, S) := rfl
theorem sq_bk (ss) : sq T cl F ss (some (.bk, ρ, S)) = some (.bk, ρ, S) := rfl
theorem sq_ct (ss) : sq T cl F ss (some (.ct, ρ, S)) = some (.ct, ρ, S) := rfl
theorem x_nil : evS T cl F .nil ρ S = some (.nx, ρ, S) := by rw [evS]
theorem x_cons (s ss) : evS T cl F (.cons s ss) ρ S = sq T cl F ss (evS T cl F s ρ S) := by
  rw [evS]
  cases evS T cl F s ρ S with
  | none => rfl
  | some p => obtain ⟨f, r, S1⟩ := p; cases f <;> rfl
def kAs3 (S : Sto) : Env → Option (Fl × Env × Sto)
  | ρ => some (.nx, ρ, S)
theorem kAs3_e (S : Sto) (ρ : Env) : kAs3 S ρ = some (.nx, ρ, S) := rfl
def kAs2 (p : P) (ρ : Env) : (D × Sto) → Option (Fl × Env × Sto)
  | (d, S) => bnd (bindP p d ρ) (kAs3 S)
theorem kAs2_e (p : P) (ρ : Env) (d : D) (S : Sto) : kAs2 p ρ (d, S) = bnd (bindP p d ρ) (kAs3 S) := rfl
def kAs1 (p : P) (ρ : Env) : (W × Sto) → Option (Fl × Env × Sto)
  | (x, S) => bnd (mat1 x S) (kAs2 p ρ)
theorem kAs1_e (p : P) (ρ : Env) (x : W) (S : Sto) : kAs1 p ρ (x, S) = bnd (mat1 x S) (kAs2 p ρ) := rfl
def kSc2 (i : Nat) (ρ : Env) : (D × Sto) → Option (Fl × Env × Sto)
  | (d, S) => some (.nx, stv ρ i d, S)
theorem kSc2_e (i : Nat) (ρ : Env) (d : D) (S : Sto) : kSc2 i ρ (d, S) = some (.nx, stv ρ i d, S) := rfl
def kSc1 (i : Nat) (ρ : Env) : (W × Sto) → Option (Fl × Env × Sto)
  | (x, S) => bnd (mat1 x S) (kSc2 i ρ)
theorem kSc1_e (i : Nat) (ρ : Env) (x : W) (S : Sto) : kSc1 i ρ (x, S) = bnd (mat1 x S) (kSc2 i ρ) := rfl
theorem x_asg (p e) : evS T cl F (.asg p e) ρ S = bnd (evW T cl e ρ S) (kAs1 p ρ) := by
  rw [evS]
  cases evW T cl e ρ S with
  | none => rfl
  | some q =>
    obtain ⟨x, S1⟩ := q
    simp only [bnd_some, kAs1_e, mat1]
    show _ = bnd (bindP p (matW x S1).1 ρ) _
    cases bindP p (matW x S1).1 ρ <;> rfl
theorem x_setLc (i x own elt p it tst) : evS T cl F (.setLc i x own elt p it tst) ρ S = bnd (evW T cl (.lc own elt p it tst) ρ S) (kSc1 i ρ) := by
  rw [evS]
  cases evW T cl (.lc own elt p it tst) ρ S with
  | none => rfl
  | some q => obtain ⟨x, S1⟩ := q; show some _ = some (Fl.nx, stv ρ i (matW x S1).1, (matW x S1).2); rw [stv_eq]
def kP2b (i j : Nat) (ρ : Env) : List D × Sto → Option (Fl × Env × Sto)
  | ([a, b], S) => some (.nx, stv (stv ρ i a) j b, S)
  | _ => none
theorem kP2b_e (i j a b) : kP2b i j ρ ([a, b], S) = some (.nx, stv (stv ρ i a) j b, S) := rfl
def kP3b (i j k : Nat) (ρ : Env) : List D × Sto → Option (Fl × Env × Sto)
  | ([a, b, c], S) => some (.nx, stv (stv (stv ρ i a) j b) k c, S)
  | _ => none
theorem kP3b_e (i j k a b c) : kP3b i j k ρ ([a, b, c], S) = some (.nx, stv (stv (stv ρ i a) j b) k c, S) := rfl
def kP2 (i : Nat) (j : Nat) (ρ : Env) : (List W × Sto) → Option (Fl × Env × Sto)
  | (ws, S) => bnd (matM ws S) (kP2b i j ρ)
theorem kP2_e (i : Nat) (j : Nat) (ρ : Env) (ws : List W) (S : Sto) : kP2 i j ρ (ws, S) = bnd (matM ws S) (kP2b i j ρ) := rfl
def kP3 (i : Nat) (j : Nat) (k : Nat) (ρ : Env) : (List W × Sto) → Option (Fl × Env × Sto)
  | (ws, S) => bnd (matM ws S) (kP3b i j k ρ)
theorem kP3_e (i : Nat) (j : Nat) (k : Nat) (ρ : Env) (ws : List W) (S : Sto) : kP3 i j k ρ (ws, S) = bnd (matM ws S) (kP3b i j k ρ) := rfl
theorem x_par2 (i x j y as) : evS T cl F (.par2 i x j y as) ρ S = bnd (evs T cl as ρ S) (kP2 i j ρ) := by
  rw [evS]
  cases evs T cl as ρ S with
  | none => rfl
  | some p =>
    obtain ⟨ws, S1⟩ := p
    show _ = kP2b i j ρ ((matsW ws S1).1, (matsW ws S1).2)
    simp only []
    generalize (matsW ws S1).1 = z
    match z with
    | [] => rfl
    | [_] => rfl
    | [a, b] => rw [kP2b_e, stv_eq, stv_eq]
    | _ :: _ :: _ :: _ => rfl
theorem x_par3 (i x j y k z as) : evS T cl F (.par3 i x j y k z as) ρ S = bnd (evs T cl as ρ S) (kP3 i j k ρ) := by
  rw [evS]
  cases evs T cl as ρ S with
  | none => rfl
  | some p =>
    obtain ⟨ws, S1⟩ := p
    show _ = kP3b i j k ρ ((matsW ws S1).1, (matsW ws S1).2)
    simp only []
    generalize (matsW ws S1).1 = z
    match z with
    | [] => rfl
    | [_] => rfl
    | [_, _] => rfl
    | [a, b, c] => rw [kP3b_e, stv_eq, stv_eq, stv_eq]
    | _ :: _ :: _ :: _ :: _ => rfl
def kSd5 (ρ : Env) (n : Nat) (S : Sto) : O → Option (Fl × Env × Sto)
  | o => some (.nx, ρ, S.set n o)
theorem kSd5_e (ρ : Env) (n : Nat) (S : Sto) (o : O) : kSd5 ρ n S o = some (.nx, ρ, S.set n o) := rfl
def kSd4b (ρ : Env) (n : Nat) (S : Sto) (kd : D) (d : D) : O → Option (Fl × Env × Sto)
  | o => bnd (oPut o kd d) (kSd5 ρ n S)
theorem kSd4b_e (ρ : Env) (n : Nat) (S : Sto) (kd : D) (d : D) (o : O) : kSd4b ρ n S kd d o = bnd (oPut o kd d) (kSd5 ρ n S) := rfl
def kSd4 (ρ : Env) (n : Nat) (kd : D) : (D × Sto) → Option (Fl × Env × Sto)
  | (d, S) => bnd S[n]? (kSd4b ρ n S kd d)
theorem kSd4_e (ρ : Env) (n : Nat) (kd : D) (d : D) (S : Sto) : kSd4 ρ n kd (d, S) = bnd S[n]? (kSd4b ρ n S kd d) := rfl
def kSd3 (ρ : Env) (n : Nat) (x : W) (S : Sto) : D → Option (Fl × Env × Sto)
  | kd => bnd (mat1 x S) (kSd4 ρ n kd)
theorem kSd3_e (ρ : Env) (n : Nat) (x : W) (S : Sto) (kd : D) : kSd3 ρ n x S kd = bnd (mat1 x S) (kSd4 ρ n kd) := rfl
def kSd2 (ρ : Env) (n : Nat) (x : W) : (W × Sto) → Option (Fl × Env × Sto)
  | (y, S) => bnd (dW y) (kSd3 ρ n x S)
theorem kSd2_e (ρ : Env) (n : Nat) (x : W) (y : W) (S : Sto) : kSd2 ρ n x (y, S) = bnd (dW y) (kSd3 ρ n x S) := rfl
def kSd1 (T : Tab) (cl : Calls) (i : E) (ρ : Env) (x : W) (S : Sto) : Nat → Option (Fl × Env × Sto)
  | n => bnd (evW T cl i ρ S) (kSd2 ρ n x)
theorem kSd1_e (T : Tab) (cl : Calls) (i : E) (ρ : Env) (x : W) (S : Sto) (n : Nat) : kSd1 T cl i ρ x S n = bnd (evW T cl i ρ S) (kSd2 ρ n x) := rfl
def kSd0 (T : Tab) (cl : Calls) (i : E) (ρ : Env) (x : W) : (W × Sto) → Option (Fl × Env × Sto)
  | (o, S) => bnd (refW o) (kSd1 T cl i ρ x S)
theorem kSd0_e (T : Tab) (cl : Calls) (i : E) (ρ : Env) (x : W) (o : W) (S : Sto) : kSd0 T cl i ρ x (o, S) = bnd (refW o) (kSd1 T cl i ρ x S) := rfl
def kSd (T : Tab) (cl : Calls) (o : E) (i : E) (ρ : Env) : (W × Sto) → Option (Fl × Env × Sto)
  | (x, S) => bnd (evW T cl o ρ S) (kSd0 T cl i ρ x)
theorem kSd_e (T : Tab) (cl : Calls) (o : E) (i : E) (ρ : Env) (x : W) (S : Sto) : kSd T cl o i ρ (x, S) = bnd (evW T cl o ρ S) (kSd0 T cl i ρ x) := rfl
theorem x_setd (o i e) : evS T cl F (.setd o i e) ρ S = bnd (evW T cl e ρ S) (kSd T cl o i ρ) := by
  rw [evS]
  cases evW T cl e ρ S with
  | none => rfl
  | some p =>
    obtain ⟨x, S0⟩ := p
    simp only [bnd_some, kSd_e]
    cases evW T cl o ρ S0 with
    | none => rfl
    | some q =>
      obtain ⟨w, S1⟩ := q
      cases w with
      | tmp => rfl
      | d x => cases x with
        | ref n =>
          simp only [bnd_some, kSd0_e, refW, kSd1_e]
          cases evW T cl i ρ S1 with
          | none => rfl
          | some r =>
            obtain ⟨u, S2⟩ := r
            cases u with
            | tmp => rfl
            | d kd =>
              simp only [bnd_some, kSd2_e, dW, kSd3_e, mat1]
              show _ = bnd (matW x S2).2[n]? _
              generalize (matW x S2).2[n]? = z
              cases z with
              | none => rfl
              | some o =>
                simp only [bnd_some, kSd4b_e]
                show (oPut o kd (matW x S2).1).map _ = bnd (oPut o kd (matW x S2).1) _
                cases oPut o kd (matW x S2).1 <;> rfl
        | _ => rfl
theorem setI_of {o i : E} {d : D} {n : Nat} {k : Int} {S2 S3 : Sto} {xs : List D} {j : Nat} (h1 : evW T cl o ρ S = some (.d (.ref n), S2)) (h2 : evW T cl i ρ S2 = some (.d (.int k), S3)) (h3 : S3[n]? = some (.lst xs)) (h4 : ixN xs.length k = some j) :
    setI T cl o i d ρ S = some (S3.set n (.lst (xs.set j d))) := by
  unfold setI
  simp only [h1, h2, h3, h4, Option.map]
theorem x_swp {o1 i1 o2 i2 e : E} {a b : D} {S1 S2 S3 : Sto} (h1 : evW T cl e ρ S = some (.d (.tup [a, b]), S1)) (h2 : setI T cl o1 i1 a ρ S1 = some S2) (h3 : setI T cl o2 i2 b ρ S2 = some S3) :
    evS T cl F (.swp o1 i1 o2 i2 e) ρ S = some (.nx, ρ, S3) := by
  rw [evS]
  simp only [h1, h2, h3, Option.map]
def kSi5 (ρ : Env) (n : Nat) (S : Sto) (d : D) (xs : List D) : Nat → Option (Fl × Env × Sto)
  | j => some (.nx, ρ, S.set n (.lst (xs.set j d)))
theorem kSi5_e (n d xs j) : kSi5 ρ n S d xs j = some (.nx, ρ, S.set n (.lst (xs.set j d))) := rfl
def kSi4b (ρ : Env) (n : Nat) (S : Sto) (d : D) (k : Int) : (List D) → Option (Fl × Env × Sto)
  | xs => bnd (ixN xs.length k) (kSi5 ρ n S d xs)
theorem kSi4b_e (ρ : Env) (n : Nat) (S : Sto) (d : D) (k : Int) (xs : List D) : kSi4b ρ n S d k xs = bnd (ixN xs.length k) (kSi5 ρ n S d xs) := rfl
def kSi4 (ρ : Env) (n : Nat) (k : Int) : (D × Sto) → Option (Fl × Env × Sto)
  | (d, S) => bnd (lstO S[n]?) (kSi4b ρ n S d k)
theorem kSi4_e (ρ : Env) (n : Nat) (k : Int) (d : D) (S : Sto) : kSi4 ρ n k (d, S) = bnd (lstO S[n]?) (kSi4b ρ n S d k) := rfl
def kSi3 (ρ : Env) (n : Nat) (x : W) (S : Sto) : Int → Option (Fl × Env × Sto)
  | k => bnd (mat1 x S) (kSi4 ρ n k)
theorem kSi3_e (ρ : Env) (n : Nat) (x : W) (S : Sto) (k : Int) : kSi3 ρ n x S k = bnd (mat1 x S) (kSi4 ρ n k) := rfl
def kSi2 (ρ : Env) (n : Nat) (x : W) : (W × Sto) → Option (Fl × Env × Sto)
  | (y, S) => bnd (partW y) (kSi3 ρ n x S)
theorem kSi2_e (ρ : Env) (n : Nat) (x : W) (y : W) (S : Sto) : kSi2 ρ n x (y, S) = bnd (partW y) (kSi3 ρ n x S) := rfl
def kSi1 (T : Tab) (cl : Calls) (i : E) (ρ : Env) (x : W) (S : Sto) : Nat → Option (Fl × Env × Sto)
  | n => bnd (evW T cl i ρ S) (kSi2 ρ n x)
theorem kSi1_e (T : Tab) (cl : Calls) (i : E) (ρ : Env) (x : W) (S : Sto) (n : Nat) : kSi1 T cl i ρ x S n = bnd (evW T cl i ρ S) (kSi2 ρ n x) := rfl
def kSi0 (T : Tab) (cl : Calls) (i : E) (ρ : Env) (x : W) : (W × Sto) → Option (Fl × Env × Sto)
  | (o, S) => bnd (refW o) (kSi1 T cl i ρ x S)
theorem kSi0_e (T : Tab) (cl : Calls) (i : E) (ρ : Env) (x : W) (o : W) (S : Sto) : kSi0 T cl i ρ x (o, S) = bnd (refW o) (kSi1 T cl i ρ x S) := rfl
def kSi (T : Tab) (cl : Calls) (o : E) (i : E) (ρ : Env) : (W × Sto) → Option (Fl × Env × Sto)
  | (x, S) => bnd (evW T cl o ρ S) (kSi0 T cl i ρ x)
theorem kSi_e (T : Tab) (cl : Calls) (o : E) (i : E) (ρ : Env) (x : W) (S : Sto) : kSi T cl o i ρ (x, S) = bnd (evW T cl o ρ S) (kSi0 T cl i ρ x) := rfl
theorem x_seti (o i e) : evS T cl F (.seti o i e) ρ S = bnd (evW T cl e ρ S) (kSi T cl o i ρ) := by
  rw [evS]
  cases evW T cl e ρ S with
  | none => rfl
  | some p =>
    obtain ⟨x, S0⟩ := p
    simp only [bnd_some, kSi_e]
    cases evW T cl o ρ S0 with
    | none => rfl
    | some q =>
      obtain ⟨w, S1⟩ := q
      cases w with
      | tmp => rfl
      | d y => cases y with
        | ref n =>
          simp only [bnd_some, kSi0_e, refW, kSi1_e]
          cases evW T cl i ρ S1 with
          | none => rfl
          | some r =>
            obtain ⟨u, S2⟩ := r
            cases u with
            | tmp => rfl
            | d kd => cases kd with
              | int k =>
                simp only [bnd_some, kSi2_e, partW, kSi3_e, mat1]
                show _ = bnd (lstO (matW x S2).2[n]?) _
                generalize (matW x S2).2[n]? = z
                cases z with
                | none => rfl
                | some o => cases o with
                  | dk => rfl
                  | dd => rfl
                  | lst xs =>
                    simp only [lstO, bnd_some, kSi4b_e]
                    cases ixN xs.length k <;> rfl
              | _ => rfl
        | _ => rfl
def kAu3 (i : Nat) (ρ : Env) (S : Sto) : D → Option (Fl × Env × Sto)
  | z => some (.nx, stv ρ i z, S)
theorem kAu3_e (i : Nat) (ρ : Env) (S : Sto) (z : D) : kAu3 i ρ S z = some (.nx, stv ρ i z, S) := rfl
def kAu2 (i : Nat) (ρ : Env) (b : Bop) (d : D) : (W × Sto) → Option (Fl × Env × Sto)
  | (x, S) => bnd (augW b d x) (kAu3 i ρ S)
theorem kAu2_e (i : Nat) (ρ : Env) (b : Bop) (d : D) (x : W) (S : Sto) : kAu2 i ρ b d (x, S) = bnd (augW b d x) (kAu3 i ρ S) := rfl
def kAu1 (T : Tab) (cl : Calls) (i : Nat) (ρ : Env) (b : Bop) (e : E) (S : Sto) : D → Option (Fl × Env × Sto)
  | d => bnd (evW T cl e ρ S) (kAu2 i ρ b d)
theorem kAu1_e (T : Tab) (cl : Calls) (i : Nat) (ρ : Env) (b : Bop) (e : E) (S : Sto) (d : D) : kAu1 T cl i ρ b e S d = bnd (evW T cl e ρ S) (kAu2 i ρ b d) := rfl
def kEx (ρ : Env) : (W × Sto) → Option (Fl × Env × Sto)
  | (_x, S) => some (.nx, ρ, S)
theorem kEx_e (ρ : Env) (_x : W) (S : Sto) : kEx ρ (_x, S) = some (.nx, ρ, S) := rfl
def kRt (ρ : Env) : (W × Sto) → Option (Fl × Env × Sto)
  | (x, S) => some (.rt x, ρ, S)
theorem kRt_e (ρ : Env) (x : W) (S : Sto) : kRt ρ (x, S) = some (.rt x, ρ, S) := rfl
theorem x_aug (i x b e) : evS T cl F (.aug i x b e) ρ S = bnd (lk ρ i) (kAu1 T cl i ρ b e S) := by
  rw [lk_eq, evS]
  cases h : ρ[i]? with
  | none => rfl
  | some o => cases o with
    | none => rfl
    | some d =>
      simp only [Option.join_some, bnd_some, kAu1_e]
      cases evW T cl e ρ S with
      | none => rfl
      | some p =>
        obtain ⟨x, S1⟩ := p
        simp only [bnd_some, kAu2_e]
        cases augW b d x with
        | none => rfl
        | some z => show some _ = some (Fl.nx, stv ρ i z, S1); rw [stv_eq]
theorem x_expr (e) : evS T cl F (.expr e) ρ S = bnd (evW T cl e ρ S) (kEx ρ) := by
  rw [evS]
  cases evW T cl e ρ S <;> rfl
theorem x_ret (e) : evS T cl F (.ret e) ρ S = bnd (evW T cl e ρ S) (kRt ρ) := by
  rw [evS]
  cases evW T cl e ρ S <;> rfl
theorem x_ret0 : evS T cl F .ret0 ρ S = some (.rt (.d .non), ρ, S) := by rw [evS]
def kIf (T : Tab) (cl : Calls) (F : Nat) (a b : Sm) (ρ : Env) : Bool × Sto → Option (Fl × Env × Sto)
  | (true, S) => evS T cl F a ρ S
  | (false, S) => evS T cl F b ρ S
theorem kIf_t (a b) : kIf T cl F a b ρ (true, S) = evS T cl F a ρ S := rfl
theorem kIf_f (a b) : kIf T cl F a b ρ (false, S) = evS T cl F b ρ S := rfl
theorem x_ite (t a b) : evS T cl F (.ite t a b) ρ S = bnd (evT T cl t ρ S) (kIf T cl F a b ρ) := by
  rw [evS]
  cases evT T cl t ρ S with
  | none => rfl
  | some p => obtain ⟨b, S1⟩ := p; cases b <;> rfl
def kStp (T : Tab) (cl : Calls) (F : Nat) (b : Sm) (S : Sto) : Env → Option (Fl × Env × Sto)
  | ρ => evS T cl F b ρ S
theorem kStp_e (b) : kStp T cl F b S ρ = evS T cl F b ρ S := rfl
/-- one round of a for -/
def stp (p : P) (b : Sm) : D → Env → Sto → Option (Fl × Env × Sto) := fun d ρ S => bnd (bindP p d ρ) (kStp T cl F b S)
theorem stp_e (p b d) : stp T cl F p b d ρ S = bnd (bindP p d ρ) (kStp T cl F b S) := rfl
def kFor (T : Tab) (cl : Calls) (F : Nat) (p : P) (b : Sm) (ρ : Env) : (List D × Grd) × Sto → Option (Fl × Env × Sto)
  | ((xs, g), S) => forLoop g (stp T cl F p b) xs ρ S
theorem kFor_e (p b xs g) : kFor T cl F p b ρ ((xs, g), S) = forLoop g (stp T cl F p b) xs ρ S := rfl
theorem x_for (p it b) : evS T cl F (.for p it b) ρ S = bnd (evI T cl it ρ S) (kFor T cl F p b ρ) := by
  rw [evS]
  cases evI T cl it ρ S with
  | none => rfl
  | some q =>
    obtain ⟨⟨xs, g⟩, S1⟩ := q
    simp only [bnd_some, kFor_e]
    congr 1
    funext d ρ S
    unfold stp
    cases bindP p d ρ <;> rfl
/-- a while -/
def whl (t : E) (b : Sm) : Nat → Env → Sto → Option (Fl × Env × Sto) := whileLoop (evT T cl t) (evS T cl F b)
theorem x_while (t b) : evS T cl F (.while t b) ρ S = whl T cl F t b F ρ S := by
  rw [evS]; rfl
def kWh2 (T : Tab) (cl : Calls) (F : Nat) (t : E) (b : Sm) (n : Nat) : Fl × Env × Sto → Option (Fl × Env × Sto)
  | (.nx, ρ', S') => whl T cl F t b n ρ' S'
  | (.ct, ρ', S') => whl T cl F t b n ρ' S'
  | (.bk, ρ', S') => some (.nx, ρ', S')
  | (.rt w, ρ', S') => some (.rt w, ρ', S')
theorem kWh2_nx (t b n) : kWh2 T cl F t b n (.nx, ρ, S) = whl T cl F t b n ρ S := rfl
theorem kWh2_ct (t b n) : kWh2 T cl F t b n (.ct, ρ, S) = whl T cl F t b n ρ S := rfl
theorem kWh2_bk (t b n) : kWh2 T cl F t b n (.bk, ρ, S) = some (.nx, ρ, S) := rfl
theorem kWh2_rt (t b n w) : kWh2 T cl F t b n (.rt w, ρ, S) = some (.rt w, ρ, S) := rfl
def kWh (T : Tab) (cl : Calls) (F : Nat) (t : E) (b : Sm) (n : Nat) (ρ : Env) : Bool × Sto → Option (Fl × Env × Sto)
  | (true, S) => bnd (evS T cl F b ρ S) (kWh2 T cl F t b n)
  | (false, S) => some (.nx, ρ, S)
theorem kWh_t (t b n) : kWh T cl F t b n ρ (true, S) = bnd (evS T cl F b ρ S) (kWh2 T cl F t b n) := rfl
theorem kWh_f (t b n) : kWh T cl F t b n ρ (false, S) = some (.nx, ρ, S) := rfl
theorem whl_s (t b n) : whl T cl F t b (n + 1) ρ S = bnd (evT T cl t ρ S) (kWh T cl F t b n ρ) := by
  unfold whl
  rw [whileLoop]
  cases evT T cl t ρ S with
  | none => rfl
  | some p =>
    obtain ⟨k, S1⟩ := p
    cases k with
    | false => rfl
    | true =>
      simp only [bnd_some, kWh_t]
      cases evS T cl F b ρ S1 with
      | none => rfl
      | some q => obtain ⟨f, r, S2⟩ := q; cases f <;> rfl
theorem x_pass : evS T cl F .pass ρ S = some (.nx, ρ, S) := by rw [evS]
theorem x_brk : evS T cl F .brk ρ S = some (.bk, ρ, S) := by rw [evS]
theorem x_cnt : evS T cl F .cnt ρ S = some (.ct, ρ, S) := by rw [evS]
end
/-! loops -/
def kFl (g : Grd) (st : D → Env → Sto → Option (Fl × Env × Sto)) (xs : List D) : Fl × Env × Sto → Option (Fl × Env × Sto)
  | (.nx, ρ, S) => forLoop g st xs ρ S
  | (.ct, ρ, S) => forLoop g st xs ρ S
  | (.bk, ρ, S) => some (.nx, ρ, S)
  | (.rt w, ρ, S) => some (.rt w, ρ, S)
theorem kFl_nx (g st xs ρ S) : kFl g st xs (.nx, ρ, S) = forLoop g st xs ρ S := rfl
theorem kFl_ct (g st xs ρ S) : kFl g st xs (.ct, ρ, S) = forLoop g st xs ρ S := rfl
theorem kFl_bk (g st xs ρ S) : kFl g st xs (.bk, ρ, S) = some (.nx, ρ, S) := rfl
theorem kFl_rt (g st xs w ρ S) : kFl g st xs (.rt w, ρ, S) = some (.rt w, ρ, S) := rfl
theorem forLoop_nil {g : Grd} {S : Sto} (st ρ) (h : chkG g S = true) : forLoop g st [] ρ S = some (.nx, ρ, S) := by
  rw [forLoop, if_pos h]
theorem forLoop_cons {g : Grd} {S : Sto} (st x xs ρ) (h : chkG g S = true) : forLoop g st (x :: xs) ρ S = bnd (st x ρ S) (kFl g st xs) := by
  rw [forLoop, if_pos h]
  cases st x ρ S with
  | none => rfl
  | some q => obtain ⟨f, r, S2⟩ := q; cases f <;> rfl
def kLl (g : Grd) (st : D → Sto → Option (Option D × Sto)) (xs acc : List D) : Option D × Sto → Option (List D × Sto)
  | (none, S) => lcLoop g st xs acc S
  | (some d, S) => if acc.length < LN then lcLoop g st xs (acc ++ [d]) S else none
theorem kLl_n (g st xs acc S) : kLl g st xs acc (none, S) = lcLoop g st xs acc S := rfl
theorem kLl_s {acc : List D} (g st xs d S) (h : acc.length < LN) : kLl g st xs acc (some d, S) = lcLoop g st xs (acc ++ [d]) S := if_pos h
theorem lcLoop_nil {g : Grd} {S : Sto} (st acc) (h : chkG g S = true) : lcLoop g st [] acc S = some (acc, S) := by
  rw [lcLoop, if_pos h]
theorem lcLoop_cons {g : Grd} {S : Sto} (st x xs acc) (h : chkG g S = true) : lcLoop g st (x :: xs) acc S = bnd (st x S) (kLl g st xs acc) := by
  rw [lcLoop, if_pos h]
  cases st x S with
  | none => rfl
  | some q => obtain ⟨f, S2⟩ := q; cases f <;> rfl
theorem chkG_nil (S : Sto) : chkG [] S = true := rfl
/-! values -/
section
variable (S : Sto)
theorem b_add (a b : Int) : binW S .add (.d (.int a)) (.d (.int b)) = some (.d (.int (a + b))) := rfl
theorem b_sub (a b : Int) : binW S .sub (.d (.int a)) (.d (.int b)) = some (.d (.int (a - b))) := rfl
theorem b_mul {a b : Int} (h : mulOk a b = true) : binW S .mul (.d (.int a)) (.d (.int b)) = some (.d (.int (a * b))) := by
  have e : binI .mul a b = some _ := if_pos h
  show ((binI .mul a b).map fun i => W.d (.int i)) = _
  rw [e]; rfl
theorem b_fdiv {a b : Int} (h : divOk b = true) : binW S .fdiv (.d (.int a)) (.d (.int b)) = some (.d (.int (a / b))) := by
  have e : binI .fdiv a b = some _ := if_pos h
  show ((binI .fdiv a b).map fun i => W.d (.int i)) = _
  rw [e]; rfl
theorem b_mod {a b : Int} (h : 0 < b) : binW S .mod (.d (.int a)) (.d (.int b)) = some (.d (.int (a % b))) := by
  have e : binI .mod a b = some _ := if_pos (decide_eq_true h)
  show ((binI .mod a b).map fun i => W.d (.int i)) = _
  rw [e]; rfl
theorem b_xor (a b : Int) : binW S .bxor (.d (.int a)) (.d (.int b)) = some (.d (.int (Builtin.bitXor a b))) := rfl
theorem c_lt (a b : Int) : cmpW S .lt (.d (.int a)) (.d (.int b)) = some (decide (a < b)) := rfl
theorem c_le (a b : Int) : cmpW S .le (.d (.int a)) (.d (.int b)) = some (decide (a ≤ b)) := rfl
theorem c_gt (a b : Int) : cmpW S .gt (.d (.int a)) (.d (.int b)) = some (decide (b < a)) := rfl
theorem c_ge (a b : Int) : cmpW S .ge (.d (.int a)) (.d (.int b)) = some (decide (b ≤ a)) := rfl
theorem c_eq (x y : W) : cmpW S .eq x y = eqW S x y := rfl
def kNb : Bool → Option Bool
  | b => some (!b)
theorem kNb_e (b : Bool) : kNb b = some (!b) := rfl
theorem c_ne (x y : W) : cmpW S .ne x y = bnd (eqW S x y) kNb := by
  show (eqW S x y).map _ = _
  cases eqW S x y <;> rfl
theorem c_in (x y : W) : cmpW S .inn x y = inW S x y := rfl
theorem c_ni (x y : W) : cmpW S .notin x y = bnd (inW S x y) kNb := by
  show (inW S x y).map _ = _
  cases inW S x y <;> rfl
theorem part_i (i : Int) : partW (.d (.int i)) = some i := rfl
theorem bl_b (b : Bool) : blW (.d (.bl b)) = some b := rfl
theorem fn_f (b : Str) : fnD (.fn b) = some b := rfl
theorem ref_n (n : Nat) : refW (.d (.ref n)) = some n := rfl
theorem d_d (x : D) : dW (.d x) = some x := rfl
theorem tr_b (b : Bool) : truW S (.d (.bl b)) = some b := rfl
theorem tr_i (i : Int) : truW S (.d (.int i)) = some (i != 0) := rfl
theorem tr_t (xs : List D) : truW S (.d (.tup xs)) = some (!xs.isEmpty) := rfl
theorem tr_n : truW S (.d .non) = some false := rfl
theorem tr_m (xs : List D) : truW S (.tmp xs) = some (!xs.isEmpty) := rfl
theorem sq_t (xs : List D) : seqOf S (.d (.tup xs)) = some xs := rfl
theorem sq_m (xs : List D) : seqOf S (.tmp xs) = some xs := rfl
theorem sq_z (xs : List D) : seqOf S (.d (.fz xs)) = some xs := rfl
theorem gd_t (xs : List D) : guardOf S (.d (.tup xs)) = [] := rfl
theorem gd_m (xs : List D) : guardOf S (.tmp xs) = [] := rfl
theorem gd_z (xs : List D) : guardOf S (.d (.fz xs)) = [] := rfl
def kAtD : D → Option W
  | d => some (.d d)
theorem kAtD_e (d : D) : kAtD d = some (.d d) := rfl
/-- subscripts that are numbers -/
def at0 : List D → Nat → Option D
  | [], _ => none
  | x :: _, 0 => some x
  | _ :: xs, i + 1 => at0 xs i
theorem at0_0 (x : D) (xs : List D) : at0 (x :: xs) 0 = some x := rfl
theorem at0_s (x : D) (xs : List D) (i : Nat) : at0 (x :: xs) (i + 1) = at0 xs i := rfl
theorem at0_eq : ∀ (xs : List D) (i : Nat), at0 xs i = xs[i]?
  | [], _ => rfl
  | x :: _, 0 => rfl
  | _ :: xs, i + 1 => by unfold at0; rw [at0_eq xs i]; rfl
theorem atI_nn (xs : List D) (i : Nat) : atI xs (i : Int) = xs[i]? := by
  unfold atI ixN
  rw [if_pos (by omega)]
  by_cases h : i < xs.length
  · rw [if_pos (by omega)]; simp
  · rw [if_neg (by omega), List.getElem?_eq_none (by omega)]; rfl
theorem ix_t (xs : List D) (k : Int) : ixW S (.d (.tup xs)) (.d (.int k)) = bnd (atI xs k) kAtD := by
  show (atI xs k).map _ = _
  cases atI xs k <;> rfl
theorem ix_l {n : Nat} (k : Int) : ixW S (.d (.ref n)) (.d (.int k)) = bnd (lstO S[n]?) fun xs => bnd (atI xs k) kAtD := by
  show (match (match S[n]? with | some (.lst xs) => some xs | _ => none) with | some xs => (atI xs k).map W.d | none => none) = _
  cases S[n]? with
  | none => rfl
  | some o => cases o with
    | dk => rfl
    | dd => rfl
    | lst xs => show (atI xs k).map W.d = _; cases h : atI xs k <;> simp [h, bnd, lstO, kAtD]
theorem ix_z (xs : List D) (k : Int) : ixW S (.d (.fz xs)) (.d (.int k)) = bnd (atI xs k) kAtD := by
  show (atI xs k).map _ = _
  cases atI xs k <;> rfl
end
/-! calls -/
def fin : Option (Fl × Env × Sto) → Option (W × Sto)
  | some (.nx, _, S') => some (.d .non, S')
  | some (.rt w, _, S') => some (w, S')
  | _ => none
theorem fin_nx (ρ S) : fin (some (.nx, ρ, S)) = some (.d .non, S) := rfl
theorem fin_rt (w ρ S) : fin (some (.rt w, ρ, S)) = some (w, S) := rfl
theorem run_eq (F T cl d ds S) : runDef F T cl d ds S = fin (evS T cl F d.body (env0 d ds) S) := by
  unfold runDef
  cases evS T cl F d.body (env0 d ds) S with
  | none => rfl
  | some q => obtain ⟨f, r, S2⟩ := q; cases f <;> rfl
theorem call_px {F T} {pg : Prog} {n : Nat} {f : Str} {ds : List D} {d : Def} {w w' : W} {S' : Sto} (h : pg.lookup f = some d) (hn : ds.length = d.np) (hp : (d.px && D.pures ds) = true) (hr : fin (evS T (callD F T pg n) F d.body (env0 d ds) []) = some (w, S')) (he : expW w S' = some w') (S : Sto) :
    callD F T pg (n + 1) f ds S = some (w', S) := by
  rw [← run_eq] at hr
  unfold callD
  simp only [h, hn, hp, hr, he, if_true, Option.map]
theorem call_im {F T} {pg : Prog} {n : Nat} {f : Str} {ds : List D} {d : Def} {S : Sto} (h : pg.lookup f = some d) (hn : ds.length = d.np) (hp : (d.px && D.pures ds) = false) :
    callD F T pg (n + 1) f ds S = fin (evS T (callD F T pg n) F d.body (env0 d ds) S) := by
  rw [← run_eq]
  conv => lhs; unfold callD
  simp only [h, hn, hp, if_true]
  rfl
end Z

set_option Elab.async false
set_option linter.all false
set_option maxRecDepth 100000
/-! Y2: all the steps in one -/
namespace Z
open PySem PySem.Spec PyProof.Rows L2
theorem at_lit0 (x : D) (xs : List D) : atI (x :: xs) 0 = some x := by rw [show (0 : Int) = ((0 : Nat) : Int) from rfl, atI_nn]; rfl
theorem at_lit1 (x y : D) (xs : List D) : atI (x :: y :: xs) 1 = some y := by rw [show (1 : Int) = ((1 : Nat) : Int) from rfl, atI_nn]; rfl
theorem at_lit2 (x y z : D) (xs : List D) : atI (x :: y :: z :: xs) 2 = some z := by rw [show (2 : Int) = ((2 : Nat) : Int) from rfl, atI_nn]; rfl
theorem at_lit3 (x y z u : D) (xs : List D) : atI (x :: y :: z :: u :: xs) 3 = some u := by rw [show (3 : Int) = ((3 : Nat) : Int) from rfl, atI_nn]; rfl
theorem at_lit4 (x y z u v : D) (xs : List D) : atI (x :: y :: z :: u :: v :: xs) 4 = some v := by rw [show (4 : Int) = ((4 : Nat) : Int) from rfl, atI_nn]; rfl
theorem rng1 {j : Int} (h : rngOk j = true) : rngW [.d (.int j)] = some (rngL 0 j.toNat) := if_pos h
theorem bi_abs (S : Sto) (i : Int) : biW S .abs [.d (.int i)] = some (.d (.int (if i < 0 then -i else i))) := rfl
theorem bi_int (S : Sto) (i : Int) : biW S .int [.d (.int i)] = some (.d (.int i)) := rfl
theorem bi_intb (S : Sto) (b : Bool) : biW S .int [.d (.bl b)] = some (.d (.int (if b then 1 else 0))) := rfl
theorem bi_max (S : Sto) (i j : Int) : biW S .max [.d (.int i), .d (.int j)] = some (.d (.int (if j > i then j else i))) := rfl
theorem bi_min (S : Sto) (i j : Int) : biW S .min [.d (.int i), .d (.int j)] = some (.d (.int (if j < i then j else i))) := rfl
theorem bi_tup (S : Sto) (xs : List D) : biW S .tuple [.tmp xs] = some (.d (.tup xs)) := rfl
theorem bi_lent (S : Sto) (xs : List D) : biW S .len [.d (.tup xs)] = some (.d (.int xs.length)) := rfl
theorem bi_lenm (S : Sto) (xs : List D) : biW S .len [.tmp xs] = some (.d (.int xs.length)) := rfl
theorem au_mul {a b : Int} (h : (sm64 a || sm64 b) = true) : augW .mul (.int a) (.d (.int b)) = some (.int (a * b)) := if_pos h
theorem au_add (a b : Int) : augW .add (.int a) (.d (.int b)) = some (.int (a + b)) := rfl
theorem au_sub (a b : Int) : augW .sub (.int a) (.d (.int b)) = some (.int (a - b)) := rfl
theorem sm_r {a b : Int} (h : sm64 b = true) : (sm64 a || sm64 b) = true := by rw [h, Bool.or_true]
/-- all the steps, for simp -/
theorem evl : type_of% (And.intro @bnd_some (And.intro @lk_0 (And.intro @lk_s (And.intro @stv_0 (And.intro @stv_s (And.intro @mat_d (And.intro @mat_t (And.intro @kMd_e (And.intro @matM_nil (And.intro @matM_d (And.intro @matM_t (And.intro @zip_tt (And.intro @kRet_e (And.intro @kRetB_e (And.intro @kRetT_e (And.intro @kRetD_e (And.intro @e_var (And.intro @e_cI (And.intro @e_cB (And.intro @e_cN (And.intro @e_cS (And.intro @e_glob (And.intro @kBin2_e (And.intro @kBin1_e (And.intro @e_bin (And.intro @kCmp2_e (And.intro @kCmp1_e (And.intro @e_cmp (And.intro @kCmpT2_e (And.intro @kCmpT1_e (And.intro @t_cmp (And.intro @kIx2_e (And.intro @kIx1_e (And.intro @e_ix (And.intro @kDg2_e (And.intro @kDg1_e (And.intro @e_dget (And.intro @kChn4_e (And.intro @kChn3_t (And.intro @kChn3_f (And.intro @kChn2_e (And.intro @kChn1_e (And.intro @kC3d_e (And.intro @kC3c_t (And.intro @kC3c_f (And.intro @kC3b_e (And.intro @kC3a_t (And.intro @kC3a_f (And.intro @kC31_e (And.intro @kC30_e (And.intro @t_chn3 (And.intro @kTB_e (And.intro @t_chn (And.intro @e_chn (And.intro @kNegR_e (And.intro @kNeg_e (And.intro @kNotR_e (And.intro @kNot_e (And.intro @kNotT_e (And.intro @kTst_e (And.intro @e_neg (And.intro @e_not (And.intro @t_not (And.intro @t_tst (And.intro @t_and (And.intro @t_or (And.intro @ta_nil (And.intro @to_nil (And.intro @kTA_t (And.intro @kTA_f (And.intro @kTO_t (And.intro @kTO_f (And.intro @ta_cons (And.intro @to_cons (And.intro @e_and (And.intro @e_or (And.intro @a_one (And.intro @o_one (And.intro @kWA_t (And.intro @kWA_f (And.intro @kWO_t (And.intro @kWO_f (And.intro @kWA1_e (And.intro @kWO1_e (And.intro @a_cons (And.intro @o_cons (And.intro @kIte_t (And.intro @kIte_f (And.intro @e_ite (And.intro @kTup1_e (And.intro @kLst1_e (And.intro @kTup_e (And.intro @kLst_e (And.intro @e_tup (And.intro @e_lst (And.intro @o_nil (And.intro @kPartR_e (And.intro @kPart_e (And.intro @kSl3_e (And.intro @kSl2_e (And.intro @kSl1_e (And.intro @kRev_e (And.intro @kCall1_e (And.intro @kCall_e (And.intro @kBi_e (And.intro @kDisp1_e (And.intro @kS2_e (And.intro @kS1_e (And.intro @o_some (And.intro @e_slc (And.intro @e_rev (And.intro @e_call (And.intro @kLc1_e (And.intro @kLc0_e (And.intro @e_lcall (And.intro @e_bi (And.intro @kDisp_e (And.intro @e_disp (And.intro @s_nil (And.intro @s_cons (And.intro @kLcM_e (And.intro @kLcE_e (And.intro @kLcT_t (And.intro @kLcT_f (And.intro @kLcP_e (And.intro @kLcR_e (And.intro @kLc_e (And.intro @e_lc (And.intro @c_nil (And.intro @c_cons (And.intro @kIRet_e (And.intro @kIEn_e (And.intro @kRng_e (And.intro @kEnm_e (And.intro @kSeq_e (And.intro @kZp2_e (And.intro @kZp1_e (And.intro @i_zip (And.intro @i_rng (And.intro @i_enm (And.intro @i_seq (And.intro @kM2_e (And.intro @kMc_t (And.intro @kM1_e (And.intro @e_mth (And.intro @e_dnew (And.intro @kDd3_e (And.intro @kDd2_e (And.intro @kDd1_e (And.intro @kDd0_e (And.intro @e_ddisp (And.intro @kLr2_e (And.intro @kLr1_e (And.intro @e_lrng (And.intro @kDc4_e (And.intro @kDc3_e (And.intro @kDc2_e (And.intro @kDc1_e (And.intro @e_dct (And.intro @kApp3_e (And.intro @kApp2_e (And.intro @kApp1_e (And.intro @kApp0_e (And.intro @kApp_e (And.intro @e_app (And.intro @p_nm (And.intro @p_tup (And.intro @p_wt (And.intro @p_nil (And.intro @kPs_e (And.intro @p_cons (And.intro @sq_nx (And.intro @sq_rt (And.intro @sq_bk (And.intro @sq_ct (And.intro @x_nil (And.intro @x_cons (And.intro @kAs3_e (And.intro @kAs2_e (And.intro @kAs1_e (And.intro @kSc2_e (And.intro @kSc1_e (And.intro @x_asg (And.intro @x_setLc (And.intro @kP2b_e (And.intro @kP3b_e (And.intro @kP2_e (And.intro @kP3_e (And.intro @x_par2 (And.intro @x_par3 (And.intro @kSd5_e (And.intro @kSd4b_e (And.intro @kSd4_e (And.intro @kSd3_e (And.intro @kSd2_e (And.intro @kSd1_e (And.intro @kSd0_e (And.intro @kSd_e (And.intro @x_setd (And.intro @kSi5_e (And.intro @kSi4b_e (And.intro @kSi4_e (And.intro @kSi3_e (And.intro @kSi2_e (And.intro @kSi1_e (And.intro @kSi0_e (And.intro @kSi_e (And.intro @x_seti (And.intro @kAu3_e (And.intro @kAu2_e (And.intro @kAu1_e (And.intro @kEx_e (And.intro @kRt_e (And.intro @x_aug (And.intro @x_expr (And.intro @x_ret (And.intro @x_ret0 (And.intro @kIf_t (And.intro @kIf_f (And.intro @x_ite (And.intro @kStp_e (And.intro @kFor_e (And.intro @x_for (And.intro @x_while (And.intro @kWh2_nx (And.intro @kWh2_ct (And.intro @kWh2_bk (And.intro @kWh2_rt (And.intro @kWh_t (And.intro @kWh_f (And.intro @x_pass (And.intro @x_brk (And.intro @x_cnt (And.intro @kFl_nx (And.intro @kFl_ct (And.intro @kFl_bk (And.intro @kFl_rt (And.intro @kLl_n (And.intro @chkG_nil (And.intro @b_add (And.intro @b_sub (And.intro @c_lt (And.intro @c_le (And.intro @c_gt (And.intro @c_ge (And.intro @kNb_e (And.intro @part_i (And.intro @bl_b (And.intro @fn_f (And.intro @ref_n (And.intro @d_d (And.intro @tr_b (And.intro @tr_i (And.intro @tr_t (And.intro @tr_n (And.intro @tr_m (And.intro @sq_t (And.intro @sq_m (And.intro @sq_z (And.intro @gd_t (And.intro @gd_m (And.intro @gd_z (And.intro @kAtD_e (And.intro @at0_0 (And.intro @at0_s (And.intro @ix_t (And.intro @ix_z (And.intro @fin_nx (And.intro @fin_rt (And.intro @at_lit0 (And.intro @at_lit1 (And.intro @at_lit2 (And.intro @at_lit3 (And.intro @at_lit4 (And.intro @bi_abs (And.intro @bi_int (And.intro @bi_intb (And.intro @bi_max (And.intro @bi_min (And.intro @bi_tup (And.intro @bi_lent (And.intro @bi_lenm (And.intro @au_add (@au_sub)))))))))))))))))))))))))))))))))))))))))))))))))))))))))))))))))))))))))))))))))))))))))))))))))))))))))))))))))))))))))))))))))))))))))))))))))))))))))))))))))))))))))))))))))))))))))))))))))))))))))))))))))))))))))))))))))))))))))))))))))))))))))))))))))))))))))))))))))))))))))))) := And.intro @bnd_some (And.intro @lk_0 (And.intro @lk_s (And.intro @stv_0 (And.intro @stv_s (And.intro @mat_d (And.intro @mat_t (And.intro @kMd_e (And.intro @matM_nil (And.intro @matM_d (And.intro @matM_t (And.intro @zip_tt (And.intro @kRet_e (And.intro @kRetB_e (And.intro @kRetT_e (And.intro @kRetD_e (And.intro @e_var (And.intro @e_cI (And.intro @e_cB (And.intro @e_cN (And.intro @e_cS (And.intro @e_glob (And.intro @kBin2_e (And.intro @kBin1_e (And.intro @e_bin (And.intro @kCmp2_e (And.intro @kCmp1_e (And.intro @e_cmp (And.intro @kCmpT2_e (And.intro @kCmpT1_e (And.intro @t_cmp (And.intro @kIx2_e (And.intro @kIx1_e (And.intro @e_ix (And.intro @kDg2_e (And.intro @kDg1_e (And.intro @e_dget (And.intro @kChn4_e (And.intro @kChn3_t (And.intro @kChn3_f (And.intro @kChn2_e (And.intro @kChn1_e (And.intro @kC3d_e (And.intro @kC3c_t (And.intro @kC3c_f (And.intro @kC3b_e (And.intro @kC3a_t (And.intro @kC3a_f (And.intro @kC31_e (And.intro @kC30_e (And.intro @t_chn3 (And.intro @kTB_e (And.intro @t_chn (And.intro @e_chn (And.intro @kNegR_e (And.intro @kNeg_e (And.intro @kNotR_e (And.intro @kNot_e (And.intro @kNotT_e (And.intro @kTst_e (And.intro @e_neg (And.intro @e_not (And.intro @t_not (And.intro @t_tst (And.intro @t_and (And.intro @t_or (And.intro @ta_nil (And.intro @to_nil (And.intro @kTA_t (And.intro @kTA_f (And.intro @kTO_t (And.intro @kTO_f (And.intro @ta_cons (And.intro @to_cons (And.intro @e_and (And.intro @e_or (And.intro @a_one (And.intro @o_one (And.intro @kWA_t (And.intro @kWA_f (And.intro @kWO_t (And.intro @kWO_f (And.intro @kWA1_e (And.intro @kWO1_e (And.intro @a_cons (And.intro @o_cons (And.intro @kIte_t (And.intro @kIte_f (And.intro @e_ite (And.intro @kTup1_e (And.intro @kLst1_e (And.intro @kTup_e (And.intro @kLst_e (And.intro @e_tup (And.intro @e_lst (And.intro @o_nil (And.intro @kPartR_e (And.intro @kPart_e (And.intro @kSl3_e (And.intro @kSl2_e (And.intro @kSl1_e (And.intro @kRev_e (And.intro @kCall1_e (And.intro @kCall_e (And.intro @kBi_e (And.intro @kDisp1_e (And.intro @kS2_e (And.intro @kS1_e (And.intro @o_some (And.intro @e_slc (And.intro @e_rev (And.intro @e_call (And.intro @kLc1_e (And.intro @kLc0_e (And.intro @e_lcall (And.intro @e_bi (And.intro @kDisp_e (And.intro @e_disp (And.intro @s_nil (And.intro @s_cons (And.intro @kLcM_e (And.intro @kLcE_e (And.intro @kLcT_t (And.intro @kLcT_f (And.intro @kLcP_e (And.intro @kLcR_e (And.intro @kLc_e (And.intro @e_lc (And.intro @c_nil (And.intro @c_cons (And.intro @kIRet_e (And.intro @kIEn_e (And.intro @kRng_e (And.intro @kEnm_e (And.intro @kSeq_e (And.intro @kZp2_e (And.intro @kZp1_e (And.intro @i_zip (And.intro @i_rng (And.intro @i_enm (And.intro @i_seq (And.intro @kM2_e (And.intro @kMc_t (And.intro @kM1_e (And.intro @e_mth (And.intro @e_dnew (And.intro @kDd3_e (And.intro @kDd2_e (And.intro @kDd1_e (And.intro @kDd0_e (And.intro @e_ddisp (And.intro @kLr2_e (And.intro @kLr1_e (And.intro @e_lrng (And.intro @kDc4_e (And.intro @kDc3_e (And.intro @kDc2_e (And.intro @kDc1_e (And.intro @e_dct (And.intro @kApp3_e (And.intro @kApp2_e (And.intro @kApp1_e (And.intro @kApp0_e (And.intro @kApp_e (And.intro @e_app (And.intro @p_nm (And.intro @p_tup (And.intro @p_wt (And.intro @p_nil (And.intro @kPs_e (And.intro @p_cons (And.intro @sq_nx (And.intro @sq_rt (And.intro @sq_bk (And.intro @sq_ct (And.intro @x_nil (And.intro @x_cons (And.intro @kAs3_e (And.intro @kAs2_e (And.intro @kAs1_e (And.intro @kSc2_e (And.intro @kSc1_e (And.intro @x_asg (And.intro @x_setLc (And.intro @kP2b_e (And.intro @kP3b_e (And.intro @kP2_e (And.intro @kP3_e (And.intro @x_par2 (And.intro @x_par3 (And.intro @kSd5_e (And.intro @kSd4b_e (And.intro @kSd4_e (And.intro @kSd3_e (And.intro @kSd2_e (And.intro @kSd1_e (And.intro @kSd0_e (And.intro @kSd_e (And.intro @x_setd (And.intro @kSi5_e (And.intro @kSi4b_e (And.intro @kSi4_e (And.intro @kSi3_e (And.intro @kSi2_e (And.intro @kSi1_e (And.intro @kSi0_e (And.intro @kSi_e (And.intro @x_seti (And.intro @kAu3_e (And.intro @kAu2_e (And.intro @kAu1_e (And.intro @kEx_e (And.intro @kRt_e (And.intro @x_aug (And.intro @x_expr (And.intro @x_ret (And.intro @x_ret0 (And.intro @kIf_t (And.intro @kIf_f (And.intro @x_ite (And.intro @kStp_e (And.intro @kFor_e (And.intro @x_for (And.intro @x_while (And.intro @kWh2_nx (And.intro @kWh2_ct (And.intro @kWh2_bk (And.intro @kWh2_rt (And.intro @kWh_t (And.intro @kWh_f (And.intro @x_pass (And.intro @x_brk (And.intro @x_cnt (And.intro @kFl_nx (And.intro @kFl_ct (And.intro @kFl_bk (And.intro @kFl_rt (And.intro @kLl_n (And.intro @chkG_nil (And.intro @b_add (And.intro @b_sub (And.intro @c_lt (And.intro @c_le (And.intro @c_gt (And.intro @c_ge (And.intro @kNb_e (And.intro @part_i (And.intro @bl_b (And.intro @fn_f (And.intro @ref_n (And.intro @d_d (And.intro @tr_b (And.intro @tr_i (And.intro @tr_t (And.intro @tr_n (And.intro @tr_m (And.intro @sq_t (And.intro @sq_m (And.intro @sq_z (And.intro @gd_t (And.intro @gd_m (And.intro @gd_z (And.intro @kAtD_e (And.intro @at0_0 (And.intro @at0_s (And.intro @ix_t (And.intro @ix_z (And.intro @fin_nx (And.intro @fin_rt (And.intro @at_lit0 (And.intro @at_lit1 (And.intro @at_lit2 (And.intro @at_lit3 (And.intro @at_lit4 (And.intro @bi_abs (And.intro @bi_int (And.intro @bi_intb (And.intro @bi_max (And.intro @bi_min (And.intro @bi_tup (And.intro @bi_lent (And.intro @bi_lenm (And.intro @au_add (@au_sub)))))))))))))))))))))))))))))))))))))))))))))))))))))))))))))))))))))))))))))))))))))))))))))))))))))))))))))))))))))))))))))))))))))))))))))))))))))))))))))))))))))))))))))))))))))))))))))))))))))))))))))))))))))))))))))))))))))))))))))))))))))))))))))))))))))))))))))))))))))))))))
end Z

set_option Elab.async false
set_option linter.all false
set_option maxRecDepth 100000
/-! Y3: comparisons of values of a plain form -/
namespace Z
open PySem PySem.Spec PyProof.Rows L2
theorem eq_of (S : Sto) {x y : W} (h : SeqAt.shaped (pyW S x) = true) (h' : SeqAt.shaped (pyW S y) = true) : eqW S x y = some (PyData.eqv (pyW S x) (pyW S y)) := by
  unfold eqW; rw [h, h']; rfl
theorem in_of (S : Sto) {x : W} {ys : List D} (h : SeqAt.shaped (pyW S x) = true) (h' : SeqAt.shaped (.list (D.pys ys)) = true) : inW S x (.d (.tup ys)) = some ((D.pys ys).any fun z => PyData.eqv z (pyW S x)) := by
  show (if _ then _ else _) = _
  rw [h, h']; rfl
theorem v_ii (a b : Int) : PyData.eqv (.int a) (.int b) = decide (a = b) := by rw [PyData.eqv]; rfl
theorem v_bb (a b : Bool) : PyData.eqv (.bool a) (.bool b) = decide (a = b) := by rw [PyData.eqv]; rfl
theorem v_ss (a b : Str) : PyData.eqv (.str a) (.str b) = decide (a = b) := by
  rw [PyData.eqv]
  by_cases h : a = b
  · subst h; rw [decide_eq_true rfl]; exact beq_self_eq_true a
  · rw [decide_eq_false h]; exact beq_eq_false_iff_ne.mpr h
theorem v_tt (a b : List PyData) : PyData.eqv (.tuple a) (.tuple b) = PyData.eqvAll a b := by rw [PyData.eqv]
theorem v_nt (b : List PyData) : PyData.eqv .none (.tuple b) = false := by rw [PyData.eqv]
theorem v_tn (b : List PyData) : PyData.eqv (.tuple b) .none = false := by rw [PyData.eqv]
theorem v_nn : PyData.eqv .none .none = true := by rw [PyData.eqv]
theorem v_ni (b : Int) : PyData.eqv .none (.int b) = false := by rw [PyData.eqv]
theorem v_in (b : Int) : PyData.eqv (.int b) .none = false := by rw [PyData.eqv]
theorem va_nn : PyData.eqvAll [] [] = true := by rw [PyData.eqvAll]
theorem va_cc (x y : PyData) (xs ys : List PyData) : PyData.eqvAll (x :: xs) (y :: ys) = (PyData.eqv x y && PyData.eqvAll xs ys) := by rw [PyData.eqvAll]
theorem va_nc (y : PyData) (ys : List PyData) : PyData.eqvAll [] (y :: ys) = false := by rw [PyData.eqvAll]
theorem va_cn (y : PyData) (ys : List PyData) : PyData.eqvAll (y :: ys) [] = false := by rw [PyData.eqvAll]
theorem y_d (S : Sto) (x : D) (h : x.pure = true) : pyW S (.d x) = x.py := by
  cases x <;> first | rfl | cases h
theorem y_int (i : Int) : D.py (.int i) = .int i := by rw [D.py]
theorem y_str (i : Str) : D.py (.str i) = .str i := by rw [D.py]
theorem y_bl (i : Bool) : D.py (.bl i) = .bool i := by rw [D.py]
theorem y_non : D.py .non = .none := by rw [D.py]
theorem y_tup (xs : List D) : D.py (.tup xs) = .tuple (D.pys xs) := by rw [D.py]
theorem ys_n : D.pys [] = [] := by rw [D.pys]
theorem ys_c (x : D) (xs : List D) : D.pys (x :: xs) = x.py :: D.pys xs := by rw [D.pys]
/-- equality of plain values -/
theorem eqp (S : Sto) (x y : D) (hx : x.pure = true) (hy : y.pure = true) (h : SeqAt.shaped x.py = true) (h' : SeqAt.shaped y.py = true) : eqW S (.d x) (.d y) = some (PyData.eqv x.py y.py) := by
  rw [eq_of S (by rw [y_d S x hx]; exact h) (by rw [y_d S y hy]; exact h'), y_d S x hx, y_d S y hy]
theorem inp (S : Sto) (x : D) (ys : List D) (hx : x.pure = true) (h : SeqAt.shaped x.py = true) (h' : SeqAt.shaped (.list (D.pys ys)) = true) : inW S (.d x) (.d (.tup ys)) = some ((D.pys ys).any fun z => PyData.eqv z x.py) := by
  rw [in_of S (by rw [y_d S x hx]; exact h) h', y_d S x hx]
theorem any_n {α : Type} (f : α → Bool) : List.any [] f = false := rfl
theorem any_c {α : Type} (f : α → Bool) (x : α) (xs : List α) : List.any (x :: xs) f = (f x || List.any xs f) := rfl
/-- all for comparisons -/
theorem evq : type_of% (And.intro @c_eq (And.intro @c_ne (And.intro @c_in (And.intro @c_ni (And.intro @eqp (And.intro @inp (And.intro @v_ii (And.intro @v_bb (And.intro @v_ss (And.intro @v_tt (And.intro @v_nt (And.intro @v_tn (And.intro @v_nn (And.intro @v_ni (And.intro @v_in (And.intro @va_nn (And.intro @va_cc (And.intro @va_nc (And.intro @va_cn (And.intro @y_int (And.intro @y_str (And.intro @y_bl (And.intro @y_non (And.intro @y_tup (And.intro @ys_n (And.intro @ys_c (And.intro @any_n @any_c))))))))))))))))))))))))))) :=
  (And.intro @c_eq (And.intro @c_ne (And.intro @c_in (And.intro @c_ni (And.intro @eqp (And.intro @inp (And.intro @v_ii (And.intro @v_bb (And.intro @v_ss (And.intro @v_tt (And.intro @v_nt (And.intro @v_tn (And.intro @v_nn (And.intro @v_ni (And.intro @v_in (And.intro @va_nn (And.intro @va_cc (And.intro @va_nc (And.intro @va_cn (And.intro @y_int (And.intro @y_str (And.intro @y_bl (And.intro @y_non (And.intro @y_tup (And.intro @ys_n (And.intro @ys_c (And.intro @any_n @any_c)))))))))))))))))))))))))))
example (S : Sto) (a b c d : Int) : eqW S (.d (.tup [.int a, .int b])) (.d (.tup [.int c, .int d])) = some (decide (a = c) && (decide (b = d) && true)) := by
  simp (disch := first | (refine @id _ ?_; with_unfolding_all rfl) | assumption | omega) only [evl, evq]
example (S : Sto) (a b c d : Int) : inW S (.d (.int a)) (.d (.tup [.int c, .int d])) = some (decide (c = a) || (decide (d = a) || false)) := by
  simp (disch := first | (refine @id _ ?_; with_unfolding_all rfl) | assumption | omega) only [evl, evq]
end Z

set_option Elab.async false
set_option linter.all false
set_option maxRecDepth 100000
/-! the program of law_machinehall_k53_whole_long_rows_and_many, printed by gen.py -/
namespace K53
open PySem PySem.Spec PyProof.Rows L2 Z
def topS (i : Nat) : Stmt := PySem.Challenge.pw_machinehall_k53_whole_long_rows_and_many.main.body.getD i (.Pass ⟨0, 0, 0, 0⟩)
def lp_check1 : Sm := (.cons (.ite (.cmp .notin (.var 2 "kind") (.tup (.cons (.glob "READ") (.cons (.glob "WRITE") (.cons (.glob "FENCE") (.cons (.glob "SWAP") .nil)))))) (.cons .raise .nil) .nil) (.cons (.ite (.or (.cons (.cmp .lt (.var 3 "place") (.cI 0)) (.cons (.and (.cons (.cmp .ne (.var 2 "kind") (.glob "READ")) (.cons (.cmp .ne (.var 2 "kind") (.glob "FENCE")) (.cons (.cmp .lt (.var 4 "value") (.cI 1)) .nil)))) .nil))) (.cons .raise .nil) .nil) .nil))
def lp_check2 : Sm := (.cons (.ite (.cmp .gt (.bi .len (.cons (.var 1 "program") .nil)) (.glob "MOST_STEPS")) (.cons .raise .nil) .nil) (.cons (.for (.tup (.cons (.nm 2 "kind") (.cons (.nm 3 "place") (.cons (.nm 4 "value") .nil)))) (.cons (.var 1 "program") .nil) lp_check1) .nil))
def s_check : Sm :=
  (.cons (.ite (.not (.chn .le .le (.cI 1) (.bi .len (.cons (.var 0 "programs") .nil)) (.glob "MOST_HANDS"))) (.cons .raise .nil) .nil)
  (.cons (.for (.nm 1 "program") (.cons (.var 0 "programs") .nil) lp_check2) .nil))
def d_check : Def := ⟨["programs", "program", "kind", "place", "value"], 1, true, s_check⟩
def s_start_of : Sm :=
  (.cons (.ret (.tup (.cons (.bin .mul (.tup (.cons (.cI 0) .nil)) (.bi .len (.cons (.var 0 "programs") .nil))) (.cons (.bin .mul (.tup (.cons (.tup .nil) .nil)) (.bi .len (.cons (.var 0 "programs") .nil))) (.cons (.tup .nil) (.cons (.bin .mul (.tup (.cons (.tup .nil) .nil)) (.bi .len (.cons (.var 0 "programs") .nil))) .nil)))))) .nil)
def d_start_of : Def := ⟨["programs"], 1, true, s_start_of⟩
def lp_known1 : Sm := (.cons (.ite (.cmp .eq (.var 2 "own") (.var 1 "place")) (.cons (.ret (.var 3 "value")) .nil) .nil) .nil)
def s_known : Sm :=
  (.cons (.for (.tup (.cons (.nm 2 "own") (.cons (.nm 3 "value") .nil))) (.cons (.var 0 "rows") .nil) lp_known1)
  (.cons (.ret (.cI 0)) .nil))
def d_known : Def := ⟨["rows", "place", "own", "value"], 2, true, s_known⟩
def ct_stored1 : E := (.cons (.cmp .ne (.ix (.var 4 "row") (.cI 0)) (.var 1 "place")) .nil)
def ce_stored1 : E := (.var 4 "row")
def s_stored : Sm :=
  (.cons (.asg (.nm 3 "rows") (.bin .add (.lc [("row", 4)] ce_stored1 (.nm 4 "row") (.cons (.var 0 "memory") .nil) ct_stored1) (.lst (.cons (.tup (.cons (.var 1 "place") (.cons (.var 2 "value") .nil))) .nil))))
  (.cons (.ret (.bi .tuple (.cons (.bi .sorted (.cons (.var 3 "rows") .nil)) .nil))) .nil))
def d_stored : Def := ⟨["memory", "place", "value", "rows", "row"], 3, true, s_stored⟩
def s_changed : Sm :=
  (.cons (.ret (.bin .add (.bin .add (.slc (.var 0 "rows") .nil (.cons (.var 1 "hand") .nil)) (.tup (.cons (.var 2 "one") .nil))) (.slc (.var 0 "rows") (.cons (.bin .add (.var 1 "hand") (.cI 1)) .nil) .nil))) .nil)
def d_changed : Def := ⟨["rows", "hand", "one"], 3, true, s_changed⟩
def ct_step_of1 : E := (.cons (.cmp .eq (.ix (.var 13 "row") (.cI 0)) (.var 9 "place")) .nil)
def ce_step_of1 : E := (.var 13 "row")
def s_step_of : Sm :=
  (.cons (.asg (.tup (.cons (.nm 4 "_") (.cons (.nm 5 "buffers") (.cons (.nm 6 "memory") (.cons (.nm 7 "reads") .nil))))) (.var 1 "state"))
  (.cons (.asg (.tup (.cons (.nm 8 "kind") (.cons (.nm 9 "place") (.cons (.nm 10 "value") .nil)))) (.var 0 "step"))
  (.cons (.ite (.cmp .eq (.var 8 "kind") (.glob "READ")) (.cons (.setLc 11 "own" [("row", 13)] ce_step_of1 (.nm 13 "row") (.cons (.ix (.var 5 "buffers") (.var 2 "hand")) .nil) ct_step_of1) (.cons (.asg (.nm 12 "told") (.ite (.tst (.var 11 "own")) (.ix (.ix (.var 11 "own") (.neg (.cI 1))) (.cI 1)) (.call "known" (.cons (.var 6 "memory") (.cons (.var 9 "place") .nil))))) (.cons (.ret (.tup (.cons (.var 5 "buffers") (.cons (.var 6 "memory") (.cons (.call "changed" (.cons (.var 7 "reads") (.cons (.var 2 "hand") (.cons (.bin .add (.ix (.var 7 "reads") (.var 2 "hand")) (.tup (.cons (.var 12 "told") .nil))) .nil)))) .nil))))) .nil))) .nil)
  (.cons (.ite (.cmp .eq (.var 8 "kind") (.glob "WRITE")) (.cons (.ite (.tst (.var 3 "is_buffered")) (.cons (.ret (.tup (.cons (.call "changed" (.cons (.var 5 "buffers") (.cons (.var 2 "hand") (.cons (.bin .add (.ix (.var 5 "buffers") (.var 2 "hand")) (.tup (.cons (.tup (.cons (.var 9 "place") (.cons (.var 10 "value") .nil))) .nil))) .nil)))) (.cons (.var 6 "memory") (.cons (.var 7 "reads") .nil))))) .nil) .nil) (.cons (.ret (.tup (.cons (.var 5 "buffers") (.cons (.call "stored" (.cons (.var 6 "memory") (.cons (.var 9 "place") (.cons (.var 10 "value") .nil)))) (.cons (.var 7 "reads") .nil))))) .nil)) .nil)
  (.cons (.ite (.tst (.ix (.var 5 "buffers") (.var 2 "hand"))) (.cons (.ret .cN) .nil) .nil)
  (.cons (.ite (.cmp .eq (.var 8 "kind") (.glob "FENCE")) (.cons (.ret (.tup (.cons (.var 5 "buffers") (.cons (.var 6 "memory") (.cons (.var 7 "reads") .nil))))) .nil) .nil)
  (.cons (.asg (.nm 12 "told") (.call "known" (.cons (.var 6 "memory") (.cons (.var 9 "place") .nil))))
  (.cons (.ret (.tup (.cons (.var 5 "buffers") (.cons (.call "stored" (.cons (.var 6 "memory") (.cons (.var 9 "place") (.cons (.var 10 "value") .nil)))) (.cons (.call "changed" (.cons (.var 7 "reads") (.cons (.var 2 "hand") (.cons (.bin .add (.ix (.var 7 "reads") (.var 2 "hand")) (.tup (.cons (.var 12 "told") .nil))) .nil)))) .nil))))) .nil))))))))
def d_step_of : Def := ⟨["step", "state", "hand", "is_buffered", "_", "buffers", "memory", "reads", "kind", "place", "value", "own", "told", "row"], 4, true, s_step_of⟩
def lt_race1 : E := (.tst (.var 3 "level"))
def lp_race1 : Sm := (.cons (.ite (.cmp .lt (.ix (.var 5 "places") (.var 6 "hand")) (.bi .len (.cons (.ix (.var 0 "programs") (.var 6 "hand")) .nil))) (.cons (.asg (.nm 7 "after") (.call "changed" (.cons (.var 5 "places") (.cons (.var 6 "hand") (.cons (.bin .add (.ix (.var 5 "places") (.var 6 "hand")) (.cI 1)) .nil))))) (.cons (.ite (.cmp .notin (.var 7 "after") (.var 2 "runs")) (.cons (.setd (.var 2 "runs") (.var 7 "after") (.bin .add (.dget (.var 2 "runs") (.var 5 "places")) (.tup (.cons (.var 6 "hand") .nil)))) (.cons (.expr (.app (.var 4 "following") (.var 7 "after"))) .nil)) .nil) .nil)) .nil) .nil)
def lp_race2 : Sm := (.cons (.ite (.tst (.call "clash" (.cons (.var 0 "programs") (.cons (.var 5 "places") .nil)))) (.cons (.ret (.dget (.var 2 "runs") (.var 5 "places"))) .nil) .nil) (.cons (.for (.nm 6 "hand") (.rng (.cons (.bi .len (.cons (.var 0 "programs") .nil)) .nil)) lp_race1) .nil))
def lp_race3 : Sm := (.cons (.asg (.nm 4 "following") (.lst .nil)) (.cons (.for (.nm 5 "places") (.cons (.var 3 "level") .nil) lp_race2) (.cons (.asg (.nm 3 "level") (.var 4 "following")) .nil)))
def s_race : Sm :=
  (.cons (.expr (.call "check" (.cons (.var 0 "programs") .nil)))
  (.cons (.asg (.nm 1 "start") (.bin .mul (.tup (.cons (.cI 0) .nil)) (.bi .len (.cons (.var 0 "programs") .nil))))
  (.cons (.asg (.nm 2 "runs") (.ddisp (.var 1 "start") (.tup .nil)))
  (.cons (.asg (.nm 3 "level") (.lst (.cons (.var 1 "start") .nil)))
  (.cons (.while lt_race1 lp_race3)
  (.cons (.ret .cN) .nil))))))
def d_race : Def := ⟨["programs", "start", "runs", "level", "following", "places", "hand", "after"], 1, true, s_race⟩
def ct_clash1 : E := (.cons (.cmp .lt (.var 8 "place") (.bi .len (.cons (.var 7 "program") .nil))) .nil)
def ce_clash1 : E := (.ix (.var 7 "program") (.var 8 "place"))
def lp_clash1 : Sm := (.cons (.asg (.nm 6 "kinds") (.tup (.cons (.ix (.var 4 "one") (.cI 0)) (.cons (.ix (.var 5 "other") (.cI 0)) .nil)))) (.cons (.ite (.and (.cons (.cmp .eq (.ix (.var 4 "one") (.cI 1)) (.ix (.var 5 "other") (.cI 1))) (.cons (.cmp .notin (.glob "FENCE") (.var 6 "kinds")) (.cons (.cmp .ne (.var 6 "kinds") (.tup (.cons (.glob "SWAP") (.cons (.glob "SWAP") .nil)))) (.cons (.cmp .ne (.var 6 "kinds") (.tup (.cons (.glob "READ") (.cons (.glob "READ") .nil)))) .nil))))) (.cons (.ret (.cB true)) .nil) .nil) .nil))
def lp_clash2 : Sm := (.cons (.for (.nm 5 "other") (.cons (.slc (.var 2 "nexts") (.cons (.bin .add (.var 3 "k") (.cI 1)) .nil) .nil) .nil) lp_clash1) .nil)
def s_clash : Sm :=
  (.cons (.setLc 2 "nexts" [("program", 7), ("place", 8)] ce_clash1 (.tup (.cons (.nm 7 "program") (.cons (.nm 8 "place") .nil))) (.zip (.var 0 "programs") (.var 1 "places")) ct_clash1)
  (.cons (.for (.tup (.cons (.nm 3 "k") (.cons (.nm 4 "one") .nil))) (.enm (.var 2 "nexts")) lp_clash2)
  (.cons (.ret (.cB false)) .nil)))
def d_clash : Def := ⟨["programs", "places", "nexts", "k", "one", "other", "kinds", "program", "place"], 2, true, s_clash⟩
def lp_run_in_order1 : Sm := (.cons (.ite (.or (.cons (.not (.chn .le .lt (.cI 0) (.var 3 "hand") (.bi .len (.cons (.var 0 "programs") .nil)))) (.cons (.cmp .eq (.ix (.ix (.var 2 "state") (.cI 0)) (.var 3 "hand")) (.bi .len (.cons (.ix (.var 0 "programs") (.var 3 "hand")) .nil))) .nil))) (.cons (.ret .cN) .nil) .nil) (.cons (.asg (.nm 4 "after") (.call "step_of" (.cons (.ix (.ix (.var 0 "programs") (.var 3 "hand")) (.ix (.ix (.var 2 "state") (.cI 0)) (.var 3 "hand"))) (.cons (.var 2 "state") (.cons (.var 3 "hand") (.cons (.cB false) .nil)))))) (.cons (.asg (.nm 2 "state") (.bin .add (.tup (.cons (.call "changed" (.cons (.ix (.var 2 "state") (.cI 0)) (.cons (.var 3 "hand") (.cons (.bin .add (.ix (.ix (.var 2 "state") (.cI 0)) (.var 3 "hand")) (.cI 1)) .nil)))) .nil)) (.var 4 "after"))) .nil)))
def ce_run_in_order1 : E := (.bi .len (.cons (.var 5 "program") .nil))
def s_run_in_order : Sm :=
  (.cons (.expr (.call "check" (.cons (.var 0 "programs") .nil)))
  (.cons (.asg (.nm 2 "state") (.call "start_of" (.cons (.var 0 "programs") .nil)))
  (.cons (.for (.nm 3 "hand") (.cons (.var 1 "row") .nil) lp_run_in_order1)
  (.cons (.ite (.cmp .ne (.lc [("program", 5)] ce_run_in_order1 (.nm 5 "program") (.cons (.var 0 "programs") .nil) .nil) (.bi .list (.cons (.ix (.var 2 "state") (.cI 0)) .nil))) (.cons (.ret .cN) .nil) .nil)
  (.cons (.ret (.tup (.cons (.ix (.var 2 "state") (.cI 3)) (.cons (.ix (.var 2 "state") (.cI 2)) .nil)))) .nil)))))
def d_run_in_order : Def := ⟨["programs", "row", "state", "hand", "after", "program"], 2, true, s_run_in_order⟩
def lt_order_for1 : E := (.tst (.var 2 "waiting"))
def ce_order_for1 : E := (.bi .len (.cons (.var 8 "program") .nil))
def lp_order_for1 : Sm := (.cons (.ite (.cmp .lt (.ix (.ix (.var 5 "state") (.cI 0)) (.var 6 "hand")) (.bi .len (.cons (.ix (.var 0 "programs") (.var 6 "hand")) .nil))) (.cons (.asg (.nm 7 "after") (.call "step_of" (.cons (.ix (.ix (.var 0 "programs") (.var 6 "hand")) (.ix (.ix (.var 5 "state") (.cI 0)) (.var 6 "hand"))) (.cons (.var 5 "state") (.cons (.var 6 "hand") (.cons (.cB false) .nil)))))) (.cons (.ite (.tst (.call "is_so_far" (.cons (.ix (.var 7 "after") (.cI 2)) (.cons (.var 1 "end") .nil)))) (.cons (.expr (.app (.var 2 "waiting") (.tup (.cons (.bin .add (.var 4 "row") (.tup (.cons (.var 6 "hand") .nil))) (.cons (.bin .add (.tup (.cons (.call "changed" (.cons (.ix (.var 5 "state") (.cI 0)) (.cons (.var 6 "hand") (.cons (.bin .add (.ix (.ix (.var 5 "state") (.cI 0)) (.var 6 "hand")) (.cI 1)) .nil)))) .nil)) (.var 7 "after")) .nil))))) .nil) .nil) .nil)) .nil) .nil)
def lp_order_for2 : Sm := (.cons (.asg (.tup (.cons (.nm 4 "row") (.cons (.nm 5 "state") .nil))) (.mth .pop0 (.var 2 "waiting") .nil)) (.cons (.ite (.cmp .eq (.bi .len (.cons (.var 4 "row") .nil)) (.bi .sum (.cons (.lc [("program", 8)] ce_order_for1 (.nm 8 "program") (.cons (.var 0 "programs") .nil) .nil) .nil))) (.cons (.ite (.cmp .eq (.tup (.cons (.ix (.var 5 "state") (.cI 3)) (.cons (.ix (.var 5 "state") (.cI 2)) .nil))) (.var 1 "end")) (.cons (.ret (.var 4 "row")) .nil) .nil) (.cons .cnt .nil)) .nil) (.cons (.ite (.cmp .inn (.var 5 "state") (.var 3 "seen")) (.cons .cnt .nil) .nil) (.cons (.setd (.var 3 "seen") (.var 5 "state") (.cB true)) (.cons (.for (.nm 6 "hand") (.rng (.cons (.bin .sub (.bi .len (.cons (.var 0 "programs") .nil)) (.cI 1)) (.cons (.neg (.cI 1)) (.cons (.neg (.cI 1)) .nil)))) lp_order_for1) .nil)))))
def s_order_for : Sm :=
  (.cons (.expr (.call "check" (.cons (.var 0 "programs") .nil)))
  (.cons (.asg (.nm 2 "waiting") (.lst (.cons (.tup (.cons (.tup .nil) (.cons (.call "start_of" (.cons (.var 0 "programs") .nil)) .nil))) .nil)))
  (.cons (.asg (.nm 3 "seen") (.dnew true))
  (.cons (.while lt_order_for1 lp_order_for2)
  (.cons (.ret .cN) .nil)))))
def d_order_for : Def := ⟨["programs", "end", "waiting", "seen", "row", "state", "hand", "after", "program"], 2, true, s_order_for⟩
def ce_is_so_far1 : E := (.cmp .eq (.var 2 "own") (.slc (.var 3 "told") .nil (.cons (.bi .len (.cons (.var 2 "own") .nil)) .nil)))
def s_is_so_far : Sm :=
  (.cons (.ret (.and (.cons (.cmp .eq (.bi .len (.cons (.ix (.var 1 "end") (.cI 0)) .nil)) (.bi .len (.cons (.var 0 "reads") .nil))) (.cons (.bi .all (.cons (.lc [("own", 2), ("told", 3)] ce_is_so_far1 (.tup (.cons (.nm 2 "own") (.cons (.nm 3 "told") .nil))) (.zip (.var 0 "reads") (.ix (.var 1 "end") (.cI 0))) .nil) .nil)) .nil)))) .nil)
def d_is_so_far : Def := ⟨["reads", "end", "own", "told"], 2, true, s_is_so_far⟩
def lp_check_web1 : Sm := (.cons (.ite (.not (.chn3 .le .lt .lt (.cI 0) (.var 2 "one") (.var 3 "other") (.var 0 "many"))) (.cons .raise .nil) .nil) .nil)
def s_check_web : Sm :=
  (.cons (.ite (.not (.chn .le .le (.cI 0) (.var 0 "many") (.glob "MOST_VALUES"))) (.cons .raise .nil) .nil)
  (.cons (.for (.tup (.cons (.nm 2 "one") (.cons (.nm 3 "other") .nil))) (.cons (.var 1 "pairs") .nil) lp_check_web1) .nil))
def d_check_web : Def := ⟨["many", "pairs", "one", "other"], 2, true, s_check_web⟩
def ct_colour1 : E := (.cons (.cmp .inn (.tup (.cons (.var 9 "other") (.cons (.var 8 "one") .nil))) (.var 1 "pairs")) .nil)
def ce_colour1 : E := (.var 9 "other")
def ce_colour2 : E := (.lc [("other", 9)] ce_colour1 (.nm 9 "other") (.rng (.cons (.var 8 "one") .nil)) ct_colour1)
def lt_colour1 : E := (.cmp .lt (.bi .len (.cons (.var 4 "row") .nil)) (.var 0 "many"))
def ce_colour3 : E := (.ix (.var 4 "row") (.var 9 "other"))
def ct_colour2 : E := (.cons (.cmp .notin (.var 8 "one") (.var 6 "used")) .nil)
def ce_colour4 : E := (.var 8 "one")
def lp_colour1 : Sm := (.cons (.asg (.nm 6 "used") (.lc [("other", 9)] ce_colour3 (.nm 9 "other") (.cons (.ix (.var 3 "near") (.bi .len (.cons (.var 4 "row") .nil))) .nil) .nil)) (.cons (.setLc 7 "free" [("one", 8)] ce_colour4 (.nm 8 "one") (.rng (.cons (.var 5 "least") (.cons (.bi .min (.cons (.var 2 "colours") (.cons (.var 0 "many") .nil))) .nil))) ct_colour2) (.cons (.ite (.tst (.var 7 "free")) (.cons (.expr (.app (.var 4 "row") (.ix (.var 7 "free") (.cI 0)))) (.cons (.asg (.nm 5 "least") (.cI 0)) .nil)) (.cons (.ite (.tst (.var 4 "row")) (.cons (.asg (.nm 5 "least") (.bin .add (.mth .pop0 (.var 4 "row") .nil) (.cI 1))) .nil) (.cons (.ret .cN) .nil)) .nil)) .nil)))
def s_colour : Sm :=
  (.cons (.expr (.call "check_web" (.cons (.var 0 "many") (.cons (.var 1 "pairs") .nil))))
  (.cons (.ite (.cmp .lt (.var 2 "colours") (.cI 0)) (.cons .raise .nil) .nil)
  (.cons (.setLc 3 "near" [("one", 8), ("other", 9)] ce_colour2 (.nm 8 "one") (.rng (.cons (.var 0 "many") .nil)) .nil)
  (.cons (.asg (.nm 4 "row") (.lst .nil))
  (.cons (.asg (.nm 5 "least") (.cI 0))
  (.cons (.while lt_colour1 lp_colour1)
  (.cons (.ret (.bi .tuple (.cons (.var 4 "row") .nil))) .nil)))))))
def d_colour : Def := ⟨["many", "pairs", "colours", "near", "row", "least", "used", "free", "one", "other"], 3, true, s_colour⟩
def lp_law_begin1 : Sm := (.cons (.asg (.nm 1 "seed") (.bin .mod (.bin .add (.bin .add (.bin .mul (.var 1 "seed") (.cI 69621)) (.bin .mod (.bi .int (.cons (.var 2 "cell") .nil)) (.cI 2147483629))) (.cI 7)) (.cI 2147483647))) .nil)
def s_law_begin : Sm :=
  (.cons (.asg (.nm 1 "seed") (.cI 1))
  (.cons (.for (.nm 2 "cell") (.cons (.var 0 "script") .nil) lp_law_begin1)
  (.cons (.ret (.lst (.cons (.bi .list (.cons (.var 0 "script") .nil)) (.cons (.cI 0) (.cons (.cI 0) (.cons (.var 1 "seed") .nil)))))) .nil)))
def d_law_begin : Def := ⟨["script", "seed", "cell"], 1, false, s_law_begin⟩
def s_law_take : Sm :=
  (.cons (.ite (.and (.cons (.cmp .eq (.ix (.var 0 "d") (.cI 2)) (.cI 0)) (.cons (.cmp .lt (.ix (.var 0 "d") (.cI 1)) (.bi .len (.cons (.ix (.var 0 "d") (.cI 0)) .nil))) .nil))) (.cons (.seti (.var 0 "d") (.cI 2) (.bi .abs (.cons (.bi .int (.cons (.ix (.ix (.var 0 "d") (.cI 0)) (.ix (.var 0 "d") (.cI 1))) .nil)) .nil))) (.cons (.seti (.var 0 "d") (.cI 1) (.bin .add (.ix (.var 0 "d") (.cI 1)) (.cI 1))) (.cons (.ite (.cmp .lt (.ix (.var 0 "d") (.cI 2)) (.bin .pow (.cI 10) (.cI 18))) (.cons (.asg (.nm 2 "small") (.bi .int (.cons (.ix (.var 0 "d") (.cI 2)) .nil))) (.cons (.seti (.var 0 "d") (.cI 2) (.cI 0)) (.cons (.ret (.bin .mod (.var 2 "small") (.var 1 "many"))) .nil))) .nil) .nil))) .nil)
  (.cons (.ite (.cmp .gt (.ix (.var 0 "d") (.cI 2)) (.cI 0)) (.cons (.asg (.nm 3 "digit") (.bin .mod (.bi .int (.cons (.ix (.var 0 "d") (.cI 2)) .nil)) (.var 1 "many"))) (.cons (.seti (.var 0 "d") (.cI 2) (.bin .fdiv (.bi .int (.cons (.ix (.var 0 "d") (.cI 2)) .nil)) (.var 1 "many"))) (.cons (.ret (.var 3 "digit")) .nil))) .nil)
  (.cons (.seti (.var 0 "d") (.cI 3) (.bin .mod (.bi .int (.cons (.bin .add (.bin .mul (.ix (.var 0 "d") (.cI 3)) (.cI 48271)) (.cI 11)) .nil)) (.cI 2147483647)))
  (.cons (.ret (.bin .mod (.bi .int (.cons (.bin .fdiv (.ix (.var 0 "d") (.cI 3)) (.cI 3)) .nil)) (.var 1 "many"))) .nil))))
def d_law_take : Def := ⟨["d", "many", "small", "digit"], 2, true, s_law_take⟩
def s_law_pick : Sm :=
  (.cons (.ret (.ix (.var 1 "menu") (.call "_law_take" (.cons (.var 0 "d") (.cons (.bi .len (.cons (.var 1 "menu") .nil)) .nil))))) .nil)
def d_law_pick : Def := ⟨["d", "menu"], 2, true, s_law_pick⟩
def lp_law_programs1 : Sm := (.cons (.asg (.nm 7 "place") (.ite (.cmp .gt (.call "_law_take" (.cons (.var 0 "d") (.cons (.cI 4) .nil))) (.cI 0)) (.bin .add (.call "_law_take" (.cons (.var 0 "d") (.cons (.cI 2) .nil))) (.bin .mul (.bin .mul (.cI 2) (.var 4 "hand")) (.var 2 "apart"))) (.cI 0))) (.cons (.expr (.app (.var 5 "steps") (.tup (.cons (.ix (.var 1 "kinds") (.call "_law_take" (.cons (.var 0 "d") (.cons (.bi .len (.cons (.var 1 "kinds") .nil)) .nil)))) (.cons (.var 7 "place") (.cons (.bin .add (.bin .add (.cI 1) (.var 6 "k")) (.bin .mul (.cI 10) (.var 4 "hand"))) .nil)))))) .nil))
def lp_law_programs2 : Sm := (.cons (.asg (.nm 5 "steps") (.lst .nil)) (.cons (.for (.nm 6 "k") (.rng (.cons (.call "_law_pick" (.cons (.var 0 "d") (.cons (.lst (.cons (.cI 6) (.cons (.cI 6) (.cons (.cI 5) (.cons (.cI 3) (.cons (.cI 1) (.cons (.cI 0) .nil))))))) .nil))) .nil)) lp_law_programs1) (.cons (.expr (.app (.var 3 "found") (.bi .tuple (.cons (.var 5 "steps") .nil)))) .nil)))
def s_law_programs : Sm :=
  (.cons (.asg (.nm 1 "kinds") (.call "_law_pick" (.cons (.var 0 "d") (.cons (.lst (.cons (.cS "x") (.cons (.cS "xf") (.cons (.cS "rwxf") (.cons (.cS "xxxrw") (.cons (.cS "r") .nil)))))) .nil))))
  (.cons (.asg (.nm 2 "apart") (.call "_law_take" (.cons (.var 0 "d") (.cons (.cI 2) .nil))))
  (.cons (.asg (.nm 3 "found") (.lst .nil))
  (.cons (.for (.nm 4 "hand") (.rng (.cons (.bin .add (.cI 1) (.call "_law_take" (.cons (.var 0 "d") (.cons (.cI 3) .nil)))) .nil)) lp_law_programs2)
  (.cons (.ret (.bi .tuple (.cons (.var 3 "found") .nil))) .nil)))))
def d_law_programs : Def := ⟨["d", "kinds", "apart", "found", "hand", "steps", "k", "place"], 1, true, s_law_programs⟩
def lt_law_race1 : E := (.cmp .gt (.bi .len (.cons (.var 1 "level") .nil)) (.cI 0))
def ct_law_race1 : E := (.cons (.cmp .lt (.ix (.var 5 "places") (.var 7 "k")) (.bi .len (.cons (.ix (.var 0 "programs") (.var 7 "k")) .nil))) .nil)
def ce_law_race1 : E := (.ix (.ix (.var 0 "programs") (.var 7 "k")) (.ix (.var 5 "places") (.var 7 "k")))
def lp_law_race1 : Sm := (.cons (.asg (.nm 9 "kinds") (.bi .sorted (.cons (.lst (.cons (.ix (.ix (.var 6 "nexts") (.var 7 "k")) (.cI 0)) (.cons (.ix (.ix (.var 6 "nexts") (.var 8 "j")) (.cI 0)) .nil))) .nil))) (.cons (.ite (.and (.cons (.cmp .eq (.ix (.ix (.var 6 "nexts") (.var 7 "k")) (.cI 1)) (.ix (.ix (.var 6 "nexts") (.var 8 "j")) (.cI 1))) (.cons (.cmp .notin (.cS "f") (.var 9 "kinds")) (.cons (.cmp .ne (.var 9 "kinds") (.lst (.cons (.cS "r") (.cons (.cS "r") .nil)))) (.cons (.cmp .ne (.var 9 "kinds") (.lst (.cons (.cS "x") (.cons (.cS "x") .nil)))) .nil))))) (.cons (.ret (.var 4 "row")) .nil) .nil) .nil))
def lp_law_race2 : Sm := (.cons (.for (.nm 8 "j") (.rng (.cons (.var 7 "k") .nil)) lp_law_race1) .nil)
def lp_law_race3 : Sm := (.cons (.asg (.nm 10 "told") (.bin .add (.bin .add (.slc (.var 5 "places") .nil (.cons (.var 7 "k") .nil)) (.tup (.cons (.bin .add (.ix (.var 5 "places") (.var 7 "k")) (.cI 1)) .nil))) (.slc (.var 5 "places") (.cons (.bin .add (.var 7 "k") (.cI 1)) .nil) .nil))) (.cons (.ite (.and (.cons (.cmp .lt (.ix (.var 5 "places") (.var 7 "k")) (.bi .len (.cons (.ix (.var 0 "programs") (.var 7 "k")) .nil))) (.cons (.cmp .notin (.var 10 "told") (.var 2 "seen")) .nil))) (.cons (.setd (.var 2 "seen") (.var 10 "told") (.cB true)) (.cons (.expr (.app (.var 3 "after") (.tup (.cons (.bin .add (.var 4 "row") (.tup (.cons (.var 7 "k") .nil))) (.cons (.var 10 "told") .nil))))) .nil)) .nil) .nil))
def lp_law_race4 : Sm := (.cons (.setLc 6 "nexts" [("k", 7)] ce_law_race1 (.nm 7 "k") (.rng (.cons (.bi .len (.cons (.var 0 "programs") .nil)) .nil)) ct_law_race1) (.cons (.for (.nm 7 "k") (.rng (.cons (.bi .len (.cons (.var 6 "nexts") .nil)) .nil)) lp_law_race2) (.cons (.for (.nm 7 "k") (.rng (.cons (.bi .len (.cons (.var 0 "programs") .nil)) .nil)) lp_law_race3) .nil)))
def lp_law_race5 : Sm := (.cons (.asg (.nm 3 "after") (.lst .nil)) (.cons (.for (.tup (.cons (.nm 4 "row") (.cons (.nm 5 "places") .nil))) (.cons (.var 1 "level") .nil) lp_law_race4) (.cons (.asg (.nm 1 "level") (.var 3 "after")) .nil)))
def s_law_race : Sm :=
  (.cons (.par2 1 "level" 2 "seen" (.cons (.lst (.cons (.tup (.cons (.tup .nil) (.cons (.bin .mul (.tup (.cons (.cI 0) .nil)) (.bi .len (.cons (.var 0 "programs") .nil))) .nil))) .nil)) (.cons (.dnew true) .nil)))
  (.cons (.while lt_law_race1 lp_law_race5)
  (.cons (.ret .cN) .nil)))
def d_law_race : Def := ⟨["programs", "level", "seen", "after", "row", "places", "nexts", "k", "j", "kinds", "told"], 1, true, s_law_race⟩
def s_law_step : Sm :=
  (.cons (.asg (.tup (.cons (.nm 3 "kind") (.cons (.nm 4 "place") (.cons (.nm 5 "value") .nil)))) (.var 0 "step"))
  (.cons (.asg (.nm 6 "told") (.dct false (.var 1 "cells")))
  (.cons (.ite (.cmp .inn (.var 3 "kind") (.tup (.cons (.cS "r") (.cons (.cS "x") .nil)))) (.cons (.asg (.nm 2 "reads") (.bin .add (.var 2 "reads") (.tup (.cons (.mth .get2 (.var 6 "told") (.cons (.var 4 "place") (.cons (.cI 0) .nil))) .nil)))) .nil) .nil)
  (.cons (.ite (.cmp .inn (.var 3 "kind") (.tup (.cons (.cS "w") (.cons (.cS "x") .nil)))) (.cons (.setd (.var 6 "told") (.var 4 "place") (.var 5 "value")) .nil) .nil)
  (.cons (.ret (.tup (.cons (.bi .tuple (.cons (.sitm (.var 6 "told")) .nil)) (.cons (.var 2 "reads") .nil)))) .nil)))))
def d_law_step : Def := ⟨["step", "cells", "reads", "kind", "place", "value", "told"], 3, true, s_law_step⟩
def ce_law_least1 : E := (.bi .len (.cons (.var 12 "program") .nil))
def lt_law_least1 : E := (.cmp .gt (.bi .len (.cons (.var 3 "waiting") .nil)) (.cI 0))
def lp_law_least1 : Sm := (.cons (.ite (.cmp .lt (.ix (.var 6 "places") (.var 9 "k")) (.bi .len (.cons (.ix (.var 0 "programs") (.var 9 "k")) .nil))) (.cons (.asg (.tup (.cons (.nm 10 "after") (.cons (.nm 11 "own") .nil))) (.call "_law_step" (.cons (.ix (.ix (.var 0 "programs") (.var 9 "k")) (.ix (.var 6 "places") (.var 9 "k"))) (.cons (.var 7 "cells") (.cons (.ix (.var 8 "reads") (.var 9 "k")) .nil))))) (.cons (.ite (.cmp .eq (.var 11 "own") (.slc (.ix (.ix (.var 1 "end") (.cI 0)) (.var 9 "k")) .nil (.cons (.bi .len (.cons (.var 11 "own") .nil)) .nil))) (.cons (.expr (.app (.var 3 "waiting") (.tup (.cons (.bin .add (.var 5 "row") (.tup (.cons (.var 9 "k") .nil))) (.cons (.bin .add (.bin .add (.slc (.var 6 "places") .nil (.cons (.var 9 "k") .nil)) (.tup (.cons (.bin .add (.ix (.var 6 "places") (.var 9 "k")) (.cI 1)) .nil))) (.slc (.var 6 "places") (.cons (.bin .add (.var 9 "k") (.cI 1)) .nil) .nil)) (.cons (.var 10 "after") (.cons (.bin .add (.bin .add (.slc (.var 8 "reads") .nil (.cons (.var 9 "k") .nil)) (.tup (.cons (.var 11 "own") .nil))) (.slc (.var 8 "reads") (.cons (.bin .add (.var 9 "k") (.cI 1)) .nil) .nil)) .nil))))))) .nil) .nil) .nil)) .nil) .nil)
def lp_law_least2 : Sm := (.cons (.asg (.tup (.cons (.nm 5 "row") (.cons (.nm 6 "places") (.cons (.nm 7 "cells") (.cons (.nm 8 "reads") .nil))))) (.mth .pop0 (.var 3 "waiting") .nil)) (.cons (.ite (.and (.cons (.cmp .eq (.bi .len (.cons (.var 5 "row") .nil)) (.var 2 "many")) (.cons (.cmp .eq (.tup (.cons (.var 8 "reads") (.cons (.var 7 "cells") .nil))) (.var 1 "end")) .nil))) (.cons (.ret (.var 5 "row")) .nil) .nil) (.cons (.ite (.cmp .inn (.tup (.cons (.var 6 "places") (.cons (.var 7 "cells") .nil))) (.var 4 "seen")) (.cons .cnt .nil) .nil) (.cons (.setd (.var 4 "seen") (.tup (.cons (.var 6 "places") (.cons (.var 7 "cells") .nil))) (.cB true)) (.cons (.for (.nm 9 "k") (.cons (.rev (.lrng false (.cons (.bi .len (.cons (.var 0 "programs") .nil)) .nil))) .nil) lp_law_least1) .nil)))))
def s_law_least : Sm :=
  (.cons (.asg (.nm 2 "many") (.bi .sum (.cons (.lc [("program", 12)] ce_law_least1 (.nm 12 "program") (.cons (.var 0 "programs") .nil) .nil) .nil)))
  (.cons (.par2 3 "waiting" 4 "seen" (.cons (.lst (.cons (.tup (.cons (.tup .nil) (.cons (.bin .mul (.tup (.cons (.cI 0) .nil)) (.bi .len (.cons (.var 0 "programs") .nil))) (.cons (.tup .nil) (.cons (.bin .mul (.tup (.cons (.tup .nil) .nil)) (.bi .len (.cons (.var 0 "programs") .nil))) .nil))))) .nil)) (.cons (.dnew true) .nil)))
  (.cons (.while lt_law_least1 lp_law_least2)
  (.cons (.ret .cN) .nil))))
def d_law_least : Def := ⟨["programs", "end", "many", "waiting", "seen", "row", "places", "cells", "reads", "k", "after", "own", "program"], 2, true, s_law_least⟩
def lp_law_memory_right1 : Sm := (.cons (.expr (.mth .ext (.var 2 "row") (.cons (.bin .mul (.lst (.cons (.var 3 "k") .nil)) (.bi .len (.cons (.ix (.var 1 "programs") (.var 3 "k")) .nil))) .nil))) .nil)
def lp_law_memory_right2 : Sm := (.cons (.asg (.nm 4 "j") (.call "_law_take" (.cons (.var 0 "d") (.cons (.bi .len (.cons (.var 2 "row") .nil)) .nil)))) (.cons (.swp (.var 2 "row") (.var 3 "k") (.var 2 "row") (.var 4 "j") (.tup (.cons (.ix (.var 2 "row") (.var 4 "j")) (.cons (.ix (.var 2 "row") (.var 3 "k")) .nil)))) .nil))
def ce_law_memory_right1 : E := (.bin .add (.var 13 "own") (.tup (.cons (.cI 0) .nil)))
def ce_law_memory_right2 : E := (.cmp .notN (.call "order_for" (.cons (.var 1 "programs") (.cons (.var 14 "one") .nil))) .cN)
def s_law_memory_right : Sm :=
  (.cons (.asg (.nm 1 "programs") (.call "_law_programs" (.cons (.var 0 "d") .nil)))
  (.cons (.ite (.cmp .ne (.call "race" (.cons (.var 1 "programs") .nil)) (.call "_law_race" (.cons (.var 1 "programs") .nil))) (.cons (.ret (.cB false)) .nil) .nil)
  (.cons (.asg (.nm 2 "row") (.lst .nil))
  (.cons (.for (.nm 3 "k") (.rng (.cons (.bi .len (.cons (.var 1 "programs") .nil)) .nil)) lp_law_memory_right1)
  (.cons (.for (.nm 3 "k") (.rng (.cons (.bi .len (.cons (.var 2 "row") .nil)) .nil)) lp_law_memory_right2)
  (.cons (.asg (.nm 5 "end") (.call "run_in_order" (.cons (.var 1 "programs") (.cons (.bi .tuple (.cons (.var 2 "row") .nil)) .nil))))
  (.cons (.asg (.nm 6 "told") (.call "order_for" (.cons (.var 1 "programs") (.cons (.var 5 "end") .nil))))
  (.cons (.ite (.or (.cons (.cmp .ne (.var 6 "told") (.call "_law_least" (.cons (.var 1 "programs") (.cons (.var 5 "end") .nil)))) (.cons (.cmp .gt (.var 6 "told") (.bi .tuple (.cons (.var 2 "row") .nil))) (.cons (.cmp .ne (.call "run_in_order" (.cons (.var 1 "programs") (.cons (.var 6 "told") .nil))) (.var 5 "end")) .nil)))) (.cons (.ret (.cB false)) .nil) .nil)
  (.cons (.asg (.tup (.cons (.nm 7 "reads") (.cons (.nm 8 "cells") .nil))) (.var 5 "end"))
  (.cons (.asg (.nm 9 "bent") (.lst (.cons (.tup (.cons (.bin .add (.var 7 "reads") (.tup (.cons (.tup .nil) .nil))) (.cons (.var 8 "cells") .nil))) (.cons (.tup (.cons (.slc (.var 7 "reads") .nil (.cons (.neg (.cI 1)) .nil)) (.cons (.var 8 "cells") .nil))) (.cons (.tup (.cons (.var 7 "reads") (.cons (.bin .add (.var 8 "cells") (.tup (.cons (.tup (.cons (.cI 99) (.cons (.cI 1) .nil))) .nil))) .nil))) (.cons (.tup (.cons (.bi .tuple (.cons (.lc [("own", 13)] ce_law_memory_right1 (.nm 13 "own") (.cons (.var 7 "reads") .nil) .nil) .nil)) (.cons (.var 8 "cells") .nil))) .nil))))))
  (.cons (.asg (.nm 10 "hand") (.call "_law_take" (.cons (.var 0 "d") (.cons (.bi .len (.cons (.var 1 "programs") .nil)) .nil))))
  (.cons (.ite (.cmp .gt (.bi .len (.cons (.ix (.var 7 "reads") (.var 10 "hand")) .nil)) (.cI 0)) (.cons (.asg (.nm 3 "k") (.call "_law_take" (.cons (.var 0 "d") (.cons (.bi .len (.cons (.ix (.var 7 "reads") (.var 10 "hand")) .nil)) .nil)))) (.cons (.asg (.nm 11 "value") (.call "_law_pick" (.cons (.var 0 "d") (.cons (.lst (.cons (.cI 0) (.cons (.cI 1) (.cons (.cI 2) (.cons (.cI 11) (.cons (.cI 77) .nil)))))) .nil)))) (.cons (.asg (.nm 12 "other") (.bin .add (.bin .add (.slc (.var 7 "reads") .nil (.cons (.var 10 "hand") .nil)) (.tup (.cons (.bin .add (.bin .add (.slc (.ix (.var 7 "reads") (.var 10 "hand")) .nil (.cons (.var 3 "k") .nil)) (.tup (.cons (.var 11 "value") .nil))) (.slc (.ix (.var 7 "reads") (.var 10 "hand")) (.cons (.bin .add (.var 3 "k") (.cI 1)) .nil) .nil)) .nil))) (.slc (.var 7 "reads") (.cons (.bin .add (.var 10 "hand") (.cI 1)) .nil) .nil))) (.cons (.ite (.cmp .ne (.call "order_for" (.cons (.var 1 "programs") (.cons (.tup (.cons (.var 12 "other") (.cons (.var 8 "cells") .nil))) .nil))) (.call "_law_least" (.cons (.var 1 "programs") (.cons (.tup (.cons (.var 12 "other") (.cons (.var 8 "cells") .nil))) .nil)))) (.cons (.ret (.cB false)) .nil) .nil) .nil)))) .nil)
  (.cons (.ret (.not (.bi .any (.cons (.lc [("one", 14)] ce_law_memory_right2 (.nm 14 "one") (.cons (.var 9 "bent") .nil) .nil) .nil)))) .nil)))))))))))))
def d_law_memory_right : Def := ⟨["d", "programs", "row", "k", "j", "end", "told", "reads", "cells", "bent", "hand", "value", "other", "own", "one"], 1, true, s_law_memory_right⟩
def ct_law_colours_right1 : E := (.cons (.cmp .gt (.call "_law_take" (.cons (.var 0 "d") (.cons (.cI 3) .nil))) (.cI 0)) .nil)
def ce_law_colours_right1 : E := (.tup (.cons (.var 7 "j") (.cons (.var 3 "k") .nil)))
def lp_law_colours_right1 : Sm := (.cons (.expr (.mth .ext (.var 2 "pairs") (.cons (.lc [("j", 7)] ce_law_colours_right1 (.nm 7 "j") (.rng (.cons (.var 3 "k") .nil)) ct_law_colours_right1) .nil))) .nil)
def ct_law_colours_right2 : E := (.cons (.cmp .eq (.var 8 "other") (.var 3 "k")) .nil)
def ce_law_colours_right2 : E := (.ix (.var 4 "due") (.var 7 "j"))
def ct_law_colours_right3 : E := (.cons (.cmp .notin (.var 9 "one") (.var 5 "used")) .nil)
def ce_law_colours_right3 : E := (.var 9 "one")
def lp_law_colours_right2 : Sm := (.cons (.asg (.nm 5 "used") (.lc [("j", 7), ("other", 8)] ce_law_colours_right2 (.tup (.cons (.nm 7 "j") (.cons (.nm 8 "other") .nil))) (.cons (.var 2 "pairs") .nil) ct_law_colours_right2)) (.cons (.expr (.app (.var 4 "due") (.bi .min (.cons (.lc [("one", 9)] ce_law_colours_right3 (.nm 9 "one") (.rng (.cons (.var 1 "many") .nil)) ct_law_colours_right3) .nil)))) .nil))
def lp_law_colours_right3 : Sm := (.cons (.ite (.cmp .ne (.call "colour" (.cons (.var 1 "many") (.cons (.bi .tuple (.cons (.var 2 "pairs") .nil)) (.cons (.var 6 "more") .nil)))) (.bi .tuple (.cons (.var 4 "due") .nil))) (.cons (.ret (.cB false)) .nil) .nil) .nil)
def s_law_colours_right : Sm :=
  (.cons (.asg (.nm 1 "many") (.call "_law_take" (.cons (.var 0 "d") (.cons (.cI 9) .nil))))
  (.cons (.asg (.nm 2 "pairs") (.lst .nil))
  (.cons (.for (.nm 3 "k") (.rng (.cons (.var 1 "many") .nil)) lp_law_colours_right1)
  (.cons (.asg (.nm 4 "due") (.lst .nil))
  (.cons (.for (.nm 3 "k") (.rng (.cons (.var 1 "many") .nil)) lp_law_colours_right2)
  (.cons (.for (.nm 6 "more") (.cons (.lst (.cons (.var 1 "many") (.cons (.bin .add (.var 1 "many") (.cI 1)) (.cons (.cI 1000) (.cons (.bin .pow (.cI 10) (.cI 30)) .nil))))) .nil) lp_law_colours_right3)
  (.cons (.ret (.cB true)) .nil)))))))
def d_law_colours_right : Def := ⟨["d", "many", "pairs", "k", "due", "used", "more", "j", "other", "one"], 1, true, s_law_colours_right⟩
def s_law : Sm :=
  (.cons (.asg (.nm 1 "d") (.call "_law_begin" (.cons (.var 0 "script") .nil)))
  (.cons (.ret (.and (.cons (.call "_law_memory_right" (.cons (.var 1 "d") .nil)) (.cons (.call "_law_memory_right" (.cons (.var 1 "d") .nil)) (.cons (.call "_law_colours_right" (.cons (.var 1 "d") .nil)) .nil))))) .nil))
def d_law : Def := ⟨["script", "d"], 1, true, s_law⟩
def pg : Prog := [(("check" : Str), d_check),
  (("start_of" : Str), d_start_of),
  (("known" : Str), d_known),
  (("stored" : Str), d_stored),
  (("changed" : Str), d_changed),
  (("step_of" : Str), d_step_of),
  (("race" : Str), d_race),
  (("clash" : Str), d_clash),
  (("run_in_order" : Str), d_run_in_order),
  (("order_for" : Str), d_order_for),
  (("is_so_far" : Str), d_is_so_far),
  (("check_web" : Str), d_check_web),
  (("colour" : Str), d_colour),
  (("_law_begin" : Str), d_law_begin),
  (("_law_take" : Str), d_law_take),
  (("_law_pick" : Str), d_law_pick),
  (("_law_programs" : Str), d_law_programs),
  (("_law_race" : Str), d_law_race),
  (("_law_step" : Str), d_law_step),
  (("_law_least" : Str), d_law_least),
  (("_law_memory_right" : Str), d_law_memory_right),
  (("_law_colours_right" : Str), d_law_colours_right),
  (("law" : Str), d_law)]
def tab : Tab := ⟨pg.map fun p => (p.1, p.2.np), [(("MOST_HANDS" : Str), .int 3), (("MOST_STEPS" : Str), .int 6), (("READ" : Str), .str "r"), (("WRITE" : Str), .str "w"), (("FENCE" : Str), .str "f"), (("SWAP" : Str), .str "x"), (("MOST_VALUES" : Str), .int 12)], [("abs" : Str), ("all" : Str), ("any" : Str), ("dict" : Str), ("enumerate" : Str), ("int" : Str), ("len" : Str), ("list" : Str), ("min" : Str), ("range" : Str), ("sorted" : Str), ("sum" : Str), ("tuple" : Str), ("zip" : Str)]⟩
theorem look_check : pg.lookup ("check" : Str) = some d_check := by kernel_rfl
theorem look_start_of : pg.lookup ("start_of" : Str) = some d_start_of := by kernel_rfl
theorem look_known : pg.lookup ("known" : Str) = some d_known := by kernel_rfl
theorem look_stored : pg.lookup ("stored" : Str) = some d_stored := by kernel_rfl
theorem look_changed : pg.lookup ("changed" : Str) = some d_changed := by kernel_rfl
theorem look_step_of : pg.lookup ("step_of" : Str) = some d_step_of := by kernel_rfl
theorem look_race : pg.lookup ("race" : Str) = some d_race := by kernel_rfl
theorem look_clash : pg.lookup ("clash" : Str) = some d_clash := by kernel_rfl
theorem look_run_in_order : pg.lookup ("run_in_order" : Str) = some d_run_in_order := by kernel_rfl
theorem look_order_for : pg.lookup ("order_for" : Str) = some d_order_for := by kernel_rfl
theorem look_is_so_far : pg.lookup ("is_so_far" : Str) = some d_is_so_far := by kernel_rfl
theorem look_check_web : pg.lookup ("check_web" : Str) = some d_check_web := by kernel_rfl
theorem look_colour : pg.lookup ("colour" : Str) = some d_colour := by kernel_rfl
theorem look_law_begin : pg.lookup ("_law_begin" : Str) = some d_law_begin := by kernel_rfl
theorem look_law_take : pg.lookup ("_law_take" : Str) = some d_law_take := by kernel_rfl
theorem look_law_pick : pg.lookup ("_law_pick" : Str) = some d_law_pick := by kernel_rfl
theorem look_law_programs : pg.lookup ("_law_programs" : Str) = some d_law_programs := by kernel_rfl
theorem look_law_race : pg.lookup ("_law_race" : Str) = some d_law_race := by kernel_rfl
theorem look_law_step : pg.lookup ("_law_step" : Str) = some d_law_step := by kernel_rfl
theorem look_law_least : pg.lookup ("_law_least" : Str) = some d_law_least := by kernel_rfl
theorem look_law_memory_right : pg.lookup ("_law_memory_right" : Str) = some d_law_memory_right := by kernel_rfl
theorem look_law_colours_right : pg.lookup ("_law_colours_right" : Str) = some d_law_colours_right := by kernel_rfl
theorem look_law : pg.lookup ("law" : Str) = some d_law := by kernel_rfl
theorem sc_check : FnScope d_check.N ["programs"] (defScope (topS 9)) := ⟨rfl, rfl, rfl, by decide +kernel, rfl, by decide +kernel, by decide +kernel⟩
theorem ok_check : okS tab d_check.N (defScope (topS 9)) d_check.body (defBody (topS 9)) = true := by decide +kernel
theorem sc_start_of : FnScope d_start_of.N ["programs"] (defScope (topS 10)) := ⟨rfl, rfl, rfl, by decide +kernel, rfl, by decide +kernel, by decide +kernel⟩
theorem ok_start_of : okS tab d_start_of.N (defScope (topS 10)) d_start_of.body (defBody (topS 10)) = true := by decide +kernel
theorem sc_known : FnScope d_known.N ["rows", "place"] (defScope (topS 11)) := ⟨rfl, rfl, rfl, by decide +kernel, rfl, by decide +kernel, by decide +kernel⟩
theorem ok_known : okS tab d_known.N (defScope (topS 11)) d_known.body (defBody (topS 11)) = true := by decide +kernel
theorem sc_stored : FnScope d_stored.N ["memory", "place", "value"] (defScope (topS 12)) := ⟨rfl, rfl, rfl, by decide +kernel, rfl, by decide +kernel, by decide +kernel⟩
theorem ok_stored : okS tab d_stored.N (defScope (topS 12)) d_stored.body (defBody (topS 12)) = true := by decide +kernel
theorem sc_changed : FnScope d_changed.N ["rows", "hand", "one"] (defScope (topS 13)) := ⟨rfl, rfl, rfl, by decide +kernel, rfl, by decide +kernel, by decide +kernel⟩
theorem ok_changed : okS tab d_changed.N (defScope (topS 13)) d_changed.body (defBody (topS 13)) = true := by decide +kernel
theorem sc_step_of : FnScope d_step_of.N ["step", "state", "hand", "is_buffered"] (defScope (topS 14)) := ⟨rfl, rfl, rfl, by decide +kernel, rfl, by decide +kernel, by decide +kernel⟩
theorem ok_step_of : okS tab d_step_of.N (defScope (topS 14)) d_step_of.body (defBody (topS 14)) = true := by decide +kernel
theorem sc_race : FnScope d_race.N ["programs"] (defScope (topS 15)) := ⟨rfl, rfl, rfl, by decide +kernel, rfl, by decide +kernel, by decide +kernel⟩
theorem ok_race : okS tab d_race.N (defScope (topS 15)) d_race.body (defBody (topS 15)) = true := by decide +kernel
theorem sc_clash : FnScope d_clash.N ["programs", "places"] (defScope (topS 16)) := ⟨rfl, rfl, rfl, by decide +kernel, rfl, by decide +kernel, by decide +kernel⟩
theorem ok_clash : okS tab d_clash.N (defScope (topS 16)) d_clash.body (defBody (topS 16)) = true := by decide +kernel
theorem sc_run_in_order : FnScope d_run_in_order.N ["programs", "row"] (defScope (topS 17)) := ⟨rfl, rfl, rfl, by decide +kernel, rfl, by decide +kernel, by decide +kernel⟩
theorem ok_run_in_order : okS tab d_run_in_order.N (defScope (topS 17)) d_run_in_order.body (defBody (topS 17)) = true := by decide +kernel
theorem sc_order_for : FnScope d_order_for.N ["programs", "end"] (defScope (topS 18)) := ⟨rfl, rfl, rfl, by decide +kernel, rfl, by decide +kernel, by decide +kernel⟩
theorem ok_order_for : okS tab d_order_for.N (defScope (topS 18)) d_order_for.body (defBody (topS 18)) = true := by decide +kernel
theorem sc_is_so_far : FnScope d_is_so_far.N ["reads", "end"] (defScope (topS 19)) := ⟨rfl, rfl, rfl, by decide +kernel, rfl, by decide +kernel, by decide +kernel⟩
theorem ok_is_so_far : okS tab d_is_so_far.N (defScope (topS 19)) d_is_so_far.body (defBody (topS 19)) = true := by decide +kernel
theorem sc_check_web : FnScope d_check_web.N ["many", "pairs"] (defScope (topS 22)) := ⟨rfl, rfl, rfl, by decide +kernel, rfl, by decide +kernel, by decide +kernel⟩
theorem ok_check_web : okS tab d_check_web.N (defScope (topS 22)) d_check_web.body (defBody (topS 22)) = true := by decide +kernel
theorem sc_colour : FnScope d_colour.N ["many", "pairs", "colours"] (defScope (topS 23)) := ⟨rfl, rfl, rfl, by decide +kernel, rfl, by decide +kernel, by decide +kernel⟩
theorem ok_colour : okS tab d_colour.N (defScope (topS 23)) d_colour.body (defBody (topS 23)) = true := by decide +kernel
theorem sc_law_begin : FnScope d_law_begin.N ["script"] (defScope (topS 25)) := ⟨rfl, rfl, rfl, by decide +kernel, rfl, by decide +kernel, by decide +kernel⟩
theorem ok_law_begin : okS tab d_law_begin.N (defScope (topS 25)) d_law_begin.body (defBody (topS 25)) = true := by decide +kernel
theorem sc_law_take : FnScope d_law_take.N ["d", "many"] (defScope (topS 26)) := ⟨rfl, rfl, rfl, by decide +kernel, rfl, by decide +kernel, by decide +kernel⟩
theorem ok_law_take : okS tab d_law_take.N (defScope (topS 26)) d_law_take.body (defBody (topS 26)) = true := by decide +kernel
theorem sc_law_pick : FnScope d_law_pick.N ["d", "menu"] (defScope (topS 27)) := ⟨rfl, rfl, rfl, by decide +kernel, rfl, by decide +kernel, by decide +kernel⟩
theorem ok_law_pick : okS tab d_law_pick.N (defScope (topS 27)) d_law_pick.body (defBody (topS 27)) = true := by decide +kernel
theorem sc_law_programs : FnScope d_law_programs.N ["d"] (defScope (topS 28)) := ⟨rfl, rfl, rfl, by decide +kernel, rfl, by decide +kernel, by decide +kernel⟩
theorem ok_law_programs : okS tab d_law_programs.N (defScope (topS 28)) d_law_programs.body (defBody (topS 28)) = true := by decide +kernel
theorem sc_law_race : FnScope d_law_race.N ["programs"] (defScope (topS 29)) := ⟨rfl, rfl, rfl, by decide +kernel, rfl, by decide +kernel, by decide +kernel⟩
theorem ok_law_race : okS tab d_law_race.N (defScope (topS 29)) d_law_race.body (defBody (topS 29)) = true := by decide +kernel
theorem sc_law_step : FnScope d_law_step.N ["step", "cells", "reads"] (defScope (topS 30)) := ⟨rfl, rfl, rfl, by decide +kernel, rfl, by decide +kernel, by decide +kernel⟩
theorem ok_law_step : okS tab d_law_step.N (defScope (topS 30)) d_law_step.body (defBody (topS 30)) = true := by decide +kernel
theorem sc_law_least : FnScope d_law_least.N ["programs", "end"] (defScope (topS 31)) := ⟨rfl, rfl, rfl, by decide +kernel, rfl, by decide +kernel, by decide +kernel⟩
theorem ok_law_least : okS tab d_law_least.N (defScope (topS 31)) d_law_least.body (defBody (topS 31)) = true := by decide +kernel
theorem sc_law_memory_right : FnScope d_law_memory_right.N ["d"] (defScope (topS 32)) := ⟨rfl, rfl, rfl, by decide +kernel, rfl, by decide +kernel, by decide +kernel⟩
theorem ok_law_memory_right : okS tab d_law_memory_right.N (defScope (topS 32)) d_law_memory_right.body (defBody (topS 32)) = true := by decide +kernel
theorem sc_law_colours_right : FnScope d_law_colours_right.N ["d"] (defScope (topS 33)) := ⟨rfl, rfl, rfl, by decide +kernel, rfl, by decide +kernel, by decide +kernel⟩
theorem ok_law_colours_right : okS tab d_law_colours_right.N (defScope (topS 33)) d_law_colours_right.body (defBody (topS 33)) = true := by decide +kernel
theorem sc_law : FnScope d_law.N ["script"] (defScope (topS 34)) := ⟨rfl, rfl, rfl, by decide +kernel, rfl, by decide +kernel, by decide +kernel⟩
theorem ok_law : okS tab d_law.N (defScope (topS 34)) d_law.body (defBody (topS 34)) = true := by decide +kernel
section
variable {K : PySem.W.Frag} {mg : Str → Option Value} {h : Heap}
theorem is_check {a : Addr} {fd : FuncData} (X : K.In h) (G : h.Ns mainGlobals mg) (R : DefRow K "check" "check" "check" (topS 9) a fd) : DefIs K mg tab "check" d_check := R.is X G sc_check rfl (fun _ _ _ _ _ _ us hl => match us, hl with | [_], _ => rfl) ok_check
theorem is_start_of {a : Addr} {fd : FuncData} (X : K.In h) (G : h.Ns mainGlobals mg) (R : DefRow K "start_of" "start_of" "start_of" (topS 10) a fd) : DefIs K mg tab "start_of" d_start_of := R.is X G sc_start_of rfl (fun _ _ _ _ _ _ us hl => match us, hl with | [_], _ => rfl) ok_start_of
theorem is_known {a : Addr} {fd : FuncData} (X : K.In h) (G : h.Ns mainGlobals mg) (R : DefRow K "known" "known" "known" (topS 11) a fd) : DefIs K mg tab "known" d_known := R.is X G sc_known rfl (fun _ _ _ _ _ _ us hl => match us, hl with | [_, _], _ => rfl) ok_known
theorem is_stored {a : Addr} {fd : FuncData} (X : K.In h) (G : h.Ns mainGlobals mg) (R : DefRow K "stored" "stored" "stored" (topS 12) a fd) : DefIs K mg tab "stored" d_stored := R.is X G sc_stored rfl (fun _ _ _ _ _ _ us hl => match us, hl with | [_, _, _], _ => rfl) ok_stored
theorem is_changed {a : Addr} {fd : FuncData} (X : K.In h) (G : h.Ns mainGlobals mg) (R : DefRow K "changed" "changed" "changed" (topS 13) a fd) : DefIs K mg tab "changed" d_changed := R.is X G sc_changed rfl (fun _ _ _ _ _ _ us hl => match us, hl with | [_, _, _], _ => rfl) ok_changed
theorem is_step_of {a : Addr} {fd : FuncData} (X : K.In h) (G : h.Ns mainGlobals mg) (R : DefRow K "step_of" "step_of" "step_of" (topS 14) a fd) : DefIs K mg tab "step_of" d_step_of := R.is X G sc_step_of rfl (fun _ _ _ _ _ _ us hl => match us, hl with | [_, _, _, _], _ => rfl) ok_step_of
theorem is_race {a : Addr} {fd : FuncData} (X : K.In h) (G : h.Ns mainGlobals mg) (R : DefRow K "race" "race" "race" (topS 15) a fd) : DefIs K mg tab "race" d_race := R.is X G sc_race rfl (fun _ _ _ _ _ _ us hl => match us, hl with | [_], _ => rfl) ok_race
theorem is_clash {a : Addr} {fd : FuncData} (X : K.In h) (G : h.Ns mainGlobals mg) (R : DefRow K "clash" "clash" "clash" (topS 16) a fd) : DefIs K mg tab "clash" d_clash := R.is X G sc_clash rfl (fun _ _ _ _ _ _ us hl => match us, hl with | [_, _], _ => rfl) ok_clash
theorem is_run_in_order {a : Addr} {fd : FuncData} (X : K.In h) (G : h.Ns mainGlobals mg) (R : DefRow K "run_in_order" "run_in_order" "run_in_order" (topS 17) a fd) : DefIs K mg tab "run_in_order" d_run_in_order := R.is X G sc_run_in_order rfl (fun _ _ _ _ _ _ us hl => match us, hl with | [_, _], _ => rfl) ok_run_in_order
theorem is_order_for {a : Addr} {fd : FuncData} (X : K.In h) (G : h.Ns mainGlobals mg) (R : DefRow K "order_for" "order_for" "order_for" (topS 18) a fd) : DefIs K mg tab "order_for" d_order_for := R.is X G sc_order_for rfl (fun _ _ _ _ _ _ us hl => match us, hl with | [_, _], _ => rfl) ok_order_for
theorem is_is_so_far {a : Addr} {fd : FuncData} (X : K.In h) (G : h.Ns mainGlobals mg) (R : DefRow K "is_so_far" "is_so_far" "is_so_far" (topS 19) a fd) : DefIs K mg tab "is_so_far" d_is_so_far := R.is X G sc_is_so_far rfl (fun _ _ _ _ _ _ us hl => match us, hl with | [_, _], _ => rfl) ok_is_so_far
theorem is_check_web {a : Addr} {fd : FuncData} (X : K.In h) (G : h.Ns mainGlobals mg) (R : DefRow K "check_web" "check_web" "check_web" (topS 22) a fd) : DefIs K mg tab "check_web" d_check_web := R.is X G sc_check_web rfl (fun _ _ _ _ _ _ us hl => match us, hl with | [_, _], _ => rfl) ok_check_web
theorem is_colour {a : Addr} {fd : FuncData} (X : K.In h) (G : h.Ns mainGlobals mg) (R : DefRow K "colour" "colour" "colour" (topS 23) a fd) : DefIs K mg tab "colour" d_colour := R.is X G sc_colour rfl (fun _ _ _ _ _ _ us hl => match us, hl with | [_, _, _], _ => rfl) ok_colour
theorem is_law_begin {a : Addr} {fd : FuncData} (X : K.In h) (G : h.Ns mainGlobals mg) (R : DefRow K "_law_begin" "_law_begin" "_law_begin" (topS 25) a fd) : DefIs K mg tab "_law_begin" d_law_begin := R.is X G sc_law_begin rfl (fun _ _ _ _ _ _ us hl => match us, hl with | [_], _ => rfl) ok_law_begin
theorem is_law_take {a : Addr} {fd : FuncData} (X : K.In h) (G : h.Ns mainGlobals mg) (R : DefRow K "_law_take" "_law_take" "_law_take" (topS 26) a fd) : DefIs K mg tab "_law_take" d_law_take := R.is X G sc_law_take rfl (fun _ _ _ _ _ _ us hl => match us, hl with | [_, _], _ => rfl) ok_law_take
theorem is_law_pick {a : Addr} {fd : FuncData} (X : K.In h) (G : h.Ns mainGlobals mg) (R : DefRow K "_law_pick" "_law_pick" "_law_pick" (topS 27) a fd) : DefIs K mg tab "_law_pick" d_law_pick := R.is X G sc_law_pick rfl (fun _ _ _ _ _ _ us hl => match us, hl with | [_, _], _ => rfl) ok_law_pick
theorem is_law_programs {a : Addr} {fd : FuncData} (X : K.In h) (G : h.Ns mainGlobals mg) (R : DefRow K "_law_programs" "_law_programs" "_law_programs" (topS 28) a fd) : DefIs K mg tab "_law_programs" d_law_programs := R.is X G sc_law_programs rfl (fun _ _ _ _ _ _ us hl => match us, hl with | [_], _ => rfl) ok_law_programs
theorem is_law_race {a : Addr} {fd : FuncData} (X : K.In h) (G : h.Ns mainGlobals mg) (R : DefRow K "_law_race" "_law_race" "_law_race" (topS 29) a fd) : DefIs K mg tab "_law_race" d_law_race := R.is X G sc_law_race rfl (fun _ _ _ _ _ _ us hl => match us, hl with | [_], _ => rfl) ok_law_race
theorem is_law_step {a : Addr} {fd : FuncData} (X : K.In h) (G : h.Ns mainGlobals mg) (R : DefRow K "_law_step" "_law_step" "_law_step" (topS 30) a fd) : DefIs K mg tab "_law_step" d_law_step := R.is X G sc_law_step rfl (fun _ _ _ _ _ _ us hl => match us, hl with | [_, _, _], _ => rfl) ok_law_step
theorem is_law_least {a : Addr} {fd : FuncData} (X : K.In h) (G : h.Ns mainGlobals mg) (R : DefRow K "_law_least" "_law_least" "_law_least" (topS 31) a fd) : DefIs K mg tab "_law_least" d_law_least := R.is X G sc_law_least rfl (fun _ _ _ _ _ _ us hl => match us, hl with | [_, _], _ => rfl) ok_law_least
theorem is_law_memory_right {a : Addr} {fd : FuncData} (X : K.In h) (G : h.Ns mainGlobals mg) (R : DefRow K "_law_memory_right" "_law_memory_right" "_law_memory_right" (topS 32) a fd) : DefIs K mg tab "_law_memory_right" d_law_memory_right := R.is X G sc_law_memory_right rfl (fun _ _ _ _ _ _ us hl => match us, hl with | [_], _ => rfl) ok_law_memory_right
theorem is_law_colours_right {a : Addr} {fd : FuncData} (X : K.In h) (G : h.Ns mainGlobals mg) (R : DefRow K "_law_colours_right" "_law_colours_right" "_law_colours_right" (topS 33) a fd) : DefIs K mg tab "_law_colours_right" d_law_colours_right := R.is X G sc_law_colours_right rfl (fun _ _ _ _ _ _ us hl => match us, hl with | [_], _ => rfl) ok_law_colours_right
theorem is_law {a : Addr} {fd : FuncData} (X : K.In h) (G : h.Ns mainGlobals mg) (R : DefRow K "law" "law" "law" (topS 34) a fd) : DefIs K mg tab "law" d_law := R.is X G sc_law rfl (fun _ _ _ _ _ _ us hl => match us, hl with | [_], _ => rfl) ok_law
end
set_option maxHeartbeats 0 in
theorem top {l : PySem.W.OpenLaw} {w : World} {K : PySem.W.Frag} {h : Heap} {mg : Str → Option Value} {fa : Addr} (X : K.In h) (G : h.Ns mainGlobals mg) (hfa : mg "law" = some (.ref fa))
    {f0 : Addr} {od0 an0 : Option Addr} {sl0 : Array (Option Value)} {oc0 kV0 dc0 pm0 cd0 ct0 : Value}
    {f1 : Addr} {od1 an1 : Option Addr} {sl1 : Array (Option Value)} {oc1 kV1 dc1 pm1 cd1 ct1 : Value}
    {f2 : Addr} {od2 an2 : Option Addr} {sl2 : Array (Option Value)} {oc2 kV2 dc2 pm2 cd2 ct2 : Value}
    {f3 : Addr} {od3 an3 : Option Addr} {sl3 : Array (Option Value)} {oc3 kV3 dc3 pm3 cd3 ct3 : Value}
    {f4 : Addr} {od4 an4 : Option Addr} {sl4 : Array (Option Value)} {oc4 kV4 dc4 pm4 cd4 ct4 : Value}
    {f5 : Addr} {od5 an5 : Option Addr} {sl5 : Array (Option Value)} {oc5 kV5 dc5 pm5 cd5 ct5 : Value}
    {f6 : Addr} {od6 an6 : Option Addr} {sl6 : Array (Option Value)} {oc6 kV6 dc6 pm6 cd6 ct6 : Value}
    {f7 : Addr} {od7 an7 : Option Addr} {sl7 : Array (Option Value)} {oc7 kV7 dc7 pm7 cd7 ct7 : Value}
    {f8 : Addr} {od8 an8 : Option Addr} {sl8 : Array (Option Value)} {oc8 kV8 dc8 pm8 cd8 ct8 : Value}
    {f9 : Addr} {od9 an9 : Option Addr} {sl9 : Array (Option Value)} {oc9 kV9 dc9 pm9 cd9 ct9 : Value}
    {f10 : Addr} {od10 an10 : Option Addr} {sl10 : Array (Option Value)} {oc10 kV10 dc10 pm10 cd10 ct10 : Value}
    {f11 : Addr} {od11 an11 : Option Addr} {sl11 : Array (Option Value)} {oc11 kV11 dc11 pm11 cd11 ct11 : Value}
    {f12 : Addr} {od12 an12 : Option Addr} {sl12 : Array (Option Value)} {oc12 kV12 dc12 pm12 cd12 ct12 : Value}
    {f13 : Addr} {od13 an13 : Option Addr} {sl13 : Array (Option Value)} {oc13 kV13 dc13 pm13 cd13 ct13 : Value}
    {f14 : Addr} {od14 an14 : Option Addr} {sl14 : Array (Option Value)} {oc14 kV14 dc14 pm14 cd14 ct14 : Value}
    {f15 : Addr} {od15 an15 : Option Addr} {sl15 : Array (Option Value)} {oc15 kV15 dc15 pm15 cd15 ct15 : Value}
    {f16 : Addr} {od16 an16 : Option Addr} {sl16 : Array (Option Value)} {oc16 kV16 dc16 pm16 cd16 ct16 : Value}
    {f17 : Addr} {od17 an17 : Option Addr} {sl17 : Array (Option Value)} {oc17 kV17 dc17 pm17 cd17 ct17 : Value}
    {f18 : Addr} {od18 an18 : Option Addr} {sl18 : Array (Option Value)} {oc18 kV18 dc18 pm18 cd18 ct18 : Value}
    {f19 : Addr} {od19 an19 : Option Addr} {sl19 : Array (Option Value)} {oc19 kV19 dc19 pm19 cd19 ct19 : Value}
    {f20 : Addr} {od20 an20 : Option Addr} {sl20 : Array (Option Value)} {oc20 kV20 dc20 pm20 cd20 ct20 : Value}
    {f21 : Addr} {od21 an21 : Option Addr} {sl21 : Array (Option Value)} {oc21 kV21 dc21 pm21 cd21 ct21 : Value}
    {f22 : Addr} {od22 an22 : Option Addr} {sl22 : Array (Option Value)} {oc22 kV22 dc22 pm22 cd22 ct22 : Value}
    {gu0 : Value}
    {gu1 : Value}
    {gu2 : Value}
    {gu3 : Value}
    {gu4 : Value}
    {gu5 : Value}
    {gu6 : Value}
    (a0 : PySem.W.nsIn K mainGlobals "check" = some (some (.ref f0))) (l0 : K.lookup f0 = some ⟨oc0, od0, .func (PySem.W.fnOf "check" "check" (defArgs (topS 9)) (defBody (topS 9)) (defScope (topS 9)) .none kV0 dc0 pm0 an0 cd0 ct0), sl0⟩) (c0 : PySem.W.codeIn K cd0 "check" = true) (k0 : PySem.W.keepIn K (.ref f0) = true)
    (a1 : PySem.W.nsIn K mainGlobals "start_of" = some (some (.ref f1))) (l1 : K.lookup f1 = some ⟨oc1, od1, .func (PySem.W.fnOf "start_of" "start_of" (defArgs (topS 10)) (defBody (topS 10)) (defScope (topS 10)) .none kV1 dc1 pm1 an1 cd1 ct1), sl1⟩) (c1 : PySem.W.codeIn K cd1 "start_of" = true) (k1 : PySem.W.keepIn K (.ref f1) = true)
    (a2 : PySem.W.nsIn K mainGlobals "known" = some (some (.ref f2))) (l2 : K.lookup f2 = some ⟨oc2, od2, .func (PySem.W.fnOf "known" "known" (defArgs (topS 11)) (defBody (topS 11)) (defScope (topS 11)) .none kV2 dc2 pm2 an2 cd2 ct2), sl2⟩) (c2 : PySem.W.codeIn K cd2 "known" = true) (k2 : PySem.W.keepIn K (.ref f2) = true)
    (a3 : PySem.W.nsIn K mainGlobals "stored" = some (some (.ref f3))) (l3 : K.lookup f3 = some ⟨oc3, od3, .func (PySem.W.fnOf "stored" "stored" (defArgs (topS 12)) (defBody (topS 12)) (defScope (topS 12)) .none kV3 dc3 pm3 an3 cd3 ct3), sl3⟩) (c3 : PySem.W.codeIn K cd3 "stored" = true) (k3 : PySem.W.keepIn K (.ref f3) = true)
    (a4 : PySem.W.nsIn K mainGlobals "changed" = some (some (.ref f4))) (l4 : K.lookup f4 = some ⟨oc4, od4, .func (PySem.W.fnOf "changed" "changed" (defArgs (topS 13)) (defBody (topS 13)) (defScope (topS 13)) .none kV4 dc4 pm4 an4 cd4 ct4), sl4⟩) (c4 : PySem.W.codeIn K cd4 "changed" = true) (k4 : PySem.W.keepIn K (.ref f4) = true)
    (a5 : PySem.W.nsIn K mainGlobals "step_of" = some (some (.ref f5))) (l5 : K.lookup f5 = some ⟨oc5, od5, .func (PySem.W.fnOf "step_of" "step_of" (defArgs (topS 14)) (defBody (topS 14)) (defScope (topS 14)) .none kV5 dc5 pm5 an5 cd5 ct5), sl5⟩) (c5 : PySem.W.codeIn K cd5 "step_of" = true) (k5 : PySem.W.keepIn K (.ref f5) = true)
    (a6 : PySem.W.nsIn K mainGlobals "race" = some (some (.ref f6))) (l6 : K.lookup f6 = some ⟨oc6, od6, .func (PySem.W.fnOf "race" "race" (defArgs (topS 15)) (defBody (topS 15)) (defScope (topS 15)) .none kV6 dc6 pm6 an6 cd6 ct6), sl6⟩) (c6 : PySem.W.codeIn K cd6 "race" = true) (k6 : PySem.W.keepIn K (.ref f6) = true)
    (a7 : PySem.W.nsIn K mainGlobals "clash" = some (some (.ref f7))) (l7 : K.lookup f7 = some ⟨oc7, od7, .func (PySem.W.fnOf "clash" "clash" (defArgs (topS 16)) (defBody (topS 16)) (defScope (topS 16)) .none kV7 dc7 pm7 an7 cd7 ct7), sl7⟩) (c7 : PySem.W.codeIn K cd7 "clash" = true) (k7 : PySem.W.keepIn K (.ref f7) = true)
    (a8 : PySem.W.nsIn K mainGlobals "run_in_order" = some (some (.ref f8))) (l8 : K.lookup f8 = some ⟨oc8, od8, .func (PySem.W.fnOf "run_in_order" "run_in_order" (defArgs (topS 17)) (defBody (topS 17)) (defScope (topS 17)) .none kV8 dc8 pm8 an8 cd8 ct8), sl8⟩) (c8 : PySem.W.codeIn K cd8 "run_in_order" = true) (k8 : PySem.W.keepIn K (.ref f8) = true)
    (a9 : PySem.W.nsIn K mainGlobals "order_for" = some (some (.ref f9))) (l9 : K.lookup f9 = some ⟨oc9, od9, .func (PySem.W.fnOf "order_for" "order_for" (defArgs (topS 18)) (defBody (topS 18)) (defScope (topS 18)) .none kV9 dc9 pm9 an9 cd9 ct9), sl9⟩) (c9 : PySem.W.codeIn K cd9 "order_for" = true) (k9 : PySem.W.keepIn K (.ref f9) = true)
    (a10 : PySem.W.nsIn K mainGlobals "is_so_far" = some (some (.ref f10))) (l10 : K.lookup f10 = some ⟨oc10, od10, .func (PySem.W.fnOf "is_so_far" "is_so_far" (defArgs (topS 19)) (defBody (topS 19)) (defScope (topS 19)) .none kV10 dc10 pm10 an10 cd10 ct10), sl10⟩) (c10 : PySem.W.codeIn K cd10 "is_so_far" = true) (k10 : PySem.W.keepIn K (.ref f10) = true)
    (a11 : PySem.W.nsIn K mainGlobals "check_web" = some (some (.ref f11))) (l11 : K.lookup f11 = some ⟨oc11, od11, .func (PySem.W.fnOf "check_web" "check_web" (defArgs (topS 22)) (defBody (topS 22)) (defScope (topS 22)) .none kV11 dc11 pm11 an11 cd11 ct11), sl11⟩) (c11 : PySem.W.codeIn K cd11 "check_web" = true) (k11 : PySem.W.keepIn K (.ref f11) = true)
    (a12 : PySem.W.nsIn K mainGlobals "colour" = some (some (.ref f12))) (l12 : K.lookup f12 = some ⟨oc12, od12, .func (PySem.W.fnOf "colour" "colour" (defArgs (topS 23)) (defBody (topS 23)) (defScope (topS 23)) .none kV12 dc12 pm12 an12 cd12 ct12), sl12⟩) (c12 : PySem.W.codeIn K cd12 "colour" = true) (k12 : PySem.W.keepIn K (.ref f12) = true)
    (a13 : PySem.W.nsIn K mainGlobals "_law_begin" = some (some (.ref f13))) (l13 : K.lookup f13 = some ⟨oc13, od13, .func (PySem.W.fnOf "_law_begin" "_law_begin" (defArgs (topS 25)) (defBody (topS 25)) (defScope (topS 25)) .none kV13 dc13 pm13 an13 cd13 ct13), sl13⟩) (c13 : PySem.W.codeIn K cd13 "_law_begin" = true) (k13 : PySem.W.keepIn K (.ref f13) = true)
    (a14 : PySem.W.nsIn K mainGlobals "_law_take" = some (some (.ref f14))) (l14 : K.lookup f14 = some ⟨oc14, od14, .func (PySem.W.fnOf "_law_take" "_law_take" (defArgs (topS 26)) (defBody (topS 26)) (defScope (topS 26)) .none kV14 dc14 pm14 an14 cd14 ct14), sl14⟩) (c14 : PySem.W.codeIn K cd14 "_law_take" = true) (k14 : PySem.W.keepIn K (.ref f14) = true)
    (a15 : PySem.W.nsIn K mainGlobals "_law_pick" = some (some (.ref f15))) (l15 : K.lookup f15 = some ⟨oc15, od15, .func (PySem.W.fnOf "_law_pick" "_law_pick" (defArgs (topS 27)) (defBody (topS 27)) (defScope (topS 27)) .none kV15 dc15 pm15 an15 cd15 ct15), sl15⟩) (c15 : PySem.W.codeIn K cd15 "_law_pick" = true) (k15 : PySem.W.keepIn K (.ref f15) = true)
    (a16 : PySem.W.nsIn K mainGlobals "_law_programs" = some (some (.ref f16))) (l16 : K.lookup f16 = some ⟨oc16, od16, .func (PySem.W.fnOf "_law_programs" "_law_programs" (defArgs (topS 28)) (defBody (topS 28)) (defScope (topS 28)) .none kV16 dc16 pm16 an16 cd16 ct16), sl16⟩) (c16 : PySem.W.codeIn K cd16 "_law_programs" = true) (k16 : PySem.W.keepIn K (.ref f16) = true)
    (a17 : PySem.W.nsIn K mainGlobals "_law_race" = some (some (.ref f17))) (l17 : K.lookup f17 = some ⟨oc17, od17, .func (PySem.W.fnOf "_law_race" "_law_race" (defArgs (topS 29)) (defBody (topS 29)) (defScope (topS 29)) .none kV17 dc17 pm17 an17 cd17 ct17), sl17⟩) (c17 : PySem.W.codeIn K cd17 "_law_race" = true) (k17 : PySem.W.keepIn K (.ref f17) = true)
    (a18 : PySem.W.nsIn K mainGlobals "_law_step" = some (some (.ref f18))) (l18 : K.lookup f18 = some ⟨oc18, od18, .func (PySem.W.fnOf "_law_step" "_law_step" (defArgs (topS 30)) (defBody (topS 30)) (defScope (topS 30)) .none kV18 dc18 pm18 an18 cd18 ct18), sl18⟩) (c18 : PySem.W.codeIn K cd18 "_law_step" = true) (k18 : PySem.W.keepIn K (.ref f18) = true)
    (a19 : PySem.W.nsIn K mainGlobals "_law_least" = some (some (.ref f19))) (l19 : K.lookup f19 = some ⟨oc19, od19, .func (PySem.W.fnOf "_law_least" "_law_least" (defArgs (topS 31)) (defBody (topS 31)) (defScope (topS 31)) .none kV19 dc19 pm19 an19 cd19 ct19), sl19⟩) (c19 : PySem.W.codeIn K cd19 "_law_least" = true) (k19 : PySem.W.keepIn K (.ref f19) = true)
    (a20 : PySem.W.nsIn K mainGlobals "_law_memory_right" = some (some (.ref f20))) (l20 : K.lookup f20 = some ⟨oc20, od20, .func (PySem.W.fnOf "_law_memory_right" "_law_memory_right" (defArgs (topS 32)) (defBody (topS 32)) (defScope (topS 32)) .none kV20 dc20 pm20 an20 cd20 ct20), sl20⟩) (c20 : PySem.W.codeIn K cd20 "_law_memory_right" = true) (k20 : PySem.W.keepIn K (.ref f20) = true)
    (a21 : PySem.W.nsIn K mainGlobals "_law_colours_right" = some (some (.ref f21))) (l21 : K.lookup f21 = some ⟨oc21, od21, .func (PySem.W.fnOf "_law_colours_right" "_law_colours_right" (defArgs (topS 33)) (defBody (topS 33)) (defScope (topS 33)) .none kV21 dc21 pm21 an21 cd21 ct21), sl21⟩) (c21 : PySem.W.codeIn K cd21 "_law_colours_right" = true) (k21 : PySem.W.keepIn K (.ref f21) = true)
    (a22 : PySem.W.nsIn K mainGlobals "law" = some (some (.ref f22))) (l22 : K.lookup f22 = some ⟨oc22, od22, .func (PySem.W.fnOf "law" "law" (defArgs (topS 34)) (defBody (topS 34)) (defScope (topS 34)) .none kV22 dc22 pm22 an22 cd22 ct22), sl22⟩) (c22 : PySem.W.codeIn K cd22 "law" = true) (k22 : PySem.W.keepIn K (.ref f22) = true)
    (ge0 : PySem.W.nsIn K mainGlobals "MOST_HANDS" = some (some gu0)) (gv0 : valOk (.int 3) gu0 = true)
    (ge1 : PySem.W.nsIn K mainGlobals "MOST_STEPS" = some (some gu1)) (gv1 : valOk (.int 6) gu1 = true)
    (ge2 : PySem.W.nsIn K mainGlobals "READ" = some (some gu2)) (gv2 : valOk (.str "r") gu2 = true)
    (ge3 : PySem.W.nsIn K mainGlobals "WRITE" = some (some gu3)) (gv3 : valOk (.str "w") gu3 = true)
    (ge4 : PySem.W.nsIn K mainGlobals "FENCE" = some (some gu4)) (gv4 : valOk (.str "f") gu4 = true)
    (ge5 : PySem.W.nsIn K mainGlobals "SWAP" = some (some gu5)) (gv5 : valOk (.str "x") gu5 = true)
    (ge6 : PySem.W.nsIn K mainGlobals "MOST_VALUES" = some (some gu6)) (gv6 : valOk (.int 12) gu6 = true)
    (z0 : PySem.W.nsIn K mainGlobals "abs" = some none)
    (z1 : PySem.W.nsIn K mainGlobals "all" = some none)
    (z2 : PySem.W.nsIn K mainGlobals "any" = some none)
    (z3 : PySem.W.nsIn K mainGlobals "dict" = some none)
    (z4 : PySem.W.nsIn K mainGlobals "enumerate" = some none)
    (z5 : PySem.W.nsIn K mainGlobals "int" = some none)
    (z6 : PySem.W.nsIn K mainGlobals "len" = some none)
    (z7 : PySem.W.nsIn K mainGlobals "list" = some none)
    (z8 : PySem.W.nsIn K mainGlobals "min" = some none)
    (z9 : PySem.W.nsIn K mainGlobals "range" = some none)
    (z10 : PySem.W.nsIn K mainGlobals "sorted" = some none)
    (z11 : PySem.W.nsIn K mainGlobals "sum" = some none)
    (z12 : PySem.W.nsIn K mainGlobals "tuple" = some none)
    (z13 : PySem.W.nsIn K mainGlobals "zip" = some none)
    (hl : ∀ ns : List Int, ns.length ≤ 63 → ∃ S', callD (2 ^ 100) tab pg (20 + 1) lawName [.fz (ns.map D.int)] [] = some (.d (.bl true), S')) :
    ∃ fd : FuncData, (∀ (s : Shared) (v : Value), BindsTo s fd ⟨[v], []⟩ [("script", v)]) ∧ ∀ base : Heap, K.In base → base.Ns mainGlobals mg → FnOk l.prog w K mg base CX0 (20 + 1) fa fd ["script"] (lawSp K) := by
  have e := hfa.symm.trans (PySem.W.mg_of X G a22)
  cases e
  have ai : AllIs K mg tab pg := ⟨is_check X G (defRow a0 l0 c0 k0), is_start_of X G (defRow a1 l1 c1 k1), is_known X G (defRow a2 l2 c2 k2), is_stored X G (defRow a3 l3 c3 k3), is_changed X G (defRow a4 l4 c4 k4), is_step_of X G (defRow a5 l5 c5 k5), is_race X G (defRow a6 l6 c6 k6), is_clash X G (defRow a7 l7 c7 k7), is_run_in_order X G (defRow a8 l8 c8 k8), is_order_for X G (defRow a9 l9 c9 k9), is_is_so_far X G (defRow a10 l10 c10 k10), is_check_web X G (defRow a11 l11 c11 k11), is_colour X G (defRow a12 l12 c12 k12), is_law_begin X G (defRow a13 l13 c13 k13), is_law_take X G (defRow a14 l14 c14 k14), is_law_pick X G (defRow a15 l15 c15 k15), is_law_programs X G (defRow a16 l16 c16 k16), is_law_race X G (defRow a17 l17 c17 k17), is_law_step X G (defRow a18 l18 c18 k18), is_law_least X G (defRow a19 l19 c19 k19), is_law_memory_right X G (defRow a20 l20 c20 k20), is_law_colours_right X G (defRow a21 l21 c21 k21), is_law X G (defRow a22 l22 c22 k22), trivial⟩
  have gi : GlbsIs K mg tab.globs := ⟨glb_val X G ge0 gv0, glb_val X G ge1 gv1, glb_val X G ge2 gv2, glb_val X G ge3 gv3, glb_val X G ge4 gv4, glb_val X G ge5 gv5, glb_val X G ge6 gv6, trivial⟩
  have bi : BltsIs mg tab.blts := ⟨PySem.W.mg_none_of X G z0, PySem.W.mg_none_of X G z1, PySem.W.mg_none_of X G z2, PySem.W.mg_none_of X G z3, PySem.W.mg_none_of X G z4, PySem.W.mg_none_of X G z5, PySem.W.mg_none_of X G z6, PySem.W.mg_none_of X G z7, PySem.W.mg_none_of X G z8, PySem.W.mg_none_of X G z9, PySem.W.mg_none_of X G z10, PySem.W.mg_none_of X G z11, PySem.W.mg_none_of X G z12, PySem.W.mg_none_of X G z13, trivial⟩
  have tp : TopIs K mg tab pg := topIs rfl ai gi bi
  exact ⟨PySem.W.fnOf "law" "law" (defArgs (topS 34)) (defBody (topS 34)) (defScope (topS 34)) .none kV22 dc22 pm22 an22 cd22 ct22, fun s v => .of_eq rfl, fun base _ _ => law_ok (d := d_law) tp look_law (fun_mk l22 c22 k22) sc_law rfl ok_law hl⟩
end K53

set_option Elab.async false
set_option linter.all false
set_option maxRecDepth 100000
/-! Y5: plain data (numbers, texts, None, tuples of these): ==, in, <, sorted -/
namespace Z
open PySem PySem.Spec PyProof.Rows L2
def pln : Nat → D → Bool
  | _, .int _ => true
  | _, .non => true
  | _, .str x => PyData.canLay0 (.str x)
  | n + 1, .tup xs => xs.all (pln n)
  | _, _ => false
theorem pln_tup {n : Nat} {xs : List D} : pln (n + 1) (.tup xs) = xs.all (pln n) := by rw [pln]
theorem pln_mono : ∀ {n : Nat} {d : D}, pln n d = true → ∀ m, n ≤ m → pln m d = true
  | n, .int _, h, m, _ => by unfold pln; rfl
  | n, .non, h, m, _ => by unfold pln; rfl
  | n, .str x, h, m, _ => by
    have : PyData.canLay0 (.str x) = true := by unfold pln at h; exact h
    unfold pln; exact this
  | 0, .tup xs, h, m, _ => by unfold pln at h; cases h
  | n + 1, .tup xs, h, m, hm => by
    rw [pln_tup] at h
    obtain ⟨m', rfl⟩ : ∃ m', m = m' + 1 := ⟨m - 1, by omega⟩
    rw [pln_tup]
    exact List.all_eq_true.mpr fun x hx => pln_mono (List.all_eq_true.mp h x hx) m' (by omega)
  | _, .bl _, h, _, _ => by unfold pln at h; cases h
  | _, .fz _, h, _, _ => by unfold pln at h; cases h
  | _, .wt _, h, _, _ => by unfold pln at h; cases h
  | _, .ref _, h, _, _ => by unfold pln at h; cases h
  | _, .fn _, h, _, _ => by unfold pln at h; cases h
theorem pures_all : ∀ xs : List D, D.pures xs = xs.all D.pure
  | [] => by simp [D.pures]
  | x :: xs => by rw [D.pures, pures_all xs]; rfl
theorem layAll_all : ∀ xs : List D, PyData.canLayAll0 (D.pys xs) = xs.all fun x => PyData.canLay0 x.py
  | [] => by rw [D.pys, PyData.canLayAll0]; rfl
  | x :: xs => by rw [D.pys, PyData.canLayAll0, layAll_all xs]; rfl
theorem pln_ok : ∀ {n : Nat} {d : D}, pln n d = true → d.pure = true ∧ PyData.canLay0 d.py = true ∧ d.py.depth ≤ n
  | n, .int _, h => by simp [D.pure, D.py, PyData.canLay0, PyData.depth]
  | n, .non, h => by simp [D.pure, D.py, PyData.canLay0, PyData.depth]
  | n, .str x, h => by
    have : PyData.canLay0 (.str x) = true := by unfold pln at h; exact h
    refine ⟨by simp [D.pure], by rw [D.py]; exact this, by rw [D.py, PyData.depth]; omega⟩
  | 0, .tup xs, h => by unfold pln at h; cases h
  | n + 1, .tup xs, h => by
    rw [pln_tup] at h
    have ih : ∀ x ∈ xs, x.pure = true ∧ PyData.canLay0 x.py = true ∧ x.py.depth ≤ n := fun x hx => pln_ok (List.all_eq_true.mp h x hx)
    refine ⟨?_, ?_, ?_⟩
    · rw [D.pure, pures_all]; exact List.all_eq_true.mpr fun x hx => (ih x hx).1
    · rw [D.py, PyData.canLay0, layAll_all]; exact List.all_eq_true.mpr fun x hx => (ih x hx).2.1
    · rw [D.py, PyData.depth]
      have : ∀ ys : List D, (∀ y ∈ ys, y.py.depth ≤ n) → PyData.depthAll (D.pys ys) ≤ n := by
        intro ys
        induction ys with
        | nil => intro _; rw [D.pys, PyData.depthAll]; omega
        | cons y ys ih2 =>
          intro hy
          rw [D.pys, PyData.depthAll]
          have h1 := hy y List.mem_cons_self
          have h2 := ih2 fun z hz => hy z (List.mem_cons_of_mem _ hz)
          omega
      have := this xs fun y hy => (ih y hy).2.2
      omega
  | _, .bl _, h => by unfold pln at h; cases h
  | _, .fz _, h => by unfold pln at h; cases h
  | _, .wt _, h => by unfold pln at h; cases h
  | _, .ref _, h => by unfold pln at h; cases h
  | _, .fn _, h => by unfold pln at h; cases h
theorem pln_shaped {n : Nat} {d : D} (h : pln n d = true) (hn : n ≤ 64) : SeqAt.shaped d.py = true := by
  obtain ⟨_, h1, h2⟩ := pln_ok h
  unfold SeqAt.shaped
  rw [h1, decide_eq_true (by omega)]; rfl
theorem plns_shaped {n : Nat} {xs : List D} (h : xs.all (pln n) = true) (hn : n < 64) : SeqAt.shaped (.list (D.pys xs)) = true := by
  have := pln_shaped (n := n + 1) (d := .tup xs) (by rw [pln_tup]; exact h) (by omega)
  rw [D.py] at this
  unfold SeqAt.shaped at this ⊢
  simp only [PyData.canLay0, PyData.depth] at this ⊢
  exact this
mutual
theorem pln_eqv : ∀ {n m : Nat} (a b : D), pln n a = true → pln m b = true → PyData.eqv a.py b.py = eqD a b
  | n, m, .int i, b, h, h' => by
    cases b with
    | int j => rw [D.py, D.py, v_ii, eqD]
    | non => simp [D.py, PyData.eqv, eqD]
    | str x => simp [D.py, PyData.eqv, eqD]
    | tup xs => simp [D.py, PyData.eqv, eqD]
    | _ => unfold pln at h'; cases h'
  | n, m, .non, b, h, h' => by
    cases b with
    | int j => simp [D.py, PyData.eqv, eqD]
    | non => simp [D.py, PyData.eqv, eqD]
    | str x => simp [D.py, PyData.eqv, eqD]
    | tup xs => simp [D.py, PyData.eqv, eqD]
    | _ => unfold pln at h'; cases h'
  | n, m, .str y, b, h, h' => by
    cases b with
    | int j => simp [D.py, PyData.eqv, eqD]
    | non => simp [D.py, PyData.eqv, eqD]
    | str x => rw [D.py, D.py, v_ss, eqD]
    | tup xs => simp [D.py, PyData.eqv, eqD]
    | _ => unfold pln at h'; cases h'
  | 0, m, .tup ys, b, h, h' => by unfold pln at h; cases h
  | n + 1, m, .tup ys, b, h, h' => by
    cases b with
    | int j => simp [D.py, PyData.eqv, eqD]
    | non => simp [D.py, PyData.eqv, eqD]
    | str x => simp [D.py, PyData.eqv, eqD]
    | tup xs =>
      cases m with
      | zero => unfold pln at h'; cases h'
      | succ m =>
        rw [pln_tup] at h h'
        rw [D.py, D.py, v_tt, eqD]
        exact plns_eqv ys xs h h'
    | _ => unfold pln at h'; cases h'
  | _, _, .bl _, _, h, _ => by unfold pln at h; cases h
  | _, _, .fz _, _, h, _ => by unfold pln at h; cases h
  | _, _, .wt _, _, h, _ => by unfold pln at h; cases h
  | _, _, .ref _, _, h, _ => by unfold pln at h; cases h
  | _, _, .fn _, _, h, _ => by unfold pln at h; cases h
theorem plns_eqv : ∀ {n m : Nat} (a b : List D), a.all (pln n) = true → b.all (pln m) = true → PyData.eqvAll (D.pys a) (D.pys b) = eqDs a b
  | _, _, [], [], _, _ => by rw [ys_n, va_nn, eqDs]
  | _, _, [], _ :: _, _, _ => by simp [ys_n, ys_c, va_nc, eqDs]
  | _, _, _ :: _, [], _, _ => by simp [ys_n, ys_c, va_cn, eqDs]
  | n, m, x :: xs, y :: ys, h, h' => by
    rw [List.all_cons, Bool.and_eq_true] at h h'
    rw [ys_c, ys_c, va_cc, eqDs, pln_eqv x y h.1 h'.1, plns_eqv xs ys h.2 h'.2]
end
theorem eq_pl {n m : Nat} (S : Sto) {a b : D} (h : pln n a = true) (h' : pln m b = true) (hn : n ≤ 64) (hm : m ≤ 64) : eqW S (.d a) (.d b) = some (eqD a b) := by
  rw [eqp S a b (pln_ok h).1 (pln_ok h').1 (pln_shaped h hn) (pln_shaped h' hm), pln_eqv a b h h']
theorem any_pys (xs : List D) (f : PyData → Bool) : (D.pys xs).any f = xs.any fun x => f x.py := by
  induction xs with
  | nil => rw [ys_n]; rfl
  | cons x xs ih => rw [ys_c, List.any_cons, List.any_cons, ih]
theorem any_congr' {α : Type} {f g : α → Bool} : ∀ {xs : List α}, (∀ x ∈ xs, f x = g x) → xs.any f = xs.any g
  | [], _ => rfl
  | x :: xs, h => by rw [List.any_cons, List.any_cons, h x List.mem_cons_self, any_congr' fun y hy => h y (List.mem_cons_of_mem _ hy)]
theorem in_pl {n m : Nat} (S : Sto) {a : D} {ys : List D} (h : pln n a = true) (h' : ys.all (pln m) = true) (hn : n ≤ 64) (hm : m < 64) : inW S (.d a) (.d (.tup ys)) = some (ys.any fun y => eqD y a) := by
  rw [inp S a ys (pln_ok h).1 (pln_shaped h hn) (plns_shaped h' hm), any_pys]
  congr 1
  exact any_congr' fun x hx => pln_eqv x a (List.all_eq_true.mp h' x hx) h
theorem in_lst {n m : Nat} (S : Sto) {a : D} {ys : List D} {w : W} (hw : lstOf S w = some ys) (hd : dicOf S w = none) (ht : ∀ zs, w ≠ .d (.tup zs)) (h : pln n a = true) (h' : ys.all (pln m) = true) (hn : n ≤ 64) (hm : m < 64) : inW S (.d a) w = some (ys.any fun y => eqD y a) := by
  unfold inW
  rw [hd]
  have hs : seqOf S w = some ys := by
    unfold seqOf
    split
    · next zs => exact absurd rfl (ht zs)
    · exact hw
  have hp : pyW S (.d a) = a.py := y_d S a (pln_ok h).1
  rw [hs]
  simp only [hp]
  rw [pln_shaped h hn, plns_shaped h' hm, any_pys]
  simp only [Bool.and_self, if_true]
  congr 1
  exact any_congr' fun x hx => pln_eqv x a (List.all_eq_true.mp h' x hx) h
theorem eqD_inj {α : Type} [DecidableEq α] {f : α → D} (hf : ∀ a b, f a = f b → a = b) (a b : α) : eqD (f a) (f b) = decide (a = b) := by
  by_cases h : a = b
  · subst h; rw [eqD_refl, decide_eq_true rfl]
  · rw [decide_eq_false h]
    cases e : eqD (f a) (f b) with
    | false => rfl
    | true => exact absurd (hf a b (eqD_eq _ _ e)) h
/-! lists -/
theorem eq_ll {n m : Nat} (S : Sto) {x y : W} {xs ys : List D} (hx : pyW S x = .list (D.pys xs)) (hy : pyW S y = .list (D.pys ys)) (h : xs.all (pln n) = true) (h' : ys.all (pln m) = true) (hn : n < 64) (hm : m < 64) : eqW S x y = some (eqDs xs ys) := by
  rw [eq_of S (by rw [hx]; exact plns_shaped h hn) (by rw [hy]; exact plns_shaped h' hm), hx, hy, PyData.eqv, plns_eqv xs ys h h']
theorem py_tmp (S : Sto) (xs : List D) : pyW S (.tmp xs) = .list (D.pys xs) := rfl
theorem py_ref {S : Sto} {n : Nat} {xs : List D} (h : S[n]? = some (.lst xs)) : pyW S (.d (.ref n)) = .list (D.pys xs) := by
  show (match S[n]? with | some (.lst xs) => _ | _ => _) = _
  rw [h]
/-! rows of numbers -/
def dI (xs : List Nat) : D := .tup (xs.map fun (n : Nat) => .int (n : Int))
theorem int_inj (a b : Nat) (h : D.int (a : Int) = D.int (b : Int)) : a = b := by cases h; rfl
theorem map_inj {α β : Type} {f : α → β} (hf : ∀ a b, f a = f b → a = b) : ∀ (xs ys : List α), xs.map f = ys.map f → xs = ys
  | [], [], _ => rfl
  | [], _ :: _, h => by simp at h
  | _ :: _, [], h => by simp at h
  | x :: xs, y :: ys, h => by
    rw [List.map_cons, List.map_cons] at h
    injection h with h1 h2
    rw [hf x y h1, map_inj hf xs ys h2]
theorem dI_inj (a b : List Nat) (h : dI a = dI b) : a = b := by
  unfold dI at h
  injection h with h
  exact map_inj int_inj a b h
theorem pln_dI (xs : List Nat) : pln 1 (dI xs) = true := by
  unfold dI
  rw [pln_tup]
  exact List.all_eq_true.mpr fun x hx => by
    obtain ⟨n, _, rfl⟩ := List.mem_map.mp hx
    unfold pln; rfl
def dR (r : List (List Nat)) : D := .tup (r.map dI)
theorem dR_inj (a b : List (List Nat)) (h : dR a = dR b) : a = b := by
  unfold dR at h
  injection h with h
  exact map_inj dI_inj a b h
theorem pln_dR (xs : List (List Nat)) : pln 2 (dR xs) = true := by
  unfold dR
  rw [pln_tup]
  exact List.all_eq_true.mpr fun x hx => by
    obtain ⟨n, _, rfl⟩ := List.mem_map.mp hx
    exact pln_dI n
abbrev d2 (p : Nat × Nat) : D := .tup [.int (p.1 : Int), .int (p.2 : Int)]
def dM (m : List (Nat × Nat)) : D := .tup (m.map d2)
theorem d2_inj (a b : Nat × Nat) (h : d2 a = d2 b) : a = b := by
  obtain ⟨a1, a2⟩ := a
  obtain ⟨b1, b2⟩ := b
  unfold d2 at h
  simp only at h
  injection h with h
  injection h with h1 h2
  injection h2 with h2 _
  rw [int_inj a1 b1 h1, int_inj a2 b2 h2]
theorem dM_inj (a b : List (Nat × Nat)) (h : dM a = dM b) : a = b := by
  unfold dM at h
  injection h with h
  exact map_inj d2_inj a b h
theorem pln_d2 (p : Nat × Nat) : pln 1 (d2 p) = true := by simp [d2, pln]
theorem pln_dM (xs : List (Nat × Nat)) : pln 2 (dM xs) = true := by
  unfold dM
  rw [pln_tup]
  exact List.all_eq_true.mpr fun x hx => by
    obtain ⟨n, _, rfl⟩ := List.mem_map.mp hx
    exact pln_d2 n
/-! order -/
/-- a < b, place by place -/
def ltN : List Nat → List Nat → Bool
  | [], [] => false
  | [], _ :: _ => true
  | _ :: _, [] => false
  | a :: as, b :: bs => if a = b then ltN as bs else decide (a < b)
theorem toks_dI : ∀ xs : List Nat, PySem.W.keyToks (dI xs).py = PySem.W.keyToksAll (xs.map fun (n : Nat) => PyData.int (n : Int)) := by
  intro xs
  unfold dI
  rw [D.py, PySem.W.keyToks]
  congr 1
  induction xs with
  | nil => rw [List.map_nil, List.map_nil, D.pys]
  | cons x xs ih => rw [List.map_cons, List.map_cons, D.pys, ih, D.py]
theorem lt_ints : ∀ (a b : List Nat), PyProof.Rows.lexLt PyProof.Rows.itemOrd (PySem.W.keyToksAll (a.map fun (n : Nat) => PyData.int (n : Int))) (PySem.W.keyToksAll (b.map fun (n : Nat) => PyData.int (n : Int))) = ltN a b
  | [], [] => by rw [ltN]; decide
  | [], b :: bs => by
    rw [ltN, List.map_nil, List.map_cons, PySem.W.keyToksAll, PySem.W.keyToksAll]
    exact (PySem.W.lex_atom (by decide) _ _).trans (by rw [PySem.W.lex_one]; decide)
  | a :: as, [] => by
    rw [ltN, List.map_nil, List.map_cons, PySem.W.keyToksAll, PySem.W.keyToksAll]
    exact (PySem.W.lex_atom (by decide) _ _).trans (by rw [PySem.W.lex_one]; decide)
  | a :: as, b :: bs => by
    rw [ltN, List.map_cons, List.map_cons]
    by_cases h : a = b
    · subst h
      rw [if_pos rfl, PySem.W.dataLt_all_yes (by rw [PySem.W.alike]) (by rw [PyData.eqv]; simp), lt_ints as bs]
    · rw [if_neg h, PySem.W.dataLt_all_no (by rw [PySem.W.alike]) (by rw [v_ii]; exact decide_eq_false (by omega))]
      unfold PySem.W.dataLt
      rw [PySem.W.keyToks, PySem.W.keyToks, PySem.W.lex_one]
      unfold PyProof.Rows.itemLt
      simp
theorem ltD_dI (a b : List Nat) : ltD (dI a) (dI b) = ltN a b := by
  unfold ltD PySem.W.dataLt
  rw [toks_dI, toks_dI, lt_ints]
theorem alk_ints : ∀ (a b : List Nat), PySem.W.alikeAll (D.pys (a.map fun (n : Nat) => D.int (n : Int))) (D.pys (b.map fun (n : Nat) => D.int (n : Int))) = true
  | [], b => by rw [List.map_nil, D.pys, PySem.W.alikeAll]
  | a :: as, [] => by rw [List.map_nil, D.pys, List.map_cons, D.pys, PySem.W.alikeAll]
  | a :: as, b :: bs => by rw [List.map_cons, List.map_cons, D.pys, D.pys, PySem.W.alikeAll, alk_ints as bs, D.py, D.py, PySem.W.alike]; rfl
theorem alk_dI (a b : List Nat) : alkD (dI a) (dI b) = true := by
  unfold alkD dI
  rw [D.py, D.py, PySem.W.alike]
  exact alk_ints a b
end Z

set_option Elab.async false
set_option linter.all false
set_option maxRecDepth 100000
/-! N1: programs, steps, memory: what the small functions return -/
namespace K53
open PySem PySem.Spec PyProof.Rows L2 Z
inductive Kd where
  | r | w | x | f
  deriving DecidableEq
def Kd.s : Kd → Str
  | .r => "r" | .w => "w" | .x => "x" | .f => "f"
theorem kd_inj (a b : Kd) : decide (a.s = b.s) = decide (a = b) := by cases a <;> cases b <;> decide +kernel
theorem kd_lay (a : Kd) : PyData.canLay0 (.str a.s) = true := by cases a <;> decide +kernel
theorem l_r : (("r" : String) : Str) = Kd.r.s := rfl
theorem l_w : (("w" : String) : Str) = Kd.w.s := rfl
theorem l_x : (("x" : String) : Str) = Kd.x.s := rfl
theorem l_f : (("f" : String) : Str) = Kd.f.s := rfl
theorem lits : type_of% (And.intro l_r (And.intro l_w (And.intro l_x l_f))) := And.intro l_r (And.intro l_w (And.intro l_x l_f))
structure St where
  k : Kd
  p : Nat
  v : Nat
  deriving DecidableEq
def St.d (s : St) : D := .tup [.str s.k.s, .int (s.p : Int), .int (s.v : Int)]
abbrev Pg := List St
def dP (p : Pg) : D := .tup (p.map St.d)
def dPs (ps : List Pg) : D := .tup (ps.map dP)
theorem pln_str (a : Kd) (n : Nat) : pln n (.str a.s) = true := by unfold pln; exact kd_lay a
theorem pln_int (a : Int) (n : Nat) : pln n (.int a) = true := by unfold pln; rfl
theorem pln_st (s : St) : pln 1 s.d = true := by unfold St.d; rw [pln_tup]; simp [pln_str, pln_int]
theorem pln_all {α : Type} {f : α → D} {n : Nat} (h : ∀ x, pln n (f x) = true) (xs : List α) : (xs.map f).all (pln n) = true := List.all_eq_true.mpr fun x hx => by
  obtain ⟨y, _, rfl⟩ := List.mem_map.mp hx
  exact h y
theorem pln_dP (p : Pg) : pln 2 (dP p) = true := by unfold dP; rw [pln_tup]; exact pln_all pln_st p
theorem pln_dPs (p : List Pg) : pln 3 (dPs p) = true := by unfold dPs; rw [pln_tup]; exact pln_all pln_dP p
theorem pu {n : Nat} {d : D} (h : pln n d = true) : d.pure = true := (pln_ok h).1
theorem pu_i (i : Int) : D.pure (.int i) = true := rfl
theorem pu_b (i : Bool) : D.pure (.bl i) = true := rfl
theorem pu_n : D.pures [] = true := rfl
theorem pu_c (x : D) (xs : List D) : D.pures (x :: xs) = (x.pure && D.pures xs) := by rw [D.pures]
theorem pu_t (xs : List D) : D.pure (.tup xs) = D.pures xs := by rw [D.pure]
theorem pu_PS (p : List Pg) : D.pure (dPs p) = true := pu (pln_dPs p)
theorem pu_P (p : Pg) : D.pure (dP p) = true := pu (pln_dP p)
theorem pu_S (p : St) : D.pure p.d = true := pu (pln_st p)
theorem pu_I (p : List Nat) : D.pure (dI p) = true := pu (pln_dI p)
theorem pu_R (p : List (List Nat)) : D.pure (dR p) = true := pu (pln_dR p)
theorem pu_M (p : List (Nat × Nat)) : D.pure (dM p) = true := pu (pln_dM p)
theorem ex_d {d : D} {S : Sto} (h : d.pure = true) : expW (.d d) S = some (.d d) := by
  cases d with
  | ref n => simp [D.pure] at h
  | wt _ => simp [D.pure] at h
  | _ => unfold expW; simp only [h, if_true]
theorem pr1 {a : D} {x : Bool} (hx : x = true) (h : a.pure = true) : (x && D.pures [a]) = true := by rw [hx, pu_c, h]; rfl
theorem pr2 {a b : D} {x : Bool} (hx : x = true) (h : a.pure = true) (h2 : b.pure = true) : (x && D.pures [a, b]) = true := by rw [hx, pu_c, h, pu_c, h2]; rfl
theorem pr3 {a b c : D} {x : Bool} (hx : x = true) (h : a.pure = true) (h2 : b.pure = true) (h3 : c.pure = true) : (x && D.pures [a, b, c]) = true := by rw [hx, pu_c, h, pu_c, h2, pu_c, h3]; rfl
theorem pr4 {a b c d : D} {x : Bool} (hx : x = true) (h : a.pure = true) (h2 : b.pure = true) (h3 : c.pure = true) (h4 : d.pure = true) : (x && D.pures [a, b, c, d]) = true := by rw [hx, pu_c, h, pu_c, h2, pu_c, h3, pu_c, h4]; rfl
theorem q_k (S : Sto) (a b : Kd) : eqW S (.d (.str a.s)) (.d (.str b.s)) = some (decide (a = b)) := by
  rw [eq_pl (n := 0) (m := 0) S (pln_str a 0) (pln_str b 0) (by decide) (by decide), eqD, kd_inj]
theorem q_i (S : Sto) (a b : Int) : eqW S (.d (.int a)) (.d (.int b)) = some (decide (a = b)) := by
  rw [eq_pl (n := 0) (m := 0) S (pln_int a 0) (pln_int b 0) (by decide) (by decide), eqD]
theorem in_k (S : Sto) (a : Kd) (ws : List Kd) : inW S (.d (.str a.s)) (.d (.tup (ws.map fun a => .str a.s))) = some (ws.any fun b => decide (b = a)) := by
  rw [in_pl (n := 0) (m := 0) S (pln_str a 0) (pln_all (fun x => pln_str x 0) ws) (by decide) (by decide), List.any_map]
  congr 1
  refine any_congr' fun x _ => ?_
  show eqD (.str x.s) (.str a.s) = _
  rw [eqD, kd_inj]
theorem in_k2 (S : Sto) (a b c : Kd) : inW S (.d (.str a.s)) (.d (.tup [.str b.s, .str c.s])) = some (decide (b = a) || decide (c = a)) := by
  rw [show inW S (.d (.str a.s)) (.d (.tup [.str b.s, .str c.s])) = _ from in_k S a [b, c]]; simp
theorem in_k4 (S : Sto) (a b c d f : Kd) : inW S (.d (.str a.s)) (.d (.tup [.str b.s, .str c.s, .str d.s, .str f.s])) = some (decide (b = a) || decide (c = a) || decide (d = a) || decide (f = a)) := by
  rw [show inW S (.d (.str a.s)) (.d (.tup [.str b.s, .str c.s, .str d.s, .str f.s])) = _ from in_k S a [b, c, d, f]]; simp [Bool.or_assoc]
theorem kds : type_of% (And.intro @q_k (And.intro @q_i (And.intro @in_k2 (And.intro @in_k4 (And.intro @c_eq (And.intro @c_ne (And.intro @c_in @c_ni))))))) := And.intro @q_k (And.intro @q_i (And.intro @in_k2 (And.intro @in_k4 (And.intro @c_eq (And.intro @c_ne (And.intro @c_in @c_ni))))))
theorem le_pp (ps : List Pg) (S : Sto) : biW S .len [.d (dPs ps)] = some (.d (.int ps.length)) := by
  unfold dPs; rw [bi_lent, List.length_map]
theorem le_p (ps : Pg) (S : Sto) : biW S .len [.d (dP ps)] = some (.d (.int ps.length)) := by
  unfold dP; rw [bi_lent, List.length_map]
theorem le_I (ps : List Nat) (S : Sto) : biW S .len [.d (dI ps)] = some (.d (.int ps.length)) := by
  unfold dI; rw [bi_lent, List.length_map]
theorem le_R (ps : List (List Nat)) (S : Sto) : biW S .len [.d (dR ps)] = some (.d (.int ps.length)) := by
  unfold dR; rw [bi_lent, List.length_map]
theorem g_r : tab.globs.lookup (Str.ofString "READ") = some (.str Kd.r.s) := by kernel_rfl
theorem g_w : tab.globs.lookup (Str.ofString "WRITE") = some (.str Kd.w.s) := by kernel_rfl
theorem g_f : tab.globs.lookup (Str.ofString "FENCE") = some (.str Kd.f.s) := by kernel_rfl
theorem g_x : tab.globs.lookup (Str.ofString "SWAP") = some (.str Kd.x.s) := by kernel_rfl
theorem g_h : tab.globs.lookup (Str.ofString "MOST_HANDS") = some (.int 3) := by kernel_rfl
theorem g_s : tab.globs.lookup (Str.ofString "MOST_STEPS") = some (.int 6) := by kernel_rfl
theorem g_v : tab.globs.lookup (Str.ofString "MOST_VALUES") = some (.int 12) := by kernel_rfl
theorem gls : type_of% (And.intro g_r (And.intro g_w (And.intro g_f (And.intro g_x (And.intro g_h (And.intro g_s g_v)))))) := And.intro g_r (And.intro g_w (And.intro g_f (And.intro g_x (And.intro g_h (And.intro g_s g_v)))))
/-- what is decided of kinds -/
theorem d_t (h : Decidable True) : @decide True h = true := by cases h <;> first | rfl | contradiction
theorem d_f (h : Decidable False) : @decide False h = false := by cases h <;> first | rfl | contradiction
theorem kdec : type_of% (And.intro d_t (And.intro d_f (And.intro Bool.or_true (And.intro Bool.true_or (And.intro Bool.or_false (And.intro Bool.false_or (And.intro Bool.not_true Bool.not_false))))))) :=
  And.intro d_t (And.intro d_f (And.intro Bool.or_true (And.intro Bool.true_or (And.intro Bool.or_false (And.intro Bool.false_or (And.intro Bool.not_true Bool.not_false))))))
/-- programs as they are drawn -/
structure Ok (ps : List Pg) : Prop where
  a : 1 ≤ ps.length
  b : ps.length ≤ 3
  c : ∀ p ∈ ps, p.length ≤ 6
  v : ∀ p ∈ ps, ∀ s ∈ p, 1 ≤ s.v ∧ s.v ≤ 30
  own : ∀ (i j : Nat) (p q : Pg), ps[i]? = some p → ps[j]? = some q → ∀ s ∈ p, ∀ t ∈ q, s.p = t.p → 2 ≤ s.p → i = j
  l : ∀ p ∈ ps, ∀ s ∈ p, s.p ≤ 10
section
variable (F : Nat) (cl : Calls) (S : Sto)
theorem chk_loop1 : ∀ (p : Pg), (∀ s ∈ p, 1 ≤ s.v) → ∀ (a b c d e : Option D), ∃ c' d' e', forLoop [] (stp tab cl F (.tup (.cons (.nm 2 "kind") (.cons (.nm 3 "place") (.cons (.nm 4 "value") .nil)))) lp_check1) (p.map St.d) [a, b, c, d, e] S = some (.nx, [a, b, c', d', e'], S)
  | [], _, a, b, c, d, e => ⟨c, d, e, by rw [List.map_nil, forLoop_nil _ _ (chkG_nil S)]⟩
  | s :: p, h, a, b, c, d, e => by
    obtain ⟨c', d', e', ih⟩ := chk_loop1 p (fun t ht => h t (List.mem_cons_of_mem _ ht)) a b (some (.str s.k.s)) (some (.int (s.p : Int))) (some (.int (s.v : Int)))
    refine ⟨c', d', e', ?_⟩
    have hv := h s List.mem_cons_self
    rw [List.map_cons, forLoop_cons _ _ _ _ (chkG_nil S), stp_e]
    unfold lp_check1 St.d at *
    have h1 : decide ((s.p : Int) < 0) = false := decide_eq_false (by omega)
    have h2 : decide ((s.v : Int) < 1) = false := decide_eq_false (by omega)
    generalize s.k = kd at *
    cases kd <;> simp (disch := first | (refine @id _ ?_; with_unfolding_all rfl) | assumption | omega) only [evl, lits, kds, kdec, reduceCtorEq, gls, h1, h2, ih]
end
end K53

set_option Elab.async false
set_option linter.all false
set_option maxRecDepth 100000
/-! N2: check, start_of, known, stored, changed -/
namespace K53
open PySem PySem.Spec PyProof.Rows L2 Z
theorem six0 (n d : Nat) : HT.sIx n d none = d := rfl
theorem six1 {n d : Nat} {h : Nat} (hh : h ≤ n) : HT.sIx n d (some (h : Int)) = h := by
  rw [HT.sIx_nat]; omega
theorem cut_to (S : Sto) {xs : List D} {h : Nat} (hh : h ≤ xs.length) : slW S (.d (.tup xs)) none (some (h : Int)) = some (.d (.tup (xs.take h))) := by
  show some (W.d (.tup (Z.cutD xs none (some (h : Int))))) = _
  unfold Z.cutD
  rw [six0, six1 hh]
  simp
theorem cut_from (S : Sto) {xs : List D} {h : Nat} (hh : h ≤ xs.length) : slW S (.d (.tup xs)) (some (h : Int)) none = some (.d (.tup (xs.drop h))) := by
  show some (W.d (.tup (Z.cutD xs (some (h : Int)) none))) = _
  unfold Z.cutD
  rw [six0, six1 hh, List.take_of_length_le (by simp)]
theorem cat_t (S : Sto) {a b : List D} (h : a.length + b.length ≤ LN) : binW S .add (.d (.tup a)) (.d (.tup b)) = some (.d (.tup (a ++ b))) := by
  show (if _ then _ else _) = _
  rw [if_pos h]
theorem mul_t (S : Sto) {a : D} {k : Int} (h : 1 ≤ k ∧ k ≤ 1000) : binW S .mul (.d (.tup [a])) (.d (.int k)) = some (.d (.tup (List.replicate k.toNat a))) := by
  show (if _ then _ else _) = _
  have e : (decide (1 ≤ k) && decide (k ≤ 1000) && ![a].isEmpty && decide ([a].length ≤ 1000)) = true := by
    rw [decide_eq_true h.1, decide_eq_true h.2]; rfl
  rw [if_pos e]
  congr 3
  generalize k.toNat = n
  induction n with
  | zero => rfl
  | succ n ih => rw [List.replicate_succ, List.flatten_cons, ih, List.replicate_succ]; rfl
section
variable (F : Nat) (cl : Calls) (S : Sto)
theorem chk_loop2 : ∀ (ps : List Pg), (∀ p ∈ ps, p.length ≤ 6 ∧ ∀ s ∈ p, 1 ≤ s.v) → ∀ (a b c d e : Option D), ∃ b' c' d' e', forLoop [] (stp tab cl F (.nm 1 "program") lp_check2) (ps.map dP) [a, b, c, d, e] S = some (.nx, [a, b', c', d', e'], S)
  | [], _, a, b, c, d, e => ⟨b, c, d, e, by rw [List.map_nil, forLoop_nil _ _ (chkG_nil S)]⟩
  | p :: ps, h, a, b, c, d, e => by
    obtain ⟨h1, h2⟩ := h p List.mem_cons_self
    obtain ⟨c1, d1, e1, l1⟩ := chk_loop1 F cl S p h2 a (some (dP p)) c d e
    obtain ⟨b', c', d', e', ih⟩ := chk_loop2 ps (fun t ht => h t (List.mem_cons_of_mem _ ht)) a (some (dP p)) c1 d1 e1
    refine ⟨b', c', d', e', ?_⟩
    rw [List.map_cons, forLoop_cons _ _ _ _ (chkG_nil S), stp_e]
    have e1 : decide ((6 : Int) < (p.length : Int)) = false := decide_eq_false (by omega)
    have e2 : seqOf S (.d (dP p)) = some (p.map St.d) := rfl
    have e3 : guardOf S (.d (dP p)) = [] := rfl
    unfold lp_check2 at *
    simp (disch := first | (refine @id _ ?_; with_unfolding_all rfl) | assumption | omega) only [evl, lits, kds, kdec, reduceCtorEq, List.isEmpty_nil, List.isEmpty_cons, gls, le_p, e1, e2, e3, l1, ih]
end
section
variable (F n : Nat) (S : Sto)
theorem sp_check {ps : List Pg} (h : Ok ps) : callD F tab pg (n + 1) "check" [dPs ps] S = some (.d .non, S) := by
  refine call_px look_check rfl (pr1 rfl (pu_PS ps)) (w := .d .non) (S' := []) ?_ rfl S
  rw [show env0 d_check [dPs ps] = [some (dPs ps), none, none, none, none] from rfl]
  show fin (evS tab _ F s_check _ _) = _
  unfold s_check
  have e0 := h.a
  have e00 := h.b
  obtain ⟨b', c', d', e', hl⟩ := chk_loop2 F (callD F tab pg n) [] ps (fun p hp => ⟨h.c p hp, fun s hs => (h.v p hp s hs).1⟩) (some (dPs ps)) none none none none
  have e1 : decide ((1 : Int) ≤ (ps.length : Int)) = true := decide_eq_true (by omega)
  have e4 : decide ((ps.length : Int) ≤ 3) = true := decide_eq_true (by omega)
  have e2 : seqOf [] (.d (dPs ps)) = some (ps.map dP) := rfl
  have e3 : guardOf [] (.d (dPs ps)) = [] := rfl
  simp (disch := first | (refine @id _ ?_; with_unfolding_all rfl) | assumption | omega) only [evl, lits, kds, kdec, reduceCtorEq, List.isEmpty_nil, List.isEmpty_cons, gls, le_pp, e1, e4, e2, e3, hl]
/-- an empty row for each hand -/
abbrev em (n : Nat) : List (List Nat) := List.replicate n []
def dSt (n : Nat) (pls : List Nat) (m : List (Nat × Nat)) (r : List (List Nat)) : D := .tup [dI pls, dR (em n), dM m, dR r]
theorem pln_dSt (k : Nat) (pls m r) : pln 3 (dSt k pls m r) = true := by
  unfold dSt
  rw [pln_tup]
  simp only [List.all_cons, List.all_nil, Bool.and_true, Bool.and_eq_true]
  exact ⟨pln_mono (pln_dI pls) 2 (by decide), pln_dR _, pln_dM _, pln_dR _⟩
theorem rep_I (n k : Nat) : D.tup (List.replicate n (.int (k : Int))) = dI (List.replicate n k) := by unfold dI; rw [List.map_replicate]
theorem rep_0 (n : Nat) : D.tup (List.replicate n (.int 0)) = dI (List.replicate n 0) := rep_I n 0
theorem rep_R (n : Nat) : D.tup (List.replicate n (.tup [])) = dR (em n) := by unfold dR; rw [List.map_replicate]; rfl
theorem tn_c (a : Nat) : ((a : Int)).toNat = a := by omega
theorem nil_M : D.tup [] = dM [] := rfl
theorem sp_start {ps : List Pg} (h : Ok ps) : callD F tab pg (n + 1) "start_of" [dPs ps] S = some (.d (dSt ps.length (List.replicate ps.length 0) [] (em ps.length)), S) := by
  refine call_px look_start_of rfl (pr1 rfl (pu_PS ps)) (w := .d (dSt ps.length (List.replicate ps.length 0) [] (em ps.length))) (S' := []) ?_ (ex_d (pu (pln_dSt _ _ _ _))) S
  rw [show env0 d_start_of [dPs ps] = [some (dPs ps)] from rfl]
  show fin (evS tab _ F s_start_of _ _) = _
  unfold s_start_of
  have h1 := h.a
  have h2 := h.b
  have e1 : (1 : Int) ≤ (ps.length : Int) ∧ (ps.length : Int) ≤ 1000 := ⟨by omega, by omega⟩
  simp (disch := first | (refine @id _ ?_; with_unfolding_all rfl) | assumption | omega) only [evl, le_pp, mul_t _ e1, tn_c]
  rw [rep_0, rep_R]
  rfl
/-- what stands at a place -/
def known : List (Nat × Nat) → Nat → Nat
  | [], _ => 0
  | q :: m, p => if q.1 = p then q.2 else known m p
theorem known_loop (cl : Calls) (a : Option D) (p : Nat) : ∀ (m : List (Nat × Nat)) (c d : Option D),
    (∃ ρ', forLoop [] (stp tab cl F (.tup (.cons (.nm 2 "own") (.cons (.nm 3 "value") .nil))) lp_known1) (m.map d2) [a, some (.int (p : Int)), c, d] S = some (.rt (.d (.int (known m p : Int))), ρ', S)) ∨
      (known m p = 0 ∧ ∃ ρ', forLoop [] (stp tab cl F (.tup (.cons (.nm 2 "own") (.cons (.nm 3 "value") .nil))) lp_known1) (m.map d2) [a, some (.int (p : Int)), c, d] S = some (.nx, ρ', S))
  | [], c, d => .inr ⟨rfl, _, by rw [List.map_nil, forLoop_nil _ _ (chkG_nil S)]⟩
  | q :: m, c, d => by
    have ih := known_loop cl a p m (some (.int (q.1 : Int))) (some (.int (q.2 : Int)))
    rw [List.map_cons, forLoop_cons _ _ _ _ (chkG_nil S), stp_e]
    unfold lp_known1 at *
    unfold known
    by_cases e : q.1 = p
    · rw [if_pos e]
      have e1 : decide ((q.1 : Int) = (p : Int)) = true := decide_eq_true (by omega)
      refine .inl ⟨[a, some (.int (p : Int)), some (.int (q.1 : Int)), some (.int (q.2 : Int))], ?_⟩
      simp (disch := first | (refine @id _ ?_; with_unfolding_all rfl) | assumption | omega) only [evl, lits, kds, kdec, reduceCtorEq, List.isEmpty_nil, List.isEmpty_cons, gls, e1]
    · rw [if_neg e]
      have e1 : decide ((q.1 : Int) = (p : Int)) = false := decide_eq_false (by omega)
      rcases ih with ⟨ρ', ih⟩ | ⟨z, ρ', ih⟩
      · refine .inl ⟨ρ', ?_⟩
        simp (disch := first | (refine @id _ ?_; with_unfolding_all rfl) | assumption | omega) only [evl, lits, kds, kdec, reduceCtorEq, List.isEmpty_nil, List.isEmpty_cons, gls, e1, ih]
      · refine .inr ⟨z, ρ', ?_⟩
        simp (disch := first | (refine @id _ ?_; with_unfolding_all rfl) | assumption | omega) only [evl, lits, kds, kdec, reduceCtorEq, List.isEmpty_nil, List.isEmpty_cons, gls, e1, ih]
theorem sp_known (m : List (Nat × Nat)) (p : Nat) : callD F tab pg (n + 1) "known" [dM m, .int (p : Int)] S = some (.d (.int (known m p : Int)), S) := by
  refine call_px look_known rfl (pr2 rfl (pu_M m) rfl) (w := .d (.int (known m p : Int))) (S' := []) ?_ rfl S
  rw [show env0 d_known [dM m, .int (p : Int)] = [some (dM m), some (.int (p : Int)), none, none] from rfl]
  show fin (evS tab _ F s_known _ _) = _
  unfold s_known
  have e2 : seqOf [] (.d (dM m)) = some (m.map d2) := rfl
  have e3 : guardOf [] (.d (dM m)) = [] := rfl
  rcases known_loop F [] (callD F tab pg n) (some (dM m)) p m none none with ⟨ρ', h⟩ | ⟨z, ρ', h⟩
  · simp (disch := first | (refine @id _ ?_; with_unfolding_all rfl) | assumption | omega) only [evl, e2, e3, h]
  · simp (disch := first | (refine @id _ ?_; with_unfolding_all rfl) | assumption | omega) only [evl, e2, e3, h]
    rw [z]; rfl
theorem set_D {xs : List D} {h : Nat} {one : D} (hh : h < xs.length) : xs.take h ++ [one] ++ xs.drop (h + 1) = xs.set h one := by
  rw [List.set_eq_take_append_cons_drop, if_pos hh, List.append_assoc]; rfl
theorem sp_changed {xs : List D} {h : Nat} {one : D} (hp : D.pures xs = true) (ho : one.pure = true) (hh : h < xs.length) (hl : xs.length ≤ 1000) :
    callD F tab pg (n + 1) "changed" [.tup xs, .int (h : Int), one] S = some (.d (.tup (xs.set h one)), S) := by
  have hr : D.pure (.tup (xs.set h one)) = true := by
    rw [pu_t, pures_all] at *
    refine List.all_eq_true.mpr fun x hx => ?_
    rcases List.mem_or_eq_of_mem_set hx with z | z
    · exact List.all_eq_true.mp hp x z
    · rw [z]; exact ho
  refine call_px look_changed rfl (pr3 rfl (by rw [pu_t]; exact hp) rfl ho) (w := .d (.tup (xs.set h one))) (S' := []) ?_ (ex_d hr) S
  rw [show env0 d_changed [.tup xs, .int (h : Int), one] = [some (.tup xs), some (.int (h : Int)), some one] from rfl]
  show fin (evS tab _ F s_changed _ _) = _
  unfold s_changed
  have c1 := cut_to [] (xs := xs) (h := h) (by omega)
  have c2 := cut_from [] (xs := xs) (h := h + 1) (by omega)
  have e1 : ((h : Int) + 1) = ((h + 1 : Nat) : Int) := by omega
  have c3 : binW [] .add (.d (.tup (xs.take h))) (.d (.tup [one])) = some (.d (.tup (xs.take h ++ [one]))) := cat_t [] (by rw [List.length_take]; show _ + 1 ≤ LN; unfold LN; omega)
  have c4 : binW [] .add (.d (.tup (xs.take h ++ [one]))) (.d (.tup (xs.drop (h + 1)))) = some (.d (.tup (xs.take h ++ [one] ++ xs.drop (h + 1)))) := cat_t [] (by simp only [List.length_append, List.length_take, List.length_drop, List.length_cons, List.length_nil]; unfold LN; omega)
  simp (disch := first | (refine @id _ ?_; with_unfolding_all rfl) | assumption | omega) only [evl, c1, e1, c2, c3, c4]
  rw [set_D hh]
theorem ch_I {xs : List Nat} {h v : Nat} (hh : h < xs.length) (hl : xs.length ≤ 1000) : callD F tab pg (n + 1) "changed" [dI xs, .int (h : Int), .int (v : Int)] S = some (.d (dI (xs.set h v)), S) := by
  unfold dI
  rw [sp_changed F n S (by have := pu_I xs; unfold dI at this; rw [pu_t] at this; exact this) rfl (by rw [List.length_map]; exact hh) (by rw [List.length_map]; exact hl), List.map_set]
theorem ch_R {xs : List (List Nat)} {h : Nat} {v : List Nat} (hh : h < xs.length) (hl : xs.length ≤ 1000) : callD F tab pg (n + 1) "changed" [dR xs, .int (h : Int), dI v] S = some (.d (dR (xs.set h v)), S) := by
  unfold dR
  rw [sp_changed F n S (by have := pu_R xs; unfold dR at this; rw [pu_t] at this; exact this) (pu_I v) (by rw [List.length_map]; exact hh) (by rw [List.length_map]; exact hl), List.map_set]
end
end K53

set_option Elab.async false
set_option linter.all false
set_option maxRecDepth 100000
/-! N3: stored, step_of -/
namespace K53
open PySem PySem.Spec PyProof.Rows L2 Z
theorem lc_map {α : Type} {G : Grd} {st : D → Sto → Option (Option D × Sto)} {S : Sto} (enc : α → D) (g : α → Option D) (hc : chkG G S = true) : ∀ (xs : List α) (acc : List D), (∀ x ∈ xs, st (enc x) S = some (g x, S)) → acc.length + xs.length ≤ LN →
    lcLoop G st (xs.map enc) acc S = some (acc ++ xs.filterMap g, S)
  | [], acc, _, _ => by rw [List.map_nil, lcLoop_nil _ _ hc]; simp
  | x :: xs, acc, h, hl => by
    rw [List.length_cons] at hl
    rw [List.map_cons, lcLoop_cons _ _ _ _ hc, h x List.mem_cons_self, bnd_some]
    have h' : ∀ y ∈ xs, st (enc y) S = some (g y, S) := fun y hy => h y (List.mem_cons_of_mem _ hy)
    cases e : g x with
    | none =>
      rw [kLl_n, lc_map enc g hc xs acc h' (by omega), List.filterMap_cons, e]
    | some d =>
      rw [kLl_s _ _ _ _ _ (by omega), lc_map enc g hc xs (acc ++ [d]) h' (by rw [List.length_append, List.length_cons, List.length_nil]; omega), List.filterMap_cons, e, List.append_assoc]
      rfl
theorem fm_some {α β : Type} (f : α → β) : ∀ xs : List α, xs.filterMap (fun x => some (f x)) = xs.map f
  | [] => rfl
  | x :: xs => by rw [List.filterMap_cons, fm_some f xs]; rfl
theorem fm_if {α β : Type} (f : α → β) (p : α → Bool) : ∀ xs : List α, xs.filterMap (fun x => if p x = true then some (f x) else none) = (xs.filter p).map f
  | [] => rfl
  | x :: xs => by
    rw [List.filterMap_cons, fm_if f p xs, List.filter_cons]
    cases p x <;> simp
/-! sorted rows -/
def leP (a b : Nat × Nat) : Bool := !ltN [b.1, b.2] [a.1, a.2]
theorem leP_iff {a b : Nat × Nat} : leP a b = true ↔ a.1 < b.1 ∨ (a.1 = b.1 ∧ a.2 ≤ b.2) := by
  unfold leP
  rw [ltN]
  by_cases h : b.1 = a.1
  · rw [if_pos h, ltN]
    by_cases h2 : b.2 = a.2
    · rw [if_pos h2, ltN]; simp; omega
    · rw [if_neg h2]; simp; omega
  · rw [if_neg h]; simp; omega
def sm (xs : List (Nat × Nat)) : List (Nat × Nat) := xs.mergeSort leP
theorem sm_perm (xs : List (Nat × Nat)) : (sm xs).Perm xs := List.mergeSort_perm _ _
theorem sm_sorted (xs : List (Nat × Nat)) : (sm xs).Pairwise (fun a b => leP a b = true) :=
  List.pairwise_mergeSort (fun a b c h1 h2 => by rw [leP_iff] at *; omega) (fun a b => by
    cases e : leP a b with
    | true => rfl
    | false =>
      have : leP b a = true := by
        rw [leP_iff]
        have h : ¬ (leP a b = true) := by rw [e]; exact Bool.false_ne_true
        rw [leP_iff] at h
        omega
      rw [this]; rfl) xs
theorem sm_unique {l m : List (Nat × Nat)} (p : l.Perm m) (hl : l.Pairwise (fun a b => leP a b = true)) (hm : m.Pairwise (fun a b => leP a b = true)) : l = m :=
  p.eq_of_pairwise (fun a b _ _ h1 h2 => by
    rw [leP_iff] at h1 h2
    obtain ⟨a1, a2⟩ := a
    obtain ⟨b1, b2⟩ := b
    simp only at h1 h2
    have e1 : a1 = b1 := by omega
    have e2 : a2 = b2 := by omega
    rw [e1, e2]) hl hm
theorem sm_congr {xs ys : List (Nat × Nat)} (p : xs.Perm ys) : sm xs = sm ys := sm_unique (((sm_perm xs).trans p).trans (sm_perm ys).symm) (sm_sorted xs) (sm_sorted ys)
theorem d2_I (p : Nat × Nat) : d2 p = dI [p.1, p.2] := rfl
theorem sortD_d2 (xs : List (Nat × Nat)) : sortD (xs.map d2) = (sm xs).map d2 := by
  unfold sortD sm
  exact (List.map_mergeSort (r := leP) (s := fun a b => !ltD b a) (f := d2) (l := xs) fun a _ b _ => by
    show leP a b = !ltD (d2 b) (d2 a)
    rw [d2_I, d2_I, ltD_dI]; rfl).symm
theorem ord_d2 (xs : List (Nat × Nat)) : ordOk (xs.map d2) = true := by
  unfold ordOk
  have h1 : ((xs.map d2).all fun x => SeqAt.shaped x.py) = true := List.all_eq_true.mpr fun x hx => by
    obtain ⟨y, _, rfl⟩ := List.mem_map.mp hx
    exact pln_shaped (pln_d2 y) (by decide)
  have h2 : ((xs.map d2).all fun x => (xs.map d2).all fun y => alkD x y) = true := List.all_eq_true.mpr fun x hx => List.all_eq_true.mpr fun z hz => by
    obtain ⟨y, _, rfl⟩ := List.mem_map.mp hx
    obtain ⟨w, _, rfl⟩ := List.mem_map.mp hz
    exact alk_dI [y.1, y.2] [w.1, w.2]
  have h3 : (xs.map d2).all tupNE = true := List.all_eq_true.mpr fun x hx => by
    obtain ⟨y, _, rfl⟩ := List.mem_map.mp hx
    rfl
  rw [h1, h2, h3]; rfl
theorem ints_d2 {xs : List (Nat × Nat)} (h : xs ≠ []) : intsOf (xs.map d2) = none := by
  cases xs with
  | nil => exact absurd rfl h
  | cons x xs => rfl
theorem srt_d2 {S : Sto} {w : W} {xs : List (Nat × Nat)} (h : xs ≠ []) (hw : collW S w = some (xs.map d2)) : biW S .sorted [w] = some (.tmp ((sm xs).map d2)) := by
  show (collW S w).bind _ = _
  rw [hw]
  simp only [Option.bind, ints_d2 h, ord_d2, if_true, sortD_d2]
theorem coll_r {S : Sto} {n : Nat} {xs : List D} (h : S[n]? = some (.lst xs)) : collW S (.d (.ref n)) = some xs := by
  have hd : dicOf S (.d (.ref n)) = none := by
    unfold dicOf
    simp only [h, isDO]
    rfl
  unfold collW
  rw [hd]
  show (match S[n]? with | some (.lst xs) => some xs | _ => none) = _
  rw [h]
def stored (m : List (Nat × Nat)) (p v : Nat) : List (Nat × Nat) := sm ((m.filter fun q => decide (q.1 ≠ p)) ++ [(p, v)])
section
variable (F n : Nat) (S : Sto)
theorem sp_stored {m : List (Nat × Nat)} (p v : Nat) (hl : m.length ≤ 1000) : callD F tab pg (n + 1) "stored" [dM m, .int (p : Int), .int (v : Int)] S = some (.d (dM (stored m p v)), S) := by
  refine call_px look_stored rfl (pr3 rfl (pu_M m) rfl rfl) (w := .d (dM (stored m p v))) (S' := [.lst (((m.filter fun q => decide (q.1 ≠ p)) ++ [(p, v)]).map d2)]) ?_ (ex_d (pu_M _)) S
  rw [show env0 d_stored [dM m, .int (p : Int), .int (v : Int)] = [some (dM m), some (.int (p : Int)), some (.int (v : Int)), none, none] from rfl]
  show fin (evS tab _ F s_stored _ _) = _
  unfold s_stored
  have e2 : seqOf [] (.d (dM m)) = some (m.map d2) := rfl
  have e3 : guardOf [] (.d (dM m)) = [] := rfl
  have hlc : lcLoop [] (lcStep tab (callD F tab pg n) [((Str.ofString "row"), 4)] ce_stored1 (.nm 4 (Str.ofString "row")) ct_stored1 [some (dM m), some (.int (p : Int)), some (.int (v : Int)), none, none]) (m.map d2) [] [] = some ((m.filter fun q => decide (q.1 ≠ p)).map d2, []) := by
    rw [lc_map d2 (fun q => if decide (q.1 ≠ p) = true then some (d2 q) else none) (chkG_nil _) m [] (fun q _ => ?_) (by simp; unfold LN; omega), fm_if]
    · rfl
    · rw [lcStep_e]
      have hw : wipeD [some (dM m), some (.int (p : Int)), some (.int (v : Int)), none, none] (List.map (·.2) [((Str.ofString "row"), 4)]) = [some (dM m), some (.int (p : Int)), some (.int (v : Int)), none, none] := rfl
      rw [hw]
      unfold ce_stored1 ct_stored1
      by_cases e : q.1 = p
      · have e1 : decide ((q.1 : Int) = (p : Int)) = true := decide_eq_true (by omega)
        rw [if_neg (by simp [e])]
        simp (disch := first | (refine @id _ ?_; with_unfolding_all rfl) | assumption | omega) only [evl, lits, kds, kdec, reduceCtorEq, List.isEmpty_nil, List.isEmpty_cons, gls, e1]
      · have e1 : decide ((q.1 : Int) = (p : Int)) = false := decide_eq_false (by omega)
        rw [if_pos (decide_eq_true e)]
        simp (disch := first | (refine @id _ ?_; with_unfolding_all rfl) | assumption | omega) only [evl, lits, kds, kdec, reduceCtorEq, List.isEmpty_nil, List.isEmpty_cons, gls, e1]
  have hb : binW [] .add (.tmp ((m.filter fun q => decide (q.1 ≠ p)).map d2)) (.tmp [.tup [.int (p : Int), .int (v : Int)]]) = some (.tmp (((m.filter fun q => decide (q.1 ≠ p)) ++ [(p, v)]).map d2)) := by
    show (if _ then _ else _) = _
    have := List.length_filter_le (fun q : Nat × Nat => decide (q.1 ≠ p)) m
    rw [if_pos (by rw [List.length_map]; show _ + 1 ≤ LN; unfold LN; omega), List.map_append]
    rfl
  simp (disch := first | (refine @id _ ?_; with_unfolding_all rfl) | assumption | omega) only [evl, e2, e3, hlc, hb]
  rw [srt_d2 (xs := (m.filter fun q => decide (q.1 ≠ p)) ++ [(p, v)]) (by simp) (coll_r rfl)]
  simp (disch := first | (refine @id _ ?_; with_unfolding_all rfl) | assumption | omega) only [evl]
  rfl
/-- a step of a hand: memory and what it reads -/
def stepM (s : St) (m : List (Nat × Nat)) : List (Nat × Nat) := match s.k with
  | .w => stored m s.p s.v
  | .x => stored m s.p s.v
  | _ => m
def stepR (s : St) (m : List (Nat × Nat)) (own : List Nat) : List Nat := match s.k with
  | .r => own ++ [known m s.p]
  | .x => own ++ [known m s.p]
  | _ => own
theorem em_get {k h : Nat} (hh : h < k) : atI ((em k).map dI) (h : Int) = some (.tup []) := by
  rw [atI_nn, List.getElem?_map, List.getElem?_replicate, if_pos hh]; rfl
theorem R_get {r : List (List Nat)} {h : Nat} {own : List Nat} (hr : r[h]? = some own) : atI (r.map dI) (h : Int) = some (dI own) := by
  rw [atI_nn, List.getElem?_map, hr]; rfl
theorem ix_R (S : Sto) {r : List (List Nat)} {h : Nat} {own : List Nat} (hr : r[h]? = some own) : ixW S (.d (dR r)) (.d (.int (h : Int))) = some (.d (dI own)) := by
  unfold dR
  rw [ix_t, R_get hr]; rfl
theorem ix_E (S : Sto) {k h : Nat} (hh : h < k) : ixW S (.d (dR (em k))) (.d (.int (h : Int))) = some (.d (.tup [])) := by
  unfold dR
  rw [ix_t, em_get hh]; rfl
theorem snoc_I (S : Sto) (own : List Nat) (v : Nat) (hl : own.length ≤ 1000) : binW S .add (.d (dI own)) (.d (.tup [.int (v : Int)])) = some (.d (dI (own ++ [v]))) := by
  unfold dI
  rw [cat_t S (by rw [List.length_map]; show _ + 1 ≤ LN; unfold LN; omega), List.map_append]; rfl
theorem tru_nil (S : Sto) : truW S (.d (.tup [])) = some false := rfl
theorem sp_step {s : St} {k h : Nat} {pls : List Nat} {m : List (Nat × Nat)} {r : List (List Nat)} {own : List Nat} (hh : h < k) (hk : k ≤ 3) (hr : r[h]? = some own) (hl : r.length ≤ 1000) (ho : own.length ≤ 1000) (hm : m.length ≤ 1000) :
    callD F tab pg (n + 2) "step_of" [s.d, dSt k pls m r, .int (h : Int), .bl false] S = some (.d (.tup [dR (em k), dM (stepM s m), dR (r.set h (stepR s m own))]), S) := by
  have hrl : h < r.length := (List.getElem?_eq_some_iff.mp hr).1
  have hset : r.set h own = r := by
    obtain ⟨h1, h2⟩ := List.getElem?_eq_some_iff.mp hr
    rw [← h2]; exact List.set_getElem_self h1
  have hp : ∀ m' r', D.pure (.tup [dR (em k), dM m', dR r']) = true := fun m' r' => by rw [pu_t, pu_c, pu_c, pu_c, pu_R, pu_M, pu_R]; rfl
  obtain ⟨kd, p, v⟩ := s
  have ek := ix_E [] (k := k) hh
  have er := ix_R [] hr
  have es : seqOf [] (.d (.tup [])) = some [] := rfl
  have eg : guardOf [] (.d (.tup [])) = [] := rfl
  have el : ∀ st : D → Sto → Option (Option D × Sto), lcLoop [] st [] [] [] = some ([], []) := fun st => lcLoop_nil _ _ (chkG_nil _)
  have go : ∀ S', fin (evS tab (callD F tab pg (n + 1)) F s_step_of [some (St.d ⟨kd, p, v⟩), some (dSt k pls m r), some (.int (h : Int)), some (.bl false), none, none, none, none, none, none, none, none, none, none] []) = some (.d (.tup [dR (em k), dM (stepM ⟨kd, p, v⟩ m), dR (r.set h (stepR ⟨kd, p, v⟩ m own))]), S') → callD F tab pg (n + 2) "step_of" [St.d ⟨kd, p, v⟩, dSt k pls m r, .int (h : Int), .bl false] S = some (.d (.tup [dR (em k), dM (stepM ⟨kd, p, v⟩ m), dR (r.set h (stepR ⟨kd, p, v⟩ m own))]), S) := fun S' hf =>
    call_px look_step_of rfl (pr4 rfl (pu_S _) (pu (pln_dSt _ _ _ _)) rfl rfl) (w := .d (.tup [dR (em k), dM (stepM ⟨kd, p, v⟩ m), dR (r.set h (stepR ⟨kd, p, v⟩ m own))])) (S' := S') hf (ex_d (hp _ _)) S
  have d1 : St.d ⟨kd, p, v⟩ = .tup [.str kd.s, .int (p : Int), .int (v : Int)] := rfl
  have d2' : dSt k pls m r = .tup [dI pls, dR (em k), dM m, dR r] := rfl
  have kn := fun S => sp_known F n S m p
  have sn := fun S => snoc_I S own (known m p) ho
  have sto := fun S => sp_stored F n S p v hm
  have cr := fun S (w : List Nat) => ch_R F n S (xs := r) (h := h) (v := w) hrl hl
  have lx : lstO ([O.lst []] : Sto)[0]? = some [] := rfl
  have tx : truW [O.lst []] (.d (.ref 0)) = some false := rfl
  have ek2 := ix_E [O.lst []] (k := k) hh
  have er2 := ix_R [O.lst []] hr
  cases kd with
  | r =>
    refine go [.lst []] ?_
    unfold s_step_of stepM stepR
    rw [d1, d2']
    simp (disch := first | (refine @id _ ?_; with_unfolding_all rfl) | assumption | omega) only [evl, lits, kds, kdec, reduceCtorEq, List.isEmpty_nil, List.isEmpty_cons, gls, ek, er, es, eg, el, tx, kn, er2, sn, cr, List.length_nil, List.nil_append]
  | w =>
    refine go [] ?_
    unfold s_step_of stepM stepR
    rw [d1, d2', hset]
    simp (disch := first | (refine @id _ ?_; with_unfolding_all rfl) | assumption | omega) only [evl, lits, kds, kdec, reduceCtorEq, List.isEmpty_nil, List.isEmpty_cons, gls, ek, er, tru_nil, sto]
  | f =>
    refine go [] ?_
    unfold s_step_of stepM stepR
    rw [d1, d2', hset]
    simp (disch := first | (refine @id _ ?_; with_unfolding_all rfl) | assumption | omega) only [evl, lits, kds, kdec, reduceCtorEq, List.isEmpty_nil, List.isEmpty_cons, gls, ek, er, tru_nil, sto]
  | x =>
    refine go [] ?_
    unfold s_step_of stepM stepR
    rw [d1, d2']
    simp (disch := first | (refine @id _ ?_; with_unfolding_all rfl) | assumption | omega) only [evl, lits, kds, kdec, reduceCtorEq, List.isEmpty_nil, List.isEmpty_cons, gls, ek, er, tru_nil, sto, kn, sn, cr]
end
end K53

set_option Elab.async false
set_option linter.all false
set_option maxRecDepth 100000
/-! N4: is_so_far, states, run_in_order -/
namespace K53
open PySem PySem.Spec PyProof.Rows L2 Z
theorem cut_any (S : Sto) {xs : List D} (h : Nat) : slW S (.d (.tup xs)) none (some (h : Int)) = some (.d (.tup (xs.take h))) := by
  show some (W.d (.tup (Z.cutD xs none (some (h : Int))))) = _
  unfold Z.cutD
  rw [six0, HT.sIx_nat, Nat.sub_zero, List.drop_zero]
  congr 3
  rcases Nat.le_total h xs.length with z | z
  · rw [Nat.min_eq_left z]
  · rw [Nat.min_eq_right z, List.take_of_length_le z, List.take_of_length_le (Nat.le_refl _)]
theorem cut_I (S : Sto) (xs : List Nat) (h : Nat) : slW S (.d (dI xs)) none (some (h : Int)) = some (.d (dI (xs.take h))) := by
  unfold dI; rw [cut_any, List.map_take]
theorem eq_I (S : Sto) (a b : List Nat) : eqW S (.d (dI a)) (.d (dI b)) = some (decide (a = b)) := by
  rw [eq_pl S (pln_dI a) (pln_dI b) (by decide) (by decide), eqD_inj dI_inj]
theorem zipL_map {α β : Type} (f : α → D) (g : β → D) : ∀ (xs : List α) (ys : List β), zipL (xs.map f) (ys.map g) = (xs.zip ys).map fun p => .wt [f p.1, g p.2] := by
  intro xs ys
  unfold zipL
  apply List.ext_getElem?
  intro i
  rw [List.getElem?_map, List.getElem?_map, List.length_map, List.length_map]
  by_cases h : i < min xs.length ys.length
  · have h1 : i < xs.length := by omega
    have h2 : i < ys.length := by omega
    rw [List.getElem?_range h]
    have e1 : (xs.zip ys)[i]? = some (xs[i], ys[i]) := by
      rw [List.getElem?_zip_eq_some]
      exact ⟨by simp [h1], by simp [h2]⟩
    rw [e1]
    simp [List.getD, h1, h2]
  · rw [List.getElem?_eq_none (by simpa using h), List.getElem?_eq_none (by rw [List.length_zip]; omega)]
    rfl
theorem bls_map {α : Type} (f : α → Bool) : ∀ xs : List α, blsOf (xs.map fun x => D.bl (f x)) = some (xs.map f)
  | [] => rfl
  | x :: xs => by rw [List.map_cons]; unfold blsOf; rw [bls_map f xs]; rfl
theorem all_map {α : Type} (S : Sto) (f : α → Bool) (xs : List α) : biW S .all [.tmp (xs.map fun x => D.bl (f x))] = some (.d (.bl (xs.all f))) := by
  show ((lstOf S (.tmp _)).bind fun xs => (blsOf xs).map fun bs => W.d (.bl (bs.all id))) = _
  show (blsOf _).map _ = _
  rw [bls_map]
  simp
theorem any_map {α : Type} (S : Sto) (f : α → Bool) (xs : List α) : biW S .any [.tmp (xs.map fun x => D.bl (f x))] = some (.d (.bl (xs.any f))) := by
  show ((lstOf S (.tmp _)).bind fun xs => (blsOf xs).map fun bs => W.d (.bl (bs.any id))) = _
  show (blsOf _).map _ = _
  rw [bls_map]
  simp
def soFar (r er : List (List Nat)) : Bool := decide (er.length = r.length) && (r.zip er).all fun p => decide (p.1 = p.2.take p.1.length)
abbrev dEnd (er : List (List Nat)) (m : List (Nat × Nat)) : D := .tup [dR er, dM m]
theorem pu_End (er m) : D.pure (dEnd er m) = true := by rw [pu_t, pu_c, pu_c, pu_R, pu_M]; rfl
section
variable (F n : Nat) (S : Sto)
theorem sp_so_far (r er : List (List Nat)) (m : List (Nat × Nat)) (hl : r.length ≤ 1000) : callD F tab pg (n + 1) "is_so_far" [dR r, dEnd er m] S = some (.d (.bl (soFar r er)), S) := by
  refine call_px look_is_so_far rfl (pr2 rfl (pu_R r) (pu_End er m)) (w := .d (.bl (soFar r er))) (S' := []) ?_ rfl S
  rw [show env0 d_is_so_far [dR r, dEnd er m] = [some (dR r), some (dEnd er m), none, none] from rfl]
  show fin (evS tab _ F s_is_so_far _ _) = _
  unfold s_is_so_far soFar
  by_cases e : er.length = r.length
  · have e1 : decide ((er.length : Int) = (r.length : Int)) = true := decide_eq_true (by omega)
    have hz : zipW [] (.d (dR r)) (.d (dR er)) = some (((r.zip er).map fun p => D.wt [dI p.1, dI p.2], []), []) := by
      unfold dR; rw [zip_tt, zipL_map]
    have hlc : lcLoop [] (lcStep tab (callD F tab pg n) [((Str.ofString "own"), 2), ((Str.ofString "told"), 3)] ce_is_so_far1 (.tup (.cons (.nm 2 (Str.ofString "own")) (.cons (.nm 3 (Str.ofString "told")) .nil))) .nil [some (dR r), some (dEnd er m), none, none]) ((r.zip er).map fun p => D.wt [dI p.1, dI p.2]) [] [] = some ((r.zip er).map fun p => D.bl (decide (p.1 = p.2.take p.1.length)), []) := by
      rw [lc_map (fun p : List Nat × List Nat => D.wt [dI p.1, dI p.2]) (fun p => some (D.bl (decide (p.1 = p.2.take p.1.length)))) (chkG_nil _) (r.zip er) [] (fun q _ => ?_) (by rw [List.length_zip]; simp; unfold LN; omega), fm_some]
      · rfl
      · rw [lcStep_e]
        have hw : wipeD [some (dR r), some (dEnd er m), none, none] (List.map (·.2) [((Str.ofString "own"), 2), ((Str.ofString "told"), 3)]) = [some (dR r), some (dEnd er m), none, none] := rfl
        rw [hw]
        unfold ce_is_so_far1
        simp (disch := first | (refine @id _ ?_; with_unfolding_all rfl) | assumption | omega) only [evl, lits, kds, kdec, reduceCtorEq, List.isEmpty_nil, List.isEmpty_cons, gls, le_I, cut_I, eq_I]
    rw [decide_eq_true e, Bool.true_and]
    simp (disch := first | (refine @id _ ?_; with_unfolding_all rfl) | assumption | omega) only [evl, lits, kds, kdec, reduceCtorEq, List.isEmpty_nil, List.isEmpty_cons, gls, le_R, e1, hz, hlc, all_map]
  · have e1 : decide ((er.length : Int) = (r.length : Int)) = false := decide_eq_false (by omega)
    rw [decide_eq_false e, Bool.false_and]
    simp (disch := first | (refine @id _ ?_; with_unfolding_all rfl) | assumption | omega) only [evl, lits, kds, kdec, reduceCtorEq, List.isEmpty_nil, List.isEmpty_cons, gls, le_R, e1]
end
/-! states -/
structure Sta where
  pl : List Nat
  m : List (Nat × Nat)
  r : List (List Nat)
  deriving DecidableEq
def Sta.d (k : Nat) (t : Sta) : D := dSt k t.pl t.m t.r
def goS (s : St) (h : Nat) (t : Sta) : Sta := ⟨t.pl.set h (t.pl.getD h 0 + 1), stepM s t.m, t.r.set h (stepR s t.m (t.r.getD h []))⟩
def nxt (ps : List Pg) (h : Nat) (t : Sta) : Option St := (ps[h]?).bind fun p => p[t.pl.getD h 0]?
structure SI (ps : List Pg) (t : Sta) : Prop where
  lp : t.pl.length = ps.length
  lr : t.r.length = ps.length
  le : ∀ (h : Nat) p, ps[h]? = some p → t.pl.getD h 0 ≤ p.length
  rl : ∀ h : Nat, (t.r.getD h []).length ≤ t.pl.getD h 0
  ml : t.m.length ≤ t.pl.sum
theorem sum_set : ∀ (xs : List Nat) (h : Nat), h < xs.length → (xs.set h (xs.getD h 0 + 1)).sum = xs.sum + 1
  | x :: xs, 0, _ => by simp; omega
  | x :: xs, h + 1, hh => by
    have := sum_set xs h (by simpa using hh)
    simp only [List.set_cons_succ, List.sum_cons, List.getD_cons_succ] at *
    omega
theorem getD_set {α : Type} (xs : List α) (h i : Nat) (v d : α) (hh : h < xs.length) : (xs.set h v).getD i d = if i = h then v else xs.getD i d := by
  rw [List.getD_eq_getElem?_getD, List.getD_eq_getElem?_getD, List.getElem?_set]
  by_cases e : h = i
  · rw [if_pos e, if_pos (by omega), if_pos e.symm]; rfl
  · rw [if_neg e, if_neg (fun z => e z.symm)]
theorem stored_len (m : List (Nat × Nat)) (p v : Nat) : (stored m p v).length ≤ m.length + 1 := by
  unfold stored
  rw [(sm_perm _).length_eq, List.length_append]
  have := List.length_filter_le (fun q : Nat × Nat => decide (q.1 ≠ p)) m
  show _ + 1 ≤ _
  omega
theorem nxt_some {ps : List Pg} {h : Nat} {t : Sta} {s : St} (e : nxt ps h t = some s) : ∃ p, ps[h]? = some p ∧ p[t.pl.getD h 0]? = some s := by
  unfold nxt at e
  cases hp : ps[h]? with
  | none => rw [hp] at e; cases e
  | some p => rw [hp] at e; exact ⟨p, rfl, e⟩
theorem SI.go {ps : List Pg} {h : Nat} {t : Sta} {s : St} (I : SI ps t) (e : nxt ps h t = some s) : SI ps (goS s h t) := by
  obtain ⟨p, h1, h2⟩ := nxt_some e
  have hh : h < ps.length := (List.getElem?_eq_some_iff.mp h1).1
  have hs := (List.getElem?_eq_some_iff.mp h2).1
  refine ⟨by show (List.set _ _ _).length = _; rw [List.length_set, I.lp], by show (List.set _ _ _).length = _; rw [List.length_set, I.lr], fun i q hq => ?_, fun i => ?_, ?_⟩
  · show (List.set _ _ _).getD i 0 ≤ _
    rw [getD_set _ _ _ _ _ (by rw [I.lp]; exact hh)]
    by_cases z : i = h
    · subst z
      rw [h1] at hq
      cases hq
      rw [if_pos rfl]; omega
    · rw [if_neg z]; exact I.le i q hq
  · show ((List.set _ _ _).getD i []).length ≤ (List.set _ _ _).getD i 0
    have lp := I.lp
    have lr := I.lr
    rw [getD_set t.r _ _ _ _ (by omega), getD_set t.pl _ _ _ _ (by omega)]
    by_cases z : i = h
    · rw [if_pos z, if_pos z]
      have := I.rl h
      unfold stepR
      split <;> (try simp only [List.length_append, List.length_cons, List.length_nil]) <;> omega
    · rw [if_neg z, if_neg z]; exact I.rl i
  · show (stepM s t.m).length ≤ (List.set _ _ _).sum
    rw [sum_set _ _ (by rw [I.lp]; exact hh)]
    have := I.ml
    have := stored_len t.m s.p s.v
    unfold stepM
    split <;> omega
theorem sum_le : ∀ (ps : List Pg) (pl : List Nat), pl.length = ps.length → (∀ (h : Nat) p, ps[h]? = some p → pl.getD h 0 ≤ p.length) → pl.sum ≤ (ps.map List.length).sum
  | [], [], _, _ => Nat.le_refl _
  | [], _ :: _, h, _ => by simp at h
  | _ :: _, [], h, _ => by simp at h
  | p :: ps, x :: pl, h, hle => by
    have h1 := hle 0 p rfl
    have h2 := sum_le ps pl (by simpa using h) fun i q hq => by
      have := hle (i + 1) q (by simpa using hq)
      simpa using this
    simp only [List.map_cons, List.sum_cons, List.getD_cons_zero] at *
    omega
theorem tot_le {ps : List Pg} (h : Ok ps) : (ps.map List.length).sum ≤ 18 := by
  have key : ∀ qs : List Pg, (∀ p ∈ qs, p.length ≤ 6) → (qs.map List.length).sum ≤ 6 * qs.length := by
    intro qs
    induction qs with
    | nil => intro _; simp
    | cons q qs ih =>
      intro hq
      have h1 := hq q List.mem_cons_self
      have h2 := ih fun p hp => hq p (List.mem_cons_of_mem _ hp)
      rw [List.map_cons, List.sum_cons, List.length_cons]
      omega
  have := key ps h.c
  have := h.b
  omega
theorem SI.m18 {ps : List Pg} {t : Sta} (h : Ok ps) (I : SI ps t) : t.m.length ≤ 18 := by
  have := sum_le ps t.pl I.lp I.le
  have := tot_le h
  have := I.ml
  omega
theorem SI.r6 {ps : List Pg} {t : Sta} (h : Ok ps) (I : SI ps t) (i : Nat) : (t.r.getD i []).length ≤ 6 := by
  have h1 := I.rl i
  by_cases hi : i < ps.length
  · have h2 := I.le i ps[i] (by simp [hi])
    have h3 := h.c ps[i] (List.getElem_mem hi)
    omega
  · rw [List.getD_eq_getElem?_getD, List.getElem?_eq_none (by rw [I.lr]; omega)]; simp
def st0 (k : Nat) : Sta := ⟨List.replicate k 0, [], em k⟩
theorem SI.start (ps : List Pg) : SI ps (st0 ps.length) := by
  refine ⟨by simp [st0], by simp [st0], fun h p _ => ?_, fun h => ?_, Nat.zero_le _⟩
  · show (List.replicate _ 0).getD h 0 ≤ _
    rw [List.getD_eq_getElem?_getD, List.getElem?_replicate]
    split <;> simp
  · show ((em _).getD h []).length ≤ (List.replicate _ 0).getD h 0
    rw [List.getD_eq_getElem?_getD, List.getElem?_replicate]
    split <;> simp
theorem getD_some {α : Type} {xs : List α} {h : Nat} (d : α) (hh : h < xs.length) : xs[h]? = some (xs.getD h d) := by
  rw [List.getD_eq_getElem?_getD, List.getElem?_eq_getElem hh]; rfl
section
variable (F n : Nat) (S : Sto)
theorem sp_stepS {ps : List Pg} {t : Sta} {s : St} {h : Nat} (ok : Ok ps) (I : SI ps t) (e : nxt ps h t = some s) :
    callD F tab pg (n + 2) "step_of" [s.d, t.d ps.length, .int (h : Int), .bl false] S = some (.d (.tup [dR (em ps.length), dM (goS s h t).m, dR (goS s h t).r]), S) := by
  obtain ⟨p, h1, h2⟩ := nxt_some e
  have hh : h < ps.length := (List.getElem?_eq_some_iff.mp h1).1
  have hb := ok.b
  have h18 := I.m18 ok
  have h6 := I.r6 ok h
  exact sp_step F n S hh hb (getD_some [] (by rw [I.lr]; exact hh)) (by rw [I.lr]; omega) (by omega) (by omega)
theorem ix_PP (S : Sto) {ps : List Pg} {h : Nat} {p : Pg} (e : ps[h]? = some p) : ixW S (.d (dPs ps)) (.d (.int (h : Int))) = some (.d (dP p)) := by
  unfold dPs
  rw [ix_t, atI_nn, List.getElem?_map, e]; rfl
theorem ix_P (S : Sto) {p : Pg} {h : Nat} {s : St} (e : p[h]? = some s) : ixW S (.d (dP p)) (.d (.int (h : Int))) = some (.d s.d) := by
  unfold dP
  rw [ix_t, atI_nn, List.getElem?_map, e]; rfl
theorem ix_I (S : Sto) {p : List Nat} {h : Nat} {s : Nat} (e : p[h]? = some s) : ixW S (.d (dI p)) (.d (.int (h : Int))) = some (.d (.int (s : Int))) := by
  unfold dI
  rw [ix_t, atI_nn, List.getElem?_map, e]; rfl
theorem cat_st (S : Sto) (k : Nat) (pl : List Nat) (m : List (Nat × Nat)) (r : List (List Nat)) : binW S .add (.d (.tup [dI pl])) (.d (.tup [dR (em k), dM m, dR r])) = some (.d (Sta.d k ⟨pl, m, r⟩)) := cat_t S (by show 1 + 3 ≤ LN; decide)
/-- rows that can be walked to the end -/
def Run (ps : List Pg) : List Nat → Sta → Sta → Prop
  | [], t, t' => t = t' ∧ t.pl = ps.map List.length
  | h :: row, t, t' => ∃ s, nxt ps h t = some s ∧ Run ps row (goS s h t) t'
theorem run_loop {ps : List Pg} (ok : Ok ps) (a b : Option D) : ∀ (row : List Nat) (t t' : Sta) (c d e : Option D), SI ps t → Run ps row t t' →
    ∃ c' d', SI ps t' ∧ t'.pl = ps.map List.length ∧ forLoop [] (stp tab (callD F tab pg (n + 2)) F (.nm 3 (Str.ofString "hand")) lp_run_in_order1) (row.map fun (x : Nat) => .int (x : Int)) [some (dPs ps), b, some (t.d ps.length), c, d, e] S = some (.nx, [some (dPs ps), b, some (t'.d ps.length), c', d', e], S)
  | [], t, t', c, d, e, I, h => by
    obtain ⟨rfl, h⟩ := h
    exact ⟨c, d, I, h, by rw [List.map_nil, forLoop_nil _ _ (chkG_nil S)]⟩
  | h :: row, t, t', c, d, e, I, hr => by
    obtain ⟨s, e1, hr⟩ := hr
    obtain ⟨p, h1, h2⟩ := nxt_some e1
    have hh : h < ps.length := (List.getElem?_eq_some_iff.mp h1).1
    have hs := (List.getElem?_eq_some_iff.mp h2).1
    obtain ⟨c', d', I', hp, ih⟩ := run_loop ok a b row (goS s h t) t' (some (.int (h : Int))) (some (.tup [dR (em ps.length), dM (goS s h t).m, dR (goS s h t).r])) e (I.go e1) hr
    refine ⟨c', d', I', hp, ?_⟩
    rw [List.map_cons, forLoop_cons _ _ _ _ (chkG_nil S), stp_e]
    have hlp := I.lp
    have hb := ok.b
    have k1 : decide ((0 : Int) ≤ (h : Int)) = true := decide_eq_true (by omega)
    have k2 : decide ((h : Int) < (ps.length : Int)) = true := decide_eq_true (by omega)
    have k3 : decide (((t.pl.getD h 0 : Nat) : Int) = (p.length : Int)) = false := decide_eq_false (by omega)
    have x1 := ix_PP S h1
    have x2 := ix_P S h2
    have x3 := ix_I S (getD_some 0 (show h < t.pl.length by omega))
    have x0 : ixW S (.d (t.d ps.length)) (.d (.int 0)) = some (.d (dI t.pl)) := rfl
    have st := sp_stepS F n S ok I e1
    have ch := ch_I F (n + 1) S (xs := t.pl) (h := h) (v := t.pl.getD h 0 + 1) (by omega) (by omega)
    have ea : ((t.pl.getD h 0 : Nat) : Int) + 1 = ((t.pl.getD h 0 + 1 : Nat) : Int) := by omega
    have ec := cat_st S ps.length (t.pl.set h (t.pl.getD h 0 + 1)) (goS s h t).m (goS s h t).r
    have eg : goS s h t = ⟨t.pl.set h (t.pl.getD h 0 + 1), (goS s h t).m, (goS s h t).r⟩ := rfl
    rw [← eg] at ec
    unfold lp_run_in_order1 at *
    simp (disch := first | (refine @id _ ?_; with_unfolding_all rfl) | assumption | omega) only [evl, lits, kds, kdec, reduceCtorEq, List.isEmpty_nil, List.isEmpty_cons, gls, le_pp, k1, k2, x0, x1, x2, x3, le_p, k3, st, ea, ch, ec, ih]
theorem lens_lc {ps : List Pg} (ok : Ok ps) (cl : Calls) {own : List (Str × Nat)} {elt tst : E} {p : P} {ρ : Z.Env} (h : ∀ q ∈ ps, lcStep tab cl own elt p tst ρ (dP q) S = some (some (.int (q.length : Int)), S)) :
    lcLoop [] (lcStep tab cl own elt p tst ρ) (ps.map dP) [] S = some ((ps.map fun q => D.int (q.length : Int)), S) := by
  rw [lc_map dP (fun q => some (D.int (q.length : Int))) (chkG_nil _) ps [] h (by have := ok.b; simp; unfold LN; omega), fm_some]
  rfl
theorem sp_run {ps : List Pg} (ok : Ok ps) {row : List Nat} {t : Sta} (h : Run ps row (st0 ps.length) t) : callD F tab pg (n + 3) "run_in_order" [dPs ps, dI row] S = some (.d (dEnd t.r t.m), S) := by
  refine call_px look_run_in_order rfl (pr2 rfl (pu_PS ps) (pu_I row)) (w := .d (dEnd t.r t.m)) (S' := []) ?_ (ex_d (pu_End _ _)) S
  rw [show env0 d_run_in_order [dPs ps, dI row] = [some (dPs ps), some (dI row), none, none, none, none] from rfl]
  show fin (evS tab _ F s_run_in_order _ _) = _
  unfold s_run_in_order
  obtain ⟨c', d', I', hp, hl⟩ := run_loop F n [] ok none (some (dI row)) row (st0 ps.length) t none none none (SI.start ps) h
  have c1 := sp_check F (n + 1) [] ok
  have c2 := sp_start F (n + 1) [] ok
  have e2 : seqOf [] (.d (dI row)) = some (row.map fun (x : Nat) => .int (x : Int)) := rfl
  have e3 : guardOf [] (.d (dI row)) = [] := rfl
  have e4 : seqOf [] (.d (dPs ps)) = some (ps.map dP) := rfl
  have e5 : guardOf [] (.d (dPs ps)) = [] := rfl
  have es : dSt ps.length (List.replicate ps.length 0) [] (em ps.length) = (st0 ps.length).d ps.length := rfl
  have hlc := lens_lc [] ok (callD F tab pg (n + 2)) (own := [((Str.ofString "program"), 5)]) (elt := ce_run_in_order1) (tst := .nil) (p := .nm 5 (Str.ofString "program")) (ρ := [some (dPs ps), some (dI row), some (t.d ps.length), c', d', none]) (fun q _ => by
    rw [lcStep_e]
    have hw : wipeD [some (dPs ps), some (dI row), some (t.d ps.length), c', d', none] (List.map (·.2) [((Str.ofString "program"), 5)]) = [some (dPs ps), some (dI row), some (t.d ps.length), c', d', none] := rfl
    rw [hw]
    unfold ce_run_in_order1
    simp (disch := first | (refine @id _ ?_; with_unfolding_all rfl) | assumption | omega) only [evl, lits, kds, kdec, reduceCtorEq, List.isEmpty_nil, List.isEmpty_cons, gls, le_p])
  have x0 : ixW [] (.d (t.d ps.length)) (.d (.int 0)) = some (.d (dI t.pl)) := rfl
  have x2 : ixW [] (.d (t.d ps.length)) (.d (.int 2)) = some (.d (dM t.m)) := rfl
  have x3 : ixW [] (.d (t.d ps.length)) (.d (.int 3)) = some (.d (dR t.r)) := rfl
  have hb : biW [] .list [.d (dI t.pl)] = some (.tmp (t.pl.map fun (x : Nat) => .int (x : Int))) := rfl
  have hm : (ps.map fun q => D.int (q.length : Int)) = t.pl.map fun (x : Nat) => D.int (x : Int) := by rw [hp, List.map_map]; rfl
  have hq : eqW [] (.tmp (t.pl.map fun (x : Nat) => D.int (x : Int))) (.tmp (t.pl.map fun (x : Nat) => D.int (x : Int))) = some true := by
    rw [eq_ll (n := 0) (m := 0) [] (py_tmp [] _) (py_tmp [] _) (pln_all (fun _ => pln_int _ 0) _) (pln_all (fun _ => pln_int _ 0) _) (by decide) (by decide), eqDs_refl]
  simp (disch := first | (refine @id _ ?_; with_unfolding_all rfl) | assumption | omega) only [evl, lits, kds, kdec, reduceCtorEq, List.isEmpty_nil, List.isEmpty_cons, gls, c1, c2, es, e2, e3, hl, e4, e5, hlc, x0, hb, hm, hq, x2, x3]
end
end K53

set_option Elab.async false
set_option linter.all false
set_option maxRecDepth 100000
/-! N5: a search with a memory over a stack: what it finds -/
namespace N5
section
variable {α R : Type} (val : α → Option R) (rk : α → Nat) (kids : α → List α)
def SeenInv (stack seen : List α) : Prop := ∀ v ∈ seen, (val v).isSome = true → ∃ A c B, stack = A ++ c :: B ∧ (val c).isSome = true ∧ (∀ i ∈ A, rk i < rk v) ∧ rk c < rk v
variable {val rk kids}
theorem SeenInv.pop {u : α} {rest seen : List α} (h : SeenInv val rk (u :: rest) seen) (hu : val u = none) : SeenInv val rk rest seen := by
  intro v hv ha
  obtain ⟨A, c, B, e, h1, h2, h3⟩ := h v hv ha
  cases A with
  | nil =>
    rw [List.nil_append] at e
    injection e with e1 e2
    subst e1
    rw [hu] at h1
    cases h1
  | cons a A =>
    rw [List.cons_append] at e
    injection e with e1 e2
    exact ⟨A, c, B, e2, h1, fun i hi => h2 i (List.mem_cons_of_mem _ hi), h3⟩
theorem SeenInv.seen {u : α} {rest seen : List α} (h : SeenInv val rk (u :: rest) seen) {v : α} (hv : v ∈ seen) (e1 : (val v).isSome = (val u).isSome) (e2 : rk v = rk u) : val u = none := by
  cases hu : val u with
  | none => rfl
  | some r =>
    exfalso
    rw [hu] at e1
    obtain ⟨A, c, B, e, h1, h2, h3⟩ := h v hv e1
    cases A with
    | nil =>
      rw [List.nil_append] at e
      injection e with q1 q2
      subst q1
      omega
    | cons a A =>
      rw [List.cons_append] at e
      injection e with q1 q2
      subst q1
      have := h2 u List.mem_cons_self
      omega
theorem find_split : ∀ {l : List α}, (l.findSome? val).isSome = true → ∃ A c B, l = A ++ c :: B ∧ (val c).isSome = true
  | [], h => by simp at h
  | a :: l, h => by
    cases ha : val a with
    | some r => exact ⟨[], a, l, rfl, by rw [ha]; rfl⟩
    | none =>
      rw [List.findSome?_cons, ha] at h
      obtain ⟨A, c, B, e, h1⟩ := find_split h
      exact ⟨a :: A, c, B, by rw [e]; rfl, h1⟩
theorem SeenInv.push {u : α} {rest seen : List α} (h : SeenInv val rk (u :: rest) seen) (hk : ∀ k ∈ kids u, rk k < rk u) (hv : val u = (kids u).findSome? val) : SeenInv val rk (kids u ++ rest) (seen ++ [u]) := by
  have self : (val u).isSome = true → ∃ A c B, kids u ++ rest = A ++ c :: B ∧ (val c).isSome = true ∧ (∀ i ∈ A, rk i < rk u) ∧ rk c < rk u := by
    intro ha
    rw [hv] at ha
    obtain ⟨A, c, B, e, h1⟩ := find_split ha
    refine ⟨A, c, B ++ rest, by rw [e, List.append_assoc]; rfl, h1, fun i hi => hk i (by rw [e]; exact List.mem_append_left _ hi), hk c (by rw [e]; exact List.mem_append_right _ List.mem_cons_self)⟩
  intro v hm ha
  rcases List.mem_append.mp hm with hm | hm
  · obtain ⟨A, c, B, e, h1, h2, h3⟩ := h v hm ha
    cases A with
    | nil =>
      rw [List.nil_append] at e
      injection e with q1 q2
      subst q1
      obtain ⟨A, c, B, e, g1, g2, g3⟩ := self h1
      exact ⟨A, c, B, e, g1, fun i hi => Nat.lt_trans (g2 i hi) h3, Nat.lt_trans g3 h3⟩
    | cons a A =>
      rw [List.cons_append] at e
      injection e with q1 q2
      subst q1
      refine ⟨kids u ++ A, c, B, by rw [q2, List.append_assoc], h1, fun i hi => ?_, h3⟩
      rcases List.mem_append.mp hi with z | z
      · exact Nat.lt_trans (hk i z) (h2 u List.mem_cons_self)
      · exact h2 i (List.mem_cons_of_mem _ z)
  · have : v = u := by simpa using hm
    subst this
    exact self ha
theorem find_pop {u : α} {rest : List α} (hu : val u = none) : (u :: rest).findSome? val = rest.findSome? val := by
  rw [List.findSome?_cons, hu]
theorem find_push {u : α} {rest : List α} (hv : val u = (kids u).findSome? val) : (u :: rest).findSome? val = (kids u ++ rest).findSome? val := by
  rw [List.findSome?_cons, List.findSome?_append, hv]
  cases (kids u).findSome? val <;> rfl
/-- what is left to be done -/
def meas (rk : α → Nat) : List α → Nat
  | [] => 0
  | a :: l => 4 ^ rk a + meas rk l
theorem meas_app (l m : List α) : meas rk (l ++ m) = meas rk l + meas rk m := by
  induction l with
  | nil => simp [meas]
  | cons a l ih => rw [List.cons_append, meas, meas, ih]; omega
theorem meas_le {r : Nat} : ∀ {l : List α}, (∀ k ∈ l, rk k ≤ r) → meas rk l ≤ l.length * 4 ^ r
  | [], _ => by simp [meas]
  | a :: l, h => by
    have h1 := h a List.mem_cons_self
    have h2 := meas_le fun k hk => h k (List.mem_cons_of_mem _ hk)
    have h3 : 4 ^ rk a ≤ 4 ^ r := Nat.pow_le_pow_right (by decide) h1
    rw [meas, List.length_cons, Nat.add_mul]
    omega
theorem meas_pop {u : α} {rest : List α} : meas rk rest < meas rk (u :: rest) := by
  rw [meas]
  have : 0 < 4 ^ rk u := Nat.pow_pos (by decide)
  omega
theorem meas_push {u : α} {rest : List α} (hk : ∀ k ∈ kids u, rk k < rk u) (h3 : (kids u).length ≤ 3) : meas rk (kids u ++ rest) < meas rk (u :: rest) := by
  rw [meas_app, meas]
  cases hr : rk u with
  | zero =>
    have : kids u = [] := by
      cases hl : kids u with
      | nil => rfl
      | cons a l =>
        have := hk a (by rw [hl]; exact List.mem_cons_self)
        omega
    rw [this]
    simp [meas]
  | succ r =>
    have := meas_le (rk := rk) (r := r) (l := kids u) fun k hkk => by have := hk k hkk; omega
    have h4 : (kids u).length * 4 ^ r ≤ 3 * 4 ^ r := Nat.mul_le_mul_right _ h3
    have h5 : 0 < 4 ^ r := Nat.pow_pos (by decide)
    rw [Nat.pow_succ]
    omega
end
theorem pig : ∀ (M : Nat) (l : List Nat), l.Nodup → (∀ x ∈ l, x < M) → l.length ≤ M
  | 0, l, _, h => by
    cases l with
    | nil => exact Nat.le_refl _
    | cons a l => have := h a List.mem_cons_self; omega
  | M + 1, l, hn, h => by
    by_cases hm : M ∈ l
    · have h1 := pig M (l.erase M) (hn.erase M) fun x hx => by
        have h2 := (List.Nodup.mem_erase_iff hn).mp hx
        have := h x h2.2
        omega
      rw [List.length_erase_of_mem hm] at h1
      omega
    · have h1 := pig M l hn fun x hx => by
        have := h x hx
        have : x ≠ M := fun z => hm (z ▸ hx)
        omega
      omega
end N5

set_option Elab.async false
set_option linter.all false
set_option maxRecDepth 100000
/-! N6: rows and states; the first row; memory told by places -/
namespace K53
open PySem PySem.Spec PyProof.Rows L2 Z
structure It where
  row : List Nat
  t : Sta
section
variable (ps : List Pg) (er : List (List Nat)) (em' : List (Nat × Nat))
def tot : Nat := (ps.map List.length).sum
def kid (it : It) (h : Nat) : Option It := (nxt ps h it.t).bind fun s => if soFar (goS s h it.t).r er = true then some ⟨it.row ++ [h], goS s h it.t⟩ else none
def kids (it : It) : List It := (List.range ps.length).filterMap (kid ps er it)
def goal (it : It) : Bool := decide (it.t.r = er) && decide (it.t.m = em')
def best : Nat → It → Option (List Nat)
  | 0, it => if goal er em' it = true then some it.row else none
  | n + 1, it => (kids ps er it).findSome? (best n)
def rk (it : It) : Nat := tot ps - it.row.length
def val (it : It) : Option (List Nat) := best ps er em' (rk ps it) it
end
/-! memory -/
def wr (s : St) : Bool := decide (s.k = .w) || decide (s.k = .x)
def rdn (s : St) : Bool := decide (s.k = .r) || decide (s.k = .x)
def lastW (p : Nat) (l : List St) : Nat := l.foldl (fun a s => if (wr s && decide (s.p = p)) = true then s.v else a) 0
theorem lastW_snoc (p : Nat) (l : List St) (s : St) : lastW p (l ++ [s]) = if (wr s && decide (s.p = p)) = true then s.v else lastW p l := by
  unfold lastW; rw [List.foldl_append]; rfl
def cntR (l : List St) : Nat := (l.filter rdn).length
theorem cntR_snoc (l : List St) (s : St) : cntR (l ++ [s]) = cntR l + (if rdn s = true then 1 else 0) := by
  unfold cntR
  rw [List.filter_append, List.length_append, List.filter_cons]
  cases rdn s <;> rfl
theorem take_snoc {α : Type} {l : List α} {n : Nat} {a : α} (h : l[n]? = some a) : l.take (n + 1) = l.take n ++ [a] := by
  rw [List.take_succ, h]; rfl
def Srt (m : List (Nat × Nat)) : Prop := m.Pairwise fun a b => a.1 < b.1
theorem known_mem : ∀ {m : List (Nat × Nat)}, Srt m → ∀ q ∈ m, known m q.1 = q.2
  | a :: m, h, q, hq => by
    have h' := List.pairwise_cons.mp h
    unfold known
    rcases List.mem_cons.mp hq with z | z
    · subst z; rw [if_pos rfl]
    · have := h'.1 q z
      rw [if_neg (by omega), known_mem h'.2 q z]
theorem known_some : ∀ {m : List (Nat × Nat)} {p : Nat}, known m p ≠ 0 → (p, known m p) ∈ m
  | [], p, h => absurd rfl h
  | a :: m, p, h => by
    unfold known at *
    by_cases e : a.1 = p
    · rw [if_pos e] at *
      subst e
      exact List.mem_cons_self
    · rw [if_neg e] at *
      exact List.mem_cons_of_mem _ (known_some h)
theorem mem_ext {m m' : List (Nat × Nat)} (h : Srt m) (h' : Srt m') (p : ∀ q ∈ m, 1 ≤ q.2) (p' : ∀ q ∈ m', 1 ≤ q.2) (e : ∀ x, known m x = known m' x) : m = m' := by
  have nd : ∀ {m : List (Nat × Nat)}, Srt m → m.Nodup := fun {m} h => h.imp fun {a b} hab z => by subst z; omega
  have sub : ∀ {m m' : List (Nat × Nat)}, Srt m → (∀ q ∈ m, 1 ≤ q.2) → (∀ x, known m x = known m' x) → ∀ q ∈ m, q ∈ m' := fun {m m'} h p e q hq => by
    have h1 := known_mem h q hq
    have h2 := p q hq
    rw [e] at h1
    have := known_some (m := m') (p := q.1) (by omega)
    rw [h1] at this
    exact this
  have pm : m.Perm m' := (List.perm_ext_iff_of_nodup (nd h) (nd h')).mpr fun q => ⟨sub h p e q, sub h' p' (fun x => (e x).symm) q⟩
  exact pm.eq_of_pairwise (fun a b _ _ h1 h2 => by omega) h h'
theorem srt_of {m : List (Nat × Nat)} (h1 : m.Pairwise fun a b => leP a b = true) (h2 : (m.map (·.1)).Nodup) : Srt m := by
  have h3 : m.Pairwise fun a b => a.1 ≠ b.1 := (List.pairwise_map.mp h2)
  refine (h1.and h3).imp fun {a b} h => ?_
  obtain ⟨a1, a2⟩ := h
  rw [leP_iff] at a1
  omega
theorem perm_known {m m' : List (Nat × Nat)} (h : Srt m) (h' : (m'.map (·.1)).Nodup) (p : m.Perm m') (x : Nat) : known m x = known m' x := by
  have key : ∀ {l : List (Nat × Nat)}, (l.map (·.1)).Nodup → ∀ q ∈ l, known l q.1 = q.2 := by
    intro l
    induction l with
    | nil => intro _ q hq; cases hq
    | cons a l ih =>
      intro hn q hq
      rw [List.map_cons, List.nodup_cons] at hn
      unfold known
      rcases List.mem_cons.mp hq with z | z
      · subst z; rw [if_pos rfl]
      · have : a.1 ≠ q.1 := fun w => hn.1 (by rw [w]; exact List.mem_map.mpr ⟨q, z, rfl⟩)
        rw [if_neg this, ih hn.2 q z]
  have nz : ∀ {l : List (Nat × Nat)}, (∀ q ∈ l, q.1 ≠ x) → known l x = 0 := by
    intro l
    induction l with
    | nil => intro _; rfl
    | cons a l ih =>
      intro hn
      unfold known
      rw [if_neg (hn a List.mem_cons_self), ih fun q hq => hn q (List.mem_cons_of_mem _ hq)]
  by_cases e : ∃ q ∈ m, q.1 = x
  · obtain ⟨q, hq, rfl⟩ := e
    rw [known_mem h q hq, key h' q (p.mem_iff.mp hq)]
  · rw [nz fun q hq z => e ⟨q, hq, z⟩, nz fun q hq z => e ⟨q, p.mem_iff.mpr hq, z⟩]
theorem stored_srt {m : List (Nat × Nat)} (h : Srt m) (p v : Nat) : Srt (stored m p v) ∧ ∀ x, known (stored m p v) x = if p = x then v else known m x := by
  have hf : (((m.filter fun q => decide (q.1 ≠ p)) ++ [(p, v)]).map (·.1)).Nodup := by
    rw [List.map_append, List.nodup_append]
    refine ⟨?_, by simp, fun a ha b hb => ?_⟩
    · have h2 : Srt (m.filter fun q => decide (q.1 ≠ p)) := List.Pairwise.filter _ h
      exact List.pairwise_map.mpr (h2.imp fun {a b} hab => by omega)
    · obtain ⟨q, hq, rfl⟩ := List.mem_map.mp ha
      have h1 := (List.mem_filter.mp hq).2
      have h2 : q.1 ≠ p := of_decide_eq_true h1
      have h3 : b = p := by simpa using hb
      rw [h3]; exact h2
  have pm := sm_perm ((m.filter fun q => decide (q.1 ≠ p)) ++ [(p, v)])
  have hs : Srt (stored m p v) := srt_of (sm_sorted _) ((pm.map (·.1)).nodup_iff.mpr hf)
  refine ⟨hs, fun x => ?_⟩
  rw [perm_known hs hf pm]
  clear hs pm hf
  induction m with
  | nil =>
    show known [(p, v)] x = _
    unfold known
    rfl
  | cons a m ih =>
    have ih := ih (List.pairwise_cons.mp h).2
    rw [List.filter_cons]
    by_cases e : a.1 = p
    · rw [if_neg (by simp [e])]
      rw [ih]
      by_cases e2 : p = x
      · rw [if_pos e2, if_pos e2]
      · rw [if_neg e2, if_neg e2]
        conv => rhs; unfold known
        rw [if_neg (by omega)]
    · rw [if_pos (decide_eq_true e), List.cons_append]
      conv => lhs; unfold known
      by_cases e2 : a.1 = x
      · rw [if_pos e2, if_neg (by omega)]
        conv => rhs; unfold known
        rw [if_pos e2]
      · rw [if_neg e2, ih]
        by_cases e3 : p = x
        · rw [if_pos e3, if_pos e3]
        · rw [if_neg e3, if_neg e3]
          conv => rhs; unfold known
          rw [if_neg e2]
structure MI (ps : List Pg) (t : Sta) : Prop where
  ms : Srt t.m
  mp : ∀ q ∈ t.m, 1 ≤ q.2 ∧ q.2 ≤ 30 ∧ q.1 ≤ 10
  mo : ∀ (h : Nat) (q : Pg), ps[h]? = some q → ∀ p, 2 ≤ p → (∃ s ∈ q, s.p = p) → known t.m p = lastW p (q.take (t.pl.getD h 0))
  mz : ∀ p, 2 ≤ p → (∀ (h : Nat) (q : Pg), ps[h]? = some q → ∀ s ∈ q, s.p ≠ p) → known t.m p = 0
theorem stepM_known {s : St} {m : List (Nat × Nat)} (h : Srt m) : Srt (stepM s m) ∧ ∀ x, known (stepM s m) x = if (wr s && decide (s.p = x)) = true then s.v else known m x := by
  obtain ⟨k, p, v⟩ := s
  have hs := stored_srt h p v
  cases k
  · exact ⟨h, fun x => by simp [wr, stepM]⟩
  · refine ⟨hs.1, fun x => ?_⟩
    show known (stored m p v) x = _
    rw [hs.2]
    simp [wr]
  · refine ⟨hs.1, fun x => ?_⟩
    show known (stored m p v) x = _
    rw [hs.2]
    simp [wr]
  · exact ⟨h, fun x => by simp [wr, stepM]⟩
theorem stepM_mem {s : St} {m : List (Nat × Nat)} {q : Nat × Nat} (h : q ∈ stepM s m) : q ∈ m ∨ q = (s.p, s.v) := by
  have st : ∀ p v, q ∈ stored m p v → q ∈ m ∨ q = (p, v) := fun p v hq => by
    have := (sm_perm _).mem_iff.mp hq
    rcases List.mem_append.mp this with z | z
    · exact .inl (List.mem_filter.mp z).1
    · exact .inr (by simpa using z)
  unfold stepM at h
  split at h
  · exact st _ _ h
  · exact st _ _ h
  · exact .inl h
theorem MI.go {ps : List Pg} {h : Nat} {t : Sta} {s : St} (ok : Ok ps) (I : SI ps t) (M : MI ps t) (e : nxt ps h t = some s) : MI ps (goS s h t) := by
  obtain ⟨p, h1, h2⟩ := nxt_some e
  have hh : h < ps.length := (List.getElem?_eq_some_iff.mp h1).1
  have hsm : s ∈ p := List.mem_of_getElem? h2
  have hpm : p ∈ ps := List.mem_of_getElem? h1
  have kn := stepM_known (s := s) M.ms
  have lp := I.lp
  refine ⟨kn.1, fun q hq => ?_, fun i q hq x hx hex => ?_, fun x hx hno => ?_⟩
  · rcases stepM_mem hq with z | z
    · exact M.mp q z
    · subst z
      exact ⟨(ok.v p hpm s hsm).1, (ok.v p hpm s hsm).2, ok.l p hpm s hsm⟩
  · show known (stepM s t.m) x = lastW x (q.take ((t.pl.set h _).getD i 0))
    rw [kn.2, getD_set _ _ _ _ _ (by omega)]
    have old := M.mo i q hq x hx hex
    by_cases z : i = h
    · subst z
      rw [h1] at hq
      cases hq
      rw [if_pos rfl, take_snoc h2, lastW_snoc, old]
    · rw [if_neg z]
      obtain ⟨s', hs', hp'⟩ := hex
      have : s.p ≠ x := fun w => z (ok.own i h q p hq h1 s' hs' s hsm (by omega) (by omega))
      rw [decide_eq_false this, Bool.and_false, old]
      rfl
  · show known (stepM s t.m) x = 0
    rw [kn.2]
    have : s.p ≠ x := hno h p h1 s hsm
    rw [decide_eq_false this, Bool.and_false, M.mz x hx hno]
    rfl
theorem MI.start (ps : List Pg) : MI ps (st0 ps.length) := by
  refine ⟨List.Pairwise.nil, fun q hq => (nomatch hq), fun h q _ p _ _ => ?_, fun _ _ _ => rfl⟩
  have : (List.replicate ps.length 0).getD h 0 = 0 := by
    rw [List.getD_eq_getElem?_getD, List.getElem?_replicate]; split <;> rfl
  show 0 = lastW p (q.take ((List.replicate ps.length 0).getD h 0))
  rw [this]; rfl
/-- the same places, the same at 0 and 1: the same memory -/
theorem MI.eq {ps : List Pg} {t t' : Sta} (M : MI ps t) (M' : MI ps t') (hp : t.pl = t'.pl) (h0 : known t.m 0 = known t'.m 0) (h1 : known t.m 1 = known t'.m 1) : t.m = t'.m := by
  refine mem_ext M.ms M'.ms (fun q hq => (M.mp q hq).1) (fun q hq => (M'.mp q hq).1) fun x => ?_
  by_cases e0 : x = 0
  · rw [e0]; exact h0
  by_cases e1 : x = 1
  · rw [e1]; exact h1
  by_cases ex : ∃ (h : Nat) (q : Pg), ps[h]? = some q ∧ ∃ s ∈ q, s.p = x
  · obtain ⟨h, q, hq, hs⟩ := ex
    rw [M.mo h q hq x (by omega) hs, M'.mo h q hq x (by omega) hs, hp]
  · rw [M.mz x (by omega) fun h q hq s hs z => ex ⟨h, q, hq, s, hs, z⟩, M'.mz x (by omega) fun h q hq s hs z => ex ⟨h, q, hq, s, hs, z⟩]
theorem known_le {ps : List Pg} {t : Sta} (M : MI ps t) (x : Nat) : known t.m x ≤ 30 := by
  by_cases e : known t.m x = 0
  · omega
  · have := (M.mp _ (known_some e)).2.1
    exact this
/-- what has been read is what the end says, so far -/
structure Fit (ps : List Pg) (er : List (List Nat)) (t : Sta) : Prop where
  len : ∀ (h : Nat) (q : Pg), ps[h]? = some q → (t.r.getD h []).length = cntR (q.take (t.pl.getD h 0))
  pre : ∀ h : Nat, t.r.getD h [] = (er.getD h []).take (t.r.getD h []).length
theorem Fit.eq {ps : List Pg} {er : List (List Nat)} {t t' : Sta} (I : SI ps t) (I' : SI ps t') (F : Fit ps er t) (F' : Fit ps er t') (hp : t.pl = t'.pl) : t.r = t'.r := by
  apply List.ext_getElem?
  intro h
  have l1 := I.lr
  have l2 := I'.lr
  by_cases hh : h < ps.length
  · rw [getD_some [] (show h < t.r.length by omega), getD_some [] (show h < t'.r.length by omega)]
    have a := F.len h ps[h] (by simp [hh])
    have b := F'.len h ps[h] (by simp [hh])
    rw [F.pre h, F'.pre h, a, b, hp]
  · rw [List.getElem?_eq_none (by omega), List.getElem?_eq_none (by omega)]
theorem soFar_pre {r er : List (List Nat)} (h : soFar r er = true) (i : Nat) : r.getD i [] = (er.getD i []).take (r.getD i []).length := by
  unfold soFar at h
  simp only [Bool.and_eq_true, decide_eq_true_eq, List.all_eq_true] at h
  obtain ⟨h1, h2⟩ := h
  by_cases hi : i < r.length
  · have h3 : (r.zip er)[i]? = some (r.getD i [], er.getD i []) := by
      rw [List.getElem?_zip_eq_some]
      exact ⟨getD_some [] hi, getD_some [] (by omega)⟩
    exact h2 _ (List.mem_of_getElem? h3)
  · have : r.getD i [] = [] := by rw [List.getD_eq_getElem?_getD, List.getElem?_eq_none (by omega)]; rfl
    rw [this]; rfl
theorem Fit.go {ps : List Pg} {er : List (List Nat)} {h : Nat} {t : Sta} {s : St} (I : SI ps t) (F : Fit ps er t) (e : nxt ps h t = some s) (sf : soFar (goS s h t).r er = true) : Fit ps er (goS s h t) := by
  obtain ⟨p, h1, h2⟩ := nxt_some e
  have hh : h < ps.length := (List.getElem?_eq_some_iff.mp h1).1
  have lp := I.lp
  have lr := I.lr
  refine ⟨fun i q hq => ?_, soFar_pre sf⟩
  show ((t.r.set h _).getD i []).length = cntR (q.take ((t.pl.set h _).getD i 0))
  rw [getD_set t.r _ _ _ _ (by omega), getD_set t.pl _ _ _ _ (by omega)]
  by_cases z : i = h
  · subst z
    rw [h1] at hq
    cases hq
    rw [if_pos rfl, if_pos rfl, take_snoc h2, cntR_snoc, ← F.len i p h1]
    unfold stepR rdn
    cases s.k <;> simp
  · rw [if_neg z, if_neg z]; exact F.len i q hq
theorem Fit.start (ps : List Pg) (er : List (List Nat)) : Fit ps er (st0 ps.length) := by
  have e1 : ∀ h, (em ps.length).getD h [] = [] := fun h => by rw [List.getD_eq_getElem?_getD, List.getElem?_replicate]; split <;> rfl
  have e2 : ∀ h, (List.replicate ps.length 0).getD h 0 = 0 := fun h => by rw [List.getD_eq_getElem?_getD, List.getElem?_replicate]; split <;> rfl
  refine ⟨fun h q _ => ?_, fun h => ?_⟩
  · show ((em ps.length).getD h []).length = cntR (q.take ((List.replicate ps.length 0).getD h 0))
    rw [e1, e2]; rfl
  · show (em ps.length).getD h [] = (er.getD h []).take ((em ps.length).getD h []).length
    rw [e1]; rfl
structure Good (ps : List Pg) (er : List (List Nat)) (it : It) : Prop where
  si : SI ps it.t
  mi : MI ps it.t
  fit : Fit ps er it.t
  len : it.row.length = it.t.pl.sum
theorem kid_some {ps : List Pg} {er : List (List Nat)} {it k : It} {h : Nat} (e : kid ps er it h = some k) : ∃ s, nxt ps h it.t = some s ∧ soFar (goS s h it.t).r er = true ∧ k = ⟨it.row ++ [h], goS s h it.t⟩ := by
  unfold kid at e
  cases hs : nxt ps h it.t with
  | none => rw [hs] at e; cases e
  | some s =>
    rw [hs] at e
    simp only [Option.bind] at e
    split at e
    · next hf => cases e; exact ⟨s, rfl, hf, rfl⟩
    · cases e
theorem Good.kid {ps : List Pg} {er : List (List Nat)} {it k : It} (ok : Ok ps) (G : Good ps er it) {h : Nat} (e : K53.kid ps er it h = some k) : Good ps er k := by
  obtain ⟨s, h1, h2, rfl⟩ := kid_some e
  obtain ⟨p, g1, g2⟩ := nxt_some h1
  have hh : h < ps.length := (List.getElem?_eq_some_iff.mp g1).1
  have lp := G.si.lp
  refine ⟨G.si.go h1, G.mi.go ok G.si h1, G.fit.go G.si h1 h2, ?_⟩
  show (it.row ++ [h]).length = (List.set _ _ _).sum
  rw [sum_set _ _ (by omega), List.length_append, G.len]
  rfl
theorem Good.start (ps : List Pg) (er : List (List Nat)) : Good ps er ⟨[], st0 ps.length⟩ := ⟨SI.start ps, MI.start ps, Fit.start ps er, by
  show 0 = (List.replicate ps.length 0).sum
  simp⟩
theorem Good.rk {ps : List Pg} {er : List (List Nat)} {it : It} (G : Good ps er it) : it.row.length ≤ tot ps := by
  rw [G.len]; exact sum_le ps _ G.si.lp G.si.le
/-- a number for a state -/
def code (t : Sta) : Nat := ((((t.pl.getD 0 0 * 7 + t.pl.getD 1 0) * 7 + t.pl.getD 2 0) * 31 + known t.m 0) * 31) + known t.m 1
theorem pl6 {ps : List Pg} {t : Sta} (ok : Ok ps) (I : SI ps t) (h : Nat) : t.pl.getD h 0 ≤ 6 := by
  by_cases hh : h < ps.length
  · have h1 := I.le h ps[h] (by simp [hh])
    have h2 := ok.c ps[h] (List.getElem_mem hh)
    omega
  · rw [List.getD_eq_getElem?_getD, List.getElem?_eq_none (by rw [I.lp]; omega)]; simp
def MC : Nat := 329623
theorem code_lt {ps : List Pg} {er : List (List Nat)} {it : It} (ok : Ok ps) (G : Good ps er it) : code it.t < MC := by
  have a := pl6 ok G.si 0
  have b := pl6 ok G.si 1
  have c := pl6 ok G.si 2
  have d := known_le G.mi 0
  have e := known_le G.mi 1
  unfold code MC
  omega
theorem code_inj {ps : List Pg} {er : List (List Nat)} {it it' : It} (ok : Ok ps) (G : Good ps er it) (G' : Good ps er it') (h : code it.t = code it'.t) : it.t = it'.t := by
  have a := pl6 ok G.si 0
  have b := pl6 ok G.si 1
  have c := pl6 ok G.si 2
  have d := known_le G.mi 0
  have e := known_le G.mi 1
  have a' := pl6 ok G'.si 0
  have b' := pl6 ok G'.si 1
  have c' := pl6 ok G'.si 2
  have d' := known_le G'.mi 0
  have e' := known_le G'.mi 1
  unfold code at h
  have e1 : known it.t.m 1 = known it'.t.m 1 := by omega
  have e2 : known it.t.m 0 = known it'.t.m 0 := by omega
  have e3 : it.t.pl.getD 2 0 = it'.t.pl.getD 2 0 := by omega
  have e4 : it.t.pl.getD 1 0 = it'.t.pl.getD 1 0 := by omega
  have e5 : it.t.pl.getD 0 0 = it'.t.pl.getD 0 0 := by omega
  have hb := ok.b
  have l1 := G.si.lp
  have l2 := G'.si.lp
  have hp : it.t.pl = it'.t.pl := by
    apply List.ext_getElem?
    intro i
    by_cases hi : i < ps.length
    · rw [getD_some 0 (show i < it.t.pl.length by omega), getD_some 0 (show i < it'.t.pl.length by omega)]
      have : i = 0 ∨ i = 1 ∨ i = 2 := by omega
      rcases this with z | z | z <;> rw [z]
      · rw [e5]
      · rw [e4]
      · rw [e3]
    · rw [List.getElem?_eq_none (by omega), List.getElem?_eq_none (by omega)]
  have hm := G.mi.eq G'.mi hp e2 e1
  have hr := Fit.eq G.si G'.si G.fit G'.fit hp
  cases hit : it.t with
  | mk p1 m1 r1 =>
    cases hit' : it'.t with
    | mk p2 m2 r2 =>
      rw [hit, hit'] at hp hm hr
      simp only at hp hm hr
      rw [hp, hm, hr]
theorem code_nd {ps : List Pg} {er : List (List Nat)} (ok : Ok ps) : ∀ {l : List It}, (∀ i ∈ l, Good ps er i) → (l.map (fun i => i.t)).Nodup → (l.map fun i => code i.t).Nodup
  | [], _, _ => List.nodup_nil
  | a :: l, hg, hn => by
    rw [List.map_cons, List.nodup_cons] at hn ⊢
    refine ⟨fun hm => ?_, code_nd ok (fun i hi => hg i (List.mem_cons_of_mem _ hi)) hn.2⟩
    obtain ⟨b, hb, hc⟩ := List.mem_map.mp hm
    have h1 := code_inj ok (hg b (List.mem_cons_of_mem _ hb)) (hg a List.mem_cons_self) hc
    exact hn.1 (List.mem_map.mpr ⟨b, hb, h1⟩)
theorem seen_len {ps : List Pg} {er : List (List Nat)} (ok : Ok ps) {l : List It} (hg : ∀ i ∈ l, Good ps er i) (hn : (l.map (fun i => i.t)).Nodup) : l.length ≤ MC := by
  have h3 : ∀ x ∈ l.map (fun i => code i.t), x < MC := by
    intro x hx
    obtain ⟨i, hi, hc⟩ := List.mem_map.mp hx
    rw [← hc]
    exact code_lt ok (hg i hi)
  have h4 := N5.pig MC _ (code_nd ok hg hn) h3
  rw [List.length_map] at h4
  exact h4
/-! the first row -/
section
variable {ps : List Pg} {er : List (List Nat)} {mm : List (Nat × Nat)}
theorem best_t : ∀ (n : Nat) (it it' : It), it.t = it'.t → (best ps er mm n it).isSome = (best ps er mm n it').isSome
  | 0, it, it', h => by
    unfold best goal
    rw [h]
    split <;> rfl
  | n + 1, it, it', h => by
    unfold best kids
    generalize List.range ps.length = l
    induction l with
    | nil => rfl
    | cons a l ih =>
      rw [List.filterMap_cons, List.filterMap_cons]
      have hk : ∀ k, kid ps er it a = some k → ∃ k', kid ps er it' a = some k' ∧ k.t = k'.t := fun k hk => by
        obtain ⟨s, h1, h2, rfl⟩ := kid_some hk
        refine ⟨⟨it'.row ++ [a], goS s a it'.t⟩, ?_, by rw [h]⟩
        unfold kid
        rw [← h, h1]
        simp only [Option.bind, h2, if_true]
      have hk' : kid ps er it a = none → kid ps er it' a = none := fun hk0 => by
        unfold kid at *
        rw [← h]
        cases hs : nxt ps a it.t with
        | none => rfl
        | some s =>
          rw [hs] at hk0
          simp only [Option.bind] at *
          split at hk0
          · cases hk0
          · next hf => rw [if_neg hf]
      cases e : kid ps er it a with
      | none => rw [hk' e]; exact ih
      | some k =>
        obtain ⟨k', e', ht⟩ := hk k e
        rw [e']
        simp only [List.findSome?_cons]
        have := best_t n k k' ht
        cases hb : best ps er mm n k with
        | none =>
          rw [hb] at this
          cases hb' : best ps er mm n k' with
          | none => exact ih
          | some r => rw [hb'] at this; cases this
        | some r =>
          rw [hb] at this
          cases hb' : best ps er mm n k' with
          | none => rw [hb'] at this; cases this
          | some r' => rfl
theorem kids_mem {it k : It} (h : k ∈ kids ps er it) : ∃ a, kid ps er it a = some k := by
  unfold kids at h
  obtain ⟨a, _, ha⟩ := List.mem_filterMap.mp h
  exact ⟨a, ha⟩
theorem kids_row {it k : It} (h : k ∈ kids ps er it) : k.row.length = it.row.length + 1 := by
  obtain ⟨a, ha⟩ := kids_mem h
  obtain ⟨s, _, _, rfl⟩ := kid_some ha
  simp
theorem kids_rk {it k : It} (hr : 0 < rk ps it) (h : k ∈ kids ps er it) : rk ps k + 1 = rk ps it := by
  have := kids_row h
  unfold rk at *
  omega
theorem kids_len (it : It) : (kids ps er it).length ≤ ps.length := by
  unfold kids
  have := List.length_filterMap_le (kid ps er it) (List.range ps.length)
  rwa [List.length_range] at this
theorem val_kids {it : It} (hr : 0 < rk ps it) : val ps er mm it = (kids ps er it).findSome? (val ps er mm) := by
  unfold val
  obtain ⟨n, hn⟩ : ∃ n, rk ps it = n + 1 := ⟨rk ps it - 1, by omega⟩
  rw [hn]
  show (kids ps er it).findSome? (best ps er mm n) = _
  have : ∀ l : List It, (∀ k ∈ l, rk ps k = n) → l.findSome? (best ps er mm n) = l.findSome? fun it => best ps er mm (rk ps it) it := by
    intro l
    induction l with
    | nil => intro _; rfl
    | cons a l ih =>
      intro h
      rw [List.findSome?_cons, List.findSome?_cons, h a List.mem_cons_self, ih fun k hk => h k (List.mem_cons_of_mem _ hk)]
  exact this _ fun k hk => by have := kids_rk hr hk; omega
theorem val_leaf {it : It} (hr : rk ps it = 0) : val ps er mm it = if goal er mm it = true then some it.row else none := by
  unfold val; rw [hr]; rfl
theorem val_t {it it' : It} (h : it.t = it'.t) (hl : it.row.length = it'.row.length) : (val ps er mm it).isSome = (val ps er mm it').isSome := by
  unfold val
  rw [show rk ps it = rk ps it' by unfold rk; rw [hl]]
  exact best_t _ _ _ h
end
end K53

set_option Elab.async false
set_option linter.all false
set_option maxRecDepth 100000
/-! N7: order_for -/
namespace K53
open PySem PySem.Spec PyProof.Rows L2 Z
def itD (k : Nat) (it : It) : D := .tup [dI it.row, it.t.d k]
def S2 (w : List D) (s : List (D × D)) : Sto := [.lst w, .dd s]
def sd (k : Nat) (it : It) : D × D := (it.t.d k, .bl true)
theorem key_int (n : Nat) (i : Int) : keyN n (.int i) = true := by unfold keyN; rfl
theorem key_all {α : Type} {f : α → D} {n : Nat} (h : ∀ x, keyN n (f x) = true) (xs : List α) : keyN (n + 1) (.tup (xs.map f)) = true := by
  rw [keyN]; exact List.all_eq_true.mpr fun x hx => by
    obtain ⟨y, _, rfl⟩ := List.mem_map.mp hx
    exact h y
theorem key_dI (n : Nat) (xs : List Nat) : keyN (n + 1) (dI xs) = true := key_all (fun x => key_int n _) xs
theorem key_dR (n : Nat) (xs : List (List Nat)) : keyN (n + 2) (dR xs) = true := key_all (fun x => key_dI n x) xs
theorem key_d2 (n : Nat) (p : Nat × Nat) : keyN (n + 1) (d2 p) = true := by rw [keyN]; simp [key_int]
theorem key_dM (n : Nat) (xs : List (Nat × Nat)) : keyN (n + 2) (dM xs) = true := key_all (fun x => key_d2 n x) xs
theorem key_dSt (k : Nat) (t : Sta) : keyT (t.d k) = true := by
  show keyN 8 (.tup [dI t.pl, dR (em k), dM t.m, dR t.r]) = true
  rw [keyN]
  simp only [List.all_cons, List.all_nil, Bool.and_true, Bool.and_eq_true]
  exact ⟨key_dI 6 _, key_dR 5 _, key_dM 5 _, key_dR 5 _⟩
theorem sta_inj (k : Nat) (t t' : Sta) (h : t.d k = t'.d k) : t = t' := by
  obtain ⟨p, m, r⟩ := t
  obtain ⟨p', m', r'⟩ := t'
  unfold Sta.d dSt at h
  simp only at h
  injection h with h
  injection h with h1 h
  injection h with _ h
  injection h with h2 h
  injection h with h3 _
  rw [dI_inj _ _ h1, dM_inj _ _ h2, dR_inj _ _ h3]
theorem get_seen {α : Type} (f : α → D) (v : D) (k : D) (l : List α) : (getDD (l.map fun i => (f i, v)) k).isSome = l.any fun i => eqD (f i) k := by
  unfold getDD
  induction l with
  | nil => rfl
  | cons a l ih =>
    rw [List.map_cons, List.find?_cons, List.any_cons]
    simp only
    cases eqD (f a) k with
    | true => rfl
    | false => exact ih
theorem put_seen {α : Type} (f : α → D) (v : D) (k : D) (l : List α) (h : (l.any fun i => eqD (f i) k) = false) : putDD (l.map fun i => (f i, v)) k v = (l.map fun i => (f i, v)) ++ [(k, v)] := by
  unfold putDD
  have : ((l.map fun i => (f i, v)).any fun kv => eqD kv.1 k) = l.any fun i => eqD (f i) k := by rw [List.any_map]; rfl
  rw [this, h]; rfl
theorem in_d2 {w : List D} {s : List (D × D)} {k : D} (hk : keyT k = true) : inW (S2 w s) (.d k) (.d (.ref 1)) = some ((getDD s k).isSome) := by
  show (if keyT k = true then some (getDD s k) else none).map Option.isSome = _
  rw [if_pos hk]; rfl
theorem op_d2 {s : List (D × D)} {k v : D} (hk : keyT k = true) (hl : s.length < LN) : oPut (.dd s) k v = some (.dd (putDD s k v)) := by
  rw [oPut_d, if_pos hl, if_pos hk]
theorem tr_S2 (w : List D) (s : List (D × D)) : truW (S2 w s) (.d (.ref 0)) = some (!w.isEmpty) := rfl
theorem ok_S2 (w : List D) (s : List (D × D)) : mtOk (S2 w s) .pop0 (.d (.ref 0)) = true := rfl
theorem pop_S2 (w : List D) (x : D) (s : List (D × D)) : mthW (S2 (w ++ [x]) s) .pop0 (.d (.ref 0)) [] = some (.d x, S2 w s) := by
  show (match (w ++ [x]).getLast? with | some d => _ | none => _) = _
  rw [List.getLast?_concat, List.dropLast_concat]; rfl
theorem ls_S2 (w : List D) (s : List (D × D)) : lstO (S2 w s)[0]? = some w := rfl
theorem dd_S2 (w : List D) (s : List (D × D)) : (S2 w s)[1]? = some (.dd s) := rfl
theorem st_S20 (w w' : List D) (s : List (D × D)) : (S2 w s).set 0 (.lst w') = S2 w' s := rfl
theorem st_S21 (w : List D) (s s' : List (D × D)) : (S2 w s).set 1 (.dd s') = S2 w s' := rfl
theorem pln_End (er : List (List Nat)) (m : List (Nat × Nat)) : pln 3 (dEnd er m) = true := by
  unfold dEnd
  rw [pln_tup]
  simp only [List.all_cons, List.all_nil, Bool.and_true, Bool.and_eq_true]
  exact ⟨pln_dR _, pln_dM _⟩
theorem eq_End (S : Sto) (r er : List (List Nat)) (m mm : List (Nat × Nat)) : eqW S (.d (dEnd r m)) (.d (dEnd er mm)) = some (decide (r = er) && decide (m = mm)) := by
  rw [eq_pl S (pln_End r m) (pln_End er mm) (by decide) (by decide)]
  show some (eqD (.tup [dR r, dM m]) (.tup [dR er, dM mm])) = _
  rw [eqD, eqDs, eqDs, eqDs, eqD_inj dR_inj, eqD_inj dM_inj, Bool.and_true]
theorem ints_lens : ∀ ps : List Pg, intsOf (ps.map fun q => D.int (q.length : Int)) = some (ps.map fun q => (q.length : Int))
  | [] => rfl
  | p :: ps => by rw [List.map_cons]; unfold intsOf; rw [ints_lens ps]; rfl
theorem isum : ∀ ps : List Pg, (ps.map fun q => (q.length : Int)).sum = ((tot ps : Nat) : Int)
  | [] => rfl
  | p :: ps => by
    have := isum ps
    unfold tot at *
    rw [List.map_cons, List.map_cons, List.sum_cons, List.sum_cons, this]
    omega
theorem sum_lens (S : Sto) (ps : List Pg) : biW S .sum [.tmp (ps.map fun q => D.int (q.length : Int))] = some (.d (.int (tot ps : Nat))) := by
  show ((lstOf S (.tmp _)).bind fun xs => (intsOf xs).map fun ns => W.d (.int ns.sum)) = _
  show (intsOf _).map _ = _
  rw [ints_lens]
  show some (W.d (.int _)) = _
  rw [isum]
section
variable (F n : Nat) {ps : List Pg} {er : List (List Nat)} {mm : List (Nat × Nat)}
abbrev envO (ps : List Pg) (er : List (List Nat)) (mm : List (Nat × Nat)) (a b c d e : Option D) : Z.Env := [some (dPs ps), some (dEnd er mm), some (.ref 0), some (.ref 1), a, b, c, d, e]
theorem cat_row (S : Sto) (row : List Nat) (h : Nat) (hl : row.length ≤ 1000) : binW S .add (.d (dI row)) (.d (.tup [.int (h : Int)])) = some (.d (dI (row ++ [h]))) := snoc_I S row h hl
theorem lnr (ok : Ok ps) {it : It} (G : Good ps er it) : it.row.length ≤ 18 := by
  have := G.rk
  have := tot_le ok
  unfold tot at *
  omega
theorem of_hands (ok : Ok ps) {it : It} (G : Good ps er it) (s : List (D × D)) : ∀ (hs : List Nat) (w : List D) (c d e : Option D), (∀ h ∈ hs, h < ps.length) → w.length + hs.length ≤ LN →
    ∃ c' d', forLoop [] (stp tab (callD F tab pg (n + 2)) F (.nm 6 (Str.ofString "hand")) lp_order_for1) (hs.map fun (x : Nat) => .int (x : Int)) (envO ps er mm (some (dI it.row)) (some (it.t.d ps.length)) c d e) (S2 w s) =
      some (.nx, envO ps er mm (some (dI it.row)) (some (it.t.d ps.length)) c' d' e, S2 (w ++ (hs.filterMap (kid ps er it)).map (itD ps.length)) s)
  | [], w, c, d, e, _, _ => ⟨c, d, by rw [List.map_nil, forLoop_nil _ _ (chkG_nil _)]; simp⟩
  | h :: hs, w, c, d, e, hh, hl => by
    rw [List.length_cons] at hl
    have h1 : h < ps.length := hh h List.mem_cons_self
    have lp := G.si.lp
    have lr := G.si.lr
    have hb := ok.b
    obtain ⟨p, hp⟩ : ∃ p, ps[h]? = some p := ⟨ps[h], by simp [h1]⟩
    have hle := G.si.le h p hp
    have x0 : ∀ S, ixW S (.d (it.t.d ps.length)) (.d (.int 0)) = some (.d (dI it.t.pl)) := fun S => rfl
    have x1 := fun S => ix_PP S hp
    have x3 := fun S => ix_I S (getD_some 0 (show h < it.t.pl.length by omega))
    have hrow := lnr ok G
    cases hn : nxt ps h it.t with
    | none =>
      have hnl : ¬ it.t.pl.getD h 0 < p.length := fun z => by
        unfold nxt at hn
        rw [hp] at hn
        simp only [Option.bind] at hn
        rw [List.getElem?_eq_getElem z] at hn
        cases hn
      obtain ⟨c', d', ih⟩ := of_hands ok G s hs w (some (.int (h : Int))) d e (fun x hx => hh x (List.mem_cons_of_mem _ hx)) (by omega)
      refine ⟨c', d', ?_⟩
      have hk : kid ps er it h = none := by unfold kid; rw [hn]; rfl
      have k1 : decide (((it.t.pl.getD h 0 : Nat) : Int) < (p.length : Int)) = false := decide_eq_false (by omega)
      rw [List.filterMap_cons, hk]
      rw [List.map_cons, forLoop_cons _ _ _ _ (chkG_nil _), stp_e]
      unfold lp_order_for1 at *
      simp (disch := first | (refine @id _ ?_; with_unfolding_all rfl) | assumption | omega) only [evl, lits, kds, kdec, reduceCtorEq, List.isEmpty_nil, List.isEmpty_cons, gls, x0, x1, x3, le_p, k1, ih]
    | some st =>
      obtain ⟨p', g1, g2⟩ := nxt_some hn
      rw [hp] at g1
      cases g1
      have hlt := (List.getElem?_eq_some_iff.mp g2).1
      have k1 : decide (((it.t.pl.getD h 0 : Nat) : Int) < (p.length : Int)) = true := decide_eq_true (by omega)
      have x2 := fun S => ix_P S g2
      have hst := fun S => sp_stepS F n S ok G.si hn
      have sf := fun S => sp_so_far F (n + 1) S (goS st h it.t).r er mm (by show (List.set _ _ _).length ≤ 1000; rw [List.length_set]; omega)
      have x4 : ∀ S, ixW S (.d (.tup [dR (em ps.length), dM (goS st h it.t).m, dR (goS st h it.t).r])) (.d (.int 2)) = some (.d (dR (goS st h it.t).r)) := fun S => rfl
      cases hsf : soFar (goS st h it.t).r er with
      | false =>
        obtain ⟨c', d', ih⟩ := of_hands ok G s hs w (some (.int (h : Int))) (some (.tup [dR (em ps.length), dM (goS st h it.t).m, dR (goS st h it.t).r])) e (fun x hx => hh x (List.mem_cons_of_mem _ hx)) (by omega)
        refine ⟨c', d', ?_⟩
        have hk : kid ps er it h = none := by unfold kid; rw [hn]; simp [hsf]
        rw [hsf] at sf
        rw [List.filterMap_cons, hk]
        rw [List.map_cons, forLoop_cons _ _ _ _ (chkG_nil _), stp_e]
        unfold lp_order_for1 at *
        simp (disch := first | (refine @id _ ?_; with_unfolding_all rfl) | assumption | omega) only [evl, lits, kds, kdec, reduceCtorEq, List.isEmpty_nil, List.isEmpty_cons, gls, x0, x1, x3, le_p, k1, x2, hst, x4, sf, ih]
      | true =>
        have hk : kid ps er it h = some ⟨it.row ++ [h], goS st h it.t⟩ := by unfold kid; rw [hn]; simp [hsf]
        obtain ⟨c', d', ih⟩ := of_hands ok G s hs (w ++ [itD ps.length ⟨it.row ++ [h], goS st h it.t⟩]) (some (.int (h : Int))) (some (.tup [dR (em ps.length), dM (goS st h it.t).m, dR (goS st h it.t).r])) e (fun x hx => hh x (List.mem_cons_of_mem _ hx)) (by rw [List.length_append, List.length_cons, List.length_nil]; omega)
        refine ⟨c', d', ?_⟩
        rw [hsf] at sf
        have cr := fun S => cat_row S it.row h (by omega)
        have ch := fun S => ch_I F (n + 1) S (xs := it.t.pl) (h := h) (v := it.t.pl.getD h 0 + 1) (by omega) (by omega)
        have ea : ((it.t.pl.getD h 0 : Nat) : Int) + 1 = ((it.t.pl.getD h 0 + 1 : Nat) : Int) := by omega
        have ec := fun S => cat_st S ps.length (it.t.pl.set h (it.t.pl.getD h 0 + 1)) (goS st h it.t).m (goS st h it.t).r
        have eg : goS st h it.t = ⟨it.t.pl.set h (it.t.pl.getD h 0 + 1), (goS st h it.t).m, (goS st h it.t).r⟩ := rfl
        rw [← eg] at ec
        have e4 : D.tup [dI (it.row ++ [h]), (goS st h it.t).d ps.length] = itD ps.length ⟨it.row ++ [h], goS st h it.t⟩ := rfl
        have e5 := kApp4_e (n := 0) (S := S2 w s) (d := itD ps.length ⟨it.row ++ [h], goS st h it.t⟩) (xs := w) (by omega)
        rw [List.filterMap_cons, hk]
        rw [List.map_cons, forLoop_cons _ _ _ _ (chkG_nil _), stp_e]
        simp only [List.map_cons]
        rw [show w ++ itD ps.length ⟨it.row ++ [h], goS st h it.t⟩ :: (List.filterMap (kid ps er it) hs).map (itD ps.length) = w ++ [itD ps.length ⟨it.row ++ [h], goS st h it.t⟩] ++ (List.filterMap (kid ps er it) hs).map (itD ps.length) by simp]
        unfold lp_order_for1 at *
        simp (disch := first | (refine @id _ ?_; with_unfolding_all rfl) | assumption | omega) only [evl, lits, kds, kdec, reduceCtorEq, List.isEmpty_nil, List.isEmpty_cons, gls, x0, x1, x3, le_p, k1, x2, hst, x4, sf, cr, ea, ch, ec, e4, ls_S2, e5, st_S20, ih]
end
end K53

set_option Elab.async false
set_option linter.all false
set_option maxRecDepth 100000
/-! N8: order_for, the loop -/
namespace K53
open PySem PySem.Spec PyProof.Rows L2 Z
section
variable (F n : Nat) {ps : List Pg} {er : List (List Nat)} {mm : List (Nat × Nat)}
theorem of_lens (ok : Ok ps) (S : Sto) (cl : Calls) (a b c d e : Option D) : lcLoop [] (lcStep tab cl [((Str.ofString "program"), 8)] ce_order_for1 (.nm 8 (Str.ofString "program")) .nil (envO ps er mm a b c d e)) (ps.map dP) [] S = some (ps.map fun q => D.int (q.length : Int), S) :=
  lens_lc S ok cl fun q _ => by
    rw [lcStep_e]
    have hw : wipeD (envO ps er mm a b c d e) (List.map (·.2) [((Str.ofString "program"), 8)]) = envO ps er mm a b c d none := rfl
    rw [hw]
    unfold ce_order_for1
    simp (disch := first | (refine @id _ ?_; with_unfolding_all rfl) | assumption | omega) only [evl, lits, kds, kdec, reduceCtorEq, List.isEmpty_nil, List.isEmpty_cons, gls, le_p]
theorem any_sd (k : Nat) (seen : List It) (t : Sta) : (getDD (seen.map (sd k)) (t.d k)).isSome = seen.any fun i => decide (i.t = t) := by
  rw [show seen.map (sd k) = seen.map fun i => (i.t.d k, .bl true) from rfl, get_seen]
  congr 1
  funext i
  exact eqD_inj (sta_inj k) i.t t
theorem put_sd (k : Nat) (seen : List It) (u : It) (h : (seen.any fun i => decide (i.t = u.t)) = false) : putDD (seen.map (sd k)) (u.t.d k) (.bl true) = (seen ++ [u]).map (sd k) := by
  rw [show seen.map (sd k) = seen.map fun i => (i.t.d k, .bl true) from rfl, put_seen]
  · rw [List.map_append]; rfl
  · rw [← h]
    congr 1
    funext i
    exact eqD_inj (sta_inj k) i.t u.t
theorem seq_PS (S : Sto) (ps : List Pg) : seqOf S (.d (dPs ps)) = some (ps.map dP) := rfl
theorem gd_PS (S : Sto) (ps : List Pg) : guardOf S (.d (dPs ps)) = [] := rfl
theorem body_leaf (ok : Ok ps) {u : It} (G : Good ps er u) (hr : u.row.length = tot ps) (w : List D) (s : List (D × D)) (a b c d e : Option D) :
    ∃ ρ', evS tab (callD F tab pg (n + 2)) F lp_order_for2 (envO ps er mm a b c d e) (S2 (w ++ [itD ps.length u]) s) = some (if goal er mm u = true then .rt (.d (dI u.row)) else .ct, ρ', S2 w s) ∧ (goal er mm u = false → ∃ a b c d e, ρ' = envO ps er mm a b c d e) := by
  have b1 : bindP (.tup (.cons (.nm 4 (Str.ofString "row")) (.cons (.nm 5 (Str.ofString "state")) .nil))) (itD ps.length u) (envO ps er mm a b c d e) = some (envO ps er mm (some (dI u.row)) (some (u.t.d ps.length)) c d e) := rfl
  have hl := of_lens (er := er) (mm := mm) ok (S2 w s) (callD F tab pg (n + 2)) (some (dI u.row)) (some (u.t.d ps.length)) c d e
  have k1 : decide ((u.row.length : Int) = ((tot ps : Nat) : Int)) = true := decide_eq_true (by omega)
  have x3 : ∀ S, ixW S (.d (u.t.d ps.length)) (.d (.int 3)) = some (.d (dR u.t.r)) := fun S => rfl
  have x2 : ∀ S, ixW S (.d (u.t.d ps.length)) (.d (.int 2)) = some (.d (dM u.t.m)) := fun S => rfl
  have q1 : ∀ S, eqW S (.d (.tup [dR u.t.r, dM u.t.m])) (.d (dEnd er mm)) = some (goal er mm u) := fun S => by
    rw [eq_End]
    unfold goal
    rfl
  refine ⟨envO ps er mm (some (dI u.row)) (some (u.t.d ps.length)) c d e, ?_, fun _ => ⟨_, _, _, _, _, rfl⟩⟩
  unfold lp_order_for2
  cases hg : goal er mm u with
  | true =>
    rw [hg] at q1
    simp (disch := first | (refine @id _ ?_; with_unfolding_all rfl) | assumption | omega) only [evl, lits, kds, kdec, reduceCtorEq, List.isEmpty_nil, List.isEmpty_cons, gls, ok_S2, pop_S2, b1, le_I, seq_PS, gd_PS, hl, sum_lens, k1, x3, x2, q1, if_true]
  | false =>
    rw [hg] at q1
    simp (disch := first | (refine @id _ ?_; with_unfolding_all rfl) | assumption | omega) only [evl, lits, kds, kdec, reduceCtorEq, List.isEmpty_nil, List.isEmpty_cons, gls, ok_S2, pop_S2, b1, le_I, seq_PS, gd_PS, hl, sum_lens, k1, x3, x2, q1, Bool.false_eq_true, if_false]
theorem body_seen (ok : Ok ps) {u : It} (G : Good ps er u) (hr : u.row.length ≠ tot ps) (w : List D) (seen : List It) (hs : (seen.any fun i => decide (i.t = u.t)) = true) (a b c d e : Option D) :
    ∃ a' b' c' d' e', evS tab (callD F tab pg (n + 2)) F lp_order_for2 (envO ps er mm a b c d e) (S2 (w ++ [itD ps.length u]) (seen.map (sd ps.length))) = some (.ct, envO ps er mm a' b' c' d' e', S2 w (seen.map (sd ps.length))) := by
  have b1 : bindP (.tup (.cons (.nm 4 (Str.ofString "row")) (.cons (.nm 5 (Str.ofString "state")) .nil))) (itD ps.length u) (envO ps er mm a b c d e) = some (envO ps er mm (some (dI u.row)) (some (u.t.d ps.length)) c d e) := rfl
  have hl := of_lens (er := er) (mm := mm) ok (S2 w (seen.map (sd ps.length))) (callD F tab pg (n + 2)) (some (dI u.row)) (some (u.t.d ps.length)) c d e
  have k1 : decide ((u.row.length : Int) = ((tot ps : Nat) : Int)) = false := decide_eq_false (by omega)
  have i1 := in_d2 (w := w) (s := seen.map (sd ps.length)) (key_dSt ps.length u.t)
  rw [any_sd, hs] at i1
  refine ⟨some (dI u.row), some (u.t.d ps.length), c, d, e, ?_⟩
  unfold lp_order_for2
  simp (disch := first | (refine @id _ ?_; with_unfolding_all rfl) | assumption | omega) only [evl, lits, kds, kdec, reduceCtorEq, List.isEmpty_nil, List.isEmpty_cons, gls, ok_S2, pop_S2, b1, le_I, seq_PS, gd_PS, hl, sum_lens, k1, i1]
theorem rng_down (S : Sto) {k : Nat} (h1 : 1 ≤ k) (h3 : k ≤ 3) : rngW [.d (.int ((k : Int) - 1)), .d (.int (-1)), .d (.int (-1))] = some ((List.range k).reverse.map fun (x : Nat) => D.int (x : Int)) := by
  have : k = 1 ∨ k = 2 ∨ k = 3 := by omega
  rcases this with rfl | rfl | rfl <;> rfl
theorem body_push (ok : Ok ps) {u : It} (G : Good ps er u) (hr : u.row.length ≠ tot ps) (w : List D) (seen : List It) (hs : (seen.any fun i => decide (i.t = u.t)) = false) (hw : w.length + ps.length ≤ LN) (hsl : seen.length < LN) (a b c d e : Option D) :
    ∃ a' b' c' d' e', evS tab (callD F tab pg (n + 2)) F lp_order_for2 (envO ps er mm a b c d e) (S2 (w ++ [itD ps.length u]) (seen.map (sd ps.length))) = some (.nx, envO ps er mm a' b' c' d' e', S2 (w ++ ((kids ps er u).reverse).map (itD ps.length)) ((seen ++ [u]).map (sd ps.length))) := by
  have b1 : bindP (.tup (.cons (.nm 4 (Str.ofString "row")) (.cons (.nm 5 (Str.ofString "state")) .nil))) (itD ps.length u) (envO ps er mm a b c d e) = some (envO ps er mm (some (dI u.row)) (some (u.t.d ps.length)) c d e) := rfl
  have hl := of_lens (er := er) (mm := mm) ok (S2 w (seen.map (sd ps.length))) (callD F tab pg (n + 2)) (some (dI u.row)) (some (u.t.d ps.length)) c d e
  have k1 : decide ((u.row.length : Int) = ((tot ps : Nat) : Int)) = false := decide_eq_false (by omega)
  have i1 := in_d2 (w := w) (s := seen.map (sd ps.length)) (key_dSt ps.length u.t)
  rw [any_sd, hs] at i1
  have o1 := op_d2 (s := seen.map (sd ps.length)) (v := .bl true) (key_dSt ps.length u.t) (by rw [List.length_map]; exact hsl)
  rw [put_sd _ _ _ hs] at o1
  have r1 := rng_down [] ok.a ok.b
  obtain ⟨c', d', hh⟩ := of_hands F n ok (mm := mm) G ((seen ++ [u]).map (sd ps.length)) ((List.range ps.length).reverse) w c d e (fun h hm => by simpa using hm) (by rw [List.length_reverse, List.length_range]; exact hw)
  rw [List.filterMap_reverse] at hh
  refine ⟨some (dI u.row), some (u.t.d ps.length), c', d', e, ?_⟩
  show _ = some (Fl.nx, envO ps er mm (some (dI u.row)) (some (u.t.d ps.length)) c' d' e, S2 (w ++ ((List.filterMap (kid ps er u) (List.range ps.length)).reverse).map (itD ps.length)) ((seen ++ [u]).map (sd ps.length)))
  unfold lp_order_for2
  simp (disch := first | (refine @id _ ?_; with_unfolding_all rfl) | assumption | omega) only [evl, lits, kds, kdec, reduceCtorEq, List.isEmpty_nil, List.isEmpty_cons, gls, ok_S2, pop_S2, b1, le_I, seq_PS, gd_PS, hl, sum_lens, k1, i1, dd_S2, o1, st_S21, le_pp, r1, hh]
abbrev RK (ps : List Pg) := rk ps
theorem rk_pos (ok : Ok ps) {u : It} (G : Good ps er u) (hr : u.row.length ≠ tot ps) : 0 < rk ps u := by
  have := G.rk
  unfold rk
  omega
theorem rk_zero {u : It} (hr : u.row.length = tot ps) : rk ps u = 0 := by unfold rk; omega
theorem any_t {seen : List It} {t : Sta} (h : (seen.any fun i => decide (i.t = t)) = true) : ∃ v ∈ seen, v.t = t := by
  obtain ⟨v, hv, e⟩ := List.any_eq_true.mp h
  exact ⟨v, hv, of_decide_eq_true e⟩
def fl (o : Option (List Nat)) : Fl := match o with
  | some row => .rt (.d (dI row))
  | none => .nx
theorem of_loop (ok : Ok ps) : ∀ (f : Nat) (stack seen : List It), N5.meas (rk ps) stack < f → (∀ i ∈ stack, Good ps er i) → (∀ i ∈ seen, Good ps er i) → (seen.map fun i => i.t).Nodup → N5.SeenInv (val ps er mm) (rk ps) stack seen → stack.length ≤ 1 + 2 * seen.length →
    ∀ (a b c d e : Option D), ∃ ρ' S', whl tab (callD F tab pg (n + 2)) F lt_order_for1 lp_order_for2 f (envO ps er mm a b c d e) (S2 (stack.reverse.map (itD ps.length)) (seen.map (sd ps.length))) = some (fl (stack.findSome? (val ps er mm)), ρ', S')
  | 0, _, _, hm, _, _, _, _, _ => absurd hm (Nat.not_lt_zero _)
  | f + 1, [], seen, hm, hG, hGs, hN, hI, hlen => fun a b c d e => by
    refine ⟨envO ps er mm a b c d e, S2 [] (seen.map (sd ps.length)), ?_⟩
    rw [whl_s]
    unfold lt_order_for1
    simp (disch := first | (refine @id _ ?_; with_unfolding_all rfl) | assumption | omega) only [evl, lits, kds, kdec, reduceCtorEq, List.isEmpty_nil, List.isEmpty_cons, gls, tr_S2, List.reverse_nil, List.map_nil]
    rfl
  | f + 1, u :: rest, seen, hm, hG, hGs, hN, hI, hlen => fun a b c d e => by
    have Gu := hG u List.mem_cons_self
    have hsl := seen_len ok hGs hN
    have hb := ok.b
    rw [List.length_cons] at hlen
    have ew : (u :: rest).reverse.map (itD ps.length) = rest.reverse.map (itD ps.length) ++ [itD ps.length u] := by
      rw [List.reverse_cons, List.map_append]; rfl
    rw [ew, whl_s]
    have ht : evT tab (callD F tab pg (n + 2)) lt_order_for1 (envO ps er mm a b c d e) (S2 (rest.reverse.map (itD ps.length) ++ [itD ps.length u]) (seen.map (sd ps.length))) = some (true, S2 (rest.reverse.map (itD ps.length) ++ [itD ps.length u]) (seen.map (sd ps.length))) := by
      have : (!(rest.reverse.map (itD ps.length) ++ [itD ps.length u]).isEmpty) = true := by simp
      unfold lt_order_for1
      simp (disch := first | (refine @id _ ?_; with_unfolding_all rfl) | assumption | omega) only [evl, lits, kds, kdec, reduceCtorEq, List.isEmpty_nil, List.isEmpty_cons, gls, tr_S2, this]
    rw [ht, bnd_some, kWh_t]
    have hmp : N5.meas (rk ps) rest < f := by
      have := N5.meas_pop (rk := rk ps) (u := u) (rest := rest)
      omega
    have hGr : ∀ i ∈ rest, Good ps er i := fun i hi => hG i (List.mem_cons_of_mem _ hi)
    by_cases hr : u.row.length = tot ps
    · obtain ⟨ρ', h1, h2⟩ := body_leaf F n ok (mm := mm) Gu hr (rest.reverse.map (itD ps.length)) (seen.map (sd ps.length)) a b c d e
      rw [h1, bnd_some]
      have hv := val_leaf (er := er) (mm := mm) (rk_zero hr)
      cases hg : goal er mm u with
      | true =>
        rw [hg, if_pos rfl] at hv
        rw [if_pos rfl, kWh2_rt]
        exact ⟨ρ', _, by rw [List.findSome?_cons, hv]; rfl⟩
      | false =>
        rw [hg, if_neg Bool.false_ne_true] at hv
        obtain ⟨a', b', c', d', e', rfl⟩ := h2 hg
        rw [if_neg Bool.false_ne_true, kWh2_ct, N5.find_pop hv]
        exact of_loop ok f rest seen hmp hGr hGs hN (hI.pop hv) (by omega) a' b' c' d' e'
    · cases hs : seen.any fun i => decide (i.t = u.t) with
      | true =>
        obtain ⟨a', b', c', d', e', h1⟩ := body_seen F n ok (mm := mm) Gu hr (rest.reverse.map (itD ps.length)) seen hs a b c d e
        rw [h1, bnd_some, kWh2_ct]
        obtain ⟨v, hv, e1⟩ := any_t hs
        have hlv : v.row.length = u.row.length := by rw [(hGs v hv).len, Gu.len, e1]
        have hvn := hI.seen hv (val_t e1 hlv) (by unfold rk; rw [hlv])
        rw [N5.find_pop hvn]
        exact of_loop ok f rest seen hmp hGr hGs hN (hI.pop hvn) (by omega) a' b' c' d' e'
      | false =>
        have hMC : MC = 329623 := rfl
        obtain ⟨a', b', c', d', e', h1⟩ := body_push F n ok (mm := mm) Gu hr (rest.reverse.map (itD ps.length)) seen hs (by rw [List.length_map, List.length_reverse]; unfold LN; omega) (by unfold LN; omega) a b c d e
        rw [h1, bnd_some, kWh2_nx]
        have hp := rk_pos ok Gu hr
        have hv := val_kids (er := er) (mm := mm) hp
        have hk : ∀ k ∈ kids ps er u, rk ps k < rk ps u := fun k hk => by have := kids_rk hp hk; omega
        have hkl := kids_len (er := er) u (ps := ps)
        rw [N5.find_push hv]
        have e2 : rest.reverse.map (itD ps.length) ++ (kids ps er u).reverse.map (itD ps.length) = (kids ps er u ++ rest).reverse.map (itD ps.length) := by
          rw [List.reverse_append, List.map_append]
        rw [e2]
        refine of_loop ok f (kids ps er u ++ rest) (seen ++ [u]) ?_ (fun i hi => ?_) (fun i hi => ?_) ?_ (hI.push hk hv) ?_ a' b' c' d' e'
        · have := N5.meas_push (rk := rk ps) (rest := rest) hk (by omega)
          omega
        · rcases List.mem_append.mp hi with z | z
          · obtain ⟨h, hh⟩ := kids_mem z
            exact Gu.kid ok hh
          · exact hGr i z
        · rcases List.mem_append.mp hi with z | z
          · exact hGs i z
          · have : i = u := by simpa using z
            rw [this]; exact Gu
        · rw [List.map_append, List.nodup_append]
          refine ⟨hN, by simp, fun x hx y hy z => ?_⟩
          have hy' : y = u.t := by simpa using hy
          obtain ⟨v, hv', e1⟩ := List.mem_map.mp hx
          have : (seen.any fun i => decide (i.t = u.t)) = true := List.any_eq_true.mpr ⟨v, hv', decide_eq_true (by rw [e1, z, hy'])⟩
          rw [hs] at this
          cases this
        · rw [List.length_append, List.length_append, List.length_cons, List.length_nil]
          omega
/-- what order_for returns -/
def oRow (o : Option (List Nat)) : D := match o with
  | some row => dI row
  | none => .non
def least (ps : List Pg) (er : List (List Nat)) (mm : List (Nat × Nat)) : Option (List Nat) := val ps er mm ⟨[], st0 ps.length⟩
theorem meas1 (ok : Ok ps) : N5.meas (rk ps) [⟨[], st0 ps.length⟩] ≤ 4 ^ 18 := by
  have h1 := tot_le ok
  unfold N5.meas N5.meas rk tot
  have : 4 ^ ((ps.map List.length).sum - ([] : List Nat).length) ≤ 4 ^ 18 := Nat.pow_le_pow_right (by decide) (by simp; exact h1)
  omega
theorem sp_order (hF : 4 ^ 18 < F) (ok : Ok ps) (er : List (List Nat)) (mm : List (Nat × Nat)) (S : Sto) : callD F tab pg (n + 3) "order_for" [dPs ps, dEnd er mm] S = some (.d (oRow (least ps er mm)), S) := by
  have hpo : (oRow (least ps er mm)).pure = true := by
    unfold oRow
    split
    · exact pu_I _
    · rfl
  have c1 := sp_check F (n + 1) [] ok
  have c2 := sp_start F (n + 1) [] ok
  have es : dSt ps.length (List.replicate ps.length 0) [] (em ps.length) = (st0 ps.length).d ps.length := rfl
  obtain ⟨ρ', S', hl⟩ := of_loop F n (mm := mm) ok F [⟨[], st0 ps.length⟩] [] (by have := meas1 ok; omega) (fun i hi => by
    have : i = ⟨[], st0 ps.length⟩ := by simpa using hi
    rw [this]; exact Good.start ps er) (fun i hi => nomatch hi) List.nodup_nil (fun v hv => nomatch hv) (Nat.le_refl 1) none none none none none
  have e0 : D.tup [D.tup [], (st0 ps.length).d ps.length] = itD ps.length ⟨[], st0 ps.length⟩ := rfl
  have e1 : (([O.lst [itD ps.length ⟨[], st0 ps.length⟩]] : Sto) ++ [O.dd []]) = S2 ([⟨[], st0 ps.length⟩].reverse.map (itD ps.length)) (([] : List It).map (sd ps.length)) := rfl
  have e2 : (if true = true then O.dd [] else O.dk []) = O.dd [] := rfl
  have hfin : fin (evS tab (callD F tab pg (n + 2)) F s_order_for [some (dPs ps), some (dEnd er mm), none, none, none, none, none, none, none] []) = some (.d (oRow (least ps er mm)), S') := by
    unfold s_order_for
    simp (disch := first | (refine @id _ ?_; with_unfolding_all rfl) | assumption | omega) only [evl, lits, kds, kdec, reduceCtorEq, List.isEmpty_nil, List.isEmpty_cons, gls, c1, c2, es, e0]
    show fin (sq tab (callD F tab pg (n + 2)) F _ (whl tab (callD F tab pg (n + 2)) F lt_order_for1 lp_order_for2 F (envO ps er mm none none none none none) (S2 ([⟨[], st0 ps.length⟩].reverse.map (itD ps.length)) (([] : List It).map (sd ps.length))))) = _
    rw [hl]
    have hv : ([⟨[], st0 ps.length⟩] : List It).findSome? (val ps er mm) = least ps er mm := by
      unfold least
      rw [List.findSome?_cons, List.findSome?_nil]
      cases val ps er mm ⟨[], st0 ps.length⟩ <;> rfl
    rw [hv]
    cases hle : least ps er mm with
    | none =>
      unfold fl oRow
      simp (disch := first | (refine @id _ ?_; with_unfolding_all rfl) | assumption | omega) only [evl]
    | some row =>
      unfold fl oRow
      simp (disch := first | (refine @id _ ?_; with_unfolding_all rfl) | assumption | omega) only [evl]
  exact call_px look_order_for rfl (pr2 rfl (pu_PS ps) (pu_End er mm)) hfin (ex_d hpo) S
end
end K53

set_option Elab.async false
set_option linter.all false
set_option maxRecDepth 100000
/-! N9: _law_step -/
namespace K53
open PySem PySem.Spec PyProof.Rows L2 Z
def dk (m : List (Nat × Nat)) : List (Key × D) := m.map fun q => ((.inl (q.1 : Int) : Key), D.int (q.2 : Int))
theorem pairs_d2 : ∀ m : List (Nat × Nat), pairsW (m.map d2) = some (m.map fun q => (D.int (q.1 : Int), D.int (q.2 : Int)))
  | [] => rfl
  | q :: m => by rw [List.map_cons]; unfold pairsW; rw [pairs_d2 m]; rfl
theorem dctK_d2 : ∀ m : List (Nat × Nat), dctK (m.map fun q => (D.int (q.1 : Int), D.int (q.2 : Int))) = some (dk m)
  | [] => rfl
  | q :: m => by
    rw [List.map_cons]
    unfold dctK
    rw [dctK_d2 m]
    rfl
theorem fold_put : ∀ (m a : List (Nat × Nat)), Srt (a ++ m) → (dk m).foldl (fun acc p => putD acc p.1 p.2) (dk a) = dk (a ++ m)
  | [], a, _ => by rw [List.append_nil]; rfl
  | q :: m, a, h => by
    have h1 : putD (dk a) (.inl (q.1 : Int)) (D.int (q.2 : Int)) = dk (a ++ [q]) := by
      unfold putD
      have : ((dk a).any fun kv => decide (kv.1 = (.inl (q.1 : Int) : Key))) = false := by
        rw [List.any_eq_false]
        intro x hx
        obtain ⟨y, hy, rfl⟩ := List.mem_map.mp hx
        have := (List.pairwise_append.mp h).2.2 y hy q List.mem_cons_self
        simp
        omega
      rw [this]
      unfold dk
      rw [List.map_append]
      rfl
    show (dk m).foldl _ (putD (dk a) (.inl (q.1 : Int)) (D.int (q.2 : Int))) = _
    rw [h1, fold_put m (a ++ [q]) (by rw [List.append_assoc]; exact h), List.append_assoc]
    rfl
theorem dct_d2 {m : List (Nat × Nat)} (h : Srt m) (hl : m.length ≤ LN) : dctO false (m.map fun q => (D.int (q.1 : Int), D.int (q.2 : Int))) = some (.dk (dk m)) := by
  unfold dctO
  rw [if_pos (by rw [List.length_map]; exact hl)]
  show ((dctK _).map _) = _
  rw [dctK_d2]
  show some (O.dk _) = _
  rw [show (dk m).foldl (fun acc p => putD acc p.1 p.2) [] = dk ([] ++ m) from fold_put m [] (by rw [List.nil_append]; exact h), List.nil_append]
theorem val_dk (p : Nat) : ∀ m : List (Nat × Nat), (match valD (dk m) (.inl (p : Int)) with | some d => d | none => D.int 0) = D.int ((known m p : Nat) : Int)
  | [] => rfl
  | q :: m => by
    have ih := val_dk p m
    unfold valD at *
    unfold known
    show (match (List.find? _ (((.inl (q.1 : Int) : Key), D.int (q.2 : Int)) :: dk m)).map (·.2) with | some d => d | none => D.int 0) = _
    rw [List.find?_cons]
    by_cases e : q.1 = p
    · rw [if_pos e]
      have : decide ((.inl (q.1 : Int) : Key) = .inl (p : Int)) = true := decide_eq_true (by rw [e])
      simp only [this]
      rfl
    · rw [if_neg e]
      have : decide ((.inl (q.1 : Int) : Key) = .inl (p : Int)) = false := decide_eq_false (fun z => e (by injection z with z; omega))
      simp only [this]
      exact ih
/-- a row with another value -/
def putM (m : List (Nat × Nat)) (p v : Nat) : List (Nat × Nat) := if (m.any fun q => decide (q.1 = p)) = true then m.map (fun q => if q.1 = p then (q.1, v) else q) else m ++ [(p, v)]
theorem put_dk (m : List (Nat × Nat)) (p v : Nat) : putD (dk m) (.inl (p : Int)) (D.int (v : Int)) = dk (putM m p v) := by
  have hd : ∀ q : Nat × Nat, decide ((.inl (q.1 : Int) : Key) = .inl (p : Int)) = decide (q.1 = p) := fun q => by
    by_cases e : q.1 = p
    · rw [decide_eq_true e, decide_eq_true (by rw [e])]
    · rw [decide_eq_false e, decide_eq_false (fun z => e (by injection z with z; omega))]
  unfold putD putM
  have ha : ((dk m).any fun kv => decide (kv.1 = (.inl (p : Int) : Key))) = m.any fun q => decide (q.1 = p) := by
    unfold dk
    rw [List.any_map]
    congr 1
    funext q
    exact hd q
  rw [ha]
  split
  · unfold dk
    rw [List.map_map, List.map_map]
    congr 1
    funext q
    have := hd q
    simp only [Function.comp]
    by_cases e : q.1 = p
    · rw [if_pos e, if_pos (by rw [e])]
    · rw [if_neg e, if_neg (fun z => e (by injection z with z; omega))]
  · unfold dk
    rw [List.map_append]
    rfl
theorem putM_perm {m : List (Nat × Nat)} (p v : Nat) (h : Srt m) : (putM m p v).Perm ((m.filter fun q => decide (q.1 ≠ p)) ++ [(p, v)]) := by
  unfold putM
  split
  · next ha =>
    induction m with
    | nil => cases ha
    | cons q m ih =>
      have h' := List.pairwise_cons.mp h
      rw [List.map_cons, List.filter_cons]
      by_cases e : q.1 = p
      · rw [if_pos e, if_neg (by simp [e])]
        have e1 : m.map (fun q => if q.1 = p then (q.1, v) else q) = m := by
          conv => rhs; rw [← List.map_id m]
          refine List.map_congr_left fun x hx => ?_
          have := h'.1 x hx
          rw [if_neg (by omega)]
          rfl
        have e2 : m.filter (fun q => decide (q.1 ≠ p)) = m := List.filter_eq_self.mpr fun x hx => by
          have := h'.1 x hx
          exact decide_eq_true (by omega)
        rw [e1, e2, e]
        exact (List.perm_append_comm (l₁ := [(p, v)]) (l₂ := m))
      · rw [if_neg e, if_pos (decide_eq_true e), List.cons_append]
        rw [List.any_cons, decide_eq_false e, Bool.false_or] at ha
        exact (ih h'.2 ha).cons q
  · next ha =>
    have : m.filter (fun q => decide (q.1 ≠ p)) = m := List.filter_eq_self.mpr fun x hx => by
      refine decide_eq_true fun z => ha ?_
      exact List.any_eq_true.mpr ⟨x, hx, decide_eq_true z⟩
    rw [this]
theorem sm_putM {m : List (Nat × Nat)} (p v : Nat) (h : Srt m) : sm (putM m p v) = stored m p v := sm_congr (putM_perm p v h)
theorem sm_id {m : List (Nat × Nat)} (h : Srt m) : sm m = m := sm_unique (sm_perm m) (sm_sorted m) (h.imp fun {a b} hab => leP_iff.mpr (.inl hab))
theorem its_dk (m : List (Nat × Nat)) : itsO (.dk (dk m)) = m.map d2 := by
  show (dk m).map _ = _
  unfold dk
  rw [List.map_map]
  rfl
section
variable (F n : Nat) (S : Sto)
theorem si_dk (cl : Calls) (ρ : Z.Env) (m : List (Nat × Nat)) (h : lk ρ 6 = some (.ref 0)) : evW tab cl (.sitm (.var 6 (Str.ofString "told"))) ρ [.dk (dk m)] = some (.tmp ((sm m).map d2), [.dk (dk m)]) := by
  rw [e_sitm tab cl ρ [.dk (dk m)] (n := 0) (S1 := [.dk (dk m)]) (o := .dk (dk m)) (by rw [e_var, h]; rfl) rfl rfl (by rw [its_dk]; exact ord_d2 m), its_dk, sortD_d2]
theorem get_dk (m : List (Nat × Nat)) (p : Nat) : mthW [.dk (dk m)] .get2 (.d (.ref 0)) [.d (.int (p : Int)), .d (.int 0)] = some (.d (.int ((known m p : Nat) : Int)), [.dk (dk m)]) := by
  have e : mthW [.dk (dk m)] .get2 (.d (.ref 0)) [.d (.int (p : Int)), .d (.int 0)] = (oGet (.dk (dk m)) (.int (p : Int))).map (fun r => match r with | some d => (W.d d, [O.dk (dk m)]) | none => (W.d (.int 0), [O.dk (dk m)])) := rfl
  rw [e, oGet_k]
  show some _ = _
  have hv := val_dk p m
  dsimp only
  split
  · next d hq =>
    rw [show valD (dk m) (.inl (p : Int)) = some d from hq] at hv
    rw [← hv]
  · next hq =>
    rw [show valD (dk m) (.inl (p : Int)) = none from hq] at hv
    rw [← hv]
theorem op_dk (m : List (Nat × Nat)) (p v : Nat) (hl : m.length < LN) : oPut (.dk (dk m)) (.int (p : Int)) (.int (v : Int)) = some (.dk (dk (putM m p v))) := by
  rw [oPut_k, if_pos (by unfold dk; rw [List.length_map]; exact hl), ← put_dk]
  rfl
theorem sp_lstep {s : St} {m : List (Nat × Nat)} {own : List Nat} (hs : Srt m) (hm : m.length ≤ 1000) (ho : own.length ≤ 1000) :
    callD F tab pg (n + 1) "_law_step" [s.d, dM m, dI own] S = some (.d (.tup [dM (stepM s m), dI (stepR s m own)]), S) := by
  obtain ⟨kd, p, v⟩ := s
  have hp : ∀ m' r', D.pure (.tup [dM m', dI r']) = true := fun m' r' => by rw [pu_t, pu_c, pu_c, pu_M, pu_I]; rfl
  have go : ∀ S', fin (evS tab (callD F tab pg n) F s_law_step [some (St.d ⟨kd, p, v⟩), some (dM m), some (dI own), none, none, none, none] []) = some (.d (.tup [dM (stepM ⟨kd, p, v⟩ m), dI (stepR ⟨kd, p, v⟩ m own)]), S') → callD F tab pg (n + 1) "_law_step" [St.d ⟨kd, p, v⟩, dM m, dI own] S = some (.d (.tup [dM (stepM ⟨kd, p, v⟩ m), dI (stepR ⟨kd, p, v⟩ m own)]), S) := fun S' hf =>
    call_px look_law_step rfl (pr3 rfl (pu_S _) (pu_M _) (pu_I _)) hf (ex_d (hp _ _)) S
  have d1 : St.d ⟨kd, p, v⟩ = .tup [.str kd.s, .int (p : Int), .int (v : Int)] := rfl
  have e2 : seqOf [] (.d (dM m)) = some (m.map d2) := rfl
  have dc := dct_d2 hs (by unfold LN; omega)
  have l0 : ([O.dk (dk m)] : Sto)[0]? = some (.dk (dk m)) := rfl
  have op := op_dk m p v (by unfold LN; omega)
  have ls := fun S => snoc_I S own (known m p) ho
  have mk : mtOk [O.dk (dk m)] .get2 (.d (.ref 0)) = true := rfl
  have gd := get_dk m p
  have s1 : ∀ (cl : Calls) (ρ : Z.Env), lk ρ 6 = some (.ref 0) → evW tab cl (.sitm (.var 6 (Str.ofString "told"))) ρ [.dk (dk m)] = some (.tmp (m.map d2), [.dk (dk m)]) := fun cl ρ h => by rw [si_dk cl ρ m h, sm_id hs]
  have s2 : ∀ (cl : Calls) (ρ : Z.Env), lk ρ 6 = some (.ref 0) → evW tab cl (.sitm (.var 6 (Str.ofString "told"))) ρ [.dk (dk (putM m p v))] = some (.tmp ((stored m p v).map d2), [.dk (dk (putM m p v))]) := fun cl ρ h => by rw [si_dk cl ρ _ h, sm_putM p v hs]
  have a0 : (([] : Sto) ++ [O.dk (dk m)]) = [O.dk (dk m)] := rfl
  have a1 : List.length ([] : Sto) = 0 := rfl
  have a2 : ([O.dk (dk m)] : Sto).set 0 (.dk (dk (putM m p v))) = [O.dk (dk (putM m p v))] := rfl
  have am : ∀ m : List (Nat × Nat), D.tup (m.map d2) = dM m := fun m => rfl
  cases kd with
  | r =>
    refine go [.dk (dk m)] ?_
    unfold s_law_step stepM stepR
    rw [d1]
    simp (disch := first | (refine @id _ ?_; with_unfolding_all rfl) | assumption | omega) only [evl, lits, kds, kdec, reduceCtorEq, List.isEmpty_nil, List.isEmpty_cons, gls, e2, pairs_d2, dc, a0, a1, mk, gd, ls, s1, am]
  | w =>
    refine go [.dk (dk (putM m p v))] ?_
    unfold s_law_step stepM stepR
    rw [d1]
    simp (disch := first | (refine @id _ ?_; with_unfolding_all rfl) | assumption | omega) only [evl, lits, kds, kdec, reduceCtorEq, List.isEmpty_nil, List.isEmpty_cons, gls, e2, pairs_d2, dc, a0, a1, l0, op, a2, s2, am]
  | x =>
    refine go [.dk (dk (putM m p v))] ?_
    unfold s_law_step stepM stepR
    rw [d1]
    simp (disch := first | (refine @id _ ?_; with_unfolding_all rfl) | assumption | omega) only [evl, lits, kds, kdec, reduceCtorEq, List.isEmpty_nil, List.isEmpty_cons, gls, e2, pairs_d2, dc, a0, a1, mk, gd, ls, l0, op, a2, s2, am]
  | f =>
    refine go [.dk (dk m)] ?_
    unfold s_law_step stepM stepR
    rw [d1]
    simp (disch := first | (refine @id _ ?_; with_unfolding_all rfl) | assumption | omega) only [evl, lits, kds, kdec, reduceCtorEq, List.isEmpty_nil, List.isEmpty_cons, gls, e2, pairs_d2, dc, a0, a1, s1, am]
end
end K53

set_option Elab.async false
set_option linter.all false
set_option maxRecDepth 100000
/-! N10: _law_least -/
namespace K53
open PySem PySem.Spec PyProof.Rows L2 Z
def itL (it : It) : D := .tup [dI it.row, dI it.t.pl, dM it.t.m, dR it.t.r]
def kl (t : Sta) : D := .tup [dI t.pl, dM t.m]
def sl (it : It) : D × D := (kl it.t, .bl true)
def S3 (w : List D) (s : List (D × D)) : Sto := [.dd s, .lst w]
theorem key_kl (t : Sta) : keyT (kl t) = true := by
  show keyN 8 (.tup [dI t.pl, dM t.m]) = true
  rw [keyN]
  simp only [List.all_cons, List.all_nil, Bool.and_true, Bool.and_eq_true]
  exact ⟨key_dI 6 _, key_dM 5 _⟩
theorem kl_eq (t t' : Sta) : eqD (kl t) (kl t') = (decide (t.pl = t'.pl) && decide (t.m = t'.m)) := by
  unfold kl
  rw [eqD, eqDs, eqDs, eqDs, eqD_inj dI_inj, eqD_inj dM_inj, Bool.and_true]
theorem in_d3 {w : List D} {s : List (D × D)} {k : D} (hk : keyT k = true) : inW (S3 w s) (.d k) (.d (.ref 0)) = some ((getDD s k).isSome) := by
  show (if keyT k = true then some (getDD s k) else none).map Option.isSome = _
  rw [if_pos hk]; rfl
theorem len_S3 (w : List D) (s : List (D × D)) : biW (S3 w s) .len [.d (.ref 1)] = some (.d (.int w.length)) := rfl
theorem ok_S3 (w : List D) (s : List (D × D)) : mtOk (S3 w s) .pop0 (.d (.ref 1)) = true := rfl
theorem pop_S3 (w : List D) (x : D) (s : List (D × D)) : mthW (S3 (w ++ [x]) s) .pop0 (.d (.ref 1)) [] = some (.d x, S3 w s) := by
  show (match (w ++ [x]).getLast? with | some d => _ | none => _) = _
  rw [List.getLast?_concat, List.dropLast_concat]; rfl
theorem ls_S3 (w : List D) (s : List (D × D)) : lstO (S3 w s)[1]? = some w := rfl
theorem dd_S3 (w : List D) (s : List (D × D)) : (S3 w s)[0]? = some (.dd s) := rfl
theorem st_S31 (w w' : List D) (s : List (D × D)) : (S3 w s).set 1 (.lst w') = S3 w' s := rfl
theorem st_S30 (w : List D) (s s' : List (D × D)) : (S3 w s).set 0 (.dd s') = S3 w s' := rfl
theorem cut_R (S : Sto) (xs : List (List Nat)) (h : Nat) : slW S (.d (dR xs)) none (some (h : Int)) = some (.d (dR (xs.take h))) := by
  unfold dR; rw [cut_any, List.map_take]
theorem cutf_I (S : Sto) {xs : List Nat} {h : Nat} (hh : h ≤ xs.length) : slW S (.d (dI xs)) (some (h : Int)) none = some (.d (dI (xs.drop h))) := by
  unfold dI; rw [cut_from S (by rw [List.length_map]; exact hh), List.map_drop]
theorem cutf_R (S : Sto) {xs : List (List Nat)} {h : Nat} (hh : h ≤ xs.length) : slW S (.d (dR xs)) (some (h : Int)) none = some (.d (dR (xs.drop h))) := by
  unfold dR; rw [cut_from S (by rw [List.length_map]; exact hh), List.map_drop]
theorem cat_II (S : Sto) (a b : List Nat) (h : a.length + b.length ≤ LN) : binW S .add (.d (dI a)) (.d (dI b)) = some (.d (dI (a ++ b))) := by
  unfold dI; rw [cat_t S (by rw [List.length_map, List.length_map]; exact h), List.map_append]
theorem cat_RR (S : Sto) (a b : List (List Nat)) (h : a.length + b.length ≤ LN) : binW S .add (.d (dR a)) (.d (dR b)) = some (.d (dR (a ++ b))) := by
  unfold dR; rw [cat_t S (by rw [List.length_map, List.length_map]; exact h), List.map_append]
theorem snoc_R (S : Sto) (a : List (List Nat)) (v : List Nat) (h : a.length + 1 ≤ LN) : binW S .add (.d (dR a)) (.d (.tup [dI v])) = some (.d (dR (a ++ [v]))) := cat_RR S a [v] h
theorem set_l {α : Type} {xs : List α} {h : Nat} {one : α} (hh : h < xs.length) : xs.take h ++ [one] ++ xs.drop (h + 1) = xs.set h one := by
  rw [List.set_eq_take_append_cons_drop, if_pos hh, List.append_assoc]; rfl
theorem soFar_set {r er : List (List Nat)} {h : Nat} {v : List Nat} (hl : er.length = r.length) (hh : h < r.length) (hp : ∀ i : Nat, r.getD i [] = (er.getD i []).take (r.getD i []).length) : soFar (r.set h v) er = decide (v = (er.getD h []).take v.length) := by
  by_cases e : v = (er.getD h []).take v.length
  · rw [decide_eq_true e]
    unfold soFar
    rw [decide_eq_true (by rw [List.length_set]; exact hl), Bool.true_and]
    refine List.all_eq_true.mpr fun p hp' => ?_
    obtain ⟨i, hi⟩ := List.mem_iff_getElem?.mp hp'
    rw [List.getElem?_zip_eq_some] at hi
    obtain ⟨h1, h2⟩ := hi
    have g1 : p.1 = (r.set h v).getD i [] := by rw [List.getD_eq_getElem?_getD, h1]; rfl
    have g2 : p.2 = er.getD i [] := by rw [List.getD_eq_getElem?_getD, h2]; rfl
    rw [getD_set _ _ _ _ _ hh] at g1
    refine decide_eq_true ?_
    by_cases z : i = h
    · subst z
      rw [if_pos rfl] at g1
      rw [g1, g2]; exact e
    · rw [if_neg z] at g1
      rw [g1, g2]; exact hp i
  · rw [decide_eq_false e]
    cases hs : soFar (r.set h v) er with
    | false => rfl
    | true =>
      have := soFar_pre hs h
      rw [getD_set _ _ _ _ _ hh, if_pos rfl] at this
      exact absurd this e
theorem sum_all : ∀ (ps : List Pg) (pl : List Nat), pl.length = ps.length → (∀ (h : Nat) p, ps[h]? = some p → pl.getD h 0 ≤ p.length) → pl.sum = (ps.map List.length).sum → pl = ps.map List.length
  | [], [], _, _, _ => rfl
  | [], _ :: _, h, _, _ => by simp at h
  | _ :: _, [], h, _, _ => by simp at h
  | p :: ps, x :: pl, h, hle, hs => by
    have h1 := hle 0 p rfl
    have h3 : ∀ (i : Nat) q, ps[i]? = some q → pl.getD i 0 ≤ q.length := fun i q hq => by
      have := hle (i + 1) q (by simpa using hq)
      simpa using this
    have h2 := sum_le ps pl (by simpa using h) h3
    simp only [List.map_cons, List.sum_cons, List.getD_cons_zero] at *
    rw [sum_all ps pl (by simpa using h) h3 (by omega)]
    congr 1
    omega
section
variable (F n : Nat) {ps : List Pg} {er : List (List Nat)} {mm : List (Nat × Nat)}
theorem leaf_pl {it : It} (G : Good ps er it) (h : it.row.length = tot ps) : it.t.pl = ps.map List.length := sum_all ps _ G.si.lp G.si.le (by rw [← G.len, h]; rfl)
theorem leaf_kids {it : It} (G : Good ps er it) (h : it.row.length = tot ps) : kids ps er it = [] := by
  unfold kids
  refine List.filterMap_eq_nil_iff.mpr fun a ha => ?_
  unfold kid
  have : nxt ps a it.t = none := by
    unfold nxt
    cases hp : ps[a]? with
    | none => rfl
    | some p =>
      show p[it.t.pl.getD a 0]? = none
      rw [leaf_pl G h]
      have : (ps.map List.length).getD a 0 = p.length := by
        rw [List.getD_eq_getElem?_getD, List.getElem?_map, hp]; rfl
      rw [this]
      exact List.getElem?_eq_none (Nat.le_refl _)
  rw [this]
  rfl
abbrev envL (ps : List Pg) (er : List (List Nat)) (mm : List (Nat × Nat)) (x5 x6 x7 x8 k a o p : Option D) : Z.Env := [some (dPs ps), some (dEnd er mm), some (.int ((tot ps : Nat) : Int)), some (.ref 1), some (.ref 0), x5, x6, x7, x8, k, a, o, p]
theorem ll_hands (ok : Ok ps) (hel : er.length = ps.length) {it : It} (G : Good ps er it) (s : List (D × D)) : ∀ (hs : List Nat) (w : List D) (k a o p : Option D), (∀ h ∈ hs, h < ps.length) → w.length + hs.length ≤ LN →
    ∃ k' a' o', forLoop [] (stp tab (callD F tab pg (n + 1)) F (.nm 9 (Str.ofString "k")) lp_law_least1) (hs.map fun (x : Nat) => .int (x : Int)) (envL ps er mm (some (dI it.row)) (some (dI it.t.pl)) (some (dM it.t.m)) (some (dR it.t.r)) k a o p) (S3 w s) =
      some (.nx, envL ps er mm (some (dI it.row)) (some (dI it.t.pl)) (some (dM it.t.m)) (some (dR it.t.r)) k' a' o' p, S3 (w ++ (hs.filterMap (kid ps er it)).map itL) s)
  | [], w, k, a, o, p, _, _ => ⟨k, a, o, by rw [List.map_nil, forLoop_nil _ _ (chkG_nil _)]; simp⟩
  | h :: hs, w, k, a, o, p, hh, hl => by
    rw [List.length_cons] at hl
    have h1 : h < ps.length := hh h List.mem_cons_self
    have lp := G.si.lp
    have lr := G.si.lr
    have hb := ok.b
    obtain ⟨q, hp⟩ : ∃ p, ps[h]? = some p := ⟨ps[h], by simp [h1]⟩
    have hle := G.si.le h q hp
    have x1 := fun S => ix_PP S hp
    have x3 := fun S => ix_I S (getD_some 0 (show h < it.t.pl.length by omega))
    have hrow := lnr ok G
    cases hn : nxt ps h it.t with
    | none =>
      have hnl : ¬ it.t.pl.getD h 0 < q.length := fun z => by
        unfold nxt at hn
        rw [hp] at hn
        simp only [Option.bind] at hn
        rw [List.getElem?_eq_getElem z] at hn
        cases hn
      obtain ⟨k', a', o', ih⟩ := ll_hands ok hel G s hs w (some (.int (h : Int))) a o p (fun x hx => hh x (List.mem_cons_of_mem _ hx)) (by omega)
      refine ⟨k', a', o', ?_⟩
      have hk : kid ps er it h = none := by unfold kid; rw [hn]; rfl
      have k1 : decide (((it.t.pl.getD h 0 : Nat) : Int) < (q.length : Int)) = false := decide_eq_false (by omega)
      rw [List.filterMap_cons, hk]
      rw [List.map_cons, forLoop_cons _ _ _ _ (chkG_nil _), stp_e]
      unfold lp_law_least1 at *
      simp (disch := first | (refine @id _ ?_; with_unfolding_all rfl) | assumption | omega) only [evl, lits, kds, kdec, reduceCtorEq, List.isEmpty_nil, List.isEmpty_cons, gls, x1, x3, le_p, k1, ih]
    | some st =>
      obtain ⟨p', g1, g2⟩ := nxt_some hn
      rw [hp] at g1
      cases g1
      have hlt := (List.getElem?_eq_some_iff.mp g2).1
      have k1 : decide (((it.t.pl.getD h 0 : Nat) : Int) < (q.length : Int)) = true := decide_eq_true (by omega)
      have x2 := fun S => ix_P S g2
      have x5 := fun S => ix_R S (getD_some [] (show h < it.t.r.length by omega))
      have h18 := G.si.m18 ok
      have h6 := G.si.r6 ok h
      have hst := fun S => sp_lstep F n S (s := st) (m := it.t.m) (own := it.t.r.getD h []) G.mi.ms (by omega) (by omega)
      have x6 := fun S => ix_R S (getD_some [] (show h < er.length by omega))
      have x7 : ∀ S, ixW S (.d (dEnd er mm)) (.d (.int 0)) = some (.d (dR er)) := fun S => rfl
      have hsf0 := soFar_set (r := it.t.r) (er := er) (h := h) (v := stepR st it.t.m (it.t.r.getD h [])) (by omega) (by omega) G.fit.pre
      have hq : ∀ S, eqW S (.d (dI (stepR st it.t.m (it.t.r.getD h [])))) (.d (dI ((er.getD h []).take (stepR st it.t.m (it.t.r.getD h [])).length))) = some (soFar (goS st h it.t).r er) := fun S => by
        rw [eq_I, ← hsf0]; rfl
      cases hsf : soFar (goS st h it.t).r er with
      | false =>
        obtain ⟨k', a', o', ih⟩ := ll_hands ok hel G s hs w (some (.int (h : Int))) (some (dM (stepM st it.t.m))) (some (dI (stepR st it.t.m (it.t.r.getD h [])))) p (fun x hx => hh x (List.mem_cons_of_mem _ hx)) (by omega)
        refine ⟨k', a', o', ?_⟩
        have hk : kid ps er it h = none := by unfold kid; rw [hn]; simp [hsf]
        rw [hsf] at hq
        rw [List.filterMap_cons, hk]
        rw [List.map_cons, forLoop_cons _ _ _ _ (chkG_nil _), stp_e]
        unfold lp_law_least1 at *
        simp (disch := first | (refine @id _ ?_; with_unfolding_all rfl) | assumption | omega) only [evl, lits, kds, kdec, reduceCtorEq, List.isEmpty_nil, List.isEmpty_cons, gls, x1, x3, le_p, k1, x2, x5, hst, x6, x7, le_I, cut_I, hq, ih]
      | true =>
        have hk : kid ps er it h = some ⟨it.row ++ [h], goS st h it.t⟩ := by unfold kid; rw [hn]; simp [hsf]
        obtain ⟨k', a', o', ih⟩ := ll_hands ok hel G s hs (w ++ [itL ⟨it.row ++ [h], goS st h it.t⟩]) (some (.int (h : Int))) (some (dM (stepM st it.t.m))) (some (dI (stepR st it.t.m (it.t.r.getD h [])))) p (fun x hx => hh x (List.mem_cons_of_mem _ hx)) (by rw [List.length_append, List.length_cons, List.length_nil]; omega)
        refine ⟨k', a', o', ?_⟩
        rw [hsf] at hq
        have cr := fun S => cat_row S it.row h (by omega)
        have ea : ((it.t.pl.getD h 0 : Nat) : Int) + 1 = ((it.t.pl.getD h 0 + 1 : Nat) : Int) := by omega
        have eb : ((h : Nat) : Int) + 1 = ((h + 1 : Nat) : Int) := by omega
        have c1 := fun S => snoc_I S (it.t.pl.take h) (it.t.pl.getD h 0 + 1) (by rw [List.length_take]; omega)
        have c2 := fun S => cutf_I S (xs := it.t.pl) (h := h + 1) (by omega)
        have c3 := fun S => cat_II S (it.t.pl.take h ++ [it.t.pl.getD h 0 + 1]) (it.t.pl.drop (h + 1)) (by simp only [List.length_append, List.length_take, List.length_drop, List.length_cons, List.length_nil]; unfold LN; omega)
        have c4 := fun S => snoc_R S (it.t.r.take h) (stepR st it.t.m (it.t.r.getD h [])) (by rw [List.length_take]; unfold LN; omega)
        have c5 := fun S => cutf_R S (xs := it.t.r) (h := h + 1) (by omega)
        have c6 := fun S => cat_RR S (it.t.r.take h ++ [stepR st it.t.m (it.t.r.getD h [])]) (it.t.r.drop (h + 1)) (by simp only [List.length_append, List.length_take, List.length_drop, List.length_cons, List.length_nil]; unfold LN; omega)
        have s1 := set_l (xs := it.t.pl) (h := h) (one := it.t.pl.getD h 0 + 1) (by omega)
        have s2 := set_l (xs := it.t.r) (h := h) (one := stepR st it.t.m (it.t.r.getD h [])) (by omega)
        have e4 : D.tup [dI (it.row ++ [h]), dI (it.t.pl.set h (it.t.pl.getD h 0 + 1)), dM (stepM st it.t.m), dR (it.t.r.set h (stepR st it.t.m (it.t.r.getD h [])))] = itL ⟨it.row ++ [h], goS st h it.t⟩ := rfl
        have e5 := kApp4_e (n := 1) (S := S3 w s) (d := itL ⟨it.row ++ [h], goS st h it.t⟩) (xs := w) (by omega)
        rw [List.filterMap_cons, hk]
        rw [List.map_cons, forLoop_cons _ _ _ _ (chkG_nil _), stp_e]
        simp only [List.map_cons]
        rw [show w ++ itL ⟨it.row ++ [h], goS st h it.t⟩ :: (List.filterMap (kid ps er it) hs).map itL = w ++ [itL ⟨it.row ++ [h], goS st h it.t⟩] ++ (List.filterMap (kid ps er it) hs).map itL by simp]
        unfold lp_law_least1 at *
        simp (disch := first | (refine @id _ ?_; with_unfolding_all rfl) | assumption | omega) only [evl, lits, kds, kdec, reduceCtorEq, List.isEmpty_nil, List.isEmpty_cons, gls, x1, x3, le_p, k1, x2, x5, hst, x6, x7, le_I, cut_I, hq, cr, ea, c1, eb, c2, c3, s1, cut_R, c4, c5, c6, s2, e4, ls_S3, e5, st_S31, ih]
end
end K53

set_option Elab.async false
set_option linter.all false
set_option maxRecDepth 100000
/-! N11: _law_least, the loop -/
namespace K53
open PySem PySem.Spec PyProof.Rows L2 Z
section
variable (F n : Nat) {ps : List Pg} {er : List (List Nat)} {mm : List (Nat × Nat)}
theorem any_sl (seen : List It) (t : Sta) : (getDD (seen.map sl) (kl t)).isSome = seen.any fun i => decide (i.t.pl = t.pl) && decide (i.t.m = t.m) := by
  rw [show seen.map sl = seen.map fun i => (kl i.t, .bl true) from rfl, get_seen]
  congr 1
  funext i
  exact kl_eq i.t t
theorem put_sl (seen : List It) (u : It) (h : (seen.any fun i => decide (i.t.pl = u.t.pl) && decide (i.t.m = u.t.m)) = false) : putDD (seen.map sl) (kl u.t) (.bl true) = (seen ++ [u]).map sl := by
  rw [show seen.map sl = seen.map fun i => (kl i.t, .bl true) from rfl, put_seen]
  · rw [List.map_append]; rfl
  · rw [← h]
    congr 1
    funext i
    exact kl_eq i.t u.t
def cnd (ps : List Pg) (er : List (List Nat)) (mm : List (Nat × Nat)) (u : It) : Bool := decide (u.row.length = tot ps) && goal er mm u
theorem cnd_ok (S : Sto) (cl : Calls) (u : It) (k a o p : Option D) : evT tab cl (.and (.cons (.cmp .eq (.bi .len (.cons (.var 5 (Str.ofString "row")) .nil)) (.var 2 (Str.ofString "many"))) (.cons (.cmp .eq (.tup (.cons (.var 8 (Str.ofString "reads")) (.cons (.var 7 (Str.ofString "cells")) .nil))) (.var 1 (Str.ofString "end"))) .nil))) (envL ps er mm (some (dI u.row)) (some (dI u.t.pl)) (some (dM u.t.m)) (some (dR u.t.r)) k a o p) S = some (cnd ps er mm u, S) := by
  have q1 : ∀ S, eqW S (.d (.tup [dR u.t.r, dM u.t.m])) (.d (dEnd er mm)) = some (goal er mm u) := fun S => by
    rw [eq_End]; rfl
  unfold cnd
  by_cases e : u.row.length = tot ps
  · have k1 : decide ((u.row.length : Int) = ((tot ps : Nat) : Int)) = true := decide_eq_true (by omega)
    rw [decide_eq_true e, Bool.true_and]
    cases hg : goal er mm u with
    | true =>
      rw [hg] at q1
      simp (disch := first | (refine @id _ ?_; with_unfolding_all rfl) | assumption | omega) only [evl, lits, kds, kdec, reduceCtorEq, List.isEmpty_nil, List.isEmpty_cons, gls, le_I, k1, q1]
    | false =>
      rw [hg] at q1
      simp (disch := first | (refine @id _ ?_; with_unfolding_all rfl) | assumption | omega) only [evl, lits, kds, kdec, reduceCtorEq, List.isEmpty_nil, List.isEmpty_cons, gls, le_I, k1, q1]
  · have k1 : decide ((u.row.length : Int) = ((tot ps : Nat) : Int)) = false := decide_eq_false (by omega)
    rw [decide_eq_false e, Bool.false_and]
    simp (disch := first | (refine @id _ ?_; with_unfolding_all rfl) | assumption | omega) only [evl, lits, kds, kdec, reduceCtorEq, List.isEmpty_nil, List.isEmpty_cons, gls, le_I, k1]
theorem bdL (u : It) (x5 x6 x7 x8 k a o p : Option D) : bindP (.tup (.cons (.nm 5 (Str.ofString "row")) (.cons (.nm 6 (Str.ofString "places")) (.cons (.nm 7 (Str.ofString "cells")) (.cons (.nm 8 (Str.ofString "reads")) .nil))))) (itL u) (envL ps er mm x5 x6 x7 x8 k a o p) = some (envL ps er mm (some (dI u.row)) (some (dI u.t.pl)) (some (dM u.t.m)) (some (dR u.t.r)) k a o p) := rfl
theorem bodyL_goal {u : It} (hc : cnd ps er mm u = true) (w : List D) (s : List (D × D)) (x5 x6 x7 x8 k a o p : Option D) :
    ∃ ρ', evS tab (callD F tab pg (n + 1)) F lp_law_least2 (envL ps er mm x5 x6 x7 x8 k a o p) (S3 (w ++ [itL u]) s) = some (.rt (.d (dI u.row)), ρ', S3 w s) := by
  have b1 := bdL (ps := ps) (er := er) (mm := mm) u x5 x6 x7 x8 k a o p
  have c1 := cnd_ok (ps := ps) (er := er) (mm := mm) (S3 w s) (callD F tab pg (n + 1)) u k a o p
  rw [hc] at c1
  refine ⟨envL ps er mm (some (dI u.row)) (some (dI u.t.pl)) (some (dM u.t.m)) (some (dR u.t.r)) k a o p, ?_⟩
  unfold lp_law_least2
  rw [x_cons]
  have h1 : evS tab (callD F tab pg (n + 1)) F (.asg (.tup (.cons (.nm 5 (Str.ofString "row")) (.cons (.nm 6 (Str.ofString "places")) (.cons (.nm 7 (Str.ofString "cells")) (.cons (.nm 8 (Str.ofString "reads")) .nil))))) (.mth .pop0 (.var 3 (Str.ofString "waiting")) .nil)) (envL ps er mm x5 x6 x7 x8 k a o p) (S3 (w ++ [itL u]) s) = some (.nx, envL ps er mm (some (dI u.row)) (some (dI u.t.pl)) (some (dM u.t.m)) (some (dR u.t.r)) k a o p, S3 w s) := by
    simp (disch := first | (refine @id _ ?_; with_unfolding_all rfl) | assumption | omega) only [evl, lits, kds, kdec, reduceCtorEq, List.isEmpty_nil, List.isEmpty_cons, gls, ok_S3, pop_S3, b1]
  rw [h1, sq_nx, x_cons, x_ite, c1, bnd_some, kIf_t]
  simp (disch := first | (refine @id _ ?_; with_unfolding_all rfl) | assumption | omega) only [evl, lits, kds, kdec, reduceCtorEq, List.isEmpty_nil, List.isEmpty_cons, gls]
theorem bodyL_head {u : It} (hc : cnd ps er mm u = false) (w : List D) (s : List (D × D)) (x5 x6 x7 x8 k a o p : Option D) (ss : Sm) (t : E) (aa bb : Sm) (ht : t = .and (.cons (.cmp .eq (.bi .len (.cons (.var 5 (Str.ofString "row")) .nil)) (.var 2 (Str.ofString "many"))) (.cons (.cmp .eq (.tup (.cons (.var 8 (Str.ofString "reads")) (.cons (.var 7 (Str.ofString "cells")) .nil))) (.var 1 (Str.ofString "end"))) .nil))) :
    evS tab (callD F tab pg (n + 1)) F (.cons (.asg (.tup (.cons (.nm 5 (Str.ofString "row")) (.cons (.nm 6 (Str.ofString "places")) (.cons (.nm 7 (Str.ofString "cells")) (.cons (.nm 8 (Str.ofString "reads")) .nil))))) (.mth .pop0 (.var 3 (Str.ofString "waiting")) .nil)) (.cons (.ite t aa .nil) ss)) (envL ps er mm x5 x6 x7 x8 k a o p) (S3 (w ++ [itL u]) s) =
      evS tab (callD F tab pg (n + 1)) F ss (envL ps er mm (some (dI u.row)) (some (dI u.t.pl)) (some (dM u.t.m)) (some (dR u.t.r)) k a o p) (S3 w s) := by
  subst ht
  have b1 := bdL (ps := ps) (er := er) (mm := mm) u x5 x6 x7 x8 k a o p
  have c1 := cnd_ok (ps := ps) (er := er) (mm := mm) (S3 w s) (callD F tab pg (n + 1)) u k a o p
  rw [hc] at c1
  rw [x_cons]
  have h1 : evS tab (callD F tab pg (n + 1)) F (.asg (.tup (.cons (.nm 5 (Str.ofString "row")) (.cons (.nm 6 (Str.ofString "places")) (.cons (.nm 7 (Str.ofString "cells")) (.cons (.nm 8 (Str.ofString "reads")) .nil))))) (.mth .pop0 (.var 3 (Str.ofString "waiting")) .nil)) (envL ps er mm x5 x6 x7 x8 k a o p) (S3 (w ++ [itL u]) s) = some (.nx, envL ps er mm (some (dI u.row)) (some (dI u.t.pl)) (some (dM u.t.m)) (some (dR u.t.r)) k a o p, S3 w s) := by
    simp (disch := first | (refine @id _ ?_; with_unfolding_all rfl) | assumption | omega) only [evl, lits, kds, kdec, reduceCtorEq, List.isEmpty_nil, List.isEmpty_cons, gls, ok_S3, pop_S3, b1]
  rw [h1, sq_nx, x_cons, x_ite, c1, bnd_some, kIf_f, x_nil, sq_nx]
theorem kl_def (t : Sta) : D.tup [dI t.pl, dM t.m] = kl t := rfl
theorem bodyL_seen {u : It} (hc : cnd ps er mm u = false) (w : List D) (seen : List It) (hs : (seen.any fun i => decide (i.t.pl = u.t.pl) && decide (i.t.m = u.t.m)) = true) (x5 x6 x7 x8 k a o p : Option D) :
    ∃ x5' x6' x7' x8' k' a' o' p', evS tab (callD F tab pg (n + 1)) F lp_law_least2 (envL ps er mm x5 x6 x7 x8 k a o p) (S3 (w ++ [itL u]) (seen.map sl)) = some (.ct, envL ps er mm x5' x6' x7' x8' k' a' o' p', S3 w (seen.map sl)) := by
  have i1 := in_d3 (w := w) (s := seen.map sl) (key_kl u.t)
  rw [any_sl, hs] at i1
  refine ⟨some (dI u.row), some (dI u.t.pl), some (dM u.t.m), some (dR u.t.r), k, a, o, p, ?_⟩
  unfold lp_law_least2
  rw [bodyL_head F n hc w (seen.map sl) x5 x6 x7 x8 k a o p _ _ _ .nil rfl]
  simp (disch := first | (refine @id _ ?_; with_unfolding_all rfl) | assumption | omega) only [evl, lits, kds, kdec, reduceCtorEq, List.isEmpty_nil, List.isEmpty_cons, gls, kl_def, i1]
theorem rev_down (S : Sto) {k : Nat} (h3 : k ≤ 3) : revW S (.tmp (rngL 0 k)) = some (.tmp ((List.range k).reverse.map fun (x : Nat) => D.int (x : Int))) := by
  have : k = 0 ∨ k = 1 ∨ k = 2 ∨ k = 3 := by omega
  rcases this with rfl | rfl | rfl | rfl <;> rfl
theorem rng_k {k : Nat} (h3 : k ≤ 1000) : rngW [.d (.int (k : Int))] = some (rngL 0 k) := by
  rw [rng1 (by unfold rngOk; simp; omega)]; rfl
theorem lr2 (S : Sto) {k : Nat} (h3 : k ≤ 3) : kLr2 false S (rngL 0 k) = some (.tmp (rngL 0 k), S) := by
  rw [kLr2_e _ _ (by rw [rngL_len]; unfold LN; omega)]; rfl
theorem bodyL_push (ok : Ok ps) (hel : er.length = ps.length) {u : It} (G : Good ps er u) (hc : cnd ps er mm u = false) (w : List D) (seen : List It) (hs : (seen.any fun i => decide (i.t.pl = u.t.pl) && decide (i.t.m = u.t.m)) = false) (hw : w.length + ps.length ≤ LN) (hsl : seen.length < LN) (x5 x6 x7 x8 k a o p : Option D) :
    ∃ x5' x6' x7' x8' k' a' o' p', evS tab (callD F tab pg (n + 1)) F lp_law_least2 (envL ps er mm x5 x6 x7 x8 k a o p) (S3 (w ++ [itL u]) (seen.map sl)) = some (.nx, envL ps er mm x5' x6' x7' x8' k' a' o' p', S3 (w ++ ((kids ps er u).reverse).map itL) ((seen ++ [u]).map sl)) := by
  have i1 := in_d3 (w := w) (s := seen.map sl) (key_kl u.t)
  rw [any_sl, hs] at i1
  have o1 := op_d2 (s := seen.map sl) (v := .bl true) (key_kl u.t) (by rw [List.length_map]; exact hsl)
  rw [put_sl _ _ hs] at o1
  have hb := ok.b
  obtain ⟨k', a', o', hh⟩ := ll_hands F n ok (mm := mm) hel G ((seen ++ [u]).map sl) ((List.range ps.length).reverse) w k a o p (fun h hm => by simpa using hm) (by rw [List.length_reverse, List.length_range]; exact hw)
  rw [List.filterMap_reverse] at hh
  refine ⟨some (dI u.row), some (dI u.t.pl), some (dM u.t.m), some (dR u.t.r), k', a', o', p, ?_⟩
  show _ = some (Fl.nx, _, S3 (w ++ ((List.filterMap (kid ps er u) (List.range ps.length)).reverse).map itL) ((seen ++ [u]).map sl))
  unfold lp_law_least2
  rw [bodyL_head F n hc w (seen.map sl) x5 x6 x7 x8 k a o p _ _ _ .nil rfl]
  have r1 := rng_k (k := ps.length) (by omega)
  have r2 := fun S => lr2 S (k := ps.length) (by omega)
  have r3 := fun S => rev_down S (k := ps.length) (by omega)
  simp (disch := first | (refine @id _ ?_; with_unfolding_all rfl) | assumption | omega) only [evl, lits, kds, kdec, reduceCtorEq, List.isEmpty_nil, List.isEmpty_cons, gls, kl_def, i1, dd_S3, o1, st_S30, le_pp, r1, r2, r3, hh]
theorem ll_loop (ok : Ok ps) (hel : er.length = ps.length) : ∀ (f : Nat) (stack seen : List It), N5.meas (rk ps) stack < f → (∀ i ∈ stack, Good ps er i) → (∀ i ∈ seen, Good ps er i) → (seen.map fun i => i.t).Nodup → N5.SeenInv (val ps er mm) (rk ps) stack seen → stack.length ≤ 1 + 2 * seen.length →
    ∀ (x5 x6 x7 x8 k a o p : Option D), ∃ ρ' S', whl tab (callD F tab pg (n + 1)) F lt_law_least1 lp_law_least2 f (envL ps er mm x5 x6 x7 x8 k a o p) (S3 (stack.reverse.map itL) (seen.map sl)) = some (fl (stack.findSome? (val ps er mm)), ρ', S')
  | 0, _, _, hm, _, _, _, _, _ => absurd hm (Nat.not_lt_zero _)
  | f + 1, [], seen, hm, hG, hGs, hN, hI, hlen => fun x5 x6 x7 x8 k a o p => by
    refine ⟨envL ps er mm x5 x6 x7 x8 k a o p, S3 [] (seen.map sl), ?_⟩
    rw [whl_s]
    unfold lt_law_least1
    have k1 : decide ((0 : Int) < ((([] : List D).length : Nat) : Int)) = false := rfl
    simp (disch := first | (refine @id _ ?_; with_unfolding_all rfl) | assumption | omega) only [evl, lits, kds, kdec, reduceCtorEq, List.isEmpty_nil, List.isEmpty_cons, gls, List.reverse_nil, List.map_nil, len_S3, k1]
    rfl
  | f + 1, u :: rest, seen, hm, hG, hGs, hN, hI, hlen => fun x5 x6 x7 x8 k a o p => by
    have Gu := hG u List.mem_cons_self
    have hsl := seen_len ok hGs hN
    have hb := ok.b
    rw [List.length_cons] at hlen
    have ew : (u :: rest).reverse.map itL = rest.reverse.map itL ++ [itL u] := by
      rw [List.reverse_cons, List.map_append]; rfl
    rw [ew, whl_s]
    have ht : evT tab (callD F tab pg (n + 1)) lt_law_least1 (envL ps er mm x5 x6 x7 x8 k a o p) (S3 (rest.reverse.map itL ++ [itL u]) (seen.map sl)) = some (true, S3 (rest.reverse.map itL ++ [itL u]) (seen.map sl)) := by
      have : decide ((0 : Int) < (((rest.reverse.map itL ++ [itL u]).length : Nat) : Int)) = true := decide_eq_true (by rw [List.length_append, List.length_cons]; omega)
      unfold lt_law_least1
      simp (disch := first | (refine @id _ ?_; with_unfolding_all rfl) | assumption | omega) only [evl, lits, kds, kdec, reduceCtorEq, List.isEmpty_nil, List.isEmpty_cons, gls, len_S3, this]
    rw [ht, bnd_some, kWh_t]
    have hmp : N5.meas (rk ps) rest < f := by
      have := N5.meas_pop (rk := rk ps) (u := u) (rest := rest)
      omega
    have hGr : ∀ i ∈ rest, Good ps er i := fun i hi => hG i (List.mem_cons_of_mem _ hi)
    cases hc : cnd ps er mm u with
    | true =>
      obtain ⟨ρ', h1⟩ := bodyL_goal F n hc (rest.reverse.map itL) (seen.map sl) x5 x6 x7 x8 k a o p
      unfold cnd at hc
      simp only [Bool.and_eq_true, decide_eq_true_eq] at hc
      have hv := val_leaf (er := er) (mm := mm) (rk_zero hc.1)
      rw [hc.2, if_pos rfl] at hv
      rw [h1, bnd_some, kWh2_rt]
      exact ⟨ρ', _, by rw [List.findSome?_cons, hv]; rfl⟩
    | false =>
      cases hs : seen.any fun i => decide (i.t.pl = u.t.pl) && decide (i.t.m = u.t.m) with
      | true =>
        obtain ⟨x5', x6', x7', x8', k', a', o', p', h1⟩ := bodyL_seen F n hc (rest.reverse.map itL) seen hs x5 x6 x7 x8 k a o p
        rw [h1, bnd_some, kWh2_ct]
        obtain ⟨v, hv, e1⟩ := List.any_eq_true.mp hs
        simp only [Bool.and_eq_true, decide_eq_true_eq] at e1
        have Gv := hGs v hv
        have er' := Fit.eq Gv.si Gu.si Gv.fit Gu.fit e1.1
        have et : v.t = u.t := by
          cases hvt : v.t with
          | mk p1 m1 r1 =>
            cases hut : u.t with
            | mk p2 m2 r2 =>
              rw [hvt, hut] at e1 er'
              simp only at e1 er'
              rw [e1.1, e1.2, er']
        have hlv : v.row.length = u.row.length := by rw [Gv.len, Gu.len, et]
        have hvn := hI.seen hv (val_t et hlv) (by unfold rk; rw [hlv])
        rw [N5.find_pop hvn]
        exact ll_loop ok hel f rest seen hmp hGr hGs hN (hI.pop hvn) (by omega) x5' x6' x7' x8' k' a' o' p'
      | false =>
        have hMC : MC = 329623 := rfl
        obtain ⟨x5', x6', x7', x8', k', a', o', p', h1⟩ := bodyL_push F n ok (mm := mm) hel Gu hc (rest.reverse.map itL) seen hs (by rw [List.length_map, List.length_reverse]; unfold LN; omega) (by unfold LN; omega) x5 x6 x7 x8 k a o p
        rw [h1, bnd_some, kWh2_nx]
        have hv : val ps er mm u = (kids ps er u).findSome? (val ps er mm) := by
          by_cases hr : u.row.length = tot ps
          · rw [leaf_kids Gu hr, val_leaf (rk_zero hr)]
            unfold cnd at hc
            rw [decide_eq_true hr, Bool.true_and] at hc
            rw [hc]; rfl
          · exact val_kids (rk_pos ok Gu hr)
        have hk : ∀ k ∈ kids ps er u, rk ps k < rk ps u := fun k hk => by
          by_cases hr : u.row.length = tot ps
          · rw [leaf_kids Gu hr] at hk; cases hk
          · have := kids_rk (rk_pos ok Gu hr) hk; omega
        have hkl := kids_len (er := er) u (ps := ps)
        rw [N5.find_push hv]
        have e2 : rest.reverse.map itL ++ (kids ps er u).reverse.map itL = (kids ps er u ++ rest).reverse.map itL := by
          rw [List.reverse_append, List.map_append]
        rw [e2]
        refine ll_loop ok hel f (kids ps er u ++ rest) (seen ++ [u]) ?_ (fun i hi => ?_) (fun i hi => ?_) ?_ (hI.push hk hv) ?_ x5' x6' x7' x8' k' a' o' p'
        · have := N5.meas_push (rk := rk ps) (rest := rest) hk (by omega)
          omega
        · rcases List.mem_append.mp hi with z | z
          · obtain ⟨h, hh⟩ := kids_mem z
            exact Gu.kid ok hh
          · exact hGr i z
        · rcases List.mem_append.mp hi with z | z
          · exact hGs i z
          · have : i = u := by simpa using z
            rw [this]; exact Gu
        · rw [List.map_append, List.nodup_append]
          refine ⟨hN, by simp, fun x hx y hy z => ?_⟩
          have hy' : y = u.t := by simpa using hy
          obtain ⟨v, hv', e1⟩ := List.mem_map.mp hx
          have e3 : v.t = u.t := by rw [e1, z, hy']
          have : (seen.any fun i => decide (i.t.pl = u.t.pl) && decide (i.t.m = u.t.m)) = true := List.any_eq_true.mpr ⟨v, hv', by rw [e3]; simp⟩
          rw [hs] at this
          cases this
        · rw [List.length_append, List.length_append, List.length_cons, List.length_nil]
          omega
theorem ll_lens (ok : Ok ps) (S : Sto) (cl : Calls) (ρ : Z.Env) (hρ : ∃ x1 x2 x3 x4 x5 x6 x7 x8 x9 x10 x11, ρ = [some (dPs ps), x1, x2, x3, x4, x5, x6, x7, x8, x9, x10, x11, none]) : lcLoop [] (lcStep tab cl [((Str.ofString "program"), 12)] ce_law_least1 (.nm 12 (Str.ofString "program")) .nil ρ) (ps.map dP) [] S = some (ps.map fun q => D.int (q.length : Int), S) := by
  obtain ⟨x1, x2, x3, x4, x5, x6, x7, x8, x9, x10, x11, rfl⟩ := hρ
  exact lens_lc S ok cl fun q _ => by
    rw [lcStep_e]
    have hw : wipeD [some (dPs ps), x1, x2, x3, x4, x5, x6, x7, x8, x9, x10, x11, none] (List.map (·.2) [((Str.ofString "program"), 12)]) = [some (dPs ps), x1, x2, x3, x4, x5, x6, x7, x8, x9, x10, x11, none] := rfl
    rw [hw]
    unfold ce_law_least1
    simp (disch := first | (refine @id _ ?_; with_unfolding_all rfl) | assumption | omega) only [evl, lits, kds, kdec, reduceCtorEq, List.isEmpty_nil, List.isEmpty_cons, gls, le_p]
theorem sp_least (hF : 4 ^ 18 < F) (ok : Ok ps) (er : List (List Nat)) (hel : er.length = ps.length) (mm : List (Nat × Nat)) (S : Sto) : callD F tab pg (n + 2) "_law_least" [dPs ps, dEnd er mm] S = some (.d (oRow (least ps er mm)), S) := by
  have hpo : (oRow (least ps er mm)).pure = true := by
    unfold oRow
    split
    · exact pu_I _
    · rfl
  have ha := ok.a
  have hb := ok.b
  obtain ⟨ρ', S', hl⟩ := ll_loop F n (mm := mm) ok hel F [⟨[], st0 ps.length⟩] [] (by have := meas1 ok; omega) (fun i hi => by
    have : i = ⟨[], st0 ps.length⟩ := by simpa using hi
    rw [this]; exact Good.start ps er) (fun i hi => nomatch hi) List.nodup_nil (fun v hv => nomatch hv) (Nat.le_refl 1) none none none none none none none none
  have hls := ll_lens ok [] (callD F tab pg (n + 1)) [some (dPs ps), some (dEnd er mm), none, none, none, none, none, none, none, none, none, none, none] ⟨_, _, _, _, _, _, _, _, _, _, _, rfl⟩
  have m1 := fun S => mul_t S (a := .int 0) (k := (ps.length : Int)) ⟨by omega, by omega⟩
  have m2 := fun S => mul_t S (a := .tup []) (k := (ps.length : Int)) ⟨by omega, by omega⟩
  have hfin : fin (evS tab (callD F tab pg (n + 1)) F s_law_least [some (dPs ps), some (dEnd er mm), none, none, none, none, none, none, none, none, none, none, none] []) = some (.d (oRow (least ps er mm)), S') := by
    unfold s_law_least
    simp (disch := first | (refine @id _ ?_; with_unfolding_all rfl) | assumption | omega) only [evl, lits, kds, kdec, reduceCtorEq, List.isEmpty_nil, List.isEmpty_cons, gls, seq_PS, gd_PS, hls, sum_lens, le_pp, m1, m2, tn_c, rep_0, rep_R]
    show fin (sq tab (callD F tab pg (n + 1)) F _ (whl tab (callD F tab pg (n + 1)) F lt_law_least1 lp_law_least2 F (envL ps er mm none none none none none none none none) (S3 ([⟨[], st0 ps.length⟩].reverse.map itL) (([] : List It).map sl)))) = _
    rw [hl]
    have hv : ([⟨[], st0 ps.length⟩] : List It).findSome? (val ps er mm) = least ps er mm := by
      unfold least
      rw [List.findSome?_cons, List.findSome?_nil]
      cases val ps er mm ⟨[], st0 ps.length⟩ <;> rfl
    rw [hv]
    cases hle : least ps er mm with
    | none =>
      unfold fl oRow
      simp (disch := first | (refine @id _ ?_; with_unfolding_all rfl) | assumption | omega) only [evl]
    | some row =>
      unfold fl oRow
      simp (disch := first | (refine @id _ ?_; with_unfolding_all rfl) | assumption | omega) only [evl]
  exact call_px look_law_least rfl (pr2 rfl (pu_PS ps) (pu_End er mm)) hfin (ex_d hpo) S
end
end K53

set_option Elab.async false
set_option linter.all false
set_option maxRecDepth 100000
/-! N12: clash -/
namespace K53
open PySem PySem.Spec PyProof.Rows L2 Z
def clashB (a b : St) : Bool := decide (a.p = b.p) && (!(decide (a.k = .f) || decide (b.k = .f))) && (!(decide (a.k = .x) && decide (b.k = .x))) && (!(decide (a.k = .r) && decide (b.k = .r)))
def clashL : List St → Bool
  | [] => false
  | a :: l => l.any (clashB a) || clashL l
def nexts (ps : List Pg) (pl : List Nat) : List St := (ps.zip pl).filterMap fun q => q.1[q.2]?
theorem q_kk (S : Sto) (a b c d : Kd) : eqW S (.d (.tup [.str a.s, .str b.s])) (.d (.tup [.str c.s, .str d.s])) = some (decide (a = c) && decide (b = d)) := by
  rw [eq_pl (n := 1) (m := 1) S (by rw [pln_tup]; simp [pln_str]) (by rw [pln_tup]; simp [pln_str]) (by decide) (by decide)]
  rw [eqD, eqDs, eqDs, eqDs, eqD, eqD, kd_inj, kd_inj, Bool.and_true]
theorem chk_self {S : Sto} {n : Nat} {xs : List D} (h : S[n]? = some (.lst xs)) : chkG [(n, xs)] S = true := by
  unfold chkG chk1
  simp only [List.all_cons, List.all_nil, Bool.and_true, h]
  exact eqDs_refl xs
theorem ct_st (S : Sto) (s : St) : ixW S (.d s.d) (.d (.int 0)) = some (.d (.str s.k.s)) := rfl
theorem ct_sp (S : Sto) (s : St) : ixW S (.d s.d) (.d (.int 1)) = some (.d (.int (s.p : Int))) := rfl
section
variable (F n : Nat) (S : Sto)
/-- the inner loop of clash -/
theorem cl_in (cl : Calls) (x0 x1 x2 x3 x7 x8 : Option D) (a : St) : ∀ (l : List St) (x5 x6 : Option D), ∃ ρ', forLoop [] (stp tab cl F (.nm 5 (Str.ofString "other")) lp_clash1) (l.map St.d) [x0, x1, x2, x3, some a.d, x5, x6, x7, x8] S = some (if l.any (clashB a) = true then .rt (.d (.bl true)) else .nx, ρ', S) ∧ ∃ x5 x6, ρ' = [x0, x1, x2, x3, some a.d, x5, x6, x7, x8]
  | [], x5, x6 => ⟨_, by rw [List.map_nil, forLoop_nil _ _ (chkG_nil S)]; rfl, x5, x6, rfl⟩
  | b :: l, x5, x6 => by
    obtain ⟨ρ', ih, hρ⟩ := cl_in cl x0 x1 x2 x3 x7 x8 a l (some b.d) (some (.tup [.str a.k.s, .str b.k.s]))
    have a0 := fun S => ct_st S a
    have a1 := fun S => ct_sp S a
    have b0 := fun S => ct_st S b
    have b1 := fun S => ct_sp S b
    rw [List.map_cons, forLoop_cons _ _ _ _ (chkG_nil S), stp_e, List.any_cons]
    by_cases hp : a.p = b.p
    · have k1 : decide ((a.p : Int) = (b.p : Int)) = true := decide_eq_true (by omega)
      have hB : clashB a b = ((!(decide (a.k = .f) || decide (b.k = .f))) && (!(decide (a.k = .x) && decide (b.k = .x))) && (!(decide (a.k = .r) && decide (b.k = .r)))) := by
        unfold clashB
        rw [decide_eq_true hp, Bool.true_and]
      rw [hB]
      unfold lp_clash1 at *
      generalize hka : a.k = ka at *
      generalize hkb : b.k = kb at *
      by_cases hr : ((!(decide (ka = .f) || decide (kb = .f))) && (!(decide (ka = .x) && decide (kb = .x))) && (!(decide (ka = .r) && decide (kb = .r)))) = true
      · rw [hr, Bool.true_or, if_pos rfl]
        refine ⟨[x0, x1, x2, x3, some a.d, some b.d, some (.tup [.str ka.s, .str kb.s]), x7, x8], ?_, _, _, rfl⟩
        simp only [Bool.and_eq_true, Bool.not_eq_true', Bool.or_eq_false_iff, decide_eq_false_iff_not] at hr
        obtain ⟨⟨⟨h1, h2⟩, h3⟩, h4⟩ := hr
        simp (disch := first | (refine @id _ ?_; with_unfolding_all rfl) | assumption | omega) only [evl, lits, kds, kdec, reduceCtorEq, List.isEmpty_nil, List.isEmpty_cons, gls, a0, a1, b0, b1, k1, q_kk, show (Kd.f = ka) = False from eq_false (fun z => h1 z.symm), show (ka = Kd.f) = False from eq_false h1, show (kb = Kd.f) = False from eq_false h2, h3, h4, List.map_cons]
      · have hr' : ((!(decide (ka = .f) || decide (kb = .f))) && (!(decide (ka = .x) && decide (kb = .x))) && (!(decide (ka = .r) && decide (kb = .r)))) = false := by simpa using hr
        rw [hr', Bool.false_or]
        refine ⟨ρ', ?_, hρ⟩
        cases ka <;> cases kb <;> first | (exfalso; exact hr (by decide)) | simp (disch := first | (refine @id _ ?_; with_unfolding_all rfl) | assumption | omega) only [evl, lits, kds, kdec, reduceCtorEq, List.isEmpty_nil, List.isEmpty_cons, gls, a0, a1, b0, b1, k1, q_kk, ih, Bool.and_true, Bool.and_false, Bool.true_and, Bool.false_and]
    · have k1 : decide ((a.p : Int) = (b.p : Int)) = false := decide_eq_false (by omega)
      have hB : clashB a b = false := by unfold clashB; rw [decide_eq_false hp]; rfl
      rw [hB, Bool.false_or]
      unfold lp_clash1 at *
      refine ⟨ρ', ?_, hρ⟩
      simp (disch := first | (refine @id _ ?_; with_unfolding_all rfl) | assumption | omega) only [evl, lits, kds, kdec, reduceCtorEq, List.isEmpty_nil, List.isEmpty_cons, gls, a0, a1, b0, b1, k1, ih]
end
end K53

set_option Elab.async false
set_option linter.all false
set_option maxRecDepth 100000
/-! N13: clash, all -/
namespace K53
open PySem PySem.Spec PyProof.Rows L2 Z
def enF : Nat → List St → List D
  | _, [] => []
  | i, a :: l => .wt [.int (i : Int), a.d] :: enF (i + 1) l
theorem enF_get : ∀ (l : List St) (i j : Nat), (enF i l)[j]? = (l[j]?).map fun a => .wt [.int ((i + j : Nat) : Int), a.d]
  | [], i, j => by simp [enF]
  | a :: l, i, 0 => by simp [enF]
  | a :: l, i, j + 1 => by
    rw [enF, List.getElem?_cons_succ, List.getElem?_cons_succ, enF_get l (i + 1) j, show i + 1 + j = i + (j + 1) by omega]
theorem enum_eq (l : List St) : enumL (l.map St.d) = enF 0 l := by
  apply List.ext_getElem?
  intro j
  rw [enF_get]
  unfold enumL
  rw [List.getElem?_map, List.length_map]
  by_cases h : j < l.length
  · rw [List.getElem?_range h]
    simp [List.getD, h]
  · rw [List.getElem?_eq_none (by rw [List.length_range]; omega), List.getElem?_eq_none (by omega)]; rfl
theorem sl_ref {S : Sto} {n : Nat} {xs : List D} (h : S[n]? = some (.lst xs)) {k : Nat} (hk : k ≤ xs.length) : slW S (.d (.ref n)) (some (k : Int)) none = some (.tmp (xs.drop k)) := by
  show (match S[n]? with | some (.lst xs) => some xs | _ => none).map _ = _
  rw [h]
  show some (W.tmp (Z.cutD xs (some (k : Int)) none)) = _
  unfold Z.cutD
  rw [six0, six1 hk, List.take_of_length_le (by simp)]
theorem nexts_map (ps : List Pg) (pl : List Nat) : (ps.zip pl).filterMap (fun q => (q.1[q.2]?).map St.d) = (nexts ps pl).map St.d := by
  unfold nexts
  rw [List.map_filterMap]
section
variable (F n : Nat)
theorem cl_out (cl : Calls) (x0 x1 : Option D) (ns : List St) : ∀ (l : List St) (i : Nat) (x3 x4 x5 x6 x7 x8 : Option D), ns.drop i = l → i + l.length = ns.length →
    ∃ ρ', forLoop [(0, ns.map St.d)] (stp tab cl F (.tup (.cons (.nm 3 (Str.ofString "k")) (.cons (.nm 4 (Str.ofString "one")) .nil))) lp_clash2) (enF i l) [x0, x1, some (.ref 0), x3, x4, x5, x6, x7, x8] [.lst (ns.map St.d)] = some (if clashL l = true then .rt (.d (.bl true)) else .nx, ρ', [.lst (ns.map St.d)])
  | [], i, x3, x4, x5, x6, x7, x8, h, hi => ⟨_, by rw [enF, forLoop_nil _ _ (chk_self rfl)]; rfl⟩
  | a :: l, i, x3, x4, x5, x6, x7, x8, h, hi => by
    rw [List.length_cons] at hi
    have hd : ns.drop (i + 1) = l := by rw [← List.drop_drop, h]; rfl
    have hs := sl_ref (S := [.lst (ns.map St.d)]) (n := 0) (xs := ns.map St.d) rfl (k := i + 1) (by rw [List.length_map]; omega)
    rw [← List.map_drop, hd] at hs
    have ea : ((i : Nat) : Int) + 1 = ((i + 1 : Nat) : Int) := by omega
    obtain ⟨ρ1, h1, x5', x6', h2⟩ := cl_in F [.lst (ns.map St.d)] cl x0 x1 (some (.ref 0)) (some (.int (i : Int))) x7 x8 a l x5 x6
    subst h2
    rw [enF, forLoop_cons _ _ _ _ (chk_self rfl), stp_e]
    cases hc : l.any (clashB a) with
    | true =>
      rw [hc, if_pos rfl] at h1
      refine ⟨[x0, x1, some (.ref 0), some (.int (i : Int)), some a.d, x5', x6', x7, x8], ?_⟩
      have : clashL (a :: l) = true := by unfold clashL; rw [hc]; rfl
      rw [this, if_pos rfl]
      unfold lp_clash2
      simp (disch := first | (refine @id _ ?_; with_unfolding_all rfl) | assumption | omega) only [evl, lits, kds, kdec, reduceCtorEq, List.isEmpty_nil, List.isEmpty_cons, gls, ea, hs, h1]
    | false =>
      rw [hc, if_neg Bool.false_ne_true] at h1
      obtain ⟨ρ', ih⟩ := cl_out cl x0 x1 ns l (i + 1) (some (.int (i : Int))) (some a.d) x5' x6' x7 x8 hd (by omega)
      refine ⟨ρ', ?_⟩
      have : clashL (a :: l) = clashL l := by conv => lhs; unfold clashL; rw [hc, Bool.false_or]
      rw [this]
      unfold lp_clash2 at *
      simp (disch := first | (refine @id _ ?_; with_unfolding_all rfl) | assumption | omega) only [evl, lits, kds, kdec, reduceCtorEq, List.isEmpty_nil, List.isEmpty_cons, gls, ea, hs, h1, ih]
theorem sp_clash {ps : List Pg} (ok : Ok ps) (pl : List Nat) (hl : pl.length = ps.length) (S : Sto) : callD F tab pg (n + 1) "clash" [dPs ps, dI pl] S = some (.d (.bl (clashL (nexts ps pl))), S) := by
  refine call_px look_clash rfl (pr2 rfl (pu_PS ps) (pu_I pl)) (w := .d (.bl (clashL (nexts ps pl)))) (S' := [.lst ((nexts ps pl).map St.d)]) ?_ rfl S
  rw [show env0 d_clash [dPs ps, dI pl] = [some (dPs ps), some (dI pl), none, none, none, none, none, none, none] from rfl]
  show fin (evS tab _ F s_clash _ _) = _
  unfold s_clash
  have hb := ok.b
  have hz : zipW [] (.d (dPs ps)) (.d (dI pl)) = some (((ps.zip pl).map fun q => D.wt [dP q.1, .int (q.2 : Int)], []), []) := by
    unfold dPs dI; rw [zip_tt, zipL_map]
  have hlc : lcLoop [] (lcStep tab (callD F tab pg n) [((Str.ofString "program"), 7), ((Str.ofString "place"), 8)] ce_clash1 (.tup (.cons (.nm 7 (Str.ofString "program")) (.cons (.nm 8 (Str.ofString "place")) .nil))) ct_clash1 [some (dPs ps), some (dI pl), none, none, none, none, none, none, none]) ((ps.zip pl).map fun q => D.wt [dP q.1, .int (q.2 : Int)]) [] [] = some ((nexts ps pl).map St.d, []) := by
    rw [lc_map (fun q : Pg × Nat => D.wt [dP q.1, .int (q.2 : Int)]) (fun q => (q.1[q.2]?).map St.d) (chkG_nil _) (ps.zip pl) [] (fun q _ => ?_) (by rw [List.length_zip]; simp; unfold LN; omega), nexts_map]
    · rfl
    · rw [lcStep_e]
      have hw : wipeD [some (dPs ps), some (dI pl), none, none, none, none, none, none, none] (List.map (·.2) [((Str.ofString "program"), 7), ((Str.ofString "place"), 8)]) = [some (dPs ps), some (dI pl), none, none, none, none, none, none, none] := rfl
      rw [hw]
      unfold ce_clash1 ct_clash1
      by_cases e : q.2 < q.1.length
      · have e1 : decide ((q.2 : Int) < (q.1.length : Int)) = true := decide_eq_true (by omega)
        have e2 := ix_P [] (List.getElem?_eq_getElem e)
        rw [List.getElem?_eq_getElem e]
        simp (disch := first | (refine @id _ ?_; with_unfolding_all rfl) | assumption | omega) only [evl, lits, kds, kdec, reduceCtorEq, List.isEmpty_nil, List.isEmpty_cons, gls, le_p, e1, e2]
        rfl
      · have e1 : decide ((q.2 : Int) < (q.1.length : Int)) = false := decide_eq_false (by omega)
        rw [List.getElem?_eq_none (by omega)]
        simp (disch := first | (refine @id _ ?_; with_unfolding_all rfl) | assumption | omega) only [evl, lits, kds, kdec, reduceCtorEq, List.isEmpty_nil, List.isEmpty_cons, gls, le_p, e1]
        rfl
  have g1 : seqOf [O.lst ((nexts ps pl).map St.d)] (.d (.ref 0)) = some ((nexts ps pl).map St.d) := rfl
  have g2 : guardOf [O.lst ((nexts ps pl).map St.d)] (.d (.ref 0)) = [(0, (nexts ps pl).map St.d)] := rfl
  have ee := enum_eq (nexts ps pl)
  obtain ⟨ρ', ho⟩ := cl_out F (callD F tab pg n) (some (dPs ps)) (some (dI pl)) (nexts ps pl) (nexts ps pl) 0 none none none none none none rfl (by omega)
  have a0 : (([] : Sto) ++ [O.lst ((nexts ps pl).map St.d)]) = [O.lst ((nexts ps pl).map St.d)] := rfl
  have a1 : List.length ([] : Sto) = 0 := rfl
  cases hc : clashL (nexts ps pl) with
  | true =>
    rw [hc, if_pos rfl] at ho
    simp (disch := first | (refine @id _ ?_; with_unfolding_all rfl) | assumption | omega) only [evl, lits, kds, kdec, reduceCtorEq, List.isEmpty_nil, List.isEmpty_cons, gls, hz, hlc, a0, a1, g1, g2, ee, ho]
  | false =>
    rw [hc, if_neg Bool.false_ne_true] at ho
    simp (disch := first | (refine @id _ ?_; with_unfolding_all rfl) | assumption | omega) only [evl, lits, kds, kdec, reduceCtorEq, List.isEmpty_nil, List.isEmpty_cons, gls, hz, hlc, a0, a1, g1, g2, ee, ho]
end
end K53

set_option Elab.async false
set_option linter.all false
set_option maxRecDepth 100000
/-! N14: races: what both searches do -/
namespace K53
open PySem PySem.Spec PyProof.Rows L2 Z
abbrev Rw := List Nat × List Nat
section
variable (ps : List Pg)
/-- may the hand go on? -/
def can (pl : List Nat) (h : Nat) : Bool := match ps[h]? with
  | some p => decide (pl.getD h 0 < p.length)
  | none => false
def on1 (pl : List Nat) (h : Nat) : List Nat := pl.set h (pl.getD h 0 + 1)
def isNew (it : Rw) (h : Nat) (rows : List Rw) : Bool := can ps it.2 h && !(rows.any fun r => decide (r.2 = on1 it.2 h))
/-- one place's successors: rows known, rows of the next level -/
def exH (it : Rw) : List Nat → List Rw → List Rw → List Rw × List Rw
  | [], rows, aft => (rows, aft)
  | h :: hs, rows, aft => if isNew ps it h rows = true then exH it hs (rows ++ [(it.1 ++ [h], on1 it.2 h)]) (aft ++ [(it.1 ++ [h], on1 it.2 h)]) else exH it hs rows aft
def lvl : List Rw → List Rw → List Rw → Option (List Nat) × List Rw × List Rw
  | [], rows, aft => (none, rows, aft)
  | it :: l, rows, aft => if clashL (nexts ps it.2) = true then (some it.1, rows, aft) else
    let q := exH ps it (List.range ps.length) rows aft
    lvl l q.1 q.2
def bfs : Nat → List Rw → List Rw → Option (List Nat)
  | 0, _, _ => none
  | f + 1, level, rows => match level with
    | [] => none
    | it :: l => match lvl ps (it :: l) rows [] with
      | (some row, _, _) => some row
      | (none, rows', aft) => bfs f aft rows'
end
/-- what is known of a row: its places -/
structure RG (ps : List Pg) (d : Nat) (it : Rw) : Prop where
  len : it.2.length = ps.length
  le : ∀ (h : Nat) p, ps[h]? = some p → it.2.getD h 0 ≤ p.length
  sum : it.2.sum = d
  row : it.1.length = d
theorem RG.go {ps : List Pg} {d : Nat} {it : Rw} (G : RG ps d it) {h : Nat} (hc : can ps it.2 h = true) : RG ps (d + 1) (it.1 ++ [h], on1 it.2 h) := by
  unfold can at hc
  split at hc
  · next p hp =>
    have hlt := of_decide_eq_true hc
    have hh : h < ps.length := (List.getElem?_eq_some_iff.mp hp).1
    have hl := G.len
    refine ⟨by show (List.set _ _ _).length = _; rw [List.length_set, hl], fun i q hq => ?_, ?_, ?_⟩
    · show (List.set _ _ _).getD i 0 ≤ _
      rw [getD_set _ _ _ _ _ (by omega)]
      by_cases z : i = h
      · subst z
        rw [hp] at hq
        cases hq
        rw [if_pos rfl]; omega
      · rw [if_neg z]; exact G.le i q hq
    · show (List.set _ _ _).sum = _
      rw [sum_set _ _ (by omega), G.sum]
    · show (it.1 ++ [h]).length = _
      rw [List.length_append, G.row]; rfl
  · cases hc
theorem RG.tot {ps : List Pg} {d : Nat} {it : Rw} (G : RG ps d it) : d ≤ tot ps := by
  rw [← G.sum]; exact sum_le ps _ G.len G.le
/-- rows known: of any length, all of other places, none the start's -/
structure RK1 (ps : List Pg) (rows : List Rw) : Prop where
  g : ∀ r ∈ rows, ∃ d, RG ps (d + 1) r
  nd : (rows.map fun r => r.2).Nodup
theorem on1_ne {ps : List Pg} {d : Nat} {it : Rw} (G : RG ps (d + 1) it) : it.2 ≠ List.replicate ps.length 0 := fun z => by
  have := G.sum
  rw [z] at this
  simp at this
theorem RK1.add {ps : List Pg} {rows : List Rw} {d : Nat} {it : Rw} {h : Nat} (K : RK1 ps rows) (G : RG ps d it) (hn : isNew ps it h rows = true) : RK1 ps (rows ++ [(it.1 ++ [h], on1 it.2 h)]) := by
  unfold isNew at hn
  simp only [Bool.and_eq_true, Bool.not_eq_true'] at hn
  refine ⟨fun r hr => ?_, ?_⟩
  · rcases List.mem_append.mp hr with z | z
    · exact K.g r z
    · have : r = (it.1 ++ [h], on1 it.2 h) := by simpa using z
      rw [this]; exact ⟨d, G.go hn.1⟩
  · rw [List.map_append, List.nodup_append]
    refine ⟨K.nd, by simp, fun x hx y hy z => ?_⟩
    have hy' : y = on1 it.2 h := by simpa using hy
    obtain ⟨r, hr, e⟩ := List.mem_map.mp hx
    have : (rows.any fun r => decide (r.2 = on1 it.2 h)) = true := List.any_eq_true.mpr ⟨r, hr, decide_eq_true (by rw [e, z, hy'])⟩
    rw [hn.2] at this
    cases this
/-- a number for places -/
def pcode (pl : List Nat) : Nat := (pl.getD 0 0 * 7 + pl.getD 1 0) * 7 + pl.getD 2 0
theorem pl6' {ps : List Pg} (ok : Ok ps) {d : Nat} {it : Rw} (G : RG ps d it) (h : Nat) : it.2.getD h 0 ≤ 6 := by
  by_cases hh : h < ps.length
  · have h1 := G.le h ps[h] (by simp [hh])
    have h2 := ok.c ps[h] (List.getElem_mem hh)
    omega
  · rw [List.getD_eq_getElem?_getD, List.getElem?_eq_none (by rw [G.len]; omega)]; simp
theorem pcode_inj {ps : List Pg} (ok : Ok ps) {d d' : Nat} {it it' : Rw} (G : RG ps d it) (G' : RG ps d' it') (e : pcode it.2 = pcode it'.2) : it.2 = it'.2 := by
  have a := pl6' ok G 0
  have b := pl6' ok G 1
  have c := pl6' ok G 2
  have a' := pl6' ok G' 0
  have b' := pl6' ok G' 1
  have c' := pl6' ok G' 2
  unfold pcode at e
  have e3 : it.2.getD 2 0 = it'.2.getD 2 0 := by omega
  have e4 : it.2.getD 1 0 = it'.2.getD 1 0 := by omega
  have e5 : it.2.getD 0 0 = it'.2.getD 0 0 := by omega
  have hb := ok.b
  have l1 := G.len
  have l2 := G'.len
  apply List.ext_getElem?
  intro i
  by_cases hi : i < ps.length
  · rw [getD_some 0 (show i < it.2.length by omega), getD_some 0 (show i < it'.2.length by omega)]
    have : i = 0 ∨ i = 1 ∨ i = 2 := by omega
    rcases this with z | z | z <;> rw [z]
    · rw [e5]
    · rw [e4]
    · rw [e3]
  · rw [List.getElem?_eq_none (by omega), List.getElem?_eq_none (by omega)]
theorem rows_nd {ps : List Pg} (ok : Ok ps) : ∀ {l : List Rw}, (∀ r ∈ l, ∃ d, RG ps (d + 1) r) → (l.map fun r => r.2).Nodup → (l.map fun r => pcode r.2).Nodup
  | [], _, _ => List.nodup_nil
  | a :: l, hg, hn => by
    rw [List.map_cons, List.nodup_cons] at hn ⊢
    refine ⟨fun hm => ?_, rows_nd ok (fun i hi => hg i (List.mem_cons_of_mem _ hi)) hn.2⟩
    obtain ⟨b, hb, hc⟩ := List.mem_map.mp hm
    obtain ⟨d1, g1⟩ := hg b (List.mem_cons_of_mem _ hb)
    obtain ⟨d2, g2⟩ := hg a List.mem_cons_self
    exact hn.1 (List.mem_map.mpr ⟨b, hb, pcode_inj ok g1 g2 hc⟩)
theorem RK1.size {ps : List Pg} (ok : Ok ps) {rows : List Rw} (K : RK1 ps rows) : rows.length ≤ 343 := by
  have h3 : ∀ x ∈ rows.map (fun r => pcode r.2), x < 343 := by
    intro x hx
    obtain ⟨r, hr, hc⟩ := List.mem_map.mp hx
    obtain ⟨d, g⟩ := K.g r hr
    have a := pl6' ok g 0
    have b := pl6' ok g 1
    have c := pl6' ok g 2
    rw [← hc]
    unfold pcode
    omega
  have h4 := N5.pig 343 _ (rows_nd ok K.g K.nd) h3
  rw [List.length_map] at h4
  exact h4
/-- rows of the next level are all known -/
theorem exH_ok {ps : List Pg} {d : Nat} {it : Rw} (G : RG ps d it) : ∀ (hs : List Nat) (rows aft : List Rw), RK1 ps rows → (∀ r ∈ aft, RG ps (d + 1) r) → (∀ r ∈ aft, r ∈ rows) → aft.length ≤ rows.length →
    RK1 ps (exH ps it hs rows aft).1 ∧ (∀ r ∈ (exH ps it hs rows aft).2, RG ps (d + 1) r) ∧ (∀ r ∈ (exH ps it hs rows aft).2, r ∈ (exH ps it hs rows aft).1) ∧ (exH ps it hs rows aft).2.length ≤ (exH ps it hs rows aft).1.length ∧ (∀ r ∈ rows, r ∈ (exH ps it hs rows aft).1)
  | [], rows, aft, K, h1, h2, h3 => ⟨K, h1, h2, h3, fun r hr => hr⟩
  | h :: hs, rows, aft, K, h1, h2, h3 => by
    unfold exH
    cases hn : isNew ps it h rows with
    | false => rw [if_neg Bool.false_ne_true]; exact exH_ok G hs rows aft K h1 h2 h3
    | true =>
      rw [if_pos rfl]
      have hc : can ps it.2 h = true := by
        unfold isNew at hn
        exact (Bool.and_eq_true_iff.mp hn).1
      obtain ⟨a1, a2, a3, a4, a5⟩ := exH_ok G hs (rows ++ [(it.1 ++ [h], on1 it.2 h)]) (aft ++ [(it.1 ++ [h], on1 it.2 h)]) (K.add G hn) (fun r hr => by
        rcases List.mem_append.mp hr with z | z
        · exact h1 r z
        · have : r = (it.1 ++ [h], on1 it.2 h) := by simpa using z
          rw [this]; exact G.go hc) (fun r hr => by
        rcases List.mem_append.mp hr with z | z
        · exact List.mem_append_left _ (h2 r z)
        · exact List.mem_append_right _ z) (by rw [List.length_append, List.length_append]; simp; omega)
      exact ⟨a1, a2, a3, a4, fun r hr => a5 r (List.mem_append_left _ hr)⟩
end K53

set_option Elab.async false
set_option linter.all false
set_option maxRecDepth 100000
/-! N15: race -/
namespace K53
open PySem PySem.Spec PyProof.Rows L2 Z
theorem tru_l {S : Sto} {l : Nat} {xs : List D} (h : S[l]? = some (.lst xs)) : truW S (.d (.ref l)) = some (!xs.isEmpty) := by
  show (match S[l]? with | some (.lst xs) => some (!xs.isEmpty) | some (.dk kvs) => some (!kvs.isEmpty) | some (.dd _) => none | none => none) = _
  rw [h]
theorem in_dd {S : Sto} {l : Nat} {r : List (D × D)} {k : D} (h : S[l]? = some (.dd r)) (hk : keyT k = true) : inW S (.d k) (.d (.ref l)) = some ((getDD r k).isSome) := by
  have hd : dicOf S (.d (.ref l)) = some (.dd r) := by
    unfold dicOf
    simp only [h, isDO, if_true]
  unfold inW
  rw [hd]
  show (if keyT k = true then some (getDD r k) else none).map Option.isSome = _
  rw [if_pos hk]; rfl
theorem dg_dd {S : Sto} {l : Nat} {r : List (D × D)} {k v : D} (h : S[l]? = some (.dd r)) (hk : keyT k = true) (hv : getDD r k = some v) : dgetW S (.d (.ref l)) (.d k) = some (.d v) := by
  have e : oGet (.dd r) k = some (some v) := by rw [oGet_d, if_pos hk, hv]
  unfold dgetW
  simp only [h, e]
theorem seq_l {S : Sto} {l : Nat} {xs : List D} (h : S[l]? = some (.lst xs)) : seqOf S (.d (.ref l)) = some xs := by
  show (match S[l]? with | some (.lst xs) => some xs | _ => none) = _; rw [h]
theorem gd_l {S : Sto} {l : Nat} {xs : List D} (h : S[l]? = some (.lst xs)) : guardOf S (.d (.ref l)) = [(l, xs)] := by
  show (match S[l]? with | some (.lst xs) => [(l, xs)] | _ => []) = _; rw [h]
theorem kT_dI (xs : List Nat) : keyT (dI xs) = true := by
  show keyN 8 (.tup _) = true
  exact key_dI 7 xs
theorem get_all {α : Type} (f g : α → D) (hf : ∀ a b, f a = f b → a = b) : ∀ (l : List α) (a : α), a ∈ l → getDD (l.map fun i => (f i, g i)) (f a) = some (g a)
  | b :: l, a, h => by
    unfold getDD
    rw [List.map_cons, List.find?_cons]
    simp only
    cases e : eqD (f b) (f a) with
    | true =>
      have := hf b a (eqD_eq _ _ e)
      rw [this]; rfl
    | false =>
      have hne : a ≠ b := fun z => by rw [z, eqD_refl] at e; cases e
      rcases List.mem_cons.mp h with z | z
      · exact absurd z hne
      · exact get_all f g hf l a z
theorem get_any {α : Type} (f g : α → D) (k : D) (l : List α) : (getDD (l.map fun i => (f i, g i)) k).isSome = l.any fun i => eqD (f i) k := by
  unfold getDD
  induction l with
  | nil => rfl
  | cons a l ih =>
    rw [List.map_cons, List.find?_cons, List.any_cons]
    simp only
    cases eqD (f a) k with
    | true => rfl
    | false => exact ih
theorem put_any {α : Type} (f g : α → D) (k v : D) (l : List α) (h : (l.any fun i => eqD (f i) k) = false) : putDD (l.map fun i => (f i, g i)) k v = (l.map fun i => (f i, g i)) ++ [(k, v)] := by
  unfold putDD
  have : ((l.map fun i => (f i, g i)).any fun kv => eqD kv.1 k) = l.any fun i => eqD (f i) k := by rw [List.any_map]; rfl
  rw [this, h]; rfl
def allR (ps : List Pg) (rows : List Rw) : List Rw := ([], List.replicate ps.length 0) :: rows
def rD (ps : List Pg) (rows : List Rw) : List (D × D) := (allR ps rows).map fun r => (dI r.2, dI r.1)
theorem getDD_nd {l : List Rw} : (l.map fun r => r.2).Nodup → ∀ a ∈ l, getDD (l.map fun r => (dI r.2, dI r.1)) (dI a.2) = some (dI a.1) := by
  induction l with
  | nil => intro _ a h; cases h
  | cons b l ih =>
    intro hn a h
    rw [List.map_cons, List.nodup_cons] at hn
    unfold getDD
    rw [List.map_cons, List.find?_cons]
    simp only
    rw [eqD_inj dI_inj]
    by_cases e : b.2 = a.2
    · rw [decide_eq_true e]
      rcases List.mem_cons.mp h with z | z
      · rw [z]; rfl
      · exact absurd (List.mem_map.mpr ⟨a, z, e.symm⟩) hn.1
    · rw [decide_eq_false e]
      rcases List.mem_cons.mp h with z | z
      · exact absurd (by rw [z]) e
      · exact ih hn.2 a z
theorem all_nd {ps : List Pg} {rows : List Rw} (K : RK1 ps rows) : ((allR ps rows).map fun r => r.2).Nodup := by
  unfold allR
  rw [List.map_cons, List.nodup_cons]
  refine ⟨fun hm => ?_, K.nd⟩
  obtain ⟨r, hr, e⟩ := List.mem_map.mp hm
  obtain ⟨d, g⟩ := K.g r hr
  exact on1_ne g e
theorem all_any {ps : List Pg} {d : Nat} {it : Rw} {h : Nat} {rows : List Rw} (G : RG ps d it) (hc : can ps it.2 h = true) : ((allR ps rows).any fun i => eqD (dI i.2) (dI (on1 it.2 h))) = rows.any fun r => decide (r.2 = on1 it.2 h) := by
  unfold allR
  rw [List.any_cons, eqD_inj dI_inj, decide_eq_false (fun z => on1_ne (G.go hc) z.symm), Bool.false_or]
  congr 1
  funext r
  exact eqD_inj dI_inj _ _
section
variable (F n : Nat) {ps : List Pg}
abbrev envR (ps : List Pg) (x1 : Option D) (l a : Nat) (x5 x6 x7 : Option D) : Z.Env := [some (dPs ps), x1, some (.ref 0), some (.ref l), some (.ref a), x5, x6, x7]
structure FS (ps : List Pg) (a : Nat) (rows aft : List Rw) (S : Sto) : Prop where
  z : S[0]? = some (.dd (rD ps rows))
  f : S[a]? = some (.lst (aft.map fun r => dI r.2))
  n : a ≠ 0
theorem st_get {S : Sto} {i j : Nat} {o : O} (h : i ≠ j) : (S.set i o)[j]? = S[j]? := List.getElem?_set_ne h
theorem st_self {S : Sto} {i : Nat} {o o' : O} (h : S[i]? = some o') : (S.set i o)[i]? = some o := by
  rw [List.getElem?_set_self]
  exact (List.getElem?_eq_some_iff.mp h).1
theorem rc_hands (ok : Ok ps) {d : Nat} {it : Rw} (G : RG ps d it) (l a : Nat) : ∀ (hs : List Nat) (rows aft : List Rw) (S : Sto) (x1 x6 x7 : Option D), (∀ h ∈ hs, h < ps.length) → RK1 ps rows → it ∈ allR ps rows → (∀ r ∈ aft, RG ps (d + 1) r) → (∀ r ∈ aft, r ∈ rows) → aft.length ≤ rows.length → FS ps a rows aft S →
    ∃ S' x6' x7', forLoop [] (stp tab (callD F tab pg (n + 1)) F (.nm 6 (Str.ofString "hand")) lp_race1) (hs.map fun (x : Nat) => .int (x : Int)) (envR ps x1 l a (some (dI it.2)) x6 x7) S = some (.nx, envR ps x1 l a (some (dI it.2)) x6' x7', S') ∧
      FS ps a (exH ps it hs rows aft).1 (exH ps it hs rows aft).2 S' ∧ ∀ i, i ≠ 0 → i ≠ a → S'[i]? = S[i]?
  | [], rows, aft, S, x1, x6, x7, _, _, _, _, _, _, fs => ⟨S, x6, x7, by rw [List.map_nil, forLoop_nil _ _ (chkG_nil _)], fs, fun _ _ _ => rfl⟩
  | h :: hs, rows, aft, S, x1, x6, x7, hh, K, hm, ha1, ha2, ha3, fs => by
    have h1 : h < ps.length := hh h List.mem_cons_self
    have hb := ok.b
    have lp := G.len
    obtain ⟨p, hp⟩ : ∃ p, ps[h]? = some p := ⟨ps[h], by simp [h1]⟩
    have x1' := fun S => ix_PP S hp
    have x3 := fun S => ix_I S (getD_some 0 (show h < it.2.length by omega))
    have hrow := G.tot
    have ht := tot_le ok
    unfold tot at hrow
    have hcan : can ps it.2 h = decide (it.2.getD h 0 < p.length) := by unfold can; rw [hp]
    have hsz := K.size ok
    rw [List.map_cons, forLoop_cons _ _ _ _ (chkG_nil _), stp_e]
    by_cases hlt : it.2.getD h 0 < p.length
    · have k1 : decide (((it.2.getD h 0 : Nat) : Int) < (p.length : Int)) = true := decide_eq_true (by omega)
      rw [decide_eq_true hlt] at hcan
      have ch := fun S => ch_I F n S (xs := it.2) (h := h) (v := it.2.getD h 0 + 1) (by omega) (by omega)
      have ea : ((it.2.getD h 0 : Nat) : Int) + 1 = ((it.2.getD h 0 + 1 : Nat) : Int) := by omega
      have hon : it.2.set h (it.2.getD h 0 + 1) = on1 it.2 h := rfl
      rw [hon] at ch
      have i1 := in_dd fs.z (kT_dI (on1 it.2 h))
      unfold rD at i1
      rw [get_any (fun r : Rw => dI r.2) (fun r => dI r.1), all_any G hcan] at i1
      cases hany : rows.any fun r => decide (r.2 = on1 it.2 h) with
      | true =>
        rw [hany] at i1
        have hnew : isNew ps it h rows = false := by unfold isNew; rw [hcan, hany]; rfl
        unfold exH
        rw [hnew, if_neg Bool.false_ne_true]
        obtain ⟨S', x6', x7', ih, ih2⟩ := rc_hands ok G l a hs rows aft S x1 (some (.int (h : Int))) (some (dI (on1 it.2 h))) (fun x hx => hh x (List.mem_cons_of_mem _ hx)) K hm ha1 ha2 ha3 fs
        refine ⟨S', x6', x7', ?_, ih2⟩
        unfold lp_race1 at *
        simp (disch := first | (refine @id _ ?_; with_unfolding_all rfl) | assumption | omega) only [evl, lits, kds, kdec, reduceCtorEq, List.isEmpty_nil, List.isEmpty_cons, gls, x1', x3, le_p, k1, ea, ch, i1, ih]
      | false =>
        rw [hany] at i1
        have hnew : isNew ps it h rows = true := by unfold isNew; rw [hcan, hany]; rfl
        conv => enter [1, S', 1, x6', 1, x7', 2]; unfold exH
        rw [hnew, if_pos rfl]
        have hgo := G.go hcan
        have K' := K.add G hnew
        have dg := dg_dd fs.z (kT_dI it.2) (getDD_nd (all_nd K) it hm)
        have sn := fun S => snoc_I S it.1 h (by rw [G.row]; omega)
        have op := op_d2 (s := rD ps rows) (v := dI (it.1 ++ [h])) (kT_dI (on1 it.2 h)) (by unfold rD allR; rw [List.length_map, List.length_cons]; unfold LN; omega)
        have pu1 : putDD (rD ps rows) (dI (on1 it.2 h)) (dI (it.1 ++ [h])) = rD ps (rows ++ [(it.1 ++ [h], on1 it.2 h)]) := by
          unfold rD
          rw [put_any (fun r : Rw => dI r.2) (fun r => dI r.1) _ _ _ (by rw [all_any G hcan]; exact hany)]
          unfold allR
          rw [← List.cons_append, List.map_append]
          rfl
        rw [pu1] at op
        have z1 : ∀ o, (S.set 0 o)[a]? = some (.lst (aft.map fun r => dI r.2)) := fun o => by rw [st_get (Ne.symm fs.n)]; exact fs.f
        have z2 : ∀ o, lstO (S.set 0 o)[a]? = some (aft.map fun r => dI r.2) := fun o => by rw [z1]; rfl
        have z3 := fun o => kApp4_e (n := a) (S := S.set 0 o) (d := dI (on1 it.2 h)) (xs := aft.map fun r => dI r.2) (by rw [List.length_map]; unfold LN; omega)
        have z4 : ((aft.map fun r => dI r.2) ++ [dI (on1 it.2 h)]) = (aft ++ [(it.1 ++ [h], on1 it.2 h)]).map fun r => dI r.2 := by rw [List.map_append]; rfl
        have hz := fs.z
        obtain ⟨S', x6', x7', ih, ih2, ih3⟩ := rc_hands ok G l a hs (rows ++ [(it.1 ++ [h], on1 it.2 h)]) (aft ++ [(it.1 ++ [h], on1 it.2 h)]) ((S.set 0 (.dd (rD ps (rows ++ [(it.1 ++ [h], on1 it.2 h)])))).set a (.lst ((aft ++ [(it.1 ++ [h], on1 it.2 h)]).map fun r => dI r.2))) x1 (some (.int (h : Int))) (some (dI (on1 it.2 h))) (fun x hx => hh x (List.mem_cons_of_mem _ hx)) K' (by
          unfold allR at *
          rcases List.mem_cons.mp hm with z | z
          · rw [z]; exact List.mem_cons_self
          · exact List.mem_cons_of_mem _ (List.mem_append_left _ z)) (fun r hr => by
          rcases List.mem_append.mp hr with z | z
          · exact ha1 r z
          · have : r = (it.1 ++ [h], on1 it.2 h) := by simpa using z
            rw [this]; exact hgo) (fun r hr => by
          rcases List.mem_append.mp hr with z | z
          · exact List.mem_append_left _ (ha2 r z)
          · exact List.mem_append_right _ z) (by rw [List.length_append, List.length_append]; simp; omega) ⟨by rw [st_get fs.n]; exact st_self fs.z, st_self (z1 _), fs.n⟩
        refine ⟨S', x6', x7', ?_, ih2, fun i hi hia => by rw [ih3 i hi hia, st_get (Ne.symm hia), st_get (Ne.symm hi)]⟩
        unfold lp_race1 at *
        simp (disch := first | (refine @id _ ?_; with_unfolding_all rfl) | assumption | omega) only [evl, lits, kds, kdec, reduceCtorEq, List.isEmpty_nil, List.isEmpty_cons, gls, x1', x3, le_p, k1, ea, ch, i1, dg, sn, hz, op, z2, z3, z4, ih]
    · have k1 : decide (((it.2.getD h 0 : Nat) : Int) < (p.length : Int)) = false := decide_eq_false (by omega)
      rw [decide_eq_false hlt] at hcan
      have hnew : isNew ps it h rows = false := by unfold isNew; rw [hcan]; rfl
      unfold exH
      rw [hnew, if_neg Bool.false_ne_true]
      obtain ⟨S', x6', x7', ih, ih2⟩ := rc_hands ok G l a hs rows aft S x1 (some (.int (h : Int))) x7 (fun x hx => hh x (List.mem_cons_of_mem _ hx)) K hm ha1 ha2 ha3 fs
      refine ⟨S', x6', x7', ?_, ih2⟩
      unfold lp_race1 at *
      simp (disch := first | (refine @id _ ?_; with_unfolding_all rfl) | assumption | omega) only [evl, lits, kds, kdec, reduceCtorEq, List.isEmpty_nil, List.isEmpty_cons, gls, x1', x3, le_p, k1, ih]
end
end K53

set_option Elab.async false
set_option linter.all false
set_option maxRecDepth 100000
/-! N16: race, the loop -/
namespace K53
open PySem PySem.Spec PyProof.Rows L2 Z
structure AF (ps : List Pg) (d : Nat) (rows aft : List Rw) : Prop where
  k : RK1 ps rows
  g : ∀ r ∈ aft, RG ps (d + 1) r
  m : ∀ r ∈ aft, r ∈ rows
  l : aft.length ≤ rows.length
theorem AF.ex {ps : List Pg} {d : Nat} {it : Rw} {rows aft : List Rw} (A : AF ps d rows aft) (G : RG ps d it) (hs : List Nat) : AF ps d (exH ps it hs rows aft).1 (exH ps it hs rows aft).2 ∧ ∀ r ∈ rows, r ∈ (exH ps it hs rows aft).1 := by
  obtain ⟨a1, a2, a3, a4, a5⟩ := exH_ok G hs rows aft A.k A.g A.m A.l
  exact ⟨⟨a1, a2, a3, a4⟩, a5⟩
theorem allR_mono {ps : List Pg} {rows rows' : List Rw} (h : ∀ r ∈ rows, r ∈ rows') {it : Rw} (hm : it ∈ allR ps rows) : it ∈ allR ps rows' := by
  unfold allR at *
  rcases List.mem_cons.mp hm with z | z
  · rw [z]; exact List.mem_cons_self
  · exact List.mem_cons_of_mem _ (h it z)
theorem lvl_ok {ps : List Pg} {d : Nat} : ∀ (lv rows aft : List Rw), (∀ it ∈ lv, RG ps d it) → AF ps d rows aft → (lvl ps lv rows aft).1 = none → AF ps d (lvl ps lv rows aft).2.1 (lvl ps lv rows aft).2.2
  | [], rows, aft, _, A, _ => A
  | it :: lv, rows, aft, hg, A, h => by
    unfold lvl at *
    split at h
    · cases h
    · next hc =>
      rw [if_neg hc]
      exact lvl_ok lv _ _ (fun r hr => hg r (List.mem_cons_of_mem _ hr)) (A.ex (hg it List.mem_cons_self) _).1 h
def fl2 (o : Option (List Nat)) : Fl := match o with
  | some row => .rt (.d (dI row))
  | none => .nx
section
variable (F n : Nat) {ps : List Pg}
theorem rng_PS (S : Sto) (ok : Ok ps) : rngW [.d (.int (ps.length : Int))] = some ((List.range ps.length).map fun (x : Nat) => D.int (x : Int)) := by
  have hb := ok.b
  rw [rng_k (by omega)]
  unfold rngL
  congr 1
  refine List.map_congr_left fun x _ => ?_
  congr 1
  omega
theorem rc_level (ok : Ok ps) {d : Nat} (l a : Nat) (L : List D) (hl0 : l ≠ 0) (hla : l ≠ a) : ∀ (lv rows aft : List Rw) (S : Sto) (x1 x5 x6 x7 : Option D), (∀ it ∈ lv, RG ps d it) → (∀ it ∈ lv, it ∈ allR ps rows) → AF ps d rows aft → FS ps a rows aft S → S[l]? = some (.lst L) →
    ∃ S' ρ', forLoop [(l, L)] (stp tab (callD F tab pg (n + 1)) F (.nm 5 (Str.ofString "places")) lp_race2) (lv.map fun r => dI r.2) (envR ps x1 l a x5 x6 x7) S = some (fl2 (lvl ps lv rows aft).1, ρ', S') ∧
      ((lvl ps lv rows aft).1 = none → (∃ x5 x6 x7, ρ' = envR ps x1 l a x5 x6 x7) ∧ FS ps a (lvl ps lv rows aft).2.1 (lvl ps lv rows aft).2.2 S')
  | [], rows, aft, S, x1, x5, x6, x7, _, _, A, fs, hL => ⟨S, _, by rw [List.map_nil, forLoop_nil _ _ (chk_self hL)]; rfl, fun _ => ⟨⟨x5, x6, x7, rfl⟩, fs⟩⟩
  | it :: lv, rows, aft, S, x1, x5, x6, x7, hg, hm, A, fs, hL => by
    have G := hg it List.mem_cons_self
    have M := hm it List.mem_cons_self
    have cl := fun S => sp_clash F n ok it.2 G.len S
    rw [List.map_cons, forLoop_cons _ _ _ _ (chk_self hL), stp_e]
    cases hc : clashL (nexts ps it.2) with
    | true =>
      rw [hc] at cl
      have hlv : lvl ps (it :: lv) rows aft = (some it.1, rows, aft) := by unfold lvl; rw [hc, if_pos rfl]
      rw [hlv]
      have dg := dg_dd fs.z (kT_dI it.2) (getDD_nd (all_nd A.k) it M)
      refine ⟨S, envR ps x1 l a (some (dI it.2)) x6 x7, ?_, fun z => by cases z⟩
      unfold lp_race2 fl2
      simp (disch := first | (refine @id _ ?_; with_unfolding_all rfl) | assumption | omega) only [evl, lits, kds, kdec, reduceCtorEq, List.isEmpty_nil, List.isEmpty_cons, gls, cl, dg]
    | false =>
      rw [hc] at cl
      have hlv : lvl ps (it :: lv) rows aft = lvl ps lv (exH ps it (List.range ps.length) rows aft).1 (exH ps it (List.range ps.length) rows aft).2 := by
        conv => lhs; unfold lvl
        rw [hc, if_neg Bool.false_ne_true]
      rw [hlv]
      obtain ⟨S1, x6', x7', h1, f1, fr⟩ := rc_hands F n ok G l a (List.range ps.length) rows aft S x1 x6 x7 (fun h hh => by simpa using hh) A.k M A.g A.m A.l fs
      obtain ⟨A1, mono⟩ := A.ex G (List.range ps.length)
      obtain ⟨S', ρ', ih, ih2⟩ := rc_level ok l a L hl0 hla lv _ _ S1 x1 (some (dI it.2)) x6' x7' (fun r hr => hg r (List.mem_cons_of_mem _ hr)) (fun r hr => allR_mono mono (hm r (List.mem_cons_of_mem _ hr))) A1 f1 (by rw [fr l hl0 hla]; exact hL)
      refine ⟨S', ρ', ?_, ih2⟩
      have r1 := rng_PS [] ok
      unfold lp_race2 at *
      simp (disch := first | (refine @id _ ?_; with_unfolding_all rfl) | assumption | omega) only [evl, lits, kds, kdec, reduceCtorEq, List.isEmpty_nil, List.isEmpty_cons, gls, cl, le_pp, r1, h1, ih]
abbrev envW (ps : List Pg) (x1 : Option D) (l : Nat) (x4 x5 x6 x7 : Option D) : Z.Env := [some (dPs ps), x1, some (.ref 0), some (.ref l), x4, x5, x6, x7]
theorem rc_loop (ok : Ok ps) : ∀ (f : Nat) (d l : Nat) (level rows : List Rw) (S : Sto) (x1 x4 x5 x6 x7 : Option D), tot ps + 2 ≤ f + d → (∀ it ∈ level, RG ps d it) → (∀ it ∈ level, it ∈ allR ps rows) → RK1 ps rows → S[0]? = some (.dd (rD ps rows)) → S[l]? = some (.lst (level.map fun r => dI r.2)) → l ≠ 0 →
    (d ≤ tot ps + 1) → ∃ ρ' S', whl tab (callD F tab pg (n + 1)) F lt_race1 lp_race3 f (envW ps x1 l x4 x5 x6 x7) S = some (fl2 (bfs ps f level rows), ρ', S')
  | 0, d, l, level, rows, S, x1, x4, x5, x6, x7, hf, hg, hm, K, h0, hl, hl0, hd => by omega
  | f + 1, d, l, [], rows, S, x1, x4, x5, x6, x7, hf, hg, hm, K, h0, hl, hl0, hd => by
    refine ⟨envW ps x1 l x4 x5 x6 x7, S, ?_⟩
    have tr := tru_l hl
    rw [whl_s]
    unfold lt_race1
    simp (disch := first | (refine @id _ ?_; with_unfolding_all rfl) | assumption | omega) only [evl, lits, kds, kdec, reduceCtorEq, List.isEmpty_nil, List.isEmpty_cons, gls, tr, List.map_nil]
    rfl
  | f + 1, d, l, it :: lv, rows, S, x1, x4, x5, x6, x7, hf, hg, hm, K, h0, hl, hl0, hd => by
    have hS0 : 0 < S.length := (List.getElem?_eq_some_iff.mp h0).1
    have hSl : l < S.length := (List.getElem?_eq_some_iff.mp hl).1
    have tr := tru_l hl
    have dt := (hg it List.mem_cons_self).tot
    have fs0 : FS ps S.length rows [] (S ++ [.lst []]) := ⟨by rw [List.getElem?_append_left hS0]; exact h0, by rw [List.getElem?_append_right (Nat.le_refl _), Nat.sub_self]; rfl, by omega⟩
    have hl1 : (S ++ [O.lst []])[l]? = some (.lst ((it :: lv).map fun r => dI r.2)) := by rw [List.getElem?_append_left hSl]; exact hl
    obtain ⟨S1, ρ1, h1, h2⟩ := rc_level F n ok (d := d) l S.length _ hl0 (by omega) (it :: lv) rows [] (S ++ [.lst []]) x1 x5 x6 x7 hg hm ⟨K, fun r hr => (nomatch hr), fun r hr => (nomatch hr), Nat.zero_le _⟩ fs0 hl1
    have s1 := seq_l hl1
    have g1 := gd_l hl1
    have hb : bfs ps (f + 1) (it :: lv) rows = (match lvl ps (it :: lv) rows [] with | (some row, _, _) => some row | (none, rows', aft) => bfs ps f aft rows') := rfl
    rw [whl_s]
    have ht : evT tab (callD F tab pg (n + 1)) lt_race1 (envW ps x1 l x4 x5 x6 x7) S = some (true, S) := by
      unfold lt_race1
      simp (disch := first | (refine @id _ ?_; with_unfolding_all rfl) | assumption | omega) only [evl, lits, kds, kdec, reduceCtorEq, List.isEmpty_nil, List.isEmpty_cons, gls, tr, List.map_cons]
    rw [ht, bnd_some, kWh_t, hb]
    have hL := lvl_ok (d := d) (it :: lv) rows [] hg ⟨K, fun r hr => (nomatch hr), fun r hr => (nomatch hr), Nat.zero_le _⟩
    generalize lvl ps (it :: lv) rows [] = q at *
    obtain ⟨q1, q2, q3⟩ := q
    cases q1 with
    | some row =>
      refine ⟨ρ1, S1, ?_⟩
      unfold fl2 at *
      unfold lp_race3
      simp only at h1
      simp (disch := first | (refine @id _ ?_; with_unfolding_all rfl) | assumption | omega) only [evl, lits, kds, kdec, reduceCtorEq, List.isEmpty_nil, List.isEmpty_cons, gls, s1, g1, h1]
    | none =>
      obtain ⟨⟨x5', x6', x7', rfl⟩, f1⟩ := h2 rfl
      have A1 := hL rfl
      simp only at A1 f1 h1
      have hbody : evS tab (callD F tab pg (n + 1)) F lp_race3 (envW ps x1 l x4 x5 x6 x7) S = some (.nx, envW ps x1 S.length (some (.ref S.length)) x5' x6' x7', S1) := by
        unfold lp_race3
        unfold fl2 at h1
        simp only at h1
        simp (disch := first | (refine @id _ ?_; with_unfolding_all rfl) | assumption | omega) only [evl, lits, kds, kdec, reduceCtorEq, List.isEmpty_nil, List.isEmpty_cons, gls, s1, g1, h1]
      rw [hbody, bnd_some, kWh2_nx]
      exact rc_loop ok f (d + 1) S.length q3 q2 S1 x1 (some (.ref S.length)) x5' x6' x7' (by omega) A1.g (fun r hr => by unfold allR; exact List.mem_cons_of_mem _ (A1.m r hr)) A1.k f1.z f1.f (by omega) (by omega)
/-- the first race's row -/
def raceR (ps : List Pg) (F : Nat) : Option (List Nat) := bfs ps F [([], List.replicate ps.length 0)] []
theorem RG.start (ps : List Pg) : RG ps 0 ([], List.replicate ps.length 0) := by
  refine ⟨by simp, fun h p _ => ?_, by simp, rfl⟩
  show (List.replicate _ 0).getD h 0 ≤ _
  rw [List.getD_eq_getElem?_getD, List.getElem?_replicate]
  split <;> simp
theorem sp_race (hF : 100 ≤ F) (ok : Ok ps) (S : Sto) : callD F tab pg (n + 2) "race" [dPs ps] S = some (.d (oRow (raceR ps F)), S) := by
  have hpo : (oRow (raceR ps F)).pure = true := by
    unfold oRow
    split
    · exact pu_I _
    · rfl
  have ha := ok.a
  have hb := ok.b
  have h18 := tot_le ok
  have c1 := sp_check F n [] ok
  have m1 := fun S => mul_t S (a := .int 0) (k := (ps.length : Int)) ⟨by omega, by omega⟩
  have kk := kT_dI (List.replicate ps.length 0)
  have G0 := RG.start ps
  obtain ⟨ρ', S', hl⟩ := rc_loop F n ok F 0 1 [([], List.replicate ps.length 0)] [] [.dd (rD ps []), .lst [dI (List.replicate ps.length 0)]] (some (dI (List.replicate ps.length 0))) none none none none (by unfold tot; omega) (fun it hi => by
    have : it = ([], List.replicate ps.length 0) := by simpa using hi
    rw [this]; exact G0) (fun it hi => by
    have : it = ([], List.replicate ps.length 0) := by simpa using hi
    rw [this]; exact List.mem_cons_self) ⟨fun r hr => (nomatch hr), List.nodup_nil⟩ rfl rfl (by decide) (Nat.zero_le _)
  have hfin : fin (evS tab (callD F tab pg (n + 1)) F s_race [some (dPs ps), none, none, none, none, none, none, none] []) = some (.d (oRow (raceR ps F)), S') := by
    unfold s_race
    simp (disch := first | (refine @id _ ?_; with_unfolding_all rfl) | assumption | omega) only [evl, lits, kds, kdec, reduceCtorEq, List.isEmpty_nil, List.isEmpty_cons, gls, c1, le_pp, m1, tn_c, rep_0, kk]
    show fin (sq tab (callD F tab pg (n + 1)) F _ (whl tab (callD F tab pg (n + 1)) F lt_race1 lp_race3 F (envW ps (some (dI (List.replicate ps.length 0))) 1 none none none none) [.dd (rD ps []), .lst [dI (List.replicate ps.length 0)]])) = _
    rw [hl]
    show fin (sq _ _ _ _ (some (fl2 (raceR ps F), ρ', S'))) = _
    cases raceR ps F with
    | none =>
      unfold fl2 oRow
      simp (disch := first | (refine @id _ ?_; with_unfolding_all rfl) | assumption | omega) only [evl]
    | some row =>
      unfold fl2 oRow
      simp (disch := first | (refine @id _ ?_; with_unfolding_all rfl) | assumption | omega) only [evl]
  exact call_px look_race rfl (pr1 rfl (pu_PS ps)) hfin (ex_d hpo) S
end
end K53

set_option Elab.async false
set_option linter.all false
set_option maxRecDepth 100000
/-! N17: _law_race, who clashes -/
namespace K53
open PySem PySem.Spec PyProof.Rows L2 Z
theorem clashB_symm (a b : St) : clashB a b = clashB b a := by
  unfold clashB
  obtain ⟨ka, pa, va⟩ := a
  obtain ⟨kb, pb, vb⟩ := b
  simp only
  rw [show decide (pa = pb) = decide (pb = pa) by by_cases h : pa = pb <;> simp [h, eq_comm]]
  cases ka <;> cases kb <;> rfl
theorem clashL_iff : ∀ l : List St, clashL l = true ↔ ∃ (i j : Nat) (a b : St), i < j ∧ l[i]? = some a ∧ l[j]? = some b ∧ clashB a b = true
  | [] => ⟨fun h => (by cases h), fun ⟨i, j, a, b, _, h, _⟩ => by simp at h⟩
  | x :: l => by
    unfold clashL
    rw [Bool.or_eq_true, clashL_iff l]
    constructor
    · rintro (h | ⟨i, j, a, b, h1, h2, h3, h4⟩)
      · obtain ⟨y, hy, hc⟩ := List.any_eq_true.mp h
        obtain ⟨j, hj⟩ := List.mem_iff_getElem?.mp hy
        exact ⟨0, j + 1, x, y, by omega, rfl, by simpa using hj, hc⟩
      · exact ⟨i + 1, j + 1, a, b, by omega, by simpa using h2, by simpa using h3, h4⟩
    · rintro ⟨i, j, a, b, h1, h2, h3, h4⟩
      cases j with
      | zero => omega
      | succ j =>
        cases i with
        | zero =>
          left
          cases h2
          exact List.any_eq_true.mpr ⟨b, List.mem_of_getElem? (by simpa using h3), h4⟩
        | succ i => exact .inr ⟨i, j, a, b, by omega, by simpa using h2, by simpa using h3, h4⟩
/-- does the k-th clash with one ahead? -/
def clA (ns : List St) (k j : Nat) : Bool := match ns[k]?, ns[j]? with
  | some a, some b => clashB a b
  | _, _ => false
def ahead (ns : List St) (k : Nat) : Bool := (List.range k).any (clA ns k)
theorem clash_range (ns : List St) : (List.range ns.length).any (ahead ns) = clashL ns := by
  have h : (List.range ns.length).any (ahead ns) = true ↔ clashL ns = true := by
    rw [clashL_iff, List.any_eq_true]
    constructor
    · rintro ⟨k, hk, h⟩
      unfold ahead at h
      obtain ⟨j, hj, h⟩ := List.any_eq_true.mp h
      have hj' : j < k := by simpa using hj
      unfold clA at h
      split at h
      · next a b h1 h2 => exact ⟨j, k, b, a, hj', h2, h1, by rw [clashB_symm]; exact h⟩
      · cases h
    · rintro ⟨i, j, a, b, h1, h2, h3, h4⟩
      refine ⟨j, by simpa using (List.getElem?_eq_some_iff.mp h3).1, ?_⟩
      unfold ahead
      refine List.any_eq_true.mpr ⟨i, by simpa using h1, ?_⟩
      unfold clA
      simp only [h3, h2]
      rw [clashB_symm]; exact h4
  cases h1 : (List.range ns.length).any (ahead ns) with
  | true => exact (h.mp h1).symm
  | false =>
    cases h2 : clashL ns with
    | false => rfl
    | true => rw [h.mpr h2] at h1; cases h1
theorem ms2 {α : Type} (le : α → α → Bool) (a b : α) : [a, b].mergeSort le = [a, b] ∨ [a, b].mergeSort le = [b, a] := by
  have p := List.mergeSort_perm [a, b] le
  have hl := p.length_eq
  match h : [a, b].mergeSort le, hl, p with
  | [u, v], _, p =>
    have hu : u ∈ [a, b] := p.mem_iff.mp List.mem_cons_self
    rcases List.mem_cons.mp hu with rfl | hu
    · have := (List.perm_cons u).mp p
      have hv : v ∈ [b] := this.mem_iff.mp List.mem_cons_self
      have : v = b := by simpa using hv
      rw [this]; exact .inl rfl
    · have hu' : u = b := by simpa using hu
      subst hu'
      have p2 : List.Perm [u, v] [u, a] := p.trans (List.Perm.swap u a [])
      have := (List.perm_cons u).mp p2
      have hv : v ∈ [a] := this.mem_iff.mp List.mem_cons_self
      have : v = a := by simpa using hv
      rw [this]; exact .inr rfl
theorem srt_gen {S : Sto} {w : W} {xs : List D} (hw : collW S w = some xs) (hi : intsOf xs = none) (ho : ordOk xs = true) : biW S .sorted [w] = some (.tmp (sortD xs)) := by
  show (collW S w).bind _ = _
  rw [hw]
  simp only [Option.bind, hi, ho, if_true]
theorem ord_kk (a b : Kd) : ordOk [.str a.s, .str b.s] = true := by cases a <;> cases b <;> decide +kernel
theorem srt_kk (S : Sto) (a b : Kd) : ∃ c d : Kd, ((c = a ∧ d = b) ∨ (c = b ∧ d = a)) ∧ biW S .sorted [.tmp [.str a.s, .str b.s]] = some (.tmp [.str c.s, .str d.s]) := by
  have e : biW S .sorted [.tmp [.str a.s, .str b.s]] = some (.tmp (sortD [.str a.s, .str b.s])) := srt_gen rfl rfl (ord_kk a b)
  rw [e]
  unfold sortD
  rcases ms2 (fun a b => !ltD b a) (.str a.s) (.str b.s) with h | h
  · exact ⟨a, b, .inl ⟨rfl, rfl⟩, by rw [h]⟩
  · exact ⟨b, a, .inr ⟨rfl, rfl⟩, by rw [h]⟩
theorem in_kl {S : Sto} {n : Nat} {c d : Kd} (h : S[n]? = some (.lst [.str c.s, .str d.s])) (a : Kd) : inW S (.d (.str a.s)) (.d (.ref n)) = some (decide (c = a) || decide (d = a)) := by
  rw [in_lst (n := 0) (m := 0) S (w := .d (.ref n)) (ys := [.str c.s, .str d.s]) (seq_l h) (by unfold dicOf; simp only [h, isDO]; rfl) (fun _ z => by cases z) (pln_str a 0) (by simp [pln_str]) (by decide) (by decide)]
  simp only [List.any_cons, List.any_nil, Bool.or_false]
  rw [eqD, eqD, kd_inj, kd_inj]
theorem eq_kl {S : Sto} {n : Nat} {c d : Kd} (h : S[n]? = some (.lst [.str c.s, .str d.s])) (a b : Kd) : eqW S (.d (.ref n)) (.tmp [.str a.s, .str b.s]) = some (decide (c = a) && decide (d = b)) := by
  rw [eq_ll (n := 0) (m := 0) S (py_ref h) (py_tmp S _) (by simp [pln_str]) (by simp [pln_str]) (by decide) (by decide)]
  rw [eqDs, eqDs, eqDs, eqD, eqD, kd_inj, kd_inj, Bool.and_true]
theorem ix_lst {S : Sto} {q k : Nat} {ns : List St} {s : St} (h : S[q]? = some (.lst (ns.map St.d))) (hk : ns[k]? = some s) : ixW S (.d (.ref q)) (.d (.int (k : Int))) = some (.d s.d) := by
  rw [ix_l, h]
  show bnd (atI (ns.map St.d) (k : Int)) kAtD = _
  rw [atI_nn, List.getElem?_map, hk]; rfl
/-- S goes on -/
def Ext (S S' : Sto) : Prop := ∃ T, S' = S ++ T
theorem Ext.refl (S : Sto) : Ext S S := ⟨[], by simp⟩
theorem Ext.trans {S S' S'' : Sto} (a : Ext S S') (b : Ext S' S'') : Ext S S'' := by
  obtain ⟨T, rfl⟩ := a
  obtain ⟨U, rfl⟩ := b
  exact ⟨T ++ U, by rw [List.append_assoc]⟩
theorem Ext.get {S S' : Sto} (a : Ext S S') {i : Nat} {o : O} (h : S[i]? = some o) : S'[i]? = some o := by
  obtain ⟨T, rfl⟩ := a
  rw [List.getElem?_append_left (List.getElem?_eq_some_iff.mp h).1]; exact h
section
variable (F n : Nat) {ps : List Pg}
abbrev envQ (ps : List Pg) (l : Nat) (x3 x4 x5 x6 x7 x8 x9 x10 : Option D) : Z.Env := [some (dPs ps), some (.ref l), some (.ref 0), x3, x4, x5, x6, x7, x8, x9, x10]
theorem lr_in (cl : Calls) (l q k : Nat) (row : List Nat) (ns : List St) (a : St) (x3 x5 x10 : Option D) (hk : ns[k]? = some a) : ∀ (js : List Nat) (S : Sto) (x8 x9 : Option D), (∀ j ∈ js, j < ns.length) → S[q]? = some (.lst (ns.map St.d)) →
    ∃ S' ρ', forLoop [] (stp tab cl F (.nm 8 (Str.ofString "j")) lp_law_race1) (js.map fun (x : Nat) => .int (x : Int)) (envQ ps l x3 (some (dI row)) x5 (some (.ref q)) (some (.int (k : Int))) x8 x9 x10) S =
      some (if js.any (clA ns k) = true then .rt (.d (dI row)) else .nx, ρ', S') ∧ Ext S S' ∧ ∃ x8 x9, ρ' = envQ ps l x3 (some (dI row)) x5 (some (.ref q)) (some (.int (k : Int))) x8 x9 x10
  | [], S, x8, x9, _, _ => ⟨S, _, by rw [List.map_nil, forLoop_nil _ _ (chkG_nil S)]; rfl, Ext.refl S, x8, x9, rfl⟩
  | j :: js, S, x8, x9, hj, hq => by
    obtain ⟨b, hb⟩ : ∃ b, ns[j]? = some b := ⟨ns[j]'(hj j List.mem_cons_self), by simp [hj j List.mem_cons_self]⟩
    obtain ⟨c, d, hcd, hs⟩ := srt_kk S a.k b.k
    have e1 : Ext S (S ++ [.lst [.str c.s, .str d.s]]) := ⟨_, rfl⟩
    have hn : (S ++ [O.lst [.str c.s, .str d.s]])[S.length]? = some (.lst [.str c.s, .str d.s]) := by rw [List.getElem?_append_right (Nat.le_refl _), Nat.sub_self]; rfl
    have i1 := ix_lst hq hk
    have i2 := ix_lst hq hb
    have i3 := ix_lst (e1.get hq) hk
    have i4 := ix_lst (e1.get hq) hb
    have a0 := fun S => ct_st S a
    have a1 := fun S => ct_sp S a
    have b0 := fun S => ct_st S b
    have b1 := fun S => ct_sp S b
    have n1 := in_kl hn .f
    have n2 := eq_kl hn .r .r
    have n3 := eq_kl hn .x .x
    have hcl : clA ns k j = clashB a b := by unfold clA; simp only [hk, hb]
    rw [List.any_cons, hcl]
    obtain ⟨S', ρ', ih, ex, hρ⟩ := lr_in cl l q k row ns a x3 x5 x10 hk js (S ++ [.lst [.str c.s, .str d.s]]) (some (.int (j : Int))) (some (.ref S.length)) (fun x hx => hj x (List.mem_cons_of_mem _ hx)) (e1.get hq)
    rw [List.map_cons, forLoop_cons _ _ _ _ (chkG_nil S), stp_e]
    by_cases hp : a.p = b.p
    · have k1 : decide ((a.p : Int) = (b.p : Int)) = true := decide_eq_true (by omega)
      have hB : clashB a b = ((!(decide (c = .f) || decide (d = .f))) && (!(decide (c = .r) && decide (d = .r))) && (!(decide (c = .x) && decide (d = .x)))) := by
        unfold clashB
        rw [decide_eq_true hp, Bool.true_and]
        rcases hcd with ⟨rfl, rfl⟩ | ⟨rfl, rfl⟩
        · generalize a.k = ka
          generalize b.k = kb
          cases ka <;> cases kb <;> rfl
        · generalize a.k = ka
          generalize b.k = kb
          cases ka <;> cases kb <;> rfl
      rw [hB]
      unfold lp_law_race1 at *
      simp only [lits] at ih
      cases hx1 : (decide (c = Kd.f) || decide (d = Kd.f)) with
      | true =>
        rw [hx1] at n1
        refine ⟨S', ρ', ?_, e1.trans ex, hρ⟩
        simp only [Bool.not_true, Bool.false_and, Bool.false_or]
        simp (disch := first | (refine @id _ ?_; with_unfolding_all rfl) | assumption | omega) only [evl, lits, kds, kdec, reduceCtorEq, List.isEmpty_nil, List.isEmpty_cons, gls, i1, i2, a0, b0, hs, i3, i4, a1, b1, k1, n1, ih]
      | false =>
        rw [hx1] at n1
        cases hx2 : (decide (c = Kd.r) && decide (d = Kd.r)) with
        | true =>
          rw [hx2] at n2
          refine ⟨S', ρ', ?_, e1.trans ex, hρ⟩
          simp only [Bool.not_true, Bool.not_false, Bool.true_and, Bool.false_and, Bool.false_or]
          simp (disch := first | (refine @id _ ?_; with_unfolding_all rfl) | assumption | omega) only [evl, lits, kds, kdec, reduceCtorEq, List.isEmpty_nil, List.isEmpty_cons, gls, i1, i2, a0, b0, hs, i3, i4, a1, b1, k1, n1, n2, ih]
        | false =>
          rw [hx2] at n2
          cases hx3 : (decide (c = Kd.x) && decide (d = Kd.x)) with
          | true =>
            rw [hx3] at n3
            refine ⟨S', ρ', ?_, e1.trans ex, hρ⟩
            simp only [Bool.not_true, Bool.not_false, Bool.true_and, Bool.false_or]
            simp (disch := first | (refine @id _ ?_; with_unfolding_all rfl) | assumption | omega) only [evl, lits, kds, kdec, reduceCtorEq, List.isEmpty_nil, List.isEmpty_cons, gls, i1, i2, a0, b0, hs, i3, i4, a1, b1, k1, n1, n2, n3, ih]
          | false =>
            rw [hx3] at n3
            refine ⟨S ++ [.lst [.str c.s, .str d.s]], envQ ps l x3 (some (dI row)) x5 (some (.ref q)) (some (.int (k : Int))) (some (.int (j : Int))) (some (.ref S.length)) x10, ?_, e1, _, _, rfl⟩
            simp only [Bool.not_true, Bool.not_false, Bool.true_and, Bool.true_or, if_true]
            simp (disch := first | (refine @id _ ?_; with_unfolding_all rfl) | assumption | omega) only [evl, lits, kds, kdec, reduceCtorEq, List.isEmpty_nil, List.isEmpty_cons, gls, i1, i2, a0, b0, hs, i3, i4, a1, b1, k1, n1, n2, n3]
    · have k1 : decide ((a.p : Int) = (b.p : Int)) = false := decide_eq_false (by omega)
      have hB : clashB a b = false := by unfold clashB; rw [decide_eq_false hp]; rfl
      rw [hB, Bool.false_or]
      unfold lp_law_race1 at *
      simp only [lits] at ih
      refine ⟨S', ρ', ?_, e1.trans ex, hρ⟩
      simp (disch := first | (refine @id _ ?_; with_unfolding_all rfl) | assumption | omega) only [evl, lits, kds, kdec, reduceCtorEq, List.isEmpty_nil, List.isEmpty_cons, gls, i1, i2, a0, b0, hs, i3, i4, a1, b1, k1, ih]
end
end K53

set_option Elab.async false
set_option linter.all false
set_option maxRecDepth 100000
/-! N18: _law_race, the loops -/
namespace K53
open PySem PySem.Spec PyProof.Rows L2 Z
def itR (r : Rw) : D := .tup [dI r.1, dI r.2]
def sR (rows : List Rw) : List (D × D) := rows.map fun r => (dI r.2, .bl true)
structure FQ (a : Nat) (rows aft : List Rw) (S : Sto) : Prop where
  z : S[0]? = some (.dd (sR rows))
  f : S[a]? = some (.lst (aft.map itR))
  n : a ≠ 0
theorem FQ.ext {a : Nat} {rows aft : List Rw} {S S' : Sto} (h : FQ a rows aft S) (e : Ext S S') : FQ a rows aft S' := ⟨e.get h.z, e.get h.f, h.n⟩
theorem rng_n {k : Nat} (h : k ≤ 1000) : rngW [.d (.int (k : Int))] = some ((List.range k).map fun (x : Nat) => D.int (x : Int)) := by
  rw [rng_k h]
  unfold rngL
  congr 1
  refine List.map_congr_left fun x _ => ?_
  congr 1
  omega
theorem zip_range {ps : List Pg} {pl : List Nat} (h : pl.length = ps.length) : ps.zip pl = (List.range ps.length).map fun h => (ps.getD h [], pl.getD h 0) := by
  apply List.ext_getElem?
  intro i
  rw [List.getElem?_map]
  by_cases hi : i < ps.length
  · rw [List.getElem?_range hi]
    have : (ps.zip pl)[i]? = some (ps.getD i [], pl.getD i 0) := by
      rw [List.getElem?_zip_eq_some]
      exact ⟨getD_some [] hi, getD_some 0 (by omega)⟩
    rw [this]; rfl
  · rw [List.getElem?_eq_none (by rw [List.length_zip]; omega), List.getElem?_eq_none (by rw [List.length_range]; omega)]; rfl
theorem nexts_range {ps : List Pg} {pl : List Nat} (h : pl.length = ps.length) : (List.range ps.length).filterMap (fun h => ((ps.getD h [])[pl.getD h 0]?).map St.d) = (nexts ps pl).map St.d := by
  rw [← nexts_map, zip_range h, List.filterMap_map]
  rfl
theorem nexts_len {ps : List Pg} (pl : List Nat) : (nexts ps pl).length ≤ ps.length := by
  unfold nexts
  refine Nat.le_trans (List.length_filterMap_le _ _) ?_
  rw [List.length_zip]
  omega
section
variable (F n : Nat) {ps : List Pg}
theorem lr_k (cl : Calls) (l q : Nat) (row : List Nat) (ns : List St) (hns : ns.length ≤ 1000) (x3 x5 x10 : Option D) : ∀ (ks : List Nat) (S : Sto) (x7 x8 x9 : Option D), (∀ j ∈ ks, j < ns.length) → S[q]? = some (.lst (ns.map St.d)) →
    ∃ S' ρ', forLoop [] (stp tab cl F (.nm 7 (Str.ofString "k")) lp_law_race2) (ks.map fun (x : Nat) => .int (x : Int)) (envQ ps l x3 (some (dI row)) x5 (some (.ref q)) x7 x8 x9 x10) S =
      some (if ks.any (ahead ns) = true then .rt (.d (dI row)) else .nx, ρ', S') ∧ Ext S S' ∧ ∃ x7 x8 x9, ρ' = envQ ps l x3 (some (dI row)) x5 (some (.ref q)) x7 x8 x9 x10
  | [], S, x7, x8, x9, _, _ => ⟨S, _, by rw [List.map_nil, forLoop_nil _ _ (chkG_nil S)]; rfl, Ext.refl S, x7, x8, x9, rfl⟩
  | k :: ks, S, x7, x8, x9, hj, hq => by
    have hk := hj k List.mem_cons_self
    obtain ⟨a, ha⟩ : ∃ a, ns[k]? = some a := ⟨ns[k], by simp [hk]⟩
    obtain ⟨S1, ρ1, h1, e1, x8', x9', rfl⟩ := lr_in F (ps := ps) cl l q k row ns a x3 x5 x10 ha (List.range k) S x8 x9 (fun j hj' => Nat.lt_trans (List.mem_range.mp hj') hk) hq
    have hah : (List.range k).any (clA ns k) = ahead ns k := rfl
    rw [hah] at h1
    have r1 := rng_n (k := k) (by omega)
    rw [List.any_cons, List.map_cons, forLoop_cons _ _ _ _ (chkG_nil S), stp_e]
    cases hc : ahead ns k with
    | true =>
      rw [hc, if_pos rfl] at h1
      rw [Bool.true_or, if_pos rfl]
      refine ⟨S1, envQ ps l x3 (some (dI row)) x5 (some (.ref q)) (some (.int (k : Int))) x8' x9' x10, ?_, e1, _, _, _, rfl⟩
      unfold lp_law_race2
      simp (disch := first | (refine @id _ ?_; with_unfolding_all rfl) | assumption | omega) only [evl, r1, h1]
    | false =>
      rw [hc, if_neg Bool.false_ne_true] at h1
      rw [Bool.false_or]
      obtain ⟨S', ρ', ih, e2, hρ⟩ := lr_k cl l q row ns hns x3 x5 x10 ks S1 (some (.int (k : Int))) x8' x9' (fun x hx => hj x (List.mem_cons_of_mem _ hx)) (e1.get hq)
      refine ⟨S', ρ', ?_, e1.trans e2, hρ⟩
      unfold lp_law_race2 at *
      simp (disch := first | (refine @id _ ?_; with_unfolding_all rfl) | assumption | omega) only [evl, r1, h1, ih]
theorem sR_any (rows : List Rw) (k : List Nat) : (getDD (sR rows) (dI k)).isSome = rows.any fun r => decide (r.2 = k) := by
  unfold sR
  rw [get_any (fun r : Rw => dI r.2) (fun _ => .bl true)]
  congr 1
  funext r
  exact eqD_inj dI_inj _ _
theorem lr_hands (ok : Ok ps) {d : Nat} {it : Rw} (G : RG ps d it) (cl : Calls) (l a : Nat) (x6 x8 x9 : Option D) : ∀ (hs : List Nat) (rows aft : List Rw) (S : Sto) (x7 x10 : Option D), (∀ h ∈ hs, h < ps.length) → AF ps d rows aft → FQ a rows aft S →
    ∃ S' x7' x10', forLoop [] (stp tab cl F (.nm 7 (Str.ofString "k")) lp_law_race3) (hs.map fun (x : Nat) => .int (x : Int)) (envQ ps l (some (.ref a)) (some (dI it.1)) (some (dI it.2)) x6 x7 x8 x9 x10) S = some (.nx, envQ ps l (some (.ref a)) (some (dI it.1)) (some (dI it.2)) x6 x7' x8 x9 x10', S') ∧
      FQ a (exH ps it hs rows aft).1 (exH ps it hs rows aft).2 S' ∧ ∀ i, i ≠ 0 → i ≠ a → S'[i]? = S[i]?
  | [], rows, aft, S, x7, x10, _, _, fs => ⟨S, x7, x10, by rw [List.map_nil, forLoop_nil _ _ (chkG_nil _)], fs, fun _ _ _ => rfl⟩
  | h :: hs, rows, aft, S, x7, x10, hh, A, fs => by
    have h1 : h < ps.length := hh h List.mem_cons_self
    have hb := ok.b
    have lp := G.len
    obtain ⟨p, hp⟩ : ∃ p, ps[h]? = some p := ⟨ps[h], by simp [h1]⟩
    have x1' := fun S => ix_PP S hp
    have x3 := fun S => ix_I S (getD_some 0 (show h < it.2.length by omega))
    have hrow := G.tot
    have ht := tot_le ok
    unfold tot at hrow
    have hcan : can ps it.2 h = decide (it.2.getD h 0 < p.length) := by unfold can; rw [hp]
    have hsz := A.k.size ok
    have hal := A.l
    have ea : ((it.2.getD h 0 : Nat) : Int) + 1 = ((it.2.getD h 0 + 1 : Nat) : Int) := by omega
    have eb : ((h : Nat) : Int) + 1 = ((h + 1 : Nat) : Int) := by omega
    have c1 := fun S => snoc_I S (it.2.take h) (it.2.getD h 0 + 1) (by rw [List.length_take]; omega)
    have c2 := fun S => cutf_I S (xs := it.2) (h := h + 1) (by omega)
    have c3 := fun S => cat_II S (it.2.take h ++ [it.2.getD h 0 + 1]) (it.2.drop (h + 1)) (by simp only [List.length_append, List.length_take, List.length_drop, List.length_cons, List.length_nil]; unfold LN; omega)
    have s1 : it.2.take h ++ [it.2.getD h 0 + 1] ++ it.2.drop (h + 1) = on1 it.2 h := set_l (xs := it.2) (h := h) (one := it.2.getD h 0 + 1) (by omega)
    have i1 := in_dd fs.z (kT_dI (on1 it.2 h))
    rw [sR_any] at i1
    rw [List.map_cons, forLoop_cons _ _ _ _ (chkG_nil _), stp_e]
    by_cases hlt : it.2.getD h 0 < p.length
    · have k1 : decide (((it.2.getD h 0 : Nat) : Int) < (p.length : Int)) = true := decide_eq_true (by omega)
      rw [decide_eq_true hlt] at hcan
      cases hany : rows.any fun r => decide (r.2 = on1 it.2 h) with
      | true =>
        rw [hany] at i1
        have hnew : isNew ps it h rows = false := by unfold isNew; rw [hcan, hany]; rfl
        unfold exH
        rw [hnew, if_neg Bool.false_ne_true]
        obtain ⟨S', x7', x10', ih, ih2⟩ := lr_hands ok G cl l a x6 x8 x9 hs rows aft S (some (.int (h : Int))) (some (dI (on1 it.2 h))) (fun x hx => hh x (List.mem_cons_of_mem _ hx)) A fs
        refine ⟨S', x7', x10', ?_, ih2⟩
        unfold lp_law_race3 at *
        simp (disch := first | (refine @id _ ?_; with_unfolding_all rfl) | assumption | omega) only [evl, lits, kds, kdec, reduceCtorEq, List.isEmpty_nil, List.isEmpty_cons, gls, cut_I, x3, ea, c1, eb, c2, c3, s1, x1', le_p, k1, i1, ih]
      | false =>
        rw [hany] at i1
        have hnew : isNew ps it h rows = true := by unfold isNew; rw [hcan, hany]; rfl
        conv => enter [1, S', 1, x7', 1, x10', 2]; unfold exH
        rw [hnew, if_pos rfl]
        have A' : AF ps d (rows ++ [(it.1 ++ [h], on1 it.2 h)]) (aft ++ [(it.1 ++ [h], on1 it.2 h)]) := by
          refine ⟨A.k.add G hnew, fun r hr => ?_, fun r hr => ?_, by rw [List.length_append, List.length_append]; simp; omega⟩
          · rcases List.mem_append.mp hr with z | z
            · exact A.g r z
            · have : r = (it.1 ++ [h], on1 it.2 h) := by simpa using z
              rw [this]; exact G.go hcan
          · rcases List.mem_append.mp hr with z | z
            · exact List.mem_append_left _ (A.m r z)
            · exact List.mem_append_right _ z
        have sn := fun S => snoc_I S it.1 h (by rw [G.row]; omega)
        have op := op_d2 (s := sR rows) (v := .bl true) (kT_dI (on1 it.2 h)) (by unfold sR; rw [List.length_map]; unfold LN; omega)
        have pu1 : putDD (sR rows) (dI (on1 it.2 h)) (.bl true) = sR (rows ++ [(it.1 ++ [h], on1 it.2 h)]) := by
          unfold sR
          rw [put_any (fun r : Rw => dI r.2) (fun _ => .bl true) _ _ _ (by
            rw [← hany]
            congr 1
            funext r
            exact eqD_inj dI_inj _ _), List.map_append]
          rfl
        rw [pu1] at op
        have z1 : ∀ o, (S.set 0 o)[a]? = some (.lst (aft.map itR)) := fun o => by rw [st_get (Ne.symm fs.n)]; exact fs.f
        have z2 : ∀ o, lstO (S.set 0 o)[a]? = some (aft.map itR) := fun o => by rw [z1]; rfl
        have z5 : D.tup [dI (it.1 ++ [h]), dI (on1 it.2 h)] = itR (it.1 ++ [h], on1 it.2 h) := rfl
        have z3 := fun o => kApp4_e (n := a) (S := S.set 0 o) (d := itR (it.1 ++ [h], on1 it.2 h)) (xs := aft.map itR) (by rw [List.length_map]; unfold LN; omega)
        have z4 : ((aft.map itR) ++ [itR (it.1 ++ [h], on1 it.2 h)]) = (aft ++ [(it.1 ++ [h], on1 it.2 h)]).map itR := by rw [List.map_append]; rfl
        have hz := fs.z
        obtain ⟨S', x7', x10', ih, ih2, ih3⟩ := lr_hands ok G cl l a x6 x8 x9 hs (rows ++ [(it.1 ++ [h], on1 it.2 h)]) (aft ++ [(it.1 ++ [h], on1 it.2 h)]) ((S.set 0 (.dd (sR (rows ++ [(it.1 ++ [h], on1 it.2 h)])))).set a (.lst ((aft ++ [(it.1 ++ [h], on1 it.2 h)]).map itR))) (some (.int (h : Int))) (some (dI (on1 it.2 h))) (fun x hx => hh x (List.mem_cons_of_mem _ hx)) A' ⟨by rw [st_get fs.n]; exact st_self fs.z, st_self (z1 _), fs.n⟩
        refine ⟨S', x7', x10', ?_, ih2, fun i hi hia => by rw [ih3 i hi hia, st_get (Ne.symm hia), st_get (Ne.symm hi)]⟩
        unfold lp_law_race3 at *
        simp (disch := first | (refine @id _ ?_; with_unfolding_all rfl) | assumption | omega) only [evl, lits, kds, kdec, reduceCtorEq, List.isEmpty_nil, List.isEmpty_cons, gls, cut_I, x3, ea, c1, eb, c2, c3, s1, x1', le_p, k1, i1, sn, hz, op, z2, z5, z3, z4, ih]
    · have k1 : decide (((it.2.getD h 0 : Nat) : Int) < (p.length : Int)) = false := decide_eq_false (by omega)
      rw [decide_eq_false hlt] at hcan
      have hnew : isNew ps it h rows = false := by unfold isNew; rw [hcan]; rfl
      unfold exH
      rw [hnew, if_neg Bool.false_ne_true]
      obtain ⟨S', x7', x10', ih, ih2⟩ := lr_hands ok G cl l a x6 x8 x9 hs rows aft S (some (.int (h : Int))) (some (dI (on1 it.2 h))) (fun x hx => hh x (List.mem_cons_of_mem _ hx)) A fs
      refine ⟨S', x7', x10', ?_, ih2⟩
      unfold lp_law_race3 at *
      simp (disch := first | (refine @id _ ?_; with_unfolding_all rfl) | assumption | omega) only [evl, lits, kds, kdec, reduceCtorEq, List.isEmpty_nil, List.isEmpty_cons, gls, cut_I, x3, ea, c1, eb, c2, c3, s1, x1', le_p, k1, ih]
theorem lr_nexts (ok : Ok ps) {d : Nat} {it : Rw} (G : RG ps d it) (cl : Calls) (l : Nat) (S : Sto) (x3 x4 x6 x7 x8 x9 x10 : Option D) :
    lcLoop [] (lcStep tab cl [((Str.ofString "k"), 7)] ce_law_race1 (.nm 7 (Str.ofString "k")) ct_law_race1 (envQ ps l x3 x4 (some (dI it.2)) x6 x7 x8 x9 x10)) ((List.range ps.length).map fun (x : Nat) => .int (x : Int)) [] S = some ((nexts ps it.2).map St.d, S) := by
  have hb := ok.b
  have lp := G.len
  rw [lc_map (fun (x : Nat) => D.int (x : Int)) (fun h => ((ps.getD h [])[it.2.getD h 0]?).map St.d) (chkG_nil _) (List.range ps.length) [] (fun h hh => ?_) (by rw [List.length_range]; simp; unfold LN; omega), nexts_range lp]
  · rfl
  · have h1 : h < ps.length := by simpa using hh
    rw [lcStep_e]
    have hw : wipeD (envQ ps l x3 x4 (some (dI it.2)) x6 x7 x8 x9 x10) (List.map (·.2) [((Str.ofString "k"), 7)]) = envQ ps l x3 x4 (some (dI it.2)) x6 none x8 x9 x10 := rfl
    rw [hw]
    have hp : ps[h]? = some (ps.getD h []) := getD_some [] h1
    have x1' := fun S => ix_PP S hp
    have x3' := fun S => ix_I S (getD_some 0 (show h < it.2.length by omega))
    unfold ce_law_race1 ct_law_race1
    by_cases e : it.2.getD h 0 < (ps.getD h []).length
    · have e1 : decide (((it.2.getD h 0 : Nat) : Int) < ((ps.getD h []).length : Int)) = true := decide_eq_true (by omega)
      have e2 := fun S => ix_P S (List.getElem?_eq_getElem e)
      rw [List.getElem?_eq_getElem e]
      simp (disch := first | (refine @id _ ?_; with_unfolding_all rfl) | assumption | omega) only [evl, lits, kds, kdec, reduceCtorEq, List.isEmpty_nil, List.isEmpty_cons, gls, x3', x1', le_p, e1, e2]
      rfl
    · have e1 : decide (((it.2.getD h 0 : Nat) : Int) < ((ps.getD h []).length : Int)) = false := decide_eq_false (by omega)
      rw [List.getElem?_eq_none (by omega)]
      simp (disch := first | (refine @id _ ?_; with_unfolding_all rfl) | assumption | omega) only [evl, lits, kds, kdec, reduceCtorEq, List.isEmpty_nil, List.isEmpty_cons, gls, x3', x1', le_p, e1]
      rfl
end
end K53

set_option Elab.async false
set_option linter.all false
set_option maxRecDepth 100000
/-! N19: _law_race, all -/
namespace K53
open PySem PySem.Spec PyProof.Rows L2 Z
theorem len_l {S : Sto} {q : Nat} {xs : List D} (h : S[q]? = some (.lst xs)) : biW S .len [.d (.ref q)] = some (.d (.int (xs.length : Int))) := by
  show (seqOf S (.d (.ref q))).map _ = _
  rw [seq_l h]; rfl
section
variable (F n : Nat) {ps : List Pg}
theorem lq_level (ok : Ok ps) {d : Nat} (cl : Calls) (l a : Nat) (L : List D) (hl0 : l ≠ 0) (hla : l ≠ a) : ∀ (lv rows aft : List Rw) (S : Sto) (x4 x5 x6 x7 x8 x9 x10 : Option D), (∀ it ∈ lv, RG ps d it) → AF ps d rows aft → FQ a rows aft S → S[l]? = some (.lst L) →
    ∃ S' ρ', forLoop [(l, L)] (stp tab cl F (.tup (.cons (.nm 4 (Str.ofString "row")) (.cons (.nm 5 (Str.ofString "places")) .nil))) lp_law_race4) (lv.map itR) (envQ ps l (some (.ref a)) x4 x5 x6 x7 x8 x9 x10) S = some (fl2 (lvl ps lv rows aft).1, ρ', S') ∧
      ((lvl ps lv rows aft).1 = none → (∃ x4 x5 x6 x7 x8 x9 x10, ρ' = envQ ps l (some (.ref a)) x4 x5 x6 x7 x8 x9 x10) ∧ FQ a (lvl ps lv rows aft).2.1 (lvl ps lv rows aft).2.2 S')
  | [], rows, aft, S, x4, x5, x6, x7, x8, x9, x10, _, A, fs, hL => ⟨S, _, by rw [List.map_nil, forLoop_nil _ _ (chk_self hL)]; rfl, fun _ => ⟨⟨x4, x5, x6, x7, x8, x9, x10, rfl⟩, fs⟩⟩
  | it :: lv, rows, aft, S, x4, x5, x6, x7, x8, x9, x10, hg, A, fs, hL => by
    have G := hg it List.mem_cons_self
    have hb := ok.b
    have hlen := nexts_len (ps := ps) it.2
    have e1 : Ext S (S ++ [.lst ((nexts ps it.2).map St.d)]) := ⟨_, rfl⟩
    have hq : (S ++ [O.lst ((nexts ps it.2).map St.d)])[S.length]? = some (.lst ((nexts ps it.2).map St.d)) := by rw [List.getElem?_append_right (Nat.le_refl _), Nat.sub_self]; rfl
    have hn := lr_nexts ok G cl l S (some (.ref a)) (some (dI it.1)) x6 x7 x8 x9 x10
    have r1 := rng_PS [] ok
    have r2 := rng_n (k := (nexts ps it.2).length) (by omega)
    have l1 := len_l hq
    rw [List.length_map] at l1
    obtain ⟨S1, ρ1, h1, e2, x7', x8', x9', rfl⟩ := lr_k F (ps := ps) cl l S.length it.1 (nexts ps it.2) (by omega) (some (.ref a)) (some (dI it.2)) x10 (List.range (nexts ps it.2).length) (S ++ [.lst ((nexts ps it.2).map St.d)]) x7 x8 x9 (fun j hj => List.mem_range.mp hj) hq
    rw [clash_range] at h1
    have b1 : bindP (.tup (.cons (.nm 4 (Str.ofString "row")) (.cons (.nm 5 (Str.ofString "places")) .nil))) (itR it) (envQ ps l (some (.ref a)) x4 x5 x6 x7 x8 x9 x10) = some (envQ ps l (some (.ref a)) (some (dI it.1)) (some (dI it.2)) x6 x7 x8 x9 x10) := rfl
    rw [List.map_cons, forLoop_cons _ _ _ _ (chk_self hL), stp_e, b1, bnd_some, kStp_e]
    cases hc : clashL (nexts ps it.2) with
    | true =>
      rw [hc, if_pos rfl] at h1
      have hlv : lvl ps (it :: lv) rows aft = (some it.1, rows, aft) := by unfold lvl; rw [hc, if_pos rfl]
      rw [hlv]
      refine ⟨S1, envQ ps l (some (.ref a)) (some (dI it.1)) (some (dI it.2)) (some (.ref S.length)) x7' x8' x9' x10, ?_, fun z => by cases z⟩
      have hbody : evS tab cl F lp_law_race4 (envQ ps l (some (.ref a)) (some (dI it.1)) (some (dI it.2)) x6 x7 x8 x9 x10) S = some (.rt (.d (dI it.1)), envQ ps l (some (.ref a)) (some (dI it.1)) (some (dI it.2)) (some (.ref S.length)) x7' x8' x9' x10, S1) := by
        unfold lp_law_race4
        simp (disch := first | (refine @id _ ?_; with_unfolding_all rfl) | assumption | omega) only [evl, lits, kds, kdec, reduceCtorEq, List.isEmpty_nil, List.isEmpty_cons, gls, le_pp, r1, hn, l1, r2, h1]
      rw [hbody]
      rfl
    | false =>
      rw [hc, if_neg Bool.false_ne_true] at h1
      have hlv : lvl ps (it :: lv) rows aft = lvl ps lv (exH ps it (List.range ps.length) rows aft).1 (exH ps it (List.range ps.length) rows aft).2 := by
        conv => lhs; unfold lvl
        rw [hc, if_neg Bool.false_ne_true]
      rw [hlv]
      have e12 := e1.trans e2
      obtain ⟨S2, x7'', x10', h2, f2, fr⟩ := lr_hands F ok G cl l a (some (.ref S.length)) x8' x9' (List.range ps.length) rows aft S1 x7' x10 (fun h hh => by simpa using hh) A (fs.ext e12)
      obtain ⟨A1, _⟩ := A.ex G (List.range ps.length)
      obtain ⟨S', ρ', ih, ih2⟩ := lq_level ok cl l a L hl0 hla lv _ _ S2 (some (dI it.1)) (some (dI it.2)) (some (.ref S.length)) x7'' x8' x9' x10' (fun r hr => hg r (List.mem_cons_of_mem _ hr)) A1 f2 (by rw [fr l hl0 hla]; exact e12.get hL)
      refine ⟨S', ρ', ?_, ih2⟩
      have hbody : evS tab cl F lp_law_race4 (envQ ps l (some (.ref a)) (some (dI it.1)) (some (dI it.2)) x6 x7 x8 x9 x10) S = some (.nx, envQ ps l (some (.ref a)) (some (dI it.1)) (some (dI it.2)) (some (.ref S.length)) x7'' x8' x9' x10', S2) := by
        unfold lp_law_race4
        simp (disch := first | (refine @id _ ?_; with_unfolding_all rfl) | assumption | omega) only [evl, lits, kds, kdec, reduceCtorEq, List.isEmpty_nil, List.isEmpty_cons, gls, le_pp, r1, hn, l1, r2, h1, h2]
      rw [hbody, bnd_some, kFl_nx]
      exact ih
theorem lq_loop (ok : Ok ps) (cl : Calls) : ∀ (f : Nat) (d l : Nat) (level rows : List Rw) (S : Sto) (x3 x4 x5 x6 x7 x8 x9 x10 : Option D), tot ps + 2 ≤ f + d → (∀ it ∈ level, RG ps d it) → RK1 ps rows → S[0]? = some (.dd (sR rows)) → S[l]? = some (.lst (level.map itR)) → l ≠ 0 →
    (d ≤ tot ps + 1) → ∃ ρ' S', whl tab cl F lt_law_race1 lp_law_race5 f (envQ ps l x3 x4 x5 x6 x7 x8 x9 x10) S = some (fl2 (bfs ps f level rows), ρ', S')
  | 0, d, l, level, rows, S, x3, x4, x5, x6, x7, x8, x9, x10, hf, hg, K, h0, hl, hl0, hd => by omega
  | f + 1, d, l, [], rows, S, x3, x4, x5, x6, x7, x8, x9, x10, hf, hg, K, h0, hl, hl0, hd => by
    refine ⟨envQ ps l x3 x4 x5 x6 x7 x8 x9 x10, S, ?_⟩
    have tr := len_l hl
    have k1 : decide ((0 : Int) < ((([] : List Rw).map itR).length : Int)) = false := rfl
    rw [whl_s]
    unfold lt_law_race1
    simp (disch := first | (refine @id _ ?_; with_unfolding_all rfl) | assumption | omega) only [evl, lits, kds, kdec, reduceCtorEq, List.isEmpty_nil, List.isEmpty_cons, gls, tr, k1]
    rfl
  | f + 1, d, l, it :: lv, rows, S, x3, x4, x5, x6, x7, x8, x9, x10, hf, hg, K, h0, hl, hl0, hd => by
    have hS0 : 0 < S.length := (List.getElem?_eq_some_iff.mp h0).1
    have hSl : l < S.length := (List.getElem?_eq_some_iff.mp hl).1
    have tr := len_l hl
    have k1 : decide ((0 : Int) < (((it :: lv).map itR).length : Int)) = true := decide_eq_true (by rw [List.map_cons, List.length_cons]; omega)
    have dt := (hg it List.mem_cons_self).tot
    have fs0 : FQ S.length rows [] (S ++ [.lst []]) := ⟨by rw [List.getElem?_append_left hS0]; exact h0, by rw [List.getElem?_append_right (Nat.le_refl _), Nat.sub_self]; rfl, by omega⟩
    have hl1 : (S ++ [O.lst []])[l]? = some (.lst ((it :: lv).map itR)) := by rw [List.getElem?_append_left hSl]; exact hl
    have A0 : AF ps d rows [] := ⟨K, fun r hr => (nomatch hr), fun r hr => (nomatch hr), Nat.zero_le _⟩
    obtain ⟨S1, ρ1, h1, h2⟩ := lq_level F ok (d := d) cl l S.length _ hl0 (by omega) (it :: lv) rows [] (S ++ [.lst []]) x4 x5 x6 x7 x8 x9 x10 hg A0 fs0 hl1
    have s1 := seq_l hl1
    have g1 := gd_l hl1
    have hb : bfs ps (f + 1) (it :: lv) rows = (match lvl ps (it :: lv) rows [] with | (some row, _, _) => some row | (none, rows', aft) => bfs ps f aft rows') := rfl
    rw [whl_s]
    have ht : evT tab cl lt_law_race1 (envQ ps l x3 x4 x5 x6 x7 x8 x9 x10) S = some (true, S) := by
      unfold lt_law_race1
      simp (disch := first | (refine @id _ ?_; with_unfolding_all rfl) | assumption | omega) only [evl, lits, kds, kdec, reduceCtorEq, List.isEmpty_nil, List.isEmpty_cons, gls, tr, k1]
    rw [ht, bnd_some, kWh_t, hb]
    have hL := lvl_ok (d := d) (it :: lv) rows [] hg A0
    generalize lvl ps (it :: lv) rows [] = q at *
    obtain ⟨q1, q2, q3⟩ := q
    cases q1 with
    | some row =>
      refine ⟨ρ1, S1, ?_⟩
      unfold fl2 at *
      unfold lp_law_race5
      simp only at h1
      simp (disch := first | (refine @id _ ?_; with_unfolding_all rfl) | assumption | omega) only [evl, lits, kds, kdec, reduceCtorEq, List.isEmpty_nil, List.isEmpty_cons, gls, s1, g1, h1]
    | none =>
      obtain ⟨⟨x4', x5', x6', x7', x8', x9', x10', rfl⟩, f1⟩ := h2 rfl
      have A1 := hL rfl
      simp only at A1 f1 h1
      have hbody : evS tab cl F lp_law_race5 (envQ ps l x3 x4 x5 x6 x7 x8 x9 x10) S = some (.nx, envQ ps S.length (some (.ref S.length)) x4' x5' x6' x7' x8' x9' x10', S1) := by
        unfold lp_law_race5
        unfold fl2 at h1
        simp only at h1
        simp (disch := first | (refine @id _ ?_; with_unfolding_all rfl) | assumption | omega) only [evl, lits, kds, kdec, reduceCtorEq, List.isEmpty_nil, List.isEmpty_cons, gls, s1, g1, h1]
      rw [hbody, bnd_some, kWh2_nx]
      exact lq_loop ok cl f (d + 1) S.length q3 q2 S1 (some (.ref S.length)) x4' x5' x6' x7' x8' x9' x10' (by omega) A1.g A1.k f1.z f1.f (by omega) (by omega)
theorem sp_law_race (hF : 100 ≤ F) (ok : Ok ps) (S : Sto) : callD F tab pg (n + 1) "_law_race" [dPs ps] S = some (.d (oRow (raceR ps F)), S) := by
  have hpo : (oRow (raceR ps F)).pure = true := by
    unfold oRow
    split
    · exact pu_I _
    · rfl
  have ha := ok.a
  have hb := ok.b
  have h18 := tot_le ok
  have m1 := fun S => mul_t S (a := .int 0) (k := (ps.length : Int)) ⟨by omega, by omega⟩
  obtain ⟨ρ', S', hl⟩ := lq_loop F ok (callD F tab pg n) F 0 1 [([], List.replicate ps.length 0)] [] [.dd (sR []), .lst [itR ([], List.replicate ps.length 0)]] none none none none none none none none (by unfold tot; omega) (fun it hi => by
    have : it = ([], List.replicate ps.length 0) := by simpa using hi
    rw [this]; exact RG.start ps) ⟨fun r hr => (nomatch hr), List.nodup_nil⟩ rfl rfl (by decide) (Nat.zero_le _)
  have hfin : fin (evS tab (callD F tab pg n) F s_law_race [some (dPs ps), none, none, none, none, none, none, none, none, none, none] []) = some (.d (oRow (raceR ps F)), S') := by
    unfold s_law_race
    simp (disch := first | (refine @id _ ?_; with_unfolding_all rfl) | assumption | omega) only [evl, lits, kds, kdec, reduceCtorEq, List.isEmpty_nil, List.isEmpty_cons, gls, le_pp, m1, tn_c, rep_0]
    show fin (sq tab (callD F tab pg n) F _ (whl tab (callD F tab pg n) F lt_law_race1 lp_law_race5 F (envQ ps 1 none none none none none none none none) [.dd (sR []), .lst [itR ([], List.replicate ps.length 0)]])) = _
    rw [hl]
    show fin (sq _ _ _ _ (some (fl2 (raceR ps F), ρ', S'))) = _
    cases raceR ps F with
    | none =>
      unfold fl2 oRow
      simp (disch := first | (refine @id _ ?_; with_unfolding_all rfl) | assumption | omega) only [evl]
    | some row =>
      unfold fl2 oRow
      simp (disch := first | (refine @id _ ?_; with_unfolding_all rfl) | assumption | omega) only [evl]
  exact call_px look_law_race rfl (pr1 rfl (pu_PS ps)) hfin (ex_d hpo) S
end
end K53

set_option Elab.async false
set_option linter.all false
set_option maxRecDepth 100000
/-! N20: the first row is a row, and none that leads to the end is less -/
namespace K53
open PySem PySem.Spec PyProof.Rows L2 Z
section
variable {ps : List Pg} {er : List (List Nat)} {mm : List (Nat × Nat)}
theorem run_si : ∀ (row : List Nat) {t t' : Sta}, SI ps t → Run ps row t t' → SI ps t'
  | [], t, t', I, h => by rw [← h.1]; exact I
  | h :: row, t, t', I, hr => by
    obtain ⟨s, e, hr⟩ := hr
    exact run_si row (I.go e) hr
theorem run_mi (ok : Ok ps) : ∀ (row : List Nat) {t t' : Sta}, SI ps t → MI ps t → Run ps row t t' → MI ps t'
  | [], t, t', I, M, h => by rw [← h.1]; exact M
  | h :: row, t, t', I, M, hr => by
    obtain ⟨s, e, hr⟩ := hr
    exact run_mi ok row (I.go e) (M.go ok I e) hr
theorem run_pl : ∀ (row : List Nat) {t t' : Sta}, Run ps row t t' → t'.pl = ps.map List.length
  | [], t, t', h => by rw [← h.1]; exact h.2
  | h :: row, t, t', hr => by
    obtain ⟨s, e, hr⟩ := hr
    exact run_pl row hr
/-- as many reads as steps that read -/
def RL (ps : List Pg) (t : Sta) : Prop := ∀ (h : Nat) (q : Pg), ps[h]? = some q → (t.r.getD h []).length = cntR (q.take (t.pl.getD h 0))
theorem RL.go {h : Nat} {t : Sta} {s : St} (I : SI ps t) (R : RL ps t) (e : nxt ps h t = some s) : RL ps (goS s h t) := by
  obtain ⟨p, h1, h2⟩ := nxt_some e
  have hh : h < ps.length := (List.getElem?_eq_some_iff.mp h1).1
  have lp := I.lp
  have lr := I.lr
  intro i q hq
  show ((t.r.set h _).getD i []).length = cntR (q.take ((t.pl.set h _).getD i 0))
  rw [getD_set t.r _ _ _ _ (by omega), getD_set t.pl _ _ _ _ (by omega)]
  by_cases z : i = h
  · subst z
    rw [h1] at hq
    cases hq
    rw [if_pos rfl, if_pos rfl, take_snoc h2, cntR_snoc, ← R i p h1]
    unfold stepR rdn
    cases s.k <;> simp
  · rw [if_neg z, if_neg z]; exact R i q hq
theorem run_rl : ∀ (row : List Nat) {t t' : Sta}, SI ps t → RL ps t → Run ps row t t' → RL ps t'
  | [], t, t', I, M, h => by rw [← h.1]; exact M
  | h :: row, t, t', I, M, hr => by
    obtain ⟨s, e, hr⟩ := hr
    exact run_rl row (I.go e) (M.go I e) hr
/-- what has been read stays ahead -/
theorem run_pre : ∀ (row : List Nat) {t t' : Sta}, SI ps t → Run ps row t t' → ∀ i : Nat, t.r.getD i [] = (t'.r.getD i []).take (t.r.getD i []).length
  | [], t, t', I, h, i => by rw [← h.1]; simp
  | h :: row, t, t', I, hr, i => by
    obtain ⟨s, e, hr⟩ := hr
    obtain ⟨p, h1, h2⟩ := nxt_some e
    have hh : h < ps.length := (List.getElem?_eq_some_iff.mp h1).1
    have lr := I.lr
    have ih := run_pre row (I.go e) hr i
    have e1 : (goS s h t).r.getD i [] = if i = h then stepR s t.m (t.r.getD h []) else t.r.getD i [] := getD_set t.r _ _ _ _ (by omega)
    rw [e1] at ih
    by_cases z : i = h
    · subst z
      rw [if_pos rfl] at ih
      have : t.r.getD i [] = (stepR s t.m (t.r.getD i [])).take (t.r.getD i []).length := by
        unfold stepR
        split <;> simp
      rw [ih, List.take_take] at this
      conv => lhs; rw [this]
      congr 1
      have h3 : (t.r.getD i []).length ≤ (stepR s t.m (t.r.getD i [])).length := by unfold stepR; split <;> simp
      omega
    · rw [if_neg z] at ih; exact ih
theorem run_len : ∀ (row : List Nat) {t t' : Sta}, SI ps t → Run ps row t t' → row.length + t.pl.sum = tot ps
  | [], t, t', I, h => by
    rw [h.2]
    show 0 + _ = tot ps
    unfold tot
    omega
  | h :: row, t, t', I, hr => by
    obtain ⟨s, e, hr⟩ := hr
    obtain ⟨p, h1, h2⟩ := nxt_some e
    have hh : h < ps.length := (List.getElem?_eq_some_iff.mp h1).1
    have lp := I.lp
    have ih := run_len row (I.go e) hr
    have : (goS s h t).pl.sum = t.pl.sum + 1 := sum_set _ _ (by omega)
    rw [List.length_cons]
    omega
theorem goal_iff {it : It} : goal er mm it = true ↔ it.t.r = er ∧ it.t.m = mm := by
  unfold goal; simp
theorem best_sound (ok : Ok ps) : ∀ (n : Nat) (it : It), Good ps er it → it.row.length + n = tot ps → ∀ r, best ps er mm n it = some r → ∃ told t', r = it.row ++ told ∧ Run ps told it.t t' ∧ t'.r = er ∧ t'.m = mm
  | 0, it, G, hl, r, h => by
    unfold best at h
    split at h
    · next hg =>
      cases h
      obtain ⟨h1, h2⟩ := goal_iff.mp hg
      exact ⟨[], it.t, by simp, ⟨rfl, leaf_pl G (by omega)⟩, h1, h2⟩
    · cases h
  | n + 1, it, G, hl, r, h => by
    unfold best at h
    obtain ⟨k, hk, hb⟩ := List.exists_of_findSome?_eq_some h
    obtain ⟨a, ha⟩ := kids_mem hk
    have Gk := G.kid ok ha
    have hkr := kids_row hk
    obtain ⟨told, t', h1, h2, h3, h4⟩ := best_sound ok n k Gk (by omega) r hb
    obtain ⟨s, e1, e2, rfl⟩ := kid_some ha
    exact ⟨a :: told, t', by rw [h1]; simp, ⟨s, e1, h2⟩, h3, h4⟩
theorem find_first {α β γ : Type} (f : Nat → Option α) (g : α → Option β) : ∀ (hs : List Nat), hs.Pairwise (· < ·) → ∀ h ∈ hs, ∀ k, f h = some k → (g k).isSome = true → ∃ h' k', h' ≤ h ∧ f h' = some k' ∧ (hs.filterMap f).findSome? g = g k' ∧ (g k').isSome = true
  | a :: hs, hp, h, hm, k, hf, hg => by
    have hp' := List.pairwise_cons.mp hp
    have hle : a ≤ h := by
      rcases List.mem_cons.mp hm with z | z
      · omega
      · have := hp'.1 h z; omega
    rw [List.filterMap_cons]
    cases ha : f a with
    | none =>
      have hm' : h ∈ hs := by
        rcases List.mem_cons.mp hm with z | z
        · subst z; rw [hf] at ha; cases ha
        · exact z
      obtain ⟨h', k', h1, h2, h3, h4⟩ := find_first (γ := γ) f g hs hp'.2 h hm' k hf hg
      exact ⟨h', k', h1, h2, h3, h4⟩
    | some ka =>
      rw [List.findSome?_cons]
      cases hga : g ka with
      | some b => exact ⟨a, ka, hle, ha, hga.symm ▸ rfl, by rw [hga]; rfl⟩
      | none =>
        have hm' : h ∈ hs := by
          rcases List.mem_cons.mp hm with z | z
          · subst z; rw [hf] at ha; cases ha; rw [hga] at hg; cases hg
          · exact z
        obtain ⟨h', k', h1, h2, h3, h4⟩ := find_first (γ := γ) f g hs hp'.2 h hm' k hf hg
        exact ⟨h', k', h1, h2, h3, h4⟩
theorem range_lt (n : Nat) : (List.range n).Pairwise (· < ·) := List.pairwise_lt_range
theorem best_least (ok : Ok ps) {t : Sta} : ∀ (row : List Nat) (it : It), Good ps t.r it → Run ps row it.t t → ∃ told, best ps t.r t.m row.length it = some (it.row ++ told) ∧ ltN row told = false
  | [], it, G, h => by
    refine ⟨[], ?_, by rw [ltN]⟩
    unfold best
    have : goal t.r t.m it = true := goal_iff.mpr ⟨by rw [h.1], by rw [h.1]⟩
    rw [List.length_nil]
    show (if goal t.r t.m it = true then some it.row else none) = _
    rw [if_pos this, List.append_nil]
  | h :: row, it, G, hr => by
    have hlen := run_len (h :: row) G.si hr
    obtain ⟨s, e, hr'⟩ := hr
    obtain ⟨p, h1, h2⟩ := nxt_some e
    have hh : h < ps.length := (List.getElem?_eq_some_iff.mp h1).1
    have I' := G.si.go e
    have It := run_si row I' hr'
    have hsf : soFar (goS s h it.t).r t.r = true := by
      unfold soFar
      rw [decide_eq_true (by rw [It.lr, I'.lr]), Bool.true_and]
      refine List.all_eq_true.mpr fun q hq => ?_
      obtain ⟨i, hi⟩ := List.mem_iff_getElem?.mp hq
      rw [List.getElem?_zip_eq_some] at hi
      obtain ⟨g1, g2⟩ := hi
      have := run_pre row I' hr' i
      rw [List.getD_eq_getElem?_getD, g1, List.getD_eq_getElem?_getD, g2] at this
      exact decide_eq_true this
    have hk : kid ps t.r it h = some ⟨it.row ++ [h], goS s h it.t⟩ := by unfold kid; rw [e]; simp [hsf]
    have Gk := G.kid ok hk
    obtain ⟨told, b1, b2⟩ := best_least ok row ⟨it.row ++ [h], goS s h it.t⟩ Gk hr'
    have hbs : (best ps t.r t.m row.length ⟨it.row ++ [h], goS s h it.t⟩).isSome = true := by rw [b1]; rfl
    obtain ⟨h', k', f1, f2, f3, f4⟩ := find_first (γ := Unit) (kid ps t.r it) (best ps t.r t.m row.length) (List.range ps.length) (range_lt _) h (List.mem_range.mpr hh) _ hk hbs
    have hb : best ps t.r t.m (h :: row).length it = best ps t.r t.m row.length k' := by
      rw [← f3]
      rw [List.length_cons]
      unfold best kids
      rfl
    rw [hb]
    by_cases z : h' = h
    · subst z
      rw [hk] at f2
      cases f2
      refine ⟨h' :: told, by rw [b1]; simp, ?_⟩
      rw [ltN, if_pos rfl]; exact b2
    · cases hbk : best ps t.r t.m row.length k' with
      | none => rw [hbk] at f4; cases f4
      | some r =>
        have Gk' := G.kid ok f2
        obtain ⟨s', e1', e2', rfl⟩ := kid_some f2
        rw [List.length_cons] at hlen
        obtain ⟨told', t', q1, q2, q3, q4⟩ := best_sound ok row.length _ Gk' (by
          show (it.row ++ [h']).length + row.length = tot ps
          rw [List.length_append, G.len]
          simp
          omega) r hbk
        refine ⟨h' :: told', by rw [q1]; simp, ?_⟩
        rw [ltN, if_neg (fun w => z w.symm)]
        exact decide_eq_false (by omega)
theorem tot_start (ps : List Pg) : (⟨[], st0 ps.length⟩ : It).row.length + tot ps = tot ps := by simp
theorem least_sound (ok : Ok ps) {r : List Nat} (h : least ps er mm = some r) : ∃ t', Run ps r (st0 ps.length) t' ∧ t'.r = er ∧ t'.m = mm := by
  have h' : best ps er mm (tot ps) ⟨[], st0 ps.length⟩ = some r := h
  obtain ⟨told, t', h1, h2, h3, h4⟩ := best_sound ok (tot ps) _ (Good.start ps er) (tot_start ps) r h'
  have : r = told := by rw [h1]; rfl
  rw [this]
  exact ⟨t', h2, h3, h4⟩
theorem least_le (ok : Ok ps) {row : List Nat} {t : Sta} (h : Run ps row (st0 ps.length) t) : ∃ told, least ps t.r t.m = some told ∧ ltN row told = false := by
  have hl := run_len row (SI.start ps) h
  obtain ⟨told, h1, h2⟩ := best_least ok row ⟨[], st0 ps.length⟩ (Good.start ps t.r) h
  have e : row.length = tot ps := by
    have : (st0 ps.length).pl.sum = 0 := by show (List.replicate _ 0).sum = 0; simp
    omega
  rw [e] at h1
  exact ⟨told, h1, h2⟩
/-! ends that cannot be -/
theorem bent_none (ok : Ok ps) (h : ∀ row t', Run ps row (st0 ps.length) t' → t'.r = er → t'.m = mm → False) : least ps er mm = none := by
  cases hl : least ps er mm with
  | none => rfl
  | some r =>
    obtain ⟨t', h1, h2, h3⟩ := least_sound ok hl
    exact (h r t' h1 h2 h3).elim
theorem bent_len (ok : Ok ps) (h : er.length ≠ ps.length) : least ps er mm = none := bent_none ok fun row t' hr e _ => h (by rw [← e, (run_si row (SI.start ps) hr).lr])
theorem bent_mem (ok : Ok ps) (h : (99, 1) ∈ mm) : least ps er mm = none := bent_none ok fun row t' hr _ e => by
  have M := run_mi ok row (SI.start ps) (MI.start ps) hr
  have := (M.mp (99, 1) (by rw [e]; exact h)).2.2
  simp at this
theorem RL.start (ps : List Pg) : RL ps (st0 ps.length) := fun h q hq => (Fit.start ps []).len h q hq
theorem bent_more (ok : Ok ps) {row : List Nat} {t : Sta} (h : Run ps row (st0 ps.length) t) : least ps (t.r.map fun o => o ++ [0]) mm = none := bent_none ok fun row' t' hr e _ => by
  have ha := ok.a
  have R := run_rl row (SI.start ps) (RL.start ps) h
  have R' := run_rl row' (SI.start ps) (RL.start ps) hr
  have I := run_si row (SI.start ps) h
  have h0 : ps[0]? = some ps[0] := by simp [show 0 < ps.length by omega]
  have a1 := R 0 _ h0
  have a2 := R' 0 _ h0
  rw [run_pl row h] at a1
  rw [run_pl row' hr, e] at a2
  have lr := I.lr
  have : (t.r.map fun o => o ++ [0]).getD 0 [] = t.r.getD 0 [] ++ [0] := by
    rw [List.getD_eq_getElem?_getD, List.getElem?_map, getD_some [] (show 0 < t.r.length by omega)]
    simp
  rw [this, List.length_append, ← a1] at a2
  simp at a2
/-! rows of the right hands can be walked -/
theorem run_ex : ∀ (row : List Nat) (t : Sta), SI ps t → (∀ h ∈ row, h < ps.length) → (∀ (h : Nat) (q : Pg), ps[h]? = some q → row.count h + t.pl.getD h 0 = q.length) → ∃ t', Run ps row t t'
  | [], t, I, hm, hc => by
    refine ⟨t, rfl, ?_⟩
    have lp := I.lp
    apply List.ext_getElem?
    intro i
    rw [List.getElem?_map]
    by_cases hi : i < ps.length
    · rw [getD_some 0 (show i < t.pl.length by omega)]
      have h0 : ps[i]? = some ps[i] := by simp [hi]
      have := hc i _ h0
      rw [h0, List.count_nil, Nat.zero_add] at *
      rw [this]; rfl
    · rw [List.getElem?_eq_none (by omega), List.getElem?_eq_none (by omega)]; rfl
  | h :: row, t, I, hm, hc => by
    have hh := hm h List.mem_cons_self
    have h0 : ps[h]? = some ps[h] := by simp [hh]
    have lp := I.lp
    have := hc h _ h0
    rw [List.count_cons_self] at this
    have hlt : t.pl.getD h 0 < ps[h].length := by omega
    have e : nxt ps h t = some (ps[h][t.pl.getD h 0]) := by
      unfold nxt
      rw [h0]
      show ps[h][t.pl.getD h 0]? = _
      rw [List.getElem?_eq_getElem hlt]
    obtain ⟨t', ht⟩ := run_ex row (goS (ps[h][t.pl.getD h 0]) h t) (I.go e) (fun x hx => hm x (List.mem_cons_of_mem _ hx)) fun i q hq => by
      have c := hc i q hq
      show row.count i + (t.pl.set h _).getD i 0 = q.length
      rw [getD_set _ _ _ _ _ (by omega)]
      by_cases z : i = h
      · subst z
        rw [if_pos rfl]
        rw [List.count_cons_self] at c
        omega
      · rw [if_neg z]
        rw [List.count_cons_of_ne (fun w => z w.symm)] at c
        exact c
    exact ⟨t', _, e, ht⟩
end
end K53

set_option Elab.async false
set_option linter.all false
set_option maxRecDepth 100000
/-! N21: the tape: _law_begin, _law_take, _law_pick -/
namespace K53
open PySem PySem.Spec PyProof.Rows L2 Z
def tpL (ci : Nat) (a : Nat) (left seed : Int) : List D := [.ref ci, .int (a : Int), .int left, .int seed]
structure TapeIs (ti ci : Nat) (cells : List Int) (a : Nat) (left seed : Int) (S : Sto) : Prop where
  d : S[ti]? = some (.lst (tpL ci a left seed))
  c : S[ci]? = some (.lst (cells.map .int))
  n : ti ≠ ci
def TapeOk (ti : Nat) (S : Sto) : Prop := ∃ cells a left seed, TapeIs ti 0 cells a left seed S
theorem TapeOk.set {ti si : Nat} {S : Sto} (t : TapeOk ti S) (h : si ≠ ti) (h0 : si ≠ 0) (o : O) : TapeOk ti (S.set si o) := by
  obtain ⟨cells, a, left, seed, t⟩ := t
  exact ⟨cells, a, left, seed, by rw [st_get h]; exact t.d, by rw [st_get h0]; exact t.c, t.n⟩
theorem TapeOk.len {ti : Nat} {S : Sto} (t : TapeOk ti S) : ti < S.length := by
  obtain ⟨cells, a, left, seed, t⟩ := t
  exact (List.getElem?_eq_some_iff.mp t.d).1
/-- the tape alone is written -/
def Same (ti : Nat) (S S' : Sto) : Prop := (∀ i, i ≠ ti → S'[i]? = S[i]?) ∧ S'.length = S.length
theorem Same.refl (ti : Nat) (S : Sto) : Same ti S S := ⟨fun _ _ => rfl, rfl⟩
theorem Same.trans {ti : Nat} {S S' S'' : Sto} (a : Same ti S S') (b : Same ti S' S'') : Same ti S S'' := ⟨fun i h => (b.1 i h).trans (a.1 i h), b.2.trans a.2⟩
theorem Same.set {ti : Nat} (S : Sto) (o : O) : Same ti S (S.set ti o) := ⟨fun i h => st_get (Ne.symm h), by rw [List.length_set]⟩
theorem TapeOk.ext {ti : Nat} {S S' : Sto} (t : TapeOk ti S) (e : Ext S S') : TapeOk ti S' := by
  obtain ⟨cells, a, left, seed, t⟩ := t
  exact ⟨cells, a, left, seed, e.get t.d, e.get t.c, t.n⟩
theorem ix_lr {S : Sto} {n : Nat} {xs : List D} {k : Nat} {d : D} (h : S[n]? = some (.lst xs)) (hk : xs[k]? = some d) : ixW S (.d (.ref n)) (.d (.int (k : Int))) = some (.d d) := by
  rw [ix_l, h]
  show bnd (atI xs (k : Int)) kAtD = _
  rw [atI_nn, hk]; rfl
theorem mul_c {a b : Int} (h : sm64 b = true) : mulOk a b = true := by unfold mulOk; rw [h]; simp
section
variable (F n : Nat)
theorem take_run (cl : Calls) {ti ci : Nat} {cells : List Int} {a : Nat} {left seed : Int} {S : Sto} {many : Int} (t : TapeIs ti ci cells a left seed S) (h0 : 0 < many) (h1 : divOk many = true) :
    ∃ r a' left' seed', fin (evS tab cl F s_law_take [some (.ref ti), some (.int many), none, none] S) = some (.d (.int r), S.set ti (.lst (tpL ci (a' : Nat) left' seed'))) ∧ 0 ≤ r ∧ r < many := by
  have hm : ∀ x : Int, 0 ≤ x % many ∧ x % many < many := fun x => ⟨Int.emod_nonneg _ (by omega), Int.emod_lt_of_pos _ h0⟩
  have bm := fun (S : Sto) (x : Int) => b_mod S (a := x) h0
  have bf := fun (S : Sto) (x : Int) => b_fdiv S (a := x) h1
  have g := fun (T : Sto) (h : T[ti]? = some (.lst (tpL ci a left seed))) => h
  have ss : ∀ (o o' : O), (S.set ti o).set ti o' = S.set ti o' := fun o o' => List.set_set ..
  have self : ∀ o, (S.set ti o)[ti]? = some o := fun o => st_self t.d
  have hc : ∀ o, (S.set ti o)[ci]? = some (.lst (cells.map .int)) := fun o => by rw [st_get t.n]; exact t.c
  -- reading a tape
  have i0 : ∀ (T : Sto) (a : Nat) (l s : Int), T[ti]? = some (.lst (tpL ci a l s)) → ixW T (.d (.ref ti)) (.d (.int 0)) = some (.d (.ref ci)) := fun T a l s h => ix_lr (k := 0) h rfl
  have i1 : ∀ (T : Sto) (a : Nat) (l s : Int), T[ti]? = some (.lst (tpL ci a l s)) → ixW T (.d (.ref ti)) (.d (.int 1)) = some (.d (.int (a : Int))) := fun T a l s h => ix_lr (k := 1) h rfl
  have i2 : ∀ (T : Sto) (a : Nat) (l s : Int), T[ti]? = some (.lst (tpL ci a l s)) → ixW T (.d (.ref ti)) (.d (.int 2)) = some (.d (.int l)) := fun T a l s h => ix_lr (k := 2) h rfl
  have i3 : ∀ (T : Sto) (a : Nat) (l s : Int), T[ti]? = some (.lst (tpL ci a l s)) → ixW T (.d (.ref ti)) (.d (.int 3)) = some (.d (.int s)) := fun T a l s h => ix_lr (k := 3) h rfl
  have w1 : ∀ (a : Nat) (l s : Int) (x : Int), (tpL ci a l s).set 1 (.int x) = [.ref ci, .int x, .int l, .int s] := fun _ _ _ _ => rfl
  have w2 : ∀ (a : Nat) (l s : Int) (x : Int), (tpL ci a l s).set 2 (.int x) = tpL ci a x s := fun _ _ _ _ => rfl
  have w3 : ∀ (a : Nat) (l s : Int) (x : Int), (tpL ci a l s).set 3 (.int x) = tpL ci a l x := fun _ _ _ _ => rfl
  have n1 : ∀ (a : Nat) (l s : Int), ixN (tpL ci a l s).length 1 = some 1 := fun _ _ _ => rfl
  have n2 : ∀ (a : Nat) (l s : Int), ixN (tpL ci a l s).length 2 = some 2 := fun _ _ _ => rfl
  have n3 : ∀ (a : Nat) (l s : Int), ixN (tpL ci a l s).length 3 = some 3 := fun _ _ _ => rfl
  have ls : ∀ (xs : List D), lstO (some (.lst xs)) = some xs := fun _ => rfl
  have td := t.d
  have a0 := i0 S a left seed td
  have a1 := i1 S a left seed td
  have a2 := i2 S a left seed td
  have a3 := i3 S a left seed td
  have hlen := len_l t.c
  rw [List.length_map] at hlen
  -- what is behind the first if, from a tape T
  have rest : ∀ (a : Nat) (l s : Int) (x2 x3 : Option D) (T : Sto), T = S.set ti (.lst (tpL ci a l s)) → ∃ r a' left' seed', fin (sq tab cl F (.cons (.ite (.cmp .gt (.ix (.var 0 (Str.ofString "d")) (.cI 2)) (.cI 0)) (.cons (.asg (.nm 3 (Str.ofString "digit")) (.bin .mod (.bi .int (.cons (.ix (.var 0 (Str.ofString "d")) (.cI 2)) .nil)) (.var 1 (Str.ofString "many")))) (.cons (.seti (.var 0 (Str.ofString "d")) (.cI 2) (.bin .fdiv (.bi .int (.cons (.ix (.var 0 (Str.ofString "d")) (.cI 2)) .nil)) (.var 1 (Str.ofString "many")))) (.cons (.ret (.var 3 (Str.ofString "digit"))) .nil))) .nil)
  (.cons (.seti (.var 0 (Str.ofString "d")) (.cI 3) (.bin .mod (.bi .int (.cons (.bin .add (.bin .mul (.ix (.var 0 (Str.ofString "d")) (.cI 3)) (.cI 48271)) (.cI 11)) .nil)) (.cI 2147483647)))
  (.cons (.ret (.bin .mod (.bi .int (.cons (.bin .fdiv (.ix (.var 0 (Str.ofString "d")) (.cI 3)) (.cI 3)) .nil)) (.var 1 (Str.ofString "many")))) .nil))) (some (.nx, [some (.ref ti), some (.int many), x2, x3], T))) = some (.d (.int r), S.set ti (.lst (tpL ci (a' : Nat) left' seed'))) ∧ 0 ≤ r ∧ r < many := by
    intro a l s x2 x3 T hT
    have hTt : T[ti]? = some (.lst (tpL ci a l s)) := by rw [hT]; exact self _
    have b2 := i2 T a l s hTt
    have b3 := i3 T a l s hTt
    have hlT : lstO T[ti]? = some (tpL ci a l s) := by rw [hTt]; rfl
    have hTs : ∀ o, T.set ti o = S.set ti o := fun o => by rw [hT, ss]
    cases hg : decide ((0 : Int) < l) with
    | true =>
      refine ⟨l % many, a, l / many, s, ?_, hm l⟩
      simp (disch := first | (refine @id _ ?_; with_unfolding_all rfl) | assumption | omega) only [evl, b2, hg, bm, bf, hlT, n2, w2, hTs]
    | false =>
      refine ⟨(s * 48271 + 11) % 2147483647 / 3 % many, a, l, (s * 48271 + 11) % 2147483647, ?_, hm _⟩
      have m1 : binW T .mul (.d (.int s)) (.d (.int 48271)) = some (.d (.int (s * 48271))) := b_mul T (mul_c rfl)
      have m2 : binW T .mod (.d (.int (s * 48271 + 11))) (.d (.int 2147483647)) = some (.d (.int ((s * 48271 + 11) % 2147483647))) := b_mod T (by decide)
      have c3 := i3 (S.set ti (.lst (tpL ci a l ((s * 48271 + 11) % 2147483647)))) a l _ (self _)
      have m3 : ∀ x : Int, binW (S.set ti (.lst (tpL ci a l ((s * 48271 + 11) % 2147483647)))) .fdiv (.d (.int x)) (.d (.int 3)) = some (.d (.int (x / 3))) := fun x => b_fdiv _ (by decide)
      simp (disch := first | (refine @id _ ?_; with_unfolding_all rfl) | assumption | omega) only [evl, b2, hg, b3, m1, m2, hlT, n3, w3, hTs, c3, m3, bm]
  have q0 : eqW S (.d (.int left)) (.d (.int 0)) = some (decide (left = 0)) := q_i S left 0
  by_cases hl : left = 0
  · by_cases hlt : a < cells.length
    · have k1 : decide (left = 0) = true := decide_eq_true hl
      have k2 : decide ((a : Int) < (cells.length : Int)) = true := decide_eq_true (by omega)
      have cx := ix_lr (k := a) t.c (d := .int (cells.getD a 0)) (by rw [List.getElem?_map, getD_some 0 hlt]; rfl)
      generalize hX : (if cells.getD a 0 < 0 then -cells.getD a 0 else cells.getD a 0) = X
      have ba : biW S .abs [.d (.int (cells.getD a 0))] = some (.d (.int X)) := by rw [← hX]; rfl
      have hlS : lstO S[ti]? = some (tpL ci a left seed) := by rw [td]; rfl
      have s1t := self (.lst (tpL ci a X seed))
      have s1l : lstO (S.set ti (.lst (tpL ci a X seed)))[ti]? = some (tpL ci a X seed) := by rw [s1t]; rfl
      have c1 := i1 _ a X seed s1t
      have ea : ((a : Nat) : Int) + 1 = ((a + 1 : Nat) : Int) := by omega
      have w1' : (tpL ci a X seed).set 1 (.int ((a + 1 : Nat) : Int)) = tpL ci (a + 1) X seed := rfl
      have s2t := self (.lst (tpL ci (a + 1) X seed))
      have s2l : lstO (S.set ti (.lst (tpL ci (a + 1) X seed)))[ti]? = some (tpL ci (a + 1) X seed) := by rw [s2t]; rfl
      have d2 := i2 _ (a + 1) X seed s2t
      have pw : ∀ T, binW T .pow (.d (.int 10)) (.d (.int 18)) = some (.d (.int 1000000000000000000)) := fun T => rfl
      cases hs : decide (X < 1000000000000000000) with
      | true =>
        refine ⟨X % many, a + 1, 0, seed, ?_, hm X⟩
        unfold s_law_take
        simp (disch := first | (refine @id _ ?_; with_unfolding_all rfl) | assumption | omega) only [evl, a2, q0, c_eq, k1, a1, a0, hlen, k2, cx, ba, hlS, n2, w2, c1, ea, s1l, n1, w1', ss, d2, pw, hs, s2l, bm]
      | false =>
        obtain ⟨r, a', left', seed', hr, hb⟩ := rest (a + 1) X seed none none _ rfl
        refine ⟨r, a', left', seed', ?_, hb⟩
        unfold s_law_take
        rw [x_cons]
        refine Eq.trans (congrArg (fun x => fin (sq tab cl F _ x)) ?_) hr
        simp (disch := first | (refine @id _ ?_; with_unfolding_all rfl) | assumption | omega) only [evl, a2, q0, c_eq, k1, a1, a0, hlen, k2, cx, ba, hlS, n2, w2, c1, ea, s1l, n1, w1', ss, d2, pw, hs]
    · have k1 : decide (left = 0) = true := decide_eq_true hl
      have k2 : decide ((a : Int) < (cells.length : Int)) = false := decide_eq_false (by omega)
      obtain ⟨r, a', left', seed', hr, hb⟩ := rest a left seed none none S (by
        have : S.set ti (.lst (tpL ci a left seed)) = S := by
          obtain ⟨h2, h3⟩ := List.getElem?_eq_some_iff.mp td
          rw [← h3]; exact List.set_getElem_self h2
        exact this.symm)
      refine ⟨r, a', left', seed', ?_, hb⟩
      unfold s_law_take
      rw [x_cons]
      refine Eq.trans (congrArg (fun x => fin (sq tab cl F _ x)) ?_) hr
      simp (disch := first | (refine @id _ ?_; with_unfolding_all rfl) | assumption | omega) only [evl, a2, q0, c_eq, k1, a1, a0, hlen, k2]
  · have k1 : decide (left = 0) = false := decide_eq_false hl
    obtain ⟨r, a', left', seed', hr, hb⟩ := rest a left seed none none S (by
      have : S.set ti (.lst (tpL ci a left seed)) = S := by
        obtain ⟨h2, h3⟩ := List.getElem?_eq_some_iff.mp td
        rw [← h3]; exact List.set_getElem_self h2
      exact this.symm)
    refine ⟨r, a', left', seed', ?_, hb⟩
    unfold s_law_take
    rw [x_cons]
    refine Eq.trans (congrArg (fun x => fin (sq tab cl F _ x)) ?_) hr
    simp (disch := first | (refine @id _ ?_; with_unfolding_all rfl) | assumption | omega) only [evl, a2, q0, c_eq, k1]
theorem sp_take {ti : Nat} {S : Sto} {many : Int} (t : TapeOk ti S) (h0 : 0 < many) (h1 : divOk many = true) : ∃ (r : Nat) (S' : Sto), callD F tab pg (n + 1) "_law_take" [.ref ti, .int many] S = some (.d (.int (r : Int)), S') ∧ (r : Int) < many ∧ TapeOk ti S' ∧ Same ti S S' := by
  obtain ⟨cells, a, left, seed, t⟩ := t
  obtain ⟨r, a', left', seed', h, hr, hm⟩ := take_run F (callD F tab pg n) t h0 h1
  refine ⟨r.toNat, S.set ti (.lst (tpL 0 a' left' seed')), ?_, by omega, ⟨cells, a', left', seed', st_self t.d, by rw [st_get t.n]; exact t.c, t.n⟩, Same.set S _⟩
  rw [call_im look_law_take rfl rfl, show env0 d_law_take [.ref ti, .int many] = [some (.ref ti), some (.int many), none, none] from rfl, show ((r.toNat : Nat) : Int) = r by omega]
  exact h
/-- a draw from a menu -/
theorem sp_pick {ti mi : Nat} {S : Sto} {menu : List D} (t : TapeOk ti S) (hne : mi ≠ ti) (hm : S[mi]? = some (.lst menu)) (h0 : 0 < menu.length) (h1 : menu.length ≤ 1000) :
    ∃ (x : D) (S' : Sto), callD F tab pg (n + 2) "_law_pick" [.ref ti, .ref mi] S = some (.d x, S') ∧ x ∈ menu ∧ TapeOk ti S' ∧ Same ti S S' := by
  obtain ⟨r, S', h, hr, t', sm⟩ := sp_take F n t (many := (menu.length : Int)) (by omega) (by
    unfold divOk big
    simp only [Bool.and_eq_true, decide_eq_true_eq]
    refine ⟨by omega, ?_⟩
    have : (2 : Nat) ^ 10 ≤ 2 ^ 1000 := Nat.pow_le_pow_right (by decide) (by decide)
    omega)
  have hrl : r < menu.length := by omega
  refine ⟨menu[r], S', ?_, List.getElem_mem hrl, t', sm⟩
  rw [call_im look_law_pick rfl rfl, show env0 d_law_pick [.ref ti, .ref mi] = [some (.ref ti), some (.ref mi)] from rfl]
  show fin (evS tab _ F s_law_pick _ _) = _
  unfold s_law_pick
  have l1 := len_l hm
  have i1 := ix_lr (k := r) (d := menu[r]) ((sm.1 mi hne).trans hm) (by simp [hrl])
  simp (disch := first | (refine @id _ ?_; with_unfolding_all rfl) | assumption | omega) only [evl, l1, h, i1]
end
end K53

set_option Elab.async false
set_option linter.all false
set_option maxRecDepth 100000
/-! N22: _law_programs -/
namespace K53
open PySem PySem.Spec PyProof.Rows L2 Z
/-- a text of kinds -/
structure KS (z : Str) : Prop where
  a : 0 < z.length
  b : z.length ≤ 5
  c : ∀ (S : Sto) (r : Nat), r < z.length → ∃ kd : Kd, ixW S (.d (.str z)) (.d (.int (r : Int))) = some (.d (.str kd.s))
theorem ks1 : KS "x" := ⟨by decide +kernel, by decide +kernel, fun S r h => by
  have h : r < 1 := h
  have : r = 0 := by omega
  subst this; exact ⟨.x, by kernel_rfl⟩⟩
theorem ks2 : KS "xf" := ⟨by decide +kernel, by decide +kernel, fun S r h => by
  have h : r < 2 := h
  have : r = 0 ∨ r = 1 := by omega
  rcases this with rfl | rfl
  · exact ⟨.x, by kernel_rfl⟩
  · exact ⟨.f, by kernel_rfl⟩⟩
theorem ks3 : KS "rwxf" := ⟨by decide +kernel, by decide +kernel, fun S r h => by
  have h : r < 4 := h
  have : r = 0 ∨ r = 1 ∨ r = 2 ∨ r = 3 := by omega
  rcases this with rfl | rfl | rfl | rfl
  · exact ⟨.r, by kernel_rfl⟩
  · exact ⟨.w, by kernel_rfl⟩
  · exact ⟨.x, by kernel_rfl⟩
  · exact ⟨.f, by kernel_rfl⟩⟩
theorem ks4 : KS "xxxrw" := ⟨by decide +kernel, by decide +kernel, fun S r h => by
  have h : r < 5 := h
  have : r = 0 ∨ r = 1 ∨ r = 2 ∨ r = 3 ∨ r = 4 := by omega
  rcases this with rfl | rfl | rfl | rfl | rfl
  · exact ⟨.x, by kernel_rfl⟩
  · exact ⟨.x, by kernel_rfl⟩
  · exact ⟨.x, by kernel_rfl⟩
  · exact ⟨.r, by kernel_rfl⟩
  · exact ⟨.w, by kernel_rfl⟩⟩
theorem ks5 : KS "r" := ⟨by decide +kernel, by decide +kernel, fun S r h => by
  have h : r < 1 := h
  have : r = 0 := by omega
  subst this; exact ⟨.r, by kernel_rfl⟩⟩
theorem KS.len {z : Str} (h : KS z) (S : Sto) : biW S .len [.d (.str z)] = some (.d (.int (z.length : Int))) := by
  have := h.b
  show (if z.length ≤ LN then some (W.d (.int (z.length : Int))) else none) = _
  rw [if_pos (by unfold LN; omega)]
/-- a step of that hand -/
structure SOk (h ap : Nat) (s : St) : Prop where
  v : 1 ≤ s.v ∧ s.v ≤ 30
  p : s.p ≤ 10
  o : 2 ≤ s.p → s.p / 2 = h
section
variable (F n : Nat)
abbrev envP (ti : Nat) (z : Str) (ap fi : Nat) (hand : Option D) (si : Option D) (x6 x7 : Option D) : Z.Env := [some (.ref ti), some (.str z), some (.int (ap : Int)), some (.ref fi), hand, si, x6, x7]
theorem dv {k : Int} (h : 0 < k) (h2 : k ≤ 1000) : divOk k = true := by
  unfold divOk big
  simp only [Bool.and_eq_true, decide_eq_true_eq]
  refine ⟨h, ?_⟩
  have : (2 : Nat) ^ 10 ≤ 2 ^ 1000 := Nat.pow_le_pow_right (by decide) (by decide)
  omega
theorem pr_in {ti si fi h ap : Nat} {z : Str} (kz : KS z) (hh : h < 3) (hap : ap < 2) (hsi : si ≠ ti) (hs0 : si ≠ 0) : ∀ (ks : List Nat) (steps : List St) (S : Sto) (x6 x7 : Option D), (∀ k ∈ ks, k < 6) → steps.length + ks.length ≤ 1000 → TapeOk ti S → S[si]? = some (.lst (steps.map St.d)) → (∀ s ∈ steps, SOk h ap s) →
    ∃ (steps' : List St) (S' : Sto) (x6' x7' : Option D), forLoop [] (stp tab (callD F tab pg (n + 1)) F (.nm 6 (Str.ofString "k")) lp_law_programs1) (ks.map fun (x : Nat) => .int (x : Int)) (envP ti z ap fi (some (.int (h : Int))) (some (.ref si)) x6 x7) S = some (.nx, envP ti z ap fi (some (.int (h : Int))) (some (.ref si)) x6' x7', S') ∧
      steps'.length = steps.length + ks.length ∧ (∀ s ∈ steps', SOk h ap s) ∧ TapeOk ti S' ∧ S'[si]? = some (.lst (steps'.map St.d)) ∧ ∀ i, i ≠ ti → i ≠ si → S'[i]? = S[i]?
  | [], steps, S, x6, x7, _, _, t, hs, ho => ⟨steps, S, x6, x7, by rw [List.map_nil, forLoop_nil _ _ (chkG_nil S)], rfl, ho, t, hs, fun _ _ _ => rfl⟩
  | k :: ks, steps, S, x6, x7, hk, hl, t, hs, ho => by
    rw [List.length_cons] at hl
    have hk6 := hk k List.mem_cons_self
    obtain ⟨r4, S1, c4, b4, t1, m1⟩ := sp_take F n t (many := 4) (by decide) (dv (by decide) (by decide))
    have kzl := kz.len
    -- the place
    have pl : ∃ (p : Nat) (S2 : Sto), evW tab (callD F tab pg (n + 1)) (.ite (.cmp .gt (.call (Str.ofString "_law_take") (.cons (.var 0 (Str.ofString "d")) (.cons (.cI 4) .nil))) (.cI 0)) (.bin .add (.call (Str.ofString "_law_take") (.cons (.var 0 (Str.ofString "d")) (.cons (.cI 2) .nil))) (.bin .mul (.bin .mul (.cI 2) (.var 4 (Str.ofString "hand"))) (.var 2 (Str.ofString "apart")))) (.cI 0)) (envP ti z ap fi (some (.int (h : Int))) (some (.ref si)) (some (.int (k : Int))) x7) S = some (.d (.int (p : Int)), S2) ∧ p ≤ 10 ∧ (2 ≤ p → p / 2 = h) ∧ TapeOk ti S2 ∧ Same ti S S2 := by
      cases hr : decide ((0 : Int) < (r4 : Int)) with
      | true =>
        obtain ⟨r2, S2, c2, b2, t2, m2⟩ := sp_take F n t1 (many := 2) (by decide) (dv (by decide) (by decide))
        have hr2 : r2 < 2 := by omega
        refine ⟨r2 + 2 * h * ap, S2, ?_, ?_, ?_, t2, m1.trans m2⟩
        · have u1 : binW S2 .mul (.d (.int 2)) (.d (.int (h : Int))) = some (.d (.int (2 * (h : Int)))) := b_mul S2 (by unfold mulOk; rfl)
          have u2 : binW S2 .mul (.d (.int (2 * (h : Int)))) (.d (.int (ap : Int))) = some (.d (.int (2 * (h : Int) * (ap : Int)))) := b_mul S2 (mul_c (by unfold sm64; simp; omega))
          have u3 : (r2 : Int) + 2 * (h : Int) * (ap : Int) = ((r2 + 2 * h * ap : Nat) : Int) := by
            rw [Int.natCast_add, Int.natCast_mul, Int.natCast_mul]; rfl
          simp (disch := first | (refine @id _ ?_; with_unfolding_all rfl) | assumption | omega) only [evl, c4, hr, c2, u1, u2, u3]
        · have : ap = 0 ∨ ap = 1 := by omega
          rcases this with rfl | rfl <;> omega
        · have : ap = 0 ∨ ap = 1 := by omega
          rcases this with rfl | rfl <;> omega
      | false =>
        refine ⟨0, S1, ?_, by omega, by omega, t1, m1⟩
        simp (disch := first | (refine @id _ ?_; with_unfolding_all rfl) | assumption | omega) only [evl, c4, hr]
        rfl
    obtain ⟨p, S2, hp, p10, po, t2, m2⟩ := pl
    obtain ⟨r, S3, c3, b3, t3, m3⟩ := sp_take F n t2 (many := (z.length : Int)) (by have := kz.a; omega) (dv (by have := kz.a; omega) (by have := kz.b; omega))
    obtain ⟨kd, hkd⟩ := kz.c S3 r (by omega)
    have m13 := m2.trans m3
    have hs3 : S3[si]? = some (.lst (steps.map St.d)) := by rw [m13.1 si hsi]; exact hs
    have hs2 : S2[si]? = some (.lst (steps.map St.d)) := by rw [m2.1 si hsi]; exact hs
    have l2 : lstO S2[si]? = some (steps.map St.d) := by rw [hs2]; rfl
    have l3 : lstO S3[si]? = some (steps.map St.d) := by rw [hs3]; rfl
    have u5 : ∀ T, binW T .mul (.d (.int 10)) (.d (.int (h : Int))) = some (.d (.int (10 * (h : Int)))) := fun T => b_mul T (by unfold mulOk; rfl)
    have u6 : (1 : Int) + (k : Int) + 10 * (h : Int) = ((1 + k + 10 * h : Nat) : Int) := by omega
    have e4 : D.tup [.str kd.s, .int (p : Int), .int ((1 + k + 10 * h : Nat) : Int)] = St.d ⟨kd, p, 1 + k + 10 * h⟩ := rfl
    have e5 := kApp4_e (n := si) (S := S3) (d := St.d ⟨kd, p, 1 + k + 10 * h⟩) (xs := steps.map St.d) (by rw [List.length_map]; unfold LN; omega)
    have e6 : (steps.map St.d ++ [St.d ⟨kd, p, 1 + k + 10 * h⟩]) = (steps ++ [(⟨kd, p, 1 + k + 10 * h⟩ : St)]).map St.d := by rw [List.map_append]; rfl
    have t4 := t3.set hsi hs0 (.lst ((steps ++ [(⟨kd, p, 1 + k + 10 * h⟩ : St)]).map St.d))
    obtain ⟨steps', S', x6', x7', ih, i1, i2, i3, i4, i5⟩ := pr_in kz hh hap hsi hs0 ks (steps ++ [(⟨kd, p, 1 + k + 10 * h⟩ : St)]) _ (some (.int (k : Int))) (some (.int (p : Int))) (fun x hx => hk x (List.mem_cons_of_mem _ hx)) (by rw [List.length_append]; simp; omega) t4 (st_self hs3) (fun s hs' => by
      rcases List.mem_append.mp hs' with q | q
      · exact ho s q
      · have : s = ⟨kd, p, 1 + k + 10 * h⟩ := by simpa using q
        rw [this]
        exact ⟨⟨by show 1 ≤ 1 + k + 10 * h; omega, by show 1 + k + 10 * h ≤ 30; omega⟩, p10, po⟩)
    refine ⟨steps', S', x6', x7', ?_, by rw [i1, List.length_append, List.length_cons]; simp; omega, i2, i3, i4, fun i hi1 hi2 => by rw [i5 i hi1 hi2, st_get (Ne.symm hi2), m13.1 i hi1]⟩
    have hbody : evS tab (callD F tab pg (n + 1)) F lp_law_programs1 (envP ti z ap fi (some (.int (h : Int))) (some (.ref si)) (some (.int (k : Int))) x7) S = some (.nx, envP ti z ap fi (some (.int (h : Int))) (some (.ref si)) (some (.int (k : Int))) (some (.int (p : Int))), S3.set si (.lst ((steps ++ [(⟨kd, p, 1 + k + 10 * h⟩ : St)]).map St.d))) := by
      unfold lp_law_programs1
      rw [x_cons, x_asg, hp]
      simp (disch := first | (refine @id _ ?_; with_unfolding_all rfl) | assumption | omega) only [evl, l2, kzl, c3, hkd, u5, u6, e4, l3, e5, e6]
    rw [List.map_cons, forLoop_cons _ _ _ _ (chkG_nil S), stp_e]
    have b1 : bindP (.nm 6 (Str.ofString "k")) (.int (k : Int)) (envP ti z ap fi (some (.int (h : Int))) (some (.ref si)) x6 x7) = some (envP ti z ap fi (some (.int (h : Int))) (some (.ref si)) (some (.int (k : Int))) x7) := rfl
    rw [b1, bnd_some, kStp_e, hbody, bnd_some, kFl_nx]
    exact ih
end
end K53

set_option Elab.async false
set_option linter.all false
set_option maxRecDepth 100000
/-! N23: _law_programs, all; _law_begin -/
namespace K53
open PySem PySem.Spec PyProof.Rows L2 Z
structure FOk (ap : Nat) (found : List Pg) : Prop where
  h : ∀ (i : Nat) (p : Pg), found[i]? = some p → p.length ≤ 6 ∧ ∀ s ∈ p, SOk i ap s
theorem FOk.add {ap : Nat} {found : List Pg} {p : Pg} (F : FOk ap found) (h1 : p.length ≤ 6) (h2 : ∀ s ∈ p, SOk found.length ap s) : FOk ap (found ++ [p]) := ⟨fun i q hq => by
  by_cases hi : i < found.length
  · rw [List.getElem?_append_left hi] at hq
    exact F.h i q hq
  · have : i = found.length := by
      have := (List.getElem?_eq_some_iff.mp hq).1
      simp at this
      omega
    subst this
    rw [List.getElem?_append_right (Nat.le_refl _), Nat.sub_self] at hq
    cases hq
    exact ⟨h1, h2⟩⟩
theorem FOk.ok {ap : Nat} {ps : List Pg} (F : FOk ap ps) (h1 : 1 ≤ ps.length) (h3 : ps.length ≤ 3) : Ok ps := by
  have gm : ∀ p ∈ ps, ∃ i : Nat, ps[i]? = some p := fun p hp => List.mem_iff_getElem?.mp hp
  refine ⟨h1, h3, fun p hp => ?_, fun p hp s hs => ?_, fun i j p q hp hq s hs t ht e h2 => ?_, fun p hp s hs => ?_⟩
  · obtain ⟨i, hi⟩ := gm p hp
    exact (F.h i p hi).1
  · obtain ⟨i, hi⟩ := gm p hp
    exact ((F.h i p hi).2 s hs).v
  · have a := ((F.h i p hp).2 s hs).o h2
    have b := ((F.h j q hq).2 t ht).o (by omega)
    rw [← a, ← b, e]
  · obtain ⟨i, hi⟩ := gm p hp
    exact ((F.h i p hi).2 s hs).p
theorem app_get {S : Sto} {o : O} : (S ++ [o])[S.length]? = some o := by rw [List.getElem?_append_right (Nat.le_refl _), Nat.sub_self]; rfl
theorem app_old {S : Sto} {o o' : O} {i : Nat} (h : S[i]? = some o') : (S ++ [o])[i]? = some o' := by
  rw [List.getElem?_append_left (List.getElem?_eq_some_iff.mp h).1]; exact h
theorem TapeOk.app {ti : Nat} {S : Sto} (t : TapeOk ti S) (o : O) : TapeOk ti (S ++ [o]) := t.ext ⟨[o], rfl⟩
section
variable (F n : Nat)
def cnts : List D := [.int 6, .int 6, .int 5, .int 3, .int 1, .int 0]
theorem cnts_mem {x : D} (h : x ∈ cnts) : ∃ c : Nat, x = .int (c : Int) ∧ c ≤ 6 := by
  unfold cnts at h
  simp only [List.mem_cons, List.not_mem_nil, or_false] at h
  rcases h with rfl | rfl | rfl | rfl | rfl | rfl
  · exact ⟨6, rfl, by omega⟩
  · exact ⟨6, rfl, by omega⟩
  · exact ⟨5, rfl, by omega⟩
  · exact ⟨3, rfl, by omega⟩
  · exact ⟨1, rfl, by omega⟩
  · exact ⟨0, rfl, by omega⟩
theorem pr_out {ti fi ap : Nat} {z : Str} (kz : KS z) (hap : ap < 2) (ht0 : ti ≠ 0) (hfi : fi ≠ ti) (hf0 : fi ≠ 0) : ∀ (m h : Nat) (found : List Pg) (S : Sto) (x4 x5 x6 x7 : Option D), found.length = h → h + m ≤ 3 → TapeOk ti S → S[fi]? = some (.lst (found.map dP)) → FOk ap found →
    ∃ (found' : List Pg) (S' : Sto) (x4' x5' x6' x7' : Option D), forLoop [] (stp tab (callD F tab pg (n + 2)) F (.nm 4 (Str.ofString "hand")) lp_law_programs2) ((List.range' h m).map fun (x : Nat) => .int (x : Int)) (envP ti z ap fi x4 x5 x6 x7) S = some (.nx, envP ti z ap fi x4' x5' x6' x7', S') ∧
      found'.length = h + m ∧ FOk ap found' ∧ TapeOk ti S' ∧ S'[fi]? = some (.lst (found'.map dP))
  | 0, h, found, S, x4, x5, x6, x7, hl, _, t, hf, fo => ⟨found, S, x4, x5, x6, x7, by rw [List.range'_zero, List.map_nil, forLoop_nil _ _ (chkG_nil S)], hl, fo, t, hf⟩
  | m + 1, h, found, S, x4, x5, x6, x7, hl, hm, t, hf, fo => by
    have tl := t.len
    have fl := (List.getElem?_eq_some_iff.mp hf).1
    have hS := S.length
    -- the menu
    have q1 : (S ++ [O.lst []])[S.length]? = some (.lst []) := app_get
    have m1 : ((S ++ [O.lst []]) ++ [O.lst cnts])[(S ++ [O.lst []]).length]? = some (.lst cnts) := app_get
    have sl : (S ++ [O.lst []]).length = S.length + 1 := by rw [List.length_append]; rfl
    obtain ⟨x, S1, c1, hx, t1, sm1⟩ := sp_pick F n ((t.app (.lst [])).app (.lst cnts)) (by rw [sl]; omega) m1 (by decide) (by decide)
    obtain ⟨c, rfl, c6⟩ := cnts_mem hx
    have s1 : S1[S.length]? = some (.lst (([] : List St).map St.d)) := by rw [sm1.1 _ (by omega)]; exact app_old q1
    have r1 := rng_n (k := c) (by omega)
    obtain ⟨steps, S2, x6', x7', h2, l2, o2, t2, s2, fr2⟩ := pr_in F (n + 1) (ti := ti) (si := S.length) (fi := fi) (ap := ap) kz (by omega : h < 3) hap (by omega) (by omega) (List.range c) [] S1 x6 x7 (fun k hk => by have := List.mem_range.mp hk; omega) (by rw [List.length_range]; simp; omega) t1 s1 (fun s hs => nomatch hs)
    rw [List.length_range, List.length_nil, Nat.zero_add] at l2
    have f2 : S2[fi]? = some (.lst (found.map dP)) := by
      rw [fr2 fi hfi (by omega), sm1.1 fi hfi]
      exact app_old (app_old hf)
    have sq2 := seq_l s2
    have bt : biW S2 .tuple [.d (.ref S.length)] = some (.d (dP steps)) := by
      show (seqOf S2 (.d (.ref S.length))).map _ = _
      rw [sq2]; rfl
    have lf : lstO S2[fi]? = some (found.map dP) := by rw [f2]; rfl
    have e5 := kApp4_e (n := fi) (S := S2) (d := dP steps) (xs := found.map dP) (by rw [List.length_map]; unfold LN; omega)
    have e6 : (found.map dP ++ [dP steps]) = (found ++ [steps]).map dP := by rw [List.map_append]; rfl
    obtain ⟨found', S', x4'', x5'', x6'', x7'', ih, i1, i2, i3, i4⟩ := pr_out kz hap ht0 hfi hf0 m (h + 1) (found ++ [steps]) (S2.set fi (.lst ((found ++ [steps]).map dP))) (some (.int (h : Int))) (some (.ref S.length)) x6' x7' (by rw [List.length_append, hl]; rfl) (by omega) (t2.set hfi hf0 _) (st_self f2) (fo.add (by omega) (by rw [hl]; exact o2))
    refine ⟨found', S', x4'', x5'', x6'', x7'', ?_, by rw [i1]; omega, i2, i3, i4⟩
    rw [List.range'_succ, List.map_cons, forLoop_cons _ _ _ _ (chkG_nil S), stp_e]
    have mn : [D.int 6, D.int 6, D.int 5, D.int 3, D.int 1, D.int 0] = cnts := rfl
    unfold lp_law_programs2 at *
    simp (disch := first | (refine @id _ ?_; with_unfolding_all rfl) | assumption | omega) only [evl, mn, c1, r1, h2, lf, bt, e5, e6, ih]
def kms : List D := [.str "x", .str "xf", .str "rwxf", .str "xxxrw", .str "r"]
theorem kms_mem {x : D} (h : x ∈ kms) : ∃ z : Str, x = .str z ∧ KS z := by
  unfold kms at h
  simp only [List.mem_cons, List.not_mem_nil, or_false] at h
  rcases h with rfl | rfl | rfl | rfl | rfl
  · exact ⟨_, rfl, ks1⟩
  · exact ⟨_, rfl, ks2⟩
  · exact ⟨_, rfl, ks3⟩
  · exact ⟨_, rfl, ks4⟩
  · exact ⟨_, rfl, ks5⟩
theorem sp_programs {ti : Nat} {S : Sto} (ht0 : ti ≠ 0) (t : TapeOk ti S) : ∃ (ps : List Pg) (S' : Sto), callD F tab pg (n + 3) "_law_programs" [.ref ti] S = some (.d (dPs ps), S') ∧ Ok ps ∧ TapeOk ti S' := by
  have tl := t.len
  have m1 : (S ++ [O.lst kms])[S.length]? = some (.lst kms) := app_get
  obtain ⟨x, S1, c1, hx, t1, sm1⟩ := sp_pick F n (t.app (.lst kms)) (by omega) m1 (by decide) (by decide)
  obtain ⟨z, rfl, kz⟩ := kms_mem hx
  obtain ⟨ap, S2, c2, b2, t2, m2⟩ := sp_take F (n + 1) t1 (many := 2) (by decide) (dv (by decide) (by decide))
  have t2l := t2.len
  obtain ⟨r, S3, c3, b3, t3, m3⟩ := sp_take F (n + 1) (t2.app (.lst [])) (many := 3) (by decide) (dv (by decide) (by decide))
  have f3 : S3[S2.length]? = some (.lst (([] : List Pg).map dP)) := by rw [m3.1 _ (by omega)]; exact app_get
  obtain ⟨ps, S4, x4, x5, x6, x7, h4, l4, o4, t4, f4⟩ := pr_out F n (ti := ti) (fi := S2.length) (ap := ap) kz (by omega) ht0 (by omega) (by omega) (1 + r) 0 [] S3 none none none none rfl (by omega) t3 f3 ⟨fun i p hp => by simp at hp⟩
  have r1 : rngW [.d (.int (1 + (r : Int)))] = some ((List.range' 0 (1 + r)).map fun (x : Nat) => .int (x : Int)) := by
    rw [show (1 : Int) + (r : Int) = ((1 + r : Nat) : Int) by omega, rng_n (by omega), List.range_eq_range']
  have sq4 := seq_l f4
  have bt : biW S4 .tuple [.d (.ref S2.length)] = some (.d (dPs ps)) := by
    show (seqOf S4 (.d (.ref S2.length))).map _ = _
    rw [sq4]; rfl
  refine ⟨ps, S4, ?_, o4.ok (by omega) (by omega), t4⟩
  rw [call_im look_law_programs rfl rfl, show env0 d_law_programs [.ref ti] = [some (.ref ti), none, none, none, none, none, none, none] from rfl]
  show fin (evS tab _ F s_law_programs _ _) = _
  unfold s_law_programs
  have mn : [D.str (Str.ofString "x"), D.str (Str.ofString "xf"), D.str (Str.ofString "rwxf"), D.str (Str.ofString "xxxrw"), D.str (Str.ofString "r")] = kms := rfl
  simp (disch := first | (refine @id _ ?_; with_unfolding_all rfl) | assumption | omega) only [evl, mn, c1, c2, c3, r1, h4, bt]
/-! the beginning -/
theorem begin_loop (cl : Calls) (a : Option D) : ∀ (ns : List Int) (s : Int) (c : Option D) (S : Sto), ∃ (s' : Int) (c' : Option D), forLoop [] (stp tab cl F (.nm 2 (Str.ofString "cell")) lp_law_begin1) (ns.map D.int) [a, some (.int s), c] S = some (.nx, [a, some (.int s'), c'], S)
  | [], s, c, S => ⟨s, c, by rw [List.map_nil, forLoop_nil _ _ (chkG_nil S)]⟩
  | x :: ns, s, c, S => by
    obtain ⟨s', c', ih⟩ := begin_loop cl a ns ((s * 69621 + x % 2147483629 + 7) % 2147483647) (some (.int x)) S
    refine ⟨s', c', ?_⟩
    have u1 : binW S .mul (.d (.int s)) (.d (.int 69621)) = some (.d (.int (s * 69621))) := b_mul S (mul_c rfl)
    have u2 := fun y : Int => b_mod S (a := y) (b := 2147483629) (by decide)
    have u3 := fun y : Int => b_mod S (a := y) (b := 2147483647) (by decide)
    rw [List.map_cons, forLoop_cons _ _ _ _ (chkG_nil S), stp_e]
    unfold lp_law_begin1 at *
    simp (disch := first | (refine @id _ ?_; with_unfolding_all rfl) | assumption | omega) only [evl, u1, u2, u3, ih]
theorem sp_begin (ns : List Int) (hl : ns.length ≤ 63) : ∃ s : Int, callD F tab pg (n + 1) "_law_begin" [.fz (ns.map D.int)] [] = some (.tmp (tpL 0 0 0 s), [.lst (ns.map .int)]) := by
  obtain ⟨s', c', h⟩ := begin_loop F (callD F tab pg n) (some (.fz (ns.map D.int))) ns 1 none []
  refine ⟨s', ?_⟩
  rw [call_im look_law_begin rfl rfl, show env0 d_law_begin [.fz (ns.map D.int)] = [some (.fz (ns.map D.int)), none, none] from rfl]
  show fin (evS tab _ F s_law_begin _ _) = _
  unfold s_law_begin
  have bl : biW [] .list [.d (.fz (ns.map D.int))] = some (.tmp (ns.map D.int)) := rfl
  simp (disch := first | (refine @id _ ?_; with_unfolding_all rfl) | assumption | omega) only [evl, h, bl]
  rfl
end
end K53

set_option Elab.async false
set_option linter.all false
set_option maxRecDepth 100000
/-! N24: _law_memory_right, the loops -/
namespace K53
open PySem PySem.Spec PyProof.Rows L2 Z
def oPln (o : Option (List Nat)) : pln 1 (oRow o) = true := by
  cases o with
  | none => rfl
  | some r => exact pln_dI r
theorem eq_oRow (S : Sto) (a b : Option (List Nat)) : eqW S (.d (oRow a)) (.d (oRow b)) = some (decide (a = b)) := by
  rw [eq_pl S (oPln a) (oPln b) (by decide) (by decide)]
  cases a with
  | none =>
    cases b with
    | none => rfl
    | some r => rfl
  | some q =>
    cases b with
    | none => rfl
    | some r =>
      show some (eqD (dI q) (dI r)) = _
      rw [eqD_inj dI_inj]
      by_cases e : q = r
      · subst e; simp
      · rw [decide_eq_false e, decide_eq_false (fun z => e (by injection z))]
theorem gt_I (S : Sto) (a b : List Nat) : cmpW S .gt (.d (dI a)) (.d (dI b)) = some (ltN b a) := by
  have h1 := pln_shaped (pln_dI a) (by decide)
  have h2 := pln_shaped (pln_dI b) (by decide)
  have h3 := alk_dI a b
  have h4 := ltD_dI b a
  unfold dI at *
  show (if _ then _ else _) = _
  rw [h1, h2, h3]
  show some (ltD _ _) = _
  rw [h4]
theorem ext_ok {S : Sto} {i : Nat} {xs : List D} (h : S[i]? = some (.lst xs)) : mtOk S .ext (.d (.ref i)) = true := by
  unfold mtOk
  simp only [h]
  rfl
theorem ext_do {S : Sto} {i : Nat} {xs ys : List D} (h : S[i]? = some (.lst xs)) (hl : xs.length + ys.length ≤ LN) : mthW S .ext (.d (.ref i)) [.tmp ys] = some (.d .non, S.set i (.lst (xs ++ ys))) := by
  unfold mthW
  simp only [h, lstOfW, if_pos hl]
theorem flat_rep (a : D) : ∀ k : Nat, (List.replicate k [a]).flatten = List.replicate k a
  | 0 => rfl
  | k + 1 => by rw [List.replicate_succ, List.flatten_cons, flat_rep a k, List.replicate_succ]; rfl
theorem rep_l (S : Sto) (a : D) {k : Nat} (h : k ≤ 1000) : binW S .mul (.tmp [a]) (.d (.int (k : Int))) = some (.tmp (List.replicate k a)) := by
  have e : binW S .mul (.tmp [a]) (.d (.int (k : Int))) = if (decide (-(2 ^ 63) ≤ (k : Int)) && decide ((k : Int) < 2 ^ 63) && decide ([a].length * (k : Int).toNat ≤ LN)) = true then some (.tmp (List.replicate (k : Int).toNat [a]).flatten) else none := rfl
  have c : (decide (-(2 ^ 63) ≤ (k : Int)) && decide ((k : Int) < 2 ^ 63) && decide ([a].length * (k : Int).toNat ≤ LN)) = true := by
    simp only [Bool.and_eq_true, decide_eq_true_eq]
    refine ⟨⟨by omega, by omega⟩, ?_⟩
    rw [tn_c]
    unfold LN
    simp
    omega
  rw [e, if_pos c, tn_c, flat_rep]
structure BK (ps : List Pg) (m : Nat) (row : List Nat) : Prop where
  lt : ∀ x ∈ row, x < m
  ct : ∀ (h : Nat) (p : Pg), h < m → ps[h]? = some p → row.count h = p.length
theorem BK.add {ps : List Pg} {m : Nat} {row : List Nat} (B : BK ps m row) {p : Pg} (hp : ps[m]? = some p) : BK ps (m + 1) (row ++ List.replicate p.length m) := by
  have h0 : ∀ h, row.count h = 0 ∨ h < m := fun h => by
    by_cases hm : h ∈ row
    · exact .inr (B.lt h hm)
    · exact .inl (List.count_eq_zero.mpr hm)
  refine ⟨fun x hx => ?_, fun h q hh hq => ?_⟩
  · rcases List.mem_append.mp hx with z | z
    · have := B.lt x z; omega
    · have := (List.mem_replicate.mp z).2; omega
  · rw [List.count_append, List.count_replicate]
    by_cases e : h = m
    · subst e
      rw [hp] at hq
      cases hq
      have : row.count h = 0 := by rcases h0 h with z | z; exact z; omega
      rw [this]
      simp
    · rw [if_neg (by simp; exact fun z => e z.symm), Nat.add_zero]
      exact B.ct h q (by omega) hq
section
variable (F n : Nat) {ps : List Pg}
abbrev envM (ti : Nat) (ps : List Pg) (ri : Nat) (x3 x4 x5 x6 x7 x8 x9 x10 x11 x12 : Option D) : Z.Env := [some (.ref ti), some (dPs ps), some (.ref ri), x3, x4, x5, x6, x7, x8, x9, x10, x11, x12, none, none]
theorem mr_ext (ok : Ok ps) (cl : Calls) {ti ri : Nat} (hr : ri ≠ ti) (hr0 : ri ≠ 0) : ∀ (c m : Nat) (row : List Nat) (S : Sto) (x3 : Option D), m + c = ps.length → row.length ≤ 6 * m → TapeOk ti S → S[ri]? = some (.lst (row.map fun (x : Nat) => .int (x : Int))) → BK ps m row →
    ∃ (row' : List Nat) (S' : Sto) (x3' : Option D), forLoop [] (stp tab cl F (.nm 3 (Str.ofString "k")) lp_law_memory_right1) ((List.range' m c).map fun (x : Nat) => .int (x : Int)) (envM ti ps ri x3 none none none none none none none none none) S = some (.nx, envM ti ps ri x3' none none none none none none none none none, S') ∧ BK ps ps.length row' ∧ row'.length ≤ 18 ∧ TapeOk ti S' ∧ S'[ri]? = some (.lst (row'.map fun (x : Nat) => .int (x : Int)))
  | 0, m, row, S, x3, hm, hl, t, hs, B => ⟨row, S, x3, by rw [List.range'_zero, List.map_nil, forLoop_nil _ _ (chkG_nil S)], by rw [← hm]; exact B, by have := ok.b; omega, t, hs⟩
  | c + 1, m, row, S, x3, hm, hl, t, hs, B => by
    have hb := ok.b
    have hmp : m < ps.length := by omega
    have hp : ps[m]? = some ps[m] := by simp [hmp]
    have h6 := ok.c ps[m] (List.getElem_mem hmp)
    have x1 := fun S => ix_PP S hp
    have rl := fun S => rep_l S (.int (m : Int)) (k := ps[m].length) (by omega)
    have o1 := ext_ok hs
    have o2 := ext_do (ys := List.replicate ps[m].length (.int (m : Int))) hs (by rw [List.length_map, List.length_replicate]; unfold LN; omega)
    have e1 : ((row.map fun (x : Nat) => D.int (x : Int)) ++ List.replicate ps[m].length (.int (m : Int))) = (row ++ List.replicate ps[m].length m).map fun (x : Nat) => .int (x : Int) := by rw [List.map_append, List.map_replicate]
    rw [e1] at o2
    obtain ⟨row', S', x3', ih, i1, i2, i3, i4⟩ := mr_ext ok cl hr hr0 c (m + 1) (row ++ List.replicate ps[m].length m) (S.set ri (.lst ((row ++ List.replicate ps[m].length m).map fun (x : Nat) => .int (x : Int)))) (some (.int (m : Int))) (by omega) (by rw [List.length_append, List.length_replicate]; omega) (t.set hr hr0 _) (st_self hs) (B.add hp)
    refine ⟨row', S', x3', ?_, i1, i2, i3, i4⟩
    rw [List.range'_succ, List.map_cons, forLoop_cons _ _ _ _ (chkG_nil S), stp_e]
    unfold lp_law_memory_right1 at *
    simp (disch := first | (refine @id _ ?_; with_unfolding_all rfl) | assumption | omega) only [evl, x1, le_p, rl, o1, o2, ih]
theorem mr_swap {ti ri : Nat} (hr : ri ≠ ti) (hr0 : ri ≠ 0) : ∀ (ks : List Nat) (row : List Nat) (S : Sto) (x3 x4 : Option D), (∀ k ∈ ks, k < row.length) → row.length ≤ 1000 → TapeOk ti S → S[ri]? = some (.lst (row.map fun (x : Nat) => .int (x : Int))) →
    ∃ (row' : List Nat) (S' : Sto) (x3' x4' : Option D), forLoop [] (stp tab (callD F tab pg (n + 1)) F (.nm 3 (Str.ofString "k")) lp_law_memory_right2) (ks.map fun (x : Nat) => .int (x : Int)) (envM ti ps ri x3 x4 none none none none none none none none) S = some (.nx, envM ti ps ri x3' x4' none none none none none none none none, S') ∧ row'.Perm row ∧ TapeOk ti S' ∧ S'[ri]? = some (.lst (row'.map fun (x : Nat) => .int (x : Int)))
  | [], row, S, x3, x4, _, _, t, hs => ⟨row, S, x3, x4, by rw [List.map_nil, forLoop_nil _ _ (chkG_nil S)], List.Perm.refl _, t, hs⟩
  | k :: ks, row, S, x3, x4, hk, hl, t, hs => by
    have hk0 := hk k List.mem_cons_self
    have l1 := len_l hs
    rw [List.length_map] at l1
    obtain ⟨j, S1, c1, bj, t1, m1⟩ := sp_take F n t (many := (row.length : Int)) (by omega) (dv (by omega) (by omega))
    have hj : j < row.length := by omega
    have hs1 : S1[ri]? = some (.lst (row.map fun (x : Nat) => .int (x : Int))) := by rw [m1.1 ri hr]; exact hs
    have ij := ix_lr (k := j) hs1 (d := .int ((row[j] : Nat) : Int)) (by rw [List.getElem?_map, List.getElem?_eq_getElem hj]; rfl)
    have ik := ix_lr (k := k) hs1 (d := .int ((row[k] : Nat) : Int)) (by rw [List.getElem?_map, List.getElem?_eq_getElem hk0]; rfl)
    have nn : ∀ (m i : Nat), i < m → ixN m (i : Int) = some i := fun m i h => by
      unfold ixN
      rw [if_pos (by omega), if_pos (by omega)]
      simp
    have es1 : ((row.map fun (x : Nat) => D.int (x : Int)).set k (.int ((row[j] : Nat) : Int))) = (row.set k row[j]).map fun (x : Nat) => .int (x : Int) := by rw [List.map_set]
    have es2 : (((row.set k row[j]).map fun (x : Nat) => D.int (x : Int)).set j (.int ((row[k] : Nat) : Int))) = ((row.set k row[j]).set j row[k]).map fun (x : Nat) => .int (x : Int) := by simp only [List.map_set]
    have pm : ((row.set k row[j]).set j row[k]).Perm row := List.set_set_perm hk0 hj
    have hbody : evS tab (callD F tab pg (n + 1)) F lp_law_memory_right2 (envM ti ps ri (some (.int (k : Int))) x4 none none none none none none none none) S = some (.nx, envM ti ps ri (some (.int (k : Int))) (some (.int (j : Int))) none none none none none none none none, S1.set ri (.lst (((row.set k row[j]).set j row[k]).map fun (x : Nat) => .int (x : Int)))) := by
      have hasg : evS tab (callD F tab pg (n + 1)) F (.asg (.nm 4 (Str.ofString "j")) (.call (Str.ofString "_law_take") (.cons (.var 0 (Str.ofString "d")) (.cons (.bi .len (.cons (.var 2 (Str.ofString "row")) .nil)) .nil)))) (envM ti ps ri (some (.int (k : Int))) x4 none none none none none none none none) S = some (.nx, envM ti ps ri (some (.int (k : Int))) (some (.int (j : Int))) none none none none none none none none, S1) := by
        simp (disch := first | (refine @id _ ?_; with_unfolding_all rfl) | assumption | omega) only [evl, l1, c1]
      have h1 : evW tab (callD F tab pg (n + 1)) (.tup (.cons (.ix (.var 2 (Str.ofString "row")) (.var 4 (Str.ofString "j"))) (.cons (.ix (.var 2 (Str.ofString "row")) (.var 3 (Str.ofString "k"))) .nil))) (envM ti ps ri (some (.int (k : Int))) (some (.int (j : Int))) none none none none none none none none) S1 = some (.d (.tup [.int ((row[j] : Nat) : Int), .int ((row[k] : Nat) : Int)]), S1) := by
        simp (disch := first | (refine @id _ ?_; with_unfolding_all rfl) | assumption | omega) only [evl, ij, ik]
      have v2 : ∀ T, evW tab (callD F tab pg (n + 1)) (.var 2 (Str.ofString "row")) (envM ti ps ri (some (.int (k : Int))) (some (.int (j : Int))) none none none none none none none none) T = some (.d (.ref ri), T) := fun T => by simp (disch := first | (refine @id _ ?_; with_unfolding_all rfl) | assumption | omega) only [evl]
      have v3 : ∀ T, evW tab (callD F tab pg (n + 1)) (.var 3 (Str.ofString "k")) (envM ti ps ri (some (.int (k : Int))) (some (.int (j : Int))) none none none none none none none none) T = some (.d (.int (k : Int)), T) := fun T => by simp (disch := first | (refine @id _ ?_; with_unfolding_all rfl) | assumption | omega) only [evl]
      have v4 : ∀ T, evW tab (callD F tab pg (n + 1)) (.var 4 (Str.ofString "j")) (envM ti ps ri (some (.int (k : Int))) (some (.int (j : Int))) none none none none none none none none) T = some (.d (.int (j : Int)), T) := fun T => by simp (disch := first | (refine @id _ ?_; with_unfolding_all rfl) | assumption | omega) only [evl]
      have g1 := setI_of tab (callD F tab pg (n + 1)) (envM ti ps ri (some (.int (k : Int))) (some (.int (j : Int))) none none none none none none none none) S1 (d := .int ((row[j] : Nat) : Int)) (v2 S1) (v3 S1) hs1 (nn _ k (by rw [List.length_map]; exact hk0))
      rw [es1] at g1
      have hs2 : (S1.set ri (.lst ((row.set k row[j]).map fun (x : Nat) => .int (x : Int))))[ri]? = some (.lst ((row.set k row[j]).map fun (x : Nat) => .int (x : Int))) := st_self hs1
      have g2 := setI_of tab (callD F tab pg (n + 1)) (envM ti ps ri (some (.int (k : Int))) (some (.int (j : Int))) none none none none none none none none) _ (d := .int ((row[k] : Nat) : Int)) (v2 _) (v4 _) hs2 (nn _ j (by rw [List.length_map, List.length_set]; exact hj))
      rw [es2, List.set_set] at g2
      have g3 := x_swp tab (callD F tab pg (n + 1)) F (envM ti ps ri (some (.int (k : Int))) (some (.int (j : Int))) none none none none none none none none) S1 h1 g1 g2
      unfold lp_law_memory_right2
      rw [x_cons, hasg, sq_nx, x_cons, g3, sq_nx, x_nil]
    obtain ⟨row', S', x3', x4', ih, i1, i2, i3⟩ := mr_swap hr hr0 ks ((row.set k row[j]).set j row[k]) (S1.set ri (.lst (((row.set k row[j]).set j row[k]).map fun (x : Nat) => .int (x : Int)))) (some (.int (k : Int))) (some (.int (j : Int))) (fun x hx => by rw [List.length_set, List.length_set]; exact hk x (List.mem_cons_of_mem _ hx)) (by rw [List.length_set, List.length_set]; exact hl) (t1.set hr hr0 _) (st_self hs1)
    refine ⟨row', S', x3', x4', ?_, i1.trans pm, i2, i3⟩
    have b1 : bindP (.nm 3 (Str.ofString "k")) (.int (k : Int)) (envM ti ps ri x3 x4 none none none none none none none none) = some (envM ti ps ri (some (.int (k : Int))) x4 none none none none none none none none) := rfl
    rw [List.map_cons, forLoop_cons _ _ _ _ (chkG_nil S), stp_e, b1, bnd_some, kStp_e, hbody, bnd_some, kFl_nx]
    exact ih
end
end K53

set_option Elab.async false
set_option linter.all false
set_option maxRecDepth 100000
/-! N25: _law_memory_right -/
namespace K53
open PySem PySem.Spec PyProof.Rows L2 Z
theorem cut_neg (S : Sto) (r : List (List Nat)) (h : 1 ≤ r.length) : slW S (.d (dR r)) none (some (-1)) = some (.d (dR (r.take (r.length - 1)))) := by
  unfold dR
  show some (W.d (.tup (Z.cutD (r.map dI) none (some (-1))))) = _
  unfold Z.cutD
  have e : HT.sIx (r.map dI).length (r.map dI).length (some (-1)) = r.length - 1 := by
    unfold HT.sIx
    rw [List.length_map]
    show (if (-1 : Int) < 0 then ((-1 : Int) + (r.length : Int)).toNat else _) = _
    rw [if_pos (by decide)]
    omega
  rw [e, six0, Nat.sub_zero, List.drop_zero, List.map_take]
def vals : List D := [.int 0, .int 1, .int 2, .int 11, .int 77]
theorem vals_mem {x : D} (h : x ∈ vals) : ∃ c : Nat, x = .int (c : Int) := by
  unfold vals at h
  simp only [List.mem_cons, List.not_mem_nil, or_false] at h
  rcases h with rfl | rfl | rfl | rfl | rfl
  · exact ⟨0, rfl⟩
  · exact ⟨1, rfl⟩
  · exact ⟨2, rfl⟩
  · exact ⟨11, rfl⟩
  · exact ⟨77, rfl⟩
theorem notN_non (S : Sto) : cmpW S .notN (.d .non) (.d .non) = some false := rfl
section
variable (F n : Nat)
theorem bent_lc (ps : List Pg) (S : Sto) (bi : Nat) (bent : List D) (hb : S[bi]? = some (.lst bent)) (hl : bent.length ≤ 1000) (hn : ∀ x ∈ bent, callD F tab pg (n + 3) "order_for" [dPs ps, x] S = some (.d .non, S)) (x0 x2 x3 x4 x5 x6 x7 x8 x9 x10 x11 x12 : Option D) :
    lcLoop [(bi, bent)] (lcStep tab (callD F tab pg (n + 3)) [((Str.ofString "one"), 14)] ce_law_memory_right2 (.nm 14 (Str.ofString "one")) .nil [x0, some (dPs ps), x2, x3, x4, x5, x6, x7, x8, x9, x10, x11, x12, none, none]) bent [] S = some (bent.map fun _ => D.bl false, S) := by
  have h := lc_map (G := [(bi, bent)]) (st := lcStep tab (callD F tab pg (n + 3)) [((Str.ofString "one"), 14)] ce_law_memory_right2 (.nm 14 (Str.ofString "one")) .nil [x0, some (dPs ps), x2, x3, x4, x5, x6, x7, x8, x9, x10, x11, x12, none, none]) (S := S) (fun x : D => x) (fun _ => some (D.bl false)) (chk_self hb) bent [] (fun x hx => by
    rw [lcStep_e]
    have hw : wipeD [x0, some (dPs ps), x2, x3, x4, x5, x6, x7, x8, x9, x10, x11, x12, none, none] (List.map (·.2) [((Str.ofString "one"), 14)]) = [x0, some (dPs ps), x2, x3, x4, x5, x6, x7, x8, x9, x10, x11, x12, none, none] := rfl
    rw [hw]
    have := hn x hx
    unfold ce_law_memory_right2
    simp (disch := first | (refine @id _ ?_; with_unfolding_all rfl) | assumption | omega) only [evl, this, notN_non]) (by simp; unfold LN; omega)
  rw [List.map_id'] at h
  rw [h, fm_some]
  rfl
theorem more_lc (r : List (List Nat)) (hl : r.length ≤ 1000) (h6 : ∀ o ∈ r, o.length ≤ 1000) (S : Sto) (cl : Calls) (x0 x1 x2 x3 x4 x5 x6 x7 x8 x9 x10 x11 x12 : Option D) :
    lcLoop [] (lcStep tab cl [((Str.ofString "own"), 13)] ce_law_memory_right1 (.nm 13 (Str.ofString "own")) .nil [x0, x1, x2, x3, x4, x5, x6, x7, x8, x9, x10, x11, x12, none, none]) (r.map dI) [] S = some ((r.map fun o => o ++ [0]).map dI, S) := by
  rw [lc_map dI (fun o => some (dI (o ++ [0]))) (chkG_nil _) r [] (fun o ho => ?_) (by simp; unfold LN; omega), fm_some, List.map_map]
  · rfl
  · rw [lcStep_e]
    have hw : wipeD [x0, x1, x2, x3, x4, x5, x6, x7, x8, x9, x10, x11, x12, none, none] (List.map (·.2) [((Str.ofString "own"), 13)]) = [x0, x1, x2, x3, x4, x5, x6, x7, x8, x9, x10, x11, x12, none, none] := rfl
    rw [hw]
    have sn : ∀ T, binW T .add (.d (dI o)) (.d (.tup [.int 0])) = some (.d (dI (o ++ [0]))) := fun T => snoc_I T o 0 (h6 o ho)
    unfold ce_law_memory_right1
    simp (disch := first | (refine @id _ ?_; with_unfolding_all rfl) | assumption | omega) only [evl, sn]
theorem sp_memory {ti : Nat} {S : Sto} (hF : 4 ^ 18 < F) (ht0 : ti ≠ 0) (t : TapeOk ti S) : ∃ S', callD F tab pg (n + 4) "_law_memory_right" [.ref ti] S = some (.d (.bl true), S') ∧ TapeOk ti S' := by
  have hF1 : 100 ≤ F := by
    have : 100 ≤ 4 ^ 18 := by decide
    omega
  obtain ⟨ps, S1, c1, ok, t1⟩ := sp_programs F n ht0 t
  have ha := ok.a
  have hb := ok.b
  have tl := t1.len
  have rc := sp_race F (n + 1) hF1 ok S1
  have lr := sp_law_race F (n + 2) hF1 ok S1
  have q0 := eq_oRow S1 (raceR ps F) (raceR ps F)
  rw [decide_eq_true rfl] at q0
  -- the row
  have r0 : rngW [.d (.int (ps.length : Int))] = some ((List.range' 0 ps.length).map fun (x : Nat) => .int (x : Int)) := by rw [rng_n (by omega), List.range_eq_range']
  obtain ⟨row, S2, x3, h2, B2, l2, t2, s2⟩ := mr_ext F ok (callD F tab pg (n + 3)) (ti := ti) (ri := S1.length) (by omega) (by omega) ps.length 0 [] (S1 ++ [.lst []]) none (by omega) (by simp) (t1.app _) app_get ⟨fun x hx => (nomatch hx), fun h p hh => by omega⟩
  have n2 := len_l s2
  rw [List.length_map] at n2
  have r2 := rng_n (k := row.length) (by omega)
  obtain ⟨row', S3, x3', x4', h3, pm, t3, s3⟩ := mr_swap F (n + 2) (ps := ps) (ti := ti) (ri := S1.length) (by omega) (by omega) (List.range row.length) row S2 x3 none (fun k hk => List.mem_range.mp hk) (by omega) t2 s2
  have t3l := t3.len
  obtain ⟨tt, run⟩ := run_ex row' (st0 ps.length) (SI.start ps) (fun h hh => B2.lt h (pm.mem_iff.mp hh)) (fun h q hq => by
    have hh : h < ps.length := (List.getElem?_eq_some_iff.mp hq).1
    have := B2.ct h q hh hq
    rw [pm.count_eq]
    have e : (List.replicate ps.length 0).getD h 0 = 0 := by
      rw [List.getD_eq_getElem?_getD, List.getElem?_replicate]; split <;> rfl
    show row.count h + (List.replicate ps.length 0).getD h 0 = _
    rw [e, this]; rfl)
  have bt : biW S3 .tuple [.d (.ref S1.length)] = some (.d (dI row')) := by
    show (seqOf S3 (.d (.ref S1.length))).map _ = _
    rw [seq_l s3]; rfl
  have rn := sp_run F n S3 ok run
  obtain ⟨told, le1, le2⟩ := least_le ok run
  obtain ⟨t', run', er', em'⟩ := least_sound ok le1
  have rn' := sp_run F n S3 ok run'
  rw [er', em'] at rn'
  have of1 := sp_order F n hF ok tt.r tt.m S3
  have It := run_si row' (SI.start ps) run
  have ll1 := sp_least F (n + 1) hF ok tt.r It.lr tt.m S3
  rw [le1] at of1 ll1
  have q1 : eqW S3 (.d (dI told)) (.d (dI told)) = some true := by rw [eq_I, decide_eq_true rfl]
  have q2 := gt_I S3 told row'
  rw [le2] at q2
  have q3 : eqW S3 (.d (dEnd tt.r tt.m)) (.d (dEnd tt.r tt.m)) = some true := by rw [eq_End]; simp
  have oT : oRow (some told) = dI told := rfl
  rw [oT] at of1 ll1
  have lr3 := It.lr
  have m18 := It.m18 ok
  -- the bent ends
  have b1 : ∀ T, binW T .add (.d (dR tt.r)) (.d (.tup [.tup []])) = some (.d (dR (tt.r ++ [[]]))) := fun T => snoc_R T tt.r [] (by unfold LN; omega)
  have b2 : ∀ T, slW T (.d (dR tt.r)) none (some (-1)) = some (.d (dR (tt.r.take (tt.r.length - 1)))) := fun T => cut_neg T tt.r (by omega)
  have b3 : ∀ T, binW T .add (.d (dM tt.m)) (.d (.tup [.tup [.int 99, .int 1]])) = some (.d (dM (tt.m ++ [(99, 1)]))) := fun T => by
    unfold dM
    rw [cat_t T (by rw [List.length_map]; show _ + 1 ≤ LN; unfold LN; omega), List.map_append]
    rfl
  have h6 : ∀ o ∈ tt.r, o.length ≤ 1000 := fun o ho => by
    obtain ⟨i, hi⟩ := List.mem_iff_getElem?.mp ho
    have := It.r6 ok i
    rw [List.getD_eq_getElem?_getD, hi] at this
    show o.length ≤ 1000
    have h' : o.length ≤ 6 := this
    omega
  have sqR : ∀ T, seqOf T (.d (dR tt.r)) = some (tt.r.map dI) := fun T => rfl
  have gdR : ∀ T, guardOf T (.d (dR tt.r)) = [] := fun T => rfl
  have b4 := more_lc tt.r (by omega) h6 S3 (callD F tab pg (n + 3)) (some (.ref ti)) (some (dPs ps)) (some (.ref S1.length)) x3' x4' (some (dEnd tt.r tt.m)) (some (dI told)) (some (dR tt.r)) (some (dM tt.m)) none none none none
  have b5 : ∀ T, biW T .tuple [.tmp ((tt.r.map fun o => o ++ [0]).map dI)] = some (.d (dR (tt.r.map fun o => o ++ [0]))) := fun T => rfl
  generalize hbent : [D.tup [dR (tt.r ++ [[]]), dM tt.m], .tup [dR (tt.r.take (tt.r.length - 1)), dM tt.m], .tup [dR tt.r, dM (tt.m ++ [(99, 1)])], .tup [dR (tt.r.map fun o => o ++ [0]), dM tt.m]] = bent
  have hnone : ∀ T, ∀ x ∈ bent, callD F tab pg (n + 3) "order_for" [dPs ps, x] T = some (.d .non, T) := by
    intro T x hx
    rw [← hbent] at hx
    simp only [List.mem_cons, List.not_mem_nil, or_false] at hx
    rcases hx with rfl | rfl | rfl | rfl
    · rw [show D.tup [dR (tt.r ++ [[]]), dM tt.m] = dEnd (tt.r ++ [[]]) tt.m from rfl, sp_order F n hF ok, bent_len ok (by rw [List.length_append]; simp; omega)]; rfl
    · rw [show D.tup [dR (tt.r.take (tt.r.length - 1)), dM tt.m] = dEnd (tt.r.take (tt.r.length - 1)) tt.m from rfl, sp_order F n hF ok, bent_len ok (by rw [List.length_take]; omega)]; rfl
    · rw [show D.tup [dR tt.r, dM (tt.m ++ [(99, 1)])] = dEnd tt.r (tt.m ++ [(99, 1)]) from rfl, sp_order F n hF ok, bent_mem ok (by simp)]; rfl
    · rw [show D.tup [dR (tt.r.map fun o => o ++ [0]), dM tt.m] = dEnd (tt.r.map fun o => o ++ [0]) tt.m from rfl, sp_order F n hF ok, bent_more ok run]; rfl
  have bl : bent.length ≤ 1000 := by rw [← hbent]; simp
  have hbl : ∀ T, biW T .any [.tmp (bent.map fun _ => D.bl false)] = some (.d (.bl false)) := fun T => by
    have hf : (bent.any fun _ => false) = false := List.any_eq_false.mpr fun x _ => Bool.false_ne_true
    rw [any_map T (fun _ => false) bent, hf]
  have t3b := t3.app (.lst bent)
  have s3b : (S3 ++ [O.lst bent])[S3.length]? = some (.lst bent) := app_get
  obtain ⟨hd, S4, c4, hd4, t4, m4⟩ := sp_take F (n + 2) t3b (many := (ps.length : Int)) (by omega) (dv (by omega) (by omega))
  have hhd : hd < ps.length := by omega
  have s4b : S4[S3.length]? = some (.lst bent) := by rw [m4.1 _ (by omega)]; exact s3b
  generalize how : tt.r.getD hd [] = own
  have ho : tt.r[hd]? = some own := by rw [← how]; exact getD_some [] (by omega)
  have i4 := fun T => ix_R T ho
  have ol : own.length ≤ 6 := by rw [← how]; exact It.r6 ok hd
  rw [call_im look_law_memory_right rfl rfl, show env0 d_law_memory_right [.ref ti] = [some (.ref ti), none, none, none, none, none, none, none, none, none, none, none, none, none, none] from rfl]
  show ∃ S', fin (evS tab (callD F tab pg (n + 3)) F s_law_memory_right _ _) = _ ∧ _
  by_cases hown : 0 < own.length
  · have k1 : decide ((0 : Int) < (own.length : Int)) = true := decide_eq_true (by omega)
    obtain ⟨k, S5, c5, hk5, t5, m5⟩ := sp_take F (n + 2) t4 (many := (own.length : Int)) (by omega) (dv (by omega) (by omega))
    have hk : k < own.length := by omega
    have t5l := t5.len
    have mm1 : (S5 ++ [O.lst vals])[S5.length]? = some (.lst vals) := app_get
    obtain ⟨x, S6, c6, hx, t6, m6⟩ := sp_pick F (n + 1) (t5.app (.lst vals)) (by omega) mm1 (by decide) (by decide)
    obtain ⟨v, rfl⟩ := vals_mem hx
    have l35 : S3.length < S5.length := by rw [m5.2, m4.2, List.length_append]; simp
    have s6b : S6[S3.length]? = some (.lst bent) := by
      rw [m6.1 _ (by omega)]
      exact app_old (by rw [m5.1 _ (by omega)]; exact s4b)
    have ek : ((k : Nat) : Int) + 1 = ((k + 1 : Nat) : Int) := by omega
    have eh : ((hd : Nat) : Int) + 1 = ((hd + 1 : Nat) : Int) := by omega
    have u1 := fun T => snoc_I T (own.take k) v (by rw [List.length_take]; omega)
    have u2 := fun T => cutf_I T (xs := own) (h := k + 1) (by omega)
    have u3 := fun T => cat_II T (own.take k ++ [v]) (own.drop (k + 1)) (by simp only [List.length_append, List.length_take, List.length_drop, List.length_cons, List.length_nil]; unfold LN; omega)
    have u4 := set_l (xs := own) (h := k) (one := v) hk
    have u5 := fun T => snoc_R T (tt.r.take hd) (own.set k v) (by rw [List.length_take]; unfold LN; omega)
    have u6 := fun T => cutf_R T (xs := tt.r) (h := hd + 1) (by omega)
    have u7 := fun T => cat_RR T (tt.r.take hd ++ [own.set k v]) (tt.r.drop (hd + 1)) (by simp only [List.length_append, List.length_take, List.length_drop, List.length_cons, List.length_nil]; unfold LN; omega)
    have u8 := set_l (xs := tt.r) (h := hd) (one := own.set k v) (by omega)
    have of2 : callD F tab pg (n + 3) "order_for" [dPs ps, .tup [dR (tt.r.set hd (own.set k v)), dM tt.m]] S6 = _ := sp_order F n hF ok (tt.r.set hd (own.set k v)) tt.m S6
    have ll2 : callD F tab pg (n + 3) "_law_least" [dPs ps, .tup [dR (tt.r.set hd (own.set k v)), dM tt.m]] S6 = _ := sp_least F (n + 1) hF ok (tt.r.set hd (own.set k v)) (by rw [List.length_set]; exact lr3) tt.m S6
    have q4 := eq_oRow S6 (least ps (tt.r.set hd (own.set k v)) tt.m) (least ps (tt.r.set hd (own.set k v)) tt.m)
    rw [decide_eq_true rfl] at q4
    have sb := seq_l s6b
    have gb := gd_l s6b
    have lb := bent_lc F n ps S6 S3.length bent s6b bl (hnone S6) (some (.ref ti)) (some (.ref S1.length)) (some (.int (k : Int))) x4' (some (dEnd tt.r tt.m)) (some (dI told)) (some (dR tt.r)) (some (dM tt.m)) (some (.ref S3.length)) (some (.int (hd : Int))) (some (.int (v : Int))) (some (dR (tt.r.set hd (own.set k v))))
    have mv : [D.int 0, D.int 1, D.int 2, D.int 11, D.int 77] = vals := rfl
    refine ⟨S6, ?_, t6⟩
    unfold s_law_memory_right
    simp (disch := first | (refine @id _ ?_; with_unfolding_all rfl) | assumption | omega) only [evl, lits, kds, kdec, reduceCtorEq, List.isEmpty_nil, List.isEmpty_cons, gls, c1, rc, lr, q0, le_pp, r0, h2, n2, r2, h3, bt, rn, of1, ll1, q1, q2, rn', q3, b1, b2, b3, sqR, gdR, b4, b5, hbent, c4, i4, le_I, k1, c5, mv, c6, cut_R, cut_I, u1, ek, u2, u3, u4, u5, eh, u6, u7, u8, of2, ll2, q4, sb, gb, lb, hbl]
  · have k1 : decide ((0 : Int) < (own.length : Int)) = false := decide_eq_false (by omega)
    have sb := seq_l s4b
    have gb := gd_l s4b
    have lb := bent_lc F n ps S4 S3.length bent s4b bl (hnone S4) (some (.ref ti)) (some (.ref S1.length)) x3' x4' (some (dEnd tt.r tt.m)) (some (dI told)) (some (dR tt.r)) (some (dM tt.m)) (some (.ref S3.length)) (some (.int (hd : Int))) none none
    refine ⟨S4, ?_, t4⟩
    unfold s_law_memory_right
    simp (disch := first | (refine @id _ ?_; with_unfolding_all rfl) | assumption | omega) only [evl, lits, kds, kdec, reduceCtorEq, List.isEmpty_nil, List.isEmpty_cons, gls, c1, rc, lr, q0, le_pp, r0, h2, n2, r2, h3, bt, rn, of1, ll1, q1, q2, rn', q3, b1, b2, b3, sqR, gdR, b4, b5, hbent, c4, i4, le_I, k1, sb, gb, lb, hbl]
end
end K53

set_option Elab.async false
set_option linter.all false
set_option maxRecDepth 100000
/-! N26: colours: the plain law; check_web -/
namespace K53
open PySem PySem.Spec PyProof.Rows L2 Z
abbrev Pr := List (Nat × Nat)
def usedD (P : Pr) (row : List Nat) (k : Nat) : List Nat := (P.filter fun p => decide (p.2 = k)).map fun p => row.getD p.1 0
def nearN (P : Pr) (k : Nat) : List Nat := (List.range k).filter fun o => P.any fun p => decide (p = (o, k))
def usedN (P : Pr) (row : List Nat) (k : Nat) : List Nat := (nearN P k).map fun o => row.getD o 0
def free (many : Nat) (used : List Nat) : List Nat := (List.range many).filter fun x => !(used.any fun y => decide (y = x))
def next (many : Nat) (P : Pr) (row : List Nat) (k : Nat) : Nat := (free many (usedD P row k)).getD 0 0
def grow (many : Nat) (P : Pr) : Nat → List Nat
  | 0 => []
  | k + 1 => grow many P k ++ [next many P (grow many P k) k]
theorem grow_len (many : Nat) (P : Pr) : ∀ k, (grow many P k).length = k
  | 0 => rfl
  | k + 1 => by rw [grow, List.length_append, grow_len many P k]; rfl
structure PO (many : Nat) (P : Pr) : Prop where
  lt : ∀ p ∈ P, p.1 < p.2 ∧ p.2 < many
  m : many ≤ 8
  l : P.length ≤ 1000
theorem any_mem (l : List Nat) (x : Nat) : (l.any fun y => decide (y = x)) = decide (x ∈ l) := by
  by_cases h : x ∈ l
  · rw [decide_eq_true h, List.any_eq_true]
    exact ⟨x, h, decide_eq_true rfl⟩
  · rw [decide_eq_false h, List.any_eq_false]
    intro y hy z
    exact h ((of_decide_eq_true z) ▸ hy)
theorem used_mem {many : Nat} {P : Pr} (o : PO many P) (row : List Nat) (k x : Nat) : x ∈ usedD P row k ↔ x ∈ usedN P row k := by
  unfold usedD usedN nearN
  constructor
  · intro h
    obtain ⟨p, hp, rfl⟩ := List.mem_map.mp h
    obtain ⟨h1, h2⟩ := List.mem_filter.mp hp
    have h3 : p.2 = k := of_decide_eq_true h2
    refine List.mem_map.mpr ⟨p.1, List.mem_filter.mpr ⟨List.mem_range.mpr (by have := (o.lt p h1).1; omega), ?_⟩, rfl⟩
    exact List.any_eq_true.mpr ⟨p, h1, decide_eq_true (by rw [← h3])⟩
  · intro h
    obtain ⟨q, hq, rfl⟩ := List.mem_map.mp h
    obtain ⟨h1, h2⟩ := List.mem_filter.mp hq
    obtain ⟨p, hp, hd⟩ := List.any_eq_true.mp h2
    have hd' := of_decide_eq_true hd
    subst hd'
    exact List.mem_map.mpr ⟨(q, k), List.mem_filter.mpr ⟨hp, decide_eq_true rfl⟩, rfl⟩
theorem free_eq {many : Nat} {P : Pr} (o : PO many P) (row : List Nat) (k : Nat) : free many (usedN P row k) = free many (usedD P row k) := by
  unfold free
  congr 1
  funext x
  rw [any_mem, any_mem]
  by_cases h : x ∈ usedD P row k
  · rw [decide_eq_true h, decide_eq_true ((used_mem o row k x).mp h)]
  · rw [decide_eq_false h, decide_eq_false (fun z => h ((used_mem o row k x).mpr z))]
theorem sub_len : ∀ (l m : List Nat), l.Nodup → (∀ x ∈ l, x ∈ m) → l.length ≤ m.length
  | [], m, _, _ => Nat.zero_le _
  | a :: l, m, hn, h => by
    have hn' := List.nodup_cons.mp hn
    have ha := h a List.mem_cons_self
    have := sub_len l (m.erase a) hn'.2 fun x hx => (List.mem_erase_of_ne (fun z => hn'.1 (by rw [← z]; exact hx))).mpr (h x (List.mem_cons_of_mem _ hx))
    rw [List.length_erase_of_mem ha] at this
    have hpos : 0 < m.length := List.length_pos_of_mem ha
    rw [List.length_cons]
    omega
theorem free_ne {many : Nat} {P : Pr} (o : PO many P) (row : List Nat) {k : Nat} (hk : k < many) : free many (usedN P row k) ≠ [] := by
  intro h
  have hall : ∀ x ∈ List.range many, x ∈ usedN P row k := by
    intro x hx
    have := List.filter_eq_nil_iff.mp h x hx
    simp only [Bool.not_eq_true', Bool.not_eq_false] at this
    rw [any_mem] at this
    simpa using this
  have h1 := sub_len _ _ List.nodup_range hall
  rw [List.length_range] at h1
  have h2 : (usedN P row k).length ≤ k := by
    unfold usedN nearN
    rw [List.length_map]
    have := List.length_filter_le (fun o => P.any fun p => decide (p = (o, k))) (List.range k)
    rw [List.length_range] at this
    exact this
  omega
theorem free_cons {many : Nat} {P : Pr} (o : PO many P) (row : List Nat) {k : Nat} (hk : k < many) : ∃ r, free many (usedD P row k) = next many P row k :: r ∧ (next many P row k :: r).Pairwise (· < ·) := by
  have h1 := free_ne o row hk
  rw [free_eq o] at h1
  have hp : (free many (usedD P row k)).Pairwise (· < ·) := List.Pairwise.filter _ List.pairwise_lt_range
  unfold next
  cases hf : free many (usedD P row k) with
  | nil => exact absurd hf h1
  | cons a r => rw [hf] at hp; exact ⟨r, rfl, hp⟩
theorem minL_head {a : Int} {r : List Int} (h : ∀ x ∈ r, a ≤ x) : minL (a :: r) = a := by
  cases r with
  | nil => rfl
  | cons b r =>
    unfold minL
    have hm := minL_mem (ns := b :: r) (by simp)
    have := h _ hm
    rw [if_neg (by omega)]
theorem ints_I : ∀ xs : List Nat, intsOf (xs.map fun (n : Nat) => D.int (n : Int)) = some (xs.map fun (n : Nat) => (n : Int))
  | [] => rfl
  | x :: xs => by rw [List.map_cons]; unfold intsOf; rw [ints_I xs]; rfl
theorem min_free (S : Sto) {a : Nat} {r : List Nat} (h : (a :: r).Pairwise (· < ·)) : biW S .min [.tmp ((a :: r).map fun (n : Nat) => D.int (n : Int))] = some (.d (.int (a : Int))) := by
  have e : biW S .min [.tmp ((a :: r).map fun (n : Nat) => D.int (n : Int))] = (match intsOf ((a :: r).map fun (n : Nat) => D.int (n : Int)) with
    | some ns => some (.d (.int (minL ns)))
    | none => if ordOk ((a :: r).map fun (n : Nat) => D.int (n : Int)) = true then some (.d (minD ((a :: r).map fun (n : Nat) => D.int (n : Int)))) else none) := rfl
  rw [e, ints_I]
  show some (W.d (.int (minL ((a : Int) :: r.map fun (n : Nat) => (n : Int))))) = _
  rw [minL_head fun x hx => by
    obtain ⟨y, hy, rfl⟩ := List.mem_map.mp hx
    have := (List.pairwise_cons.mp h).1 y hy
    omega]
theorem in_I {S : Sto} {w : W} {ys : List Nat} (hw : lstOf S w = some (ys.map fun (n : Nat) => D.int (n : Int))) (hd : dicOf S w = none) (ht : ∀ zs, w ≠ .d (.tup zs)) (x : Nat) : inW S (.d (.int (x : Int))) w = some (ys.any fun y => decide (y = x)) := by
  rw [in_lst (n := 0) (m := 0) S hw hd ht (pln_int _ 0) (pln_all (fun _ => pln_int _ 0) ys) (by decide) (by decide), List.any_map]
  congr 1
  refine any_congr' fun y _ => ?_
  show eqD (.int (y : Int)) (.int (x : Int)) = _
  rw [eqD]
  by_cases e : y = x
  · rw [decide_eq_true e, decide_eq_true (by omega)]
  · rw [decide_eq_false e, decide_eq_false (by omega)]
theorem lst_l {S : Sto} {q : Nat} {xs : List D} (h : S[q]? = some (.lst xs)) : lstOf S (.d (.ref q)) = some xs := seq_l h
theorem in_Ir {S : Sto} {q : Nat} {ys : List Nat} (h : S[q]? = some (.lst (ys.map fun (n : Nat) => D.int (n : Int)))) (x : Nat) : inW S (.d (.int (x : Int))) (.d (.ref q)) = some (ys.any fun y => decide (y = x)) :=
  in_I (lst_l h) (by unfold dicOf; simp only [h, isDO]; rfl) (fun _ z => by cases z) x
theorem in_P (S : Sto) (P : Pr) (p : Nat × Nat) : inW S (.d (.tup [.int (p.1 : Int), .int (p.2 : Int)])) (.d (dM P)) = some (P.any fun q => decide (q = p)) := by
  rw [show dM P = D.tup (P.map d2) from rfl, in_pl (n := 1) (m := 1) S (pln_d2 p) (pln_all pln_d2 P) (by decide) (by decide), List.any_map]
  congr 1
  refine any_congr' fun q _ => ?_
  exact eqD_inj d2_inj q p
section
variable (F n : Nat)
theorem web_loop (cl : Calls) (S : Sto) {many : Nat} : ∀ (P : Pr), (∀ p ∈ P, p.1 < p.2 ∧ p.2 < many) → ∀ (x1 x2 x3 : Option D), ∃ ρ', forLoop [] (stp tab cl F (.tup (.cons (.nm 2 (Str.ofString "one")) (.cons (.nm 3 (Str.ofString "other")) .nil))) lp_check_web1) (P.map d2) [some (.int (many : Int)), x1, x2, x3] S = some (.nx, ρ', S)
  | [], _, x1, x2, x3 => ⟨_, by rw [List.map_nil, forLoop_nil _ _ (chkG_nil S)]⟩
  | p :: P, h, x1, x2, x3 => by
    obtain ⟨ρ', ih⟩ := web_loop cl S P (fun q hq => h q (List.mem_cons_of_mem _ hq)) x1 (some (.int (p.1 : Int))) (some (.int (p.2 : Int)))
    refine ⟨ρ', ?_⟩
    obtain ⟨h1, h2⟩ := h p List.mem_cons_self
    have k1 : decide ((0 : Int) ≤ (p.1 : Int)) = true := decide_eq_true (by omega)
    have k2 : decide ((p.1 : Int) < (p.2 : Int)) = true := decide_eq_true (by omega)
    have k3 : decide ((p.2 : Int) < (many : Int)) = true := decide_eq_true (by omega)
    rw [List.map_cons, forLoop_cons _ _ _ _ (chkG_nil S), stp_e]
    unfold lp_check_web1 at *
    simp (disch := first | (refine @id _ ?_; with_unfolding_all rfl) | assumption | omega) only [evl, lits, kds, kdec, reduceCtorEq, List.isEmpty_nil, List.isEmpty_cons, gls, k1, k2, k3, ih]
theorem sp_web {many : Nat} {P : Pr} (o : PO many P) (S : Sto) : callD F tab pg (n + 1) "check_web" [.int (many : Int), dM P] S = some (.d .non, S) := by
  refine call_px look_check_web rfl (pr2 rfl rfl (pu_M P)) (w := .d .non) (S' := []) ?_ rfl S
  rw [show env0 d_check_web [.int (many : Int), dM P] = [some (.int (many : Int)), some (dM P), none, none] from rfl]
  show fin (evS tab _ F s_check_web _ _) = _
  obtain ⟨ρ', h⟩ := web_loop F (callD F tab pg n) [] (many := many) P o.lt (some (dM P)) none none
  have hm := o.m
  have k1 : decide ((0 : Int) ≤ (many : Int)) = true := decide_eq_true (by omega)
  have k2 : decide ((many : Int) ≤ 12) = true := decide_eq_true (by omega)
  have e2 : seqOf [] (.d (dM P)) = some (P.map d2) := rfl
  have e3 : guardOf [] (.d (dM P)) = [] := rfl
  unfold s_check_web
  simp (disch := first | (refine @id _ ?_; with_unfolding_all rfl) | assumption | omega) only [evl, lits, kds, kdec, reduceCtorEq, List.isEmpty_nil, List.isEmpty_cons, gls, k1, k2, e2, e3, h]
end
end K53

set_option Elab.async false
set_option linter.all false
set_option maxRecDepth 100000
/-! N27: colour -/
namespace K53
open PySem PySem.Spec PyProof.Rows L2 Z
abbrev iI (xs : List Nat) : List D := xs.map fun (n : Nat) => D.int (n : Int)
section
variable (F n : Nat)
abbrev envC (many : Nat) (P : Pr) (col : Int) (x3 x4 x5 x6 x7 x8 x9 : Option D) : Z.Env := [some (.int (many : Int)), some (dM P), some (.int col), x3, x4, x5, x6, x7, x8, x9]
theorem near_in {many : Nat} {P : Pr} (o : PO many P) (cl : Calls) (col : Int) {k : Nat} (hk : k < many) (S : Sto) (x3 x4 x5 x6 x7 : Option D) :
    evW tab cl ce_colour2 (envC many P col x3 x4 x5 x6 x7 (some (.int (k : Int))) none) S = some (.tmp (iI (nearN P k)), S) := by
  have hm := o.m
  have r1 := rng_n (k := k) (by omega)
  have h := lc_map (G := []) (st := lcStep tab cl [((Str.ofString "other"), 9)] ce_colour1 (.nm 9 (Str.ofString "other")) ct_colour1 (envC many P col x3 x4 x5 x6 x7 (some (.int (k : Int))) none)) (S := S) (fun (x : Nat) => D.int (x : Int)) (fun x => if (P.any fun p => decide (p = (x, k))) = true then some (D.int (x : Int)) else none) (chkG_nil S) (List.range k) [] (fun x hx => by
    rw [lcStep_e]
    have hw : wipeD (envC many P col x3 x4 x5 x6 x7 (some (.int (k : Int))) none) (List.map (·.2) [((Str.ofString "other"), 9)]) = envC many P col x3 x4 x5 x6 x7 (some (.int (k : Int))) none := rfl
    rw [hw]
    have ip := fun S => in_P S P (x, k)
    unfold ce_colour1 ct_colour1
    cases hc : P.any fun p => decide (p = (x, k)) with
    | true =>
      rw [hc] at ip
      rw [if_pos rfl]
      simp (disch := first | (refine @id _ ?_; with_unfolding_all rfl) | assumption | omega) only [evl, lits, kds, kdec, reduceCtorEq, List.isEmpty_nil, List.isEmpty_cons, gls, ip]
    | false =>
      rw [hc] at ip
      rw [if_neg Bool.false_ne_true]
      simp (disch := first | (refine @id _ ?_; with_unfolding_all rfl) | assumption | omega) only [evl, lits, kds, kdec, reduceCtorEq, List.isEmpty_nil, List.isEmpty_cons, gls, ip]) (by rw [List.length_range]; simp; unfold LN; omega)
  rw [fm_if] at h
  unfold ce_colour2
  simp (disch := first | (refine @id _ ?_; with_unfolding_all rfl) | assumption | omega) only [evl, lits, kds, kdec, reduceCtorEq, List.isEmpty_nil, List.isEmpty_cons, gls, r1, h]
  rfl
theorem near_loop {many : Nat} {P : Pr} (o : PO many P) (cl : Calls) (col : Int) : ∀ (m i : Nat) (S : Sto), i + m ≤ many → S.length = i → (∀ k, k < i → S[k]? = some (.lst (iI (nearN P k)))) →
    ∃ S', lcLoop [] (lcStep tab cl [((Str.ofString "one"), 8), ((Str.ofString "other"), 9)] ce_colour2 (.nm 8 (Str.ofString "one")) .nil (envC many P col none none none none none none none)) ((List.range' i m).map fun (x : Nat) => .int (x : Int)) ((List.range i).map D.ref) S = some ((List.range (i + m)).map D.ref, S') ∧ S'.length = i + m ∧ ∀ k, k < i + m → S'[k]? = some (.lst (iI (nearN P k)))
  | 0, i, S, hm, hl, hk => ⟨S, by rw [List.range'_zero, List.map_nil, lcLoop_nil _ _ (chkG_nil S)]; rfl, hl, hk⟩
  | m + 1, i, S, hm, hl, hk => by
    have hom := o.m
    obtain ⟨S', ih, i1, i2⟩ := near_loop o cl col m (i + 1) (S ++ [.lst (iI (nearN P i))]) (by omega) (by rw [List.length_append, hl]; rfl) (fun k hk' => by
      by_cases e : k < i
      · exact app_old (hk k e)
      · have : k = S.length := by omega
        rw [this, hl]
        rw [← hl]
        exact app_get)
    refine ⟨S', ?_, by rw [i1]; omega, fun k hk' => i2 k (by omega)⟩
    have hst : lcStep tab cl [((Str.ofString "one"), 8), ((Str.ofString "other"), 9)] ce_colour2 (.nm 8 (Str.ofString "one")) .nil (envC many P col none none none none none none none) (.int (i : Int)) S = some (some (.ref i), S ++ [.lst (iI (nearN P i))]) := by
      rw [lcStep_e]
      have hw : wipeD (envC many P col none none none none none none none) (List.map (·.2) [((Str.ofString "one"), 8), ((Str.ofString "other"), 9)]) = envC many P col none none none none none none none := rfl
      rw [hw]
      have hi := near_in o cl col (show i < many by omega) S none none none none none
      have b1 : bindP (.nm 8 (Str.ofString "one")) (.int (i : Int)) (envC many P col none none none none none none none) = some (envC many P col none none none none none (some (.int (i : Int))) none) := rfl
      rw [b1, bnd_some, kLcP_e, c_nil, bnd_some, kLcT_t, hi]
      simp (disch := first | (refine @id _ ?_; with_unfolding_all rfl) | assumption | omega) only [evl, hl]
    rw [List.range'_succ, List.map_cons, lcLoop_cons _ _ _ _ (chkG_nil S), hst, bnd_some, kLl_s _ _ _ _ _ (by rw [List.length_map, List.length_range]; unfold LN; omega)]
    rw [show (List.range i).map D.ref ++ [D.ref i] = (List.range (i + 1)).map D.ref by rw [List.range_succ, List.map_append]; rfl, show i + (m + 1) = i + 1 + m by omega]
    exact ih
structure CI (many : Nat) (P : Pr) (ni ri c : Nat) (S : Sto) : Prop where
  nr : ∀ k, k < many → S[k]? = some (.lst (iI (nearN P k)))
  n : S[ni]? = some (.lst ((List.range many).map D.ref))
  r : S[ri]? = some (.lst (iI (grow many P c)))
theorem col_loop {many : Nat} {P : Pr} (o : PO many P) (cl : Calls) {col : Int} (hc : (many : Int) ≤ col) {ni ri : Nat} (hni : many ≤ ni) (hri : ni < ri) : ∀ (f c : Nat) (S : Sto) (x6 x7 x8 x9 : Option D), c ≤ many → many < f + c → CI many P ni ri c S →
    ∃ (S' : Sto) (x6' x7' x8' x9' : Option D), whl tab cl F lt_colour1 lp_colour1 f (envC many P col (some (.ref ni)) (some (.ref ri)) (some (.int 0)) x6 x7 none none) S = some (.nx, envC many P col (some (.ref ni)) (some (.ref ri)) (some (.int 0)) x6' x7' none none, S') ∧ S'[ri]? = some (.lst (iI (grow many P many)))
  | 0, c, S, x6, x7, x8, x9, hcm, hf, I => by omega
  | f + 1, c, S, x6, x7, x8, x9, hcm, hf, I => by
    have lr := len_l I.r
    rw [List.length_map, grow_len] at lr
    have hom := o.m
    rw [whl_s]
    by_cases hlt : c < many
    · have k1 : decide ((c : Int) < (many : Int)) = true := decide_eq_true (by omega)
      have ht : evT tab cl lt_colour1 (envC many P col (some (.ref ni)) (some (.ref ri)) (some (.int 0)) x6 x7 none none) S = some (true, S) := by
        unfold lt_colour1
        simp (disch := first | (refine @id _ ?_; with_unfolding_all rfl) | assumption | omega) only [evl, lr, k1]
      rw [ht, bnd_some, kWh_t]
      -- used
      have i1 := ix_lr (k := c) I.n (d := .ref c) (by rw [List.getElem?_map, List.getElem?_range hlt]; rfl)
      have sq := seq_l (I.nr c hlt)
      have gd := gd_l (I.nr c hlt)
      have hu := lc_map (G := [(c, iI (nearN P c))]) (st := lcStep tab cl [((Str.ofString "other"), 9)] ce_colour3 (.nm 9 (Str.ofString "other")) .nil (envC many P col (some (.ref ni)) (some (.ref ri)) (some (.int 0)) x6 x7 none none)) (S := S) (fun (x : Nat) => D.int (x : Int)) (fun x => some (D.int (((grow many P c).getD x 0 : Nat) : Int))) (chk_self (I.nr c hlt)) (nearN P c) [] (fun x hx => by
        have hxc : x < c := List.mem_range.mp (List.mem_filter.mp hx).1
        rw [lcStep_e]
        have hw : wipeD (envC many P col (some (.ref ni)) (some (.ref ri)) (some (.int 0)) x6 x7 none none) (List.map (·.2) [((Str.ofString "other"), 9)]) = envC many P col (some (.ref ni)) (some (.ref ri)) (some (.int 0)) x6 x7 none none := rfl
        rw [hw]
        have ix := ix_lr (k := x) I.r (d := .int (((grow many P c).getD x 0 : Nat) : Int)) (by rw [List.getElem?_map, getD_some 0 (show x < (grow many P c).length by rw [grow_len]; exact hxc)]; rfl)
        unfold ce_colour3
        simp (disch := first | (refine @id _ ?_; with_unfolding_all rfl) | assumption | omega) only [evl, ix]) (by
          have := List.length_filter_le (fun o => P.any fun p => decide (p = (o, c))) (List.range c)
          rw [List.length_range] at this
          show 0 + (nearN P c).length ≤ LN
          unfold nearN LN
          omega)
      rw [fm_some, List.nil_append] at hu
      have hu' : (nearN P c).map (fun x => D.int (((grow many P c).getD x 0 : Nat) : Int)) = iI (usedN P (grow many P c) c) := by
        show _ = List.map _ (List.map _ _)
        rw [List.map_map]
        rfl
      rw [hu'] at hu
      generalize hU : usedN P (grow many P c) c = U at *
      have e1 : Ext S (S ++ [.lst (iI U)]) := ⟨_, rfl⟩
      have u1 : (S ++ [O.lst (iI U)])[S.length]? = some (.lst (iI U)) := app_get
      -- free
      have bm : ∀ T, biW T .min [.d (.int col), .d (.int (many : Int))] = some (.d (.int (many : Int))) := fun T => by
        rw [bi_min]
        by_cases e : (many : Int) < col
        · rw [if_pos e]
        · rw [if_neg e]
          have : col = (many : Int) := by omega
          rw [this]
      have r2 : rngW [.d (.int 0), .d (.int (many : Int))] = some (iI (List.range many)) := by
        have h1 : rngOk 0 = true := by decide
        have h2 : rngOk (many : Int) = true := by unfold rngOk; simp; omega
        have e : rngW [.d (.int 0), .d (.int (many : Int))] = if (rngOk 0 && rngOk (many : Int)) = true then some (rngL 0 ((many : Int) - 0).toNat) else none := rfl
        rw [e, h1, h2]
        show some (rngL 0 ((many : Int) - 0).toNat) = _
        rw [show ((many : Int) - 0).toNat = many by omega]
        exact (rng_k (k := many) (by omega)).symm.trans (rng_n (k := many) (by omega))
      have hf' := lc_map (G := []) (st := lcStep tab cl [((Str.ofString "one"), 8)] ce_colour4 (.nm 8 (Str.ofString "one")) ct_colour2 (envC many P col (some (.ref ni)) (some (.ref ri)) (some (.int 0)) (some (.ref S.length)) x7 none none)) (S := S ++ [.lst (iI U)]) (fun (x : Nat) => D.int (x : Int)) (fun x => if (!(U.any fun y => decide (y = x))) = true then some (D.int (x : Int)) else none) (chkG_nil _) (List.range many) [] (fun x hx => by
        rw [lcStep_e]
        have hw : wipeD (envC many P col (some (.ref ni)) (some (.ref ri)) (some (.int 0)) (some (.ref S.length)) x7 none none) (List.map (·.2) [((Str.ofString "one"), 8)]) = envC many P col (some (.ref ni)) (some (.ref ri)) (some (.int 0)) (some (.ref S.length)) x7 none none := rfl
        rw [hw]
        have ip := in_Ir u1 x
        unfold ce_colour4 ct_colour2
        cases hq : U.any fun y => decide (y = x) with
        | true =>
          rw [hq] at ip
          rw [if_neg (by simp)]
          simp (disch := first | (refine @id _ ?_; with_unfolding_all rfl) | assumption | omega) only [evl, lits, kds, kdec, reduceCtorEq, List.isEmpty_nil, List.isEmpty_cons, gls, ip]
        | false =>
          rw [hq] at ip
          rw [if_pos (by simp)]
          simp (disch := first | (refine @id _ ?_; with_unfolding_all rfl) | assumption | omega) only [evl, lits, kds, kdec, reduceCtorEq, List.isEmpty_nil, List.isEmpty_cons, gls, ip]) (by rw [List.length_range]; simp; unfold LN; omega)
      rw [fm_if, List.nil_append] at hf'
      obtain ⟨fr, hfr, hasc⟩ := free_cons o (grow many P c) hlt
      rw [← free_eq o, hU] at hfr
      have hfr' : ((List.range many).filter fun x => !(U.any fun y => decide (y = x))).map (fun (x : Nat) => D.int (x : Int)) = iI (next many P (grow many P c) c :: fr) := by rw [← hfr]; rfl
      rw [hfr'] at hf'
      generalize hN : next many P (grow many P c) c = N at *
      have e2 : Ext S (S ++ [.lst (iI U)] ++ [.lst (iI (N :: fr))]) := e1.trans ⟨_, rfl⟩
      have f1 : ((S ++ [O.lst (iI U)]) ++ [O.lst (iI (N :: fr))])[(S ++ [O.lst (iI U)]).length]? = some (.lst (iI (N :: fr))) := app_get
      have tf := tru_l f1
      have if0 := ix_lr (k := 0) f1 (d := .int (N : Int)) rfl
      have rr := e2.get I.r
      have lR : lstO ((S ++ [O.lst (iI U)]) ++ [O.lst (iI (N :: fr))])[ri]? = some (iI (grow many P c)) := by rw [rr]; rfl
      have e5 := kApp4_e (n := ri) (S := (S ++ [O.lst (iI U)]) ++ [O.lst (iI (N :: fr))]) (d := .int (N : Int)) (xs := iI (grow many P c)) (by rw [List.length_map, grow_len]; unfold LN; omega)
      have e6 : iI (grow many P c) ++ [.int (N : Int)] = iI (grow many P (c + 1)) := by
        rw [grow, hN]
        show _ = List.map _ (_ ++ _)
        rw [List.map_append]
        rfl
      have i0 : ((0 : Nat) : Int) = 0 := rfl
      rw [i0] at if0
      have hbody : evS tab cl F lp_colour1 (envC many P col (some (.ref ni)) (some (.ref ri)) (some (.int 0)) x6 x7 none none) S = some (.nx, envC many P col (some (.ref ni)) (some (.ref ri)) (some (.int 0)) (some (.ref S.length)) (some (.ref (S ++ [O.lst (iI U)]).length)) none none, ((S ++ [O.lst (iI U)]) ++ [O.lst (iI (N :: fr))]).set ri (.lst (iI (grow many P (c + 1))))) := by
        have tf' : truW ((S ++ [O.lst (iI U)]) ++ [O.lst (iI (N :: fr))]) (.d (.ref (S ++ [O.lst (iI U)]).length)) = some true := tf
        unfold lp_colour1
        simp (disch := first | (refine @id _ ?_; with_unfolding_all rfl) | assumption | omega) only [evl, lr, i1, sq, gd, hu, bm, r2, hf', tf', if0, lR, e5, e6]
      rw [hbody, bnd_some, kWh2_nx]
      refine col_loop o cl hc hni hri f (c + 1) _ _ _ x8 x9 (by omega) (by omega) ⟨fun k hk => ?_, ?_, st_self rr⟩
      · rw [st_get (by omega)]; exact e2.get (I.nr k hk)
      · rw [st_get (by omega)]; exact e2.get I.n
    · have hcm' : c = many := by omega
      subst hcm'
      have k1 : decide ((c : Int) < (c : Int)) = false := decide_eq_false (by omega)
      have ht : evT tab cl lt_colour1 (envC c P col (some (.ref ni)) (some (.ref ri)) (some (.int 0)) x6 x7 none none) S = some (false, S) := by
        unfold lt_colour1
        simp (disch := first | (refine @id _ ?_; with_unfolding_all rfl) | assumption | omega) only [evl, lr, k1]
      rw [ht, bnd_some, kWh_f]
      exact ⟨S, x6, x7, x8, x9, rfl, I.r⟩
theorem sp_colour (hF : 100 ≤ F) {many : Nat} {P : Pr} (o : PO many P) {col : Int} (hc : (many : Int) ≤ col) (S : Sto) : callD F tab pg (n + 2) "colour" [.int (many : Int), dM P, .int col] S = some (.d (dI (grow many P many)), S) := by
  have hom := o.m
  have w := sp_web F n o []
  have k1 : decide (col < 0) = false := decide_eq_false (by omega)
  have r1 : rngW [.d (.int (many : Int))] = some ((List.range' 0 many).map fun (x : Nat) => .int (x : Int)) := by rw [rng_n (by omega), List.range_eq_range']
  obtain ⟨S1, h1, l1, n1⟩ := near_loop o (callD F tab pg (n + 1)) col many 0 [] (by omega) rfl (fun k hk => by omega)
  rw [Nat.zero_add] at h1 l1 n1
  rw [List.range_zero, List.map_nil] at h1
  have s2 : ((S1 ++ [O.lst ((List.range many).map D.ref)]) ++ [O.lst []]).length = many + 2 := by simp [l1]
  have CI0 : CI many P many (many + 1) 0 ((S1 ++ [.lst ((List.range many).map D.ref)]) ++ [.lst []]) := by
    refine ⟨fun k hk => app_old (app_old (n1 k hk)), ?_, ?_⟩
    · refine app_old ?_
      have := app_get (S := S1) (o := .lst ((List.range many).map D.ref))
      rw [l1] at this
      exact this
    · have := app_get (S := S1 ++ [.lst ((List.range many).map D.ref)]) (o := .lst [])
      rw [List.length_append, l1] at this
      exact this
  obtain ⟨S', x6', x7', x8', x9', hl, hr⟩ := col_loop F o (callD F tab pg (n + 1)) hc (ni := many) (ri := many + 1) (by omega) (by omega) F 0 _ none none none none (Nat.zero_le _) (by omega) CI0
  have bt : biW S' .tuple [.d (.ref (many + 1))] = some (.d (dI (grow many P many))) := by
    show (seqOf S' (.d (.ref (many + 1)))).map _ = _
    rw [seq_l hr]; rfl
  have hfin : fin (evS tab (callD F tab pg (n + 1)) F s_colour [some (.int (many : Int)), some (dM P), some (.int col), none, none, none, none, none, none, none] []) = some (.d (dI (grow many P many)), S') := by
    have l2 : (S1 ++ [O.lst ((List.range many).map D.ref)]).length = many + 1 := by rw [List.length_append, l1]; rfl
    unfold s_colour
    simp (disch := first | (refine @id _ ?_; with_unfolding_all rfl) | assumption | omega) only [evl, w, k1, r1, h1, l1, l2, hl, bt]
  exact call_px look_colour rfl (pr3 rfl rfl (pu_M P) rfl) hfin (ex_d (pu_I _)) S
end
end K53

set_option Elab.async false
set_option linter.all false
set_option maxRecDepth 100000
/-! N28: _law_colours_right, law -/
namespace K53
open PySem PySem.Spec PyProof.Rows L2 Z
section
variable (F n : Nat)
abbrev envX (ti many pi : Nat) (x3 x4 x5 x6 : Option D) : Z.Env := [some (.ref ti), some (.int (many : Int)), some (.ref pi), x3, x4, x5, x6, none, none, none]
theorem pr_lc {ti many pi k : Nat} (x4 x5 x6 : Option D) : ∀ (ks : List Nat) (acc : List D) (S : Sto), acc.length + ks.length ≤ 1000 → TapeOk ti S →
    ∃ (J : List Nat) (S' : Sto), lcLoop [] (lcStep tab (callD F tab pg (n + 1)) [((Str.ofString "j"), 7)] ce_law_colours_right1 (.nm 7 (Str.ofString "j")) ct_law_colours_right1 (envX ti many pi (some (.int (k : Int))) x4 x5 x6)) (ks.map fun (x : Nat) => .int (x : Int)) acc S = some (acc ++ (J.map fun j => d2 (j, k)), S') ∧ (∀ j ∈ J, j ∈ ks) ∧ J.length ≤ ks.length ∧ TapeOk ti S' ∧ Same ti S S'
  | [], acc, S, _, t => ⟨[], S, by rw [List.map_nil, lcLoop_nil _ _ (chkG_nil S)]; simp, (fun j hj => (nomatch hj)), Nat.le_refl _, t, Same.refl ti S⟩
  | j :: ks, acc, S, hl, t => by
    rw [List.length_cons] at hl
    obtain ⟨r, S1, c1, b1, t1, m1⟩ := sp_take F n t (many := 3) (by decide) (dv (by decide) (by decide))
    have hw : wipeD (envX ti many pi (some (.int (k : Int))) x4 x5 x6) (List.map (·.2) [((Str.ofString "j"), 7)]) = envX ti many pi (some (.int (k : Int))) x4 x5 x6 := rfl
    rw [List.map_cons, lcLoop_cons _ _ _ _ (chkG_nil S), lcStep_e, hw]
    cases hr : decide ((0 : Int) < (r : Int)) with
    | true =>
      obtain ⟨J, S', ih, i1, i2, i3, i4⟩ := pr_lc (many := many) (pi := pi) (k := k) x4 x5 x6 ks (acc ++ [d2 (j, k)]) S1 (by rw [List.length_append]; simp; omega) t1
      refine ⟨j :: J, S', ?_, fun q hq => ?_, by rw [List.length_cons, List.length_cons]; omega, i3, m1.trans i4⟩
      · have e4 : D.tup [.int (j : Int), .int (k : Int)] = d2 (j, k) := rfl
        have e5 := fun T => kLl_s [] (lcStep tab (callD F tab pg (n + 1)) [((Str.ofString "j"), 7)] ce_law_colours_right1 (.nm 7 (Str.ofString "j")) ct_law_colours_right1 (envX ti many pi (some (.int (k : Int))) x4 x5 x6)) (ks.map fun (x : Nat) => .int (x : Int)) (d2 (j, k)) T (acc := acc) (by unfold LN; omega)
        have hs : bnd (bindP (.nm 7 (Str.ofString "j")) (.int (j : Int)) (envX ti many pi (some (.int (k : Int))) x4 x5 x6)) (kLcP tab (callD F tab pg (n + 1)) ce_law_colours_right1 ct_law_colours_right1 S) = some (some (d2 (j, k)), S1) := by
          unfold ce_law_colours_right1 ct_law_colours_right1
          simp (disch := first | (refine @id _ ?_; with_unfolding_all rfl) | assumption | omega) only [evl, c1, hr, e4]
        rw [hs, bnd_some, e5, ih, List.map_cons, List.append_assoc]
        rfl
      · rcases List.mem_cons.mp hq with z | z
        · rw [z]; exact List.mem_cons_self
        · exact List.mem_cons_of_mem _ (i1 q z)
    | false =>
      obtain ⟨J, S', ih, i1, i2, i3, i4⟩ := pr_lc (many := many) (pi := pi) (k := k) x4 x5 x6 ks acc S1 (by omega) t1
      refine ⟨J, S', ?_, fun q hq => List.mem_cons_of_mem _ (i1 q hq), by rw [List.length_cons]; omega, i3, m1.trans i4⟩
      have hs : bnd (bindP (.nm 7 (Str.ofString "j")) (.int (j : Int)) (envX ti many pi (some (.int (k : Int))) x4 x5 x6)) (kLcP tab (callD F tab pg (n + 1)) ce_law_colours_right1 ct_law_colours_right1 S) = some (none, S1) := by
        unfold ce_law_colours_right1 ct_law_colours_right1
        simp (disch := first | (refine @id _ ?_; with_unfolding_all rfl) | assumption | omega) only [evl, c1, hr]
      rw [hs, bnd_some, kLl_n, ih]
theorem pr_loop {ti many pi : Nat} (hm : many ≤ 8) (hp : pi ≠ ti) (hp0 : pi ≠ 0) : ∀ (c k : Nat) (P : Pr) (S : Sto) (x3 : Option D), k + c = many → P.length ≤ 8 * k → (∀ p ∈ P, p.1 < p.2 ∧ p.2 < k) → TapeOk ti S → S[pi]? = some (.lst (P.map d2)) →
    ∃ (P' : Pr) (S' : Sto) (x3' : Option D), forLoop [] (stp tab (callD F tab pg (n + 1)) F (.nm 3 (Str.ofString "k")) lp_law_colours_right1) ((List.range' k c).map fun (x : Nat) => .int (x : Int)) (envX ti many pi x3 none none none) S = some (.nx, envX ti many pi x3' none none none, S') ∧ PO many P' ∧ TapeOk ti S' ∧ S'[pi]? = some (.lst (P'.map d2))
  | 0, k, P, S, x3, hk, hl, hP, t, hs => ⟨P, S, x3, by rw [List.range'_zero, List.map_nil, forLoop_nil _ _ (chkG_nil S)], ⟨fun p hp' => by have := hP p hp'; omega, hm, by omega⟩, t, hs⟩
  | c + 1, k, P, S, x3, hk, hl, hP, t, hs => by
    obtain ⟨J, S1, h1, j1, j2, t1, m1⟩ := pr_lc F n (ti := ti) (many := many) (pi := pi) (k := k) none none none (List.range k) [] S (by rw [List.length_range]; simp; omega) t
    rw [List.length_range] at j2
    rw [List.nil_append] at h1
    have hs1 : S1[pi]? = some (.lst (P.map d2)) := by rw [m1.1 pi hp]; exact hs
    have o1 := ext_ok hs
    have o2 := ext_do (ys := J.map fun j => d2 (j, k)) hs1 (by rw [List.length_map, List.length_map]; unfold LN; omega)
    have e1 : (P.map d2 ++ J.map fun j => d2 (j, k)) = (P ++ J.map fun j => (j, k)).map d2 := by rw [List.map_append, List.map_map]; rfl
    rw [e1] at o2
    have r1 := rng_n (k := k) (by omega)
    obtain ⟨P', S', x3', ih, i1, i2, i3⟩ := pr_loop hm hp hp0 c (k + 1) (P ++ J.map fun j => (j, k)) (S1.set pi (.lst ((P ++ J.map fun j => (j, k)).map d2))) (some (.int (k : Int))) (by omega) (by rw [List.length_append, List.length_map]; omega) (fun p hp' => by
      rcases List.mem_append.mp hp' with z | z
      · have := hP p z; omega
      · obtain ⟨j, hj, rfl⟩ := List.mem_map.mp z
        have := List.mem_range.mp (j1 j hj)
        exact ⟨this, by omega⟩) (t1.set hp hp0 _) (st_self hs1)
    refine ⟨P', S', x3', ?_, i1, i2, i3⟩
    rw [List.range'_succ, List.map_cons, forLoop_cons _ _ _ _ (chkG_nil S), stp_e]
    unfold lp_law_colours_right1 at *
    simp (disch := first | (refine @id _ ?_; with_unfolding_all rfl) | assumption | omega) only [evl, o1, r1, h1, o2, ih]
theorem due_loop (cl : Calls) {ti many pi di : Nat} {P : Pr} (o : PO many P) (hpd : pi ≠ di) (hdt : di ≠ ti) (hd0 : di ≠ 0) : ∀ (c k : Nat) (S : Sto) (x3 x5 : Option D), k + c = many → TapeOk ti S → S[pi]? = some (.lst (P.map d2)) → S[di]? = some (.lst (iI (grow many P k))) →
    ∃ (S' : Sto) (x3' x5' : Option D), forLoop [] (stp tab cl F (.nm 3 (Str.ofString "k")) lp_law_colours_right2) ((List.range' k c).map fun (x : Nat) => .int (x : Int)) (envX ti many pi x3 (some (.ref di)) x5 none) S = some (.nx, envX ti many pi x3' (some (.ref di)) x5' none, S') ∧ TapeOk ti S' ∧ S'[pi]? = some (.lst (P.map d2)) ∧ S'[di]? = some (.lst (iI (grow many P many)))
  | 0, k, S, x3, x5, hk, t, hp, hd => ⟨S, x3, x5, by rw [List.range'_zero, List.map_nil, forLoop_nil _ _ (chkG_nil S)], t, hp, by
      have e : k = many := (by omega)
      rw [e] at hd
      exact hd⟩
  | c + 1, k, S, x3, x5, hk, t, hp, hd => by
    have hom := o.m
    have hol := o.l
    have sq := seq_l hp
    have gd := gd_l hp
    have hu := lc_map (G := [(pi, P.map d2)]) (st := lcStep tab cl [((Str.ofString "j"), 7), ((Str.ofString "other"), 8)] ce_law_colours_right2 (.tup (.cons (.nm 7 (Str.ofString "j")) (.cons (.nm 8 (Str.ofString "other")) .nil))) ct_law_colours_right2 (envX ti many pi (some (.int (k : Int))) (some (.ref di)) x5 none)) (S := S) d2 (fun p => if decide (p.2 = k) = true then some (D.int (((grow many P k).getD p.1 0 : Nat) : Int)) else none) (chk_self hp) P [] (fun p hp' => by
      have hlt := (o.lt p hp').1
      rw [lcStep_e]
      have hw : wipeD (envX ti many pi (some (.int (k : Int))) (some (.ref di)) x5 none) (List.map (·.2) [((Str.ofString "j"), 7), ((Str.ofString "other"), 8)]) = envX ti many pi (some (.int (k : Int))) (some (.ref di)) x5 none := rfl
      rw [hw]
      unfold ce_law_colours_right2 ct_law_colours_right2
      by_cases e : p.2 = k
      · have e1 : decide ((p.2 : Int) = (k : Int)) = true := decide_eq_true (by omega)
        have ix := ix_lr (k := p.1) hd (d := .int (((grow many P k).getD p.1 0 : Nat) : Int)) (by rw [List.getElem?_map, getD_some 0 (show p.1 < (grow many P k).length by rw [grow_len]; omega)]; rfl)
        rw [if_pos (decide_eq_true e)]
        simp (disch := first | (refine @id _ ?_; with_unfolding_all rfl) | assumption | omega) only [evl, lits, kds, kdec, reduceCtorEq, List.isEmpty_nil, List.isEmpty_cons, gls, e1, ix]
      · have e1 : decide ((p.2 : Int) = (k : Int)) = false := decide_eq_false (by omega)
        rw [if_neg (by simp [e])]
        simp (disch := first | (refine @id _ ?_; with_unfolding_all rfl) | assumption | omega) only [evl, lits, kds, kdec, reduceCtorEq, List.isEmpty_nil, List.isEmpty_cons, gls, e1]) (by simp; unfold LN; omega)
    rw [fm_if, List.nil_append] at hu
    have hu' : (P.filter fun p => decide (p.2 = k)).map (fun p => D.int (((grow many P k).getD p.1 0 : Nat) : Int)) = iI (usedD P (grow many P k) k) := by
      show _ = List.map _ (List.map _ _)
      rw [List.map_map]
      rfl
    rw [hu'] at hu
    obtain ⟨fr, hfr, hasc⟩ := free_cons o (grow many P k) (show k < many by omega)
    generalize hU : usedD P (grow many P k) k = U at *
    have u1 : (S ++ [O.lst (iI U)])[S.length]? = some (.lst (iI U)) := app_get
    have hd1 : (S ++ [O.lst (iI U)])[di]? = some (.lst (iI (grow many P k))) := app_old hd
    have r1 := rng_n (k := many) (by omega)
    have hf := lc_map (G := []) (st := lcStep tab cl [((Str.ofString "one"), 9)] ce_law_colours_right3 (.nm 9 (Str.ofString "one")) ct_law_colours_right3 (envX ti many pi (some (.int (k : Int))) (some (.ref di)) (some (.ref S.length)) none)) (S := S ++ [.lst (iI U)]) (fun (x : Nat) => D.int (x : Int)) (fun x => if (!(U.any fun y => decide (y = x))) = true then some (D.int (x : Int)) else none) (chkG_nil _) (List.range many) [] (fun x hx => by
      rw [lcStep_e]
      have hw : wipeD (envX ti many pi (some (.int (k : Int))) (some (.ref di)) (some (.ref S.length)) none) (List.map (·.2) [((Str.ofString "one"), 9)]) = envX ti many pi (some (.int (k : Int))) (some (.ref di)) (some (.ref S.length)) none := rfl
      rw [hw]
      have ip := in_Ir u1 x
      unfold ce_law_colours_right3 ct_law_colours_right3
      cases hq : U.any fun y => decide (y = x) with
      | true =>
        rw [hq] at ip
        rw [if_neg (by simp)]
        simp (disch := first | (refine @id _ ?_; with_unfolding_all rfl) | assumption | omega) only [evl, lits, kds, kdec, reduceCtorEq, List.isEmpty_nil, List.isEmpty_cons, gls, ip]
      | false =>
        rw [hq] at ip
        rw [if_pos (by simp)]
        simp (disch := first | (refine @id _ ?_; with_unfolding_all rfl) | assumption | omega) only [evl, lits, kds, kdec, reduceCtorEq, List.isEmpty_nil, List.isEmpty_cons, gls, ip]) (by rw [List.length_range]; simp; unfold LN; omega)
    rw [fm_if, List.nil_append] at hf
    have hfr' : ((List.range many).filter fun x => !(U.any fun y => decide (y = x))).map (fun (x : Nat) => D.int (x : Int)) = iI (next many P (grow many P k) k :: fr) := by rw [← hfr]; rfl
    rw [hfr'] at hf
    generalize hN : next many P (grow many P k) k = N at *
    have mf := min_free (S ++ [O.lst (iI U)]) hasc
    have lD : lstO (S ++ [O.lst (iI U)])[di]? = some (iI (grow many P k)) := by rw [hd1]; rfl
    have e5 := kApp4_e (n := di) (S := S ++ [O.lst (iI U)]) (d := .int (N : Int)) (xs := iI (grow many P k)) (by rw [List.length_map, grow_len]; unfold LN; omega)
    have e6 : iI (grow many P k) ++ [.int (N : Int)] = iI (grow many P (k + 1)) := by
      rw [grow, hN]
      show _ = List.map _ (_ ++ _)
      rw [List.map_append]
      rfl
    obtain ⟨S', x3', x5', ih, i1, i2, i3⟩ := due_loop cl o hpd hdt hd0 c (k + 1) ((S ++ [O.lst (iI U)]).set di (.lst (iI (grow many P (k + 1))))) (some (.int (k : Int))) (some (.ref S.length)) (by omega) ((t.app _).set hdt hd0 _) (by rw [st_get (Ne.symm hpd)]; exact app_old hp) (st_self hd1)
    refine ⟨S', x3', x5', ?_, i1, i2, i3⟩
    have hbody : evS tab cl F lp_law_colours_right2 (envX ti many pi (some (.int (k : Int))) (some (.ref di)) x5 none) S = some (.nx, envX ti many pi (some (.int (k : Int))) (some (.ref di)) (some (.ref S.length)) none, (S ++ [O.lst (iI U)]).set di (.lst (iI (grow many P (k + 1))))) := by
      unfold lp_law_colours_right2
      simp (disch := first | (refine @id _ ?_; with_unfolding_all rfl) | assumption | omega) only [evl, sq, gd, hu, lD, r1, hf, mf, e5, e6]
    have b1 : bindP (.nm 3 (Str.ofString "k")) (.int (k : Int)) (envX ti many pi x3 (some (.ref di)) x5 none) = some (envX ti many pi (some (.int (k : Int))) (some (.ref di)) x5 none) := rfl
    rw [List.range'_succ, List.map_cons, forLoop_cons _ _ _ _ (chkG_nil S), stp_e, b1, bnd_some, kStp_e, hbody, bnd_some, kFl_nx]
    exact ih
theorem more_loop (hF : 100 ≤ F) {ti many pi di : Nat} {P : Pr} (o : PO many P) (x3 x5 : Option D) (S : Sto) (hp : S[pi]? = some (.lst (P.map d2))) (hd : S[di]? = some (.lst (iI (grow many P many)))) : ∀ (ms : List Int) (x6 : Option D), (∀ m ∈ ms, (many : Int) ≤ m) →
    ∃ ρ', forLoop [] (stp tab (callD F tab pg (n + 2)) F (.nm 6 (Str.ofString "more")) lp_law_colours_right3) (ms.map D.int) (envX ti many pi x3 (some (.ref di)) x5 x6) S = some (.nx, ρ', S)
  | [], x6, _ => ⟨_, by rw [List.map_nil, forLoop_nil _ _ (chkG_nil S)]⟩
  | m :: ms, x6, hm => by
    obtain ⟨ρ', ih⟩ := more_loop hF o x3 x5 S hp hd ms (some (.int m)) fun q hq => hm q (List.mem_cons_of_mem _ hq)
    refine ⟨ρ', ?_⟩
    have c1 := sp_colour F n hF o (hm m List.mem_cons_self) S
    have b1 : biW S .tuple [.d (.ref pi)] = some (.d (dM P)) := by
      show (seqOf S (.d (.ref pi))).map _ = _
      rw [seq_l hp]; rfl
    have b2 : biW S .tuple [.d (.ref di)] = some (.d (dI (grow many P many))) := by
      show (seqOf S (.d (.ref di))).map _ = _
      rw [seq_l hd]; rfl
    have q1 : eqW S (.d (dI (grow many P many))) (.d (dI (grow many P many))) = some true := by rw [eq_I, decide_eq_true rfl]
    rw [List.map_cons, forLoop_cons _ _ _ _ (chkG_nil S), stp_e]
    unfold lp_law_colours_right3 at *
    simp (disch := first | (refine @id _ ?_; with_unfolding_all rfl) | assumption | omega) only [evl, lits, kds, kdec, reduceCtorEq, List.isEmpty_nil, List.isEmpty_cons, gls, b1, c1, b2, q1]
    exact ih
theorem sp_colours {ti : Nat} {S : Sto} (hF : 100 ≤ F) (t : TapeOk ti S) (ht0 : ti ≠ 0) : ∃ S', callD F tab pg (n + 3) "_law_colours_right" [.ref ti] S = some (.d (.bl true), S') := by
  obtain ⟨many, S1, c1, b1, t1, m1⟩ := sp_take F (n + 1) t (many := 9) (by decide) (dv (by decide) (by decide))
  have hm : many ≤ 8 := by omega
  have tl := t1.len
  have r1 : rngW [.d (.int (many : Int))] = some ((List.range' 0 many).map fun (x : Nat) => .int (x : Int)) := by rw [rng_n (by omega), List.range_eq_range']
  obtain ⟨P, S2, x3, h2, o, t2, p2⟩ := pr_loop F (n + 1) (ti := ti) (many := many) (pi := S1.length) hm (by omega) (by omega) many 0 [] (S1 ++ [.lst []]) none (by omega) (Nat.zero_le _) (fun p hp => nomatch hp) (t1.app _) app_get
  have t2l := t2.len
  have p2l := (List.getElem?_eq_some_iff.mp p2).1
  obtain ⟨S3, x3', x5', h3, t3, p3, d3⟩ := due_loop F (callD F tab pg (n + 2)) (ti := ti) (pi := S1.length) (di := S2.length) o (by omega) (by omega) (by omega) many 0 (S2 ++ [.lst []]) x3 none (by omega) (t2.app _) (app_old p2) app_get
  obtain ⟨ρ', h4⟩ := more_loop F n hF (ti := ti) (pi := S1.length) (di := S2.length) o x3' x5' S3 p3 d3 [(many : Int), (many : Int) + 1, 1000, 1000000000000000000000000000000] none (fun m hm' => by
    simp only [List.mem_cons, List.not_mem_nil, or_false] at hm'
    rcases hm' with rfl | rfl | rfl | rfl <;> omega)
  have pw : ∀ T, binW T .pow (.d (.int 10)) (.d (.int 30)) = some (.d (.int 1000000000000000000000000000000)) := fun T => rfl
  have em : [D.int (many : Int), .int ((many : Int) + 1), .int 1000, .int 1000000000000000000000000000000] = [(many : Int), (many : Int) + 1, 1000, 1000000000000000000000000000000].map D.int := rfl
  refine ⟨S3, ?_⟩
  rw [call_im look_law_colours_right rfl rfl, show env0 d_law_colours_right [.ref ti] = [some (.ref ti), none, none, none, none, none, none, none, none, none] from rfl]
  show fin (evS tab (callD F tab pg (n + 2)) F s_law_colours_right _ _) = _
  unfold s_law_colours_right
  simp (disch := first | (refine @id _ ?_; with_unfolding_all rfl) | assumption | omega) only [evl, c1, r1, h2, h3, pw, em, h4]
theorem main (ns : List Int) (h : ns.length ≤ 63) : ∃ S', callD (2 ^ 100) tab pg (20 + 1) lawName [.fz (ns.map D.int)] [] = some (.d (.bl true), S') := by
  have hF : 4 ^ 18 < 2 ^ 100 := by decide
  have hF1 : 100 ≤ 2 ^ 100 := by decide
  generalize 2 ^ 100 = F at *
  obtain ⟨s, hb⟩ := sp_begin F 19 ns h
  have t0 : TapeOk 1 ([O.lst (ns.map .int)] ++ [O.lst (tpL 0 0 0 s)]) := ⟨ns, 0, 0, s, rfl, rfl, by decide⟩
  obtain ⟨S1, h1, t1⟩ := sp_memory F 16 hF (by decide) t0
  obtain ⟨S2, h2, t2⟩ := sp_memory F 16 hF (by decide) t1
  obtain ⟨S3, h3⟩ := sp_colours F 17 hF1 t2 (by decide)
  refine ⟨[], ?_⟩
  have hp : (true && D.pures [.fz (ns.map D.int)]) = true := by
    rw [pu_c]
    have : D.pure (.fz (ns.map D.int)) = true := by
      rw [D.pure, pures_all]
      exact List.all_eq_true.mpr fun x hx => by
        obtain ⟨y, _, rfl⟩ := List.mem_map.mp hx
        rfl
    rw [this]; rfl
  refine call_px look_law rfl hp (w := .d (.bl true)) (S' := S3) ?_ rfl []
  rw [show env0 d_law [.fz (ns.map D.int)] = [some (.fz (ns.map D.int)), none] from rfl]
  show fin (evS tab (callD F tab pg 20) F s_law _ _) = _
  have l1 : List.length ([O.lst (ns.map .int)] : Sto) = 1 := rfl
  unfold s_law
  simp (disch := first | (refine @id _ ?_; with_unfolding_all rfl) | assumption | omega) only [evl, hb, l1, h1, h2, h3]
end
end K53

open PySem PySem.W PyProof.Rows
set_option maxHeartbeats 0 in
theorem PySem.Challenge.cw_machinehall_k53_whole_long_rows_and_many_holds : PySem.Challenge.rw_machinehall_k53_whole_long_rows_and_many.Holds := by
  w_on; o_law; k_head; (case hw => w_witness2)
  k_fill
  refine L2.walk_of (l := PySem.Challenge.rw_machinehall_k53_whole_long_rows_and_many) (n := 63) (k := 20 + 1) (x := "script") (CX := fun _ => L2.CX0) (sp := fun w => Z.lawSp _) rfl (by decide) rfl ⟨rfl, by decide, by decide⟩ (fun w h Y => PySem.W.kIn_of Y) ?F (fun _ _ a ns hl o hS => ⟨a, ns, rfl, Z.sqF_of o hS, hl, fun _ => rfl⟩) (fun _ _ _ _ _ h => h)
  case F =>
    intro w mg fa h KX G hmg
    refine' K53.top KX G hmg ?a0 ?l0 ?c0 ?k0 ?a1 ?l1 ?c1 ?k1 ?a2 ?l2 ?c2 ?k2 ?a3 ?l3 ?c3 ?k3 ?a4 ?l4 ?c4 ?k4 ?a5 ?l5 ?c5 ?k5 ?a6 ?l6 ?c6 ?k6 ?a7 ?l7 ?c7 ?k7 ?a8 ?l8 ?c8 ?k8 ?a9 ?l9 ?c9 ?k9 ?a10 ?l10 ?c10 ?k10 ?a11 ?l11 ?c11 ?k11 ?a12 ?l12 ?c12 ?k12 ?a13 ?l13 ?c13 ?k13 ?a14 ?l14 ?c14 ?k14 ?a15 ?l15 ?c15 ?k15 ?a16 ?l16 ?c16 ?k16 ?a17 ?l17 ?c17 ?k17 ?a18 ?l18 ?c18 ?k18 ?a19 ?l19 ?c19 ?k19 ?a20 ?l20 ?c20 ?k20 ?a21 ?l21 ?c21 ?k21 ?a22 ?l22 ?c22 ?k22 ?ge0 ?gv0 ?ge1 ?gv1 ?ge2 ?gv2 ?ge3 ?gv3 ?ge4 ?gv4 ?ge5 ?gv5 ?ge6 ?gv6 ?z0 ?z1 ?z2 ?z3 ?z4 ?z5 ?z6 ?z7 ?z8 ?z9 ?z10 ?z11 ?z12 ?z13 K53.main
    (case a0 => k_is)
    (case l0 => k_is)
    (case c0 => k_is)
    (case k0 => k_is)
    (case a1 => k_is)
    (case l1 => k_is)
    (case c1 => k_is)
    (case k1 => k_is)
    (case a2 => k_is)
    (case l2 => k_is)
    (case c2 => k_is)
    (case k2 => k_is)
    (case a3 => k_is)
    (case l3 => k_is)
    (case c3 => k_is)
    (case k3 => k_is)
    (case a4 => k_is)
    (case l4 => k_is)
    (case c4 => k_is)
    (case k4 => k_is)
    (case a5 => k_is)
    (case l5 => k_is)
    (case c5 => k_is)
    (case k5 => k_is)
    (case a6 => k_is)
    (case l6 => k_is)
    (case c6 => k_is)
    (case k6 => k_is)
    (case a7 => k_is)
    (case l7 => k_is)
    (case c7 => k_is)
    (case k7 => k_is)
    (case a8 => k_is)
    (case l8 => k_is)
    (case c8 => k_is)
    (case k8 => k_is)
    (case a9 => k_is)
    (case l9 => k_is)
    (case c9 => k_is)
    (case k9 => k_is)
    (case a10 => k_is)
    (case l10 => k_is)
    (case c10 => k_is)
    (case k10 => k_is)
    (case a11 => k_is)
    (case l11 => k_is)
    (case c11 => k_is)
    (case k11 => k_is)
    (case a12 => k_is)
    (case l12 => k_is)
    (case c12 => k_is)
    (case k12 => k_is)
    (case a13 => k_is)
    (case l13 => k_is)
    (case c13 => k_is)
    (case k13 => k_is)
    (case a14 => k_is)
    (case l14 => k_is)
    (case c14 => k_is)
    (case k14 => k_is)
    (case a15 => k_is)
    (case l15 => k_is)
    (case c15 => k_is)
    (case k15 => k_is)
    (case a16 => k_is)
    (case l16 => k_is)
    (case c16 => k_is)
    (case k16 => k_is)
    (case a17 => k_is)
    (case l17 => k_is)
    (case c17 => k_is)
    (case k17 => k_is)
    (case a18 => k_is)
    (case l18 => k_is)
    (case c18 => k_is)
    (case k18 => k_is)
    (case a19 => k_is)
    (case l19 => k_is)
    (case c19 => k_is)
    (case k19 => k_is)
    (case a20 => k_is)
    (case l20 => k_is)
    (case c20 => k_is)
    (case k20 => k_is)
    (case a21 => k_is)
    (case l21 => k_is)
    (case c21 => k_is)
    (case k21 => k_is)
    (case a22 => k_is)
    (case l22 => k_is)
    (case c22 => k_is)
    (case k22 => k_is)
    (case ge0 => k_is)
    (case gv0 => decide)
    (case ge1 => k_is)
    (case gv1 => decide)
    (case ge2 => k_is)
    (case gv2 => decide)
    (case ge3 => k_is)
    (case gv3 => decide)
    (case ge4 => k_is)
    (case gv4 => decide)
    (case ge5 => k_is)
    (case gv5 => decide)
    (case ge6 => k_is)
    (case gv6 => decide)
    (case z0 => k_is)
    (case z1 => k_is)
    (case z2 => k_is)
    (case z3 => k_is)
    (case z4 => k_is)
    (case z5 => k_is)
    (case z6 => k_is)
    (case z7 => k_is)
    (case z8 => k_is)
    (case z9 => k_is)
    (case z10 => k_is)
    (case z11 => k_is)
    (case z12 => k_is)
    (case z13 => k_is)
