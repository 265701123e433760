import PyProof.Rows.All
import HandS.ForMost
import HandS.Wide
import HandS.WideMore
import HandS.Flow
import HandS.Style
import HandS.TupAny
import HandS.Deep
import HandS.Walk
import HandS.Zip
import HandS.Conv
import HandS.CallLocal
import HandS.SortInts
import PySem.Challenge.RW_machinehall_k61_whole_signs_turned
set_option Elab.async false
set_option linter.all false
set_option maxRecDepth 100000
/-! Z1: deep values, the store, the small language, its evaluator, the checker. -/
namespace Z
open PySem PySem.Spec PyProof.Rows L2

inductive D where
  | non | bl (b : Bool) | int (i : Int) | str (x : Str) | tup (xs : List D)
  /-- a list that nobody writes (the script) -/
  | fz (xs : List D)
  | ref (n : Nat) | fn (x : Str)
  deriving Inhabited

/-- what stands in the store: a list, a dict with keys that are ints and texts -/
inductive O where
  | lst (xs : List D)
  | dk (kvs : List (Key × D))
  deriving Inhabited
abbrev Sto := List O
abbrev Env := List (Option D)
/-- a value, or a list that nothing else holds -/
inductive W where
  | d (x : D)
  | tmp (xs : List D)
  deriving Inhabited

mutual
def D.py : D → PyData
  | .non => .none
  | .bl b => .bool b
  | .int i => .int i
  | .str x => .str x
  | .tup xs => .tuple (D.pys xs)
  | .fz xs => .list (D.pys xs)
  | .ref _ => .dict []
  | .fn _ => .dict []
def D.pys : List D → List PyData
  | [] => []
  | x :: xs => x.py :: D.pys xs
end
mutual
/-- no mutable thing within -/
def D.pure : D → Bool
  | .tup xs => D.pures xs
  | .fz xs => D.pures xs
  | .ref _ => false
  | _ => true
def D.pures : List D → Bool
  | [] => true
  | x :: xs => x.pure && D.pures xs
end

abbrev LN : Nat := 1000000
def big : Nat := 2 ^ 1000
inductive Bop where
  | add | sub | mul | fdiv | mod | pow | shl | shr | band | bor | bxor
  deriving DecidableEq
inductive Cop where
  | lt | le | gt | ge | eq | ne | isN | notN | isB | notB | inn | notin
  deriving DecidableEq

def sm64 (a : Int) : Bool := decide (-(2 ^ 64) < a) && decide (a < 2 ^ 64)
def mulOk (a b : Int) : Bool := sm64 a || sm64 b || (decide (a.natAbs < big) && decide (b.natAbs < big))
def divOk (b : Int) : Bool := decide (0 < b) && decide (b.natAbs < big)
def powOk (a b : Int) : Bool := decide (0 ≤ b) && decide (b ≤ 1000000) && decide (a.natAbs < 2 ^ 64)

def binI : Bop → Int → Int → Option Int
  | .add, a, b => some (a + b)
  | .sub, a, b => some (a - b)
  | .mul, a, b => if mulOk a b then some (a * b) else none
  | .fdiv, a, b => if divOk b then some (a / b) else none
  | .mod, a, b => if decide (0 < b) then some (a % b) else none
  | .pow, a, b => if powOk a b then some (a ^ b.toNat) else none
  | .shl, a, b => if powOk a b then some (a * 2 ^ b.toNat) else none
  | .shr, a, b => if decide (0 ≤ b) then some (a / 2 ^ b.toNat) else none
  | .band, a, b => some (Builtin.bitAnd a b)
  | .bor, a, b => some (Builtin.bitOr a b)
  | .bxor, a, b => some (Builtin.bitXor a b)

/-- the items of a list -/
def lstOf (S : Sto) : W → Option (List D)
  | .tmp xs => some xs
  | .d (.fz xs) => some xs
  | .d (.ref n) => match S[n]? with
    | some (.lst xs) => some xs
    | _ => none
  | _ => none
/-- .. of a list that may be written (for + of lists) -/
def lstOfW (S : Sto) : W → Option (List D)
  | .tmp xs => some xs
  | .d (.ref n) => match S[n]? with
    | some (.lst xs) => some xs
    | _ => none
  | _ => none
/-- the items of a list or a tuple -/
def seqOf (S : Sto) : W → Option (List D)
  | .d (.tup xs) => some xs
  | w => lstOf S w

def binW (S : Sto) (o : Bop) : W → W → Option W
  | .d (.int a), .d (.int b) => (binI o a b).map fun i => .d (.int i)
  | .d (.str a), .d (.str b) => match o with
    | .add => if a.length + b.length ≤ LN then some (.d (.str (a ++ b))) else none
    | _ => none
  | .d (.tup a), .d (.tup b) => match o with
    | .add => if a.length + b.length ≤ LN then some (.d (.tup (a ++ b))) else none
    | _ => none
  | x, .d (.int k) => match o with
    | .mul => match lstOfW S x with
      | some a => if (decide (-(2 ^ 63) ≤ k) && decide (k < 2 ^ 63) && decide (a.length * k.toNat ≤ LN)) then some (.tmp (List.replicate k.toNat a).flatten) else none
      | none => none
    | _ => none
  | x, y => match o with
    | .add => match lstOfW S x, lstOfW S y with
      | some a, some b => if a.length + b.length ≤ LN then some (.tmp (a ++ b)) else none
      | _, _ => none
    | _ => none

def pyW (S : Sto) : W → PyData
  | .tmp xs => .list (D.pys xs)
  | .d (.ref n) => match S[n]? with
    | some (.lst xs) => .list (D.pys xs)
    | _ => .dict []
  | .d x => x.py

def eqW (S : Sto) (x y : W) : Option Bool :=
  if SeqAt.shaped (pyW S x) && SeqAt.shaped (pyW S y) then some (PyData.eqv (pyW S x) (pyW S y)) else none
def inW (S : Sto) (x y : W) : Option Bool :=
  match seqOf S y with
  | some ys => if SeqAt.shaped (pyW S x) && SeqAt.shaped (.list (D.pys ys)) then some ((D.pys ys).any fun z => PyData.eqv z (pyW S x)) else none
  | none => none

def cmpW (S : Sto) (o : Cop) (x y : W) : Option Bool :=
  match o with
  | .eq => eqW S x y
  | .ne => (eqW S x y).map (!·)
  | .inn => inW S x y
  | .notin => (inW S x y).map (!·)
  | .isN => match x, y with
    | .d .non, .d .non => some true
    | _, .d .non => some false
    | _, _ => none
  | .notN => match x, y with
    | .d .non, .d .non => some false
    | _, .d .non => some true
    | _, _ => none
  | .isB => match x, y with
    | .d (.bl a), .d (.bl b) => some (decide (a = b))
    | _, _ => none
  | .notB => match x, y with
    | .d (.bl a), .d (.bl b) => some (!decide (a = b))
    | _, _ => none
  | o => match x, y with
    | .d (.int a), .d (.int b) => match o with
      | .lt => some (decide (a < b))
      | .le => some (decide (a ≤ b))
      | .gt => some (decide (b < a))
      | _ => some (decide (b ≤ a))
    | _, _ => none

def truW (S : Sto) : W → Option Bool
  | .tmp xs => some (!xs.isEmpty)
  | .d .non => some false
  | .d (.bl b) => some b
  | .d (.int i) => some (i != 0)
  | .d (.str x) => if x.length ≤ LN then some (x.length != 0) else none
  | .d (.tup xs) => some (!xs.isEmpty)
  | .d (.fz xs) => some (!xs.isEmpty)
  | .d (.fn _) => none
  | .d (.ref n) => match S[n]? with
    | some (.lst xs) => some (!xs.isEmpty)
    | some (.dk kvs) => some (!kvs.isEmpty)
    | none => none

def ixW (S : Sto) (x : W) (i : W) : Option W :=
  match i with
  | .d (.int k) => match x with
    | .d (.str z) => if z.length ≤ LN then (atI z.cps.toList k).map fun c => .d (.str ⟨#[c]⟩) else none
    | _ => match seqOf S x with
      | some xs => (atI xs k).map .d
      | none => none
  | _ => none
def cutD (xs : List D) (lo hi : Option Int) : List D := (xs.drop (HT.sIx xs.length 0 lo)).take (HT.sIx xs.length xs.length hi - HT.sIx xs.length 0 lo)
def slW (S : Sto) (x : W) (lo hi : Option Int) : Option W :=
  match x with
  | .d (.tup xs) => some (.d (.tup (cutD xs lo hi)))
  | w => (lstOf S w).map fun xs => .tmp (cutD xs lo hi)
def revW (S : Sto) (x : W) : Option W :=
  match x with
  | .d (.tup xs) => some (.d (.tup xs.reverse))
  | w => (lstOf S w).map fun xs => .tmp xs.reverse
def partW : W → Option Int
  | .d (.int i) => some i
  | _ => none

/-- a key of a dict -/
def keyD : D → Option Key
  | .int i => some (.inl i)
  | .str x => some (.inr x)
  | _ => none
def valD (kvs : List (Key × D)) (k : Key) : Option D := (kvs.find? fun kv => decide (kv.1 = k)).map (·.2)
def putD (kvs : List (Key × D)) (k : Key) (v : D) : List (Key × D) :=
  if (kvs.any fun kv => decide (kv.1 = k)) = true then kvs.map (fun kv => if kv.1 = k then (kv.1, v) else kv) else kvs ++ [(k, v)]
def dgetW (S : Sto) (x i : W) : Option W :=
  match x, i with
  | .d (.ref n), .d k => match S[n]?, keyD k with
    | some (.dk kvs), some k => (valD kvs k).map .d
    | _, _ => none
  | _, _ => none

/-- a display's dict -/
def mergeD : List (Key × D) → List Key → List D → List (Key × D)
  | acc, k :: ks, d :: ds => mergeD (putD acc k d) ks ds
  | acc, _, _ => acc
/-- built-in functions of one or two arguments -/
inductive BI where
  | len | abs | int | bool | tuple | list | sum | all | any | max | min | sorted
  deriving DecidableEq
def intsOf : List D → Option (List Int)
  | [] => some []
  | .int i :: r => (intsOf r).map (i :: ·)
  | _ => none
def blsOf : List D → Option (List Bool)
  | [] => some []
  | .bl b :: r => (blsOf r).map (b :: ·)
  | _ => none
def maxL : List Int → Int
  | [] => 0
  | [a] => a
  | a :: r => if maxL r > a then maxL r else a
def minL : List Int → Int
  | [] => 0
  | [a] => a
  | a :: r => if minL r < a then minL r else a
def insI (a : Int) : List Int → List Int
  | [] => [a]
  | b :: r => if a ≤ b then a :: b :: r else b :: insI a r
def sortI : List Int → List Int
  | [] => []
  | a :: r => insI a (sortI r)
def biW (S : Sto) (b : BI) (ws : List W) : Option W :=
  match b, ws with
  | .len, [w] => match w with
    | .d (.str z) => if z.length ≤ LN then some (.d (.int z.length)) else none
    | _ => (seqOf S w).map fun xs => .d (.int xs.length)
  | .abs, [.d (.int i)] => some (.d (.int (if i < 0 then -i else i)))
  | .int, [.d (.int i)] => some (.d (.int i))
  | .int, [.d (.bl b)] => some (.d (.int (if b then 1 else 0)))
  | .bool, [.d (.bl b)] => some (.d (.bl b))
  | .bool, [.d (.int i)] => some (.d (.bl (i != 0)))
  | .tuple, [w] => (seqOf S w).map fun xs => .d (.tup xs)
  | .list, [w] => (seqOf S w).map .tmp
  | .sum, [w] => (lstOf S w).bind fun xs => (intsOf xs).map fun ns => .d (.int ns.sum)
  | .all, [w] => (lstOf S w).bind fun xs => (blsOf xs).map fun bs => .d (.bl (bs.all id))
  | .any, [w] => (lstOf S w).bind fun xs => (blsOf xs).map fun bs => .d (.bl (bs.any id))
  | .max, [.d (.int i), .d (.int j)] => some (.d (.int (if j > i then j else i)))
  | .min, [.d (.int i), .d (.int j)] => some (.d (.int (if j < i then j else i)))
  | .max, [w] => (lstOf S w).bind fun xs => (intsOf xs).bind fun ns => if ns.isEmpty then none else some (.d (.int (maxL ns)))
  | .min, [w] => (lstOf S w).bind fun xs => (intsOf xs).bind fun ns => if ns.isEmpty then none else some (.d (.int (minL ns)))
  | .sorted, [w] => (lstOf S w).bind fun xs => (intsOf xs).map fun ns => .tmp ((sortI ns).map .int)
  | _, _ => none

/-- a list that was nothing else's comes into the store -/
def matW : W → Sto → D × Sto
  | .d x, S => (x, S)
  | .tmp xs, S => (.ref S.length, S ++ [.lst xs])
def matsW : List W → Sto → List D × Sto
  | [], S => ([], S)
  | w :: ws, S =>
    let p := matW w S
    let q := matsW ws p.2
    (p.1 :: q.1, q.2)

/-- patterns: names, tuples of patterns -/
inductive P where
  | nm (i : Nat) (x : Str)
  | tup (ps : P)
  | nil
  | cons (p ps : P)
mutual
def bindP : P → D → Env → Option Env
  | .nm i _, d, ρ => some (ρ.set i (some d))
  | .tup ps, .tup ds, ρ => bindPs ps ds ρ
  | _, _, _ => none
def bindPs : P → List D → Env → Option Env
  | .nil, [], ρ => some ρ
  | .cons p ps, d :: ds, ρ => (bindP p d ρ).bind fun ρ' => bindPs ps ds ρ'
  | _, _, _ => none
end

inductive E where
  | var (i : Nat) (x : Str)
  | cI (i : Int) | cB (b : Bool) | cN | cS (x : Str)
  | glob (x : Str)
  | bin (o : Bop) (a b : E)
  | neg (a : E)
  | cmp (o : Cop) (a b : E)
  | chn (o1 o2 : Cop) (a b c : E)
  | not (a : E)
  | and (as : E) | or (as : E)
  | ite (t a b : E)
  | tup (as : E) | lst (as : E)
  | ix (a i : E)
  | dget (a i : E)
  | slc (a lo hi : E)
  | call (f : Str) (as : E)
  | lcall (i : Nat) (x : Str) (as : E)
  | bi (b : BI) (as : E)
  | rng (as : E) | enm (a : E) | zip (a b : E)
  | lc (own : List (Str × Nat)) (elt : E) (p : P) (it tst : E)
  | app (o e : E)
  | disp (ks : List Key) (vs : E)
  /-- the truth of a value -/
  | tst (a : E)
  /-- a[::-1] -/
  | rev (a : E)
  | nil
  | cons (a as : E)

mutual
def eqD : D → D → Bool
  | .non, .non => true
  | .bl a, .bl b => decide (a = b)
  | .int a, .int b => decide (a = b)
  | .str a, .str b => decide (a = b)
  | .tup a, .tup b => eqDs a b
  | .fz a, .fz b => eqDs a b
  | .ref a, .ref b => decide (a = b)
  | .fn a, .fn b => decide (a = b)
  | _, _ => false
def eqDs : List D → List D → Bool
  | [], [] => true
  | a :: as, b :: bs => eqD a b && eqDs as bs
  | _, _ => false
end
/-- lists that are walked must stand still: their places and their items -/
abbrev Grd := List (Nat × List D)
def chk1 (S : Sto) (p : Nat × List D) : Bool := match S[p.1]? with
  | some (.lst ys) => eqDs p.2 ys
  | _ => false
def chkG (g : Grd) (S : Sto) : Bool := g.all (chk1 S)
def guardOf (S : Sto) : W → Grd
  | .d (.ref n) => match S[n]? with
    | some (.lst xs) => [(n, xs)]
    | _ => []
  | _ => []
def wipeD (ρ : Env) : List Nat → Env
  | [] => ρ
  | v :: vs => (wipeD ρ vs).set v none
def rngL (lo : Int) (n : Nat) : List D := (List.range n).map fun i => .int (lo + (i : Nat))
def rngOk (i : Int) : Bool := decide (-(2 ^ 62) ≤ i) && decide (i < 2 ^ 62)
def rngW : List W → Option (List D)
  | [.d (.int j)] => if rngOk j then some (rngL 0 j.toNat) else none
  | [.d (.int i), .d (.int j)] => if rngOk i && rngOk j then some (rngL i (j - i).toNat) else none
  | [.d (.int i), .d (.int j), .d (.int c)] =>
    if rngOk i && rngOk j && decide (c = -1) then some ((List.range (i - j).toNat).map fun k => .int (i - (k : Nat))) else none
  | _ => none
def enumL (xs : List D) : List D := (List.range xs.length).map fun i => .tup [.int (i : Nat), xs.getD i .non]
def zipL (xs ys : List D) : List D := (List.range (min xs.length ys.length)).map fun i => .tup [xs.getD i .non, ys.getD i .non]

abbrev Calls := Str → List D → Sto → Option (W × Sto)
/-- what the program's top holds -/
structure Tab where
  /-- names of defs with the number of their parameters -/
  defs : List (Str × Nat)
  globs : List (Str × D)
  /-- names of built-ins that the top leaves alone -/
  blts : List Str

def lcLoop (g : Grd) (step : D → Sto → Option (Option D × Sto)) : List D → List D → Sto → Option (List D × Sto)
  | [], acc, S => if chkG g S then some (acc, S) else none
  | x :: xs, acc, S => if chkG g S then match step x S with
    | none => none
    | some (none, S') => lcLoop g step xs acc S'
    | some (some d, S') => if acc.length < LN then lcLoop g step xs (acc ++ [d]) S' else none
    else none

section
variable (T : Tab) (cl : Calls)
mutual
/-- a value -/
def evW : E → Env → Sto → Option (W × Sto)
  | .var i _, ρ, S => match ρ[i]? with
    | some (some d) => some (.d d, S)
    | _ => none
  | .cI i, _, S => some (.d (.int i), S)
  | .cB b, _, S => some (.d (.bl b), S)
  | .cN, _, S => some (.d .non, S)
  | .cS x, _, S => some (.d (.str x), S)
  | .glob x, _, S => (T.globs.lookup x).map fun d => (.d d, S)
  | .bin o a b, ρ, S => match evW a ρ S with
    | none => none
    | some (x, S1) => match evW b ρ S1 with
      | none => none
      | some (y, S2) => (binW S2 o x y).map fun z => (z, S2)
  | .neg a, ρ, S => match evW a ρ S with
    | some (.d (.int i), S1) => some (.d (.int (-i)), S1)
    | _ => none
  | .cmp o a b, ρ, S => match evW a ρ S with
    | none => none
    | some (x, S1) => match evW b ρ S1 with
      | none => none
      | some (y, S2) => (cmpW S2 o x y).map fun z => (.d (.bl z), S2)
  | .chn o1 o2 a b c, ρ, S => match evW a ρ S with
    | none => none
    | some (x, S1) => match evW b ρ S1 with
      | none => none
      | some (y, S2) => match cmpW S2 o1 x y with
        | none => none
        | some false => some (.d (.bl false), S2)
        | some true => match evW c ρ S2 with
          | none => none
          | some (z, S3) => (cmpW S3 o2 y z).map fun k => (.d (.bl k), S3)
  | .not a, ρ, S => match evW a ρ S with
    | none => none
    | some (w, S1) => (truW S1 w).map fun b => (.d (.bl (!b)), S1)
  | .and as, ρ, S => evAnd as ρ S
  | .or as, ρ, S => evOr as ρ S
  | .ite t a b, ρ, S => match evT t ρ S with
    | none => none
    | some (true, S1) => evW a ρ S1
    | some (false, S1) => evW b ρ S1
  | .tup as, ρ, S => match evs as ρ S with
    | none => none
    | some (ws, S1) => if ws.length ≤ LN then some (.d (.tup (matsW ws S1).1), (matsW ws S1).2) else none
  | .lst as, ρ, S => match evs as ρ S with
    | none => none
    | some (ws, S1) => if ws.length ≤ LN then some (.tmp (matsW ws S1).1, (matsW ws S1).2) else none
  | .ix a i, ρ, S => match evW a ρ S with
    | none => none
    | some (x, S1) => match evW i ρ S1 with
      | none => none
      | some (y, S2) => (ixW S2 x y).map fun z => (z, S2)
  | .dget a i, ρ, S => match evW a ρ S with
    | none => none
    | some (x, S1) => match evW i ρ S1 with
      | none => none
      | some (y, S2) => (dgetW S2 x y).map fun z => (z, S2)
  | .slc a lo hi, ρ, S => match evW a ρ S with
    | none => none
    | some (x, S1) => match evO lo ρ S1 with
      | none => none
      | some (l, S2) => match evO hi ρ S2 with
        | none => none
        | some (h, S3) => (slW S3 x l h).map fun z => (z, S3)
  | .rev a, ρ, S => match evW a ρ S with
    | none => none
    | some (x, S1) => (revW S1 x).map fun z => (z, S1)
  | .call f as, ρ, S => match evs as ρ S with
    | none => none
    | some (ws, S1) => cl f (matsW ws S1).1 (matsW ws S1).2
  | .lcall i _ as, ρ, S => match ρ[i]? with
    | some (some (.fn f)) => match evs as ρ S with
      | none => none
      | some (ws, S1) => if T.defs.lookup f = some ws.length then cl f (matsW ws S1).1 (matsW ws S1).2 else none
    | _ => none
  | .bi b as, ρ, S => match evs as ρ S with
    | none => none
    | some (ws, S1) => (biW S1 b ws).map fun z => (z, S1)
  | .lc own elt p it tst, ρ, S => match evI it ρ S with
    | none => none
    | some ((xs, g), S1) =>
      (lcLoop g (fun d S => match bindP p d (wipeD ρ (own.map (·.2))) with
          | none => none
          | some ρ' => match evC tst ρ' S with
            | none => none
            | some (false, S') => some (none, S')
            | some (true, S') => match evW elt ρ' S' with
              | none => none
              | some (w, S'') => some (some (matW w S'').1, (matW w S'').2)) xs [] S1).map
        fun r => (.tmp r.1, r.2)
  | .app o e, ρ, S => match evW o ρ S with
    | some (.d (.ref n), S1) => match S1[n]? with
      | some (.lst _) => match evW e ρ S1 with
        | none => none
        | some (w, S2) => match (matW w S2).2[n]? with
          | some (.lst xs) => if xs.length < LN then some (.d .non, (matW w S2).2.set n (.lst (xs ++ [(matW w S2).1]))) else none
          | _ => none
      | _ => none
    | _ => none
  | .disp ks as, ρ, S => match evs as ρ S with
    | none => none
    | some (ws, S1) => if ws.length = ks.length then some (.d (.ref (matsW ws S1).2.length), (matsW ws S1).2 ++ [.dk (mergeD [] ks (matsW ws S1).1)]) else none
  | _, _, _ => none
/-- a test -/
def evT : E → Env → Sto → Option (Bool × Sto)
  | .not a, ρ, S => match evT a ρ S with
    | none => none
    | some (b, S1) => some (!b, S1)
  | .and as, ρ, S => evTAnd as ρ S
  | .or as, ρ, S => evTOr as ρ S
  | .cmp o a b, ρ, S => match evW a ρ S with
    | none => none
    | some (x, S1) => match evW b ρ S1 with
      | none => none
      | some (y, S2) => (cmpW S2 o x y).map fun z => (z, S2)
  | .chn o1 o2 a b c, ρ, S => match evW a ρ S with
    | none => none
    | some (x, S1) => match evW b ρ S1 with
      | none => none
      | some (y, S2) => match cmpW S2 o1 x y with
        | none => none
        | some false => some (false, S2)
        | some true => match evW c ρ S2 with
          | none => none
          | some (z, S3) => (cmpW S3 o2 y z).map fun k => (k, S3)
  | .tst a, ρ, S => match evW a ρ S with
    | none => none
    | some (w, S1) => (truW S1 w).map fun b => (b, S1)
  | _, _, _ => none
/-- and, or as tests -/
def evTAnd : E → Env → Sto → Option (Bool × Sto)
  | .cons a as, ρ, S => match evT a ρ S with
    | none => none
    | some (false, S1) => some (false, S1)
    | some (true, S1) => evTAnd as ρ S1
  | .nil, _, S => some (true, S)
  | _, _, _ => none
def evTOr : E → Env → Sto → Option (Bool × Sto)
  | .cons a as, ρ, S => match evT a ρ S with
    | none => none
    | some (true, S1) => some (true, S1)
    | some (false, S1) => evTOr as ρ S1
  | .nil, _, S => some (false, S)
  | _, _, _ => none
/-- and, or as values: all but the last one True or False -/
def evAnd : E → Env → Sto → Option (W × Sto)
  | .cons a as, ρ, S => match evW a ρ S with
    | none => none
    | some (w, S1) => match as with
      | .nil => some (w, S1)
      | _ => match w with
        | .d (.bl false) => some (.d (.bl false), S1)
        | .d (.bl true) => evAnd as ρ S1
        | _ => none
  | _, _, _ => none
def evOr : E → Env → Sto → Option (W × Sto)
  | .cons a as, ρ, S => match evW a ρ S with
    | none => none
    | some (w, S1) => match as with
      | .nil => some (w, S1)
      | _ => match w with
        | .d (.bl true) => some (.d (.bl true), S1)
        | .d (.bl false) => evOr as ρ S1
        | _ => none
  | _, _, _ => none
/-- arguments -/
def evs : E → Env → Sto → Option (List W × Sto)
  | .nil, _, S => some ([], S)
  | .cons a as, ρ, S => match evW a ρ S with
    | none => none
    | some (w, S1) => match evs as ρ S1 with
      | none => none
      | some (ws, S2) => some (w :: ws, S2)
  | _, _, _ => none
/-- a slice's part: nil is none -/
def evO : E → Env → Sto → Option (Option Int × Sto)
  | .nil, _, S => some (none, S)
  | .cons a _, ρ, S => match evW a ρ S with
    | some (.d (.int i), S1) => some (some i, S1)
    | _ => none
  | _, _, _ => none
/-- a comprehension's test: nil is none -/
def evC : E → Env → Sto → Option (Bool × Sto)
  | .nil, _, S => some (true, S)
  | .cons a _, ρ, S => evT a ρ S
  | _, _, _ => none
/-- what is walked: its items, and the list that must stand still -/
def evI : E → Env → Sto → Option ((List D × Grd) × Sto)
  | .rng as, ρ, S => match evs as ρ S with
    | none => none
    | some (ws, S1) => (rngW ws).map fun xs => ((xs, []), S1)
  | .enm a, ρ, S => match evW a ρ S with
    | none => none
    | some (w, S1) => (seqOf S1 w).map fun xs => ((enumL xs, guardOf S1 w), S1)
  | .zip a b, ρ, S => match evW a ρ S with
    | none => none
    | some (x, S1) => match evW b ρ S1 with
      | none => none
      | some (y, S2) => match x, y with
        | .d (.tup xs), .d (.tup ys) => some ((zipL xs ys, []), S2)
        | x, y => match lstOf S2 x, lstOf S2 y with
          | some xs, some ys => some ((zipL xs ys, guardOf S2 x ++ guardOf S2 y), S2)
          | _, _ => none
  | .cons a .nil, ρ, S => match evW a ρ S with
    | none => none
    | some (w, S1) => (seqOf S1 w).map fun xs => ((xs, guardOf S1 w), S1)
  | _, _, _ => none
end
end
end Z

set_option Elab.async false
set_option linter.all false
set_option maxRecDepth 100000
/-! Z2: what a deep value says of a value in the abstract heap; how heaps grow. -/
namespace Z
open PySem PySem.Spec PyProof.Rows L2

/-- a list that stays as it is: locked, or an object of the module -/
def SqF (K : PySem.W.Frag) (H : Hp) (a : Addr) (xs : List V) : Prop :=
  (∃ o, H a = some (.frz o (.lst xs))) ∨
    ∃ (o : Obj) (its : Array Value) (n : Nat), K.lookup a = some o ∧ o.cls = .type "list" ∧ o.dict = none ∧ o.data = .seq its n ∧ its.size ≤ sizeLine ∧ Vals xs its.toList
theorem SqF.sq {K : PySem.W.Frag} {H : Hp} {a : Addr} {xs : List V} (h : SqF K H a xs) : SqL K H a xs := by
  rcases h with ⟨o, h⟩ | h
  · exact .inl (.inr ⟨o, h⟩)
  · exact .inr h
section
variable (K : PySem.W.Frag) (mg : Str → Option Value) (φ : List Addr) (H : Hp)
mutual
inductive Den : V → D → Prop
  | non : Den .non .non
  | bl (b : Bool) : Den (.bl b) (.bl b)
  | int (i : Int) : Den (.int i) (.int i)
  | str (x : Str) : Den (.str x) (.str x)
  | tup {a : Addr} {vs : List V} {ds : List D} : SqT K H a vs → Dens vs ds → Den (.ref a) (.tup ds)
  | fz {a : Addr} {vs : List V} {ds : List D} : SqF K H a vs → Dens vs ds → Den (.ref a) (.fz ds)
  | ref {a : Addr} {n : Nat} : φ[n]? = some a → Den (.ref a) (.ref n)
  | fn {a : Addr} {x : Str} : mg x = some (.ref a) → Den (.ref a) (.fn x)
inductive Dens : List V → List D → Prop
  | nil : Dens [] []
  | cons {v : V} {d : D} {vs : List V} {ds : List D} : Den v d → Dens vs ds → Dens (v :: vs) (d :: ds)
end
def KD : List (Key × V) → List (Key × D) → Prop := Paired fun p q => p.1 = q.1 ∧ Den K mg φ H p.2 q.2
def ObjD (a : Addr) : O → Prop
  | .lst xs => ∃ vs, H a = some (.lst vs) ∧ Dens K mg φ H vs xs
  | .dk kvs => ∃ vs, H a = some (.dK vs) ∧ KD K mg φ H vs kvs
def DenW : V → W → Prop
  | v, .d x => Den K mg φ H v x
  | v, .tmp xs => ∃ a vs, v = .ref a ∧ a ∉ φ ∧ H a = some (.lst vs) ∧ Dens K mg φ H vs xs
end

def Stb : HO → Prop
  | .tup _ => True
  | .frz _ _ => True
  | _ => False

structure StOk (K : PySem.W.Frag) (mg : Str → Option Value) (φ : List Addr) (S : Sto) (H : Hp) : Prop where
  len : φ.length = S.length
  nd : φ.Nodup
  obj : ∀ (n : Nat) (a : Addr) (o : O), φ[n]? = some a → S[n]? = some o → ObjD K mg φ H a o
structure Evo (φ : List Addr) (H : Hp) (φ' : List Addr) (H' : Hp) : Prop where
  ext : ∃ ψ, φ' = φ ++ ψ ∧ ∀ a ∈ ψ, H a = none
  out : ∀ a o, H a = some o → a ∉ φ → H' a = some o
  stb : ∀ a u, Stb u → H a = some u → H' a = some u
  thr : ∀ a, H' a = none → H a = none

section
variable {K : PySem.W.Frag} {mg : Str → Option Value} {φ φ' φ'' : List Addr} {H H' H'' : Hp} {S : Sto}

theorem Evo.refl (φ : List Addr) (H : Hp) : Evo φ H φ H := ⟨⟨[], by simp, by simp⟩, fun _ _ h _ => h, fun _ _ _ h => h, fun _ h => h⟩
theorem Evo.trans (a : Evo φ H φ' H') (b : Evo φ' H' φ'' H'') : Evo φ H φ'' H'' := by
  obtain ⟨ψ, rfl, hψ⟩ := a.ext
  obtain ⟨χ, rfl, hχ⟩ := b.ext
  refine ⟨⟨ψ ++ χ, by simp, fun x hx => ?_⟩, fun x o h hn => ?_, fun x u hu h => b.stb x u hu (a.stb x u hu h), fun x h => a.thr x (b.thr x h)⟩
  · rcases List.mem_append.mp hx with h | h
    · exact hψ x h
    · exact a.thr x (hχ x h)
  · refine b.out x o (a.out x o h hn) fun hx => ?_
    rcases List.mem_append.mp hx with z | z
    · exact hn z
    · rw [hψ x z] at h; cases h
theorem Evo.pre (a : Evo φ H φ' H') {n : Nat} {x : Addr} (h : φ[n]? = some x) : φ'[n]? = some x := by
  obtain ⟨ψ, rfl, _⟩ := a.ext
  have : n < φ.length := by
    rcases Nat.lt_or_ge n φ.length with z | z
    · exact z
    · rw [List.getElem?_eq_none z] at h; cases h
  rw [List.getElem?_append_left this]; exact h
theorem rd_stb {a : Addr} {u : HO} (e : Evo φ H φ' H') (hs : Stb u) (r : Rd H a u) : Rd H' a u := by
  rcases r with r | ⟨o, r⟩
  · exact .inl (e.stb _ _ hs r)
  · exact .inr ⟨o, e.stb _ (.frz o u) trivial r⟩
theorem sqT_evo {a : Addr} {vs : List V} (e : Evo φ H φ' H') (h : SqT K H a vs) : SqT K H' a vs := by
  rcases h with h | h
  · exact .inl (rd_stb e trivial h)
  · exact .inr h
theorem sqF_evo {a : Addr} {vs : List V} (e : Evo φ H φ' H') (h : SqF K H a vs) : SqF K H' a vs := by
  rcases h with ⟨o, h⟩ | h
  · exact .inl ⟨o, e.stb _ (.frz o _) trivial h⟩
  · exact .inr h
mutual
theorem Den.evo (e : Evo φ H φ' H') : ∀ {v : V} {d : D}, Den K mg φ H v d → Den K mg φ' H' v d
  | _, _, .non => .non
  | _, _, .bl b => .bl b
  | _, _, .int i => .int i
  | _, _, .str x => .str x
  | _, _, .tup h hs => .tup (sqT_evo e h) (Dens.evo e hs)
  | _, _, .fz h hs => .fz (sqF_evo e h) (Dens.evo e hs)
  | _, _, .ref h => .ref (e.pre h)
  | _, _, .fn h => .fn h
theorem Dens.evo (e : Evo φ H φ' H') : ∀ {vs : List V} {ds : List D}, Dens K mg φ H vs ds → Dens K mg φ' H' vs ds
  | _, _, .nil => .nil
  | _, _, .cons h hs => .cons (Den.evo e h) (Dens.evo e hs)
end

theorem Dens.length : ∀ {vs : List V} {ds : List D}, Dens K mg φ H vs ds → vs.length = ds.length
  | _, _, .nil => rfl
  | _, _, .cons _ h => by rw [List.length_cons, List.length_cons, Dens.length h]
theorem Dens.get : ∀ {vs : List V} {ds : List D} {i : Nat} {d : D}, Dens K mg φ H vs ds → ds[i]? = some d → ∃ v, vs[i]? = some v ∧ Den K mg φ H v d
  | _, _, _, _, .nil, e => by simp at e
  | _, _, 0, _, .cons h _, e => by simp at e; subst e; exact ⟨_, rfl, h⟩
  | _, _, i + 1, d, .cons _ h, e => by
    obtain ⟨v, h1, h2⟩ := Dens.get (i := i) (d := d) h (by simpa using e)
    exact ⟨v, by simpa using h1, h2⟩
theorem Dens.getV : ∀ {vs : List V} {ds : List D} {i : Nat} {v : V}, Dens K mg φ H vs ds → vs[i]? = some v → ∃ d, ds[i]? = some d ∧ Den K mg φ H v d
  | _, _, _, _, .nil, e => by simp at e
  | _, _, 0, _, .cons h _, e => by simp at e; subst e; exact ⟨_, rfl, h⟩
  | _, _, i + 1, d, .cons _ h, e => by
    obtain ⟨v, h1, h2⟩ := Dens.getV (i := i) (v := d) h (by simpa using e)
    exact ⟨v, by simpa using h1, h2⟩
theorem Dens.append : ∀ {vs us : List V} {ds es : List D}, Dens K mg φ H vs ds → Dens K mg φ H us es → Dens K mg φ H (vs ++ us) (ds ++ es)
  | _, _, _, _, .nil, h => h
  | _, _, _, _, .cons a b, h => .cons a (Dens.append b h)
theorem Dens.take : ∀ (n : Nat) {vs : List V} {ds : List D}, Dens K mg φ H vs ds → Dens K mg φ H (vs.take n) (ds.take n)
  | 0, _, _, _ => .nil
  | _ + 1, _, _, .nil => .nil
  | n + 1, _, _, .cons a b => .cons a (Dens.take n b)
theorem Dens.drop : ∀ (n : Nat) {vs : List V} {ds : List D}, Dens K mg φ H vs ds → Dens K mg φ H (vs.drop n) (ds.drop n)
  | 0, _, _, h => h
  | _ + 1, _, _, .nil => .nil
  | n + 1, _, _, .cons a b => Dens.drop n b
theorem Dens.set : ∀ (n : Nat) {vs : List V} {ds : List D} {v : V} {d : D}, Dens K mg φ H vs ds → Den K mg φ H v d → Dens K mg φ H (vs.set n v) (ds.set n d)
  | _, _, _, _, _, .nil, _ => .nil
  | 0, _, _, _, _, .cons _ b, h => .cons h b
  | n + 1, _, _, _, _, .cons a b, h => .cons a (Dens.set n b h)
theorem Dens.snoc {vs : List V} {ds : List D} {v : V} {d : D} (h : Dens K mg φ H vs ds) (h' : Den K mg φ H v d) : Dens K mg φ H (vs ++ [v]) (ds ++ [d]) := h.append (.cons h' .nil)
theorem Dens.isEmpty {vs : List V} {ds : List D} (h : Dens K mg φ H vs ds) : vs.isEmpty = ds.isEmpty := by cases h <;> rfl
theorem Dens.flat : ∀ (k : Nat) {vs : List V} {ds : List D}, Dens K mg φ H vs ds → Dens K mg φ H (List.replicate k vs).flatten (List.replicate k ds).flatten
  | 0, _, _, _ => .nil
  | k + 1, _, _, h => by
    rw [List.replicate_succ, List.replicate_succ, List.flatten_cons, List.flatten_cons]
    exact h.append (Dens.flat k h)
theorem Dens.ints : ∀ {vs : List V} {ds : List D} {ns : List Int}, Dens K mg φ H vs ds → intsOf ds = some ns → vs = ns.map V.int
  | _, _, _, .nil, e => by cases e; rfl
  | _, _, ns, .cons (d := d) (ds := ds) a b, e => by
    cases d with
    | int i =>
      cases a
      unfold intsOf at e
      cases h : intsOf ds with
      | none => rw [h] at e; cases e
      | some ms =>
        rw [h] at e
        cases e
        rw [List.map_cons, Dens.ints b h]
    | _ => cases e
theorem Dens.bls : ∀ {vs : List V} {ds : List D} {ns : List Bool}, Dens K mg φ H vs ds → blsOf ds = some ns → vs = ns.map V.bl
  | _, _, _, .nil, e => by cases e; rfl
  | _, _, ns, .cons (d := d) (ds := ds) a b, e => by
    cases d with
    | bl i =>
      cases a
      unfold blsOf at e
      cases h : blsOf ds with
      | none => rw [h] at e; cases e
      | some ms =>
        rw [h] at e
        cases e
        rw [List.map_cons, Dens.bls b h]
    | _ => cases e
theorem Dens.of_ints : ∀ ns : List Int, Dens K mg φ H (ns.map V.int) (ns.map D.int)
  | [] => .nil
  | n :: ns => .cons (.int n) (Dens.of_ints ns)

theorem KD.evo {vs : List (Key × V)} {kvs : List (Key × D)} (e : Evo φ H φ' H') (h : KD K mg φ H vs kvs) : KD K mg φ' H' vs kvs := Paired.mapP h fun _ _ z => ⟨z.1, z.2.evo e⟩
/-- an object that stands as it stood -/
theorem ObjD.evo {a : Addr} {o : O} (e : Evo φ H φ' H') (s : H' a = H a) (h : ObjD K mg φ H a o) : ObjD K mg φ' H' a o := by
  cases o with
  | lst xs => obtain ⟨vs, h1, h2⟩ := h; exact ⟨vs, by rw [s]; exact h1, h2.evo e⟩
  | dk kvs => obtain ⟨vs, h1, h2⟩ := h; exact ⟨vs, by rw [s]; exact h1, h2.evo e⟩
theorem ObjD.some {a : Addr} {o : O} (h : ObjD K mg φ H a o) : ∃ u, H a = some u ∧ ¬ Stb u := by
  cases o with
  | lst xs => obtain ⟨vs, h1, h2⟩ := h; exact ⟨_, h1, fun z => z⟩
  | dk kvs => obtain ⟨vs, h1, h2⟩ := h; exact ⟨_, h1, fun z => z⟩
theorem StOk.at (h : StOk K mg φ S H) {n : Nat} {o : O} (e : S[n]? = some o) : ∃ a, φ[n]? = some a ∧ ObjD K mg φ H a o := by
  have hn : n < S.length := by
    rcases Nat.lt_or_ge n S.length with z | z
    · exact z
    · rw [List.getElem?_eq_none z] at e; cases e
  have hp : n < φ.length := by rw [h.len]; exact hn
  exact ⟨φ[n], by simp [hp], h.obj n _ o (by simp [hp]) e⟩
theorem StOk.at' (h : StOk K mg φ S H) {n : Nat} {a : Addr} (e : φ[n]? = some a) : ∃ o, S[n]? = some o ∧ ObjD K mg φ H a o := by
  have hn : n < φ.length := by
    rcases Nat.lt_or_ge n φ.length with z | z
    · exact z
    · rw [List.getElem?_eq_none z] at e; cases e
  have hp : n < S.length := by rw [← h.len]; exact hn
  exact ⟨S[n], by simp [hp], h.obj n _ _ e (by simp [hp])⟩
theorem StOk.mem (h : StOk K mg φ S H) {a : Addr} (e : a ∈ φ) : ∃ u, H a = some u ∧ ¬ Stb u := by
  obtain ⟨n, hn, rfl⟩ := List.mem_iff_getElem.mp e
  obtain ⟨o, _, ho⟩ := h.at' (n := n) (a := φ[n]) (by simp [hn])
  exact ho.some
theorem StOk.fresh (h : StOk K mg φ S H) {a : Addr} (e : H a = none) : a ∉ φ := fun z => by
  obtain ⟨u, hu, _⟩ := h.mem z
  rw [e] at hu; cases hu
theorem StOk.stbn (h : StOk K mg φ S H) {a : Addr} {u : HO} (hs : Stb u) (e : H a = some u) : a ∉ φ := fun z => by
  obtain ⟨v, hv, nv⟩ := h.mem z
  rw [e] at hv; cases hv; exact nv hs

/-- a new object that the store does not know -/
theorem Evo.new {p : Addr} {o : HO} (h : H p = none) : Evo φ H φ (upd H p o) :=
  ⟨⟨[], by simp, by simp⟩, fun a u e _ => by rw [upd_ne (ne_of_none e h)]; exact e, fun a u _ e => by rw [upd_ne (ne_of_none e h)]; exact e,
    fun a e => by
      by_cases z : a = p
      · rw [z]; exact h
      · rw [upd_ne z] at e; exact e⟩
theorem StOk.new {p : Addr} {o : HO} (s : StOk K mg φ S H) (h : H p = none) : StOk K mg φ S (upd H p o) :=
  ⟨s.len, s.nd, fun n a u e1 e2 => (s.obj n a u e1 e2).evo (Evo.new h) (upd_ne fun z => by
    obtain ⟨w, hw, _⟩ := (s.obj n a u e1 e2).some
    rw [z, h] at hw; cases hw)⟩
/-- the object at a comes into the store -/
theorem Evo.put {φ₀ : List Addr} {H₀ : Hp} {a : Addr} (e : Evo φ₀ H₀ φ H) (h : H₀ a = none) : Evo φ₀ H₀ (φ ++ [a]) H := by
  obtain ⟨ψ, rfl, hψ⟩ := e.ext
  refine ⟨⟨ψ ++ [a], by simp, fun x hx => ?_⟩, e.out, e.stb, e.thr⟩
  rcases List.mem_append.mp hx with z | z
  · exact hψ x z
  · have : x = a := by simpa using z
    rw [this]; exact h
/-- more of the store's places alone -/
theorem Den.more {a : Addr} : ∀ {v : V} {d : D}, Den K mg φ H v d → Den K mg (φ ++ [a]) H v d
  | _, _, .non => .non
  | _, _, .bl b => .bl b
  | _, _, .int i => .int i
  | _, _, .str x => .str x
  | _, _, .tup h hs => .tup h (go hs)
  | _, _, .fz h hs => .fz h (go hs)
  | _, _, .ref (n := n) h => .ref (by
    have : n < φ.length := by
      rcases Nat.lt_or_ge n φ.length with z | z
      · exact z
      · rw [List.getElem?_eq_none z] at h; cases h
    rw [List.getElem?_append_left this]; exact h)
  | _, _, .fn h => .fn h
where go : ∀ {vs : List V} {ds : List D}, Dens K mg φ H vs ds → Dens K mg (φ ++ [a]) H vs ds
  | _, _, .nil => .nil
  | _, _, .cons h hs => .cons (Den.more h) (go hs)
theorem Dens.more {a : Addr} : ∀ {vs : List V} {ds : List D}, Dens K mg φ H vs ds → Dens K mg (φ ++ [a]) H vs ds
  | _, _, .nil => .nil
  | _, _, .cons h hs => .cons h.more (Dens.more hs)
theorem ObjD.more {a b : Addr} {o : O} (h : ObjD K mg φ H b o) : ObjD K mg (φ ++ [a]) H b o := by
  cases o with
  | lst xs => obtain ⟨vs, h1, h2⟩ := h; exact ⟨vs, h1, h2.more⟩
  | dk kvs => obtain ⟨vs, h1, h2⟩ := h; exact ⟨vs, h1, Paired.mapP h2 fun _ _ z => ⟨z.1, z.2.more⟩⟩
theorem StOk.put {a : Addr} {o : O} (s : StOk K mg φ S H) (h : a ∉ φ) (ho : ObjD K mg φ H a o) : StOk K mg (φ ++ [a]) (S ++ [o]) H := by
  refine ⟨by simp [s.len], ?_, fun n b u e1 e2 => ?_⟩
  · rw [List.nodup_append]
    refine ⟨s.nd, by simp, fun x hx y hy z => ?_⟩
    have : y = a := by simpa using hy
    exact h (by rw [← this, ← z]; exact hx)
  · rcases Nat.lt_trichotomy n φ.length with z | z | z
    · rw [List.getElem?_append_left z] at e1
      rw [List.getElem?_append_left (by rw [← s.len]; exact z)] at e2
      exact (s.obj n b u e1 e2).more
    · subst z
      rw [List.getElem?_append_right (Nat.le_refl _), Nat.sub_self] at e1
      rw [s.len, List.getElem?_append_right (Nat.le_refl _), Nat.sub_self] at e2
      cases e1; cases e2
      exact ho.more
    · rw [List.getElem?_eq_none (by simp; omega)] at e1; cases e1
/-- an object of the store is written -/
theorem Evo.write {a : Addr} {u : HO} (s : StOk K mg φ S H) (h : a ∈ φ) : Evo φ H φ (upd H a u) := by
  obtain ⟨w, hw, nw⟩ := s.mem h
  refine ⟨⟨[], by simp, by simp⟩, fun b o e n => ?_, fun b o hs e => ?_, fun b e => ?_⟩
  · rw [upd_ne (fun z : b = a => n (by rw [z]; exact h))]; exact e
  · rw [upd_ne (fun z : b = a => s.stbn hs e (by rw [z]; exact h))]; exact e
  · by_cases z : b = a
    · subst z; rw [upd_same] at e; cases e
    · rw [upd_ne z] at e; exact e
theorem StOk.write {n : Nat} {a : Addr} {u : HO} {o : O} (s : StOk K mg φ S H) (h : φ[n]? = some a) (ho : ObjD K mg φ (upd H a u) a o) : StOk K mg φ (S.set n o) (upd H a u) := by
  have hm : a ∈ φ := List.mem_of_getElem? h
  refine ⟨by rw [List.length_set]; exact s.len, s.nd, fun m b w e1 e2 => ?_⟩
  by_cases hmn : n = m
  · subst hmn
    rw [h] at e1; cases e1
    have hn : n < S.length := by
      rw [← s.len]
      rcases Nat.lt_or_ge n φ.length with z | z
      · exact z
      · rw [List.getElem?_eq_none z] at h; cases h
    rw [List.getElem?_set_self hn] at e2
    cases e2
    exact ho
  · rw [List.getElem?_set_ne hmn] at e2
    refine (s.obj m b w e1 e2).evo (Evo.write s hm) (upd_ne fun z => hmn ?_)
    subst z
    have h1 : n < φ.length := by
      rcases Nat.lt_or_ge n φ.length with z | z
      · exact z
      · rw [List.getElem?_eq_none z] at h; cases h
    have h2 : m < φ.length := by
      rcases Nat.lt_or_ge m φ.length with z | z
      · exact z
      · rw [List.getElem?_eq_none z] at e1; cases e1
    have g1 : φ[n] = b := by simpa [h1] using h
    have g2 : φ[m] = b := by simpa [h2] using e1
    by_cases hlt : n < m
    · exact absurd (g1.trans g2.symm) (List.pairwise_iff_getElem.mp s.nd n m h1 h2 hlt)
    · by_cases hgt : m < n
      · exact absurd (g2.trans g1.symm) (List.pairwise_iff_getElem.mp s.nd m n h2 h1 hgt)
      · omega

/-! ### values and lists that nothing else holds -/
theorem DenW.evo {v : V} {w : W} (e : Evo φ H φ' H') (h : DenW K mg φ H v w) : DenW K mg φ' H' v w := by
  cases w with
  | d x => exact Den.evo e h
  | tmp xs =>
    obtain ⟨a, vs, rfl, hn, ha, hs⟩ := h
    obtain ⟨ψ, rfl, hψ⟩ := id e.ext
    refine ⟨a, vs, rfl, fun z => ?_, e.out a _ ha hn, hs.evo e⟩
    rcases List.mem_append.mp z with z | z
    · exact hn z
    · rw [hψ a z] at ha; cases ha
/-- a list made since H -/
def FrW (H : Hp) : V → W → Prop
  | v, .tmp _ => ∃ a, v = .ref a ∧ H a = none
  | _, _ => True
theorem FrW.back {v : V} {w : W} (t : ∀ a, H' a = none → H a = none) (h : FrW H' v w) : FrW H v w := by
  cases w with
  | d x => trivial
  | tmp xs => obtain ⟨a, e, h⟩ := h; exact ⟨a, e, t a h⟩
def DenWs (K : PySem.W.Frag) (mg : Str → Option Value) (φ : List Addr) (H : Hp) : List V → List W → Prop := Paired (DenW K mg φ H)
def tmps : List V → List W → List Addr
  | .ref a :: vs, .tmp _ :: ws => a :: tmps vs ws
  | _ :: vs, _ :: ws => tmps vs ws
  | _, _ => []
def FrWs (H : Hp) (vs : List V) (ws : List W) : Prop := (tmps vs ws).Nodup ∧ ∀ a ∈ tmps vs ws, H a = none
theorem DenWs.evo {vs : List V} {ws : List W} (e : Evo φ H φ' H') (h : DenWs K mg φ H vs ws) : DenWs K mg φ' H' vs ws := Paired.mapP h fun _ _ z => z.evo e
theorem tmps_d {v : V} {x : D} {vs : List V} {ws : List W} : tmps (v :: vs) (.d x :: ws) = tmps vs ws := by
  cases v <;> rfl
theorem FrWs.cons {H0 H1 : Hp} {v : V} {w : W} {vs : List V} {ws : List W} (t : ∀ a, H1 a = none → H0 a = none) (hw : DenW K mg φ H1 v w) (h : FrW H0 v w) (hs : FrWs H1 vs ws) : FrWs H0 (v :: vs) (w :: ws) := by
  cases w with
  | d x =>
    unfold FrWs
    rw [tmps_d]
    exact ⟨hs.1, fun a ha => t a (hs.2 a ha)⟩
  | tmp xs =>
    obtain ⟨a, rfl, ha⟩ := h
    obtain ⟨b, us, e, _, hb, _⟩ := hw
    cases e
    refine ⟨List.nodup_cons.mpr ⟨fun z => ?_, hs.1⟩, fun x hx => ?_⟩
    · rw [hs.2 a z] at hb; cases hb
    · rcases List.mem_cons.mp hx with rfl | z
      · exact ha
      · exact t x (hs.2 x z)
theorem DenWs.more {a : Addr} : ∀ {vs : List V} {ws : List W}, DenWs K mg φ H vs ws → a ∉ tmps vs ws → DenWs K mg (φ ++ [a]) H vs ws
  | _, _, .nil, _ => .nil
  | _, _, .cons (a := v) (b := w) (l₁ := vs) (l₂ := ws) h hs, n => by
    cases w with
    | d x =>
      rw [tmps_d] at n
      exact .cons (Den.more (show Den K mg φ H v x from h)) (DenWs.more hs n)
    | tmp xs =>
      obtain ⟨b, us, rfl, hb, h1, h2⟩ := h
      have n1 : a ≠ b := fun z => n (by rw [z]; exact List.mem_cons_self)
      have n2 : a ∉ tmps vs ws := fun z => n (List.mem_cons_of_mem _ z)
      refine .cons ⟨b, us, rfl, fun z => ?_, h1, h2.more⟩ (DenWs.more hs n2)
      rcases List.mem_append.mp z with z | z
      · exact hb z
      · exact n1 (by simpa using z : b = a).symm
/-- into the store -/
theorem mat_ok {φ₀ : List Addr} {H₀ : Hp} {v : V} {w : W} (e : Evo φ₀ H₀ φ H) (s : StOk K mg φ S H) (h : DenW K mg φ H v w) (f : FrW H₀ v w) :
    ∃ φ', Evo φ₀ H₀ φ' H ∧ StOk K mg φ' (matW w S).2 H ∧ Den K mg φ' H v (matW w S).1 ∧ (φ' = φ ∨ ∃ a xs, v = .ref a ∧ w = .tmp xs ∧ φ' = φ ++ [a]) := by
  cases w with
  | d x => exact ⟨φ, e, s, h, .inl rfl⟩
  | tmp xs =>
    obtain ⟨a, vs, rfl, hn, ha, hs⟩ := h
    obtain ⟨b, eb, hb⟩ := f
    cases eb
    refine ⟨φ ++ [a], e.put hb, s.put hn ⟨vs, ha, hs⟩, .ref ?_, .inr ⟨a, xs, rfl, rfl, rfl⟩⟩
    show (φ ++ [a])[S.length]? = some a
    rw [← s.len, List.getElem?_append_right (Nat.le_refl _), Nat.sub_self]; rfl
theorem mats_ok {φ₀ : List Addr} {H₀ : Hp} : ∀ {vs : List V} {ws : List W} {φ : List Addr} {S : Sto}, Evo φ₀ H₀ φ H → StOk K mg φ S H → DenWs K mg φ H vs ws → FrWs H₀ vs ws →
    ∃ φ', Evo φ₀ H₀ φ' H ∧ StOk K mg φ' (matsW ws S).2 H ∧ Dens K mg φ' H vs (matsW ws S).1 ∧ (∀ u x, Den K mg φ H u x → Den K mg φ' H u x)
  | _, _, φ, S, e, s, .nil, f => ⟨φ, e, s, .nil, fun _ _ z => z⟩
  | _, _, φ, S, e, s, .cons (a := v) (b := w) (l₁ := vs) (l₂ := ws) h hs, f => by
    cases w with
    | d x =>
      unfold FrWs at f
      rw [tmps_d] at f
      obtain ⟨φ2, e2, s2, d2, m2⟩ := mats_ok e s hs f
      exact ⟨φ2, e2, s2, .cons (m2 _ _ h) d2, m2⟩
    | tmp xs =>
      obtain ⟨a, us, rfl, hn, ha, hd⟩ := h
      have e1 : Evo φ₀ H₀ (φ ++ [a]) H := e.put (f.2 a List.mem_cons_self)
      have s1 : StOk K mg (φ ++ [a]) (S ++ [.lst xs]) H := s.put hn ⟨us, ha, hd⟩
      have nd := List.nodup_cons.mp f.1
      obtain ⟨φ2, e2, s2, d2, m2⟩ := mats_ok e1 s1 (DenWs.more hs nd.1) ⟨nd.2, fun x hx => f.2 x (List.mem_cons_of_mem _ hx)⟩
      refine ⟨φ2, e2, s2, .cons (m2 _ _ (.ref ?_)) d2, fun u x z => m2 u x z.more⟩
      show (φ ++ [a])[S.length]? = some a
      rw [← s.len, List.getElem?_append_right (Nat.le_refl _), Nat.sub_self]; rfl
end
end Z

set_option Elab.async false
set_option linter.all false
set_option maxRecDepth 100000
/-! Z3: operators, comparisons, subscripts, built-ins by deep values. -/
namespace Z
open PySem PySem.Spec PyProof.Rows L2

section
variable {K : PySem.W.Frag} {mg : Str → Option Value} {φ φ' : List Addr} {H H' : Hp} {S : Sto}
/-- what may follow a value z -/
def Kont (K : PySem.W.Frag) (mg : Str → Option Value) (φ : List Addr) (S : Sto) (H : Hp) (z : W) (Q : VK) : Prop :=
  ∀ t H', Evo φ H φ H' → StOk K mg φ S H' → DenW K mg φ H' t z → FrW H t z → Q t H'
theorem Kont.old {x : D} {Q : VK} {t : V} (k : Kont K mg φ S H (.d x) Q) (s : StOk K mg φ S H) (h : Den K mg φ H t x) : Q t H := k t H (Evo.refl _ _) s h trivial
theorem Kont.tup {ds : List D} {vs : List V} {Q : VK} (k : Kont K mg φ S H (.d (.tup ds)) Q) (s : StOk K mg φ S H) (h : Dens K mg φ H vs ds) : ∀ p, H p = none → Q (.ref p) (upd H p (.tup vs)) := fun p hp =>
  k _ _ (Evo.new hp) (s.new hp) (.tup (.inl (.inl upd_same)) (h.evo (Evo.new hp))) trivial
theorem Kont.lst {ds : List D} {vs : List V} {Q : VK} (k : Kont K mg φ S H (.tmp ds) Q) (s : StOk K mg φ S H) (h : Dens K mg φ H vs ds) : ∀ p, H p = none → Q (.ref p) (upd H p (.lst vs)) := fun p hp =>
  k _ _ (Evo.new hp) (s.new hp) ⟨p, vs, rfl, s.fresh hp, upd_same, h.evo (Evo.new hp)⟩ ⟨p, rfl, hp⟩

theorem LN_le {n : Nat} (h : n ≤ LN) : n ≤ sizeLine := Nat.le_trans h (by decide)
theorem LN_lt {n : Nat} (h : n < LN) : n < sizeLine := Nat.lt_of_lt_of_le h (by decide)

theorem lstOfW_ok {w : W} {v : V} {xs : List D} (s : StOk K mg φ S H) (h : DenW K mg φ H v w) (e : lstOfW S w = some xs) : ∃ a vs, v = .ref a ∧ H a = some (.lst vs) ∧ Dens K mg φ H vs xs := by
  cases w with
  | tmp ys => cases e; obtain ⟨a, vs, rfl, _, h1, h2⟩ := h; exact ⟨a, vs, rfl, h1, h2⟩
  | d x =>
    cases x with
    | ref n =>
      cases (show Den K mg φ H v (.ref n) from h) with
      | ref hn =>
        unfold lstOfW at e
        simp only at e
        split at e
        · next ys hs =>
          cases e
          obtain ⟨vs, h1, h2⟩ := s.obj _ _ _ hn hs
          exact ⟨_, vs, rfl, h1, h2⟩
        · cases e
    | _ => cases e
theorem lstOf_ok {w : W} {v : V} {xs : List D} (s : StOk K mg φ S H) (h : DenW K mg φ H v w) (e : lstOf S w = some xs) : ∃ a vs, v = .ref a ∧ SqL K H a vs ∧ Dens K mg φ H vs xs := by
  cases w with
  | tmp ys => cases e; obtain ⟨a, vs, rfl, _, h1, h2⟩ := h; exact ⟨a, vs, rfl, SqL.of h1, h2⟩
  | d x =>
    cases x with
    | ref n =>
      cases (show Den K mg φ H v (.ref n) from h) with
      | ref hn =>
        unfold lstOf at e
        simp only at e
        split at e
        · next ys hs =>
          cases e
          obtain ⟨vs, h1, h2⟩ := s.obj _ _ _ hn hs
          exact ⟨_, vs, rfl, SqL.of h1, h2⟩
        · cases e
    | fz ys =>
      cases e
      cases (show Den K mg φ H v (.fz _) from h) with
      | fz h1 h2 => exact ⟨_, _, rfl, h1.sq, h2⟩
    | _ => cases e
theorem seqOf_ok {w : W} {v : V} {xs : List D} (s : StOk K mg φ S H) (h : DenW K mg φ H v w) (e : seqOf S w = some xs) : ∃ a vs, v = .ref a ∧ (SqL K H a vs ∨ SqT K H a vs) ∧ Dens K mg φ H vs xs := by
  cases w with
  | d x =>
    cases x with
    | tup ys =>
      cases e
      cases (show Den K mg φ H v (.tup _) from h) with
      | tup h1 h2 => exact ⟨_, _, rfl, .inr h1, h2⟩
    | _ => obtain ⟨a, vs, h1, h2, h3⟩ := lstOf_ok s h e; exact ⟨a, vs, h1, .inl h2, h3⟩
  | tmp ys => obtain ⟨a, vs, h1, h2, h3⟩ := lstOf_ok s h e; exact ⟨a, vs, h1, .inl h2, h3⟩

/-! ### as data -/
mutual
theorem Den.dp : ∀ {v : V} {d : D}, Den K mg φ H v d → d.py.canLay0 = true → Dp K H v d.py
  | _, _, .non, _ => .non
  | _, _, .bl b, _ => .bl b
  | _, _, .int i, _ => .int i
  | _, _, .str x, _ => .str x
  | _, _, .tup h hs, c => .tup h (Dens.dp hs (by simpa [D.py, PyData.canLay0] using c))
  | _, _, .fz h hs, c => .lst h.sq (Dens.dp hs (by simpa [D.py, PyData.canLay0] using c))
  | _, _, .ref _, c => by simp [D.py, PyData.canLay0] at c
  | _, _, .fn _, c => by simp [D.py, PyData.canLay0] at c
theorem Dens.dp : ∀ {vs : List V} {ds : List D}, Dens K mg φ H vs ds → PyData.canLayAll0 (D.pys ds) = true → DpAll K H vs (D.pys ds)
  | _, _, .nil, _ => .nil
  | _, _, .cons (d := d) (ds := ds) h hs, c => by
    have c' : d.py.canLay0 = true ∧ PyData.canLayAll0 (D.pys ds) = true := by simpa [D.pys, PyData.canLayAll0] using c
    exact .cons (Den.dp h c'.1) (Dens.dp hs c'.2)
end
theorem shaped_lay {d : PyData} (h : SeqAt.shaped d = true) : d.canLay0 = true := by
  unfold SeqAt.shaped at h
  simp only [Bool.and_eq_true] at h
  exact h.1
theorem DenW.dp {v : V} {w : W} (s : StOk K mg φ S H) (h : DenW K mg φ H v w) (c : (pyW S w).canLay0 = true) : Dp K H v (pyW S w) := by
  cases w with
  | tmp xs =>
    obtain ⟨a, vs, rfl, _, h1, h2⟩ := h
    exact .lst (SqL.of h1) (h2.dp (by simpa [pyW, PyData.canLay0] using c))
  | d x =>
    cases x with
    | ref n =>
      cases (show Den K mg φ H v (.ref n) from h) with
      | ref hn =>
        unfold pyW at c ⊢
        simp only at c ⊢
        split at c
        · next ys hs =>
          obtain ⟨vs, h1, h2⟩ := s.obj _ _ _ hn hs
          exact .lst (SqL.of h1) (h2.dp (by simpa [PyData.canLay0] using c))
        · simp [PyData.canLay0] at c
    | non => exact Den.dp (show Den K mg φ H v _ from h) c
    | bl b => exact Den.dp (show Den K mg φ H v _ from h) c
    | int i => exact Den.dp (show Den K mg φ H v _ from h) c
    | str i => exact Den.dp (show Den K mg φ H v _ from h) c
    | tup i => exact Den.dp (show Den K mg φ H v _ from h) c
    | fz i => exact Den.dp (show Den K mg φ H v _ from h) c
    | fn i => exact Den.dp (show Den K mg φ H v _ from h) c
end

/-! ### binary operators -/
def opOf : Bop → Operator
  | .add => .Add | .sub => .Sub | .mul => .Mult | .fdiv => .FloorDiv | .mod => .Mod | .pow => .Pow | .shl => .LShift | .shr => .RShift | .band => .BitAnd | .bor => .BitOr | .bxor => .BitXor
def vBin (K : PySem.W.Frag) (mg : Str → Option Value) (o : Bop) : R2 := fun v u H Q => ∃ φ S x y z, StOk K mg φ S H ∧ DenW K mg φ H v x ∧ DenW K mg φ H u y ∧ binW S o x y = some z ∧ Kont K mg φ S H z Q
theorem big_log {a : Int} (h : a.natAbs < big) : a.natAbs.log2 < 1000 := PySem.Flt.log2_lt_of (by decide) h
section
variable {X : Cx}
theorem opI_ok (o : Bop) {a b c : Int} (h : binI o a b = some c) {pins : List (Addr × Obj)} {s : Shared} {σ : L2.St} {H : Hp} {v u : Value} {Q : VK} (I : Inv X pins σ H s) (rx : RelV (.int a) v) (ry : RelV (.int b) u) (q : Q (.int c) H) :
    wpAny (model X.prog X.w) X.A (binaryOp (opOf o) v u) (EP X pins σ Q) X.xe s := by
  cases o with
  | add => cases h; exact op_add pins s σ H _ _ v u Q I rx ry ⟨a, b, rfl, rfl, q⟩
  | sub => cases h; exact op_sub pins s σ H _ _ v u Q I rx ry ⟨a, b, rfl, rfl, q⟩
  | mul =>
    unfold binI at h
    simp only at h
    split at h
    · next hc =>
      cases h
      unfold mulOk sm64 at hc
      simp only [Bool.or_eq_true, Bool.and_eq_true, decide_eq_true_eq] at hc
      rcases hc with (hc | hc) | hc
      · exact op_mul pins s σ H _ _ v u Q I rx ry ⟨a, b, rfl, rfl, .inl hc, q⟩
      · exact op_mul pins s σ H _ _ v u Q I rx ry ⟨a, b, rfl, rfl, .inr hc, q⟩
      · exact op_mulW pins s σ H _ _ v u Q I rx ry ⟨a, b, rfl, rfl, by
          have h1 := big_log hc.1
          have h2 := big_log hc.2
          show _ < _
          omega, q⟩
    · cases h
  | fdiv =>
    unfold binI at h
    simp only at h
    split at h
    · next hc =>
      cases h
      unfold divOk at hc
      simp only [Bool.and_eq_true, decide_eq_true_eq] at hc
      exact op_fdivW pins s σ H _ _ v u Q I rx ry ⟨a, b, rfl, rfl, ⟨hc.1, by have := big_log hc.2; omega⟩, q⟩
    · cases h
  | mod =>
    unfold binI at h
    simp only at h
    split at h
    · next hc => cases h; exact op_mod pins s σ H _ _ v u Q I rx ry ⟨a, b, rfl, rfl, of_decide_eq_true hc, q⟩
    · cases h
  | pow =>
    unfold binI at h
    simp only at h
    split at h
    · next hc =>
      cases h
      unfold powOk at hc
      simp only [Bool.and_eq_true, decide_eq_true_eq] at hc
      exact op_pow pins s σ H _ _ v u Q I rx ry ⟨a, b, rfl, rfl, ⟨hc.1.1, hc.1.2, hc.2⟩, q⟩
    · cases h
  | shl =>
    unfold binI at h
    simp only at h
    split at h
    · next hc =>
      cases h
      unfold powOk at hc
      simp only [Bool.and_eq_true, decide_eq_true_eq] at hc
      exact op_shl pins s σ H _ _ v u Q I rx ry ⟨a, b, rfl, rfl, ⟨hc.1.1, hc.1.2, hc.2⟩, q⟩
    · cases h
  | shr =>
    unfold binI at h
    simp only at h
    split at h
    · next hc => cases h; exact op_shr pins s σ H _ _ v u Q I rx ry ⟨a, b, rfl, rfl, of_decide_eq_true hc, q⟩
    · cases h
  | band => cases h; exact op_and pins s σ H _ _ v u Q I rx ry ⟨a, b, rfl, rfl, q⟩
  | bor => cases h; exact op_or pins s σ H _ _ v u Q I rx ry ⟨a, b, rfl, rfl, q⟩
  | bxor => cases h; exact op_xor pins s σ H _ _ v u Q I rx ry ⟨a, b, rfl, rfl, q⟩
theorem Dens.nil_iff {K : PySem.W.Frag} {mg : Str → Option Value} {φ : List Addr} {H : Hp} {vs : List V} {ds : List D} (h : Dens K mg φ H vs ds) : vs = [] ↔ ds = [] := by
  cases h <;> simp
theorem addT_ok {K : PySem.W.Frag} {mg : Str → Option Value} (hK : X.K = K) {φ : List Addr} {S : Sto} {a b : List D} (hl : a.length + b.length ≤ LN) {pins : List (Addr × Obj)} {s : Shared} {σ : L2.St} {H : Hp} {x y : V} {v u : Value} {Q : VK} (I : Inv X pins σ H s) (rx : RelV x v) (ry : RelV y u)
    (st : StOk K mg φ S H) (hx : Den K mg φ H x (.tup a)) (hy : Den K mg φ H y (.tup b)) (k : Kont K mg φ S H (.d (.tup (a ++ b))) Q) : wpAny (model X.prog X.w) X.A (binaryOp .Add v u) (EP X pins σ Q) X.xe s := by
  subst hK
  have hx0 := hx
  have hy0 := hy
  cases hx with
  | tup h1 d1 =>
    cases hy with
    | tup h2 d2 =>
      refine op_catA pins s σ H _ _ v u Q I rx ry ⟨_, _, _, _, rfl, rfl, h1, h2, ?_, fun e => ?_, fun e1 e2 => ?_, fun e1 e2 => ?_⟩
      · rw [d1.length, d2.length]; exact LN_le hl
      · have := d1.nil_iff.mp e
        subst this
        exact k.old st hy0
      · have := d2.nil_iff.mp e2
        subst this
        rw [List.append_nil] at k
        exact k.old st hx0
      · exact k.tup st (d1.append d2)
theorem addL_ok {K : PySem.W.Frag} {mg : Str → Option Value} {φ : List Addr} {S : Sto} {x y : W} {a b : List D} (ha : lstOfW S x = some a) (hb : lstOfW S y = some b) (hl : a.length + b.length ≤ LN) {pins : List (Addr × Obj)} {s : Shared} {σ : L2.St} {H : Hp} {v u : V} {v' u' : Value} {Q : VK} (I : Inv X pins σ H s) (rx : RelV v v') (ry : RelV u u')
    (st : StOk K mg φ S H) (hx : DenW K mg φ H v x) (hy : DenW K mg φ H u y) (k : Kont K mg φ S H (.tmp (a ++ b)) Q) : wpAny (model X.prog X.w) X.A (binaryOp .Add v' u') (EP X pins σ Q) X.xe s := by
  obtain ⟨p, vs, rfl, h1, d1⟩ := lstOfW_ok st hx ha
  obtain ⟨q, us, rfl, h2, d2⟩ := lstOfW_ok st hy hb
  exact op_cat pins s σ H _ _ v' u' Q I rx ry ⟨p, q, vs, us, rfl, rfl, h1, h2, by rw [d1.length, d2.length]; exact LN_le hl, k.lst st (d1.append d2)⟩
theorem opr_bin {mg : Str → Option Value} (o : Bop) : OpR X (binaryOp (opOf o)) (vBin X.K mg o) := by
  intro pins s σ H vx vy v u Q I rx ry h
  obtain ⟨φ, S, x, y, z, st, hx, hy, e, k⟩ := h
  unfold binW at e
  split at e
  · next a b =>
    cases hc : binI o a b with
    | none => rw [hc] at e; cases e
    | some c =>
      rw [hc] at e
      cases e
      cases (show Den X.K mg φ H vx (.int a) from hx)
      cases (show Den X.K mg φ H vy (.int b) from hy)
      exact opI_ok o hc I rx ry (k.old st (.int c))
  · next a b =>
    split at e
    · split at e
      · next hl =>
        cases e
        cases (show Den X.K mg φ H vx (.str a) from hx)
        cases (show Den X.K mg φ H vy (.str b) from hy)
        exact op_add_str pins s σ H _ _ v u Q I rx ry ⟨a, b, rfl, rfl, LN_le hl, k.old st (.str _)⟩
      · cases e
    · cases e
  · next a b =>
    split at e
    · split at e
      · next hl => cases e; exact addT_ok rfl hl I rx ry st hx hy k
      · cases e
    · cases e
  · next x' k' hne =>
    split at e
    · split at e
      · next a ha =>
        split at e
        · next hc =>
          cases e
          simp only [Bool.and_eq_true, decide_eq_true_eq] at hc
          obtain ⟨p, vs, rfl, h1, d1⟩ := lstOfW_ok st hx ha
          cases (show Den X.K mg φ H vy (.int k') from hy)
          exact op_rep pins s σ H _ _ v u Q I rx ry ⟨p, k', vs, rfl, rfl, h1, hc.1.1, hc.1.2, by rw [d1.length]; exact LN_le hc.2, k.lst st (d1.flat _)⟩
        · cases e
      · cases e
    · cases e
  · next x' y' h1 h2 h3 h4 =>
    split at e
    · split at e
      · next a b ha hb =>
        split at e
        · next hl => cases e; exact addL_ok ha hb hl I rx ry st hx hy k
        · cases e
      · cases e
    · cases e
end
end Z

set_option Elab.async false
set_option linter.all false
set_option maxRecDepth 100000
/-! Z4: comparisons, truth, subscripts, slices, built-ins by deep values. -/
namespace Z
open PySem PySem.Spec PyProof.Rows L2

def cpOf : Cop → CmpOp
  | .lt => .Lt | .le => .LtE | .gt => .Gt | .ge => .GtE | .eq => .Eq | .ne => .NotEq | .isN => .Is | .notN => .IsNot | .isB => .Is | .notB => .IsNot | .inn => .In | .notin => .NotIn
def vCmp (K : PySem.W.Frag) (mg : Str → Option Value) (o : Cop) : R2 := fun v u H Q => ∃ φ S x y z, StOk K mg φ S H ∧ DenW K mg φ H v x ∧ DenW K mg φ H u y ∧ cmpW S o x y = some z ∧ Q (.bl z) H
section
variable {X : Cx} {mg : Str → Option Value}
theorem den_non {K : PySem.W.Frag} {φ : List Addr} {H : Hp} {v : V} {w : W} (h : DenW K mg φ H v w) (hn : ∀ (z : D), w = .d z → z ≠ .non) : v ≠ .non := by
  cases w with
  | tmp xs => obtain ⟨a, vs, rfl, _⟩ := h; exact fun z => nomatch z
  | d x =>
    intro z
    subst z
    cases (show Den K mg φ H .non x from h)
    exact hn .non rfl rfl
theorem eqW_ok {K : PySem.W.Frag} (hK : X.K = K) (hu : X.A.units + 65 < cLine) {φ : List Addr} {S : Sto} {x y : W} {z : Bool} (e : eqW S x y = some z) {pins : List (Addr × Obj)} {s : Shared} {σ : L2.St} {H : Hp} {v u : V} {v' u' : Value} {Q : VK} (I : Inv X pins σ H s) (rx : RelV v v') (ry : RelV u u')
    (st : StOk K mg φ S H) (hx : DenW K mg φ H v x) (hy : DenW K mg φ H u y) :
    (Q (.bl z) H → wpAny (model X.prog X.w) X.A (compareOp .Eq v' u') (EP X pins σ Q) X.xe s) ∧ (Q (.bl (!z)) H → wpAny (model X.prog X.w) X.A (compareOp .NotEq v' u') (EP X pins σ Q) X.xe s) := by
  subst hK
  unfold eqW at e
  split at e
  · next h =>
    cases e
    simp only [Bool.and_eq_true] at h
    have d1 := DenW.dp st hx (shaped_lay h.1)
    have d2 := DenW.dp st hy (shaped_lay h.2)
    exact ⟨fun q => op_eqD (by omega) pins s σ H v u v' u' Q I rx ry ⟨_, _, d1, d2, h.1, h.2, q⟩, fun q => op_neD (by omega) pins s σ H v u v' u' Q I rx ry ⟨_, _, d1, d2, h.1, h.2, q⟩⟩
  · cases e
theorem inW_ok {K : PySem.W.Frag} (hK : X.K = K) (hu : X.A.units + 65 < cLine) {φ : List Addr} {S : Sto} {x y : W} {z : Bool} (e : inW S x y = some z) {pins : List (Addr × Obj)} {s : Shared} {σ : L2.St} {H : Hp} {v u : V} {v' u' : Value} {Q : VK} (I : Inv X pins σ H s) (rx : RelV v v') (ry : RelV u u')
    (st : StOk K mg φ S H) (hx : DenW K mg φ H v x) (hy : DenW K mg φ H u y) :
    (Q (.bl z) H → wpAny (model X.prog X.w) X.A (compareOp .In v' u') (EP X pins σ Q) X.xe s) ∧ (Q (.bl (!z)) H → wpAny (model X.prog X.w) X.A (compareOp .NotIn v' u') (EP X pins σ Q) X.xe s) := by
  subst hK
  unfold inW at e
  split at e
  · next ys hys =>
    split at e
    · next h =>
      cases e
      simp only [Bool.and_eq_true] at h
      have d1 := DenW.dp st hx (shaped_lay h.1)
      obtain ⟨a, us, rfl, hq, ds⟩ := seqOf_ok st hy hys
      have hl : PyData.canLayAll0 (D.pys ys) = true := by simpa [PyData.canLay0] using shaped_lay h.2
      have d2 := ds.dp hl
      obtain ⟨as, r1⟩ := Dp.reads I _ v v' d1 rx
      rcases hq with hq | hq
      · exact ⟨fun q => op_inD hu pins s σ H v _ v' u' Q I rx ry ⟨_, _, d1, .lst hq d2, h.1, h.2, q⟩, fun q => op_notInD hu pins s σ H v _ v' u' Q I rx ry ⟨_, _, d1, .lst hq d2, h.1, h.2, q⟩⟩
      · obtain ⟨bs, r2⟩ := Dp.reads I (.tuple (D.pys ys)) _ u' (.tup hq d2) ry
        exact ⟨fun q => SeqAt.in_tuple_reads r2 r1 hl (shaped_lay h.1) (room_in_shaped h.1 hu) ⟨.bl _, H, I, rfl, q⟩, fun q => SeqAt.notIn_tuple_reads r2 r1 hl (shaped_lay h.1) (room_in_shaped h.1 hu) ⟨.bl _, H, I, rfl, q⟩⟩
    · cases e
  · cases e
theorem opr_cmp (hu : X.A.units + 65 < cLine) (o : Cop) : OpR X (compareOp (cpOf o)) (vCmp X.K mg o) := by
  intro pins s σ H vx vy v u Q I rx ry h
  obtain ⟨φ, S, x, y, z, st, hx, hy, e, q⟩ := h
  cases o with
  | eq => exact (eqW_ok rfl hu e I rx ry st hx hy).1 q
  | ne =>
    unfold cmpW at e
    simp only at e
    cases h : eqW S x y with
    | none => rw [h] at e; cases e
    | some b => rw [h] at e; cases e; exact (eqW_ok rfl hu h I rx ry st hx hy).2 q
  | inn => exact (inW_ok rfl hu e I rx ry st hx hy).1 q
  | notin =>
    unfold cmpW at e
    simp only at e
    cases h : inW S x y with
    | none => rw [h] at e; cases e
    | some b => rw [h] at e; cases e; exact (inW_ok rfl hu h I rx ry st hx hy).2 q
  | isN =>
    unfold cmpW at e
    simp only at e
    split at e
    · cases e
      cases (show Den X.K mg φ H vx .non from hx)
      cases (show Den X.K mg φ H vy .non from hy)
      exact op_isN pins s σ H _ _ v u Q I rx ry ⟨rfl, q⟩
    · next x' hn =>
      cases e
      cases (show Den X.K mg φ H vy .non from hy)
      exact op_isN pins s σ H _ _ v u Q I rx ry ⟨rfl, by rw [decide_eq_false (den_non hx fun z e1 e2 => hn (by rw [e1, e2]))]; exact q⟩
    · cases e
  | notN =>
    unfold cmpW at e
    simp only at e
    split at e
    · cases e
      cases (show Den X.K mg φ H vx .non from hx)
      cases (show Den X.K mg φ H vy .non from hy)
      exact op_notN pins s σ H _ _ v u Q I rx ry ⟨rfl, q⟩
    · next x' hn =>
      cases e
      cases (show Den X.K mg φ H vy .non from hy)
      exact op_notN pins s σ H _ _ v u Q I rx ry ⟨rfl, by rw [decide_eq_false (den_non hx fun z e1 e2 => hn (by rw [e1, e2]))]; exact q⟩
    · cases e
  | isB =>
    unfold cmpW at e
    simp only at e
    split at e
    · next a b =>
      cases e
      cases (show Den X.K mg φ H vx (.bl a) from hx)
      cases (show Den X.K mg φ H vy (.bl b) from hy)
      exact op_isBl pins s σ H _ _ v u Q I rx ry ⟨a, b, rfl, rfl, q⟩
    · cases e
  | notB =>
    unfold cmpW at e
    simp only at e
    split at e
    · next a b =>
      cases e
      cases (show Den X.K mg φ H vx (.bl a) from hx)
      cases (show Den X.K mg φ H vy (.bl b) from hy)
      exact op_notBl pins s σ H _ _ v u Q I rx ry ⟨a, b, rfl, rfl, q⟩
    · cases e
  | lt =>
    unfold cmpW at e
    simp only at e
    split at e
    · next a b =>
      cases e
      cases (show Den X.K mg φ H vx (.int a) from hx)
      cases (show Den X.K mg φ H vy (.int b) from hy)
      exact op_lt pins s σ H _ _ v u Q I rx ry ⟨a, b, rfl, rfl, q⟩
    · cases e
  | le =>
    unfold cmpW at e
    simp only at e
    split at e
    · next a b =>
      cases e
      cases (show Den X.K mg φ H vx (.int a) from hx)
      cases (show Den X.K mg φ H vy (.int b) from hy)
      exact op_le pins s σ H _ _ v u Q I rx ry ⟨a, b, rfl, rfl, q⟩
    · cases e
  | gt =>
    unfold cmpW at e
    simp only at e
    split at e
    · next a b =>
      cases e
      cases (show Den X.K mg φ H vx (.int a) from hx)
      cases (show Den X.K mg φ H vy (.int b) from hy)
      exact op_gt pins s σ H _ _ v u Q I rx ry ⟨a, b, rfl, rfl, q⟩
    · cases e
  | ge =>
    unfold cmpW at e
    simp only at e
    split at e
    · next a b =>
      cases e
      cases (show Den X.K mg φ H vx (.int a) from hx)
      cases (show Den X.K mg φ H vy (.int b) from hy)
      exact op_ge pins s σ H _ _ v u Q I rx ry ⟨a, b, rfl, rfl, q⟩
    · cases e

/-! ### truth -/
theorem tru_of {K : PySem.W.Frag} {φ : List Addr} {S : Sto} {H : Hp} {v : V} {w : W} {b : Bool} (st : StOk K mg φ S H) (h : DenW K mg φ H v w) (e : truW S w = some b) : TruV K v H b := by
  cases w with
  | tmp xs =>
    obtain ⟨a, vs, rfl, _, h1, h2⟩ := h
    cases e
    exact .inl ⟨vs, SqL.of h1, by rw [h2.isEmpty]⟩
  | d x =>
    have hd : Den K mg φ H v x := h
    cases x with
    | non => cases e; cases hd; rfl
    | bl c => cases e; cases hd; rfl
    | int i => cases e; cases hd; rfl
    | str y =>
      unfold truW at e
      simp only at e
      split at e
      · next hl =>
        cases e
        cases hd
        refine ⟨LN_le hl, ?_⟩
        rw [Bool.eq_iff_iff]
        simp
      · cases e
    | tup xs =>
      cases e
      cases hd with
      | tup h1 h2 => exact .inr (.inl ⟨_, h1, by rw [h2.isEmpty]⟩)
    | fz xs =>
      cases e
      cases hd with
      | fz h1 h2 => exact .inl ⟨_, h1.sq, by rw [h2.isEmpty]⟩
    | fn y => cases e
    | ref n =>
      cases hd with
      | ref hn =>
        unfold truW at e
        simp only at e
        split at e
        · next xs hs =>
          cases e
          obtain ⟨vs, h1, h2⟩ := st.obj _ _ _ hn hs
          exact .inl ⟨vs, SqL.of h1, by rw [h2.isEmpty]⟩
        · next kvs hs =>
          cases e
          obtain ⟨vs, h1, h2⟩ := st.obj _ _ _ hn hs
          refine .inr (.inr ⟨vs, h1, ?_⟩)
          cases h2 <;> rfl
        · cases e

/-! ### subscripts -/
def vIx (K : PySem.W.Frag) (mg : Str → Option Value) : R2 := fun v u H Q => ∃ φ S x y z, StOk K mg φ S H ∧ DenW K mg φ H v x ∧ DenW K mg φ H u y ∧ ixW S x y = some z ∧ Kont K mg φ S H z Q
theorem atI_get {α : Type} {xs : List α} {k : Int} {x : α} (h : atI xs k = some x) : ∃ j, ixN xs.length k = some j ∧ xs[j]? = some x := by
  unfold atI at h
  cases e : ixN xs.length k with
  | none => rw [e] at h; cases h
  | some j => rw [e] at h; exact ⟨j, rfl, h⟩
theorem ixr_ix : IxR X (vIx X.K mg) := by
  intro value slice pins s σ H vx vy v u Q I rx ry h hs
  obtain ⟨φ, S, x, y, z, st, hx, hy, e, k⟩ := h
  have seq : ∀ {xs : List D} {i : Int}, seqOf S x = some xs → y = .d (.int i) → ((atI xs i).map W.d) = some z → wpAny (model X.prog X.w) X.A (subscriptTail value slice v u) (EP X pins σ Q) X.xe s := fun {xs i} h1 h2 h3 => by
    subst h2
    cases (show Den X.K mg φ H vy (.int i) from hy)
    cases ha : atI xs i with
    | none => rw [ha] at h3; cases h3
    | some d =>
      rw [ha] at h3
      cases h3
      obtain ⟨a, vs, rfl, hq, ds⟩ := seqOf_ok st hx h1
      obtain ⟨j, e1, e2⟩ := atI_get ha
      obtain ⟨w, hw, dw⟩ := ds.get e2
      have hat : atI vs i = some w := by unfold atI; rw [ds.length, e1]; exact hw
      rcases hq with hq | hq
      · exact ix_list value slice pins s σ H _ _ v u Q I rx ry ⟨a, vs, i, w, rfl, rfl, hq, hat, k.old st dw⟩ hs
      · exact ix_tup value slice pins s σ H _ _ v u Q I rx ry ⟨a, vs, i, w, rfl, rfl, hq, hat, k.old st dw⟩ hs
  unfold ixW at e
  split at e
  · next i =>
    split at e
    · next zz =>
      split at e
      · next hl =>
        cases ha : atI zz.cps.toList i with
        | none => rw [ha] at e; cases e
        | some c =>
          rw [ha] at e
          cases e
          cases (show Den X.K mg φ H vx (.str zz) from hx)
          cases (show Den X.K mg φ H vy (.int i) from hy)
          exact ix_str value slice pins s σ H _ _ v u Q I rx ry ⟨zz, i, c, rfl, rfl, LN_le hl, ha, k.old st (.str _)⟩ hs
      · cases e
    · split at e
      · next xs hxs => exact seq hxs rfl e
      · cases e
  · cases e
theorem KD.val {K : PySem.W.Frag} {φ : List Addr} {H : Hp} {k : Key} : ∀ {vs : List (Key × V)} {kvs : List (Key × D)}, KD K mg φ H vs kvs →
    (∀ d, valD kvs k = some d → ∃ v, valV vs k = some v ∧ Den K mg φ H v d) ∧ (valD kvs k = none → valV vs k = none)
  | _, _, .nil => ⟨fun d e => (nomatch e), fun _ => rfl⟩
  | _, _, .cons (a := p) (b := q) (l₁ := vs) (l₂ := kvs) h hs => by
    have ih := KD.val (k := k) hs
    by_cases e : q.1 = k
    · have e' : p.1 = k := h.1.trans e
      rw [valV_pos e']
      have : valD (q :: kvs) k = some q.2 := by simp [valD, List.find?_cons, e]
      rw [this]
      exact ⟨fun d hd => by (cases hd; exact ⟨_, rfl, h.2⟩), fun z => nomatch z⟩
    · have e' : ¬ p.1 = k := fun z => e (h.1.symm.trans z)
      rw [valV_neg e']
      have : valD (q :: kvs) k = valD kvs k := by simp [valD, List.find?_cons, e]
      rw [this]
      exact ih
theorem keyD_ok {K : PySem.W.Frag} {φ : List Addr} {H : Hp} {v : V} {d : D} {k : Key} (h : Den K mg φ H v d) (e : keyD d = some k) : v = kV k := by
  cases d with
  | int i => cases e; cases h; rfl
  | str i => cases e; cases h; rfl
  | _ => cases e
theorem dget_ok {K : PySem.W.Frag} {φ : List Addr} {S : Sto} {H : Hp} {vx vy : V} {x y z : W} (st : StOk K mg φ S H) (hx : DenW K mg φ H vx x) (hy : DenW K mg φ H vy y) (e : dgetW S x y = some z) :
    ∃ a v d, vx = .ref a ∧ z = .d d ∧ DGet H a vy (some v) ∧ Den K mg φ H v d := by
  unfold dgetW at e
  split at e
  · next n kd =>
    cases (show Den K mg φ H vx (.ref n) from hx) with
    | ref hn =>
      split at e
      · next kvs k hs hk =>
        obtain ⟨vs, h1, h2⟩ := st.obj _ _ _ hn hs
        cases hv : valD kvs k with
        | none => rw [hv] at e; cases e
        | some d =>
          rw [hv] at e
          cases e
          obtain ⟨v, e1, e2⟩ := (KD.val h2).1 d hv
          have := keyD_ok (show Den K mg φ H vy kd from hy) hk
          subst this
          exact ⟨_, v, d, rfl, rfl, by rw [← e1]; exact DGet.k h1, e2⟩
      · cases e
  · cases e

/-! ### slices -/
def vSl (K : PySem.W.Frag) (mg : Str → Option Value) : V → Option Int → Option Int → Hp → VK → Prop := fun v lo hi H Q => ∃ φ S x z, StOk K mg φ S H ∧ DenW K mg φ H v x ∧ slW S x lo hi = some z ∧ Kont K mg φ S H z Q
theorem cut_whole {xs : List D} {lo hi : Option Int} (h : HT.sIx xs.length 0 lo = 0 ∧ HT.sIx xs.length xs.length hi = xs.length) : cutD xs lo hi = xs := by
  unfold cutD
  rw [h.1, h.2]
  simp
theorem cut_dens {K : PySem.W.Frag} {φ : List Addr} {H : Hp} {vs : List V} {ds : List D} (h : Dens K mg φ H vs ds) (lo hi : Option Int) : Dens K mg φ H (cutV vs lo hi) (cutD ds lo hi) := by
  unfold cutV cutD
  rw [h.length]
  exact (h.drop _).take _
theorem slr_sl : SlR X (vSl X.K mg) := by
  intro pins s σ H vx v vl vu lo hi sl Q I rx hs pl pu h
  obtain ⟨φ, S, x, z, st, hx, e, k⟩ := h
  have lst : ∀ {w : W}, DenW X.K mg φ H vx w → ((lstOf S w).map fun xs => W.tmp (cutD xs lo hi)) = some z → ∃ T id, typeLookup (.type T) "__getitem__" = pure (some (.builtin id)) ∧ s.TypeIs v T ∧ wpAny (model X.prog X.w) X.A (getItem v (.ref sl)) (EP X pins σ Q) X.xe s := fun {w} hw e => by
    cases hl : lstOf S w with
    | none => rw [hl] at e; cases e
    | some xs =>
      rw [hl] at e
      cases e
      obtain ⟨a, vs, rfl, hq, ds⟩ := lstOf_ok st hw hl
      exact sl_list pins s σ H _ v vl vu lo hi sl Q I rx hs pl pu ⟨a, vs, rfl, hq, k.lst st (cut_dens ds lo hi)⟩
  unfold slW at e
  split at e
  · next xs =>
    cases e
    have hx0 := hx
    cases (show Den X.K mg φ H vx (.tup xs) from hx) with
    | tup h1 h2 =>
      refine sl_tupA pins s σ H _ v vl vu lo hi sl Q I rx hs pl pu ⟨_, _, rfl, h1, fun hw => ?_, fun _ => k.tup st (cut_dens h2 lo hi)⟩
      rw [h2.length] at hw
      rw [cut_whole hw] at k
      exact k.old st hx0
  · exact lst hx e
end
end Z

set_option Elab.async false
set_option linter.all false
set_option maxRecDepth 100000
/-! Z5: built-in functions by deep values. -/
namespace Z
open PySem PySem.Spec PyProof.Rows L2

def biTy : BI → Bool
  | .int | .bool | .tuple | .list => true
  | _ => false
def biName : BI → String
  | .len => "len" | .abs => "abs" | .int => "int" | .bool => "bool" | .tuple => "tuple" | .list => "list" | .sum => "sum" | .all => "all" | .any => "any" | .max => "max" | .min => "min" | .sorted => "sorted"
def biVal (b : BI) : Value := if biTy b then .type (biName b) else .builtin (biName b)
def vBi (K : PySem.W.Frag) (mg : Str → Option Value) (b : BI) : List V → Hp → VK → Prop := fun vs H Q => ∃ φ S ws z, StOk K mg φ S H ∧ DenWs K mg φ H vs ws ∧ biW S b ws = some z ∧ Kont K mg φ S H z Q

theorem maxL_mem : ∀ {ns : List Int}, ns ≠ [] → maxL ns ∈ ns
  | [], h => absurd rfl h
  | [a], _ => by simp [maxL]
  | a :: b :: r, _ => by
    have ih := maxL_mem (ns := b :: r) (by simp)
    unfold maxL
    split
    · exact List.mem_cons_of_mem _ ih
    · exact List.mem_cons_self
theorem maxL_le : ∀ {ns : List Int} {x : Int}, x ∈ ns → x ≤ maxL ns
  | [a], x, h => by simp at h; subst h; simp [maxL]
  | a :: b :: r, x, h => by
    unfold maxL
    rcases List.mem_cons.mp h with rfl | h
    · split <;> omega
    · have ih := maxL_le (ns := b :: r) h
      split <;> omega
theorem minL_mem : ∀ {ns : List Int}, ns ≠ [] → minL ns ∈ ns
  | [], h => absurd rfl h
  | [a], _ => by simp [minL]
  | a :: b :: r, _ => by
    have ih := minL_mem (ns := b :: r) (by simp)
    unfold minL
    split
    · exact List.mem_cons_of_mem _ ih
    · exact List.mem_cons_self
theorem minL_le : ∀ {ns : List Int} {x : Int}, x ∈ ns → minL ns ≤ x
  | [a], x, h => by simp at h; subst h; simp [minL]
  | a :: b :: r, x, h => by
    unfold minL
    rcases List.mem_cons.mp h with rfl | h
    · split <;> omega
    · have ih := minL_le (ns := b :: r) h
      split <;> omega
theorem insI_perm (a : Int) : ∀ l : List Int, (insI a l).Perm (a :: l)
  | [] => .refl _
  | b :: r => by
    unfold insI
    split
    · exact .refl _
    · exact ((insI_perm a r).cons b).trans (.swap a b r)
theorem sortI_perm : ∀ l : List Int, (sortI l).Perm l
  | [] => .refl _
  | a :: r => (insI_perm a (sortI r)).trans ((sortI_perm r).cons a)
theorem insI_sorted (a : Int) : ∀ {l : List Int}, l.Pairwise (· ≤ ·) → (insI a l).Pairwise (· ≤ ·)
  | [], _ => by simp [insI]
  | b :: r, h => by
    have h' := List.pairwise_cons.mp h
    unfold insI
    split
    · next hab => exact List.pairwise_cons.mpr ⟨fun x hx => by
        rcases List.mem_cons.mp hx with rfl | hx
        · exact hab
        · exact Int.le_trans hab (h'.1 x hx), h⟩
    · next hab => exact List.pairwise_cons.mpr ⟨fun x hx => by
        rcases List.mem_cons.mp ((insI_perm a r).mem_iff.mp hx) with rfl | hx
        · omega
        · exact h'.1 x hx, insI_sorted a h'.2⟩
theorem sortI_sorted : ∀ l : List Int, (sortI l).Pairwise (· ≤ ·)
  | [] => .nil
  | a :: r => insI_sorted a (sortI_sorted r)
theorem sorted_unique {l m : List Int} (p : l.Perm m) (hl : l.Pairwise (· ≤ ·)) (hm : m.Pairwise (· ≤ ·)) : l = m :=
  p.eq_of_pairwise (fun a b _ _ h1 h2 => Int.le_antisymm h1 h2) hl hm

section
variable {X : Cx} {mg : Str → Option Value}
theorem denWs1 {K : PySem.W.Frag} {φ : List Addr} {H : Hp} {vs : List V} {w : W} (h : DenWs K mg φ H vs [w]) : ∃ v, vs = [v] ∧ DenW K mg φ H v w := by
  cases h with
  | cons a b => cases b; exact ⟨_, rfl, a⟩
theorem denWs2 {K : PySem.W.Frag} {φ : List Addr} {H : Hp} {vs : List V} {w w' : W} (h : DenWs K mg φ H vs [w, w']) : ∃ v u, vs = [v, u] ∧ DenW K mg φ H v w ∧ DenW K mg φ H u w' := by
  cases h with
  | cons a b =>
    obtain ⟨u, rfl, d⟩ := denWs1 b
    exact ⟨_, u, rfl, a, d⟩
theorem intsOf_len : ∀ {ds : List D} {ns : List Int}, intsOf ds = some ns → ns.length = ds.length
  | [], _, e => by cases e; rfl
  | d :: ds, ns, e => by
    cases d with
    | int i =>
      unfold intsOf at e
      cases h : intsOf ds with
      | none => rw [h] at e; cases e
      | some ms => rw [h] at e; cases e; rw [List.length_cons, List.length_cons, intsOf_len h]
    | _ => cases e
theorem callR_bi (hc : X.calm = true) (b : BI) : CallR X (biVal b) (vBi X.K mg b) := by
  intro pins s σ H vs us Q I r h
  obtain ⟨φ, S, ws, z, st, hw, e, k⟩ := h
  unfold biW at e
  split at e
  · -- len
    next w =>
    obtain ⟨v, rfl, d⟩ := denWs1 hw
    split at e
    · next zz =>
      split at e
      · next hl =>
        cases e
        cases (show Den X.K mg φ H v (.str zz) from d)
        exact call_len pins s σ H _ us Q I r ⟨_, _, rfl, ⟨LN_le hl, rfl⟩, k.old st (.int _)⟩
      · cases e
    · cases hs : seqOf S w with
      | none => rw [hs] at e; cases e
      | some xs =>
        rw [hs] at e
        cases e
        obtain ⟨a, vs, rfl, hq, ds⟩ := seqOf_ok st d hs
        exact call_len_seq pins s σ H _ us Q I r ⟨a, vs, rfl, hq, by rw [ds.length]; exact k.old st (.int _)⟩
  · next i =>
    cases e
    obtain ⟨v, rfl, d⟩ := denWs1 hw
    cases (show Den X.K mg φ H v (.int i) from d)
    exact call_abs pins s σ H _ us Q I r ⟨i, rfl, k.old st (.int _)⟩
  · next i =>
    cases e
    obtain ⟨v, rfl, d⟩ := denWs1 hw
    cases (show Den X.K mg φ H v (.int i) from d)
    exact call_int1 pins s σ H _ us Q I r (.inl ⟨i, rfl, k.old st (.int _)⟩)
  · next i =>
    cases e
    obtain ⟨v, rfl, d⟩ := denWs1 hw
    cases (show Den X.K mg φ H v (.bl i) from d)
    exact call_int1 pins s σ H _ us Q I r (.inr ⟨i, rfl, k.old st (.int _)⟩)
  · next i =>
    cases e
    obtain ⟨v, rfl, d⟩ := denWs1 hw
    cases (show Den X.K mg φ H v (.bl i) from d)
    exact call_bool1 pins s σ H _ us Q I r (.inr ⟨i, rfl, k.old st (.bl _)⟩)
  · next i =>
    cases e
    obtain ⟨v, rfl, d⟩ := denWs1 hw
    cases (show Den X.K mg φ H v (.int i) from d)
    exact call_bool1 pins s σ H _ us Q I r (.inl ⟨i, rfl, k.old st (.bl _)⟩)
  · -- tuple
    next w =>
    obtain ⟨v, rfl, d⟩ := denWs1 hw
    cases hs : seqOf S w with
    | none => rw [hs] at e; cases e
    | some xs =>
      rw [hs] at e
      cases e
      obtain ⟨a, vs, rfl, hq, ds⟩ := seqOf_ok st d hs
      rcases hq with hq | hq
      · exact call_tuple_of pins s σ H _ us Q I r ⟨a, vs, rfl, .inl ⟨hq, k.tup st ds⟩⟩
      · exact call_tuple_of pins s σ H _ us Q I r ⟨a, vs, rfl, .inr ⟨hq, k.old st (.tup hq ds)⟩⟩
  · -- list
    next w =>
    obtain ⟨v, rfl, d⟩ := denWs1 hw
    cases hs : seqOf S w with
    | none => rw [hs] at e; cases e
    | some xs =>
      rw [hs] at e
      cases e
      obtain ⟨a, vs, rfl, hq, ds⟩ := seqOf_ok st d hs
      exact call_list_of pins s σ H _ us Q I r ⟨a, vs, rfl, hq, k.lst st ds⟩
  · -- sum
    next w =>
    obtain ⟨v, rfl, d⟩ := denWs1 hw
    cases hs : lstOf S w with
    | none => rw [hs] at e; cases e
    | some xs =>
      rw [hs] at e
      cases hi : intsOf xs with
      | none => rw [Option.bind_some, hi] at e; cases e
      | some ns =>
        rw [Option.bind_some, hi] at e
        cases e
        obtain ⟨a, vs, rfl, hq, ds⟩ := lstOf_ok st d hs
        exact cr_sum hc pins s σ H _ us Q I r ⟨a, ns, rfl, by rw [← ds.ints hi]; exact hq, k.old st (.int _)⟩
  · -- all
    next w =>
    obtain ⟨v, rfl, d⟩ := denWs1 hw
    cases hs : lstOf S w with
    | none => rw [hs] at e; cases e
    | some xs =>
      rw [hs] at e
      cases hi : blsOf xs with
      | none => rw [Option.bind_some, hi] at e; cases e
      | some ns =>
        rw [Option.bind_some, hi] at e
        cases e
        obtain ⟨a, vs, rfl, hq, ds⟩ := lstOf_ok st d hs
        exact cr_all hc pins s σ H _ us Q I r ⟨a, ns, rfl, by rw [← ds.bls hi]; exact hq, k.old st (.bl _)⟩
  · next w =>
    obtain ⟨v, rfl, d⟩ := denWs1 hw
    cases hs : lstOf S w with
    | none => rw [hs] at e; cases e
    | some xs =>
      rw [hs] at e
      cases hi : blsOf xs with
      | none => rw [Option.bind_some, hi] at e; cases e
      | some ns =>
        rw [Option.bind_some, hi] at e
        cases e
        obtain ⟨a, vs, rfl, hq, ds⟩ := lstOf_ok st d hs
        exact cr_any hc pins s σ H _ us Q I r ⟨a, ns, rfl, by rw [← ds.bls hi]; exact hq, k.old st (.bl _)⟩
  · next i j =>
    cases e
    obtain ⟨v, u, rfl, d, d'⟩ := denWs2 hw
    cases (show Den X.K mg φ H v (.int i) from d)
    cases (show Den X.K mg φ H u (.int j) from d')
    exact call_max2 hc pins s σ H _ us Q I r ⟨i, j, rfl, k.old st (.int _)⟩
  · next i j =>
    cases e
    obtain ⟨v, u, rfl, d, d'⟩ := denWs2 hw
    cases (show Den X.K mg φ H v (.int i) from d)
    cases (show Den X.K mg φ H u (.int j) from d')
    exact call_min2 hc pins s σ H _ us Q I r ⟨i, j, rfl, k.old st (.int _)⟩
  · -- max
    next w =>
    obtain ⟨v, rfl, d⟩ := denWs1 hw
    cases hs : lstOf S w with
    | none => rw [hs] at e; cases e
    | some xs =>
      rw [hs] at e
      cases hi : intsOf xs with
      | none => rw [Option.bind_some, hi] at e; cases e
      | some ns =>
        rw [Option.bind_some, hi, Option.bind_some] at e
        split at e
        · cases e
        · next hne =>
          cases e
          have hne' : ns ≠ [] := fun z => hne (by rw [z]; rfl)
          obtain ⟨a, vs, rfl, hq, ds⟩ := lstOf_ok st d hs
          refine cr_max hc pins s σ H _ us Q I r ⟨a, ns, rfl, by rw [← ds.ints hi]; exact hq, List.length_pos_iff.mpr hne', fun m hm hle => ?_⟩
          have : m = maxL ns := Int.le_antisymm (maxL_le hm) (hle _ (maxL_mem hne'))
          subst this
          exact k.old st (.int _)
  · next w =>
    obtain ⟨v, rfl, d⟩ := denWs1 hw
    cases hs : lstOf S w with
    | none => rw [hs] at e; cases e
    | some xs =>
      rw [hs] at e
      cases hi : intsOf xs with
      | none => rw [Option.bind_some, hi] at e; cases e
      | some ns =>
        rw [Option.bind_some, hi, Option.bind_some] at e
        split at e
        · cases e
        · next hne =>
          cases e
          have hne' : ns ≠ [] := fun z => hne (by rw [z]; rfl)
          obtain ⟨a, vs, rfl, hq, ds⟩ := lstOf_ok st d hs
          refine cr_min hc pins s σ H _ us Q I r ⟨a, ns, rfl, by rw [← ds.ints hi]; exact hq, List.length_pos_iff.mpr hne', fun m hm hle => ?_⟩
          have : m = minL ns := Int.le_antisymm (hle _ (minL_mem hne')) (minL_le hm)
          subst this
          exact k.old st (.int _)
  · -- sorted
    next w =>
    obtain ⟨v, rfl, d⟩ := denWs1 hw
    cases hs : lstOf S w with
    | none => rw [hs] at e; cases e
    | some xs =>
      rw [hs] at e
      cases hi : intsOf xs with
      | none => rw [Option.bind_some, hi] at e; cases e
      | some ns =>
        rw [Option.bind_some, hi] at e
        cases e
        obtain ⟨a, vs, rfl, hq, ds⟩ := lstOf_ok st d hs
        refine cr_sortedI pins s σ H _ us Q I r ⟨a, ns, rfl, by rw [← ds.ints hi]; exact hq, fun ns' p hp hs hn => ?_⟩
        have : ns' = sortI ns := sorted_unique (hp.trans (sortI_perm ns).symm) hs (sortI_sorted ns)
        subst this
        exact k.lst st (Dens.of_ints _) p hn
  · cases e
end
end Z

set_option Elab.async false
set_option linter.all false
set_option maxRecDepth 100000
/-! Z6: the checker; slots; patterns. -/
namespace Z
open PySem PySem.Spec PyProof.Rows L2

/-! ### shapes of expressions -/
def noStar : Expr → Bool
  | .Starred _ _ => false
  | _ => true
def noSet : Expr → Bool
  | .Set _ _ _ => false
  | _ => true
def noSlc : Expr → Bool
  | .Slice _ _ _ _ => false
  | _ => true
def noLc : Expr → Bool
  | .ListComp _ _ _ _ => false
  | .SetComp _ _ _ _ => false
  | .DictComp _ _ _ _ _ => false
  | _ => true
def plainT : Expr → Bool
  | .UnaryOp .Not _ _ => false
  | .BoolOp _ _ _ => false
  | .IfExp _ _ _ _ => false
  | .Compare _ _ _ _ => false
  | _ => true
def recvOk : Expr → Bool
  | .Name _ _ => true
  | .Attribute _ _ _ => true
  | .Subscript _ _ _ => true
  | _ => false
theorem star_cons {e : Expr} (h : noStar e = true) (es : List Expr) (env : PySem.Env) : starEach (e :: es) env = (false, eval e env) :: starEach es env := by
  cases e <;> first | rfl | (exact absurd h (by decide)) | (simp [noStar] at h)
theorem noMark {e : Expr} (h : noSet e = true) (op : CmpOp) : behindInMarks op e = false := by
  cases e <;> first | rfl | (simp [noSet] at h)
theorem noFold {e : Expr} (h : noSet e = true) (env : PySem.Env) (x : Value) : foldedSetIterable e env x = pure x := by
  cases e <;> first | rfl | (simp [noSet] at h)
theorem plainIx {e : Expr} (h : noSlc e = true) : PlainIx e := by
  intro o i
  cases e <;> first | rfl | (simp [noSlc] at h)
theorem noSwap {e : Expr} (h : noLc e = true) (t : Option Expr) (l : Nat) (env : PySem.Env) : swapsWith e t l env = pure false := by
  cases e <;> first | rfl | (simp [noLc] at h)
theorem plainTr {e : Expr} (h : plainT e = true) (env : PySem.Env) (whole : Sem Value) : isTrue e env whole = (do let v ← whole; standAt e.pos; holding [v] (truthy v)) := by
  cases e with
  | UnaryOp op a p => cases op <;> first | rfl | (simp [plainT] at h)
  | _ => first | rfl | (simp [plainT] at h)
theorem recvBase {e : Expr} (h : recvOk e = true) (n : Str) (env : PySem.Env) (w : Sem Value) : attributeBase e n env w = w := by
  cases e <;> first | rfl | (simp [recvOk] at h)
theorem noStars : ∀ {es : List Expr}, es.all noStar = true → ∀ (pos : Pos) (env : PySem.Env), (backTo pos (starEach es env)).any (·.1) = false
  | [], _, _, _ => rfl
  | e :: es, h, pos, env => by
    have h' : noStar e = true ∧ es.all noStar = true := by simpa using h
    rw [star_cons h'.1]
    show (false || (backTo pos (starEach es env)).any (·.1)) = false
    rw [noStars h'.2]
    rfl

/-! ### names -/
def visB (sc : Scope) (x : Str) : Bool := match sc.names.lookup x with
  | some .local => true
  | some .cell => true
  | some .free => true
  | _ => false
def glB (sc : Scope) (x : Str) : Bool := match sc.names.lookup x with
  | some .globalImplicit => true
  | _ => false
/-- a name that may be stored to -/
def locB (df : Bool) (sc : Scope) (x : Str) : Bool := match sc.names.lookup x with
  | some .local => true
  | some .cell => df
  | _ => false
def dunderB (x : Str) : Bool := decide (x ≠ "__debug__") && decide (x ≠ "__classdict__") && decide (x ≠ "__name__")
def varB (N : List Str) (sc : Scope) (i : Nat) (x : Str) : Bool := decide (N[i]? = some x) && visB sc x && dunderB x
theorem vis_of {sc : Scope} {x : Str} (h : visB sc x = true) : Vis sc x := by
  unfold visB at h
  split at h <;> first | exact .inl (by assumption) | exact .inr (.inl (by assumption)) | exact .inr (.inr (by assumption)) | cases h
theorem gl_of {sc : Scope} {x : Str} (h : glB sc x = true) : sc.names.lookup x = some .globalImplicit := by
  unfold glB at h
  split at h <;> first | assumption | cases h
theorem dun1 {x : Str} (h : dunderB x = true) : (x == ("__debug__" : Str)) = false := by
  unfold dunderB at h
  simp only [Bool.and_eq_true, decide_eq_true_eq] at h
  simpa using h.1.1
theorem dun2 {x : Str} (h : dunderB x = true) : (x == ("__classdict__" : Str)) = false := by
  unfold dunderB at h
  simp only [Bool.and_eq_true, decide_eq_true_eq] at h
  simpa using h.1.2
theorem dun3 {x : Str} (h : dunderB x = true) : x ≠ "__name__" := by
  unfold dunderB at h
  simp only [Bool.and_eq_true, decide_eq_true_eq] at h
  exact h.2

/-! ### patterns -/
mutual
def okP (N : List Str) (df : Bool) (sc : Scope) : P → Expr → Bool
  | .nm i x, .Name y _ => decide (x = y) && decide (N[i]? = some x) && locB df sc x
  | .tup ps, .Tuple es _ _ => okPs N df sc ps es
  | _, _ => false
def okPs (N : List Str) (df : Bool) (sc : Scope) : P → List Expr → Bool
  | .nil, [] => true
  | .cons p ps, e :: es => okP N df sc p e && noStar e && okPs N df sc ps es
  | _, _ => false
end
mutual
def psl : P → List Nat
  | .nm i _ => [i]
  | .tup ps => psls ps
  | _ => []
def psls : P → List Nat
  | .cons p ps => psl p ++ psls ps
  | _ => []
end

/-! ### slots -/
structure EnvOk (K : PySem.W.Frag) (mg : Str → Option Value) (φ : List Addr) (H : Hp) (σ : L2.St) (ρ : Env) : Prop where
  len : σ.length = ρ.length
  at' : ∀ (i : Nat) (d : D), ρ[i]? = some (some d) → ∃ v, σ[i]? = some (some v) ∧ Den K mg φ H v d
section
variable {K : PySem.W.Frag} {mg : Str → Option Value} {φ φ' : List Addr} {H H' : Hp} {σ : L2.St} {ρ : Env}
theorem EnvOk.evo (h : EnvOk K mg φ H σ ρ) (e : Evo φ H φ' H') : EnvOk K mg φ' H' σ ρ := ⟨h.len, fun i d hd => let ⟨v, h1, h2⟩ := h.at' i d hd; ⟨v, h1, h2.evo e⟩⟩
theorem EnvOk.set (h : EnvOk K mg φ H σ ρ) (i : Nat) {v : V} {d : D} (hv : Den K mg φ H v d) : EnvOk K mg φ H (σ.set i (some v)) (ρ.set i (some d)) := by
  refine ⟨by simp [h.len], fun j d' hd => ?_⟩
  by_cases e : i = j
  · subst e
    by_cases hi : i < ρ.length
    · rw [List.getElem?_set_self hi] at hd
      cases hd
      exact ⟨v, by rw [List.getElem?_set_self (by rw [h.len]; exact hi)], hv⟩
    · rw [List.getElem?_eq_none (by simpa using hi)] at hd; cases hd
  · rw [List.getElem?_set_ne e] at hd
    rw [List.getElem?_set_ne e]
    exact h.at' j d' hd
theorem EnvOk.unset (h : EnvOk K mg φ H σ ρ) (i : Nat) : EnvOk K mg φ H (σ.set i none) (ρ.set i none) := by
  refine ⟨by simp [h.len], fun j d' hd => ?_⟩
  by_cases e : i = j
  · subst e
    by_cases hi : i < ρ.length
    · rw [List.getElem?_set_self hi] at hd; cases hd
    · rw [List.getElem?_eq_none (by simpa using hi)] at hd; cases hd
  · rw [List.getElem?_set_ne e] at hd
    rw [List.getElem?_set_ne e]
    exact h.at' j d' hd
theorem EnvOk.wipe (h : EnvOk K mg φ H σ ρ) : ∀ vs : List Nat, EnvOk K mg φ H (L2.wipe σ vs) (wipeD ρ vs)
  | [] => h
  | v :: vs => (EnvOk.wipe h vs).unset v
theorem wipe_set_in (σ : L2.St) (i : Nat) (x : Option V) : ∀ {vs : List Nat}, i ∈ vs → L2.wipe (σ.set i x) vs = L2.wipe σ vs
  | v :: vs, h => by
    unfold L2.wipe
    by_cases hi : i ∈ vs
    · rw [wipe_set_in σ i x hi]
    · have e : i = v := by
        rcases List.mem_cons.mp h with z | z
        · exact z
        · exact absurd z hi
      subst e
      clear h
      have gen : ∀ (vs : List Nat), i ∉ vs → (L2.wipe (σ.set i x) vs).set i none = (L2.wipe σ vs).set i none := by
        intro vs
        induction vs with
        | nil => intro _; unfold L2.wipe; rw [List.set_set]
        | cons w ws ih =>
          intro hw
          have h1 : i ≠ w := fun z => hw (by rw [z]; exact List.mem_cons_self)
          have h2 : i ∉ ws := fun z => hw (List.mem_cons_of_mem _ z)
          unfold L2.wipe
          rw [List.set_comm _ _ (Ne.symm h1), List.set_comm _ _ (Ne.symm h1), ih h2]
      exact gen vs hi
end

/-! ### targets -/
/-- what a target's store gives: the pattern's slots alone are changed -/
def tP (K : PySem.W.Frag) (mg : Str → Option Value) (p : P) : TG := fun v σ H Q => ∃ φ ρ d ρ', EnvOk K mg φ H σ ρ ∧ Den K mg φ H v d ∧ bindP p d ρ = some ρ' ∧
  ∀ σ', EnvOk K mg φ H σ' ρ' → (∀ vs : List Nat, (∀ i ∈ psl p, i ∈ vs) → L2.wipe σ' vs = L2.wipe σ vs) → Q σ' H
def tPs (K : PySem.W.Frag) (mg : Str → Option Value) (p : P) : TGs := fun vs σ H Q => ∃ φ ρ ds ρ', EnvOk K mg φ H σ ρ ∧ Dens K mg φ H vs ds ∧ bindPs p ds ρ = some ρ' ∧
  ∀ σ', EnvOk K mg φ H σ' ρ' → (∀ ws : List Nat, (∀ i ∈ psls p, i ∈ ws) → L2.wipe σ' ws = L2.wipe σ ws) → Q σ' H
structure XN (N : List Str) (df : Bool) (sc : Scope) (X : Cx) : Prop where
  hN : X.N = N
  nd : N.Nodup
  hsc : X.env.scope = sc
  calm : X.calm = true
  df : df = true → ∀ x, X.fn x = true
theorem PG.imp {X : Cx} {e : Expr} {t t' : TG} (h : PG X e t) (hi : ∀ v σ H Q, t' v σ H Q → t v σ H Q) : PG X e t' := ⟨fun pins s σ H v u Q I r hw => h.run pins s σ H v u Q I r (hi _ _ _ _ hw)⟩
theorem PGs.imp {X : Cx} {es : List Expr} {t t' : TGs} (h : PGs X es t) (hi : ∀ v σ H Q, t' v σ H Q → t v σ H Q) : PGs X es t' := ⟨fun pins s σ H v u Q I r hw => h.run pins s σ H v u Q I r (hi _ _ _ _ hw)⟩
theorem asgEach {e : Expr} (h : noStar e = true) (es : List Expr) (env : PySem.Env) : assignEach (e :: es) env = (false, assign e env) :: assignEach es env := by
  cases e <;> first | rfl | (simp [noStar] at h)
theorem asgLen : ∀ {es : List Expr} (env : PySem.Env), es.all noStar = true → (assignEach es env).length = es.length ∧ (assignEach es env).findIdx? (·.1) = none
  | [], _, _ => ⟨rfl, rfl⟩
  | e :: es, env, h => by
    have h' : noStar e = true ∧ es.all noStar = true := by simpa using h
    have ih := asgLen env h'.2
    rw [asgEach h'.1]
    refine ⟨by rw [List.length_cons, List.length_cons, ih.1], ?_⟩
    rw [List.findIdx?_cons]
    simp [ih.2]
theorem okPs_star {N : List Str} {df : Bool} {sc : Scope} : ∀ {p : P} {es : List Expr}, okPs N df sc p es = true → es.all noStar = true
  | .nil, [], _ => rfl
  | .cons p ps, e :: es, h => by
    unfold okPs at h
    simp only [Bool.and_eq_true] at h
    simp [h.1.2]
    exact List.all_eq_true.mp (okPs_star h.2)
  | .nm _ _, _, h => by unfold okPs at h; cases h
  | .tup _, _, h => by unfold okPs at h; cases h
  | .nil, _ :: _, h => by unfold okPs at h; cases h
  | .cons _ _, [], h => by unfold okPs at h; cases h
theorem bindPs_len : ∀ {p : P} {ds : List D} {ρ ρ' : Env} {N : List Str} {df : Bool} {sc : Scope} {es : List Expr}, bindPs p ds ρ = some ρ' → okPs N df sc p es = true → ds.length = es.length
  | .nil, [], _, _, _, _, _, [], _, _ => rfl
  | .cons p ps, d :: ds, ρ, ρ', N, df, sc, e :: es, h, ho => by
    unfold bindPs at h
    unfold okPs at ho
    simp only [Bool.and_eq_true] at ho
    cases hb : bindP p d ρ with
    | none => rw [hb] at h; cases h
    | some ρ1 =>
      rw [hb] at h
      rw [List.length_cons, List.length_cons, bindPs_len h ho.2]
  | .nil, _ :: _, _, _, _, _, _, _, h, _ => by unfold bindPs at h; cases h
  | .cons _ _, [], _, _, _, _, _, _, h, _ => by unfold bindPs at h; cases h
  | .nm _ _, _, _, _, _, _, _, _, h, _ => by unfold bindPs at h; cases h
  | .tup _, _, _, _, _, _, _, _, h, _ => by unfold bindPs at h; cases h
  | .nil, [], _, _, _, _, _, _ :: _, _, ho => by unfold okPs at ho; cases ho
  | .cons _ _, _ :: _, _, _, _, _, _, [], _, ho => by unfold okPs at ho; cases ho
section
variable {N : List Str} {df : Bool} {sc : Scope} {X : Cx} {mg : Str → Option Value}
mutual
theorem pg_ok (x : XN N df sc X) : ∀ (p : P) (e : Expr), okP N df sc p e = true → PG X e (tP X.K mg p)
  | .nm i y, e, h => by
    cases e with
    | Name z pos =>
      unfold okP at h
      simp only [Bool.and_eq_true, decide_eq_true_eq] at h
      obtain ⟨⟨rfl, hi⟩, hl⟩ := h
      have hloc : Loc X.env.scope y ∧ (X.fn y = true ∨ X.env.scope.names.lookup y = some .local) := by
        rw [x.hsc]
        unfold locB at hl
        split at hl
        · next q => exact ⟨.inl q, .inr q⟩
        · next q => exact ⟨.inr q, .inl (x.df hl y)⟩
        · cases hl
      refine PG.imp (pg_name (i := i) (by rw [x.hN]; exact x.nd) (by rw [x.hN]; exact hi) hloc.1 hloc.2) fun v σ H Q hw => ?_
      obtain ⟨φ, ρ, d, ρ', he, hd, hb, k⟩ := hw
      unfold bindP at hb
      cases hb
      exact k _ (he.set i hd) fun vs hv => wipe_set_in σ i _ (hv i (by simp [psl]))
    | _ => unfold okP at h; cases h
  | .tup ps, e, h => by
    cases e with
    | Tuple es kk pos =>
      unfold okP at h
      have hs := okPs_star h
      have al := asgLen X.env hs
      refine PG.imp (pg_tup x.calm (pgs_ok x ps es h) al.1 al.2) fun v σ H Q hw => ?_
      obtain ⟨φ, ρ, d, ρ', he, hd, hb, k⟩ := hw
      cases d with
      | tup ds =>
        unfold bindP at hb
        cases hd with
        | tup h1 h2 =>
          exact ⟨_, _, rfl, h1, by rw [h2.length]; exact bindPs_len hb h, φ, ρ, ds, ρ', he, h2, hb, fun σ' e' w => k σ' e' fun vs hv => w vs (by simpa [psl] using hv)⟩
      | _ => unfold bindP at hb; cases hb
    | _ => unfold okP at h; cases h
  | .nil, e, h => by unfold okP at h; cases h
  | .cons _ _, e, h => by unfold okP at h; cases h
theorem pgs_ok (x : XN N df sc X) : ∀ (p : P) (es : List Expr), okPs N df sc p es = true → PGs X es (tPs X.K mg p)
  | .nil, es, h => by
    cases es with
    | nil =>
      refine PGs.imp pgs_nil fun v σ H Q hw => ?_
      obtain ⟨φ, ρ, ds, ρ', he, hd, hb, k⟩ := hw
      cases ds with
      | nil =>
        unfold bindPs at hb
        cases hb
        cases hd
        exact ⟨rfl, k _ he fun _ _ => rfl⟩
      | cons d ds => unfold bindPs at hb; cases hb
    | cons e es => unfold okPs at h; cases h
  | .cons p ps, es, h => by
    cases es with
    | nil => unfold okPs at h; cases h
    | cons e es =>
      unfold okPs at h
      simp only [Bool.and_eq_true] at h
      refine PGs.imp (pgs_cons (pg_ok x p e h.1.1) (pgs_ok x ps es h.2) (by rw [asgEach h.1.2]; rfl)) fun v σ H Q hw => ?_
      obtain ⟨φ, ρ, ds, ρ', he, hd, hb, k⟩ := hw
      cases ds with
      | nil => unfold bindPs at hb; cases hb
      | cons d ds =>
        unfold bindPs at hb
        cases hb1 : bindP p d ρ with
        | none => rw [hb1] at hb; cases hb
        | some ρ1 =>
          rw [hb1] at hb
          cases hd with
          | cons d1 d2 =>
            refine ⟨_, _, rfl, φ, ρ, d, ρ1, he, d1, hb1, fun σ1 e1 w1 => ⟨φ, ρ1, ds, ρ', e1, d2, hb, fun σ2 e2 w2 => k σ2 e2 fun ws hv => ?_⟩⟩
            have hv' : ∀ i, i ∈ psl p ∨ i ∈ psls ps → i ∈ ws := fun i hi => hv i (by simpa [psls] using hi)
            rw [w2 ws fun i hi => hv' i (.inr hi), w1 ws fun i hi => hv' i (.inl hi)]
  | .nm _ _, es, h => by unfold okPs at h; cases h
  | .tup _, es, h => by unfold okPs at h; cases h
end
end
end Z

set_option Elab.async false
set_option linter.all false
set_option maxRecDepth 100000
/-! Z7: readings by the evaluator; the checker of expressions. -/
namespace Z
open PySem PySem.Spec PyProof.Rows L2

abbrev Ev := Env → Sto → Option (W × Sto)
section
variable (K : PySem.W.Frag) (mg : Str → Option Value)
def tW (f : Ev) : TE := fun σ H Q => ∃ φ ρ S w S', EnvOk K mg φ H σ ρ ∧ StOk K mg φ S H ∧ f ρ S = some (w, S') ∧
  ∀ v φ' H', Evo φ H φ' H' → StOk K mg φ' S' H' → DenW K mg φ' H' v w → FrW H v w → Q v H'
def tT (f : Env → Sto → Option (Bool × Sto)) : TT := fun σ H Q => ∃ φ ρ S b S', EnvOk K mg φ H σ ρ ∧ StOk K mg φ S H ∧ f ρ S = some (b, S') ∧
  ∀ φ' H', Evo φ H φ' H' → StOk K mg φ' S' H' → Q b H'
def tAs (f : Env → Sto → Option (List W × Sto)) : TA := fun σ H Q => ∃ φ ρ S ws S', EnvOk K mg φ H σ ρ ∧ StOk K mg φ S H ∧ f ρ S = some (ws, S') ∧
  ∀ vs φ' H', Evo φ H φ' H' → StOk K mg φ' S' H' → DenWs K mg φ' H' vs ws → FrWs H vs ws → Q vs H'
def tO (f : Env → Sto → Option (Option Int × Sto)) : TO := fun σ H Q => ∃ φ ρ S o S', EnvOk K mg φ H σ ρ ∧ StOk K mg φ S H ∧ f ρ S = some (o, S') ∧
  ∀ φ' H', Evo φ H φ' H' → StOk K mg φ' S' H' → Q o H'
end
theorem PE.imp {X : Cx} {e : Expr} {t t' : TE} (h : PE X e t) (hi : ∀ σ H Q, t' σ H Q → t σ H Q) : PE X e t' := ⟨fun pins s σ H Q I hw => h.run pins s σ H Q I (hi _ _ _ hw)⟩
theorem PT.imp {X : Cx} {e : Expr} {t t' : TT} (h : PT X e t) (hi : ∀ σ H Q, t' σ H Q → t σ H Q) : PT X e t' := ⟨fun pins s σ H Q I hw => h.run pins s σ H Q I (hi _ _ _ hw)⟩
theorem PW.imp {X : Cx} {e : Expr} {t t' : TT} (h : PW X e t) (hi : ∀ σ H Q, t' σ H Q → t σ H Q) : PW X e t' := ⟨fun wh pins s σ H Q I hw => h.run wh pins s σ H Q I (hi _ _ _ hw)⟩
theorem PA.imp {X : Cx} {e : List Expr} {t t' : TA} (h : PA X e t) (hi : ∀ σ H Q, t' σ H Q → t σ H Q) : PA X e t' := ⟨fun pos pins s σ H Q I hw => h.run pos pins s σ H Q I (hi _ _ _ hw)⟩
theorem PO.imp {X : Cx} {e : Option Expr} {t t' : TO} (h : PO X e t) (hi : ∀ σ H Q, t' σ H Q → t σ H Q) : PO X e t' := ⟨fun pins s σ H Q I hw => h.run pins s σ H Q I (hi _ _ _ hw)⟩
theorem PTs.imp {X : Cx} {e : List Expr} {t t' : TT} (h : PTs X e t) (hi : ∀ σ H Q, t' σ H Q → t σ H Q) : PTs X e t' := ⟨fun pins s σ H Q I hw => h.run pins s σ H Q I (hi _ _ _ hw)⟩
theorem PI.imp {X : Cx} {tg e : Expr} {t t' : TI} (h : PI X tg e t) (hi : ∀ σ H Q, t' σ H Q → t σ H Q) : PI X tg e t' := ⟨fun pins s σ H Q I hw => h.run pins s σ H Q I (hi _ _ _ hw)⟩
theorem PI.or {X : Cx} {tg e : Expr} {t t' : TI} (h : PI X tg e t) (h' : PI X tg e t') : PI X tg e (fun σ H R => t σ H R ∨ t' σ H R) := ⟨fun pins s σ H R I hw => by
  rcases hw with hw | hw
  · exact h.run pins s σ H R I hw
  · exact h'.run pins s σ H R I hw⟩

section
variable {K : PySem.W.Frag} {mg : Str → Option Value} {σ : L2.St} {H : Hp} {Q : VK}
def ev2 (fa fb : Ev) (g : Sto → W → W → Option W) : Ev := fun ρ S => match fa ρ S with
  | none => none
  | some (x, S1) => match fb ρ S1 with
    | none => none
    | some (y, S2) => (g S2 x y).map fun z => (z, S2)
theorem tW_op {r : R2} {fa fb : Ev} {g : Sto → W → W → Option W}
    (hr : ∀ v u H Q φ S x y z, StOk K mg φ S H → DenW K mg φ H v x → DenW K mg φ H u y → g S x y = some z → Kont K mg φ S H z Q → r v u H Q)
    (h : tW K mg (ev2 fa fb g) σ H Q) : tOp r (tW K mg fa) (tW K mg fb) σ H Q := by
  obtain ⟨φ, ρ, S, w, S', he, hs, hf, k⟩ := h
  unfold ev2 at hf
  cases h1 : fa ρ S with
  | none => rw [h1] at hf; cases hf
  | some p =>
    obtain ⟨x, S1⟩ := p
    rw [h1] at hf
    simp only at hf
    cases h2 : fb ρ S1 with
    | none => rw [h2] at hf; cases hf
    | some q =>
      obtain ⟨y, S2⟩ := q
      rw [h2] at hf
      simp only at hf
      cases h3 : g S2 x y with
      | none => rw [h3] at hf; cases hf
      | some z =>
        rw [h3] at hf
        cases hf
        refine ⟨φ, ρ, S, x, S1, he, hs, h1, fun v φ1 H1 e1 s1 d1 f1 => ⟨φ1, ρ, S1, y, S', he.evo e1, s1, h2, fun u φ2 H2 e2 s2 d2 f2 => ?_⟩⟩
        exact hr v u H2 Q φ2 S' x y w s2 (d1.evo e2) d2 h3 fun t H' e3 s3 d3 f3 => k t φ2 H' ((e1.trans e2).trans e3) s3 d3 (f3.back fun a ha => e1.thr a (e2.thr a ha))
/-- a value's test -/
theorem tT_tru {fa : Ev} {Q : Bool → Hp → Prop} (h : tT K mg (fun ρ S => match fa ρ S with | none => none | some (w, S1) => (truW S1 w).map fun b => (b, S1)) σ H Q) :
    tW K mg fa σ H fun x H1 => ∃ k, TruV K x H1 k ∧ Q k H1 := by
  obtain ⟨φ, ρ, S, w, S', he, hs, hf, k⟩ := h
  simp only at hf
  cases h1 : fa ρ S with
  | none => rw [h1] at hf; cases hf
  | some p =>
    obtain ⟨x, S1⟩ := p
    rw [h1] at hf
    simp only at hf
    cases h3 : truW S1 x with
    | none => rw [h3] at hf; cases hf
    | some z =>
      rw [h3] at hf
      cases hf
      exact ⟨φ, ρ, S, x, _, he, hs, h1, fun v φ1 H1 e1 s1 d1 f1 => ⟨_, tru_of s1 d1 h3, k φ1 H1 e1 s1⟩⟩
end

/-! ### the checker -/
def lineOk (a b : Pos) : Bool := a.endLine == b.line
def ownOk (own : List (Str × Nat)) (p : P) : Bool := (psl p).all fun i => decide (i ∈ own.map (·.2))
/-- names for the built-ins -/
def rgName : Str := "range"
def enName : Str := "enumerate"
def zpName : Str := "zip"
/-- the keys of a display -/
def okKs : List Key → List (Option Expr) → Bool
  | [], l => match l with
    | [] => true
    | _ => false
  | .inl i :: r, l => match l with
    | some (.Constant (.int j) _ _) :: l => decide (i = j) && okKs r l
    | _ => false
  | .inr i :: r, l => match l with
    | some (.Constant (.str j) _ _) :: l => decide (i = j) && okKs r l
    | _ => false
mutual
def okE (T : Tab) (N : List Str) : E → Scope → Expr → Bool
  | .disp ks as, sc, e0 => match e0 with
    | .Dict keys vals _ => okKs ks keys && okA T N as sc vals && decide (ks.length = vals.length) && decide (ks.length ≤ 15) && !ks.isEmpty
    | _ => false
  | .var i x, sc, e0 => match e0 with
    | .Name y _ => decide (x = y) && varB N sc i x
    | _ => false
  | .cI i, _, e0 => match e0 with
    | .Constant (.int j) _ _ => decide (i = j)
    | _ => false
  | .cB b, _, e0 => match e0 with
    | .Constant (.bool c) _ _ => decide (b = c)
    | _ => false
  | .cN, _, e0 => match e0 with
    | .Constant .none _ _ => true
    | _ => false
  | .cS x, _, e0 => match e0 with
    | .Constant (.str y) _ _ => decide (x = y)
    | _ => false
  | .glob x, sc, e0 => match e0 with
    | .Name y _ => decide (x = y) && glB sc x && dunderB x && (T.globs.lookup x).isSome
    | _ => false
  | .bin o a b, sc, e0 => match e0 with
    | .BinOp x p y _ => decide (p = opOf o) && okE T N a sc x && okE T N b sc y
    | _ => false
  | .neg a, sc, e0 => match e0 with
    | .UnaryOp .USub x _ => okE T N a sc x
    | _ => false
  | .cmp o a b, sc, e0 => match e0 with
    | .Compare x [p] [y] _ => decide (p = cpOf o) && noSet y && okE T N a sc x && okE T N b sc y
    | _ => false
  | .chn o1 o2 a b c, sc, e0 => match e0 with
    | .Compare x [p1, p2] [y, z] _ => decide (p1 = cpOf o1) && decide (p2 = cpOf o2) && noSet z && okE T N a sc x && okE T N b sc y && okE T N c sc z
    | _ => false
  | .not a, sc, e0 => match e0 with
    | .UnaryOp .Not x _ => okE T N a sc x
    | _ => false
  | .and as, sc, e0 => match e0 with
    | .BoolOp .And es _ => okA T N as sc es
    | _ => false
  | .or as, sc, e0 => match e0 with
    | .BoolOp .Or es _ => okA T N as sc es
    | _ => false
  | .ite t a b, sc, e0 => match e0 with
    | .IfExp x y z _ => okT T N t sc x && okE T N a sc y && okE T N b sc z
    | _ => false
  | .tup as, sc, e0 => match e0 with
    | .Tuple es _ _ => okA T N as sc es
    | _ => false
  | .lst as, sc, e0 => match e0 with
    | .List es _ => okA T N as sc es
    | _ => false
  | .ix a i, sc, e0 => match e0 with
    | .Subscript x y _ => noSlc y && okE T N a sc x && okE T N i sc y
    | _ => false
  | .dget a i, sc, e0 => match e0 with
    | .Subscript x y _ => noSlc y && okE T N a sc x && okE T N i sc y
    | _ => false
  | .slc a lo hi, sc, e0 => match e0 with
    | .Subscript x (.Slice l h none _) _ => okE T N a sc x && okO T N lo sc l && okO T N hi sc h
    | _ => false
  | .rev a, sc, e0 => match e0 with
    | .Subscript x (.Slice none none (some (.UnaryOp .USub (.Constant (.int z) _ _) _)) _) _ => decide (z = 1) && okE T N a sc x
    | _ => false
  | .call f as, sc, e0 => match e0 with
    | .Call (.Name g _) es [] _ => decide (f = g) && glB sc f && dunderB f && decide (T.defs.lookup f = some es.length) && okA T N as sc es && !es.isEmpty
    | _ => false
  | .lcall i x as, sc, e0 => match e0 with
    | .Call (.Name g _) es [] _ => decide (x = g) && varB N sc i x && okA T N as sc es && !es.isEmpty
    | _ => false
  | .bi b as, sc, e0 => match e0 with
    | .Call (.Name g _) es [] _ => decide (g = Str.ofString (biName b)) && glB sc g && dunderB g && decide (g ∈ T.blts) && okA T N as sc es && !es.isEmpty
    | _ => false
  | .lc own elt p it tst, sc, e0 => match e0 with
    | .ListComp x [⟨tg, iter, ifs, asy⟩] scope _ => decide (asy = 0) && blkC N sc scope own && ownOk own p && noSet iter && okI T N it sc iter && okP N false (relS scope sc) p tg && okC T N tst (relS scope sc) ifs && okE T N elt (relS scope sc) x && (match tg with | .Tuple _ _ _ => true | _ => !needTup it)
    | _ => false
  | .app o e, sc, e0 => match e0 with
    | .Call (.Attribute x nm ap) [y] [] cp => decide (nm = "append") && recvOk x && noStar y && lineOk ap cp && okE T N o sc x && okE T N e sc y
    | _ => false
  | _, _, _ => false
def okT (T : Tab) (N : List Str) : E → Scope → Expr → Bool
  | .not a, sc, e0 => match e0 with
    | .UnaryOp .Not x _ => okT T N a sc x
    | _ => false
  | .and as, sc, e0 => match e0 with
    | .BoolOp .And es _ => okTs T N as sc es && !es.isEmpty
    | _ => false
  | .or as, sc, e0 => match e0 with
    | .BoolOp .Or es _ => okTs T N as sc es && !es.isEmpty
    | _ => false
  | .cmp o a b, sc, e0 => match e0 with
    | .Compare x [p] [y] _ => decide (p = cpOf o) && noSet y && okE T N a sc x && okE T N b sc y
    | _ => false
  | .chn o1 o2 a b c, sc, e0 => match e0 with
    | .Compare x [p1, p2] [y, z] _ => decide (p1 = cpOf o1) && decide (p2 = cpOf o2) && noSet z && okE T N a sc x && okE T N b sc y && okE T N c sc z
    | _ => false
  | .tst a, sc, e => plainT e && okE T N a sc e
  | _, _, _ => false
def okTs (T : Tab) (N : List Str) : E → Scope → List Expr → Bool
  | .nil, _, e0 => match e0 with
    | [] => true
    | _ => false
  | .cons a as, sc, e0 => match e0 with
    | e :: es => okT T N a sc e && okTs T N as sc es
    | _ => false
  | _, _, _ => false
def okA (T : Tab) (N : List Str) : E → Scope → List Expr → Bool
  | .nil, _, e0 => match e0 with
    | [] => true
    | _ => false
  | .cons a as, sc, e0 => match e0 with
    | e :: es => noStar e && okE T N a sc e && okA T N as sc es
    | _ => false
  | _, _, _ => false
def okO (T : Tab) (N : List Str) : E → Scope → Option Expr → Bool
  | .nil, _, e0 => match e0 with
    | none => true
    | _ => false
  | .cons a _, sc, e0 => match e0 with
    | some e => okE T N a sc e
    | _ => false
  | _, _, _ => false
def okC (T : Tab) (N : List Str) : E → Scope → List Expr → Bool
  | .nil, _, e0 => match e0 with
    | [] => true
    | _ => false
  | .cons a _, sc, e0 => match e0 with
    | [e] => okT T N a sc e
    | _ => false
  | _, _, _ => false
def okI (T : Tab) (N : List Str) : E → Scope → Expr → Bool
  | .rng as, sc, e0 => match e0 with
    | .Call (.Name g _) es [] _ => decide (g = rgName) && glB sc g && decide (rgName ∈ T.blts) && okA T N as sc es && (decide (es.length = 1) || decide (es.length = 2) || decide (es.length = 3))
    | _ => false
  | .enm a, sc, e0 => match e0 with
    | .Call (.Name g _) [e] [] _ => decide (g = enName) && glB sc g && decide (enName ∈ T.blts) && noStar e && okE T N a sc e
    | _ => false
  | .zip a b, sc, e0 => match e0 with
    | .Call (.Name g _) [e, f] [] _ => decide (g = zpName) && glB sc g && decide (zpName ∈ T.blts) && noStar e && noStar f && okE T N a sc e && okE T N b sc f
    | _ => false
  | .cons a .nil, sc, e => okE T N a sc e
  | _, _, _ => false
/-- enumerate and zip want a tuple as the target -/
def needTup : E → Bool
  | .enm _ => true
  | .zip _ _ => true
  | _ => false
end
end Z

set_option Elab.async false
set_option linter.all false
set_option maxRecDepth 100000
/-! ZE: enumerate over a tuple. -/
namespace ZE
open PySem PySem.Spec PyProof.Rows L2
open PySem.AutoSeq1 (wpAny_loadPart')

theorem meets_enumerate_newT (l : Addr) (items : Array Value) (n : Nat) (dct : Option Addr) (sl : Array (Option Value)) :
    Meets (Builtin.«enumerate.__new__» ⟨[.type "enumerate", .ref l], []⟩) (fun _ R s => s.heap.get? l = some { cls := .type "tuple", dict := dct, data := .seq items n, slots := sl } ∧
      R (.ok (.ret (.ref (s.heap.push { cls := .type "tuple_iterator", data := .fields #[.ref l, .int 0 0] }).objs.size)))
        { s with heap := (s.heap.push { cls := .type "tuple_iterator", data := .fields #[.ref l, .int 0 0] }).push { cls := .type "enumerate", data := .fields #[.none, .bool false, .ref s.heap.objs.size, rawInt 0, .none, .none] } }) :=
  .of_wp fun prog w A R s h => by
    obtain ⟨hp, g, d, tk, os⟩ := s; obtain ⟨hl, h⟩ := h
    have hsub := sub_enumerate
    have hL : Heap.IsTuple (Shared.heap ⟨hp, g, d, tk, os⟩) l items := ⟨_, hl, rfl, n, rfl⟩
    wp_walk using wpAny_loadPart' hl
    refine wpAny_stack_any fun st => wpAny_pure ?_
    split
    · rename_i c _ _ _ _ _
      cases (c == Value.type "enumerate")
      · wp_walk using wpAny_loadPart' hl, wpAny_pyIter_tuple hL
        exact ⟨_, rfl, h⟩
      · wp_walk using wpAny_loadPart' hl, wpAny_pyIter_tuple hL
        exact ⟨_, rfl, h⟩
    · wp_walk using wpAny_loadPart' hl, wpAny_pyIter_tuple hL
      exact ⟨_, rfl, h⟩
section
variable {prog : Program} {w : World} {A : Around} {E : Value → Shared → Prop} {s : Shared}
theorem call_enumerate_tuple {l : Addr} {items : Array Value} {Q : Value → Shared → Prop} (hL : s.heap.IsTuple l items)
    (h : ∀ h', IsEnum h' (s.heap.objs.size + 1) s.heap.objs.size 0 .none → h'.IsTupleIter s.heap.objs.size l 0 → h'.objs.size = s.heap.objs.size + 2 →
      (∀ b o, s.heap.get? b = some o → h'.get? b = some o) → Q (.ref (s.heap.objs.size + 1)) { s with heap := h' }) :
    wpAny (model prog w) A (call (.type "enumerate") [.ref l]) Q E s := by
  obtain ⟨⟨c, dct, dt, sl⟩, hl, hc, n, hd⟩ := hL
  replace hc : c = .type "tuple" := hc
  replace hd : dt = .seq items n := hd
  subst hc hd
  refine callType_new F.called_enumerate (by decide) (F.typeCall_enumerate_1 _) (F.newCall_enumerate_1 _) (fun obj => F.args_object_init_2 obj _) F.entry_enumerate_new
    (meets_enumerate_newT l items n dct sl) ⟨hl, ?_⟩
  have hz : (s.heap.push { cls := .type "tuple_iterator", data := .fields #[.ref l, .int 0 0] }).objs.size = s.heap.objs.size + 1 := Heap.size_push ..
  show _ ∧ _
  rw [hz]
  have he : IsEnum ((s.heap.push { cls := .type "tuple_iterator", data := .fields #[.ref l, .int 0 0] }).push
      { cls := .type "enumerate", data := .fields #[.none, .bool false, .ref s.heap.objs.size, rawInt 0, .none, .none] }) (s.heap.objs.size + 1) s.heap.objs.size 0 .none := by
    have := Heap.get?_push_size (s.heap.push { cls := .type "tuple_iterator", data := .fields #[.ref l, .int 0 0] })
      (o := { cls := .type "enumerate", data := .fields #[.none, .bool false, .ref s.heap.objs.size, rawInt 0, .none, .none] }) rfl
    rw [hz] at this; exact this
  refine ⟨⟨_, he, rfl⟩, h _ he ⟨_, Heap.get?_push_of_some _ (Heap.get?_push_size _ rfl), rfl, rfl⟩ (by rw [Heap.size_push, hz]) fun b o x => Heap.get?_push_of_some _ (Heap.get?_push_of_some _ x)⟩
end
theorem drawsTuple {prog : Program} {w : World} {A : Around} (hh : A.handled = none) (it l : Addr) (hne : l ≠ it) (items : Array Value) :
    Draws prog w A it [it, l] items.size (fun i v => items[i]? = some v) (fun i h => h.IsTupleIter it l i ∧ h.IsTuple l items) where
  live := fun _ _ st => let ⟨o, ho, _⟩ := st.1; ⟨o, ho⟩
  frame := fun _ _ _ st hk => ⟨let ⟨o, ho, r⟩ := st.1; ⟨o, hk it (by simp) o ho, r⟩, let ⟨o, ho, r⟩ := st.2; ⟨o, hk l (by simp) o ho, r⟩⟩
  item := fun i s Q E hi st hQ => by
    refine RZ.nextOf_tuple_item st.1 st.2 (x := items[i]) (by simp [hi]) fun h' hit' hs' => ?_
    exact hQ _ h' s.toks (by simp [hi]) ⟨hit', st.2.extBut hs'.extBut hne⟩ hs'
  done := fun s Q E st hE => RZ.nextOf_tuple_end hh st.1 st.2 (by simp) hE
/-- the tuple at a, each item in a new pair -/
def IteT (K : PySem.W.Frag) (a : Addr) : It :=
  ⟨fun i H => ∃ (xs : List V) (x : V), SqT K H a xs ∧ xs[i]? = some x, fun i H v H' => ∃ T x, v = .ref T ∧ H T = none ∧ H' = upd H T (.tup [.int (i : Nat), x]) ∧ ∀ xs, SqT K H a xs → xs[i]? = some x, fun i H => ∃ xs : List V, SqT K H a xs ∧ xs.length = i⟩
theorem cls_ne {h : Heap} {a b : Addr} {o o' : Obj} {c c' : Value} (h1 : h.get? a = some o) (h2 : h.get? b = some o') (e1 : o.cls = c) (e2 : o'.cls = c') (n : c ≠ c') : a ≠ b := fun z => by
  subst z
  rw [h1] at h2
  cases h2
  exact n (e1.symm.trans e2)
theorem turn_enumT {P : Program} {w : World} {K : PySem.W.Frag} {elts : List Expr} {kk : Nat} {tpos : Pos} (a e it : Addr) :
    Turn P w K (.Tuple elts kk tpos) (IteT K a) [e, it] e (fun i h => (∃ old, IsEnum h e it ((i : Nat) : Int) old) ∧ h.IsTupleIter it a i ∧ e ≠ it) where
  mem := by simp
  obj := fun i h st b hb => by
    obtain ⟨⟨old, he⟩, ⟨o, ho, hc, hd⟩, _⟩ := st
    have e' : b = e ∨ b = it := by simpa using hb
    rcases e' with z | z
    · rw [z]; exact ⟨_, he, fun v q => nomatch q⟩
    · rw [z]; exact ⟨o, ho, fun v q => by rw [hd] at q; cases q⟩
  keep := fun i h h' st k => let ⟨⟨old, he⟩, ⟨o, ho, r⟩, hne⟩ := st; ⟨⟨old, k e (by simp) _ he⟩, ⟨o, k it (by simp) o ho, r⟩, hne⟩
  item := by
    intro X hP hw hK hc i pins s σ H E I hf st hg
    subst hP hw hK
    obtain ⟨⟨old, he⟩, hit, hne⟩ := st
    obtain ⟨xs, x, hq, hx⟩ := hg
    obtain ⟨its, rv, p, hz⟩ := I.tuple hq
    obtain ⟨u, hu, ru⟩ := rv.get hx
    have hel : e < s.heap.objs.size := Heap.lt_size he
    have hil : it < s.heap.objs.size := by obtain ⟨_, q, _⟩ := hit; exact Heap.lt_size q
    have hT : s.heap.IsTuple a its.toArray := p
    have hai : a ≠ it := by
      obtain ⟨o, h1, h2, _⟩ := hT
      obtain ⟨o', h3, h4, _⟩ := hit
      exact cls_ne h1 h3 h2 h4 (by decide)
    have hea : e ≠ a := by
      obtain ⟨o, h1, h2, _⟩ := hT
      exact cls_ne (c := .type "enumerate") he h1 rfl h2 (by decide)
    have hlt : i < its.toArray.size := by
      rw [List.size_toArray]
      rcases Nat.lt_or_ge i its.length with z | z
      · exact z
      · rw [List.getElem?_eq_none z] at hu; cases hu
    refine wpAny_pyNext_enum_itemD (drawsTuple (A := X.A.in1) (I.ok.hd hc) it a hai its.toArray) he ⟨hit, hT⟩ hlt hne (by simp [hne, hea]) fun x' h' tk hPx ho hit' hT1 hsz hk => ?_
    have hx' : x' = u := by
      have q : its.toArray[i]? = some x' := hPx
      have q2 : its.toArray[i]? = some u := by simpa using hu
      rw [q2] at q
      exact (Option.some.inj q).symm
    subst hx'
    refine ⟨_, rfl, wpAny_letOwnedTupleGo_enum (s := { s with heap := h', toks := tk + 1 }) ho fun h'' he' sb => ?_⟩
    have hT2 : h''.get? s.heap.objs.size = some { cls := .type "tuple", data := .seq #[.int i tk, x'] } := (sb.2 _ (Nat.ne_of_gt hel)).trans hT1
    have new : ObjOk X.prog X.w (upd H s.heap.objs.size (.tup [.int (i : Nat), x])) h'' s.heap.objs.size (.tup [.int (i : Nat), x]) :=
      ⟨by show 2 ≤ sizeLine; decide, [.int i tk, x'], .cons ⟨_, rfl⟩ (.cons ru .nil), ⟨_, hT2, rfl, _, rfl⟩⟩
    have I1 : Inv X pins σ (upd H s.heap.objs.size (.tup [.int (i : Nat), x])) { s with heap := h'', toks := tk + 1 } :=
      I.turnedNew (ch := [e, it]) (fun b ob hb q => (sb.2 b (fun z => hb (by simp [z]))).trans (hk b ob (fun z => hb (by simp [z])) (fun z => hb (by simp [z])) q)) hf (Nat.le_refl _) new
    refine ⟨.ref s.heap.objs.size, _, I1, rfl, ⟨_, x, rfl, I.hok.fresh (Nat.le_refl _), rfl, fun ys hy => by rw [I.tuple_inj hy hq]; exact hx⟩, ⟨⟨x', ?_⟩, ?_, hne⟩, fun b hb => ?_⟩
    · have e1 : ((i + 1 : Nat) : Int) = (i : Int) + 1 := by omega
      rw [e1]; exact he'
    · obtain ⟨o, q1, q2⟩ := hit'.1
      exact ⟨o, (sb.2 it (Ne.symm hne)).trans q1, q2⟩
    · have hb' : b < s.heap.objs.size := by
        have e' : b = e ∨ b = it := by simpa using hb
        rcases e' with z | z
        · rw [z]; exact hel
        · rw [z]; exact hil
      rw [upd_ne (Nat.ne_of_lt hb')]
      exact (hf b hb).1
  done := by
    intro X hP hw hK hc i pins s σ H E I hf st hg
    subst hP hw hK
    obtain ⟨⟨old, he⟩, hit, hne⟩ := st
    obtain ⟨xs, hq, hx⟩ := hg
    obtain ⟨its, rv, p, hz⟩ := I.tuple hq
    obtain ⟨f0, f1, f2, f3, f4, f5⟩ := hf it (by simp)
    have hT : s.heap.IsTuple a its.toArray := p
    have hai : a ≠ it := by
      obtain ⟨o, h1, h2, _⟩ := hT
      obtain ⟨o', h3, h4, _⟩ := hit
      exact cls_ne h1 h3 h2 h4 (by decide)
    have hl : its.toArray.size = i := by rw [List.size_toArray, ← rv.length, hx]
    exact wpAny_pyNext_enum_endD (drawsTuple (A := X.A.in1) (I.ok.hd hc) it a hai its.toArray) he (by rw [hl]; exact ⟨hit, hT⟩) fun h' eb => ⟨rfl, I.turned (t' := s.toks) (fun b o hb q => eb b o hb q) f0 f1 f3 f4 f5⟩
  self := fun A i s Q E st h => let ⟨⟨_, he⟩, _⟩ := st; wpAny_pyIter_enum he h
def iEnumT (K : PySem.W.Frag) (ta : TA) : TI := fun σ H R => ta σ H fun vs H1 => ∃ a xs, vs = [.ref a] ∧ SqT K H1 a xs ∧ R (IteT K a) H1
theorem pi_enumT {X : Cx} {e : Expr} {ta : TA} {p pos tpos : Pos} {elts : List Expr} {kk : Nat} (hg : Gl X "enumerate") (hm : X.mg "enumerate" = none) (ha : PA X [e] ta) (hs : starEach [e] X.env = [(false, eval e X.env)] := by rfl) :
    PI X (.Tuple elts kk tpos) (.Call (.Name "enumerate" p) [e] [] pos) (iEnumT X.K ta) := by
  refine ⟨fun pins s σ H R I h => ?_⟩
  refine Call_ (ld_blt I hg hm boot_enumerate (PyProof.Rows.callWith_type1 (thn (ha.run pos pins s σ H _ I h) fun us s1 ⟨vs, H1, I1, r1, q1⟩ => ?_) hs rfl))
  obtain ⟨a, xs, ex, hq, q⟩ := q1
  subst ex
  cases r1 with
  | cons r rr =>
    cases rr
    cases r
    obtain ⟨its, rv, p', hz⟩ := I1.tuple hq
    refine call_enumerate_tuple (show s1.heap.IsTuple a its.toArray from p') fun h' he hit hsz hk => wpAny_pyIter_enum he ?_
    have I2 : Inv X pins σ H1 { s1 with heap := h' } := I1.kept (t' := s1.toks) hk
    refine ⟨s1.heap.objs.size + 1, [s1.heap.objs.size + 1, s1.heap.objs.size], _, _, H1, rfl, I2, turn_enumT a (s1.heap.objs.size + 1) s1.heap.objs.size, ⟨⟨.none, he⟩, hit, Nat.succ_ne_self _⟩, fun b hb => ?_, q⟩
    have e' : b = s1.heap.objs.size + 1 ∨ b = s1.heap.objs.size := by simpa using hb
    have hle : s1.heap.objs.size ≤ b := by
      rcases e' with z | z
      · rw [z]; exact Nat.le_add_right _ _
      · rw [z]; exact Nat.le_refl _
    exact I1.fpOk hle (I1.hok.fresh hle)
end ZE

set_option Elab.async false
set_option linter.all false
set_option maxRecDepth 100000
/-! ZR: t[::-1] of a tuple. -/
namespace ZR
open PySem PySem.Spec PyProof.Rows L2 HT
section
variable {prog : Program} {w : World} {A : Around} {E : Value → Shared → Prop} {s : Shared}
theorem adjust_rev (n : Nat) : Builtin.Slice.sliceAdjust none none (-1) (n : Int) = ((n : Int) - 1, -1) := by
  unfold Builtin.Slice.sliceAdjust
  rfl
theorem places_rev (n : Nat) : Builtin.Slice.slicePlaces ((n : Int) - 1) (-1) (-1) = n := by
  unfold Builtin.Slice.slicePlaces
  have h1 : ¬ ((-1 : Int) > 0) := by decide
  simp only [h1, if_false]
  by_cases h : (n : Int) - 1 > -1
  · rw [if_pos h, show (- -1 : Int) = 1 by decide, Int.ediv_one]
    omega
  · rw [if_neg h]
    omega
theorem sliceApplied_rev {sl : Addr} {u : Tok} {n : Nat} {Q : Int × Int × Nat → Shared → Prop} (hs : s.heap.IsSliceOf sl .none .none (.int (-1) u))
    (h : Q ((n : Int) - 1, -1, n) s) : wpAny (model prog w) A (Builtin.Slice.sliceApplied (.ref sl) (pure (n : Int))) Q E s := by
  obtain ⟨os, hos, hcs, hds⟩ := id hs
  unfold Builtin.Slice.sliceApplied Builtin.Slice.sliceFields
  refine wpAny_bind (wpAny_bind (wpAny_field hos hds (x := .none) rfl (wpAny_bind (wpAny_field hos hds (x := .none) rfl (wpAny_bind (wpAny_field hos hds (x := .int (-1) u) rfl (wpAny_pure ?_)))))))
  refine wpAny_bind (slicePart_int ?_)
  show wpAny _ _ (if ((-1 : Int) == 0) = true then _ else _) _ _ s
  rw [if_neg (by decide)]
  refine wpAny_bind (slicePart_none (wpAny_bind (slicePart_none (wpAny_bind (wpAny_pure ?_)))))
  show wpAny _ _ (match Builtin.Slice.sliceAdjust none none (-1) (n : Int) with | (lo, hi) => pure (lo, (-1 : Int), Builtin.Slice.slicePlaces lo hi (-1))) _ _ s
  rw [adjust_rev]
  show wpAny _ _ (pure (((n : Int) - 1), (-1 : Int), Builtin.Slice.slicePlaces ((n : Int) - 1) (-1) (-1))) _ _ s
  rw [places_rev]
  exact wpAny_pure h
theorem pick_rev (xs : Array Value) : ((List.range xs.size).filterMap fun (m : Nat) => xs[(((xs.size : Int) - 1) + (m : Int) * (-1)).toNat]?).toArray = xs.toList.reverse.toArray := by
  have e : (fun (m : Nat) => xs[(((xs.size : Int) - 1) + (m : Int) * (-1)).toNat]?) = fun m => xs[xs.size - 1 - m]? := by
    funext m
    have : (((xs.size : Int) - 1) + (m : Int) * (-1)).toNat = xs.size - 1 - m := by omega
    rw [this]
  rw [e]
  have q : (List.range xs.size).filterMap (fun m => xs[xs.size - 1 - m]?) = ((List.range xs.size).map fun k => xs.size - 1 - k).filterMap (xs[·]?) := by
    rw [List.filterMap_map]
    rfl
  rw [q, PySem.W.krv_range, List.filterMap_reverse]
  have := PySem.W.krv_all xs
  rw [this]
theorem getItem_tuple_rev {t sl : Addr} {items : Array Value} {u : Tok} {Q : Value → Shared → Prop} (ht : IsTup s.heap t items) (hs : s.heap.IsSliceOf sl .none .none (.int (-1) u))
    (h : Q (.ref s.heap.objs.size) { s with heap := s.heap.push { cls := .type "tuple", data := .seq items.toList.reverse.toArray } })
    (hsz : items.size ≤ sizeLine) : wpAny (model prog w) A (getItem (.ref t) (.ref sl)) Q E s := by
  have htake : sizeOk (.seq items.toList.reverse.toArray) := by
    show items.toList.reverse.toArray.size ≤ sizeLine
    rw [List.size_toArray, List.length_reverse, Array.length_toList]
    exact hsz
  obtain ⟨os, hos, hcs, hds⟩ := id hs
  have hTs : s.TypeIs (.ref sl) "slice" := ⟨os, hos, hcs⟩
  unfold getItem
  try with_reducible refine wpAny_holding ?_
  first | refine wpAny_bind (wpAny_pure ?_) | skip
  refine wpAny_bind (wpAny_sequenceKey ht.typeIs (by decide) ?_)
  refine wpAny_bind (wpAny_callSpecial?_slot (name := Str.ofString "__getitem__") ht.typeIs PyProof.Rows.slot_tuple_getitem
    (wpAny_call_entry PyProof.Rows.slot_tuple_getitem ht.typeIs entry_tuple_getitem ?_ (args_tuple_getitem _ _)))
  show wpAny _ _ (Builtin.Tuple.tupleItemsOf (.ref t) >>= _) _ _ s
  refine wpAny_bind (tupleItemsOf_ ht ?_)
  refine wpAny_bind (wpAny_typeOf hTs ?_)
  rw [if_pos (by decide)]
  refine wpAny_bind (sliceApplied_rev hs ?_)
  have hno : ¬ ((((items.size : Int) - 1) == 0 && (-1 : Int) == 1 && items.size == items.size) = true) := by
    simp
  show wpAny _ _ (if ((((items.size : Int) - 1) == 0 && (-1 : Int) == 1 && items.size == items.size) = true) then _ else _) _ _ s
  rw [if_neg hno, pick_rev]
  first
    | exact wpAny_bind (m := Builtin.Tuple.tupleExact _) (wpAny_newObj_type (wpAny_pure ⟨_, rfl, wpAny_pure h⟩) htake)
    | exact wpAny_bind (m := Builtin.Tuple.tupleExact _) (wpAny_newObj_type (wpAny_bind (wpAny_pure (wpAny_pure ⟨_, rfl, wpAny_pure h⟩))) htake)
    | exact wpAny_bind (wpAny_bind (m := Builtin.Tuple.tupleExact _) (wpAny_newObj_type (wpAny_pure (wpAny_pure ⟨_, rfl, wpAny_pure h⟩)) htake))
    | exact wpAny_bind (wpAny_bind (m := Builtin.Tuple.tupleExact _) (wpAny_newObj_type (wpAny_pure ⟨_, rfl, wpAny_pure h⟩) htake))
end
def tRevT (K : PySem.W.Frag) (te : TE) : TE := fun σ H Q => te σ H fun x H1 => ∃ a xs, x = .ref a ∧ SqT K H1 a xs ∧ ∀ p, H1 p = none → Q (.ref p) (upd H1 p (.tup xs.reverse))
theorem pe_revT {X : Cx} {e : Expr} {te : TE} {k : Nat} {p1 p2 p3 pos : Pos} (he : PE X e te) : PE X (.Subscript e (.Slice none none (some (.UnaryOp .USub (.Constant (.int 1) k p1) p2)) p3) pos) (tRevT X.K te) := by
  refine ⟨fun pins s σ H Q I h => ?_⟩
  refine Subscript_ (thn (he.run pins s σ H _ I h) fun v s1 ⟨x, H1, I1, r1, q1⟩ => ?_)
  obtain ⟨a, xs, ex, hx, q⟩ := q1
  subst ex
  cases r1
  have hst : PO X (some (.UnaryOp .USub (.Constant (.int 1) k p1) p2)) (tPart (tUn (rU fun i => .int (-i)) (tC (.int 1)))) := po_some (pe_un un_neg pe_int)
  refine wpAny_Slice (thn (po_none.run pins s1 σ H1 (fun o H2 => o = none ∧ H2 = H1) I1 ⟨rfl, rfl⟩) fun vl s2 ⟨l, H2, I2, pl, el, e2⟩ => ?_)
  subst el e2
  refine thn (po_none.run pins s2 σ H2 (fun o H3 => o = none ∧ H3 = H2) I2 ⟨rfl, rfl⟩) fun vu s3 ⟨u, H3, I3, pu, eu, e3⟩ => ?_
  subst eu e3
  refine thn (hst.run pins s3 σ H3 (fun o H4 => o = some (-1) ∧ H4 = H3) I3 ⟨1, rfl, -1, rfl, rfl, rfl⟩) fun vs s4 ⟨o, H4, I4, ps, eo, e4⟩ => ?_
  subst eo e4
  cases pl
  cases pu
  cases ps with
  | int i t =>
  have I5 : Inv X pins σ H4 { s4 with heap := s4.heap.push { cls := .type "slice", data := .fields #[.none, .none, .int (-1) t] } } := I4.kept (t' := s4.toks) fun b ob q => Heap.get?_push_of_some _ q
  obtain ⟨its, r, ht, hz⟩ := I5.tuple hx
  have hlen := r.length
  show wpAny (model X.prog X.w) X.A (subscriptTail e (.Slice none none (some (.UnaryOp .USub (.Constant (.int 1) k p1) p2)) p3) (.ref a) (.ref s4.heap.objs.size)) (EP X pins σ Q) X.xe { s4 with heap := s4.heap.push { cls := .type "slice", data := .fields #[.none, .none, .int (-1) t] } }
  refine tail_any (ops := [.ref a, .ref s4.heap.objs.size]) ht.typeIs (PyProof.Rows.slot_tuple_getitem.lookup) ?_ (by with_unfolding_all rfl)
  refine getItem_tuple_rev ht (Heap.IsSliceOf.new _ .none .none (.int (-1) t)) ?_ (by rw [List.size_toArray]; omega)
  refine ⟨.ref _, _, I5.laid (t' := s4.toks) (o := .tup xs.reverse) (fun b ob q => Heap.get?_push_of_some _ q) (Nat.le_refl _) ?_, rfl, q _ (I5.hok.fresh (Nat.le_refl _))⟩
  exact ⟨by rw [List.length_reverse]; exact hz, _, r.reverse, IsTup.new _ _⟩
end ZR

set_option Elab.async false
set_option linter.all false
set_option maxRecDepth 100000
/-! Z8: what is walked. -/
namespace Z
open PySem PySem.Spec PyProof.Rows L2

mutual
theorem eqD_eq : ∀ (a b : D), eqD a b = true → a = b
  | .non, b, h => by cases b <;> first | rfl | (simp [eqD] at h)
  | .bl a, b, h => by cases b <;> first | (simp [eqD] at h; rw [h]) | (simp [eqD] at h)
  | .int a, b, h => by cases b <;> first | (simp [eqD] at h; rw [h]) | (simp [eqD] at h)
  | .str a, b, h => by cases b <;> first | (simp [eqD] at h; rw [h]) | (simp [eqD] at h)
  | .ref a, b, h => by cases b <;> first | (simp [eqD] at h; rw [h]) | (simp [eqD] at h)
  | .fn a, b, h => by cases b <;> first | (simp [eqD] at h; rw [h]) | (simp [eqD] at h)
  | .tup a, b, h => by
    cases b with
    | tup b => unfold eqD at h; rw [eqDs_eq a b h]
    | _ => simp [eqD] at h
  | .fz a, b, h => by
    cases b with
    | fz b => unfold eqD at h; rw [eqDs_eq a b h]
    | _ => simp [eqD] at h
theorem eqDs_eq : ∀ (a b : List D), eqDs a b = true → a = b
  | [], b, h => by cases b <;> first | rfl | (simp [eqDs] at h)
  | a :: as, b, h => by
    cases b with
    | nil => simp [eqDs] at h
    | cons b bs =>
      unfold eqDs at h
      simp only [Bool.and_eq_true] at h
      rw [eqD_eq a b h.1, eqDs_eq as bs h.2]
end
mutual
theorem eqD_refl : ∀ (a : D), eqD a a = true
  | .non => by simp [eqD]
  | .bl a => by simp [eqD]
  | .int a => by simp [eqD]
  | .str a => by simp [eqD]
  | .ref a => by simp [eqD]
  | .fn a => by simp [eqD]
  | .tup a => by unfold eqD; exact eqDs_refl a
  | .fz a => by unfold eqD; exact eqDs_refl a
theorem eqDs_refl : ∀ (a : List D), eqDs a a = true
  | [] => rfl
  | a :: as => by unfold eqDs; rw [eqD_refl a, eqDs_refl as]; rfl
end

section
variable (K : PySem.W.Frag) (mg : Str → Option Value)
/-- a walk of the items xs; g: the list that must stand still -/
structure WalkD (J : It) (φ0 : List Addr) (H0 : Hp) (g : Grd) (xs : List D) : Prop where
  go : ∀ (i : Nat) φ S H, i < xs.length → Evo φ0 H0 φ H → StOk K mg φ S H → chkG g S = true → J.go i H
  stop : ∀ φ S H, Evo φ0 H0 φ H → StOk K mg φ S H → chkG g S = true → J.stop xs.length H
  yld : ∀ (i : Nat) φ S H x H', i < xs.length → Evo φ0 H0 φ H → StOk K mg φ S H → chkG g S = true → J.yld i H x H' → ∃ d, xs[i]? = some d ∧ Evo φ H φ H' ∧ StOk K mg φ S H' ∧ Den K mg φ H' x d
def tI (f : Env → Sto → Option ((List D × Grd) × Sto)) : TI := fun σ H R => ∃ φ ρ S xs g S', EnvOk K mg φ H σ ρ ∧ StOk K mg φ S H ∧ f ρ S = some ((xs, g), S') ∧
  ∀ J φ' H', Evo φ H φ' H' → StOk K mg φ' S' H' → WalkD K mg J φ' H' g xs → R J H'
end
section
variable {K : PySem.W.Frag} {mg : Str → Option Value} {φ : List Addr} {H : Hp} {S : Sto}
/-- where the list is, as long as it stands still -/
structure Stands (K : PySem.W.Frag) (mg : Str → Option Value) (φ0 : List Addr) (H0 : Hp) (g : Grd) (a : Addr) (xs : List D) : Prop where
  st : ∀ φ S H, Evo φ0 H0 φ H → StOk K mg φ S H → chkG g S = true → ∃ vs, SqL K H a vs ∧ Dens K mg φ H vs xs
theorem stands_of {w : W} {v : V} {xs : List D} (s : StOk K mg φ S H) (h : DenW K mg φ H v w) (e : lstOf S w = some xs) : ∃ a, v = .ref a ∧ (∃ vs, SqL K H a vs ∧ Dens K mg φ H vs xs) ∧ Stands K mg φ H (guardOf S w) a xs := by
  cases w with
  | tmp ys =>
    cases e
    obtain ⟨a, vs, rfl, hn, h1, h2⟩ := id h
    refine ⟨a, rfl, ⟨vs, SqL.of h1, h2⟩, ⟨fun φ' S' H' e' s' _ => ?_⟩⟩
    obtain ⟨b, us, e1, _, h3, h4⟩ := DenW.evo e' h
    cases e1
    exact ⟨us, SqL.of h3, h4⟩
  | d x =>
    cases x with
    | ref n =>
      cases (show Den K mg φ H v (.ref n) from h) with
      | ref hn =>
        unfold lstOf at e
        simp only at e
        unfold guardOf
        simp only
        split at e
        · next ys hs =>
          cases e
          obtain ⟨vs, h1, h2⟩ := s.obj _ _ _ hn hs
          refine ⟨_, rfl, ⟨vs, SqL.of h1, h2⟩, ⟨fun φ' S' H' e' s' c => ?_⟩⟩
          unfold chkG chk1 at c
          simp only [hs, List.all_cons, List.all_nil, Bool.and_true] at c
          split at c
          · next zs hz =>
            have := eqDs_eq _ _ c
            subst this
            obtain ⟨us, h3, h4⟩ := s'.obj _ _ _ (e'.pre hn) hz
            exact ⟨us, SqL.of h3, h4⟩
          · cases c
        · cases e
    | fz ys =>
      cases e
      cases (show Den K mg φ H v (.fz _) from h) with
      | fz h1 h2 => exact ⟨_, rfl, ⟨_, h1.sq, h2⟩, ⟨fun φ' S' H' e' s' _ => ⟨_, (sqF_evo e' h1).sq, h2.evo e'⟩⟩⟩
    | _ => cases e
theorem walkD_list {g : Grd} {a : Addr} {xs : List D} (st : Stands K mg φ H g a xs) : WalkD K mg (Itl K a) φ H g xs where
  go := fun i φ S H hi e s c => by
    obtain ⟨vs, h1, h2⟩ := st.st φ S H e s c
    exact walk_list.goes i H (by rw [h2.length]; exact hi) h1
  stop := fun φ S H e s c => by
    obtain ⟨vs, h1, h2⟩ := st.st φ S H e s c
    have := walk_list.stops H h1
    rw [h2.length] at this
    exact this
  yld := fun i φ S H x H' hi e s c y => by
    obtain ⟨vs, h1, h2⟩ := st.st φ S H e s c
    obtain ⟨rfl, h3⟩ := walk_list.yields i H x H' (by rw [h2.length]; exact hi) h1 y
    obtain ⟨d, h4, h5⟩ := h2.getV h3
    exact ⟨d, h4, Evo.refl _ _, s, h5⟩
theorem walkD_tup {a : Addr} {vs : List V} {xs : List D} (h : SqT K H a vs) (hd : Dens K mg φ H vs xs) : WalkD K mg (Itt K a) φ H [] xs where
  go := fun i φ S H hi e s c => walk_tup.goes i H (by rw [hd.length]; exact hi) (sqT_evo e h)
  stop := fun φ S H e s c => by
    have := walk_tup.stops H (sqT_evo e h)
    rw [hd.length] at this
    exact this
  yld := fun i φ S H x H' hi e s c y => by
    obtain ⟨rfl, h3⟩ := walk_tup.yields i H x H' (by rw [hd.length]; exact hi) (sqT_evo e h) y
    obtain ⟨d, h4, h5⟩ := (hd.evo e).getV h3
    exact ⟨d, h4, Evo.refl _ _, s, h5⟩
theorem rngL_len (lo : Int) (n : Nat) : (rngL lo n).length = n := by simp [rngL]
theorem walkD_range {lo : Int} {n : Nat} : WalkD K mg (Itr lo n) φ H [] (rngL lo n) where
  go := fun i φ S H hi e s c => by rw [rngL_len] at hi; exact hi
  stop := fun φ S H e s c => by rw [rngL_len]; exact Nat.le_refl n
  yld := fun i φ S H x H' hi e s c y => by
    rw [rngL_len] at hi
    obtain ⟨rfl, rfl⟩ := y
    refine ⟨.int (lo + (i : Nat)), ?_, Evo.refl _ _, s, .int _⟩
    simp [rngL, hi]
theorem walkD_down {lo : Int} {n : Nat} : WalkD K mg (Itc lo (-1) n) φ H [] ((List.range n).map fun k => .int (lo - (k : Nat))) where
  go := fun i φ S H hi e s c => by simp at hi; exact walk_rangeC.goes i H hi trivial
  stop := fun φ S H e s c => by simp only [List.length_map, List.length_range]; exact walk_rangeC.stops H trivial
  yld := fun i φ S H x H' hi e s c y => by
    simp at hi
    obtain ⟨rfl, rfl⟩ := walk_rangeC.yields i H x H' hi trivial y
    refine ⟨.int (lo - (i : Nat)), by simp [hi], Evo.refl _ _, s, ?_⟩
    have : lo + (i : Int) * (-1) = lo - (i : Nat) := by omega
    show Den K mg _ _ (.int (lo + (i : Nat) * (-1))) _
    rw [this]
    exact .int _
/-- a new pair of what stands at i -/
theorem pair_yld {xs ys : Nat → Option V} {i : Nat} {x : V} {H H' : Hp} {d d' : D} (s : StOk K mg φ S H) (y : YPair xs ys i H x H') (h1 : ∀ v, xs i = some v → Den K mg φ H v d) (h2 : ∀ v, ys i = some v → Den K mg φ H v d') :
    Evo φ H φ H' ∧ StOk K mg φ S H' ∧ Den K mg φ H' x (.tup [d, d']) := by
  obtain ⟨T, a, b, rfl, hT, rfl, e1, e2⟩ := y
  exact ⟨Evo.new hT, s.new hT, .tup (.inl (.inl upd_same)) (.cons ((h1 a e1).evo (Evo.new hT)) (.cons ((h2 b e2).evo (Evo.new hT)) .nil))⟩
theorem enumL_len (xs : List D) : (enumL xs).length = xs.length := by simp [enumL]
theorem enumL_get {xs : List D} {i : Nat} {d : D} (h : xs[i]? = some d) : (enumL xs)[i]? = some (.tup [.int (i : Nat), d]) := by
  have hi : i < xs.length := by
    rcases Nat.lt_or_ge i xs.length with z | z
    · exact z
    · rw [List.getElem?_eq_none z] at h; cases h
  have hg : xs[i] = d := by simpa [hi] using h
  simp [enumL, hi, List.getD, hg]
theorem walkD_enum {g : Grd} {a : Addr} {xs : List D} (st : Stands K mg φ H g a xs) : WalkD K mg (Ite K a) φ H g (enumL xs) where
  go := fun i φ S H hi e s c => by
    rw [enumL_len] at hi
    obtain ⟨vs, h1, h2⟩ := st.st φ S H e s c
    exact walk_enum.goes i H (by rw [h2.length]; exact hi) h1
  stop := fun φ S H e s c => by
    obtain ⟨vs, h1, h2⟩ := st.st φ S H e s c
    have := walk_enum.stops H h1
    rw [h2.length] at this
    rw [enumL_len]
    exact this
  yld := fun i φ S H x H' hi e s c y => by
    rw [enumL_len] at hi
    obtain ⟨vs, h1, h2⟩ := st.st φ S H e s c
    have y' := walk_enum.yields i H x H' (by rw [h2.length]; exact hi) h1 y
    have hd : xs[i]? = some xs[i] := by simp [hi]
    refine ⟨_, enumL_get hd, pair_yld s y' (fun v hv => ?_) (fun v hv => ?_)⟩
    · cases hv; exact .int _
    · obtain ⟨d, e1, e2⟩ := h2.getV hv
      rw [hd] at e1; cases e1; exact e2
theorem walkD_enumT {a : Addr} {vs : List V} {xs : List D} (h : SqT K H a vs) (hd : Dens K mg φ H vs xs) : WalkD K mg (ZE.IteT K a) φ H [] (enumL xs) where
  go := fun i φ S H hi e s c => by
    rw [enumL_len] at hi
    have h1 : i < vs.length := by rw [hd.length]; exact hi
    exact ⟨vs, vs[i], sqT_evo e h, by simp [h1]⟩
  stop := fun φ S H e s c => ⟨vs, sqT_evo e h, by rw [enumL_len, hd.length]⟩
  yld := fun i φ S H x H' hi e s c y => by
    rw [enumL_len] at hi
    obtain ⟨T, q, rfl, hT, rfl, e1⟩ := y
    have hx : xs[i]? = some xs[i] := by simp [hi]
    refine ⟨_, enumL_get hx, pair_yld (xs := fun i => some (.int (i : Nat))) (ys := fun i => vs[i]?) s ⟨T, _, q, rfl, hT, rfl, rfl, e1 _ (sqT_evo e h)⟩ (fun v hv => ?_) (fun v hv => ?_)⟩
    · cases hv; exact .int _
    · obtain ⟨d, e1, e2⟩ := (hd.evo e).getV hv
      rw [hx] at e1; cases e1; exact e2
theorem Stands.mono {g g' : Grd} {a : Addr} {xs : List D} (st : Stands K mg φ H g a xs) (h : ∀ S, chkG g' S = true → chkG g S = true) : Stands K mg φ H g' a xs := ⟨fun φ S H e s c => st.st φ S H e s (h S c)⟩
theorem Stands.evo {φ' : List Addr} {H' : Hp} {g : Grd} {a : Addr} {xs : List D} (st : Stands K mg φ H g a xs) (e : Evo φ H φ' H') : Stands K mg φ' H' g a xs := ⟨fun φ S H e' s c => st.st φ S H (e.trans e') s c⟩
theorem zipL_len (xs ys : List D) : (zipL xs ys).length = min xs.length ys.length := by simp [zipL]
theorem zipL_get {xs ys : List D} {i : Nat} {d d' : D} (h : xs[i]? = some d) (h' : ys[i]? = some d') : (zipL xs ys)[i]? = some (.tup [d, d']) := by
  have hi : i < xs.length := by
    rcases Nat.lt_or_ge i xs.length with z | z
    · exact z
    · rw [List.getElem?_eq_none z] at h; cases h
  have hi' : i < ys.length := by
    rcases Nat.lt_or_ge i ys.length with z | z
    · exact z
    · rw [List.getElem?_eq_none z] at h'; cases h'
  have hg : xs[i] = d := by simpa [hi] using h
  have hg' : ys[i] = d' := by simpa [hi'] using h'
  have hm : i < min xs.length ys.length := by omega
  simp [zipL, hm, hi, hi', List.getD, hg, hg']
theorem walkD_zip {g : Grd} {a b : Addr} {xs ys : List D} (s1 : Stands K mg φ H g a xs) (s2 : Stands K mg φ H g b ys) : WalkD K mg (Itz K a b) φ H g (zipL xs ys) where
  go := fun i φ S H hi e s c => by
    rw [zipL_len] at hi
    obtain ⟨vs, h1, h2⟩ := s1.st φ S H e s c
    obtain ⟨us, h3, h4⟩ := s2.st φ S H e s c
    exact (walk_zip (n := min vs.length us.length) rfl).goes i H (by rw [h2.length, h4.length]; exact hi) ⟨h1, h3⟩
  stop := fun φ S H e s c => by
    obtain ⟨vs, h1, h2⟩ := s1.st φ S H e s c
    obtain ⟨us, h3, h4⟩ := s2.st φ S H e s c
    have := (walk_zip (n := min vs.length us.length) rfl).stops H ⟨h1, h3⟩
    rw [h2.length, h4.length] at this
    rw [zipL_len]
    exact this
  yld := fun i φ S H x H' hi e s c y => by
    rw [zipL_len] at hi
    obtain ⟨vs, h1, h2⟩ := s1.st φ S H e s c
    obtain ⟨us, h3, h4⟩ := s2.st φ S H e s c
    have y' := (walk_zip (n := min vs.length us.length) rfl).yields i H x H' (by rw [h2.length, h4.length]; exact hi) ⟨h1, h3⟩ y
    have ha : i < xs.length := by omega
    have hb : i < ys.length := by omega
    have hd : xs[i]? = some xs[i] := by simp [ha]
    have hd' : ys[i]? = some ys[i] := by simp [hb]
    refine ⟨_, zipL_get hd hd', pair_yld s y' (fun v hv => ?_) (fun v hv => ?_)⟩
    · obtain ⟨d, e1, e2⟩ := h2.getV hv
      rw [hd] at e1; cases e1; exact e2
    · obtain ⟨d, e1, e2⟩ := h4.getV hv
      rw [hd'] at e1; cases e1; exact e2
theorem walkD_zipT {a b : Addr} {vs us : List V} {xs ys : List D} (h : SqT K H a vs) (hd : Dens K mg φ H vs xs) (h' : SqT K H b us) (hd' : Dens K mg φ H us ys) : WalkD K mg (RZ.ItzT K a b) φ H [] (zipL xs ys) where
  go := fun i φ S H hi e s c => by
    rw [zipL_len] at hi
    have h1 : i < vs.length := by rw [hd.length]; omega
    have h2 : i < us.length := by rw [hd'.length]; omega
    exact ⟨vs, us, vs[i], us[i], sqT_evo e h, sqT_evo e h', by simp [h1], by simp [h2]⟩
  stop := fun φ S H e s c => ⟨vs, us, sqT_evo e h, sqT_evo e h', by rw [zipL_len, hd.length, hd'.length]; omega⟩
  yld := fun i φ S H x H' hi e s c y => by
    rw [zipL_len] at hi
    obtain ⟨T, p, q, rfl, hT, rfl, e1, e2⟩ := y
    have ha : i < xs.length := by omega
    have hb : i < ys.length := by omega
    have hx : xs[i]? = some xs[i] := by simp [ha]
    have hy : ys[i]? = some ys[i] := by simp [hb]
    refine ⟨_, zipL_get hx hy, pair_yld (xs := fun i => vs[i]?) (ys := fun i => us[i]?) s ⟨T, p, q, rfl, hT, rfl, e1 _ (sqT_evo e h), e2 _ (sqT_evo e h')⟩ (fun v hv => ?_) (fun v hv => ?_)⟩
    · obtain ⟨d, e1, e2⟩ := (hd.evo e).getV hv
      rw [hx] at e1; cases e1; exact e2
    · obtain ⟨d, e1, e2⟩ := (hd'.evo e).getV hv
      rw [hy] at e1; cases e1; exact e2
end
end Z

set_option Elab.async false
set_option linter.all false
set_option maxRecDepth 100000
/-! Z9: the evaluator is right: expressions. -/
namespace Z
open PySem PySem.Spec PyProof.Rows L2

/-- the promise of a def: what the calls' table says -/
def spOf (K : PySem.W.Frag) (mg : Str → Option Value) (cl : Calls) (f : Str) (n : Nat) : Sp := fun vs H Q _ => vs.length = n ∧ ∃ φ ds S w S', StOk K mg φ S H ∧ Dens K mg φ H vs ds ∧ cl f ds S = some (w, S') ∧
  ∀ v φ' H', Evo φ H φ' H' → StOk K mg φ' S' H' → DenW K mg φ' H' v w → FrW H v w → Q v H'
structure CallOk (P : Program) (w : World) (K : PySem.W.Frag) (mg : Str → Option Value) (base : Heap) (cl : Calls) (k : Nat) (f : Str) (n : Nat) : Prop where
  ex : ∃ a fd ps, mg f = some (.ref a) ∧ PySem.W.keepIn K (.ref a) = true ∧ Binds K fd ps [] ∧ ps.length = n ∧ FnOk P w K mg base CX0 k a fd ps (spOf K mg cl f n)
structure XOk (T : Tab) (cl : Calls) (N : List Str) (df : Bool) (sc : Scope) (k : Nat) (X : Cx) : Prop where
  xn : XN N df sc X
  room : Room k X.A
  blt : ∀ x ∈ T.blts, X.mg x = none
  glb : ∀ x d, T.globs.lookup x = some d → ∃ u v, X.mg x = some u ∧ RelV v u ∧ ∀ φ H, Den X.K X.mg φ H v d
  calls : ∀ f n, T.defs.lookup f = some n → CallOk X.prog X.w X.K X.mg X.base cl k f n
section
variable {T : Tab} {cl : Calls} {N : List Str} {df : Bool} {sc : Scope} {k : Nat} {X : Cx}
theorem XOk.u64 (x : XOk T cl N df sc k X) : X.A.units + 65 < cLine := by have := x.room.un; omega
theorem XOk.u1 (x : XOk T cl N df sc k X) : X.A.units + 1 < cLine := by have := x.room.un; omega
theorem XOk.blk (x : XOk T cl N df sc k X) (s : Shared) (H : Hp) (scope : Scope) (C : Addr) (cl' : List (Str × Addr)) (fp : List Addr) : XOk T cl N false (relS scope sc) k (X.blk s H scope (compEnvC scope cl' C X.env) fp) :=
  ⟨⟨x.xn.hN, x.xn.nd, by rw [← x.xn.hsc]; rfl, x.xn.calm, fun z => nomatch z⟩, x.room, x.blt, x.glb, x.calls⟩

/-- a slot's value -/
theorem tW_var {i : Nat} {y : Str} {K : PySem.W.Frag} {mg : Str → Option Value} {σ : L2.St} {H : Hp} {Q : VK} (h : tW K mg (evW T cl (.var i y)) σ H Q) : tVar i σ H Q := by
  obtain ⟨φ, ρ, S, w, S', he, hs, hf, q⟩ := h
  unfold evW at hf
  split at hf
  · next d hd =>
    cases hf
    obtain ⟨v, hv, dv⟩ := he.at' i d hd
    exact ⟨v, hv, q v φ H (Evo.refl _ _) hs dv trivial⟩
  · cases hf
theorem tW_cst {e : E} {d : D} {v : V} {K : PySem.W.Frag} {mg : Str → Option Value} {σ : L2.St} {H : Hp} {Q : VK} (he : ∀ ρ S, evW T cl e ρ S = some (.d d, S)) (hd : ∀ φ H, Den K mg φ H v d) (h : tW K mg (evW T cl e) σ H Q) : Q v H := by
  obtain ⟨φ, ρ, S, w, S', _, hs, hf, q⟩ := h
  rw [he] at hf
  cases hf
  exact q v φ H (Evo.refl _ _) hs (hd _ _) trivial

theorem star1 {e : Expr} (h : noStar e = true) (env : PySem.Env) : starEach [e] env = [(false, eval e env)] := star_cons h [] env
theorem star2 {e f : Expr} (h : noStar e = true) (h' : noStar f = true) (env : PySem.Env) : starEach [e, f] env = [(false, eval e env), (false, eval f env)] := by
  rw [star_cons h, star1 h']
theorem star3 {e f g : Expr} (h : noStar e = true) (h' : noStar f = true) (h'' : noStar g = true) (env : PySem.Env) : starEach [e, f, g] env = [(false, eval e env), (false, eval f env), (false, eval g env)] := by
  rw [star_cons h, star2 h' h'']
theorem okA_star : ∀ {as : E} {es : List Expr}, okA T N as sc es = true → es.all noStar = true
  | .nil, [], _ => rfl
  | .cons a as, e :: es, h => by
    unfold okA at h
    simp only [Bool.and_eq_true] at h
    rw [List.all_cons, h.1.1, okA_star h.2]; rfl
  | .nil, _ :: _, h => by unfold okA at h; cases h
  | .cons _ _, [], h => by unfold okA at h; cases h
  | .var _ _, _, h | .cI _, _, h | .cB _, _, h | .cN, _, h | .cS _, _, h | .glob _, _, h | .bin _ _ _, _, h | .neg _, _, h | .cmp _ _ _, _, h | .chn _ _ _ _ _, _, h | .not _, _, h | .and _, _, h | .or _, _, h | .ite _ _ _, _, h | .tup _, _, h | .lst _, _, h
  | .ix _ _, _, h | .dget _ _, _, h | .slc _ _ _, _, h | .call _ _, _, h | .lcall _ _ _, _, h | .bi _ _, _, h | .rng _, _, h | .enm _, _, h | .zip _ _, _, h | .lc _ _ _ _ _, _, h | .app _ _, _, h | .disp _ _, _, h | .tst _, _, h | .rev _, _, h => by unfold okA at h; cases h
theorem evs_len : ∀ {as : E} {es : List Expr} {ρ : Env} {S S' : Sto} {ws : List W}, okA T N as sc es = true → evs T cl as ρ S = some (ws, S') → ws.length = es.length
  | .nil, [], _, _, _, _, _, h => by unfold evs at h; cases h; rfl
  | .cons a as, e :: es, ρ, S, S', ws, ho, h => by
    unfold okA at ho
    simp only [Bool.and_eq_true] at ho
    unfold evs at h
    split at h
    · cases h
    · next w S1 _ =>
      split at h
      · cases h
      · next ws' S2 h2 =>
        cases h
        rw [List.length_cons, List.length_cons, evs_len ho.2 h2]
  | .nil, _ :: _, _, _, _, _, ho, _ => by unfold okA at ho; cases ho
  | .cons _ _, [], _, _, _, _, ho, _ => by unfold okA at ho; cases ho
  | .var _ _, _, _, _, _, _, h, _ | .cI _, _, _, _, _, _, h, _ | .cB _, _, _, _, _, _, h, _ | .cN, _, _, _, _, _, h, _ | .cS _, _, _, _, _, _, h, _ | .glob _, _, _, _, _, _, h, _ | .bin _ _ _, _, _, _, _, _, h, _ | .neg _, _, _, _, _, _, h, _ | .cmp _ _ _, _, _, _, _, _, h, _ | .chn _ _ _ _ _, _, _, _, _, _, h, _ | .not _, _, _, _, _, _, h, _ | .and _, _, _, _, _, _, h, _ | .or _, _, _, _, _, _, h, _ | .ite _ _ _, _, _, _, _, _, h, _ | .tup _, _, _, _, _, _, h, _ | .lst _, _, _, _, _, _, h, _
  | .ix _ _, _, _, _, _, _, h, _ | .dget _ _, _, _, _, _, _, h, _ | .slc _ _ _, _, _, _, _, _, h, _ | .call _ _, _, _, _, _, _, h, _ | .lcall _ _ _, _, _, _, _, _, h, _ | .bi _ _, _, _, _, _, _, h, _ | .rng _, _, _, _, _, _, h, _ | .enm _, _, _, _, _, _, h, _ | .zip _ _, _, _, _, _, _, h, _ | .lc _ _ _ _ _, _, _, _, _, _, h, _ | .app _ _, _, _, _, _, _, h, _ | .disp _ _, _, _, _, _, _, h, _ | .tst _, _, _, _, _, _, h, _ | .rev _, _, _, _, _, _, h, _ => by unfold okA at h; cases h
theorem Dens.len2 {K : PySem.W.Frag} {mg : Str → Option Value} {φ : List Addr} {H : Hp} {vs : List V} {ws : List W} (h : DenWs K mg φ H vs ws) : vs.length = ws.length := Paired.length h

theorem Dens.rev {K : PySem.W.Frag} {mg : Str → Option Value} {φ : List Addr} {H : Hp} : ∀ {vs : List V} {ds : List D}, Dens K mg φ H vs ds → Dens K mg φ H vs.reverse ds.reverse
  | _, _, .nil => .nil
  | _, _, .cons a b => by
    rw [List.reverse_cons, List.reverse_cons]
    exact (Dens.rev b).snoc a
/-- arguments, then a call: the callee's promise -/
theorem tcall_of {K : PySem.W.Frag} {mg : Str → Option Value} {f : Str} {n : Nat} {fa : Env → Sto → Option (List W × Sto)} {σ : L2.St} {H : Hp} {Q : VK} {φ : List Addr} {ρ : Env} {S S1 S' : Sto} {ws : List W} {w : W}
    (he : EnvOk K mg φ H σ ρ) (hs : StOk K mg φ S H) (h1 : fa ρ S = some (ws, S1)) (hn : ws.length = n) (h2 : cl f (matsW ws S1).1 (matsW ws S1).2 = some (w, S'))
    (q : ∀ v φ' H', Evo φ H φ' H' → StOk K mg φ' S' H' → DenW K mg φ' H' v w → FrW H v w → Q v H') : tCall (spOf K mg cl f n) [] E0 (tAs K mg fa) σ H Q := by
  refine ⟨φ, ρ, S, ws, S1, he, hs, h1, fun vs φ1 H1 e1 s1 d1 f1 => ?_⟩
  obtain ⟨φ2, e2, s2, d2, _⟩ := mats_ok e1 s1 d1 f1
  refine ⟨by rw [List.append_nil, Dens.len2 d1, hn], φ2, _, _, w, S', s2, by rw [List.append_nil]; exact d2, h2, fun v φ' H' e3 s3 d3 f3 => ?_⟩
  exact q v φ' H' (e2.trans e3) s3 d3 (f3.back e1.thr)


theorem tIf_of {K : PySem.W.Frag} {mg : Str → Option Value} {ft : Env → Sto → Option (Bool × Sto)} {fa fb : Ev} {σ : L2.St} {H : Hp} {Q : VK}
    (h : tW K mg (fun ρ S => match ft ρ S with | none => none | some (true, S1) => fa ρ S1 | some (false, S1) => fb ρ S1) σ H Q) : tIf (tT K mg ft) (tW K mg fa) (tW K mg fb) σ H Q := by
  obtain ⟨φ, ρ, S, w, S', he, hs, hf, q⟩ := h
  simp only at hf
  cases h1 : ft ρ S with
  | none => rw [h1] at hf; cases hf
  | some p =>
    obtain ⟨b, S1⟩ := p
    rw [h1] at hf
    refine ⟨φ, ρ, S, b, S1, he, hs, h1, fun φ1 H1 e1 s1 => ?_⟩
    cases b with
    | true => exact iteT ⟨φ1, ρ, S1, w, S', he.evo e1, s1, hf, fun v φ' H' e2 s2 d2 f2 => q v φ' H' (e1.trans e2) s2 d2 (f2.back e1.thr)⟩
    | false => exact iteF ⟨φ1, ρ, S1, w, S', he.evo e1, s1, hf, fun v φ' H' e2 s2 d2 f2 => q v φ' H' (e1.trans e2) s2 d2 (f2.back e1.thr)⟩
theorem tChn_of {K : PySem.W.Frag} {mg : Str → Option Value} {o1 o2 : Cop} {a b c : E} {σ : L2.St} {H : Hp} {Q : VK}
    (h : tW K mg (evW T cl (.chn o1 o2 a b c)) σ H Q) : tChain (vCmp K mg o1) (vCmp K mg o2) (tW K mg (evW T cl a)) (tW K mg (evW T cl b)) (tW K mg (evW T cl c)) σ H Q := by
  obtain ⟨φ, ρ, S, w, S', he, hs, hf, q⟩ := h
  unfold evW at hf
  split at hf
  · cases hf
  · next x S1 h1 =>
    split at hf
    · cases hf
    · next y S2 h2 =>
      refine ⟨φ, ρ, S, x, S1, he, hs, h1, fun v φ1 H1 e1 s1 d1 f1 => ⟨φ1, ρ, S1, y, S2, he.evo e1, s1, h2, fun u φ2 H2 e2 s2 d2 f2 => ?_⟩⟩
      split at hf
      · cases hf
      · next h3 =>
        cases hf
        exact ⟨φ2, _, x, y, false, s2, d1.evo e2, d2, h3, false, rfl, iteF (q _ φ2 H2 (e1.trans e2) s2 (.bl false) trivial)⟩
      · next h3 =>
        split at hf
        · cases hf
        · next z S3 h4 =>
          cases h5 : cmpW S3 o2 y z with
          | none => rw [h5] at hf; cases hf
          | some kk =>
            rw [h5] at hf
            cases hf
            exact ⟨φ2, _, x, y, true, s2, d1.evo e2, d2, h3, true, rfl, iteT ⟨φ2, ρ, S2, z, _, (he.evo e1).evo e2, s2, h4, fun t φ3 H3 e3 s3 d3 f3 =>
              ⟨φ3, _, y, z, kk, s3, d2.evo e3, d3, h5, q _ φ3 H3 ((e1.trans e2).trans e3) s3 (.bl kk) trivial⟩⟩⟩
theorem tChnT_of {K : PySem.W.Frag} {mg : Str → Option Value} {o1 o2 : Cop} {a b c : E} {σ : L2.St} {H : Hp} {Q : Bool → Hp → Prop}
    (h : tT K mg (evT T cl (.chn o1 o2 a b c)) σ H Q) : tTest (tChain (vCmp K mg o1) (vCmp K mg o2) (tW K mg (evW T cl a)) (tW K mg (evW T cl b)) (tW K mg (evW T cl c))) σ H Q := by
  obtain ⟨φ, ρ, S, w, S', he, hs, hf, q⟩ := h
  unfold evT at hf
  split at hf
  · cases hf
  · next x S1 h1 =>
    split at hf
    · cases hf
    · next y S2 h2 =>
      refine ⟨φ, ρ, S, x, S1, he, hs, h1, fun v φ1 H1 e1 s1 d1 f1 => ⟨φ1, ρ, S1, y, S2, he.evo e1, s1, h2, fun u φ2 H2 e2 s2 d2 f2 => ?_⟩⟩
      split at hf
      · cases hf
      · next h3 =>
        cases hf
        exact ⟨φ2, _, x, y, false, s2, d1.evo e2, d2, h3, false, rfl, iteF ⟨false, rfl, q φ2 H2 (e1.trans e2) s2⟩⟩
      · next h3 =>
        split at hf
        · cases hf
        · next z S3 h4 =>
          cases h5 : cmpW S3 o2 y z with
          | none => rw [h5] at hf; cases hf
          | some kk =>
            rw [h5] at hf
            cases hf
            exact ⟨φ2, _, x, y, true, s2, d1.evo e2, d2, h3, true, rfl, iteT ⟨φ2, ρ, S2, z, _, (he.evo e1).evo e2, s2, h4, fun t φ3 H3 e3 s3 d3 f3 =>
              ⟨φ3, _, y, z, _, s3, d2.evo e3, d3, h5, _, rfl, q φ3 H3 ((e1.trans e2).trans e3) s3⟩⟩⟩
theorem tCmpT_of {K : PySem.W.Frag} {mg : Str → Option Value} {o : Cop} {a b : E} {σ : L2.St} {H : Hp} {Q : Bool → Hp → Prop}
    (h : tT K mg (evT T cl (.cmp o a b)) σ H Q) : tTest (tOp (vCmp K mg o) (tW K mg (evW T cl a)) (tW K mg (evW T cl b))) σ H Q := by
  obtain ⟨φ, ρ, S, w, S', he, hs, hf, q⟩ := h
  unfold evT at hf
  split at hf
  · cases hf
  · next x S1 h1 =>
    split at hf
    · cases hf
    · next y S2 h2 =>
      cases h5 : cmpW S2 o x y with
      | none => rw [h5] at hf; cases hf
      | some kk =>
        rw [h5] at hf
        cases hf
        exact ⟨φ, ρ, S, x, S1, he, hs, h1, fun v φ1 H1 e1 s1 d1 f1 => ⟨φ1, ρ, S1, y, _, he.evo e1, s1, h2, fun u φ2 H2 e2 s2 d2 f2 =>
          ⟨φ2, _, x, y, _, s2, d1.evo e2, d2, h5, _, rfl, q φ2 H2 (e1.trans e2) s2⟩⟩⟩
/-- a new tuple, a new list of the arguments -/
theorem tTup_of {K : PySem.W.Frag} {mg : Str → Option Value} {as : E} {σ : L2.St} {H : Hp} {Q : VK} (h : tW K mg (evW T cl (.tup as)) σ H Q) : tTup (tAs K mg (evs T cl as)) σ H Q := by
  obtain ⟨φ, ρ, S, w, S', he, hs, hf, q⟩ := h
  unfold evW at hf
  split at hf
  · cases hf
  · next ws S1 h1 =>
    split at hf
    · next hl =>
      cases hf
      refine ⟨φ, ρ, S, ws, S1, he, hs, h1, fun vs φ1 H1 e1 s1 d1 f1 => ?_⟩
      obtain ⟨φ2, e2, s2, d2, _⟩ := mats_ok e1 s1 d1 f1
      refine ⟨by rw [Dens.len2 d1]; exact LN_le hl, fun p hp => ?_⟩
      exact q _ φ2 _ (e2.trans (Evo.new hp)) (s2.new hp) (.tup (.inl (.inl upd_same)) (d2.evo (Evo.new hp))) trivial
    · cases hf
theorem tLst_of {K : PySem.W.Frag} {mg : Str → Option Value} {as : E} {σ : L2.St} {H : Hp} {Q : VK} (h : tW K mg (evW T cl (.lst as)) σ H Q) : tLst (tAs K mg (evs T cl as)) σ H Q := by
  obtain ⟨φ, ρ, S, w, S', he, hs, hf, q⟩ := h
  unfold evW at hf
  split at hf
  · cases hf
  · next ws S1 h1 =>
    split at hf
    · next hl =>
      cases hf
      refine ⟨φ, ρ, S, ws, S1, he, hs, h1, fun vs φ1 H1 e1 s1 d1 f1 => ?_⟩
      obtain ⟨φ2, e2, s2, d2, _⟩ := mats_ok e1 s1 d1 f1
      refine ⟨by rw [Dens.len2 d1]; exact LN_le hl, fun p hp => ?_⟩
      exact q _ φ2 _ (e2.trans (Evo.new hp)) (s2.new hp) ⟨p, vs, rfl, s2.fresh hp, upd_same, d2.evo (Evo.new hp)⟩ ⟨p, rfl, e1.thr p hp⟩
    · cases hf
theorem tSl_of {K : PySem.W.Frag} {mg : Str → Option Value} {a lo hi : E} {σ : L2.St} {H : Hp} {Q : VK} (h : tW K mg (evW T cl (.slc a lo hi)) σ H Q) : tSl (vSl K mg) (tW K mg (evW T cl a)) (tO K mg (evO T cl lo)) (tO K mg (evO T cl hi)) σ H Q := by
  obtain ⟨φ, ρ, S, w, S', he, hs, hf, q⟩ := h
  unfold evW at hf
  split at hf
  · cases hf
  · next x S1 h1 =>
    split at hf
    · cases hf
    · next l S2 h2 =>
      split at hf
      · cases hf
      · next u S3 h3 =>
        cases h5 : slW S3 x l u with
        | none => rw [h5] at hf; cases hf
        | some z =>
          rw [h5] at hf
          cases hf
          exact ⟨φ, ρ, S, x, S1, he, hs, h1, fun v φ1 H1 e1 s1 d1 f1 => ⟨φ1, ρ, S1, l, S2, he.evo e1, s1, h2, fun φ2 H2 e2 s2 => ⟨φ2, ρ, S2, u, _, (he.evo e1).evo e2, s2, h3, fun φ3 H3 e3 s3 =>
            ⟨φ3, _, x, _, s3, (d1.evo e2).evo e3, h5, fun t H' e4 s4 d4 f4 => q t φ3 H' (((e1.trans e2).trans e3).trans e4) s4 d4 (f4.back fun a ha => e1.thr a (e2.thr a (e3.thr a ha)))⟩⟩⟩⟩
theorem tDget_of {K : PySem.W.Frag} {mg : Str → Option Value} {a i : E} {σ : L2.St} {H : Hp} {Q : VK} (h : tW K mg (evW T cl (.dget a i)) σ H Q) : tDGet (tW K mg (evW T cl a)) (tW K mg (evW T cl i)) σ H Q := by
  obtain ⟨φ, ρ, S, w, S', he, hs, hf, q⟩ := h
  unfold evW at hf
  split at hf
  · cases hf
  · next x S1 h1 =>
    split at hf
    · cases hf
    · next y S2 h2 =>
      cases h5 : dgetW S2 x y with
      | none => rw [h5] at hf; cases hf
      | some z =>
        rw [h5] at hf
        cases hf
        refine ⟨φ, ρ, S, x, S1, he, hs, h1, fun v φ1 H1 e1 s1 d1 f1 => ⟨φ1, ρ, S1, y, _, he.evo e1, s1, h2, fun u φ2 H2 e2 s2 d2 f2 => ?_⟩⟩
        obtain ⟨b, v', d, rfl, rfl, g, dd⟩ := dget_ok s2 (d1.evo e2) d2 h5
        exact ⟨b, v', rfl, g, q v' φ2 H2 (e1.trans e2) s2 dd trivial⟩
/-- .. of a built-in -/
theorem tBi_of {K : PySem.W.Frag} {mg : Str → Option Value} {b : BI} {as : E} {σ : L2.St} {H : Hp} {Q : VK} (h : tW K mg (evW T cl (.bi b as)) σ H Q) : tCB (vBi K mg b) (tAs K mg (evs T cl as)) σ H Q := by
  obtain ⟨φ, ρ, S, w, S', he, hs, hf, q⟩ := h
  unfold evW at hf
  split at hf
  · cases hf
  · next ws S1 h1 =>
    cases h5 : biW S1 b ws with
    | none => rw [h5] at hf; cases hf
    | some z =>
      rw [h5] at hf
      cases hf
      exact ⟨φ, ρ, S, ws, _, he, hs, h1, fun vs φ1 H1 e1 s1 d1 f1 => ⟨φ1, _, ws, _, s1, d1, h5, fun t H' e4 s4 d4 f4 => q t φ1 H' (e1.trans e4) s4 d4 (f4.back e1.thr)⟩⟩
theorem tRev_of {K : PySem.W.Frag} {mg : Str → Option Value} {a : E} {σ : L2.St} {H : Hp} {Q : VK} (h : tW K mg (evW T cl (.rev a)) σ H Q) : tRevL K (tW K mg (evW T cl a)) σ H Q ∨ ZR.tRevT K (tW K mg (evW T cl a)) σ H Q := by
  obtain ⟨φ, ρ, S, w, S', he, hs, hf, q⟩ := h
  unfold evW at hf
  split at hf
  · cases hf
  · next x S1 h1 =>
    cases h5 : revW S1 x with
    | none => rw [h5] at hf; cases hf
    | some z =>
      rw [h5] at hf
      cases hf
      have lst : ((lstOf S' x).map fun xs => W.tmp xs.reverse) = some w → tRevL K (tW K mg (evW T cl a)) σ H Q := fun h5 => by
        cases hl : lstOf S' x with
        | none => rw [hl] at h5; cases h5
        | some xs =>
          rw [hl] at h5
          cases h5
          refine ⟨φ, ρ, S, x, _, he, hs, h1, fun v φ1 H1 e1 s1 d1 f1 => ?_⟩
          obtain ⟨b, vs, rfl, hq, ds⟩ := lstOf_ok s1 d1 hl
          refine ⟨b, vs, rfl, hq, fun p hp => ?_⟩
          exact q _ φ1 _ (e1.trans (Evo.new hp)) (s1.new hp) ⟨p, _, rfl, s1.fresh hp, upd_same, (Dens.rev ds).evo (Evo.new hp)⟩ ⟨p, rfl, e1.thr p hp⟩
      unfold revW at h5
      split at h5
      · next xs =>
        cases h5
        refine .inr ⟨φ, ρ, S, _, _, he, hs, h1, fun v φ1 H1 e1 s1 d1 f1 => ?_⟩
        cases (show Den K mg φ1 H1 v (.tup xs) from d1) with
        | tup g1 g2 =>
          refine ⟨_, _, rfl, g1, fun p hp => ?_⟩
          exact q _ φ1 _ (e1.trans (Evo.new hp)) (s1.new hp) (.tup (.inl (.inl upd_same)) ((Dens.rev g2).evo (Evo.new hp))) trivial
      · exact .inl (lst h5)
end
end Z

set_option Elab.async false
set_option linter.all false
set_option maxRecDepth 100000
/-! Z10: the evaluator is right: expressions, all together. -/
namespace Z
open PySem PySem.Spec PyProof.Rows L2
section
variable {T : Tab} {cl : Calls} {N : List Str} {k : Nat}

theorem tI_rng {K : PySem.W.Frag} {mg : Str → Option Value} {as : E} {σ : L2.St} {H : Hp} {R : It → Hp → Prop} {n : Nat} (hn : ∀ ρ S ws S', evs T cl as ρ S = some (ws, S') → ws.length = n) (h : tI K mg (evI T cl (.rng as)) σ H R) :
    (n = 1 ∧ iRng1 (tAs K mg (evs T cl as)) σ H R) ∨ (n = 2 ∧ iRng2 (tAs K mg (evs T cl as)) σ H R) ∨ (n = 3 ∧ iRng3 (tAs K mg (evs T cl as)) σ H R) := by
  obtain ⟨φ, ρ, S, xs, g, S', he, hs, hf, q⟩ := h
  unfold evI at hf
  split at hf
  · cases hf
  · next ws S1 h1 =>
    cases h2 : rngW ws with
    | none => rw [h2] at hf; cases hf
    | some ys =>
      rw [h2] at hf
      cases hf
      unfold rngW at h2
      split at h2
      · next j =>
        split at h2
        · next hj =>
          cases h2
          unfold rngOk at hj
          simp only [Bool.and_eq_true, decide_eq_true_eq] at hj
          refine .inl ⟨(hn _ _ _ _ h1).symm, φ, ρ, S, _, _, he, hs, h1, fun vs φ1 H1 e1 s1 d1 f1 => ?_⟩
          obtain ⟨v, rfl, dv⟩ := denWs1 d1
          cases (show Den K mg φ1 H1 v (.int j) from dv)
          exact ⟨j, rfl, hj.1, hj.2, q _ φ1 H1 e1 s1 walkD_range⟩
        · cases h2
      · next i j =>
        split at h2
        · next hj =>
          cases h2
          unfold rngOk at hj
          simp only [Bool.and_eq_true, decide_eq_true_eq] at hj
          refine .inr (.inl ⟨(hn _ _ _ _ h1).symm, φ, ρ, S, _, _, he, hs, h1, fun vs φ1 H1 e1 s1 d1 f1 => ?_⟩)
          obtain ⟨v, u, rfl, dv, du⟩ := denWs2 d1
          cases (show Den K mg φ1 H1 v (.int i) from dv)
          cases (show Den K mg φ1 H1 u (.int j) from du)
          exact ⟨i, j, rfl, ⟨hj.1.1, hj.1.2, hj.2.1, hj.2.2⟩, q _ φ1 H1 e1 s1 walkD_range⟩
        · cases h2
      · next i j c =>
        split at h2
        · next hj =>
          cases h2
          unfold rngOk at hj
          simp only [Bool.and_eq_true, decide_eq_true_eq] at hj
          obtain ⟨⟨hi, hj⟩, rfl⟩ := hj
          refine .inr (.inr ⟨(hn _ _ _ _ h1).symm, φ, ρ, S, _, _, he, hs, h1, fun vs φ1 H1 e1 s1 d1 f1 => ?_⟩)
          cases d1 with
          | cons dv d1 =>
            obtain ⟨u, t, rfl, du, dt⟩ := denWs2 d1
            cases (show Den K mg φ1 H1 _ (.int i) from dv)
            cases (show Den K mg φ1 H1 u (.int j) from du)
            cases (show Den K mg φ1 H1 t (.int (-1)) from dt)
            exact ⟨i, j, -1, (i - j).toNat, rfl, RgC.neg (by omega) (by omega) (by omega) (by omega), q _ φ1 H1 e1 s1 walkD_down⟩
        · cases h2
      · cases h2
theorem tI_seq {K : PySem.W.Frag} {mg : Str → Option Value} {a : E} {σ : L2.St} {H : Hp} {R : It → Hp → Prop} (h : tI K mg (evI T cl (.cons a .nil)) σ H R) :
    iList K (tW K mg (evW T cl a)) σ H R ∨ iTup K (tW K mg (evW T cl a)) σ H R := by
  obtain ⟨φ, ρ, S, xs, g, S', he, hs, hf, q⟩ := h
  unfold evI at hf
  split at hf
  · cases hf
  · next w S1 h1 =>
    cases h2 : seqOf S1 w with
    | none => rw [h2] at hf; cases hf
    | some ys =>
      rw [h2] at hf
      cases hf
      have lst : lstOf S' w = some xs → iList K (tW K mg (evW T cl a)) σ H R := fun h2 => ⟨φ, ρ, S, w, _, he, hs, h1, fun v φ1 H1 e1 s1 d1 f1 => by
        obtain ⟨b, rfl, ⟨vs, g1, g2⟩, st⟩ := stands_of s1 d1 h2
        exact ⟨b, rfl, ⟨vs, g1⟩, q _ φ1 H1 e1 s1 (walkD_list st)⟩⟩
      unfold seqOf at h2
      split at h2
      · next ys =>
        cases h2
        refine .inr ⟨φ, ρ, S, _, _, he, hs, h1, fun v φ1 H1 e1 s1 d1 f1 => ?_⟩
        cases (show Den K mg φ1 H1 v (.tup xs) from d1) with
        | tup g1 g2 => exact ⟨_, rfl, ⟨_, g1⟩, q _ φ1 H1 e1 s1 (walkD_tup g1 g2)⟩
      · exact .inl (lst h2)
theorem tI_enm {K : PySem.W.Frag} {mg : Str → Option Value} {a : E} {σ : L2.St} {H : Hp} {R : It → Hp → Prop} (h : tI K mg (evI T cl (.enm a)) σ H R) :
    iEnum K (tCons (tW K mg (evW T cl a)) tNil) σ H R ∨ ZE.iEnumT K (tCons (tW K mg (evW T cl a)) tNil) σ H R := by
  obtain ⟨φ, ρ, S, xs, g, S', he, hs, hf, q⟩ := h
  unfold evI at hf
  split at hf
  · cases hf
  · next w S1 h1 =>
    cases h2 : seqOf S1 w with
    | none => rw [h2] at hf; cases hf
    | some ys =>
      rw [h2] at hf
      cases hf
      have lst : lstOf S' w = some ys → iEnum K (tCons (tW K mg (evW T cl a)) tNil) σ H R := fun h2 => ⟨φ, ρ, S, w, _, he, hs, h1, fun v φ1 H1 e1 s1 d1 f1 => by
        obtain ⟨b, rfl, ⟨vs, g1, g2⟩, st⟩ := stands_of s1 d1 h2
        exact ⟨b, vs, rfl, g1, q _ φ1 H1 e1 s1 (walkD_enum st)⟩⟩
      unfold seqOf at h2
      split at h2
      · next zs =>
        cases h2
        refine .inr ⟨φ, ρ, S, _, _, he, hs, h1, fun v φ1 H1 e1 s1 d1 f1 => ?_⟩
        cases (show Den K mg φ1 H1 v (.tup ys) from d1) with
        | tup g1 g2 => exact ⟨_, _, rfl, g1, q _ φ1 H1 e1 s1 (walkD_enumT g1 g2)⟩
      · exact .inl (lst h2)
theorem tI_zip {K : PySem.W.Frag} {mg : Str → Option Value} {a b : E} {σ : L2.St} {H : Hp} {R : It → Hp → Prop} (h : tI K mg (evI T cl (.zip a b)) σ H R) :
    RZ.iZipA K (tCons (tW K mg (evW T cl a)) (tCons (tW K mg (evW T cl b)) tNil)) σ H R := by
  obtain ⟨φ, ρ, S, xs, g, S', he, hs, hf, q⟩ := h
  unfold evI at hf
  split at hf
  · cases hf
  · next x S1 h1 =>
    split at hf
    · cases hf
    · next y S2 h2 =>
      refine ⟨φ, ρ, S, x, S1, he, hs, h1, fun v φ1 H1 e1 s1 d1 f1 => ⟨φ1, ρ, S1, y, S2, he.evo e1, s1, h2, fun u φ2 H2 e2 s2 d2 f2 => ?_⟩⟩
      have dx := d1.evo e2
      split at hf
      · next ys zs =>
        cases hf
        cases (show Den K mg φ2 H2 v (.tup ys) from dx) with
        | tup g1 g2 =>
          cases (show Den K mg φ2 H2 u (.tup zs) from d2) with
          | tup g3 g4 => exact ⟨_, _, _, _, rfl, .inr ⟨g1, g3, q _ φ2 H2 (e1.trans e2) s2 (walkD_zipT g1 g2 g3 g4)⟩⟩
      · split at hf
        · next ys zs hy hz =>
          cases hf
          obtain ⟨b1, rfl, ⟨vs, g1, g2⟩, st1⟩ := stands_of s2 dx hy
          obtain ⟨b2, rfl, ⟨us, g3, g4⟩, st2⟩ := stands_of s2 d2 hz
          refine ⟨b1, b2, vs, us, rfl, .inl ⟨g1, g3, q _ φ2 H2 (e1.trans e2) s2 (walkD_zip (st1.mono fun S c => ?_) (st2.mono fun S c => ?_))⟩⟩
          · unfold chkG at c ⊢
            rw [List.all_append, Bool.and_eq_true] at c
            exact c.1
          · unfold chkG at c ⊢
            rw [List.all_append, Bool.and_eq_true] at c
            exact c.2
        · cases hf
end
end Z

set_option Elab.async false
set_option linter.all false
set_option maxRecDepth 100000
/-! Z11: comprehensions, append; the theorem. -/
namespace Z
open PySem PySem.Spec PyProof.Rows L2
section
variable {K : PySem.W.Frag} {mg : Str → Option Value} {φ : List Addr} {H : Hp} {S : Sto}
theorem stb_upd {L : Addr} {l : List V} {o : HO} (h : H L = some (.lst l)) {a : Addr} {u : HO} (hs : Stb u) (e : H a = some u) : upd H L o a = some u := by
  rw [upd_ne]
  · exact e
  · intro z
    subst z
    rw [h] at e
    cases e
    exact hs
mutual
theorem Den.upd {L : Addr} {l : List V} {o : HO} (h : H L = some (.lst l)) : ∀ {v : V} {d : D}, Den K mg φ H v d → Den K mg φ (L2.upd H L o) v d
  | _, _, .non => .non
  | _, _, .bl b => .bl b
  | _, _, .int i => .int i
  | _, _, .str x => .str x
  | _, _, .tup h' hs => .tup (by
      rcases h' with (z | ⟨u, z⟩) | z
      · exact .inl (.inl (stb_upd h trivial z))
      · exact .inl (.inr ⟨u, stb_upd (u := .frz u _) h trivial z⟩)
      · exact .inr z) (Dens.upd h hs)
  | _, _, .fz h' hs => .fz (by
      rcases h' with ⟨u, z⟩ | z
      · exact .inl ⟨u, stb_upd (u := .frz u _) h trivial z⟩
      · exact .inr z) (Dens.upd h hs)
  | _, _, .ref h' => .ref h'
  | _, _, .fn h' => .fn h'
theorem Dens.upd {L : Addr} {l : List V} {o : HO} (h : H L = some (.lst l)) : ∀ {vs : List V} {ds : List D}, Dens K mg φ H vs ds → Dens K mg φ (L2.upd H L o) vs ds
  | _, _, .nil => .nil
  | _, _, .cons a b => .cons (Den.upd h a) (Dens.upd h b)
end
theorem StOk.upd {L : Addr} {l : List V} {o : HO} (s : StOk K mg φ S H) (h : H L = some (.lst l)) (n : L ∉ φ) : StOk K mg φ S (L2.upd H L o) := by
  refine ⟨s.len, s.nd, fun m a u e1 e2 => ?_⟩
  have ha : a ≠ L := fun z => n (by rw [← z]; exact List.mem_of_getElem? e1)
  cases u with
  | lst xs => obtain ⟨vs, h1, h2⟩ := s.obj m a _ e1 e2; exact ⟨vs, by rw [upd_ne ha]; exact h1, h2.upd h⟩
  | dk kvs => obtain ⟨vs, h1, h2⟩ := s.obj m a _ e1 e2; exact ⟨vs, by rw [upd_ne ha]; exact h1, Paired.mapP h2 fun _ _ z => ⟨z.1, z.2.upd h⟩⟩
theorem Evo.upd {φ' : List Addr} {H' : Hp} {L : Addr} {o : HO} (e : Evo φ H φ' H') (h : H L = none) : Evo φ H φ' (L2.upd H' L o) := by
  refine ⟨e.ext, fun a u h1 h2 => ?_, fun a u h1 h2 => ?_, fun a h1 => ?_⟩
  · rw [upd_ne (ne_of_none h1 h)]; exact e.out a u h1 h2
  · rw [upd_ne (ne_of_none h2 h)]; exact e.stb a u h1 h2
  · by_cases z : a = L
    · rw [z]; exact h
    · rw [upd_ne z] at h1; exact e.thr a h1
theorem Evo.notin {φ' : List Addr} {H' : Hp} {L : Addr} {u : HO} (e : Evo φ H φ' H') (h : H L = some u) (n : L ∉ φ) : L ∉ φ' := by
  obtain ⟨ψ, rfl, hψ⟩ := e.ext
  intro z
  rcases List.mem_append.mp z with z | z
  · exact n z
  · rw [hψ L z] at h; cases h
theorem wipe_wipe (σ : L2.St) : ∀ vs : List Nat, L2.wipe (L2.wipe σ vs) vs = L2.wipe σ vs
  | [] => rfl
  | v :: vs => by
    have e : L2.wipe σ (v :: vs) = (L2.wipe σ vs).set v none := rfl
    rw [e, wipe_set_in _ v none List.mem_cons_self]
    show (L2.wipe (L2.wipe σ vs) vs).set v none = _
    rw [wipe_wipe σ vs]
theorem stb_updK {L : Addr} {l : List (Key × V)} {o : HO} (h : H L = some (.dK l)) {a : Addr} {u : HO} (hs : Stb u) (e : H a = some u) : upd H L o a = some u := by
  rw [upd_ne]
  · exact e
  · intro z
    subst z
    rw [h] at e
    cases e
    exact hs
mutual
theorem Den.updK {L : Addr} {l : List (Key × V)} {o : HO} (h : H L = some (.dK l)) : ∀ {v : V} {d : D}, Den K mg φ H v d → Den K mg φ (L2.upd H L o) v d
  | _, _, .non => .non
  | _, _, .bl b => .bl b
  | _, _, .int i => .int i
  | _, _, .str x => .str x
  | _, _, .tup h' hs => .tup (by
      rcases h' with (z | ⟨u, z⟩) | z
      · exact .inl (.inl (stb_updK h trivial z))
      · exact .inl (.inr ⟨u, stb_updK (u := .frz u _) h trivial z⟩)
      · exact .inr z) (Dens.updK h hs)
  | _, _, .fz h' hs => .fz (by
      rcases h' with ⟨u, z⟩ | z
      · exact .inl ⟨u, stb_updK (u := .frz u _) h trivial z⟩
      · exact .inr z) (Dens.updK h hs)
  | _, _, .ref h' => .ref h'
  | _, _, .fn h' => .fn h'
theorem Dens.updK {L : Addr} {l : List (Key × V)} {o : HO} (h : H L = some (.dK l)) : ∀ {vs : List V} {ds : List D}, Dens K mg φ H vs ds → Dens K mg φ (L2.upd H L o) vs ds
  | _, _, .nil => .nil
  | _, _, .cons a b => .cons (Den.updK h a) (Dens.updK h b)
end
theorem StOk.updK {L : Addr} {l : List (Key × V)} {o : HO} (s : StOk K mg φ S H) (h : H L = some (.dK l)) (n : L ∉ φ) : StOk K mg φ S (L2.upd H L o) := by
  refine ⟨s.len, s.nd, fun m a u e1 e2 => ?_⟩
  have ha : a ≠ L := fun z => n (by rw [← z]; exact List.mem_of_getElem? e1)
  cases u with
  | lst xs => obtain ⟨vs, h1, h2⟩ := s.obj m a _ e1 e2; exact ⟨vs, by rw [upd_ne ha]; exact h1, h2.updK h⟩
  | dk kvs => obtain ⟨vs, h1, h2⟩ := s.obj m a _ e1 e2; exact ⟨vs, by rw [upd_ne ha]; exact h1, Paired.mapP h2 fun _ _ z => ⟨z.1, z.2.updK h⟩⟩
theorem KD.any {k : Key} : ∀ {vs : List (Key × V)} {kvs : List (Key × D)}, KD K mg φ H vs kvs → (vs.any fun kv => decide (kv.1 = k)) = kvs.any fun kv => decide (kv.1 = k)
  | _, _, .nil => rfl
  | _, _, .cons a b => by
    rw [List.any_cons, List.any_cons, KD.any b, a.1]
theorem KD.mapPut {k : Key} {v : V} {d : D} (hd : Den K mg φ H v d) : ∀ {vs : List (Key × V)} {kvs : List (Key × D)}, KD K mg φ H vs kvs →
    KD K mg φ H (vs.map fun kv => if kv.1 = k then (kv.1, v) else kv) (kvs.map fun kv => if kv.1 = k then (kv.1, d) else kv)
  | _, _, .nil => .nil
  | _, _, .cons (a := p) (b := q) a b => by
    refine .cons ?_ (KD.mapPut hd b)
    simp only
    by_cases e : q.1 = k
    · rw [if_pos e, if_pos (a.1.trans e)]
      exact ⟨a.1, hd⟩
    · rw [if_neg e, if_neg (fun z => e (a.1.symm.trans z))]
      exact a
theorem KD.snoc {k : Key} {v : V} {d : D} (hd : Den K mg φ H v d) : ∀ {vs : List (Key × V)} {kvs : List (Key × D)}, KD K mg φ H vs kvs → KD K mg φ H (vs ++ [(k, v)]) (kvs ++ [(k, d)])
  | _, _, .nil => .cons ⟨rfl, hd⟩ .nil
  | _, _, .cons a b => .cons a (KD.snoc hd b)
theorem KD.put {k : Key} {v : V} {d : D} {vs : List (Key × V)} {kvs : List (Key × D)} (h : KD K mg φ H vs kvs) (hd : Den K mg φ H v d) : KD K mg φ H (putK vs k v) (putD kvs k d) := by
  unfold putK putD
  rw [h.any]
  split
  · exact h.mapPut hd
  · exact h.snoc hd
end
section
variable {T : Tab} {cl : Calls} {N : List Str} {k : Nat}
theorem tLc_of {K : PySem.W.Frag} {mg : Str → Option Value} {own : List (Str × Nat)} {elt it tst : E} {p : P} {σ : L2.St} {H : Hp} {Q : VK} (ho : ownOk own p = true) (h : tW K mg (evW T cl (.lc own elt p it tst)) σ H Q) :
    tLc (tI K mg (evI T cl it)) (tP K mg p) (tT K mg (evC T cl tst)) (tW K mg (evW T cl elt)) (own.map (·.2)) σ H Q := by
  obtain ⟨φ, ρ, S, w, S', he, hs, hf, q⟩ := h
  unfold evW at hf
  split at hf
  · cases hf
  · next xs g S1 h1 =>
    generalize hstep : (fun (d : D) (S : Sto) => match bindP p d (wipeD ρ (own.map (·.2))) with
          | none => none
          | some ρ' => match evC T cl tst ρ' S with
            | none => none
            | some (false, S') => some (none, S')
            | some (true, S') => match evW T cl elt ρ' S' with
              | none => none
              | some (w, S'') => some (some (matW w S'').1, (matW w S'').2)) = step at hf
    cases h2 : lcLoop g step xs [] S1 with
    | none => rw [h2] at hf; cases hf
    | some r =>
      obtain ⟨ds, S2⟩ := r
      rw [h2] at hf
      cases hf
      refine ⟨φ, ρ, S, xs, g, S1, he, hs, h1, fun J φ1 H1 e1 s1 wk D hD => ?_⟩
      have hvs : ∀ i ∈ psl p, i ∈ own.map (·.2) := fun i hi => by
        unfold ownOk at ho
        exact of_decide_eq_true (List.all_eq_true.mp ho i hi)
      generalize own.map (·.2) = vs at *
      refine ⟨fun i m H' => i ≤ xs.length ∧ m = xs.length - i ∧ ∃ φi Si acc us, Evo φ1 H1 φi H' ∧ StOk K mg φi Si H' ∧ D ∉ φi ∧ H' D = some (.lst us) ∧ Dens K mg φi H' us acc ∧ lcLoop g step (xs.drop i) acc Si = some (ds, S2),
        ⟨xs.length, Nat.zero_le _, by simp, φ1, S1, [], [], (Evo.refl _ _).upd hD, s1.new hD, s1.fresh hD, upd_same, .nil, h2⟩, ?_⟩
      rintro i m H' ⟨hi, rfl, φi, Si, acc, us, ei, si, nD, hDi, di, hl⟩
      by_cases hlt : i < xs.length
      · have hx : xs[i]? = some xs[i] := by simp [hlt]
        rw [List.drop_eq_getElem_cons hlt] at hl
        unfold lcLoop at hl
        split at hl
        · next hc =>
          refine .inr ⟨wk.go i φi Si H' hlt ei si hc, fun H'' => ∃ φi Si acc us, Evo φ1 H1 φi H'' ∧ StOk K mg φi Si H'' ∧ D ∉ φi ∧ H'' D = some (.lst us) ∧ Dens K mg φi H'' us acc ∧ lcLoop g step (xs.drop (i + 1)) acc Si = some (ds, S2),
            fun H'' hN => ⟨xs.length - (i + 1), by omega, by omega, rfl, hN⟩, fun x H2 hy => ?_⟩
          obtain ⟨d, hd, e2, s2, dx⟩ := wk.yld i φi Si H' x H2 hlt ei si hc hy
          rw [hx] at hd
          cases hd
          split at hl
          · cases hl
          · next S3 h3 =>
            rw [← hstep] at h3
            simp only at h3
            split at h3
            · cases h3
            · next ρ' hb =>
              refine ⟨φi, wipeD ρ vs, xs[i], ρ', ((he.evo e1).evo (ei.trans e2)).wipe vs, dx, hb, fun σ2 hσ2 hw2 => ⟨by rw [hw2 vs hvs, wipe_wipe], ?_⟩⟩
              split at h3
              · cases h3
              · next S4 h4 =>
                cases h3
                refine ⟨φi, ρ', Si, false, _, hσ2, s2, h4, fun φ3 H3 e3 s3 => iteF ?_⟩
                have eD := e2.out D _ hDi nD
                exact ⟨φ3, _, acc, us, ei.trans (e2.trans e3), s3, e3.notin eD nD, e3.out D _ eD nD, (di.evo e2).evo e3, hl⟩
              · next S4 h4 =>
                split at h3
                · cases h3
                · cases h3
          · next dd S3 h3 =>
            rw [← hstep] at h3
            simp only at h3
            split at h3
            · cases h3
            · next ρ' hb =>
              refine ⟨φi, wipeD ρ vs, xs[i], ρ', ((he.evo e1).evo (ei.trans e2)).wipe vs, dx, hb, fun σ2 hσ2 hw2 => ⟨by rw [hw2 vs hvs, wipe_wipe], ?_⟩⟩
              split at h3
              · cases h3
              · cases h3
              · next S4 h4 =>
                split at h3
                · cases h3
                · next w' S5 h5 =>
                  cases h3
                  split at hl
                  · next hlen =>
                    refine ⟨φi, ρ', Si, true, S4, hσ2, s2, h4, fun φ3 H3 e3 s3 => iteT ⟨φ3, ρ', S4, w', S5, hσ2.evo e3, s3, h5, fun v φ4 H4 e4 s4 d4 f4 => ?_⟩⟩
                    have eD2 := e2.out D _ hDi nD
                    have eD3 := e3.out D _ eD2 nD
                    have nD3 := e3.notin eD2 nD
                    have eD4 := e4.out D _ eD3 nD3
                    obtain ⟨φ5, e5, s5, d5, hφ⟩ := mat_ok (φ₀ := φi) (H₀ := H2) (e3.trans e4) s4 d4 (f4.back e3.thr)
                    have nD5 := e5.notin eD2 nD
                    refine ⟨us, eD4, by rw [di.length]; exact LN_lt hlen, φ5, _, _, _, (ei.trans (e2.trans e5)).upd hD, s5.upd eD4 nD5, nD5, upd_same, ?_, hl⟩
                    exact Dens.upd eD4 (((di.evo e2).evo e5).snoc d5)
                  · cases hl
        · cases hl
      · have hi' : i = xs.length := by omega
        subst hi'
        rw [List.drop_length] at hl
        unfold lcLoop at hl
        split at hl
        · next hc =>
          cases hl
          exact .inl ⟨wk.stop φi _ H' ei si hc, q _ φi H' (e1.trans ei) si ⟨D, us, rfl, nD, hDi, di⟩ ⟨D, rfl, e1.thr D hD⟩⟩
        · cases hl
theorem tApp_of {K : PySem.W.Frag} {mg : Str → Option Value} {o e : E} {σ : L2.St} {H : Hp} {Q : VK} (h : tW K mg (evW T cl (.app o e)) σ H Q) :
    tBM K "list" rAppend (tW K mg (evW T cl o)) (tCons (tW K mg (evW T cl e)) tNil) σ H Q := by
  obtain ⟨φ, ρ, S, w, S', he, hs, hf, q⟩ := h
  unfold evW at hf
  split at hf
  · next n S1 h1 =>
    split at hf
    · next ys h0 =>
      split at hf
      · cases hf
      · next w' S2 h2 =>
        split at hf
        · next xs h3 =>
          split at hf
          · next hl =>
            cases hf
            refine ⟨φ, ρ, S, _, S1, he, hs, h1, fun v φ1 H1 e1 s1 d1 f1 => ?_⟩
            cases (show Den K mg φ1 H1 v (.ref n) from d1) with
            | @ref a _ hn =>
              obtain ⟨vs0, g1, _⟩ := s1.obj _ _ _ hn h0
              refine ⟨.inl ⟨rfl, vs0, SqL.of g1⟩, φ1, ρ, S1, w', S2, he.evo e1, s1, h2, fun u φ2 H2 e2 s2 d2 f2 => ?_⟩
              obtain ⟨φ3, e3, s3, d3, hφ⟩ := mat_ok (φ₀ := φ) (H₀ := H) (e1.trans e2) s2 d2 (f2.back e1.thr)
              have hn3 : φ3[n]? = some a := by
                rcases hφ with rfl | ⟨b, zs, _, _, rfl⟩
                · exact e2.pre hn
                · have := e2.pre hn
                  have hlt : n < φ2.length := by
                    rcases Nat.lt_or_ge n φ2.length with z | z
                    · exact z
                    · rw [List.getElem?_eq_none z] at this; cases this
                  rw [List.getElem?_append_left hlt]
                  exact this
              obtain ⟨vs, g2, g3⟩ := s3.obj _ _ _ hn3 h3
              refine ⟨_, vs, u, rfl, rfl, g2, by rw [g3.length]; exact LN_lt hl, ?_⟩
              refine q _ φ3 _ (e3.trans (Evo.write s3 (List.mem_of_getElem? hn3))) (s3.write hn3 ⟨_, upd_same, ?_⟩) .non trivial
              exact Dens.upd g2 (g3.snoc d3)
          · cases hf
        · cases hf
    · cases hf
  · cases hf
end
end Z

set_option Elab.async false
set_option linter.all false
set_option maxRecDepth 100000
/-! Z12: the evaluator is right: expressions. -/
namespace Z
open PySem PySem.Spec PyProof.Rows L2
section
variable {T : Tab} {cl : Calls} {N : List Str} {k : Nat}
theorem tNil_of {K : PySem.W.Frag} {mg : Str → Option Value} {σ : L2.St} {H : Hp} {Q : List V → Hp → Prop} (h : tAs K mg (evs T cl .nil) σ H Q) : tNil σ H Q := by
  obtain ⟨φ, ρ, S, ws, S', he, hs, hf, q⟩ := h
  unfold evs at hf
  cases hf
  exact q [] φ H (Evo.refl _ _) hs .nil ⟨.nil, fun a z => nomatch z⟩
theorem tCons_of {K : PySem.W.Frag} {mg : Str → Option Value} {a as : E} {σ : L2.St} {H : Hp} {Q : List V → Hp → Prop} (h : tAs K mg (evs T cl (.cons a as)) σ H Q) : tCons (tW K mg (evW T cl a)) (tAs K mg (evs T cl as)) σ H Q := by
  obtain ⟨φ, ρ, S, ws, S', he, hs, hf, q⟩ := h
  unfold evs at hf
  split at hf
  · cases hf
  · next w S1 h1 =>
    split at hf
    · cases hf
    · next ws' S2 h2 =>
      cases hf
      exact ⟨φ, ρ, S, w, S1, he, hs, h1, fun v φ1 H1 e1 s1 d1 f1 => ⟨φ1, ρ, S1, ws', _, he.evo e1, s1, h2, fun vs φ2 H2 e2 s2 d2 f2 =>
        q (v :: vs) φ2 H2 (e1.trans e2) s2 (.cons (d1.evo e2) d2) (FrWs.cons e1.thr d1 f1 f2)⟩⟩
theorem tWAnd_of {K : PySem.W.Frag} {mg : Str → Option Value} {a b as : E} {σ : L2.St} {H : Hp} {Q : VK} (h : tW K mg (evAnd T cl (.cons a (.cons b as))) σ H Q) : tAndV (tW K mg (evW T cl a)) (tW K mg (evAnd T cl (.cons b as))) σ H Q := by
  obtain ⟨φ, ρ, S, w, S', he, hs, hf, q⟩ := h
  unfold evAnd at hf
  split at hf
  · cases hf
  · next w' S1 h1 =>
    simp only at hf
    split at hf
    · cases hf
      refine ⟨φ, ρ, S, _, S', he, hs, h1, fun v φ1 H1 e1 s1 d1 f1 => ?_⟩
      cases (show Den K mg φ1 H1 v (.bl false) from d1)
      exact ⟨false, rfl, iteF (q _ φ1 H1 e1 s1 (.bl false) trivial)⟩
    · refine ⟨φ, ρ, S, _, S1, he, hs, h1, fun v φ1 H1 e1 s1 d1 f1 => ?_⟩
      cases (show Den K mg φ1 H1 v (.bl true) from d1)
      exact ⟨true, rfl, iteT ⟨φ1, ρ, S1, w, S', he.evo e1, s1, hf, fun v φ' H' e2 s2 d2 f2 => q v φ' H' (e1.trans e2) s2 d2 (f2.back e1.thr)⟩⟩
    · cases hf
theorem tWOr_of {K : PySem.W.Frag} {mg : Str → Option Value} {a b as : E} {σ : L2.St} {H : Hp} {Q : VK} (h : tW K mg (evOr T cl (.cons a (.cons b as))) σ H Q) : tOrV (tW K mg (evW T cl a)) (tW K mg (evOr T cl (.cons b as))) σ H Q := by
  obtain ⟨φ, ρ, S, w, S', he, hs, hf, q⟩ := h
  unfold evOr at hf
  split at hf
  · cases hf
  · next w' S1 h1 =>
    simp only at hf
    split at hf
    · cases hf
      refine ⟨φ, ρ, S, _, S', he, hs, h1, fun v φ1 H1 e1 s1 d1 f1 => ?_⟩
      cases (show Den K mg φ1 H1 v (.bl true) from d1)
      exact ⟨true, rfl, iteT (q _ φ1 H1 e1 s1 (.bl true) trivial)⟩
    · refine ⟨φ, ρ, S, _, S1, he, hs, h1, fun v φ1 H1 e1 s1 d1 f1 => ?_⟩
      cases (show Den K mg φ1 H1 v (.bl false) from d1)
      exact ⟨false, rfl, iteF ⟨φ1, ρ, S1, w, S', he.evo e1, s1, hf, fun v φ' H' e2 s2 d2 f2 => q v φ' H' (e1.trans e2) s2 d2 (f2.back e1.thr)⟩⟩
    · cases hf
theorem evAnd_one {a : E} {ρ : Env} {S : Sto} : evAnd T cl (.cons a .nil) ρ S = evW T cl a ρ S := by
  unfold evAnd
  split
  · next h => rw [h]
  · next h => rw [h]
theorem evOr_one {a : E} {ρ : Env} {S : Sto} : evOr T cl (.cons a .nil) ρ S = evW T cl a ρ S := by
  unfold evOr
  split
  · next h => rw [h]
  · next h => rw [h]
theorem tTAnd_of {K : PySem.W.Frag} {mg : Str → Option Value} {a as : E} {σ : L2.St} {H : Hp} {Q : Bool → Hp → Prop} (h : tT K mg (evTAnd T cl (.cons a as)) σ H Q) : tAnd (tT K mg (evT T cl a)) (tT K mg (evTAnd T cl as)) σ H Q := by
  obtain ⟨φ, ρ, S, w, S', he, hs, hf, q⟩ := h
  unfold evTAnd at hf
  split at hf
  · cases hf
  · next S1 h1 =>
    cases hf
    exact ⟨φ, ρ, S, _, _, he, hs, h1, fun φ1 H1 e1 s1 => iteF (q φ1 H1 e1 s1)⟩
  · next S1 h1 => exact ⟨φ, ρ, S, _, S1, he, hs, h1, fun φ1 H1 e1 s1 => iteT ⟨φ1, ρ, S1, w, S', he.evo e1, s1, hf, fun φ2 H2 e2 s2 => q φ2 H2 (e1.trans e2) s2⟩⟩
theorem tTOr_of {K : PySem.W.Frag} {mg : Str → Option Value} {a as : E} {σ : L2.St} {H : Hp} {Q : Bool → Hp → Prop} (h : tT K mg (evTOr T cl (.cons a as)) σ H Q) : tOr (tT K mg (evT T cl a)) (tT K mg (evTOr T cl as)) σ H Q := by
  obtain ⟨φ, ρ, S, w, S', he, hs, hf, q⟩ := h
  unfold evTOr at hf
  split at hf
  · cases hf
  · next S1 h1 =>
    cases hf
    exact ⟨φ, ρ, S, _, _, he, hs, h1, fun φ1 H1 e1 s1 => iteT (q φ1 H1 e1 s1)⟩
  · next S1 h1 => exact ⟨φ, ρ, S, _, S1, he, hs, h1, fun φ1 H1 e1 s1 => iteF ⟨φ1, ρ, S1, w, S', he.evo e1, s1, hf, fun φ2 H2 e2 s2 => q φ2 H2 (e1.trans e2) s2⟩⟩
theorem evTAnd_one {a : E} {ρ : Env} {S : Sto} : evTAnd T cl (.cons a .nil) ρ S = evT T cl a ρ S := by
  unfold evTAnd
  split
  · next h => rw [h]
  · next h => rw [h]
  · next h => rw [h]; unfold evTAnd; rfl
theorem evTOr_one {a : E} {ρ : Env} {S : Sto} : evTOr T cl (.cons a .nil) ρ S = evT T cl a ρ S := by
  unfold evTOr
  split
  · next h => rw [h]
  · next h => rw [h]
  · next h => rw [h]; unfold evTOr; rfl
theorem tTNot_of {K : PySem.W.Frag} {mg : Str → Option Value} {a : E} {σ : L2.St} {H : Hp} {Q : Bool → Hp → Prop} (h : tT K mg (evT T cl (.not a)) σ H Q) : tNot (tT K mg (evT T cl a)) σ H Q := by
  obtain ⟨φ, ρ, S, w, S', he, hs, hf, q⟩ := h
  unfold evT at hf
  split at hf
  · cases hf
  · next b S1 h1 =>
    cases hf
    exact ⟨φ, ρ, S, b, _, he, hs, h1, fun φ1 H1 e1 s1 => q φ1 H1 e1 s1⟩
theorem tWNot_of {K : PySem.W.Frag} {mg : Str → Option Value} {a : E} {σ : L2.St} {H : Hp} {Q : VK} (h : tW K mg (evW T cl (.not a)) σ H Q) : tNotT K (tW K mg (evW T cl a)) σ H Q := by
  obtain ⟨φ, ρ, S, w, S', he, hs, hf, q⟩ := h
  unfold evW at hf
  split at hf
  · cases hf
  · next w' S1 h1 =>
    cases h2 : truW S1 w' with
    | none => rw [h2] at hf; cases hf
    | some b =>
      rw [h2] at hf
      cases hf
      exact ⟨φ, ρ, S, w', _, he, hs, h1, fun v φ1 H1 e1 s1 d1 f1 => ⟨b, tru_of s1 d1 h2, q _ φ1 H1 e1 s1 (.bl _) trivial⟩⟩
theorem tNeg_of {K : PySem.W.Frag} {mg : Str → Option Value} {a : E} {σ : L2.St} {H : Hp} {Q : VK} (h : tW K mg (evW T cl (.neg a)) σ H Q) : tUn (rU fun i => .int (-i)) (tW K mg (evW T cl a)) σ H Q := by
  obtain ⟨φ, ρ, S, w, S', he, hs, hf, q⟩ := h
  unfold evW at hf
  split at hf
  · next i S1 h1 =>
    cases hf
    refine ⟨φ, ρ, S, _, _, he, hs, h1, fun v φ1 H1 e1 s1 d1 f1 => ?_⟩
    cases (show Den K mg φ1 H1 v (.int i) from d1)
    exact ⟨i, rfl, q _ φ1 H1 e1 s1 (.int _) trivial⟩
  · cases hf
theorem tPart_of {K : PySem.W.Frag} {mg : Str → Option Value} {a b : E} {σ : L2.St} {H : Hp} {Q : Option Int → Hp → Prop} (h : tO K mg (evO T cl (.cons a b)) σ H Q) : tPart (tW K mg (evW T cl a)) σ H Q := by
  obtain ⟨φ, ρ, S, w, S', he, hs, hf, q⟩ := h
  unfold evO at hf
  split at hf
  · next i S1 h1 =>
    cases hf
    refine ⟨φ, ρ, S, _, _, he, hs, h1, fun v φ1 H1 e1 s1 d1 f1 => ?_⟩
    cases (show Den K mg φ1 H1 v (.int i) from d1)
    exact ⟨i, rfl, q φ1 H1 e1 s1⟩
  · cases hf
end

theorem boot_bi (b : BI) : bootBuiltins (Str.ofString (biName b)) = some (biVal b) := by
  cases b <;> decide +kernel
theorem dun_bi (b : BI) : Str.ofString (biName b) ≠ "__name__" := by cases b <;> decide
theorem pe_bi {X : Cx} {x : Str} {p pos : Pos} {e : Expr} {es : List Expr} {t : TA} {b : BI} {r : List V → Hp → VK → Prop} (hc : CallR X (biVal b) r) (hg : Gl X x) (hm : X.mg x = none) (hv : bootBuiltins x = some (biVal b)) (ha : PA X (e :: es) t) (hn : x ≠ "__name__") (hdb : (x == ("__debug__" : Str)) = false)
    (he : starEach (e :: es) X.env = (false, eval e X.env) :: starEach es X.env) (hpl : (backTo pos (starEach es X.env)).any (·.1) = false) : PE X (.Call (.Name x p) (e :: es) [] pos) (tCB r t) := by
  unfold biVal at hc hv
  by_cases h : biTy b = true
  · rw [if_pos h] at hc hv
    exact pe_callTy hc hg hm hv ha hn hdb he hpl
  · rw [if_neg h] at hc hv
    exact pe_callB hc hg hm hv ha hn hdb he hpl
section
variable {T : Tab} {cl : Calls} {N : List Str} {k : Nat}
theorem pe_lcall {df : Bool} {sc : Scope} {X : Cx} (x : XOk T cl N df sc k X) {i : Nat} {g : Str} {as : E} {e : Expr} {es : List Expr} {p pos : Pos} (hv : varB N sc i g = true) (ha : PA X (e :: es) (tAs X.K X.mg (evs T cl as))) (hA : okA T N as sc (e :: es) = true) :
    PE X (.Call (.Name g p) (e :: es) [] pos) (tW X.K X.mg (evW T cl (.lcall i g as))) := by
  refine ⟨fun pins s σ H Q I h => ?_⟩
  obtain ⟨φ, ρ, S, w, S', he, hs, hf, q⟩ := h
  unfold varB at hv
  simp only [Bool.and_eq_true, decide_eq_true_eq] at hv
  have hst := okA_star hA
  have hst' : noStar e = true ∧ es.all noStar = true := by simpa using hst
  unfold evW at hf
  split at hf
  · next f hρ =>
    split at hf
    · cases hf
    · next ws S1 h1 =>
      split at hf
      · next hn =>
        obtain ⟨a, fd, ps, g1, g2, g3, g4, F⟩ := (x.calls f ws.length hn).ex
        obtain ⟨v, hσ, dv⟩ := he.at' i _ hρ
        cases dv with
        | fn hm =>
          rw [g1] at hm
          cases hm
          have hN : X.N[i]? = some g := by rw [x.xn.hN]; exact hv.1.1
          have hvis : Vis X.env.scope g := by rw [x.xn.hsc]; exact vis_of hv.1.2
          refine (pe_callL (i := i) (f := a) (dvs := []) (E := E0) F x.room hN hvis g2 g3 .nil pass0 ha (dun1 hv.2) (dun2 hv.2) (star_cons hst'.1 _ _) (noStars hst'.2 _ _)).run pins s σ H Q I ⟨hσ, ?_⟩
          exact tcall_of he hs h1 rfl hf q
      · cases hf
  · cases hf

/-! ### displays of dicts -/
def trsOf (K : PySem.W.Frag) (mg : Str → Option Value) (T : Tab) (cl : Calls) : List Key → E → List (TE × TE)
  | k :: ks, .cons a as => (fun σ H Q => Q (kV k) H, tW K mg (evW T cl a)) :: trsOf K mg T cl ks as
  | _, _ => []
theorem okKs_len : ∀ {ks : List Key} {keys : List (Option Expr)}, okKs ks keys = true → ks.length = keys.length ∧ keys.all (·.isSome) = true
  | [], keys, h => by
    cases keys with
    | nil => exact ⟨rfl, rfl⟩
    | cons _ _ => cases h
  | .inl i :: ks, keys, h => by
    unfold okKs at h
    split at h
    · next j kk p l =>
      simp only [Bool.and_eq_true] at h
      obtain ⟨h1, h2⟩ := okKs_len h.2
      exact ⟨by simp [h1], by simpa using h2⟩
    · cases h
  | .inr i :: ks, keys, h => by
    unfold okKs at h
    split at h
    · next j kk p l =>
      simp only [Bool.and_eq_true] at h
      obtain ⟨h1, h2⟩ := okKs_len h.2
      exact ⟨by simp [h1], by simpa using h2⟩
    · cases h
theorem pkey_ok {X : Cx} : ∀ {k : Key} {ks : List Key} {keys : List (Option Expr)}, okKs (k :: ks) keys = true → ∃ e l, keys = some e :: l ∧ okKs ks l = true ∧ PE X e (fun _ H Q => Q (kV k) H)
  | .inl i, ks, keys, h => by
    unfold okKs at h
    split at h
    · simp only [Bool.and_eq_true, decide_eq_true_eq] at h
      obtain ⟨rfl, h2⟩ := h
      exact ⟨_, _, rfl, h2, PE.imp pe_int fun σ H Q hw => hw⟩
    · cases h
  | .inr i, ks, keys, h => by
    unfold okKs at h
    split at h
    · simp only [Bool.and_eq_true, decide_eq_true_eq] at h
      obtain ⟨rfl, h2⟩ := h
      exact ⟨_, _, rfl, h2, PE.imp pe_str fun σ H Q hw => hw⟩
    · cases h
theorem tPairs_of {K : PySem.W.Frag} {mg : Str → Option Value} {sc : Scope} : ∀ {ks : List Key} {as : E} {es : List Expr} {σ : L2.St} {H : Hp} {Q : List (V × V) → Hp → Prop}, okA T N as sc es = true → ks.length = es.length →
    tAs K mg (evs T cl as) σ H (fun us H' => Q ((ks.map kV).zip us) H') → tPairs (trsOf K mg T cl ks as) σ H Q
  | [], as, es, σ, H, Q, ha, hl, h => by
    cases es with
    | cons _ _ => simp at hl
    | nil =>
      cases as with
      | nil =>
        unfold trsOf tPairs
        exact tNil_of h
      | _ => exact absurd ha (by unfold okA; exact Bool.false_ne_true)
  | k :: ks, as, es, σ, H, Q, ha, hl, h => by
    cases es with
    | nil => simp at hl
    | cons e es =>
      cases as with
      | cons a as =>
        unfold okA at ha
        simp only [Bool.and_eq_true] at ha
        unfold trsOf tPairs
        have h' := tCons_of h
        obtain ⟨φ, ρ, S, w, S', he, hs, hf, q⟩ := h'
        refine ⟨φ, ρ, S, w, S', he, hs, hf, fun v φ1 H1 e1 s1 d1 f1 => ?_⟩
        exact tPairs_of (Q := fun ps H' => Q ((kV k, v) :: ps) H') ha.2 (by simpa using hl) (q v φ1 H1 e1 s1 d1 f1)
      | _ => exact absurd ha (by unfold okA; exact Bool.false_ne_true)
theorem KD.merge {K : PySem.W.Frag} {mg : Str → Option Value} {φ : List Addr} {H : Hp} : ∀ {ks : List Key} {us : List V} {ds : List D} {vs : List (Key × V)} {kvs : List (Key × D)}, KD K mg φ H vs kvs → Dens K mg φ H us ds → ks.length = us.length →
    KD K mg φ H (mergeK vs (ks.zip us)) (mergeD kvs ks ds)
  | [], us, ds, vs, kvs, h, hd, hl => by
    cases us with
    | cons _ _ => simp at hl
    | nil => cases hd; exact h
  | k :: ks, us, ds, vs, kvs, h, hd, hl => by
    cases hd with
    | nil => simp at hl
    | cons hv hd => exact KD.merge (ks := ks) (KD.put h hv) hd (by simpa using hl)
theorem KD.updK {K : PySem.W.Frag} {mg : Str → Option Value} {φ : List Addr} {H : Hp} {L : Addr} {l : List (Key × V)} {o : HO} (h : H L = some (.dK l)) {vs : List (Key × V)} {kvs : List (Key × D)} (d : KD K mg φ H vs kvs) : KD K mg φ (L2.upd H L o) vs kvs := Paired.mapP d fun _ _ z => ⟨z.1, z.2.updK h⟩
theorem zip_kv : ∀ (ks : List Key) (us : List V), (ks.map kV).zip us = (ks.zip us).map fun kv => (kV kv.1, kv.2)
  | [], us => by simp
  | k :: ks, [] => by simp
  | k :: ks, u :: us => by simp [zip_kv ks us]
theorem tDisp_of {K : PySem.W.Frag} {mg : Str → Option Value} {sc : Scope} {ks : List Key} {as : E} {es : List Expr} {σ : L2.St} {H : Hp} {Q : VK} (ha : okA T N as sc es = true) (hl : ks.length = es.length) (h15 : ks.length ≤ 15)
    (h : tW K mg (evW T cl (.disp ks as)) σ H Q) : tDisp (trsOf K mg T cl ks as) σ H Q := by
  intro p hp
  obtain ⟨φ, ρ, S, w, S', he, hs, hf, q⟩ := h
  unfold evW at hf
  split at hf
  · cases hf
  · next ws S1 h1 =>
    split at hf
    · next hlen =>
      cases hf
      have en : Evo φ H φ (upd H p (.dK [])) := Evo.new hp
      refine tPairs_of ha hl ⟨φ, ρ, S, ws, S1, he.evo en, hs.new hp, h1, fun vs φ1 H1 e1 s1 d1 f1 => ?_⟩
      have hpn : p ∉ φ := hs.fresh hp
      have hp1 : H1 p = some (.dK []) := e1.out p _ upd_same hpn
      refine ⟨hp1, ks.zip vs, zip_kv ks vs, Nat.le_trans (by rw [List.length_zip]; exact Nat.min_le_left _ _) h15, ?_⟩
      obtain ⟨φ2, e2, s2, d2, _⟩ := mats_ok e1 s1 d1 f1
      have hp2 : p ∉ φ2 := Evo.notin e2 upd_same hpn
      have hvl : ks.length = vs.length := by rw [Dens.len2 d1, hlen]
      have kd : KD K mg φ2 H1 (mergeK [] (ks.zip vs)) (mergeD [] ks (matsW ws S1).1) := KD.merge .nil d2 hvl
      have s3 := s2.updK (o := .dK (mergeK [] (ks.zip vs))) hp1 hp2
      have e3 : Evo φ H φ2 (upd H1 p (.dK (mergeK [] (ks.zip vs)))) := (en.trans e2).upd hp
      refine q (.ref p) (φ2 ++ [p]) _ (e3.put hp) (s3.put hp2 ⟨_, upd_same, KD.updK hp1 kd⟩) (.ref ?_) trivial
      rw [← s3.len, List.getElem?_append_right (Nat.le_refl _), Nat.sub_self]; rfl
    · cases hf

mutual
theorem pe_ok : ∀ (t : E) {df : Bool} {sc : Scope} {X : Cx} (x : XOk T cl N df sc k X) (e : Expr), okE T N t sc e = true → PE X e (tW X.K X.mg (evW T cl t))
  | .var i y, df, sc, X, x, e, h => by
    cases e with
    | Name z pos =>
      unfold okE varB at h
      simp only [Bool.and_eq_true, decide_eq_true_eq] at h
      obtain ⟨rfl, ⟨h1, h2⟩, h3⟩ := h
      exact PE.imp (pe_var (i := i) (by rw [x.xn.hN]; exact h1) (by rw [x.xn.hsc]; exact vis_of h2) (dun1 h3) (dun2 h3)) fun σ H Q hw => tW_var hw
    | _ => exact absurd h (by unfold okE; exact Bool.false_ne_true)
  | .cI i, df, sc, X, x, e, h => by
    cases e with
    | Constant c kk pos =>
      cases c with
      | int j =>
        unfold okE at h
        have := of_decide_eq_true h
        subst this
        exact PE.imp pe_int fun σ H Q hw => tW_cst (d := .int i) (fun _ _ => by unfold evW; rfl) (fun _ _ => .int i) hw
      | _ => exact absurd h (by unfold okE; exact Bool.false_ne_true)
    | _ => exact absurd h (by unfold okE; exact Bool.false_ne_true)
  | .cB b, df, sc, X, x, e, h => by
    cases e with
    | Constant c kk pos =>
      cases c with
      | bool j =>
        unfold okE at h
        have := of_decide_eq_true h
        subst this
        exact PE.imp pe_bl fun σ H Q hw => tW_cst (d := .bl b) (fun _ _ => by unfold evW; rfl) (fun _ _ => .bl b) hw
      | _ => exact absurd h (by unfold okE; exact Bool.false_ne_true)
    | _ => exact absurd h (by unfold okE; exact Bool.false_ne_true)
  | .cN, df, sc, X, x, e, h => by
    cases e with
    | Constant c kk pos =>
      cases c with
      | none => exact PE.imp pe_non fun σ H Q hw => tW_cst (d := .non) (fun _ _ => by unfold evW; rfl) (fun _ _ => .non) hw
      | _ => exact absurd h (by unfold okE; exact Bool.false_ne_true)
    | _ => exact absurd h (by unfold okE; exact Bool.false_ne_true)
  | .cS y, df, sc, X, x, e, h => by
    cases e with
    | Constant c kk pos =>
      cases c with
      | str j =>
        unfold okE at h
        have := of_decide_eq_true h
        subst this
        exact PE.imp pe_str fun σ H Q hw => tW_cst (d := .str y) (fun _ _ => by unfold evW; rfl) (fun _ _ => .str y) hw
      | _ => exact absurd h (by unfold okE; exact Bool.false_ne_true)
    | _ => exact absurd h (by unfold okE; exact Bool.false_ne_true)
  | .glob y, df, sc, X, x, e, h => by
    cases e with
    | Name z pos =>
      unfold okE at h
      simp only [Bool.and_eq_true, decide_eq_true_eq] at h
      obtain ⟨⟨⟨rfl, h1⟩, h2⟩, h3⟩ := h
      obtain ⟨d, hd⟩ := Option.isSome_iff_exists.mp h3
      obtain ⟨u, v, g1, g2, g3⟩ := x.glb y d hd
      exact PE.imp (pe_glob (by unfold Gl Env.kindOf; rw [x.xn.hsc]; exact gl_of h1) g1 g2 (dun1 h2)) fun σ H Q hw => tW_cst (d := d) (fun _ _ => by unfold evW; rw [hd]; rfl) g3 hw
    | _ => exact absurd h (by unfold okE; exact Bool.false_ne_true)
  | .bin o a b, df, sc, X, x, e, h => by
    cases e with
    | BinOp l p r pos =>
      unfold okE at h
      simp only [Bool.and_eq_true, decide_eq_true_eq] at h
      obtain ⟨⟨rfl, h1⟩, h2⟩ := h
      refine PE.imp (pe_op (opr_bin (mg := X.mg) o) (pe_ok a x l h1) (pe_ok b x r h2)) fun σ H Q hw => ?_
      refine tW_op (g := fun S x y => binW S o x y) (fun v u H Q φ S x y z s d d' e k => ⟨φ, S, x, y, z, s, d, d', e, k⟩) ?_
      unfold evW at hw
      exact hw
    | _ => exact absurd h (by unfold okE; exact Bool.false_ne_true)
  | .neg a, df, sc, X, x, e, h => by
    cases e with
    | UnaryOp op l pos =>
      cases op with
      | USub =>
        unfold okE at h
        exact PE.imp (pe_un un_neg (pe_ok a x l h)) fun σ H Q hw => tNeg_of hw
      | _ => exact absurd h (by unfold okE; exact Bool.false_ne_true)
    | _ => exact absurd h (by unfold okE; exact Bool.false_ne_true)
  | .cmp o a b, df, sc, X, x, e, h => by
    unfold okE at h
    split at h
    · next l p r pos =>
      simp only [Bool.and_eq_true, decide_eq_true_eq] at h
      obtain ⟨⟨⟨rfl, hs⟩, h1⟩, h2⟩ := h
      refine PE.imp (pe_cmpR (opr_cmp (mg := X.mg) x.u64 o) (pe_ok a x l h1) (pe_ok b x r h2) (noMark hs _)) fun σ H Q hw => ?_
      refine tW_op (g := fun S x y => (cmpW S o x y).map fun z => .d (.bl z)) (fun v u H Q φ S x y z s d d' e k => ?_) ?_
      · cases hc : cmpW S o x y with
        | none => rw [hc] at e; cases e
        | some b => rw [hc] at e; cases e; exact ⟨φ, S, x, y, b, s, d, d', hc, k.old s (.bl b)⟩
      · obtain ⟨φ, ρ, S, w, S', he, hs, hf, q⟩ := hw
        refine ⟨φ, ρ, S, w, S', he, hs, ?_, q⟩
        unfold evW at hf
        unfold ev2
        split at hf
        · cases hf
        · next x1 S1 g1 =>
          split at hf
          · cases hf
          · next y1 S2 g2 =>
            try rw [g1]
            try simp only
            try rw [g2]
            try simp only
            cases hc : cmpW S2 o x1 y1 with
            | none => rw [hc] at hf; cases hf
            | some b => rw [hc] at hf; cases hf; rfl
    · cases h
  | .chn o1 o2 a b c, df, sc, X, x, e, h => by
    unfold okE at h
    split at h
    · next l p1 p2 r q pos =>
      simp only [Bool.and_eq_true, decide_eq_true_eq] at h
      obtain ⟨⟨⟨⟨⟨rfl, rfl⟩, hs⟩, h1⟩, h2⟩, h3⟩ := h
      exact PE.imp (pe_chain (opr_cmp (mg := X.mg) x.u64 o1) (opr_cmp (mg := X.mg) x.u64 o2) (pe_ok a x l h1) (pe_ok b x r h2) (pe_ok c x q h3) (by show behindInMarks _ q = false; exact noMark hs _)) fun σ H Q hw => tChn_of hw
    · cases h
  | .not a, df, sc, X, x, e, h => by
    cases e with
    | UnaryOp op l pos =>
      cases op with
      | Not =>
        unfold okE at h
        exact PE.imp (pe_notT (pe_ok a x l h)) fun σ H Q hw => tWNot_of hw
      | _ => exact absurd h (by unfold okE; exact Bool.false_ne_true)
    | _ => exact absurd h (by unfold okE; exact Bool.false_ne_true)
  | .and as, df, sc, X, x, e, h => by
    cases e with
    | BoolOp op es pos =>
      cases op with
      | And =>
        unfold okE at h
        refine PE.imp (peand_ok as x es h) fun σ H Q hw => ?_
        unfold evW at hw
        exact hw
      | _ => exact absurd h (by unfold okE; exact Bool.false_ne_true)
    | _ => exact absurd h (by unfold okE; exact Bool.false_ne_true)
  | .or as, df, sc, X, x, e, h => by
    cases e with
    | BoolOp op es pos =>
      cases op with
      | Or =>
        unfold okE at h
        refine PE.imp (peor_ok as x es h) fun σ H Q hw => ?_
        unfold evW at hw
        exact hw
      | _ => exact absurd h (by unfold okE; exact Bool.false_ne_true)
    | _ => exact absurd h (by unfold okE; exact Bool.false_ne_true)
  | .ite t a b, df, sc, X, x, e, h => by
    cases e with
    | IfExp c l r pos =>
      unfold okE at h
      simp only [Bool.and_eq_true] at h
      refine PE.imp (pe_ifExp (pt_ok t x c h.1.1) (pe_ok a x l h.1.2) (pe_ok b x r h.2)) fun σ H Q hw => tIf_of ?_
      unfold evW at hw
      exact hw
    | _ => exact absurd h (by unfold okE; exact Bool.false_ne_true)
  | .tup as, df, sc, X, x, e, h => by
    cases e with
    | Tuple es kk pos =>
      unfold okE at h
      exact PE.imp (pe_tup (pa_ok as x es h)) fun σ H Q hw => tTup_of hw
    | _ => exact absurd h (by unfold okE; exact Bool.false_ne_true)
  | .lst as, df, sc, X, x, e, h => by
    cases e with
    | List es pos =>
      unfold okE at h
      exact PE.imp (pe_lst (pa_ok as x es h)) fun σ H Q hw => tLst_of hw
    | _ => exact absurd h (by unfold okE; exact Bool.false_ne_true)
  | .ix a i, df, sc, X, x, e, h => by
    cases e with
    | Subscript l r pos =>
      unfold okE at h
      simp only [Bool.and_eq_true] at h
      refine PE.imp (pe_ix (ixr_ix (mg := X.mg)) (pe_ok a x l h.1.2) (pe_ok i x r h.2) (plainIx h.1.1)) fun σ H Q hw => ?_
      refine tW_op (g := ixW) (fun v u H Q φ S x y z s d d' e k => ⟨φ, S, x, y, z, s, d, d', e, k⟩) ?_
      unfold evW at hw
      exact hw
    | _ => exact absurd h (by unfold okE; exact Bool.false_ne_true)
  | .dget a i, df, sc, X, x, e, h => by
    cases e with
    | Subscript l r pos =>
      unfold okE at h
      simp only [Bool.and_eq_true] at h
      exact PE.imp (pe_dget x.u1 (pe_ok a x l h.1.2) (pe_ok i x r h.2) (plainIx h.1.1)) fun σ H Q hw => tDget_of hw
    | _ => exact absurd h (by unfold okE; exact Bool.false_ne_true)
  | .slc a lo hi, df, sc, X, x, e, h => by
    unfold okE at h
    split at h
    · simp only [Bool.and_eq_true] at h
      exact PE.imp (pe_slice (slr_sl (mg := X.mg)) (pe_ok a x _ h.1.1) (po_ok lo x _ h.1.2) (po_ok hi x _ h.2)) fun σ H Q hw => tSl_of hw
    · cases h
  | .rev a, df, sc, X, x, e, h => by
    unfold okE at h
    split at h
    · simp only [Bool.and_eq_true, decide_eq_true_eq] at h
      obtain ⟨rfl, h⟩ := h
      refine ⟨fun pins s σ H Q I hw => ?_⟩
      rcases tRev_of hw with hw | hw
      · exact (pe_revL (pe_ok a x _ h)).run pins s σ H Q I hw
      · exact (ZR.pe_revT (pe_ok a x _ h)).run pins s σ H Q I hw
    · cases h
  | .call f as, df, sc, X, x, e, h => by
    unfold okE at h
    split at h
    · next g p es pos =>
      simp only [Bool.and_eq_true, decide_eq_true_eq] at h
      obtain ⟨⟨⟨⟨⟨rfl, h1⟩, h2⟩, h3⟩, h4⟩, h5⟩ := h
      cases es with
      | nil => simp at h5
      | cons e es =>
        obtain ⟨a, fd, ps, g1, g2, g3, g4, F⟩ := (x.calls f _ h3).ex
        have hst := okA_star h4
        have hst' : noStar e = true ∧ es.all noStar = true := by simpa using hst
        refine PE.imp (pe_call F x.room (by unfold Gl Env.kindOf; rw [x.xn.hsc]; exact gl_of h1) g1 g2 g3 .nil (E := E0) pass0 (pa_ok as x _ h4) (dun1 h2) (star_cons hst'.1 _ _) (noStars hst'.2 _ _)) fun σ H Q hw => ?_
        obtain ⟨φ, ρ, S, w, S', he, hs, hf, q⟩ := hw
        unfold evW at hf
        split at hf
        · cases hf
        · next ws S1 g5 => exact tcall_of he hs g5 (evs_len h4 g5) hf q
    · cases h
  | .lcall i y as, df, sc, X, x, e, h => by
    unfold okE at h
    split at h
    · next g p es pos =>
      simp only [Bool.and_eq_true, decide_eq_true_eq] at h
      obtain ⟨⟨⟨rfl, h1⟩, h4⟩, h5⟩ := h
      cases es with
      | nil => simp at h5
      | cons e es => exact pe_lcall x h1 (pa_ok as x _ h4) h4
    · cases h
  | .bi b as, df, sc, X, x, e, h => by
    unfold okE at h
    split at h
    · next g p es pos =>
      simp only [Bool.and_eq_true, decide_eq_true_eq] at h
      obtain ⟨⟨⟨⟨⟨hg, h1⟩, h2⟩, h3⟩, h4⟩, h5⟩ := h
      cases es with
      | nil => simp at h5
      | cons e es =>
        have hst := okA_star h4
        have hst' : noStar e = true ∧ es.all noStar = true := by simpa using hst
        exact PE.imp (pe_bi (callR_bi (mg := X.mg) x.xn.calm b) (by unfold Gl Env.kindOf; rw [x.xn.hsc]; exact gl_of h1) (x.blt _ h3) (by rw [hg]; exact boot_bi b) (pa_ok as x _ h4) (dun3 h2) (dun1 h2) (star_cons hst'.1 _ _) (noStars hst'.2 _ _)) fun σ H Q hw => tBi_of hw
    · cases h
  | .lc own elt p it tst, df, sc, X, x, e, h => by
    unfold okE at h
    split at h
    · next l tg iter ifs asy scope pos =>
      simp only [Bool.and_eq_true, decide_eq_true_eq] at h
      obtain ⟨⟨⟨⟨⟨⟨⟨⟨rfl, h1⟩, h2⟩, h3⟩, h4⟩, h5⟩, h6⟩, h7⟩, h8⟩ := h
      refine PE.imp (pe_lc (own := own) x.xn.calm (by rw [x.xn.hN]; exact x.xn.nd) (pi_ok it x tg iter h4 h8) (by rw [x.xn.hN, x.xn.hsc]; exact blkOk_by h1)
        (fun s H C cl' fp => pg_ok (x.blk s H scope C cl' fp).xn p tg h5) (fun s H C cl' fp => ptc_ok tst (x.blk s H scope C cl' fp) ifs h6) (fun s H C cl' fp => pe_ok elt (x.blk s H scope C cl' fp) l h7) (fun y => noFold h3 _ _)) fun σ H Q hw => tLc_of h2 hw
    · cases h
  | .app o a, df, sc, X, x, e, h => by
    unfold okE at h
    split at h
    · next l nm ap y cp =>
      simp only [Bool.and_eq_true, decide_eq_true_eq] at h
      obtain ⟨⟨⟨⟨⟨rfl, h1⟩, h2⟩, h3⟩, h4⟩, h5⟩ := h
      refine PE.imp (pe_bm PySem.F.plainAttrs_list PySem.F.slot_list_append PySem.F.type_list_append mt_append (pe_ok o x l h4) (pa_cons (pe_ok a x y h5) pa_nil (star_cons h2 _ _)) (recvBase h1 _ _ _) ?_ h3 (star_cons h2 _ _) rfl) fun σ H Q hw => tApp_of hw
      rw [star_cons h2]
      rfl
    · cases h
  | .rng _, _, _, _, _, e, h => by cases e <;> exact absurd h (by unfold okE; exact Bool.false_ne_true)
  | .enm _, _, _, _, _, e, h => by cases e <;> exact absurd h (by unfold okE; exact Bool.false_ne_true)
  | .zip _ _, _, _, _, _, e, h => by cases e <;> exact absurd h (by unfold okE; exact Bool.false_ne_true)
  | .disp ks as, df, sc, X, x, e, h => by
    unfold okE at h
    split at h
    · next keys vals pos =>
      simp only [Bool.and_eq_true, decide_eq_true_eq, Bool.not_eq_true'] at h
      obtain ⟨⟨⟨⟨h1, h2⟩, h3⟩, h4⟩, h5⟩ := h
      obtain ⟨k1, k2⟩ := okKs_len h1
      refine PE.imp (pe_disp (pps_ok as x ks keys vals h1 h2 h3) k2 (by rw [← k1]; exact h3) (fun z => ?_) (by rw [← k1]; exact h4)) fun σ H Q hw => tDisp_of h2 h3 h4 hw
      rw [z] at k1
      cases ks with
      | nil => simp at h5
      | cons _ _ => simp at k1
    · cases h
  | .tst _, _, _, _, _, e, h => by cases e <;> exact absurd h (by unfold okE; exact Bool.false_ne_true)
  | .nil, _, _, _, _, e, h => by cases e <;> exact absurd h (by unfold okE; exact Bool.false_ne_true)
  | .cons _ _, _, _, _, _, e, h => by cases e <;> exact absurd h (by unfold okE; exact Bool.false_ne_true)
theorem pt_ok : ∀ (t : E) {df : Bool} {sc : Scope} {X : Cx} (x : XOk T cl N df sc k X) (e : Expr), okT T N t sc e = true → PT X e (tT X.K X.mg (evT T cl t))
  | .not a, df, sc, X, x, e, h => by
    unfold okT at h
    split at h
    · exact PT.imp (pt_not (pt_ok a x _ h)) fun σ H Q hw => tTNot_of hw
    · cases h
  | .and as, df, sc, X, x, e, h => by
    unfold okT at h
    split at h
    · simp only [Bool.and_eq_true] at h
      refine PT.imp (pwand_ok as x _ h.1 (by simpa using h.2)).pt fun σ H Q hw => ?_
      unfold evT at hw
      exact hw
    · cases h
  | .or as, df, sc, X, x, e, h => by
    unfold okT at h
    split at h
    · simp only [Bool.and_eq_true] at h
      refine PT.imp (pwor_ok as x _ h.1 (by simpa using h.2)).pt fun σ H Q hw => ?_
      unfold evT at hw
      exact hw
    · cases h
  | .cmp o a b, df, sc, X, x, e, h => by
    unfold okT at h
    split at h
    · next l p r pos =>
      simp only [Bool.and_eq_true, decide_eq_true_eq] at h
      obtain ⟨⟨⟨rfl, hs⟩, h1⟩, h2⟩ := h
      exact PT.imp (pt_cmpR (opr_cmp (mg := X.mg) x.u64 o) (pe_ok a x l h1) (pe_ok b x r h2) (noMark hs _)) fun σ H Q hw => tCmpT_of hw
    · cases h
  | .chn o1 o2 a b c, df, sc, X, x, e, h => by
    unfold okT at h
    split at h
    · next l p1 p2 r q pos =>
      simp only [Bool.and_eq_true, decide_eq_true_eq] at h
      obtain ⟨⟨⟨⟨⟨rfl, rfl⟩, hs⟩, h1⟩, h2⟩, h3⟩ := h
      exact PT.imp (pt_chain (opr_cmp (mg := X.mg) x.u64 o1) (opr_cmp (mg := X.mg) x.u64 o2) (pe_ok a x l h1) (pe_ok b x r h2) (pe_ok c x q h3) (by show behindInMarks _ q = false; exact noMark hs _)) fun σ H Q hw => tChnT_of hw
    · cases h
  | .tst a, df, sc, X, x, e, h => by
    unfold okT at h
    simp only [Bool.and_eq_true] at h
    refine PT.imp (pt_truth (pe_ok a x e h.2) (plainTr h.1 _)) fun σ H Q hw => ?_
    refine tT_tru ?_
    unfold evT at hw
    exact hw
  | .var _ _, _, _, _, _, e, h | .cI _, _, _, _, _, e, h | .cB _, _, _, _, _, e, h | .cN, _, _, _, _, e, h | .cS _, _, _, _, _, e, h | .glob _, _, _, _, _, e, h | .bin _ _ _, _, _, _, _, e, h | .neg _, _, _, _, _, e, h | .ite _ _ _, _, _, _, _, e, h | .tup _, _, _, _, _, e, h | .lst _, _, _, _, _, e, h
  | .ix _ _, _, _, _, _, e, h | .dget _ _, _, _, _, _, e, h | .slc _ _ _, _, _, _, _, e, h | .call _ _, _, _, _, _, e, h | .lcall _ _ _, _, _, _, _, e, h | .bi _ _, _, _, _, _, e, h | .rng _, _, _, _, _, e, h | .enm _, _, _, _, _, e, h | .zip _ _, _, _, _, _, e, h | .lc _ _ _ _ _, _, _, _, _, e, h | .app _ _, _, _, _, _, e, h | .disp _ _, _, _, _, _, e, h | .rev _, _, _, _, _, e, h | .nil, _, _, _, _, e, h | .cons _ _, _, _, _, _, e, h => by unfold okT at h; cases h
theorem pwand_ok : ∀ (t : E) {df : Bool} {sc : Scope} {X : Cx} (x : XOk T cl N df sc k X) (es : List Expr) {pos : Pos}, okTs T N t sc es = true → es ≠ [] → PW X (.BoolOp .And es pos) (tT X.K X.mg (evTAnd T cl t))
  | .cons a as, df, sc, X, x, es, pos, h, hn => by
    cases es with
    | nil => exact absurd rfl hn
    | cons e es =>
      unfold okTs at h
      simp only [Bool.and_eq_true] at h
      cases es with
      | nil =>
        cases as with
        | nil =>
          refine PW.imp (pw_and1 (pt_ok a x e h.1)) fun σ H Q hw => ?_
          obtain ⟨φ, ρ, S, b, S', he, hs, hf, q⟩ := hw
          rw [evTAnd_one] at hf
          exact ⟨φ, ρ, S, b, S', he, hs, hf, q⟩
        | _ => exact absurd h.2 (by unfold okTs; exact Bool.false_ne_true)
      | cons e2 es =>
        exact PW.imp (pw_and (pt_ok a x e h.1) (pwand_ok as x (e2 :: es) h.2 (List.cons_ne_nil _ _))) fun σ H Q hw => tTAnd_of hw
  | .nil, _, _, _, _, es, _, h, hn => by
    cases es with
    | nil => exact absurd rfl hn
    | cons e es => unfold okTs at h; cases h
  | .var _ _, _, _, _, _, e, _, h, _ | .cI _, _, _, _, _, e, _, h, _ | .cB _, _, _, _, _, e, _, h, _ | .cN, _, _, _, _, e, _, h, _ | .cS _, _, _, _, _, e, _, h, _ | .glob _, _, _, _, _, e, _, h, _ | .bin _ _ _, _, _, _, _, e, _, h, _ | .neg _, _, _, _, _, e, _, h, _ | .ite _ _ _, _, _, _, _, e, _, h, _ | .tup _, _, _, _, _, e, _, h, _ | .lst _, _, _, _, _, e, _, h, _
  | .ix _ _, _, _, _, _, e, _, h, _ | .dget _ _, _, _, _, _, e, _, h, _ | .slc _ _ _, _, _, _, _, e, _, h, _ | .call _ _, _, _, _, _, e, _, h, _ | .lcall _ _ _, _, _, _, _, e, _, h, _ | .bi _ _, _, _, _, _, e, _, h, _ | .rng _, _, _, _, _, e, _, h, _ | .enm _, _, _, _, _, e, _, h, _ | .zip _ _, _, _, _, _, e, _, h, _ | .lc _ _ _ _ _, _, _, _, _, e, _, h, _ | .app _ _, _, _, _, _, e, _, h, _ | .disp _ _, _, _, _, _, e, _, h, _ | .rev _, _, _, _, _, e, _, h, _ | .tst _, _, _, _, _, e, _, h, _ | .not _, _, _, _, _, e, _, h, _ | .and _, _, _, _, _, e, _, h, _ | .or _, _, _, _, _, e, _, h, _ | .cmp _ _ _, _, _, _, _, e, _, h, _ | .chn _ _ _ _ _, _, _, _, _, e, _, h, _ => by unfold okTs at h; cases h
theorem pwor_ok : ∀ (t : E) {df : Bool} {sc : Scope} {X : Cx} (x : XOk T cl N df sc k X) (es : List Expr) {pos : Pos}, okTs T N t sc es = true → es ≠ [] → PW X (.BoolOp .Or es pos) (tT X.K X.mg (evTOr T cl t))
  | .cons a as, df, sc, X, x, es, pos, h, hn => by
    cases es with
    | nil => exact absurd rfl hn
    | cons e es =>
      unfold okTs at h
      simp only [Bool.and_eq_true] at h
      cases es with
      | nil =>
        cases as with
        | nil =>
          refine PW.imp (pw_or1 (pt_ok a x e h.1)) fun σ H Q hw => ?_
          obtain ⟨φ, ρ, S, b, S', he, hs, hf, q⟩ := hw
          rw [evTOr_one] at hf
          exact ⟨φ, ρ, S, b, S', he, hs, hf, q⟩
        | _ => exact absurd h.2 (by unfold okTs; exact Bool.false_ne_true)
      | cons e2 es =>
        exact PW.imp (pw_or (pt_ok a x e h.1) (pwor_ok as x (e2 :: es) h.2 (List.cons_ne_nil _ _))) fun σ H Q hw => tTOr_of hw
  | .nil, _, _, _, _, es, _, h, hn => by
    cases es with
    | nil => exact absurd rfl hn
    | cons e es => unfold okTs at h; cases h
  | .var _ _, _, _, _, _, e, _, h, _ | .cI _, _, _, _, _, e, _, h, _ | .cB _, _, _, _, _, e, _, h, _ | .cN, _, _, _, _, e, _, h, _ | .cS _, _, _, _, _, e, _, h, _ | .glob _, _, _, _, _, e, _, h, _ | .bin _ _ _, _, _, _, _, e, _, h, _ | .neg _, _, _, _, _, e, _, h, _ | .ite _ _ _, _, _, _, _, e, _, h, _ | .tup _, _, _, _, _, e, _, h, _ | .lst _, _, _, _, _, e, _, h, _
  | .ix _ _, _, _, _, _, e, _, h, _ | .dget _ _, _, _, _, _, e, _, h, _ | .slc _ _ _, _, _, _, _, e, _, h, _ | .call _ _, _, _, _, _, e, _, h, _ | .lcall _ _ _, _, _, _, _, e, _, h, _ | .bi _ _, _, _, _, _, e, _, h, _ | .rng _, _, _, _, _, e, _, h, _ | .enm _, _, _, _, _, e, _, h, _ | .zip _ _, _, _, _, _, e, _, h, _ | .lc _ _ _ _ _, _, _, _, _, e, _, h, _ | .app _ _, _, _, _, _, e, _, h, _ | .disp _ _, _, _, _, _, e, _, h, _ | .rev _, _, _, _, _, e, _, h, _ | .tst _, _, _, _, _, e, _, h, _ | .not _, _, _, _, _, e, _, h, _ | .and _, _, _, _, _, e, _, h, _ | .or _, _, _, _, _, e, _, h, _ | .cmp _ _ _, _, _, _, _, e, _, h, _ | .chn _ _ _ _ _, _, _, _, _, e, _, h, _ => by unfold okTs at h; cases h
theorem peand_ok : ∀ (t : E) {df : Bool} {sc : Scope} {X : Cx} (x : XOk T cl N df sc k X) (es : List Expr) {pos : Pos}, okA T N t sc es = true → PE X (.BoolOp .And es pos) (tW X.K X.mg (evAnd T cl t))
  | .cons a as, df, sc, X, x, es, pos, h => by
    cases es with
    | nil => unfold okA at h; cases h
    | cons e es =>
      unfold okA at h
      simp only [Bool.and_eq_true] at h
      cases es with
      | nil =>
        cases as with
        | nil =>
          refine PE.imp (pe_one (pe_ok a x e h.1.2)) fun σ H Q hw => ?_
          obtain ⟨φ, ρ, S, b, S', he, hs, hf, q⟩ := hw
          rw [evAnd_one] at hf
          exact ⟨φ, ρ, S, b, S', he, hs, hf, q⟩
        | _ => exact absurd h.2 (by unfold okA; exact Bool.false_ne_true)
      | cons e2 es =>
        cases as with
        | cons b bs => exact PE.imp (pe_and (pe_ok a x e h.1.2) (peand_ok (.cons b bs) x (e2 :: es) h.2)) fun σ H Q hw => tWAnd_of hw
        | _ => exact absurd h.2 (by unfold okA; exact Bool.false_ne_true)
  | .nil, _, _, _, _, es, _, h => by
    refine ⟨fun pins s σ H Q I hw => ?_⟩
    obtain ⟨φ, ρ, S, b, S', he, hs, hf, q⟩ := hw
    unfold evAnd at hf
    cases hf
  | .var _ _, _, _, _, _, e, _, h | .cI _, _, _, _, _, e, _, h | .cB _, _, _, _, _, e, _, h | .cN, _, _, _, _, e, _, h | .cS _, _, _, _, _, e, _, h | .glob _, _, _, _, _, e, _, h | .bin _ _ _, _, _, _, _, e, _, h | .neg _, _, _, _, _, e, _, h | .ite _ _ _, _, _, _, _, e, _, h | .tup _, _, _, _, _, e, _, h | .lst _, _, _, _, _, e, _, h
  | .ix _ _, _, _, _, _, e, _, h | .dget _ _, _, _, _, _, e, _, h | .slc _ _ _, _, _, _, _, e, _, h | .call _ _, _, _, _, _, e, _, h | .lcall _ _ _, _, _, _, _, e, _, h | .bi _ _, _, _, _, _, e, _, h | .rng _, _, _, _, _, e, _, h | .enm _, _, _, _, _, e, _, h | .zip _ _, _, _, _, _, e, _, h | .lc _ _ _ _ _, _, _, _, _, e, _, h | .app _ _, _, _, _, _, e, _, h | .disp _ _, _, _, _, _, e, _, h | .rev _, _, _, _, _, e, _, h | .tst _, _, _, _, _, e, _, h | .not _, _, _, _, _, e, _, h | .and _, _, _, _, _, e, _, h | .or _, _, _, _, _, e, _, h | .cmp _ _ _, _, _, _, _, e, _, h | .chn _ _ _ _ _, _, _, _, _, e, _, h => by unfold okA at h; cases h
theorem peor_ok : ∀ (t : E) {df : Bool} {sc : Scope} {X : Cx} (x : XOk T cl N df sc k X) (es : List Expr) {pos : Pos}, okA T N t sc es = true → PE X (.BoolOp .Or es pos) (tW X.K X.mg (evOr T cl t))
  | .cons a as, df, sc, X, x, es, pos, h => by
    cases es with
    | nil => unfold okA at h; cases h
    | cons e es =>
      unfold okA at h
      simp only [Bool.and_eq_true] at h
      cases es with
      | nil =>
        cases as with
        | nil =>
          refine PE.imp (pe_one (pe_ok a x e h.1.2)) fun σ H Q hw => ?_
          obtain ⟨φ, ρ, S, b, S', he, hs, hf, q⟩ := hw
          rw [evOr_one] at hf
          exact ⟨φ, ρ, S, b, S', he, hs, hf, q⟩
        | _ => exact absurd h.2 (by unfold okA; exact Bool.false_ne_true)
      | cons e2 es =>
        cases as with
        | cons b bs => exact PE.imp (pe_or (pe_ok a x e h.1.2) (peor_ok (.cons b bs) x (e2 :: es) h.2)) fun σ H Q hw => tWOr_of hw
        | _ => exact absurd h.2 (by unfold okA; exact Bool.false_ne_true)
  | .nil, _, _, _, _, es, _, h => by
    refine ⟨fun pins s σ H Q I hw => ?_⟩
    obtain ⟨φ, ρ, S, b, S', he, hs, hf, q⟩ := hw
    unfold evOr at hf
    cases hf
  | .var _ _, _, _, _, _, e, _, h | .cI _, _, _, _, _, e, _, h | .cB _, _, _, _, _, e, _, h | .cN, _, _, _, _, e, _, h | .cS _, _, _, _, _, e, _, h | .glob _, _, _, _, _, e, _, h | .bin _ _ _, _, _, _, _, e, _, h | .neg _, _, _, _, _, e, _, h | .ite _ _ _, _, _, _, _, e, _, h | .tup _, _, _, _, _, e, _, h | .lst _, _, _, _, _, e, _, h
  | .ix _ _, _, _, _, _, e, _, h | .dget _ _, _, _, _, _, e, _, h | .slc _ _ _, _, _, _, _, e, _, h | .call _ _, _, _, _, _, e, _, h | .lcall _ _ _, _, _, _, _, e, _, h | .bi _ _, _, _, _, _, e, _, h | .rng _, _, _, _, _, e, _, h | .enm _, _, _, _, _, e, _, h | .zip _ _, _, _, _, _, e, _, h | .lc _ _ _ _ _, _, _, _, _, e, _, h | .app _ _, _, _, _, _, e, _, h | .disp _ _, _, _, _, _, e, _, h | .rev _, _, _, _, _, e, _, h | .tst _, _, _, _, _, e, _, h | .not _, _, _, _, _, e, _, h | .and _, _, _, _, _, e, _, h | .or _, _, _, _, _, e, _, h | .cmp _ _ _, _, _, _, _, e, _, h | .chn _ _ _ _ _, _, _, _, _, e, _, h => by unfold okA at h; cases h
theorem pps_ok : ∀ (t : E) {df : Bool} {sc : Scope} {X : Cx} (x : XOk T cl N df sc k X) (ks : List Key) (keys : List (Option Expr)) (es : List Expr) {pos : Pos}, okKs ks keys = true → okA T N t sc es = true → ks.length = es.length → PPs X pos keys es (trsOf X.K X.mg T cl ks t)
  | .nil, df, sc, X, x, ks, keys, es, pos, h1, h2, h3 => by
    cases es with
    | cons _ _ => exact absurd h2 (by unfold okA; exact Bool.false_ne_true)
    | nil =>
      cases ks with
      | cons _ _ => simp at h3
      | nil =>
        cases keys with
        | cons _ _ => cases h1
        | nil => unfold trsOf; exact pps_nil
  | .cons a as, df, sc, X, x, ks, keys, es, pos, h1, h2, h3 => by
    cases es with
    | nil => exact absurd h2 (by unfold okA; exact Bool.false_ne_true)
    | cons e es =>
      unfold okA at h2
      simp only [Bool.and_eq_true] at h2
      cases ks with
      | nil => simp at h3
      | cons c ks =>
        obtain ⟨e0, l, rfl, g1, g2⟩ := pkey_ok (X := X) h1
        unfold trsOf
        exact pps_cons g2 (pe_ok a x e h2.1.2) (pps_ok as x ks l es g1 h2.2 (by simpa using h3))
  | .var _ _, _, _, _, _, _, _, _, _, _, h2, _ | .cI _, _, _, _, _, _, _, _, _, _, h2, _ | .cB _, _, _, _, _, _, _, _, _, _, h2, _ | .cN, _, _, _, _, _, _, _, _, _, h2, _ | .cS _, _, _, _, _, _, _, _, _, _, h2, _ | .glob _, _, _, _, _, _, _, _, _, _, h2, _ | .bin _ _ _, _, _, _, _, _, _, _, _, _, h2, _ | .neg _, _, _, _, _, _, _, _, _, _, h2, _ | .cmp _ _ _, _, _, _, _, _, _, _, _, _, h2, _ | .chn _ _ _ _ _, _, _, _, _, _, _, _, _, _, h2, _ | .not _, _, _, _, _, _, _, _, _, _, h2, _ | .and _, _, _, _, _, _, _, _, _, _, h2, _ | .or _, _, _, _, _, _, _, _, _, _, h2, _ | .ite _ _ _, _, _, _, _, _, _, _, _, _, h2, _ | .tup _, _, _, _, _, _, _, _, _, _, h2, _ | .lst _, _, _, _, _, _, _, _, _, _, h2, _ | .ix _ _, _, _, _, _, _, _, _, _, _, h2, _ | .dget _ _, _, _, _, _, _, _, _, _, _, h2, _ | .slc _ _ _, _, _, _, _, _, _, _, _, _, h2, _ | .call _ _, _, _, _, _, _, _, _, _, _, h2, _ | .lcall _ _ _, _, _, _, _, _, _, _, _, _, h2, _ | .bi _ _, _, _, _, _, _, _, _, _, _, h2, _ | .rng _, _, _, _, _, _, _, _, _, _, h2, _ | .enm _, _, _, _, _, _, _, _, _, _, h2, _ | .zip _ _, _, _, _, _, _, _, _, _, _, h2, _ | .lc _ _ _ _ _, _, _, _, _, _, _, _, _, _, h2, _ | .app _ _, _, _, _, _, _, _, _, _, _, h2, _ | .disp _ _, _, _, _, _, _, _, _, _, _, h2, _ | .tst _, _, _, _, _, _, _, _, _, _, h2, _ | .rev _, _, _, _, _, _, _, _, _, _, h2, _ => by unfold okA at h2; cases h2
theorem pa_ok : ∀ (t : E) {df : Bool} {sc : Scope} {X : Cx} (x : XOk T cl N df sc k X) (es : List Expr), okA T N t sc es = true → PA X es (tAs X.K X.mg (evs T cl t))
  | .nil, df, sc, X, x, es, h => by
    cases es with
    | nil => exact PA.imp pa_nil fun σ H Q hw => tNil_of hw
    | cons e es => unfold okA at h; cases h
  | .cons a as, df, sc, X, x, es, h => by
    cases es with
    | nil => unfold okA at h; cases h
    | cons e es =>
      unfold okA at h
      simp only [Bool.and_eq_true] at h
      exact PA.imp (pa_cons (pe_ok a x e h.1.2) (pa_ok as x es h.2) (star_cons h.1.1 _ _)) fun σ H Q hw => tCons_of hw
  | .var _ _, _, _, _, _, e, h | .cI _, _, _, _, _, e, h | .cB _, _, _, _, _, e, h | .cN, _, _, _, _, e, h | .cS _, _, _, _, _, e, h | .glob _, _, _, _, _, e, h | .bin _ _ _, _, _, _, _, e, h | .neg _, _, _, _, _, e, h | .ite _ _ _, _, _, _, _, e, h | .tup _, _, _, _, _, e, h | .lst _, _, _, _, _, e, h
  | .ix _ _, _, _, _, _, e, h | .dget _ _, _, _, _, _, e, h | .slc _ _ _, _, _, _, _, e, h | .call _ _, _, _, _, _, e, h | .lcall _ _ _, _, _, _, _, e, h | .bi _ _, _, _, _, _, e, h | .rng _, _, _, _, _, e, h | .enm _, _, _, _, _, e, h | .zip _ _, _, _, _, _, e, h | .lc _ _ _ _ _, _, _, _, _, e, h | .app _ _, _, _, _, _, e, h | .disp _ _, _, _, _, _, e, h | .rev _, _, _, _, _, e, h | .tst _, _, _, _, _, e, h | .not _, _, _, _, _, e, h | .and _, _, _, _, _, e, h | .or _, _, _, _, _, e, h | .cmp _ _ _, _, _, _, _, e, h | .chn _ _ _ _ _, _, _, _, _, e, h => by unfold okA at h; cases h
theorem po_ok : ∀ (t : E) {df : Bool} {sc : Scope} {X : Cx} (x : XOk T cl N df sc k X) (o : Option Expr), okO T N t sc o = true → PO X o (tO X.K X.mg (evO T cl t))
  | .nil, df, sc, X, x, o, h => by
    cases o with
    | none =>
      refine PO.imp po_none fun σ H Q hw => ?_
      obtain ⟨φ, ρ, S, b, S', he, hs, hf, q⟩ := hw
      unfold evO at hf
      cases hf
      exact q φ H (Evo.refl _ _) hs
    | some e => unfold okO at h; cases h
  | .cons a as, df, sc, X, x, o, h => by
    cases o with
    | none => unfold okO at h; cases h
    | some e =>
      unfold okO at h
      exact PO.imp (po_some (pe_ok a x e h)) fun σ H Q hw => tPart_of hw
  | .var _ _, _, _, _, _, e, h | .cI _, _, _, _, _, e, h | .cB _, _, _, _, _, e, h | .cN, _, _, _, _, e, h | .cS _, _, _, _, _, e, h | .glob _, _, _, _, _, e, h | .bin _ _ _, _, _, _, _, e, h | .neg _, _, _, _, _, e, h | .ite _ _ _, _, _, _, _, e, h | .tup _, _, _, _, _, e, h | .lst _, _, _, _, _, e, h
  | .ix _ _, _, _, _, _, e, h | .dget _ _, _, _, _, _, e, h | .slc _ _ _, _, _, _, _, e, h | .call _ _, _, _, _, _, e, h | .lcall _ _ _, _, _, _, _, e, h | .bi _ _, _, _, _, _, e, h | .rng _, _, _, _, _, e, h | .enm _, _, _, _, _, e, h | .zip _ _, _, _, _, _, e, h | .lc _ _ _ _ _, _, _, _, _, e, h | .app _ _, _, _, _, _, e, h | .disp _ _, _, _, _, _, e, h | .rev _, _, _, _, _, e, h | .tst _, _, _, _, _, e, h | .not _, _, _, _, _, e, h | .and _, _, _, _, _, e, h | .or _, _, _, _, _, e, h | .cmp _ _ _, _, _, _, _, e, h | .chn _ _ _ _ _, _, _, _, _, e, h => by unfold okO at h; cases h
theorem ptc_ok : ∀ (t : E) {df : Bool} {sc : Scope} {X : Cx} (x : XOk T cl N df sc k X) (es : List Expr), okC T N t sc es = true → PTs X es (tT X.K X.mg (evC T cl t))
  | .nil, df, sc, X, x, es, h => by
    cases es with
    | nil =>
      refine PTs.imp pts_nil fun σ H Q hw => ?_
      obtain ⟨φ, ρ, S, b, S', he, hs, hf, q⟩ := hw
      unfold evC at hf
      cases hf
      exact q φ H (Evo.refl _ _) hs
    | cons e es => unfold okC at h; cases h
  | .cons a as, df, sc, X, x, es, h => by
    cases es with
    | nil => unfold okC at h; cases h
    | cons e es =>
      cases es with
      | nil =>
        unfold okC at h
        refine PTs.imp (pts_one (pt_ok a x e h)) fun σ H Q hw => ?_
        unfold evC at hw
        exact hw
      | cons e2 es => unfold okC at h; cases h
  | .var _ _, _, _, _, _, e, h | .cI _, _, _, _, _, e, h | .cB _, _, _, _, _, e, h | .cN, _, _, _, _, e, h | .cS _, _, _, _, _, e, h | .glob _, _, _, _, _, e, h | .bin _ _ _, _, _, _, _, e, h | .neg _, _, _, _, _, e, h | .ite _ _ _, _, _, _, _, e, h | .tup _, _, _, _, _, e, h | .lst _, _, _, _, _, e, h
  | .ix _ _, _, _, _, _, e, h | .dget _ _, _, _, _, _, e, h | .slc _ _ _, _, _, _, _, e, h | .call _ _, _, _, _, _, e, h | .lcall _ _ _, _, _, _, _, e, h | .bi _ _, _, _, _, _, e, h | .rng _, _, _, _, _, e, h | .enm _, _, _, _, _, e, h | .zip _ _, _, _, _, _, e, h | .lc _ _ _ _ _, _, _, _, _, e, h | .app _ _, _, _, _, _, e, h | .disp _ _, _, _, _, _, e, h | .rev _, _, _, _, _, e, h | .tst _, _, _, _, _, e, h | .not _, _, _, _, _, e, h | .and _, _, _, _, _, e, h | .or _, _, _, _, _, e, h | .cmp _ _ _, _, _, _, _, e, h | .chn _ _ _ _ _, _, _, _, _, e, h => by unfold okC at h; cases h
theorem pi_ok : ∀ (t : E) {df : Bool} {sc : Scope} {X : Cx} (x : XOk T cl N df sc k X) (tg e : Expr), okI T N t sc e = true → (match tg with | .Tuple _ _ _ => true | _ => !needTup t) = true → PI X tg e (tI X.K X.mg (evI T cl t))
  | .rng as, df, sc, X, x, tg, e, h, ht => by
    unfold okI at h
    split at h
    · next g p es pos =>
      simp only [Bool.and_eq_true, Bool.or_eq_true, decide_eq_true_eq] at h
      obtain ⟨⟨⟨⟨rfl, h1⟩, h2⟩, h3⟩, h4⟩ := h
      have hg : Gl X rgName := by unfold Gl Env.kindOf; rw [x.xn.hsc]; exact gl_of h1
      have hm := x.blt _ h2
      have hst := okA_star h3
      have ha := pa_ok as x es h3
      have hn : ∀ ρ S ws S', evs T cl as ρ S = some (ws, S') → ws.length = es.length := fun ρ S ws S' hh => evs_len h3 hh
      clear h3
      match es, h4, hst, ha, hn with
      | [a], _, hst, ha, hn =>
        refine PI.imp (pi_range1 hg hm ha (star1 (by simpa using hst) _)) fun σ H R hw => ?_
        rcases tI_rng hn hw with ⟨z, hw⟩ | ⟨z, hw⟩ | ⟨z, hw⟩
        · exact hw
        · cases z
        · cases z
      | [a, b], _, hst, ha, hn =>
        have hst' : noStar a = true ∧ noStar b = true := by simpa using hst
        refine PI.imp (pi_range2 hg hm ha (star2 hst'.1 hst'.2 _) (star1 hst'.2 _)) fun σ H R hw => ?_
        rcases tI_rng hn hw with ⟨z, hw⟩ | ⟨z, hw⟩ | ⟨z, hw⟩
        · cases z
        · exact hw
        · cases z
      | [a, b, c], _, hst, ha, hn =>
        have hst' : noStar a = true ∧ noStar b = true ∧ noStar c = true := by simpa using hst
        refine PI.imp (pi_range3 hg hm ha (star_cons hst'.1 _ _) (noStars (by simp [hst'.2.1, hst'.2.2]) _ _)) fun σ H R hw => ?_
        rcases tI_rng hn hw with ⟨z, hw⟩ | ⟨z, hw⟩ | ⟨z, hw⟩
        · cases z
        · cases z
        · exact hw
      | [], h4, _, _, _ => simp at h4
      | _ :: _ :: _ :: _ :: _, h4, _, _, _ => simp at h4
    · cases h
  | .enm a, df, sc, X, x, tg, e, h, ht => by
    unfold okI at h
    split at h
    · next g p e1 pos =>
      simp only [Bool.and_eq_true, decide_eq_true_eq] at h
      obtain ⟨⟨⟨⟨rfl, h1⟩, h2⟩, h3⟩, h4⟩ := h
      have hg : Gl X enName := by unfold Gl Env.kindOf; rw [x.xn.hsc]; exact gl_of h1
      have ha : PA X [e1] (tCons (tW X.K X.mg (evW T cl a)) tNil) := pa_cons (pe_ok a x e1 h4) pa_nil (star_cons h3 _ _)
      cases tg with
      | Tuple es kk tpos =>
        exact PI.imp (PI.or (pi_enum hg (x.blt _ h2) ha (star1 h3 _)) (ZE.pi_enumT hg (x.blt _ h2) ha (star1 h3 _))) fun σ H R hw => tI_enm hw
      | _ => simp [needTup] at ht
    · cases h
  | .zip a b, df, sc, X, x, tg, e, h, ht => by
    unfold okI at h
    split at h
    · next g p e1 e2 pos =>
      simp only [Bool.and_eq_true, decide_eq_true_eq] at h
      obtain ⟨⟨⟨⟨⟨⟨rfl, h1⟩, h2⟩, h3⟩, h4⟩, h5⟩, h6⟩ := h
      have hg : Gl X zpName := by unfold Gl Env.kindOf; rw [x.xn.hsc]; exact gl_of h1
      have ha : PA X [e1, e2] (tCons (tW X.K X.mg (evW T cl a)) (tCons (tW X.K X.mg (evW T cl b)) tNil)) := pa_cons (pe_ok a x e1 h5) (pa_cons (pe_ok b x e2 h6) pa_nil (star_cons h4 _ _)) (star_cons h3 _ _)
      cases tg with
      | Tuple es kk tpos => exact PI.imp (RZ.pi_zipA hg (x.blt _ h2) ha (star_cons h3 _ _) (noStars (by simp [h4]) _ _)) fun σ H R hw => tI_zip hw
      | _ => simp [needTup] at ht
    · cases h
  | .cons a as, df, sc, X, x, tg, e, h, ht => by
    cases as with
    | nil =>
      unfold okI at h
      exact PI.imp (PI.or (pi_list (pe_ok a x e h)) (pi_tup (pe_ok a x e h))) fun σ H R hw => tI_seq hw
    | _ => unfold okI at h; cases h
  | .nil, _, _, _, _, _, _, h, _ | .var _ _, _, _, _, _, _, _, h, _ | .cI _, _, _, _, _, _, _, h, _ | .cB _, _, _, _, _, _, _, h, _ | .cN, _, _, _, _, _, _, h, _ | .cS _, _, _, _, _, _, _, h, _ | .glob _, _, _, _, _, _, _, h, _ | .bin _ _ _, _, _, _, _, _, _, h, _ | .neg _, _, _, _, _, _, _, h, _ | .ite _ _ _, _, _, _, _, _, _, h, _ | .tup _, _, _, _, _, _, _, h, _ | .lst _, _, _, _, _, _, _, h, _
  | .ix _ _, _, _, _, _, _, _, h, _ | .dget _ _, _, _, _, _, _, _, h, _ | .slc _ _ _, _, _, _, _, _, _, h, _ | .call _ _, _, _, _, _, _, _, h, _ | .lcall _ _ _, _, _, _, _, _, _, h, _ | .bi _ _, _, _, _, _, _, _, h, _ | .lc _ _ _ _ _, _, _, _, _, _, _, h, _ | .app _ _, _, _, _, _, _, _, h, _ | .disp _ _, _, _, _, _, _, _, h, _ | .rev _, _, _, _, _, _, _, h, _ | .tst _, _, _, _, _, _, _, h, _ | .not _, _, _, _, _, _, _, h, _ | .and _, _, _, _, _, _, _, h, _ | .or _, _, _, _, _, _, _, h, _ | .cmp _ _ _, _, _, _, _, _, _, h, _ | .chn _ _ _ _ _, _, _, _, _, _, _, h, _ => by unfold okI at h; cases h
end
end
end Z

set_option Elab.async false
set_option linter.all false
set_option maxRecDepth 100000
/-! Z13: statements: the evaluator, the checker. -/
namespace Z
open PySem PySem.Spec PyProof.Rows L2

inductive Sm where
  | asg (p : P) (e : E)
  | par2 (i : Nat) (x : Str) (j : Nat) (y : Str) (as : E)
  | par3 (i : Nat) (x : Str) (j : Nat) (y : Str) (l : Nat) (z : Str) (as : E)
  | setLc (i : Nat) (x : Str) (own : List (Str × Nat)) (elt : E) (p : P) (it tst : E)
  | seti (o i e : E)
  | setd (o i e : E)
  | aug (i : Nat) (x : Str) (b : Bop) (e : E)
  | expr (e : E)
  | ret (e : E) | ret0
  | ite (t : E) (a b : Sm)
  | for (p : P) (it : E) (b : Sm)
  | while (t : E) (b : Sm)
  | pass | brk | cnt | raise
  | nil
  | cons (s ss : Sm)
inductive Fl where
  | nx | bk | ct
  | rt (w : W)
abbrev EvS := Env → Sto → Option (Fl × Env × Sto)

def forLoop (g : Grd) (step : D → Env → Sto → Option (Fl × Env × Sto)) : List D → Env → Sto → Option (Fl × Env × Sto)
  | [], ρ, S => if chkG g S then some (.nx, ρ, S) else none
  | x :: xs, ρ, S => if chkG g S then match step x ρ S with
    | none => none
    | some (.nx, ρ', S') => forLoop g step xs ρ' S'
    | some (.ct, ρ', S') => forLoop g step xs ρ' S'
    | some (.bk, ρ', S') => some (.nx, ρ', S')
    | some (.rt w, ρ', S') => some (.rt w, ρ', S')
    else none
def whileLoop (t : Env → Sto → Option (Bool × Sto)) (body : EvS) : Nat → Env → Sto → Option (Fl × Env × Sto)
  | 0, _, _ => none
  | n + 1, ρ, S => match t ρ S with
    | none => none
    | some (false, S1) => some (.nx, ρ, S1)
    | some (true, S1) => match body ρ S1 with
      | none => none
      | some (.nx, ρ', S') => whileLoop t body n ρ' S'
      | some (.ct, ρ', S') => whileLoop t body n ρ' S'
      | some (.bk, ρ', S') => some (.nx, ρ', S')
      | some (.rt w, ρ', S') => some (.rt w, ρ', S')
/-- name op= value -/
def augW (o : Bop) (x : D) (y : W) : Option D :=
  match x, y with
  | .int a, .d (.int b) => match o with
    | .mul => if sm64 a || sm64 b then some (.int (a * b)) else none
    | .pow => none
    | o => (binI o a b).map .int
  | .str a, .d (.str b) => match o with
    | .add => if a.length + b.length ≤ LN then some (.str (a ++ b)) else none
    | _ => none
  | _, _ => none
section
variable (T : Tab) (cl : Calls) (F : Nat)
def evS : Sm → Env → Sto → Option (Fl × Env × Sto)
  | .asg p e, ρ, S => match evW T cl e ρ S with
    | none => none
    | some (w, S1) => (bindP p (matW w S1).1 ρ).map fun ρ' => (.nx, ρ', (matW w S1).2)
  | .par2 i _ j _ as, ρ, S => match evs T cl as ρ S with
    | none => none
    | some (ws, S1) => match (matsW ws S1).1 with
      | [a, b] => some (.nx, (ρ.set i (some a)).set j (some b), (matsW ws S1).2)
      | _ => none
  | .par3 i _ j _ l _ as, ρ, S => match evs T cl as ρ S with
    | none => none
    | some (ws, S1) => match (matsW ws S1).1 with
      | [a, b, c] => some (.nx, ((ρ.set i (some a)).set j (some b)).set l (some c), (matsW ws S1).2)
      | _ => none
  | .setLc i _ own elt p it tst, ρ, S => match evW T cl (.lc own elt p it tst) ρ S with
    | none => none
    | some (w, S1) => some (.nx, ρ.set i (some (matW w S1).1), (matW w S1).2)
  | .seti o i e, ρ, S => match evW T cl e ρ S with
    | none => none
    | some (w, S1) => match evW T cl o ρ S1 with
      | some (.d (.ref n), S2) => match evW T cl i ρ S2 with
        | some (.d (.int k), S3) => match (matW w S3).2[n]? with
          | some (.lst xs) => (ixN xs.length k).map fun j => (.nx, ρ, (matW w S3).2.set n (.lst (xs.set j (matW w S3).1)))
          | _ => none
        | _ => none
      | _ => none
  | .setd o i e, ρ, S => match evW T cl e ρ S with
    | none => none
    | some (w, S1) => match evW T cl o ρ S1 with
      | some (.d (.ref n), S2) => match evW T cl i ρ S2 with
        | some (.d kd, S3) => match (matW w S3).2[n]?, keyD kd with
          | some (.dk kvs), some k => if kvs.length < LN then some (.nx, ρ, (matW w S3).2.set n (.dk (putD kvs k (matW w S3).1))) else none
          | _, _ => none
        | _ => none
      | _ => none
  | .aug i _ b e, ρ, S => match ρ[i]? with
    | some (some x) => match evW T cl e ρ S with
      | none => none
      | some (w, S1) => (augW b x w).map fun d => (.nx, ρ.set i (some d), S1)
    | _ => none
  | .expr e, ρ, S => match evW T cl e ρ S with
    | none => none
    | some (_, S1) => some (.nx, ρ, S1)
  | .ret e, ρ, S => match evW T cl e ρ S with
    | none => none
    | some (w, S1) => some (.rt w, ρ, S1)
  | .ret0, ρ, S => some (.rt (.d .non), ρ, S)
  | .ite t a b, ρ, S => match evT T cl t ρ S with
    | none => none
    | some (true, S1) => evS a ρ S1
    | some (false, S1) => evS b ρ S1
  | .for p it b, ρ, S => match evI T cl it ρ S with
    | none => none
    | some ((xs, g), S1) => forLoop g (fun d ρ S => match bindP p d ρ with
        | none => none
        | some ρ' => evS b ρ' S) xs ρ S1
  | .while t b, ρ, S => whileLoop (evT T cl t) (evS b) F ρ S
  | .pass, ρ, S => some (.nx, ρ, S)
  | .brk, ρ, S => some (.bk, ρ, S)
  | .cnt, ρ, S => some (.ct, ρ, S)
  | .raise, _, _ => none
  | .nil, ρ, S => some (.nx, ρ, S)
  | .cons s ss, ρ, S => match evS s ρ S with
    | none => none
    | some (.nx, ρ', S') => evS ss ρ' S'
    | some r => some r
end

/-! ### the checker -/
def isTup : Expr → Bool
  | .Tuple _ _ _ => true
  | _ => false
def isLst : Expr → Bool
  | .List _ _ => true
  | _ => false
/-- a target and a value that are stored with no exchange -/
def plainAsg (tg e : Expr) : Bool := noLc e && !isLst tg && (!isTup tg || !isTup e || (match e with | .Tuple vs _ _ => vs.all (foldedForSure 8) | _ => false))
def locL (sc : Scope) (x : Str) : Bool := decide (sc.names.lookup x = some .local)
def isRaise : Stmt → Bool
  | .Raise _ _ _ => true
  | _ => false
def fnKind (sc : Scope) : Bool := decide (sc.kind = .function)
def isOne : Sm → Bool
  | .nil => false
  | .cons _ _ => false
  | _ => true
def okS (T : Tab) (N : List Str) (sc : Scope) : Sm → List Stmt → Bool
  | .nil, l => match l with
    | [] => true
    | _ => false
  | .cons s ss, l => match l with
    | st :: sts => isOne s && okS T N sc s [st] && okS T N sc ss sts
    | _ => false
  | .asg p e, l => match l with
    | [.Assign [tg] v _] => plainAsg tg v && noStar tg && okP N true sc p tg && okE T N e sc v
    | _ => false
  | .par2 i x j y as, l => match l with
    | [.Assign [.Tuple [.Name a pa, .Name b pb] _ _] (.Tuple [u, v] _ _) _] => decide (a = x) && decide (b = y) && decide (N[i]? = some x) && decide (N[j]? = some y) && decide (x ≠ y) && locL sc x && locL sc y && fnKind sc &&
        decide (pa.line = pb.line) && !([u, v].all (foldedForSure 8)) && !([u, v].all (constantsAlone 8)) && okA T N as sc [u, v]
    | _ => false
  | .par3 i x j y k z as, l => match l with
    | [.Assign [.Tuple [.Name a pa, .Name b pb, .Name c pc] _ _] (.Tuple [u, v, w] _ _) _] => decide (a = x) && decide (b = y) && decide (c = z) && decide (N[i]? = some x) && decide (N[j]? = some y) && decide (N[k]? = some z) && decide (x ≠ y) && decide (x ≠ z) && decide (y ≠ z) && locL sc x && locL sc y && locL sc z && fnKind sc &&
        decide (pa.line = pb.line) && decide (pa.line = pc.line) && !([u, v, w].all (foldedForSure 8)) && !([u, v, w].all (constantsAlone 8)) && okA T N as sc [u, v, w]
    | _ => false
  | .setLc i x own el p it tst, l => match l with
    | [.Assign [.Name a pa] (.ListComp elt gs scope lp) sp] => decide (pa.line = lp.line) && decide (a = x) && decide (N[i]? = some x) && locL sc x && fnKind sc && !(scope.names.any fun (n, k) => n == x && (k == .local || k == .cell)) && okE T N (.lc own el p it tst) sc (.ListComp elt gs scope lp)
    | _ => false
  | .seti o i e, l => match l with
    | [.Assign [.Subscript a b _] v _] => noLc v && noSlc b && okE T N o sc a && okE T N i sc b && okE T N e sc v
    | _ => false
  | .setd o i e, l => match l with
    | [.Assign [.Subscript a b _] v _] => noLc v && okE T N o sc a && okE T N i sc b && okE T N e sc v
    | _ => false
  | .aug i x b e, l => match l with
    | [.AugAssign (.Name a _) op v _] => decide (a = x) && decide (op = opOf b) && decide (N[i]? = some x) && locB true sc x && okE T N e sc v
    | _ => false
  | .expr e, l => match l with
    | [.Expr v _] => noLc v && okE T N e sc v
    | _ => false
  | .ret e, l => match l with
    | [.Return (some v) _] => okE T N e sc v
    | _ => false
  | .ret0, l => match l with
    | [.Return none _] => true
    | _ => false
  | .ite t a b, l => match l with
    | [.If c x y _] => okT T N t sc c && okS T N sc a x && okS T N sc b y
    | _ => false
  | .for p it b, l => match l with
    | [.For tg iter body [] _] => noSet iter && okI T N it sc iter && okP N true sc p tg && (match tg with | .Tuple _ _ _ => true | _ => !needTup it) && okS T N sc b body
    | _ => false
  | .while t b, l => match l with
    | [.While c body [] _] => okT T N t sc c && okS T N sc b body
    | _ => false
  | .pass, l => match l with
    | [.Pass _] => true
    | _ => false
  | .brk, l => match l with
    | [.Break _] => true
    | _ => false
  | .cnt, l => match l with
    | [.Continue _] => true
    | _ => false
  | .raise, l => match l with
    | [s] => isRaise s
    | _ => false
theorem noSwapped {tg e : Expr} (h : plainAsg tg e = true) (hs : noStar tg = true) (env : PySem.Env) (l : Nat) : swapsWithSole [tg] e l env = pure false ∧ swappedStores [tg] e env = pure none ∧ (assignEach [tg] env).map (·.2) = [assign tg env] := by
  unfold plainAsg at h
  simp only [Bool.and_eq_true, Bool.not_eq_true', Bool.or_eq_true] at h
  refine ⟨?_, ?_, ?_⟩
  · show swapsWith e (some tg) l env = pure false
    exact noSwap h.1.1 _ _ _
  · cases tg with
    | Tuple ts k p =>
      cases e with
      | Tuple vs k2 p2 =>
        have hf : vs.all (foldedForSure 8) = true := by
          rcases h.2 with (z | z) | z
          · simp [isTup] at z
          · simp [isTup] at z
          · exact z
        unfold swappedStores
        simp only [hf, if_true]
        split
        · rfl
        · split
          · rfl
          · split
            · rfl
            · rfl
      | _ => rfl
    | List ts p => simp [isLst] at h
    | _ => rfl
  · rw [asgEach hs]; rfl
end Z

set_option Elab.async false
set_option linter.all false
set_option maxRecDepth 100000
/-! Z14: statements: the evaluator is right. -/
namespace Z
open PySem PySem.Spec PyProof.Rows L2

theorem swap2 {x y : Str} {px py pt pt2 : Pos} {kt k2 : Nat} {u v : Expr} {env : PySem.Env} (hk : env.scope.kind = .function) (hu : noStar u = true) (hv : noStar v = true) (hx : env.scope.names.lookup x = some .local) (hy : env.scope.names.lookup y = some .local)
    (hl : px.line = py.line) (hn : x ≠ y) (hf : [u, v].all (foldedForSure 8) = false) (hc : [u, v].all (constantsAlone 8) = false) :
    swappedStores [.Tuple [.Name x px, .Name y py] kt pt] (.Tuple [u, v] k2 pt2) env = pure (some [x, y]) := by
  have hb : env.blockKind = .function := by unfold Env.blockKind; rw [hk]; rfl
  have kx : env.kindOf x = some .local := hx
  have ky : env.kindOf y = some .local := hy
  unfold swappedStores
  simp only [hb, hf, hc]
  simp [kx, ky, Expr.pos, hl, hn, hn.symm, List.eraseDups_cons]
  intro h
  rcases h with h | h
  · cases u <;> first | (exact Bool.noConfusion h) | (simp [noStar] at hu)
  · cases v <;> first | (exact Bool.noConfusion h) | (simp [noStar] at hv)
theorem swap3 {x y z : Str} {px py pz pt pt2 : Pos} {kt k2 : Nat} {u v w : Expr} {env : PySem.Env} (hk : env.scope.kind = .function) (hu : noStar u = true) (hv : noStar v = true) (hw : noStar w = true) (hx : env.scope.names.lookup x = some .local) (hy : env.scope.names.lookup y = some .local) (hz : env.scope.names.lookup z = some .local)
    (hl : px.line = py.line) (hl2 : px.line = pz.line) (hn : x ≠ y) (hn2 : x ≠ z) (hn3 : y ≠ z) (hf : [u, v, w].all (foldedForSure 8) = false) (hc : [u, v, w].all (constantsAlone 8) = false) :
    swappedStores [.Tuple [.Name x px, .Name y py, .Name z pz] kt pt] (.Tuple [u, v, w] k2 pt2) env = pure (some [x, y, z]) := by
  have hb : env.blockKind = .function := by unfold Env.blockKind; rw [hk]; rfl
  have kx : env.kindOf x = some .local := hx
  have ky : env.kindOf y = some .local := hy
  have kz : env.kindOf z = some .local := hz
  unfold swappedStores
  simp only [hb, hf, hc]
  simp [kx, ky, kz, Expr.pos, ← hl, ← hl2, hn, hn2, hn3, hn.symm, hn2.symm, hn3.symm, List.eraseDups_cons]
  intro h
  rcases h with h | h | h
  · cases u <;> first | (exact Bool.noConfusion h) | (simp [noStar] at hu)
  · cases v <;> first | (exact Bool.noConfusion h) | (simp [noStar] at hv)
  · cases w <;> first | (exact Bool.noConfusion h) | (simp [noStar] at hw)

section
variable (K : PySem.W.Frag) (mg : Str → Option Value)
def Fin (D : Ends) (φ : List Addr) (H : Hp) (fl : Fl) (ρ' : Env) (S' : Sto) : Prop :=
  ∀ φ' σ' H', Evo φ H φ' H' → StOk K mg φ' S' H' → EnvOk K mg φ' H' σ' ρ' → match fl with
    | .nx => D.nx σ' H'
    | .bk => D.bk σ' H'
    | .ct => D.ct σ' H'
    | .rt w => ∀ v, DenW K mg φ' H' v w → FrW H v w → D.rt v H'
def tS (f : EvS) : TS := fun D σ H => ∃ φ ρ S fl ρ' S', EnvOk K mg φ H σ ρ ∧ StOk K mg φ S H ∧ f ρ S = some (fl, ρ', S') ∧ Fin K mg D φ H fl ρ' S'
end
theorem PS.imp {X : Cx} {e : Stmt} {t t' : TS} (h : PS X e t) (hi : ∀ D σ H, t' D σ H → t D σ H) : PS X e t' := ⟨fun pins s σ H D I hw => h.run pins s σ H D I (hi _ _ _ hw)⟩
theorem PSs.imp {X : Cx} {e : List Stmt} {t t' : TS} (h : PSs X e t) (hi : ∀ D σ H, t' D σ H → t D σ H) : PSs X e t' := ⟨fun pins s σ H D I hw => h.run pins s σ H D I (hi _ _ _ hw)⟩
section
variable {K : PySem.W.Frag} {mg : Str → Option Value}
/-- onward from a later state -/
theorem Fin.after {D : Ends} {φ φ1 : List Addr} {H H1 : Hp} {fl : Fl} {ρ' : Env} {S' : Sto} (f : Fin K mg D φ H fl ρ' S') (e : Evo φ H φ1 H1) : Fin K mg D φ1 H1 fl ρ' S' := fun φ' σ' H' e' s' r' => by
  have := f φ' σ' H' (e.trans e') s' r'
  cases fl with
  | nx => exact this
  | bk => exact this
  | ct => exact this
  | rt w => exact fun v d fr => this v d (fr.back e.thr)
variable {T : Tab} {cl : Calls} {N : List Str} {k F : Nat} {sc : Scope} {X : Cx}
theorem sAsg_of {p : P} {e : E} {D : Ends} {σ : L2.St} {H : Hp} (h : tS K mg (evS T cl F (.asg p e)) D σ H) : tAsg (tW K mg (evW T cl e)) (tP K mg p) D σ H := by
  obtain ⟨φ, ρ, S, fl, ρ', S', he, hs, hf, q⟩ := h
  unfold evS at hf
  split at hf
  · cases hf
  · next w S1 h1 =>
    cases hb : bindP p (matW w S1).1 ρ with
    | none => rw [hb] at hf; cases hf
    | some ρ1 =>
      rw [hb] at hf
      cases hf
      refine ⟨φ, ρ, S, w, S1, he, hs, h1, fun v φ1 H1 e1 s1 d1 f1 => ?_⟩
      obtain ⟨φ2, e2, s2, d2, _⟩ := mat_ok (φ₀ := φ) (H₀ := H) e1 s1 d1 f1
      exact ⟨φ2, ρ, _, _, he.evo e2, d2, hb, fun σ' e' _ => q φ2 σ' H1 e2 s2 e'⟩
theorem sPar2_of {i j : Nat} {x y : Str} {as : E} {D : Ends} {σ : L2.St} {H : Hp} (h : tS K mg (evS T cl F (.par2 i x j y as)) D σ H) : tPar i j (tAs K mg (evs T cl as)) D σ H := by
  obtain ⟨φ, ρ, S, fl, ρ', S', he, hs, hf, q⟩ := h
  unfold evS at hf
  split at hf
  · cases hf
  · next ws S1 h1 =>
    split at hf
    · next a b hm =>
      cases hf
      refine ⟨φ, ρ, S, ws, S1, he, hs, h1, fun vs φ1 H1 e1 s1 d1 f1 => ?_⟩
      obtain ⟨φ2, e2, s2, d2, _⟩ := mats_ok (φ₀ := φ) (H₀ := H) e1 s1 d1 f1
      rw [hm] at d2
      cases d2 with
      | cons da d2 =>
        cases d2 with
        | cons db d2 =>
          cases d2
          exact ⟨_, _, rfl, q φ2 _ H1 e2 s2 (((he.evo e2).set i da).set j db)⟩
    · cases hf
theorem sPar3_of {i j l : Nat} {x y z : Str} {as : E} {D : Ends} {σ : L2.St} {H : Hp} (h : tS K mg (evS T cl F (.par3 i x j y l z as)) D σ H) : tPar3 i j l (tAs K mg (evs T cl as)) D σ H := by
  obtain ⟨φ, ρ, S, fl, ρ', S', he, hs, hf, q⟩ := h
  unfold evS at hf
  split at hf
  · cases hf
  · next ws S1 h1 =>
    split at hf
    · next a b c hm =>
      cases hf
      refine ⟨φ, ρ, S, ws, S1, he, hs, h1, fun vs φ1 H1 e1 s1 d1 f1 => ?_⟩
      obtain ⟨φ2, e2, s2, d2, _⟩ := mats_ok (φ₀ := φ) (H₀ := H) e1 s1 d1 f1
      rw [hm] at d2
      cases d2 with
      | cons da d2 =>
        cases d2 with
        | cons db d2 =>
          cases d2 with
          | cons dc d2 =>
            cases d2
            exact ⟨_, _, _, rfl, q φ2 _ H1 e2 s2 ((((he.evo e2).set i da).set j db).set l dc)⟩
    · cases hf
theorem sRet_of {e : E} {D : Ends} {σ : L2.St} {H : Hp} (h : tS K mg (evS T cl F (.ret e)) D σ H) : tRet (tW K mg (evW T cl e)) D σ H := by
  obtain ⟨φ, ρ, S, fl, ρ', S', he, hs, hf, q⟩ := h
  unfold evS at hf
  split at hf
  · cases hf
  · next w S1 h1 =>
    cases hf
    exact ⟨φ, ρ, S, w, _, he, hs, h1, fun v φ1 H1 e1 s1 d1 f1 => q φ1 σ H1 e1 s1 (he.evo e1) v d1 f1⟩
theorem sExpr_of {e : E} {D : Ends} {σ : L2.St} {H : Hp} (h : tS K mg (evS T cl F (.expr e)) D σ H) : tDrop (tW K mg (evW T cl e)) D σ H := by
  obtain ⟨φ, ρ, S, fl, ρ', S', he, hs, hf, q⟩ := h
  unfold evS at hf
  split at hf
  · cases hf
  · next w S1 h1 =>
    cases hf
    exact ⟨φ, ρ, S, w, _, he, hs, h1, fun v φ1 H1 e1 s1 d1 f1 => q φ1 σ H1 e1 s1 (he.evo e1)⟩
theorem sSeti_of {o i e : E} {D : Ends} {σ : L2.St} {H : Hp} (h : tS K mg (evS T cl F (.seti o i e)) D σ H) : tAsg (tW K mg (evW T cl e)) (gSub (tW K mg (evW T cl o)) (tW K mg (evW T cl i)) rSetL) D σ H := by
  obtain ⟨φ, ρ, S, fl, ρ', S', he, hs, hf, q⟩ := h
  unfold evS at hf
  split at hf
  · cases hf
  · next w S1 h1 =>
    split at hf
    · next n S2 h2 =>
      split at hf
      · next kk S3 h3 =>
        split at hf
        · next xs hx =>
          cases hj : ixN xs.length kk with
          | none => rw [hj] at hf; cases hf
          | some j =>
            rw [hj] at hf
            cases hf
            refine ⟨φ, ρ, S, w, S1, he, hs, h1, fun v φ1 H1 e1 s1 d1 f1 => ⟨φ1, ρ, S1, _, S2, he.evo e1, s1, h2, fun u φ2 H2 e2 s2 d2 f2 => ⟨φ2, ρ, S2, _, S3, (he.evo e1).evo e2, s2, h3, fun t φ3 H3 e3 s3 d3 f3 => ?_⟩⟩⟩
            have e123 := (e1.trans e2).trans e3
            obtain ⟨φ4, e4, s4, d4, hφ⟩ := mat_ok (φ₀ := φ) (H₀ := H) e123 s3 ((d1.evo e2).evo e3) f1
            cases (show Den K mg φ3 H3 t (.int kk) from d3)
            cases (show Den K mg φ2 H2 u (.ref n) from d2) with
            | @ref a _ hn =>
              have hn3 := e3.pre hn
              have hn4 : φ4[n]? = some a := by
                rcases hφ with rfl | ⟨b, zs, _, _, rfl⟩
                · exact hn3
                · have hlt : n < φ3.length := by
                    rcases Nat.lt_or_ge n φ3.length with z | z
                    · exact z
                    · rw [List.getElem?_eq_none z] at hn3; cases hn3
                  rw [List.getElem?_append_left hlt]
                  exact hn3
              obtain ⟨vs, g2, g3⟩ := s4.obj _ _ _ hn4 hx
              refine ⟨a, vs, kk, j, rfl, rfl, g2, by rw [g3.length]; exact hj, ?_⟩
              exact q φ4 σ _ (e4.trans (Evo.write s4 (List.mem_of_getElem? hn4))) (s4.write hn4 ⟨_, upd_same, Dens.upd g2 (g3.set j d4)⟩) (he.evo (e4.trans (Evo.write s4 (List.mem_of_getElem? hn4))))
        · cases hf
      · cases hf
    · cases hf
end
end Z

set_option Elab.async false
set_option linter.all false
set_option maxRecDepth 100000
/-! Z15: statements: the evaluator is right. -/
namespace Z
open PySem PySem.Spec PyProof.Rows L2
section
variable {K : PySem.W.Frag} {mg : Str → Option Value} {φ : List Addr} {H : Hp}
theorem pre_of {φ3 φ4 : List Addr} {n : Nat} {a : Addr} {t : V} {w : W} (hn3 : φ3[n]? = some a) (hφ : φ4 = φ3 ∨ ∃ b xs, t = .ref b ∧ w = .tmp xs ∧ φ4 = φ3 ++ [b]) : φ4[n]? = some a := by
  rcases hφ with rfl | ⟨b, zs, _, _, rfl⟩
  · exact hn3
  · have hlt : n < φ3.length := by
      rcases Nat.lt_or_ge n φ3.length with z | z
      · exact z
      · rw [List.getElem?_eq_none z] at hn3; cases hn3
    rw [List.getElem?_append_left hlt]
    exact hn3
variable {T : Tab} {cl : Calls} {N : List Str} {k F : Nat}
theorem sSetd_of {o i e : E} {D : Ends} {σ : L2.St} {H : Hp} (h : tS K mg (evS T cl F (.setd o i e)) D σ H) : sDPut (tW K mg (evW T cl o)) (tW K mg (evW T cl i)) (tW K mg (evW T cl e)) D σ H := by
  obtain ⟨φ, ρ, S, fl, ρ', S', he, hs, hf, q⟩ := h
  unfold evS at hf
  split at hf
  · cases hf
  · next w S1 h1 =>
    split at hf
    · next n S2 h2 =>
      split at hf
      · next kd S3 h3 =>
        split at hf
        · next kvs k hx hk =>
          split at hf
          · next hl =>
            cases hf
            refine ⟨φ, ρ, S, w, S1, he, hs, h1, fun v φ1 H1 e1 s1 d1 f1 => ⟨φ1, ρ, S1, _, S2, he.evo e1, s1, h2, fun u φ2 H2 e2 s2 d2 f2 => ⟨φ2, ρ, S2, _, S3, (he.evo e1).evo e2, s2, h3, fun t φ3 H3 e3 s3 d3 f3 => ?_⟩⟩⟩
            have e123 := (e1.trans e2).trans e3
            obtain ⟨φ4, e4, s4, d4, hφ⟩ := mat_ok (φ₀ := φ) (H₀ := H) e123 s3 ((d1.evo e2).evo e3) f1
            have ht := keyD_ok (show Den K mg φ3 H3 t kd from d3) hk
            subst ht
            cases (show Den K mg φ2 H2 u (.ref n) from d2) with
            | @ref a _ hn =>
              have hn4 : φ4[n]? = some a := pre_of (e3.pre hn) hφ
              obtain ⟨vs, g2, g3⟩ := s4.obj _ _ _ hn4 hx
              have hm := List.mem_of_getElem? hn4
              refine ⟨a, _, rfl, DPut.k g2 (by rw [Paired.length g3]; exact LN_lt hl), ?_⟩
              exact q φ4 σ _ (e4.trans (Evo.write s4 hm)) (s4.write hn4 ⟨_, upd_same, (KD.put g3 d4).evo (Evo.write s4 hm)⟩) (he.evo (e4.trans (Evo.write s4 hm)))
          · cases hf
        · cases hf
      · cases hf
    · cases hf
end
/-! ### name op= value -/
def vAug (K : PySem.W.Frag) (mg : Str → Option Value) (o : Bop) : TIp := fun v u H Q => ∃ φ x y z, Den K mg φ H v x ∧ DenW K mg φ H u y ∧ augW o x y = some z ∧ ∀ t, Den K mg φ H t z → Q t H
section
variable {X : Cx} {mg : Str → Option Value}
theorem augI_ok (o : Bop) (ho : o ≠ .mul) (hp : o ≠ .pow) {a b c : Int} (h : binI o a b = some c) {pins : List (Addr × Obj)} {s : Shared} {σ : L2.St} {H : Hp} {v u : Value} {Q : VK} (I : Inv X pins σ H s) (rx : RelV (.int a) v) (ry : RelV (.int b) u) (q : Q (.int c) H) :
    wpAny (model X.prog X.w) X.A (inplaceOp (opOf o) v u) (EP X pins σ Q) X.xe s := by
  cases o with
  | add => cases h; exact iop_add pins s σ H _ _ v u Q I rx ry ⟨a, b, rfl, rfl, q⟩
  | sub => cases h; exact iop_sub pins s σ H _ _ v u Q I rx ry ⟨a, b, rfl, rfl, q⟩
  | mul => exact absurd rfl ho
  | pow => exact absurd rfl hp
  | fdiv =>
    unfold binI at h
    simp only at h
    split at h
    · next hc =>
      cases h
      unfold divOk at hc
      simp only [Bool.and_eq_true, decide_eq_true_eq] at hc
      exact iop_fdivW pins s σ H _ _ v u Q I rx ry ⟨a, b, rfl, rfl, ⟨hc.1, by have := big_log hc.2; omega⟩, q⟩
    · cases h
  | mod =>
    unfold binI at h
    simp only at h
    split at h
    · next hc => cases h; exact iop_mod pins s σ H _ _ v u Q I rx ry ⟨a, b, rfl, rfl, of_decide_eq_true hc, q⟩
    · cases h
  | shl =>
    unfold binI at h
    simp only at h
    split at h
    · next hc =>
      cases h
      unfold powOk at hc
      simp only [Bool.and_eq_true, decide_eq_true_eq] at hc
      exact iop_shl pins s σ H _ _ v u Q I rx ry ⟨a, b, rfl, rfl, ⟨hc.1.1, hc.1.2, hc.2⟩, q⟩
    · cases h
  | shr =>
    unfold binI at h
    simp only at h
    split at h
    · next hc => cases h; exact iop_shr pins s σ H _ _ v u Q I rx ry ⟨a, b, rfl, rfl, of_decide_eq_true hc, q⟩
    · cases h
  | band => cases h; exact iop_and pins s σ H _ _ v u Q I rx ry ⟨a, b, rfl, rfl, q⟩
  | bor => cases h; exact iop_or pins s σ H _ _ v u Q I rx ry ⟨a, b, rfl, rfl, q⟩
  | bxor => cases h; exact iop_xor pins s σ H _ _ v u Q I rx ry ⟨a, b, rfl, rfl, q⟩
theorem pip_aug (o : Bop) : PIp X (opOf o) (vAug X.K mg o) := by
  intro pins s σ H vx vy v u Q I rx ry h
  obtain ⟨φ, x, y, z, hx, hy, e, q⟩ := h
  unfold augW at e
  split at e
  · next a b =>
    cases hx
    cases (show Den X.K mg φ H vy (.int b) from hy)
    split at e
    · split at e
      · next hc =>
        cases e
        unfold sm64 at hc
        simp only [Bool.or_eq_true, Bool.and_eq_true, decide_eq_true_eq] at hc
        exact iop_mul pins s σ H _ _ v u Q I rx ry ⟨a, b, rfl, rfl, hc, q _ (.int _)⟩
      · cases e
    · cases e
    · next o' h1 h2 =>
      cases hc : binI o a b with
      | none => rw [hc] at e; cases e
      | some c =>
        rw [hc] at e
        cases e
        exact augI_ok o (fun z => h1 z) (fun z => h2 z) hc I rx ry (q _ (.int c))
  · next a b =>
    cases hx
    cases (show Den X.K mg φ H vy (.str b) from hy)
    split at e
    · split at e
      · next hl => cases e; exact iop_add_str pins s σ H _ _ v u Q I rx ry ⟨a, b, rfl, rfl, LN_le hl, q _ (.str _)⟩
      · cases e
    · cases e
  · cases e
end
section
variable {K : PySem.W.Frag} {mg : Str → Option Value} {T : Tab} {cl : Calls} {N : List Str} {k F : Nat}
theorem sAug_of {i : Nat} {x : Str} {b : Bop} {e : E} {D : Ends} {σ : L2.St} {H : Hp} (h : tS K mg (evS T cl F (.aug i x b e)) D σ H) : tAug i (tW K mg (evW T cl e)) (vAug K mg b) D σ H := by
  obtain ⟨φ, ρ, S, fl, ρ', S', he, hs, hf, q⟩ := h
  unfold evS at hf
  split at hf
  · next x hx =>
    split at hf
    · cases hf
    · next w S1 h1 =>
      cases ha : augW b x w with
      | none => rw [ha] at hf; cases hf
      | some d =>
        rw [ha] at hf
        cases hf
        obtain ⟨v, hσ, dv⟩ := he.at' i x hx
        exact ⟨v, hσ, φ, ρ, S, w, _, he, hs, h1, fun u φ1 H1 e1 s1 d1 f1 => ⟨φ1, x, w, d, dv.evo e1, d1, ha, fun t dt => q φ1 _ H1 e1 s1 ((he.evo e1).set i dt)⟩⟩
  · cases hf
theorem sIf_of {t : E} {a b : Sm} {D : Ends} {σ : L2.St} {H : Hp} (h : tS K mg (evS T cl F (.ite t a b)) D σ H) : tIfS (tT K mg (evT T cl t)) (tS K mg (evS T cl F a)) (tS K mg (evS T cl F b)) D σ H := by
  obtain ⟨φ, ρ, S, fl, ρ', S', he, hs, hf, q⟩ := h
  unfold evS at hf
  split at hf
  · cases hf
  · next S1 h1 => exact ⟨φ, ρ, S, true, S1, he, hs, h1, fun φ1 H1 e1 s1 => iteT ⟨φ1, ρ, S1, fl, ρ', S', he.evo e1, s1, hf, q.after e1⟩⟩
  · next S1 h1 => exact ⟨φ, ρ, S, false, S1, he, hs, h1, fun φ1 H1 e1 s1 => iteF ⟨φ1, ρ, S1, fl, ρ', S', he.evo e1, s1, hf, q.after e1⟩⟩
theorem sSeq_of {s ss : Sm} {D : Ends} {σ : L2.St} {H : Hp} (h : tS K mg (evS T cl F (.cons s ss)) D σ H) : tSeq (tS K mg (evS T cl F s)) (tS K mg (evS T cl F ss)) D σ H := by
  obtain ⟨φ, ρ, S, fl, ρ', S', he, hs, hf, q⟩ := h
  unfold evS at hf
  split at hf
  · cases hf
  · next ρ1 S1 h1 => exact ⟨φ, ρ, S, .nx, ρ1, S1, he, hs, h1, fun φ1 σ1 H1 e1 s1 r1 => ⟨φ1, ρ1, S1, fl, ρ', S', r1, s1, hf, q.after e1⟩⟩
  · next r hn h1 =>
    cases hf
    refine ⟨φ, ρ, S, fl, ρ', S', he, hs, h1, fun φ1 σ1 H1 e1 s1 r1 => ?_⟩
    have := q φ1 σ1 H1 e1 s1 r1
    cases fl with
    | nx => exact absurd rfl (hn _ _)
    | bk => exact this
    | ct => exact this
    | rt w => exact this
def ForN (K : PySem.W.Frag) (mg : Str → Option Value) (φ1 : List Addr) (H1 : Hp) (g : Grd) (step : Z.D → Env → Sto → Option (Fl × Env × Sto)) (xs : List Z.D) (fl : Fl) (ρ' : Env) (S' : Sto) : L2.St → Hp → Prop :=
  fun σ' H' => ∃ φi ρi Si, Evo φ1 H1 φi H' ∧ StOk K mg φi Si H' ∧ EnvOk K mg φi H' σ' ρi ∧ forLoop g step xs ρi Si = some (fl, ρ', S')
theorem sFor_of {p : P} {it : E} {b : Sm} {D : Ends} {σ : L2.St} {H : Hp} (h : tS K mg (evS T cl F (.for p it b)) D σ H) : tFor (tI K mg (evI T cl it)) (tP K mg p) (tS K mg (evS T cl F b)) D σ H := by
  obtain ⟨φ, ρ, S, fl, ρ', S', he, hs, hf, q⟩ := h
  unfold evS at hf
  split at hf
  · cases hf
  · next xs g S1 h1 =>
    generalize hstep : (fun (d : Z.D) (ρ : Env) (S : Sto) => match bindP p d ρ with
        | none => none
        | some ρ' => evS T cl F b ρ' S) = step at hf
    refine ⟨φ, ρ, S, xs, g, S1, he, hs, h1, fun J φ1 H1 e1 s1 wk => ?_⟩
    have q1 := q.after e1
    refine ⟨fun i m σi Hi => i ≤ xs.length ∧ m = xs.length - i ∧ ∃ φi ρi Si, Evo φ1 H1 φi Hi ∧ StOk K mg φi Si Hi ∧ EnvOk K mg φi Hi σi ρi ∧ forLoop g step (xs.drop i) ρi Si = some (fl, ρ', S'),
      ⟨xs.length, Nat.zero_le _, by simp, φ1, ρ, S1, Evo.refl _ _, s1, he.evo e1, hf⟩, ?_⟩
    rintro i m σi Hi ⟨hi, rfl, φi, ρi, Si, ei, si, ri, hl⟩
    by_cases hlt : i < xs.length
    · have hx : xs[i]? = some xs[i] := by simp [hlt]
      rw [List.drop_eq_getElem_cons hlt] at hl
      unfold forLoop at hl
      split at hl
      · next hc =>
        refine .inr ⟨wk.go i φi Si Hi hlt ei si hc, ForN K mg φ1 H1 g step (xs.drop (i + 1)) fl ρ' S',
          fun σ' H' hN => ⟨xs.length - (i + 1), by omega, by omega, rfl, hN⟩, fun x H2 hy => ?_⟩
        obtain ⟨d, hd, e2, s2, dx⟩ := wk.yld i φi Si Hi x H2 hlt ei si hc hy
        rw [hx] at hd
        cases hd
        have go : ∀ {flb : Fl} {ρb : Env} {Sb : Sto}, step xs[i] ρi Si = some (flb, ρb, Sb) →
            Fin K mg { D with nx := ForN K mg φ1 H1 g step (xs.drop (i + 1)) fl ρ' S', ct := ForN K mg φ1 H1 g step (xs.drop (i + 1)) fl ρ' S', bk := D.nx } φi H2 flb ρb Sb →
            tP K mg p x σi H2 fun σ2 H2' => tS K mg (evS T cl F b) { D with nx := ForN K mg φ1 H1 g step (xs.drop (i + 1)) fl ρ' S', ct := ForN K mg φ1 H1 g step (xs.drop (i + 1)) fl ρ' S', bk := D.nx } σ2 H2' := fun {flb ρb Sb} h3 hfin => by
          rw [← hstep] at h3
          simp only at h3
          split at h3
          · cases h3
          · next ρ2 hb => exact ⟨φi, ρi, xs[i], ρ2, ri.evo e2, dx, hb, fun σ2 hσ2 _ => ⟨φi, ρ2, Si, flb, ρb, Sb, hσ2, s2, h3, hfin⟩⟩
        split at hl
        · cases hl
        · next ρb Sb h3 => exact go h3 fun φ3 σ3 H3 e3 s3 r3 => ⟨φ3, ρb, Sb, (ei.trans e2).trans e3, s3, r3, hl⟩
        · next ρb Sb h3 => exact go h3 fun φ3 σ3 H3 e3 s3 r3 => ⟨φ3, ρb, Sb, (ei.trans e2).trans e3, s3, r3, hl⟩
        · next ρb Sb h3 =>
          cases hl
          exact go h3 fun φ3 σ3 H3 e3 s3 r3 => q1 φ3 σ3 H3 ((ei.trans e2).trans e3) s3 r3
        · next w ρb Sb h3 =>
          cases hl
          exact go h3 fun φ3 σ3 H3 e3 s3 r3 v dv fv => q1 φ3 σ3 H3 ((ei.trans e2).trans e3) s3 r3 v dv (fv.back (ei.trans e2).thr)
      · cases hl
    · have hi' : i = xs.length := by omega
      subst hi'
      rw [List.drop_length] at hl
      unfold forLoop at hl
      split at hl
      · next hc =>
        cases hl
        exact .inl ⟨wk.stop φi _ Hi ei si hc, q1 φi σi Hi ei si ri⟩
      · cases hl
theorem sWhile_of {t : E} {b : Sm} {D : Ends} {σ : L2.St} {H : Hp} (h : tS K mg (evS T cl F (.while t b)) D σ H) : tWhile (tT K mg (evT T cl t)) (tS K mg (evS T cl F b)) D σ H := by
  obtain ⟨φ, ρ, S, fl, ρ', S', he, hs, hf, q⟩ := h
  unfold evS at hf
  refine ⟨fun m σi Hi => ∃ φi ρi Si, Evo φ H φi Hi ∧ StOk K mg φi Si Hi ∧ EnvOk K mg φi Hi σi ρi ∧ whileLoop (evT T cl t) (evS T cl F b) m ρi Si = some (fl, ρ', S'), ⟨F, φ, ρ, S, Evo.refl _ _, hs, he, hf⟩, ?_⟩
  rintro m σi Hi ⟨φi, ρi, Si, ei, si, ri, hl⟩
  cases m with
  | zero => unfold whileLoop at hl; cases hl
  | succ m =>
    unfold whileLoop at hl
    split at hl
    · cases hl
    · next S1 h1 =>
      cases hl
      exact ⟨φi, _, Si, false, _, ri, si, h1, fun φ1 H1 e1 s1 => iteF (q φ1 σi H1 (ei.trans e1) s1 (ri.evo e1))⟩
    · next S1 h1 =>
      refine ⟨φi, ρi, Si, true, S1, ri, si, h1, fun φ1 H1 e1 s1 => iteT ⟨fun σ' H' => ∃ φi ρi Si, Evo φ H φi H' ∧ StOk K mg φi Si H' ∧ EnvOk K mg φi H' σ' ρi ∧ whileLoop (evT T cl t) (evS T cl F b) m ρi Si = some (fl, ρ', S'),
        fun σ' H' hN => ⟨m, Nat.lt_succ_self m, hN⟩, ?_⟩⟩
      have e01 := ei.trans e1
      split at hl
      · cases hl
      · next ρb Sb h3 => exact ⟨φ1, ρi, S1, .nx, ρb, Sb, ri.evo e1, s1, h3, fun φ3 σ3 H3 e3 s3 r3 => ⟨φ3, ρb, Sb, e01.trans e3, s3, r3, hl⟩⟩
      · next ρb Sb h3 => exact ⟨φ1, ρi, S1, .ct, ρb, Sb, ri.evo e1, s1, h3, fun φ3 σ3 H3 e3 s3 r3 => ⟨φ3, ρb, Sb, e01.trans e3, s3, r3, hl⟩⟩
      · next ρb Sb h3 =>
        cases hl
        exact ⟨φ1, ρi, S1, .bk, _, _, ri.evo e1, s1, h3, fun φ3 σ3 H3 e3 s3 r3 => q φ3 σ3 H3 (e01.trans e3) s3 r3⟩
      · next w ρb Sb h3 =>
        cases hl
        exact ⟨φ1, ρi, S1, .rt w, _, _, ri.evo e1, s1, h3, fun φ3 σ3 H3 e3 s3 r3 v dv fv => q φ3 σ3 H3 (e01.trans e3) s3 r3 v dv (fv.back e01.thr)⟩
end
end Z

set_option Elab.async false
set_option linter.all false
set_option maxRecDepth 100000
/-! Z16: statements, defs, the calls' table: the evaluator is right. -/
namespace Z
open PySem PySem.Spec PyProof.Rows L2
section
variable {T : Tab} {cl : Calls} {N : List Str} {k F : Nat}
/-- within a def's body -/
structure XS (T : Tab) (cl : Calls) (N : List Str) (sc : Scope) (k : Nat) (X : Cx) : Prop where
  x : XOk T cl N true sc k X
  nx : X.xe = fun _ _ => False
theorem XS.po {sc : Scope} {X : Cx} (x : XS T cl N sc k X) : PassesOwn (model X.prog X.w) X.A X.env X.xe := by rw [x.nx]; exact PassesOwn.never
theorem loc_of {df : Bool} {sc : Scope} {X : Cx} (x : XOk T cl N true sc k X) {y : Str} (h : locB true sc y = true) : Loc X.env.scope y ∧ (X.fn y = true ∨ X.env.scope.names.lookup y = some .local) := by
  rw [x.xn.hsc]
  unfold locB at h
  split at h
  · next q => exact ⟨.inl q, .inr q⟩
  · next q => exact ⟨.inr q, .inl (x.xn.df rfl y)⟩
  · cases h
theorem asgSub {i : Expr} (h : noSlc i = true) {o : Expr} {pos : Pos} (env : PySem.Env) : ∀ v, assign (.Subscript o i pos) env v = (do
      let ov ← holding [v] (eval o env)
      let iv ← holding [v, ov] (eval i env)
      standAt pos
      holding [v, ov, iv] (setItem ov iv v)
      release [v, ov, iv] []) := by
  intro v
  cases i <;> first | rfl | (simp [noSlc] at h)
theorem swSole {e : Expr} (h : noLc e = true) (t : Expr) (l : Nat) (env : PySem.Env) : swapsWithSole [t] e l env = pure false := noSwap h _ _ _
theorem sLc_of {K : PySem.W.Frag} {mg : Str → Option Value} {i : Nat} {x : Str} {own : List (Str × Nat)} {elt it tst : E} {p : P} {D : Ends} {σ : L2.St} {H : Hp} (ho : ownOk own p = true) (h : tS K mg (evS T cl F (.setLc i x own elt p it tst)) D σ H) :
    tAsg (tLc (tI K mg (evI T cl it)) (tP K mg p) (tT K mg (evC T cl tst)) (tW K mg (evW T cl elt)) (own.map (·.2))) (gName i) D σ H := by
  refine tLc_of (Q := fun x H1 => D.nx (σ.set i (some x)) H1) ho ?_
  obtain ⟨φ, ρ, S, fl, ρ', S', he, hs, hf, q⟩ := h
  unfold evS at hf
  split at hf
  · cases hf
  · next w S1 h1 =>
    cases hf
    refine ⟨φ, ρ, S, w, S1, he, hs, h1, fun v φ1 H1 e1 s1 d1 f1 => ?_⟩
    obtain ⟨φ2, e2, s2, d2, _⟩ := mat_ok (φ₀ := φ) (H₀ := H) e1 s1 d1 f1
    exact q φ2 _ H1 e2 s2 ((he.evo e2).set i d2)
def Both (T : Tab) (cl : Calls) (F : Nat) (N : List Str) (sc : Scope) (X : Cx) (s : Sm) : Prop :=
  (isOne s = true → ∀ st, okS T N sc s [st] = true → PS X st (tS X.K X.mg (evS T cl F s))) ∧ (∀ l, okS T N sc s l = true → PSs X l (tS X.K X.mg (evS T cl F s)))
theorem both {sc : Scope} {X : Cx} {s : Sm} (h : ∀ st, okS T N sc s [st] = true → PS X st (tS X.K X.mg (evS T cl F s))) (h0 : okS T N sc s [] = false) (h2 : ∀ a b l, okS T N sc s (a :: b :: l) = false) : Both T cl F N sc X s :=
  ⟨fun _ => h, fun l hl => by
    match l, hl with
    | [], hl => rw [h0] at hl; cases hl
    | [st], hl => exact pss_one (h st hl)
    | a :: b :: l, hl => rw [h2] at hl; cases hl⟩
theorem ne_ix {i j : Nat} {x y : Str} (hi : N[i]? = some x) (hj : N[j]? = some y) (h : x ≠ y) : i ≠ j := fun z => by
  subst z
  rw [hi] at hj
  cases hj
  exact h rfl
theorem ps_ok {sc : Scope} {X : Cx} (x : XS T cl N sc k X) : ∀ s : Sm, Both T cl F N sc X s
  | .nil => ⟨fun h => (nomatch h), fun l h => by
      cases l with
      | nil =>
        refine PSs.imp pss_nil fun D σ H hw => ?_
        obtain ⟨φ, ρ, S, fl, ρ', S', he, hs, hf, q⟩ := hw
        unfold evS at hf
        cases hf
        exact q φ σ H (Evo.refl _ _) hs he
      | cons a l => unfold okS at h; cases h⟩
  | .cons s ss => ⟨fun h => (nomatch h), fun l h => by
      cases l with
      | nil => unfold okS at h; cases h
      | cons a l =>
        unfold okS at h
        simp only [Bool.and_eq_true] at h
        exact PSs.imp (pss_cons ((ps_ok x s).1 h.1.1 a h.1.2) ((ps_ok x ss).2 l h.2)) fun D σ H hw => sSeq_of hw⟩
  | .asg p e => both (fun st h => by
      unfold okS at h
      split at h
      · next heq =>
        cases heq
        simp only [Bool.and_eq_true] at h
        obtain ⟨⟨⟨h1, h2⟩, h3⟩, h4⟩ := h
        have hh := noSwapped h1 h2 X.env
        exact PS.imp (ps_asg (pe_ok e x.x _ h4) (pg_ok x.x.xn p _ h3) (hh _).1 (hh 0).2.1 (hh 0).2.2) fun D σ H hw => sAsg_of hw
      · cases h) (by unfold okS; rfl) (fun a b l => by unfold okS; split <;> first | rfl | (next heq => cases heq))
  | .par2 i y j z as => both (fun st h => by
      unfold okS at h
      split at h
      · next heq =>
        cases heq
        simp only [Bool.and_eq_true, decide_eq_true_eq, Bool.not_eq_true', locL, fnKind] at h
        obtain ⟨⟨⟨⟨⟨⟨⟨⟨⟨⟨⟨rfl, rfl⟩, h1⟩, h2⟩, h3⟩, h4⟩, h5⟩, h6⟩, h7⟩, h8⟩, h9⟩, h10⟩ := h
        have hst := okA_star h10
        simp only [List.all_cons, List.all_nil, Bool.and_true, Bool.and_eq_true] at hst
        have hN : X.N.Nodup := by rw [x.x.xn.hN]; exact x.x.xn.nd
        exact PS.imp (ps_par x.x.xn.calm hN (by rw [x.x.xn.hN]; exact h1) (by rw [x.x.xn.hN]; exact h2) (ne_ix h1 h2 h3) (by rw [x.x.xn.hsc]; exact h4) (by rw [x.x.xn.hsc]; exact h5) (pa_ok as x.x _ h10)
          (by exact swap2 (by rw [x.x.xn.hsc]; exact h6) hst.1 hst.2 (by rw [x.x.xn.hsc]; exact h4) (by rw [x.x.xn.hsc]; exact h5) h7 h3 h8 h9)) fun D σ H hw => sPar2_of hw
      · cases h) (by unfold okS; rfl) (fun a b l => by unfold okS; split <;> first | rfl | (next heq => cases heq))
  | .par3 i y j z l w as => both (fun st h => by
      unfold okS at h
      split at h
      · next heq =>
        cases heq
        simp only [Bool.and_eq_true, decide_eq_true_eq, Bool.not_eq_true', locL, fnKind] at h
        obtain ⟨⟨⟨⟨⟨⟨⟨⟨⟨⟨⟨⟨⟨⟨⟨⟨⟨rfl, rfl⟩, rfl⟩, h1⟩, h2⟩, h3⟩, n1⟩, n2⟩, n3⟩, h4⟩, h5⟩, h5'⟩, h6⟩, h7⟩, h7'⟩, h8⟩, h9⟩, h10⟩ := h
        have hst := okA_star h10
        simp only [List.all_cons, List.all_nil, Bool.and_true, Bool.and_eq_true] at hst
        have hN : X.N.Nodup := by rw [x.x.xn.hN]; exact x.x.xn.nd
        exact PS.imp (ps_par3 x.x.xn.calm hN (by rw [x.x.xn.hN]; exact h1) (by rw [x.x.xn.hN]; exact h2) (by rw [x.x.xn.hN]; exact h3) (ne_ix h1 h2 n1) (ne_ix h1 h3 n2) (ne_ix h2 h3 n3) (by rw [x.x.xn.hsc]; exact h4) (by rw [x.x.xn.hsc]; exact h5) (by rw [x.x.xn.hsc]; exact h5') (pa_ok as x.x _ h10)
          (by exact swap3 (by rw [x.x.xn.hsc]; exact h6) hst.1 hst.2.1 hst.2.2 (by rw [x.x.xn.hsc]; exact h4) (by rw [x.x.xn.hsc]; exact h5) (by rw [x.x.xn.hsc]; exact h5') h7 h7' n1 n2 n3 h8 h9)) fun D σ H hw => sPar3_of hw
      · cases h) (by unfold okS; rfl) (fun a b l => by unfold okS; split <;> first | rfl | (next heq => cases heq))
  | .setLc i y own elt p it tst => both (fun st h => by
      unfold okS at h
      split at h
      · next el gs scope lp sp heq =>
        cases heq
        simp only [Bool.and_eq_true, decide_eq_true_eq, Bool.not_eq_true', locL, fnKind] at h
        obtain ⟨⟨⟨⟨⟨⟨h0, rfl⟩, h1⟩, h2⟩, h3⟩, h4⟩, h5⟩ := h
        unfold okE at h5
        split at h5
        · next heq2 =>
          cases heq2
          simp only [Bool.and_eq_true, decide_eq_true_eq] at h5
          obtain ⟨⟨⟨⟨⟨⟨⟨⟨rfl, g1⟩, g2⟩, g3⟩, g4⟩, g5⟩, g6⟩, g7⟩, g8⟩ := h5
          have hl := h2
          rw [← x.x.xn.hsc] at hl
          refine PS.imp (ps_setLc (i := i) (own := own) x.x.xn.calm (by rw [x.x.xn.hN]; exact x.x.xn.nd) (by rw [x.x.xn.hN]; exact h1) hl (sw_true (by rw [x.x.xn.hsc]; exact h3) hl (by rw [h0]; exact beq_self_eq_true _) h4)
            (pi_ok it x.x _ _ g4 g8) (by rw [x.x.xn.hN, x.x.xn.hsc]; exact blkOk_by g1) (fun s H C cl' fp => pg_ok (x.x.blk s H _ C cl' fp).xn p _ g5) (fun s H C cl' fp => ptc_ok tst (x.x.blk s H _ C cl' fp) _ g6)
            (fun s H C cl' fp => pe_ok elt (x.x.blk s H _ C cl' fp) _ g7) (fun y => noFold g3 _ _)) fun D σ H hw => sLc_of g2 hw
        · cases h5
      · cases h) (by unfold okS; rfl) (fun a b l => by unfold okS; split <;> first | rfl | (next heq => cases heq))
  | .seti o i e => both (fun st h => by
      unfold okS at h
      split at h
      · next heq =>
        cases heq
        simp only [Bool.and_eq_true] at h
        obtain ⟨⟨⟨⟨h1, h0⟩, h2⟩, h3⟩, h4⟩ := h
        exact PS.imp (ps_asg (pe_ok e x.x _ h4) (pg_sub (pe_ok o x.x _ h2) (pe_ok i x.x _ h3) set_list (asgSub h0 _)) (swSole h1 _ _ _)) fun D σ H hw => sSeti_of hw
      · cases h) (by unfold okS; rfl) (fun a b l => by unfold okS; split <;> first | rfl | (next heq => cases heq))
  | .setd o i e => both (fun st h => by
      unfold okS at h
      split at h
      · next heq =>
        cases heq
        simp only [Bool.and_eq_true] at h
        obtain ⟨⟨⟨h1, h2⟩, h3⟩, h4⟩ := h
        exact PS.imp (ps_dput x.x.u1 (pe_ok o x.x _ h2) (pe_ok i x.x _ h3) (pe_ok e x.x _ h4) (noSwap h1 _ _ _)) fun D σ H hw => sSetd_of hw
      · cases h) (by unfold okS; rfl) (fun a b l => by unfold okS; split <;> first | rfl | (next heq => cases heq))
  | .aug i y b e => both (fun st h => by
      unfold okS at h
      split at h
      · next heq =>
        cases heq
        simp only [Bool.and_eq_true, decide_eq_true_eq] at h
        obtain ⟨⟨⟨⟨rfl, rfl⟩, h1⟩, h2⟩, h3⟩ := h
        have hl := loc_of (df := true) x.x h2
        exact PS.imp (ps_aug (i := i) (by rw [x.x.xn.hN]; exact x.x.xn.nd) (by rw [x.x.xn.hN]; exact h1) hl.1 (pe_ok e x.x _ h3) (pip_aug b) hl.2) fun D σ H hw => sAug_of hw
      · cases h) (by unfold okS; rfl) (fun a b l => by unfold okS; split <;> first | rfl | (next heq => cases heq))
  | .expr e => both (fun st h => by
      unfold okS at h
      split at h
      · next heq =>
        cases heq
        simp only [Bool.and_eq_true] at h
        exact PS.imp (ps_expr (pe_ok e x.x _ h.2) (noSwap h.1 _ _ _)) fun D σ H hw => sExpr_of hw
      · cases h) (by unfold okS; rfl) (fun a b l => by unfold okS; split <;> first | rfl | (next heq => cases heq))
  | .ret e => both (fun st h => by
      unfold okS at h
      split at h
      · next heq =>
        cases heq
        exact PS.imp (ps_ret (pe_ok e x.x _ h)) fun D σ H hw => sRet_of hw
      · cases h) (by unfold okS; rfl) (fun a b l => by unfold okS; split <;> first | rfl | (next heq => cases heq))
  | .ret0 => both (fun st h => by
      unfold okS at h
      split at h
      · next heq =>
        cases heq
        refine PS.imp ps_retN fun D σ H hw => ?_
        obtain ⟨φ, ρ, S, fl, ρ', S', he, hs, hf, q⟩ := hw
        unfold evS at hf
        cases hf
        exact q φ σ H (Evo.refl _ _) hs he .non Den.non trivial
      · cases h) (by unfold okS; rfl) (fun a b l => by unfold okS; split <;> first | rfl | (next heq => cases heq))
  | .ite t a b => both (fun st h => by
      unfold okS at h
      split at h
      · next heq =>
        cases heq
        simp only [Bool.and_eq_true] at h
        exact PS.imp (ps_if (pt_ok t x.x _ h.1.1) ((ps_ok x a).2 _ h.1.2) ((ps_ok x b).2 _ h.2)) fun D σ H hw => sIf_of hw
      · cases h) (by unfold okS; rfl) (fun a b l => by unfold okS; split <;> first | rfl | (next heq => cases heq))
  | .for p it b => both (fun st h => by
      unfold okS at h
      split at h
      · next heq =>
        cases heq
        simp only [Bool.and_eq_true] at h
        obtain ⟨⟨⟨⟨h1, h2⟩, h3⟩, h4⟩, h5⟩ := h
        exact PS.imp (ps_for x.po x.x.xn.calm (pi_ok it x.x _ _ h2 h4) (pg_ok x.x.xn p _ h3) ((ps_ok x b).2 _ h5) (fun y => noFold h1 _ _)) fun D σ H hw => sFor_of hw
      · cases h) (by unfold okS; rfl) (fun a b l => by unfold okS; split <;> first | rfl | (next heq => cases heq))
  | .while t b => both (fun st h => by
      unfold okS at h
      split at h
      · next heq =>
        cases heq
        simp only [Bool.and_eq_true] at h
        exact PS.imp (ps_while x.po (pt_ok t x.x _ h.1) ((ps_ok x b).2 _ h.2)) fun D σ H hw => sWhile_of hw
      · cases h) (by unfold okS; rfl) (fun a b l => by unfold okS; split <;> first | rfl | (next heq => cases heq))
  | .pass => both (fun st h => by
      unfold okS at h
      split at h
      · next heq =>
        cases heq
        refine PS.imp ps_pass fun D σ H hw => ?_
        obtain ⟨φ, ρ, S, fl, ρ', S', he, hs, hf, q⟩ := hw
        unfold evS at hf
        cases hf
        exact q φ σ H (Evo.refl _ _) hs he
      · cases h) (by unfold okS; rfl) (fun a b l => by unfold okS; split <;> first | rfl | (next heq => cases heq))
  | .brk => both (fun st h => by
      unfold okS at h
      split at h
      · next heq =>
        cases heq
        refine PS.imp ps_break fun D σ H hw => ?_
        obtain ⟨φ, ρ, S, fl, ρ', S', he, hs, hf, q⟩ := hw
        unfold evS at hf
        cases hf
        exact q φ σ H (Evo.refl _ _) hs he
      · cases h) (by unfold okS; rfl) (fun a b l => by unfold okS; split <;> first | rfl | (next heq => cases heq))
  | .cnt => both (fun st h => by
      unfold okS at h
      split at h
      · next heq =>
        cases heq
        refine PS.imp ps_continue fun D σ H hw => ?_
        obtain ⟨φ, ρ, S, fl, ρ', S', he, hs, hf, q⟩ := hw
        unfold evS at hf
        cases hf
        exact q φ σ H (Evo.refl _ _) hs he
      · cases h) (by unfold okS; rfl) (fun a b l => by unfold okS; split <;> first | rfl | (next heq => cases heq))
  | .raise => both (fun st h => by
      refine PS.imp ps_never fun D σ H hw => ?_
      obtain ⟨φ, ρ, S, fl, ρ', S', he, hs, hf, q⟩ := hw
      unfold evS at hf
      cases hf) (by unfold okS; rfl) (fun a b l => by unfold okS; split <;> first | rfl | (next heq => cases heq))
end
end Z

set_option Elab.async false
set_option linter.all false
set_option maxRecDepth 100000
/-! Z17: defs and the calls' table. -/
namespace Z
open PySem PySem.Spec PyProof.Rows L2

structure Def where
  N : List Str
  np : Nat
  /-- its calls with pure arguments run over an empty store -/
  px : Bool
  body : Sm
abbrev Prog := List (Str × Def)
/-- a result that leaves a call whose arguments hold no store's places -/
def expW (w : W) (S' : Sto) : Option W :=
  match w with
  | .tmp xs => if D.pures xs then some (.tmp xs) else none
  | .d (.ref k) => match S'[k]? with
    | some (.lst xs) => if D.pures xs then some (.tmp xs) else none
    | _ => none
  | .d x => if x.pure then some (.d x) else none
def env0 (d : Def) (ds : List D) : Env := ds.map some ++ List.replicate (d.N.length - ds.length) none
section
variable (F : Nat) (T : Tab)
def runDef (cl : Calls) (d : Def) (ds : List D) (S : Sto) : Option (W × Sto) :=
  match evS T cl F d.body (env0 d ds) S with
  | some (.nx, _, S') => some (.d .non, S')
  | some (.rt w, _, S') => some (w, S')
  | _ => none
def callD (pg : Prog) : Nat → Calls
  | 0 => fun _ _ _ => none
  | n + 1 => fun f ds S => match pg.lookup f with
    | none => none
    | some d => if ds.length = d.np then (if (d.px && D.pures ds) = true then (match runDef F T (callD pg n) d ds [] with
        | none => none
        | some (w, S') => (expW w S').map fun w' => (w', S)) else runDef F T (callD pg n) d ds S) else none
end
section
variable {K : PySem.W.Frag} {mg : Str → Option Value} {φ φ' : List Addr} {H H' : Hp} {S : Sto}
mutual
theorem Den.pure : ∀ {v : V} {d : D}, Den K mg φ H v d → d.pure = true → Den K mg φ' H v d
  | _, _, .non, _ => .non
  | _, _, .bl b, _ => .bl b
  | _, _, .int i, _ => .int i
  | _, _, .str x, _ => .str x
  | _, _, .tup h hs, p => .tup h (Dens.pure hs (by simpa [D.pure] using p))
  | _, _, .fz h hs, p => .fz h (Dens.pure hs (by simpa [D.pure] using p))
  | _, _, .ref _, p => by simp [D.pure] at p
  | _, _, .fn h, _ => .fn h
theorem Dens.pure : ∀ {vs : List V} {ds : List D}, Dens K mg φ H vs ds → D.pures ds = true → Dens K mg φ' H vs ds
  | _, _, .nil, _ => .nil
  | _, _, .cons (d := d) (ds := ds) a b, p => by
    have p' : d.pure = true ∧ D.pures ds = true := by simpa [D.pures] using p
    exact .cons (Den.pure a p'.1) (Dens.pure b p'.2)
end
/-- a call over an empty store leaves the caller's store as it is -/
theorem own_evo (e : Evo [] H φ' H') (s : StOk K mg φ S H) : Evo φ H φ H' ∧ StOk K mg φ S H' := by
  have ev : Evo φ H φ H' := ⟨⟨[], by simp, by simp⟩, fun a o h _ => e.out a o h (by simp), e.stb, e.thr⟩
  refine ⟨ev, s.len, s.nd, fun n a o h1 h2 => ?_⟩
  have ho := s.obj n a o h1 h2
  obtain ⟨u, hu, _⟩ := ho.some
  exact ho.evo ev ((e.out a u hu (by simp)).trans hu.symm)
theorem expW_ok {S' : Sto} {v : V} {w w' : W} (e : Evo [] H φ' H') (s : StOk K mg φ S H) (s' : StOk K mg φ' S' H') (d : DenW K mg φ' H' v w) (f : FrW H v w) (h : expW w S' = some w') : DenW K mg φ H' v w' ∧ FrW H v w' := by
  have fresh : ∀ a, a ∈ φ' → a ∉ φ ∧ H a = none := fun a ha => by
    obtain ⟨ψ, hp, hψ⟩ := e.ext
    rw [List.nil_append] at hp
    subst hp
    exact ⟨s.fresh (hψ a ha), hψ a ha⟩
  have pur : ∀ x : D, w = .d x → (if x.pure then some (W.d x) else none) = some w' → DenW K mg φ H' v w' ∧ FrW H v w' := fun x hw hh => by
    subst hw
    by_cases hp : x.pure = true
    · rw [if_pos hp] at hh
      cases hh
      exact ⟨Den.pure (show Den K mg φ' H' v x from d) hp, trivial⟩
    · rw [if_neg hp] at hh
      cases hh
  cases w with
  | tmp xs =>
    unfold expW at h
    simp only at h
    split at h
    · next hp =>
      cases h
      obtain ⟨a, vs, rfl, _, h1, h2⟩ := d
      obtain ⟨b, eb, hb⟩ := f
      cases eb
      exact ⟨⟨a, vs, rfl, s.fresh hb, h1, Dens.pure h2 hp⟩, a, rfl, hb⟩
    · cases h
  | d x =>
    cases x with
    | ref k =>
      unfold expW at h
      simp only at h
      split at h
      · next xs hx =>
        split at h
        · next hp =>
          cases h
          cases (show Den K mg φ' H' v (.ref k) from d) with
          | ref hk =>
            obtain ⟨vs, h1, h2⟩ := s'.obj _ _ _ hk hx
            have hf := fresh _ (List.mem_of_getElem? hk)
            exact ⟨⟨_, vs, rfl, hf.1, h1, Dens.pure h2 hp⟩, _, rfl, hf.2⟩
        · cases h
      · cases h
    | non => exact pur _ rfl h
    | bl b => exact pur _ rfl h
    | int i => exact pur _ rfl h
    | str i => exact pur _ rfl h
    | tup i => exact pur _ rfl h
    | fz i => exact pur _ rfl h
    | fn i => exact pur _ rfl h
theorem start_ok {d : Def} {vs : List V} {ds : List D} (h : Dens K mg φ H vs ds) : EnvOk K mg φ H (L2.start d.N vs) (env0 d ds) := by
  unfold L2.start env0
  refine ⟨by simp [h.length], fun i x hx => ?_⟩
  by_cases hi : i < ds.length
  · rw [List.getElem?_append_left (by simpa using hi), List.getElem?_map] at hx
    cases hd : ds[i]? with
    | none => rw [hd] at hx; cases hx
    | some y =>
      rw [hd] at hx
      cases hx
      obtain ⟨v, hv, dv⟩ := h.get hd
      exact ⟨v, by rw [List.getElem?_append_left (by rw [List.length_map, h.length]; exact hi), List.getElem?_map, hv]; rfl, dv⟩
  · rw [List.getElem?_append_right (by simpa using hi), List.getElem?_replicate] at hx
    split at hx <;> cases hx
end
/-- a def of the text is the def d of the table -/
structure DefIs (K : PySem.W.Frag) (mg : Str → Option Value) (T : Tab) (f : Str) (d : Def) : Prop where
  ex : ∃ a fd ps x qual st, mg f = some (.ref a) ∧ Fun K x qual st a fd ∧ FnScope d.N ps (defScope st) ∧ ps.length = d.np ∧ Binds K fd ps [] ∧ okS T d.N (defScope st) d.body (defBody st) = true
structure TopIs (K : PySem.W.Frag) (mg : Str → Option Value) (T : Tab) (pg : Prog) : Prop where
  defs : ∀ f n, T.defs.lookup f = some n → ∃ d, pg.lookup f = some d ∧ d.np = n ∧ DefIs K mg T f d
  blt : ∀ x ∈ T.blts, mg x = none
  glb : ∀ x d, T.globs.lookup x = some d → ∃ u v, mg x = some u ∧ RelV v u ∧ ∀ φ H, Den K mg φ H v d
section
variable {P : Program} {w : World} {K : PySem.W.Frag} {mg : Str → Option Value} {base : Heap} {F : Nat} {T : Tab} {pg : Prog}
theorem body_fin {D : Ends} {φ : List Addr} {H : Hp} {r : Option (Fl × Env × Sto)} {wv : W} {S' : Sto}
    (h : (match r with | some (.nx, _, S') => some (W.d .non, S') | some (.rt w, _, S') => some (w, S') | _ => none) = some (wv, S'))
    (q : ∀ v φ' H', Evo φ H φ' H' → StOk K mg φ' S' H' → DenW K mg φ' H' v wv → FrW H v wv → D.rt v H') (hn : ∀ σ H', D.rt .non H' → D.nx σ H') : ∃ fl ρ', r = some (fl, ρ', S') ∧ Fin K mg D φ H fl ρ' S' := by
  cases r with
  | none => cases h
  | some p =>
    obtain ⟨fl, ρ', S1⟩ := p
    cases fl with
    | nx =>
      cases h
      exact ⟨.nx, ρ', rfl, fun φ' σ' H' e s r => hn _ _ (q .non φ' H' e s .non trivial)⟩
    | rt w' =>
      cases h
      exact ⟨.rt wv, ρ', rfl, fun φ' σ' H' e s r v d f => q v φ' H' e s d f⟩
    | bk => cases h
    | ct => cases h
/-- one def, if all that it calls are right -/
theorem def_fn (tp : TopIs K mg T pg) (n : Nat) (ih : ∀ (f : Str) (m : Nat), T.defs.lookup f = some m → CallOk P w K mg base (callD F T pg n) n f m) {f : Str} {d : Def} {a : Addr} {fd : FuncData} {ps : List Str} {x qual : Str} {st : Stmt} (h1 : pg.lookup f = some d)
    (g2 : Fun K x qual st a fd) (g3 : FnScope d.N ps (defScope st)) (g4 : ps.length = d.np) (g6 : okS T d.N (defScope st) d.body (defBody st) = true) : FnOk P w K mg base CX0 (n + 1) a fd ps (spOf K mg (callD F T pg (n + 1)) f d.np) := by
    refine g2.ok g3 (fun vs H Q E hs => by rw [g4]; exact hs.1) fun cdv A outer s H vs Q E hr hs => ?_
    have xs : XS T (callD F T pg n) d.N (defScope st) n (cxOf CX0 P w K mg base d.N qual (defScope st) a cdv A outer s H E).nox :=
      ⟨⟨⟨rfl, g3.nd, rfl, rfl, fun _ _ => rfl⟩, hr, tp.blt, tp.glb, ih⟩, rfl⟩
    refine ⟨_, (ps_ok (F := F) xs d.body).2 _ g6, ?_⟩
    obtain ⟨hl, φ, ds, S, w', S', hst, hds, hf, q⟩ := hs
    unfold callD at hf
    simp only [h1] at hf
    split at hf
    · split at hf
      · next hp =>
        split at hf
        · cases hf
        · next w1 S1 hr1 =>
          cases hx : expW w1 S1 with
          | none => rw [hx] at hf; cases hf
          | some w2 =>
            rw [hx] at hf
            cases hf
            unfold runDef at hr1
            obtain ⟨fl, ρ', hb, hfin⟩ := body_fin (K := K) (mg := mg) (φ := []) (H := H) (D := { nx := fun _ H' => Q .non H', rt := Q }) hr1 (fun v φ' H' e s' dv fv => by
              have ow := own_evo e hst
              have ex := expW_ok e hst s' dv fv hx
              exact q v φ H' ow.1 ow.2 ex.1 ex.2) fun _ _ z => z
            exact ⟨[], env0 d ds, [], fl, ρ', S1, start_ok (Dens.pure hds (Bool.and_eq_true_iff.mp hp).2), ⟨rfl, List.nodup_nil, fun n a o h => by simp at h⟩, hb, hfin⟩
      · next hp =>
        unfold runDef at hf
        obtain ⟨fl, ρ', hb, hfin⟩ := body_fin (K := K) (mg := mg) (φ := φ) (H := H) (D := { nx := fun _ H' => Q .non H', rt := Q }) hf q fun _ _ z => z
        exact ⟨φ, env0 d ds, S, fl, ρ', S', start_ok hds, hst, hb, hfin⟩
    · cases hf
theorem calls_ok (tp : TopIs K mg T pg) : ∀ (n : Nat) (f : Str) (m : Nat), T.defs.lookup f = some m → CallOk P w K mg base (callD F T pg n) n f m
  | 0, f, m, h => by
    obtain ⟨d, h1, rfl, h2⟩ := tp.defs f m h
    obtain ⟨a, fd, ps, x, qual, st, g1, g2, g3, g4, g5, g6⟩ := h2.ex
    refine ⟨a, fd, ps, g1, g2.kp, g5, g4, ⟨fun vs H Q E hs => by rw [g4]; exact hs.1, fun A outer s H args us vs Q E _ _ _ _ hs => ?_⟩⟩
    obtain ⟨_, φ, ds, S, w', S', _, _, hf, _⟩ := hs
    unfold callD at hf
    cases hf
  | n + 1, f, m, h => by
    obtain ⟨d, h1, rfl, h2⟩ := tp.defs f m h
    obtain ⟨a, fd, ps, x, qual, st, g1, g2, g3, g4, g5, g6⟩ := h2.ex
    exact ⟨a, fd, ps, g1, g2.kp, g5, g4, def_fn tp n (fun f' m' h' => calls_ok tp n f' m' h') h1 g2 g3 g4 g6⟩
end
end Z

set_option Elab.async false
set_option linter.all false
set_option maxRecDepth 100000
/-! Z18: the law's own head: what the row says of the top. -/
namespace Z
open PySem PySem.Spec PyProof.Rows L2

/-- what the written part says of a def -/
structure DefRow (K : PySem.W.Frag) (f x qual : Str) (st : Stmt) (a : Addr) (fd : FuncData) : Prop where
  ns : PySem.W.nsIn K mainGlobals f = some (some (.ref a))
  fn : Fun K x qual st a fd
theorem defRow {K : PySem.W.Frag} {f x qual : Str} {st : Stmt} {a : Addr} {oc : Value} {od an : Option Addr} {osl : Array (Option Value)} {kV doc pm cdv ct : Value}
    (h : PySem.W.nsIn K mainGlobals f = some (some (.ref a))) (l : K.lookup a = some ⟨oc, od, .func (PySem.W.fnOf x qual (defArgs st) (defBody st) (defScope st) .none kV doc pm an cdv ct), osl⟩)
    (c : PySem.W.codeIn K cdv qual = true) (k : PySem.W.keepIn K (.ref a) = true) : DefRow K f x qual st a (PySem.W.fnOf x qual (defArgs st) (defBody st) (defScope st) .none kV doc pm an cdv ct) := ⟨h, fun_mk l c k⟩
theorem DefRow.is {K : PySem.W.Frag} {mg : Str → Option Value} {h : Heap} {T : Tab} {f x qual : Str} {st : Stmt} {a : Addr} {fd : FuncData} (R : DefRow K f x qual st a fd) (X : K.In h) (G : h.Ns mainGlobals mg) {d : Def} {ps : List Str}
    (sc : FnScope d.N ps (defScope st)) (hl : ps.length = d.np) (hb : ∀ (kV doc pm : Value) (an : Option Addr) (cdv ct : Value) (us : List Value), us.length = ps.length → bindArgs (PySem.W.fnOf x qual (defArgs st) (defBody st) (defScope st) .none kV doc pm an cdv ct) ⟨us, []⟩ = pure (ps.zip us))
    (ok : okS T d.N (defScope st) d.body (defBody st) = true) : DefIs K mg T f d :=
  ⟨⟨a, fd, ps, x, qual, st, PySem.W.mg_of X G R.ns, R.fn, sc, hl, R.fn.binds hb, ok⟩⟩
/-- all of a list -/
def AllIs (K : PySem.W.Frag) (mg : Str → Option Value) (T : Tab) : List (Str × Def) → Prop
  | [] => True
  | p :: r => DefIs K mg T p.1 p.2 ∧ AllIs K mg T r
theorem AllIs.look {K : PySem.W.Frag} {mg : Str → Option Value} {T : Tab} : ∀ {pg : List (Str × Def)} {f : Str} {n : Nat}, AllIs K mg T pg → (pg.map fun p => (p.1, p.2.np)).lookup f = some n → ∃ d, pg.lookup f = some d ∧ d.np = n ∧ DefIs K mg T f d
  | [], f, n, _, h => by simp at h
  | p :: r, f, n, a, h => by
    obtain ⟨g, d⟩ := p
    rw [List.map_cons, List.lookup_cons] at h
    rw [List.lookup_cons]
    by_cases e : (f == g) = true
    · rw [e] at h ⊢
      cases h
      have e' : f = g := by simpa using e
      subst e'
      exact ⟨d, rfl, rfl, a.1⟩
    · have e2 : (f == g) = false := by simpa using e
      rw [e2] at h ⊢
      exact AllIs.look a.2 h
/-- what the top holds under a name -/
def GlbIs (K : PySem.W.Frag) (mg : Str → Option Value) (p : Str × D) : Prop := ∃ u v, mg p.1 = some u ∧ RelV v u ∧ ∀ φ H, Den K mg φ H v p.2
def GlbsIs (K : PySem.W.Frag) (mg : Str → Option Value) : List (Str × D) → Prop
  | [] => True
  | p :: r => GlbIs K mg p ∧ GlbsIs K mg r
theorem GlbsIs.look {K : PySem.W.Frag} {mg : Str → Option Value} : ∀ {gs : List (Str × D)} {x : Str} {d : D}, GlbsIs K mg gs → gs.lookup x = some d → GlbIs K mg (x, d)
  | [], x, d, _, h => by simp at h
  | p :: r, x, d, a, h => by
    obtain ⟨g, e⟩ := p
    rw [List.lookup_cons] at h
    by_cases hx : (x == g) = true
    · rw [hx] at h
      cases h
      have e' : x = g := by simpa using hx
      subst e'
      exact a.1
    · have e2 : (x == g) = false := by simpa using hx
      rw [e2] at h
      exact GlbsIs.look a.2 h
def BltsIs (mg : Str → Option Value) : List Str → Prop
  | [] => True
  | x :: r => mg x = none ∧ BltsIs mg r
theorem BltsIs.look {mg : Str → Option Value} : ∀ {xs : List Str}, BltsIs mg xs → ∀ x ∈ xs, mg x = none
  | [], _, x, h => by cases h
  | y :: r, a, x, h => by
    rcases List.mem_cons.mp h with rfl | h
    · exact a.1
    · exact BltsIs.look a.2 x h
theorem topIs {K : PySem.W.Frag} {mg : Str → Option Value} {T : Tab} {pg : Prog} (ht : T.defs = pg.map fun p => (p.1, p.2.np)) (a : AllIs K mg T pg) (g : GlbsIs K mg T.globs) (b : BltsIs mg T.blts) : TopIs K mg T pg :=
  ⟨fun f n h => a.look (by rw [← ht]; exact h), b.look, fun x d h => g.look h⟩
/-- constants of the top -/
def valOk : D → Value → Bool
  | .int i, u => match u with
    | .int j _ => decide (i = j)
    | _ => false
  | .str x, u => match u with
    | .str y _ => decide (x = y)
    | _ => false
  | _, _ => false
def valsOk : List D → List Value → Bool
  | [], l => l.isEmpty
  | d :: ds, l => match l with
    | u :: us => valOk d u && valsOk ds us
    | [] => false
theorem valOk_of {K : PySem.W.Frag} {mg : Str → Option Value} : ∀ {d : D} {u : Value}, valOk d u = true → ∃ v, RelV v u ∧ ∀ φ H, Den K mg φ H v d
  | .int i, u, h => by
    cases u with
    | int j t => have := of_decide_eq_true h; subst this; exact ⟨.int i, ⟨t, rfl⟩, fun _ _ => .int i⟩
    | _ => cases h
  | .str i, u, h => by
    cases u with
    | str j t => have := of_decide_eq_true h; subst this; exact ⟨.str i, ⟨t, rfl⟩, fun _ _ => .str i⟩
    | _ => cases h
  | .non, _, h | .bl _, _, h | .tup _, _, h | .fz _, _, h | .ref _, _, h | .fn _, _, h => by cases h
theorem valsOk_of {K : PySem.W.Frag} {mg : Str → Option Value} : ∀ {ds : List D} {us : List Value}, valsOk ds us = true → ∃ vs, Vals vs us ∧ ∀ φ H, Dens K mg φ H vs ds
  | [], us, h => by
    cases us with
    | nil => exact ⟨[], .nil, fun _ _ => .nil⟩
    | cons _ _ => cases h
  | d :: ds, us, h => by
    cases us with
    | nil => cases h
    | cons u us =>
      unfold valsOk at h
      simp only [Bool.and_eq_true] at h
      obtain ⟨v, h1, h2⟩ := valOk_of (K := K) (mg := mg) h.1
      obtain ⟨vs, h3, h4⟩ := valsOk_of (K := K) (mg := mg) h.2
      exact ⟨v :: vs, .cons h1 h3, fun φ H => .cons (h2 φ H) (h4 φ H)⟩
theorem glb_val {K : PySem.W.Frag} {h : Heap} {mg : Str → Option Value} (X : K.In h) (G : h.Ns mainGlobals mg) {x : Str} {d : D} {u : Value} (e : PySem.W.nsIn K mainGlobals x = some (some u)) (hv : valOk d u = true) : GlbIs K mg (x, d) := by
  obtain ⟨v, h1, h2⟩ := valOk_of (K := K) (mg := mg) hv
  exact ⟨u, v, PySem.W.mg_of X G e, h1, h2⟩
theorem glb_tup {K : PySem.W.Frag} {h : Heap} {mg : Str → Option Value} (X : K.In h) (G : h.Ns mainGlobals mg) {x : Str} {ds : List D} {a : Addr} {od : Option Addr} {its : Array Value} {n : Nat} {sl : Array (Option Value)}
    (e : PySem.W.nsIn K mainGlobals x = some (some (.ref a))) (l : K.lookup a = some ⟨.type "tuple", od, .seq its n, sl⟩) (hv : valsOk ds its.toList = true) (hn : its.toList.length ≤ 1000) : GlbIs K mg (x, .tup ds) := by
  obtain ⟨vs, h1, h2⟩ := valsOk_of (K := K) (mg := mg) hv
  exact ⟨.ref a, .ref a, PySem.W.mg_of X G e, rfl, fun φ H => .tup (.inr ⟨_, its, n, l, rfl, rfl, Nat.le_of_lt (small1000 hn), h1⟩) (h2 φ H)⟩
theorem glb_fn {K : PySem.W.Frag} {h : Heap} {mg : Str → Option Value} (X : K.In h) (G : h.Ns mainGlobals mg) {x : Str} {a : Addr} (e : PySem.W.nsIn K mainGlobals x = some (some (.ref a))) : GlbIs K mg (x, .fn x) :=
  ⟨.ref a, .ref a, PySem.W.mg_of X G e, rfl, fun φ H => .fn (PySem.W.mg_of X G e)⟩

/-- the law's promise -/
def lawSp (K : PySem.W.Frag) : Sp := fun vs H Q _ => ∃ (a : Addr) (ns : List Int), vs = [.ref a] ∧ SqF K H a (ns.map V.int) ∧ ns.length ≤ 63 ∧ ∀ H', Q (.bl true) H'
theorem sqF_of {K : PySem.W.Frag} {H : Hp} {a : Addr} {xs : List V} (o : Only H) (h : SqL K H a xs) : SqF K H a xs := by
  rcases h with h | h
  · rcases h with h | h
    · rcases o a with z | ⟨u, ys, z⟩
      · rw [h] at z; cases z
      · rw [h] at z; cases z
    · obtain ⟨u, h⟩ := h
      exact .inl ⟨u, h⟩
  · exact .inr h
def lawName : Str := "law"
/-- the law, by the evaluator -/
theorem law_ok {P : Program} {w : World} {K : PySem.W.Frag} {mg : Str → Option Value} {base : Heap} {T : Tab} {pg : Prog} (tp : TopIs K mg T pg) {n F : Nat} {fa : Addr} {fd : FuncData} {x qual : Str} {st : Stmt} {d : Def}
    (h1 : pg.lookup lawName = some d) (g2 : Fun K x qual st fa fd) (g3 : FnScope d.N ["script"] (defScope st)) (g4 : d.np = 1) (g6 : okS T d.N (defScope st) d.body (defBody st) = true)
    (hl : ∀ ns : List Int, ns.length ≤ 63 → ∃ S', callD F T pg (n + 1) lawName [.fz (ns.map D.int)] [] = some (.d (.bl true), S')) :
    FnOk P w K mg base CX0 (n + 1) fa fd ["script"] (lawSp K) := by
  refine (def_fn (F := F) (P := P) (w := w) (base := base) tp n (fun f m h => calls_ok tp n f m h) h1 g2 g3 g4.symm g6).imp fun vs H Q E hs => ?_
  obtain ⟨a, ns, rfl, hS, hlen, q⟩ := hs
  obtain ⟨S', hc⟩ := hl ns hlen
  refine ⟨g4.symm, [], [.fz (ns.map D.int)], [], .d (.bl true), S', ⟨rfl, List.nodup_nil, fun n a o h => by simp at h⟩, .cons (.fz hS (Dens.of_ints ns)) .nil, hc, fun v φ' H' e s' dv fv => ?_⟩
  cases (show Den K mg φ' H' v (.bl true) from dv)
  exact q H'
end Z

set_option Elab.async false
set_option linter.all false
set_option maxRecDepth 100000
/-! Y1: the evaluator, step by step: equations whose continuations are named, so that nothing is entered ahead of its time. -/
namespace Z
open PySem PySem.Spec PyProof.Rows L2
def bnd {α β : Type} (x : Option α) (f : α → Option β) : Option β := match x with
  | none => none
  | some a => f a
theorem bnd_some {α β : Type} (a : α) (f : α → Option β) : bnd (some a) f = f a := rfl
theorem bnd_none {α β : Type} (f : α → Option β) : bnd none f = none := rfl
def lk : Env → Nat → Option D
  | [], _ => none
  | x :: _, 0 => x
  | _ :: xs, i + 1 => lk xs i
theorem lk_0 (x : Option D) (xs : Env) : lk (x :: xs) 0 = x := rfl
theorem lk_s (x : Option D) (xs : Env) (i : Nat) : lk (x :: xs) (i + 1) = lk xs i := rfl
theorem lk_eq : ∀ (ρ : Env) (i : Nat), lk ρ i = (ρ[i]?).join
  | [], _ => rfl
  | x :: _, 0 => rfl
  | _ :: xs, i + 1 => by unfold lk; rw [lk_eq xs i]; rfl
def stv : Env → Nat → D → Env
  | [], _, _ => []
  | _ :: xs, 0, d => some d :: xs
  | x :: xs, i + 1, d => x :: stv xs i d
theorem stv_0 (x : Option D) (xs : Env) (d : D) : stv (x :: xs) 0 d = some d :: xs := rfl
theorem stv_s (x : Option D) (xs : Env) (i : Nat) (d : D) : stv (x :: xs) (i + 1) d = x :: stv xs i d := rfl
theorem stv_eq : ∀ (ρ : Env) (i : Nat) (d : D), stv ρ i d = ρ.set i (some d)
  | [], _, _ => rfl
  | _ :: xs, 0, d => rfl
  | x :: xs, i + 1, d => by unfold stv; rw [stv_eq xs i d]; rfl
def mat1 (w : W) (S : Sto) : Option (D × Sto) := some (matW w S)
theorem mat_d (x : D) (S : Sto) : mat1 (.d x) S = some (x, S) := rfl
theorem mat_t (xs : List D) (S : Sto) : mat1 (.tmp xs) S = some (.ref S.length, S ++ [.lst xs]) := rfl
def matM (ws : List W) (S : Sto) : Option (List D × Sto) := some (matsW ws S)
def kMd (x : D) : List D × Sto → Option (List D × Sto)
  | (ds, S) => some (x :: ds, S)
theorem kMd_e (x : D) (ds : List D) (S : Sto) : kMd x (ds, S) = some (x :: ds, S) := rfl
theorem matM_nil (S : Sto) : matM [] S = some ([], S) := rfl
theorem matM_d (x : D) (ws : List W) (S : Sto) : matM (.d x :: ws) S = bnd (matM ws S) (kMd x) := rfl
theorem matM_t (xs : List D) (ws : List W) (S : Sto) : matM (.tmp xs :: ws) S = bnd (matM ws (S ++ [.lst xs])) (kMd (.ref S.length)) := rfl
def refW : W → Option Nat
  | .d (.ref n) => some n
  | _ => none
def lstO : Option O → Option (List D)
  | some (.lst xs) => some xs
  | _ => none
def dkO : Option O → Option (List (Key × D))
  | some (.dk xs) => some xs
  | _ => none
def dW : W → Option D
  | .d x => some x
  | _ => none
def blW : W → Option Bool
  | .d (.bl b) => some b
  | _ => none
def fnD : D → Option Str
  | .fn f => some f
  | _ => none
section
variable (T : Tab) (cl : Calls) (F : Nat) (ρ : Env) (S : Sto)

def kRet (S : Sto) : W → Option (W × Sto)
  | z => some (z, S)
theorem kRet_e (S : Sto) (z : W) : kRet S z = some (z, S) := rfl
def kRetB (S : Sto) : Bool → Option (W × Sto)
  | z => some (.d (.bl z), S)
theorem kRetB_e (S : Sto) (z : Bool) : kRetB S z = some (.d (.bl z), S) := rfl
def kRetT (S : Sto) : Bool → Option (Bool × Sto)
  | z => some (z, S)
theorem kRetT_e (S : Sto) (z : Bool) : kRetT S z = some (z, S) := rfl
def kRetD (S : Sto) : D → Option (W × Sto)
  | z => some (.d z, S)
theorem kRetD_e (S : Sto) (z : D) : kRetD S z = some (.d z, S) := rfl
theorem e_var (i x) : evW T cl (.var i x) ρ S = bnd (lk ρ i) (kRetD S) := by
  rw [lk_eq, evW]
  cases h : ρ[i]? with
  | none => rfl
  | some o => cases o <;> rfl
theorem e_cI (i) : evW T cl (.cI i) ρ S = some (.d (.int i), S) := by rw [evW]
theorem e_cB (i) : evW T cl (.cB i) ρ S = some (.d (.bl i), S) := by rw [evW]
theorem e_cN : evW T cl .cN ρ S = some (.d .non, S) := by rw [evW]
theorem e_cS (i) : evW T cl (.cS i) ρ S = some (.d (.str i), S) := by rw [evW]
theorem e_glob (x) : evW T cl (.glob x) ρ S = bnd (T.globs.lookup x) (kRetD S) := by
  rw [evW]; cases T.globs.lookup x <;> rfl
def kBin2 (o : Bop) (x : W) : (W × Sto) → Option (W × Sto)
  | (y, S) => bnd (binW S o x y) (kRet S)
theorem kBin2_e (o : Bop) (x : W) (y : W) (S : Sto) : kBin2 o x (y, S) = bnd (binW S o x y) (kRet S) := rfl
def kBin1 (T : Tab) (cl : Calls) (o : Bop) (b : E) (ρ : Env) : (W × Sto) → Option (W × Sto)
  | (x, S) => bnd (evW T cl b ρ S) (kBin2 o x)
theorem kBin1_e (T : Tab) (cl : Calls) (o : Bop) (b : E) (ρ : Env) (x : W) (S : Sto) : kBin1 T cl o b ρ (x, S) = bnd (evW T cl b ρ S) (kBin2 o x) := rfl
theorem e_bin (o a b) : evW T cl (.bin o a b) ρ S = bnd (evW T cl a ρ S) (kBin1 T cl o b ρ) := by
  rw [evW]
  cases evW T cl a ρ S with
  | none => rfl
  | some p =>
    obtain ⟨x, S1⟩ := p
    simp only [bnd_some, kBin1_e]
    cases evW T cl b ρ S1 with
    | none => rfl
    | some q => obtain ⟨y, S2⟩ := q; simp only [bnd_some, kBin2_e]; generalize binW S2 o x y = z; cases z <;> rfl
def kCmp2 (o : Cop) (x : W) : (W × Sto) → Option (W × Sto)
  | (y, S) => bnd (cmpW S o x y) (kRetB S)
theorem kCmp2_e (o : Cop) (x : W) (y : W) (S : Sto) : kCmp2 o x (y, S) = bnd (cmpW S o x y) (kRetB S) := rfl
def kCmp1 (T : Tab) (cl : Calls) (o : Cop) (b : E) (ρ : Env) : (W × Sto) → Option (W × Sto)
  | (x, S) => bnd (evW T cl b ρ S) (kCmp2 o x)
theorem kCmp1_e (T : Tab) (cl : Calls) (o : Cop) (b : E) (ρ : Env) (x : W) (S : Sto) : kCmp1 T cl o b ρ (x, S) = bnd (evW T cl b ρ S) (kCmp2 o x) := rfl
theorem e_cmp (o a b) : evW T cl (.cmp o a b) ρ S = bnd (evW T cl a ρ S) (kCmp1 T cl o b ρ) := by
  rw [evW]
  cases evW T cl a ρ S with
  | none => rfl
  | some p =>
    obtain ⟨x, S1⟩ := p
    simp only [bnd_some, kCmp1_e]
    cases evW T cl b ρ S1 with
    | none => rfl
    | some q => obtain ⟨y, S2⟩ := q; simp only [bnd_some, kCmp2_e]; generalize cmpW S2 o x y = z; cases z <;> rfl
def kCmpT2 (o : Cop) (x : W) : (W × Sto) → Option (Bool × Sto)
  | (y, S) => bnd (cmpW S o x y) (kRetT S)
theorem kCmpT2_e (o : Cop) (x : W) (y : W) (S : Sto) : kCmpT2 o x (y, S) = bnd (cmpW S o x y) (kRetT S) := rfl
def kCmpT1 (T : Tab) (cl : Calls) (o : Cop) (b : E) (ρ : Env) : (W × Sto) → Option (Bool × Sto)
  | (x, S) => bnd (evW T cl b ρ S) (kCmpT2 o x)
theorem kCmpT1_e (T : Tab) (cl : Calls) (o : Cop) (b : E) (ρ : Env) (x : W) (S : Sto) : kCmpT1 T cl o b ρ (x, S) = bnd (evW T cl b ρ S) (kCmpT2 o x) := rfl
theorem t_cmp (o a b) : evT T cl (.cmp o a b) ρ S = bnd (evW T cl a ρ S) (kCmpT1 T cl o b ρ) := by
  rw [evT]
  cases evW T cl a ρ S with
  | none => rfl
  | some p =>
    obtain ⟨x, S1⟩ := p
    simp only [bnd_some, kCmpT1_e]
    cases evW T cl b ρ S1 with
    | none => rfl
    | some q => obtain ⟨y, S2⟩ := q; simp only [bnd_some, kCmpT2_e]; generalize cmpW S2 o x y = z; cases z <;> rfl
def kIx2 (x : W) : (W × Sto) → Option (W × Sto)
  | (y, S) => bnd (ixW S x y) (kRet S)
theorem kIx2_e (x : W) (y : W) (S : Sto) : kIx2 x (y, S) = bnd (ixW S x y) (kRet S) := rfl
def kIx1 (T : Tab) (cl : Calls) (b : E) (ρ : Env) : (W × Sto) → Option (W × Sto)
  | (x, S) => bnd (evW T cl b ρ S) (kIx2 x)
theorem kIx1_e (T : Tab) (cl : Calls) (b : E) (ρ : Env) (x : W) (S : Sto) : kIx1 T cl b ρ (x, S) = bnd (evW T cl b ρ S) (kIx2 x) := rfl
theorem e_ix (a b) : evW T cl (.ix a b) ρ S = bnd (evW T cl a ρ S) (kIx1 T cl b ρ) := by
  rw [evW]
  cases evW T cl a ρ S with
  | none => rfl
  | some p =>
    obtain ⟨x, S1⟩ := p
    simp only [bnd_some, kIx1_e]
    cases evW T cl b ρ S1 with
    | none => rfl
    | some q => obtain ⟨y, S2⟩ := q; simp only [bnd_some, kIx2_e]; generalize ixW S2 x y = z; cases z <;> rfl
def kDg2 (x : W) : (W × Sto) → Option (W × Sto)
  | (y, S) => bnd (dgetW S x y) (kRet S)
theorem kDg2_e (x : W) (y : W) (S : Sto) : kDg2 x (y, S) = bnd (dgetW S x y) (kRet S) := rfl
def kDg1 (T : Tab) (cl : Calls) (b : E) (ρ : Env) : (W × Sto) → Option (W × Sto)
  | (x, S) => bnd (evW T cl b ρ S) (kDg2 x)
theorem kDg1_e (T : Tab) (cl : Calls) (b : E) (ρ : Env) (x : W) (S : Sto) : kDg1 T cl b ρ (x, S) = bnd (evW T cl b ρ S) (kDg2 x) := rfl
theorem e_dget (a b) : evW T cl (.dget a b) ρ S = bnd (evW T cl a ρ S) (kDg1 T cl b ρ) := by
  rw [evW]
  cases evW T cl a ρ S with
  | none => rfl
  | some p =>
    obtain ⟨x, S1⟩ := p
    simp only [bnd_some, kDg1_e]
    cases evW T cl b ρ S1 with
    | none => rfl
    | some q => obtain ⟨y, S2⟩ := q; simp only [bnd_some, kDg2_e]; generalize dgetW S2 x y = z; cases z <;> rfl
def kChn4 (o2 : Cop) (y : W) : (W × Sto) → Option (Bool × Sto)
  | (z, S) => bnd (cmpW S o2 y z) (kRetT S)
theorem kChn4_e (o2 : Cop) (y : W) (z : W) (S : Sto) : kChn4 o2 y (z, S) = bnd (cmpW S o2 y z) (kRetT S) := rfl
def kChn3 (T : Tab) (cl : Calls) (o2 : Cop) (c : E) (ρ : Env) (y : W) (S : Sto) : Bool → Option (Bool × Sto)
  | true => bnd (evW T cl c ρ S) (kChn4 o2 y)
  | false => some (false, S)
theorem kChn3_t (T : Tab) (cl : Calls) (o2 : Cop) (c : E) (ρ : Env) (y : W) (S : Sto) : kChn3 T cl o2 c ρ y S true = bnd (evW T cl c ρ S) (kChn4 o2 y) := rfl
theorem kChn3_f (T : Tab) (cl : Calls) (o2 : Cop) (c : E) (ρ : Env) (y : W) (S : Sto) : kChn3 T cl o2 c ρ y S false = some (false, S) := rfl
def kChn2 (T : Tab) (cl : Calls) (o1 : Cop) (o2 : Cop) (c : E) (ρ : Env) (x : W) : (W × Sto) → Option (Bool × Sto)
  | (y, S) => bnd (cmpW S o1 x y) (kChn3 T cl o2 c ρ y S)
theorem kChn2_e (T : Tab) (cl : Calls) (o1 : Cop) (o2 : Cop) (c : E) (ρ : Env) (x : W) (y : W) (S : Sto) : kChn2 T cl o1 o2 c ρ x (y, S) = bnd (cmpW S o1 x y) (kChn3 T cl o2 c ρ y S) := rfl
def kChn1 (T : Tab) (cl : Calls) (o1 : Cop) (o2 : Cop) (b : E) (c : E) (ρ : Env) : (W × Sto) → Option (Bool × Sto)
  | (x, S) => bnd (evW T cl b ρ S) (kChn2 T cl o1 o2 c ρ x)
theorem kChn1_e (T : Tab) (cl : Calls) (o1 : Cop) (o2 : Cop) (b : E) (c : E) (ρ : Env) (x : W) (S : Sto) : kChn1 T cl o1 o2 b c ρ (x, S) = bnd (evW T cl b ρ S) (kChn2 T cl o1 o2 c ρ x) := rfl
def kTB  : (Bool × Sto) → Option (W × Sto)
  | (b, S) => some (.d (.bl b), S)
theorem kTB_e  (b : Bool) (S : Sto) : kTB  (b, S) = some (.d (.bl b), S) := rfl
theorem t_chn (o1 o2 a b c) : evT T cl (.chn o1 o2 a b c) ρ S = bnd (evW T cl a ρ S) (kChn1 T cl o1 o2 b c ρ) := by
  rw [evT]
  cases evW T cl a ρ S with
  | none => rfl
  | some p =>
    obtain ⟨x, S1⟩ := p
    simp only [bnd_some, kChn1_e]
    cases evW T cl b ρ S1 with
    | none => rfl
    | some q =>
      obtain ⟨y, S2⟩ := q
      simp only [bnd_some, kChn2_e]
      cases cmpW S2 o1 x y with
      | none => rfl
      | some k =>
        cases k with
        | false => rfl
        | true =>
          simp only [bnd_some, kChn3_t]
          cases evW T cl c ρ S2 with
          | none => rfl
          | some r => obtain ⟨z, S3⟩ := r; simp only [bnd_some, kChn4_e]; cases cmpW S3 o2 y z <;> rfl
theorem e_chn (o1 o2 a b c) : evW T cl (.chn o1 o2 a b c) ρ S = bnd (evT T cl (.chn o1 o2 a b c) ρ S) kTB := by
  rw [evW, evT]
  cases evW T cl a ρ S with
  | none => rfl
  | some p =>
    simp only
    cases evW T cl b ρ p.2 with
    | none => rfl
    | some q =>
      simp only
      cases cmpW q.2 o1 p.1 q.1 with
      | none => rfl
      | some k =>
        cases k with
        | false => rfl
        | true =>
          simp only
          cases evW T cl c ρ q.2 with
          | none => rfl
          | some r => simp only; cases cmpW r.2 o2 q.1 r.1 <;> rfl
def kNegR (S : Sto) : Int → Option (W × Sto)
  | i => some (.d (.int (-i)), S)
theorem kNegR_e (S : Sto) (i : Int) : kNegR S i = some (.d (.int (-i)), S) := rfl
def kNeg  : (W × Sto) → Option (W × Sto)
  | (x, S) => bnd (partW x) (kNegR S)
theorem kNeg_e  (x : W) (S : Sto) : kNeg  (x, S) = bnd (partW x) (kNegR S) := rfl
def kNotR (S : Sto) : Bool → Option (W × Sto)
  | b => some (.d (.bl (!b)), S)
theorem kNotR_e (S : Sto) (b : Bool) : kNotR S b = some (.d (.bl (!b)), S) := rfl
def kNot  : (W × Sto) → Option (W × Sto)
  | (x, S) => bnd (truW S x) (kNotR S)
theorem kNot_e  (x : W) (S : Sto) : kNot  (x, S) = bnd (truW S x) (kNotR S) := rfl
def kNotT  : (Bool × Sto) → Option (Bool × Sto)
  | (b, S) => some (!b, S)
theorem kNotT_e  (b : Bool) (S : Sto) : kNotT  (b, S) = some (!b, S) := rfl
def kTst  : (W × Sto) → Option (Bool × Sto)
  | (x, S) => bnd (truW S x) (kRetT S)
theorem kTst_e  (x : W) (S : Sto) : kTst  (x, S) = bnd (truW S x) (kRetT S) := rfl
theorem e_neg (a) : evW T cl (.neg a) ρ S = bnd (evW T cl a ρ S) kNeg := by
  rw [evW]
  cases evW T cl a ρ S with
  | none => rfl
  | some p => obtain ⟨w, S1⟩ := p; cases w with
    | tmp => rfl
    | d x => cases x <;> rfl
theorem e_not (a) : evW T cl (.not a) ρ S = bnd (evW T cl a ρ S) kNot := by
  rw [evW]
  cases evW T cl a ρ S with
  | none => rfl
  | some p => obtain ⟨w, S1⟩ := p; simp only [bnd_some, kNot_e]; cases truW S1 w <;> rfl
theorem t_not (a) : evT T cl (.not a) ρ S = bnd (evT T cl a ρ S) kNotT := by
  rw [evT]
  cases evT T cl a ρ S <;> rfl
theorem t_tst (a) : evT T cl (.tst a) ρ S = bnd (evW T cl a ρ S) kTst := by
  rw [evT]
  cases evW T cl a ρ S with
  | none => rfl
  | some p => obtain ⟨w, S1⟩ := p; simp only [bnd_some, kTst_e]; cases truW S1 w <;> rfl
theorem t_and (as) : evT T cl (.and as) ρ S = evTAnd T cl as ρ S := by rw [evT]
theorem t_or (as) : evT T cl (.or as) ρ S = evTOr T cl as ρ S := by rw [evT]
theorem ta_nil : evTAnd T cl .nil ρ S = some (true, S) := by rw [evTAnd]
theorem to_nil : evTOr T cl .nil ρ S = some (false, S) := by rw [evTOr]
def kTA (T : Tab) (cl : Calls) (as : E) (ρ : Env) : Bool × Sto → Option (Bool × Sto)
  | (true, S) => evTAnd T cl as ρ S
  | (false, S) => some (false, S)
def kTO (T : Tab) (cl : Calls) (as : E) (ρ : Env) : Bool × Sto → Option (Bool × Sto)
  | (true, S) => some (true, S)
  | (false, S) => evTOr T cl as ρ S
theorem kTA_t (as) : kTA T cl as ρ (true, S) = evTAnd T cl as ρ S := rfl
theorem kTA_f (as) : kTA T cl as ρ (false, S) = some (false, S) := rfl
theorem kTO_t (as) : kTO T cl as ρ (true, S) = some (true, S) := rfl
theorem kTO_f (as) : kTO T cl as ρ (false, S) = evTOr T cl as ρ S := rfl
theorem ta_cons (a as) : evTAnd T cl (.cons a as) ρ S = bnd (evT T cl a ρ S) (kTA T cl as ρ) := by
  rw [evTAnd]
  cases evT T cl a ρ S with
  | none => rfl
  | some p => obtain ⟨b, S1⟩ := p; cases b <;> rfl
theorem to_cons (a as) : evTOr T cl (.cons a as) ρ S = bnd (evT T cl a ρ S) (kTO T cl as ρ) := by
  rw [evTOr]
  cases evT T cl a ρ S with
  | none => rfl
  | some p => obtain ⟨b, S1⟩ := p; cases b <;> rfl
theorem e_and (as) : evW T cl (.and as) ρ S = evAnd T cl as ρ S := by rw [evW]
theorem e_or (as) : evW T cl (.or as) ρ S = evOr T cl as ρ S := by rw [evW]
theorem a_one (a) : evAnd T cl (.cons a .nil) ρ S = evW T cl a ρ S := evAnd_one
theorem o_one (a) : evOr T cl (.cons a .nil) ρ S = evW T cl a ρ S := evOr_one
def kWA (T : Tab) (cl : Calls) (as : E) (ρ : Env) (S : Sto) : Bool → Option (W × Sto)
  | true => evAnd T cl as ρ S
  | false => some (.d (.bl false), S)
def kWO (T : Tab) (cl : Calls) (as : E) (ρ : Env) (S : Sto) : Bool → Option (W × Sto)
  | true => some (.d (.bl true), S)
  | false => evOr T cl as ρ S
theorem kWA_t (as) : kWA T cl as ρ S true = evAnd T cl as ρ S := rfl
theorem kWA_f (as) : kWA T cl as ρ S false = some (.d (.bl false), S) := rfl
theorem kWO_t (as) : kWO T cl as ρ S true = some (.d (.bl true), S) := rfl
theorem kWO_f (as) : kWO T cl as ρ S false = evOr T cl as ρ S := rfl
def kWA1 (T : Tab) (cl : Calls) (as : E) (ρ : Env) : (W × Sto) → Option (W × Sto)
  | (x, S) => bnd (blW x) (kWA T cl as ρ S)
theorem kWA1_e (T : Tab) (cl : Calls) (as : E) (ρ : Env) (x : W) (S : Sto) : kWA1 T cl as ρ (x, S) = bnd (blW x) (kWA T cl as ρ S) := rfl
def kWO1 (T : Tab) (cl : Calls) (as : E) (ρ : Env) : (W × Sto) → Option (W × Sto)
  | (x, S) => bnd (blW x) (kWO T cl as ρ S)
theorem kWO1_e (T : Tab) (cl : Calls) (as : E) (ρ : Env) (x : W) (S : Sto) : kWO1 T cl as ρ (x, S) = bnd (blW x) (kWO T cl as ρ S) := rfl
theorem a_cons (a b as) : evAnd T cl (.cons a (.cons b as)) ρ S = bnd (evW T cl a ρ S) (kWA1 T cl (.cons b as) ρ) := by
  rw [evAnd]
  cases evW T cl a ρ S with
  | none => rfl
  | some p => obtain ⟨w, S1⟩ := p; cases w with
    | tmp => rfl
    | d x => cases x with
      | bl k => cases k <;> rfl
      | _ => rfl
theorem o_cons (a b as) : evOr T cl (.cons a (.cons b as)) ρ S = bnd (evW T cl a ρ S) (kWO1 T cl (.cons b as) ρ) := by
  rw [evOr]
  cases evW T cl a ρ S with
  | none => rfl
  | some p => obtain ⟨w, S1⟩ := p; cases w with
    | tmp => rfl
    | d x => cases x with
      | bl k => cases k <;> rfl
      | _ => rfl
def kIte (T : Tab) (cl : Calls) (a b : E) (ρ : Env) : Bool × Sto → Option (W × Sto)
  | (true, S) => evW T cl a ρ S
  | (false, S) => evW T cl b ρ S
theorem kIte_t (a b) : kIte T cl a b ρ (true, S) = evW T cl a ρ S := rfl
theorem kIte_f (a b) : kIte T cl a b ρ (false, S) = evW T cl b ρ S := rfl
theorem e_ite (t a b) : evW T cl (.ite t a b) ρ S = bnd (evT T cl t ρ S) (kIte T cl a b ρ) := by
  rw [evW]
  cases evT T cl t ρ S with
  | none => rfl
  | some p => obtain ⟨b, S1⟩ := p; cases b <;> rfl
def kTup1  : (List D × Sto) → Option (W × Sto)
  | (ds, S) => some (.d (.tup ds), S)
theorem kTup1_e  (ds : List D) (S : Sto) : kTup1  (ds, S) = some (.d (.tup ds), S) := rfl
def kLst1  : (List D × Sto) → Option (W × Sto)
  | (ds, S) => some (.tmp ds, S)
theorem kLst1_e  (ds : List D) (S : Sto) : kLst1  (ds, S) = some (.tmp ds, S) := rfl
def kTup : List W × Sto → Option (W × Sto)
  | (ws, S) => if ws.length ≤ LN then bnd (matM ws S) kTup1 else none
theorem kTup_e {ws : List W} (S : Sto) (h : decide (ws.length ≤ LN) = true) : kTup (ws, S) = bnd (matM ws S) kTup1 := if_pos (of_decide_eq_true h)
def kLst : List W × Sto → Option (W × Sto)
  | (ws, S) => if ws.length ≤ LN then bnd (matM ws S) kLst1 else none
theorem kLst_e {ws : List W} (S : Sto) (h : decide (ws.length ≤ LN) = true) : kLst (ws, S) = bnd (matM ws S) kLst1 := if_pos (of_decide_eq_true h)
theorem e_tup (as) : evW T cl (.tup as) ρ S = bnd (evs T cl as ρ S) kTup := by
  rw [evW]
  cases evs T cl as ρ S <;> rfl
theorem e_lst (as) : evW T cl (.lst as) ρ S = bnd (evs T cl as ρ S) kLst := by
  rw [evW]
  cases evs T cl as ρ S <;> rfl
theorem o_nil : evO T cl .nil ρ S = some (none, S) := by rw [evO]
def kPartR (S : Sto) : Int → Option (Option Int × Sto)
  | i => some (some i, S)
theorem kPartR_e (S : Sto) (i : Int) : kPartR S i = some (some i, S) := rfl
def kPart  : (W × Sto) → Option (Option Int × Sto)
  | (x, S) => bnd (partW x) (kPartR S)
theorem kPart_e  (x : W) (S : Sto) : kPart  (x, S) = bnd (partW x) (kPartR S) := rfl
def kSl3 (x : W) (l : Option Int) : (Option Int × Sto) → Option (W × Sto)
  | (h, S) => bnd (slW S x l h) (kRet S)
theorem kSl3_e (x : W) (l : Option Int) (h : Option Int) (S : Sto) : kSl3 x l (h, S) = bnd (slW S x l h) (kRet S) := rfl
def kSl2 (T : Tab) (cl : Calls) (hi : E) (ρ : Env) (x : W) : (Option Int × Sto) → Option (W × Sto)
  | (l, S) => bnd (evO T cl hi ρ S) (kSl3 x l)
theorem kSl2_e (T : Tab) (cl : Calls) (hi : E) (ρ : Env) (x : W) (l : Option Int) (S : Sto) : kSl2 T cl hi ρ x (l, S) = bnd (evO T cl hi ρ S) (kSl3 x l) := rfl
def kSl1 (T : Tab) (cl : Calls) (lo : E) (hi : E) (ρ : Env) : (W × Sto) → Option (W × Sto)
  | (x, S) => bnd (evO T cl lo ρ S) (kSl2 T cl hi ρ x)
theorem kSl1_e (T : Tab) (cl : Calls) (lo : E) (hi : E) (ρ : Env) (x : W) (S : Sto) : kSl1 T cl lo hi ρ (x, S) = bnd (evO T cl lo ρ S) (kSl2 T cl hi ρ x) := rfl
def kRev  : (W × Sto) → Option (W × Sto)
  | (x, S) => bnd (revW S x) (kRet S)
theorem kRev_e  (x : W) (S : Sto) : kRev  (x, S) = bnd (revW S x) (kRet S) := rfl
def kCall1 (cl : Calls) (f : Str) : (List D × Sto) → Option (W × Sto)
  | (ds, S) => cl f ds S
theorem kCall1_e (cl : Calls) (f : Str) (ds : List D) (S : Sto) : kCall1 cl f (ds, S) = cl f ds S := rfl
def kCall (cl : Calls) (f : Str) : (List W × Sto) → Option (W × Sto)
  | (ws, S) => bnd (matM ws S) (kCall1 cl f)
theorem kCall_e (cl : Calls) (f : Str) (ws : List W) (S : Sto) : kCall cl f (ws, S) = bnd (matM ws S) (kCall1 cl f) := rfl
def kBi (b : BI) : (List W × Sto) → Option (W × Sto)
  | (ws, S) => bnd (biW S b ws) (kRet S)
theorem kBi_e (b : BI) (ws : List W) (S : Sto) : kBi b (ws, S) = bnd (biW S b ws) (kRet S) := rfl
def kDisp1 (ks : List Key) : (List D × Sto) → Option (W × Sto)
  | (ds, S) => some (.d (.ref S.length), S ++ [.dk (mergeD [] ks ds)])
theorem kDisp1_e (ks : List Key) (ds : List D) (S : Sto) : kDisp1 ks (ds, S) = some (.d (.ref S.length), S ++ [.dk (mergeD [] ks ds)]) := rfl
def kS2 (x : W) : (List W × Sto) → Option (List W × Sto)
  | (ws, S) => some (x :: ws, S)
theorem kS2_e (x : W) (ws : List W) (S : Sto) : kS2 x (ws, S) = some (x :: ws, S) := rfl
def kS1 (T : Tab) (cl : Calls) (as : E) (ρ : Env) : (W × Sto) → Option (List W × Sto)
  | (x, S) => bnd (evs T cl as ρ S) (kS2 x)
theorem kS1_e (T : Tab) (cl : Calls) (as : E) (ρ : Env) (x : W) (S : Sto) : kS1 T cl as ρ (x, S) = bnd (evs T cl as ρ S) (kS2 x) := rfl
theorem o_some (a b) : evO T cl (.cons a b) ρ S = bnd (evW T cl a ρ S) kPart := by
  rw [evO]
  cases evW T cl a ρ S with
  | none => rfl
  | some p => obtain ⟨w, S1⟩ := p; cases w with
    | tmp => rfl
    | d x => cases x <;> rfl
theorem e_slc (a lo hi) : evW T cl (.slc a lo hi) ρ S = bnd (evW T cl a ρ S) (kSl1 T cl lo hi ρ) := by
  rw [evW]
  cases evW T cl a ρ S with
  | none => rfl
  | some p =>
    obtain ⟨x, S1⟩ := p
    simp only [bnd_some, kSl1_e]
    cases evO T cl lo ρ S1 with
    | none => rfl
    | some q =>
      obtain ⟨l, S2⟩ := q
      simp only [bnd_some, kSl2_e]
      cases evO T cl hi ρ S2 with
      | none => rfl
      | some r => obtain ⟨h, S3⟩ := r; simp only [bnd_some, kSl3_e]; cases slW S3 x l h <;> rfl
theorem e_rev (a) : evW T cl (.rev a) ρ S = bnd (evW T cl a ρ S) kRev := by
  rw [evW]
  cases evW T cl a ρ S with
  | none => rfl
  | some p => obtain ⟨x, S1⟩ := p; simp only [bnd_some, kRev_e]; cases revW S1 x <;> rfl
theorem e_call (f as) : evW T cl (.call f as) ρ S = bnd (evs T cl as ρ S) (kCall cl f) := by
  rw [evW]
  cases evs T cl as ρ S <;> rfl
def kLc2 (T : Tab) (cl : Calls) (f : Str) : List W × Sto → Option (W × Sto)
  | (ws, S) => if T.defs.lookup f = some ws.length then bnd (matM ws S) (kCall1 cl f) else none
theorem kLc2_e {f : Str} {ws : List W} (S : Sto) (h : T.defs.lookup f = some ws.length) : kLc2 T cl f (ws, S) = bnd (matM ws S) (kCall1 cl f) := if_pos h
def kLc1 (T : Tab) (cl : Calls) (as : E) (ρ : Env) (S : Sto) : Str → Option (W × Sto)
  | f => bnd (evs T cl as ρ S) (kLc2 T cl f)
theorem kLc1_e (as : E) (f : Str) : kLc1 T cl as ρ S f = bnd (evs T cl as ρ S) (kLc2 T cl f) := rfl
def kLc0 (T : Tab) (cl : Calls) (as : E) (ρ : Env) (S : Sto) : D → Option (W × Sto)
  | d => bnd (fnD d) (kLc1 T cl as ρ S)
theorem kLc0_e (as : E) (d : D) : kLc0 T cl as ρ S d = bnd (fnD d) (kLc1 T cl as ρ S) := rfl
theorem e_lcall (i x as) : evW T cl (.lcall i x as) ρ S = bnd (lk ρ i) (kLc0 T cl as ρ S) := by
  rw [lk_eq, evW]
  cases h : ρ[i]? with
  | none => rfl
  | some o => cases o with
    | none => rfl
    | some d => cases d with
      | fn f =>
        simp only [Option.join_some, bnd_some, kLc0_e, fnD, kLc1_e]
        cases evs T cl as ρ S <;> rfl
      | _ => rfl
theorem e_bi (b as) : evW T cl (.bi b as) ρ S = bnd (evs T cl as ρ S) (kBi b) := by
  rw [evW]
  cases evs T cl as ρ S with
  | none => rfl
  | some p => obtain ⟨ws, S1⟩ := p; simp only [bnd_some, kBi_e]; cases biW S1 b ws <;> rfl
def kDisp (ks : List Key) : List W × Sto → Option (W × Sto)
  | (ws, S) => if ws.length = ks.length then bnd (matM ws S) (kDisp1 ks) else none
theorem kDisp_e {ks : List Key} {ws : List W} (S : Sto) (h : decide (ws.length = ks.length) = true) : kDisp ks (ws, S) = bnd (matM ws S) (kDisp1 ks) := if_pos (of_decide_eq_true h)
theorem e_disp (ks as) : evW T cl (.disp ks as) ρ S = bnd (evs T cl as ρ S) (kDisp ks) := by
  rw [evW]
  cases evs T cl as ρ S <;> rfl
theorem s_nil : evs T cl .nil ρ S = some ([], S) := by rw [evs]
theorem s_cons (a as) : evs T cl (.cons a as) ρ S = bnd (evW T cl a ρ S) (kS1 T cl as ρ) := by
  rw [evs]
  cases evW T cl a ρ S with
  | none => rfl
  | some p => obtain ⟨x, S1⟩ := p; simp only [bnd_some, kS1_e]; cases evs T cl as ρ S1 <;> rfl
def kLcM  : (D × Sto) → Option (Option D × Sto)
  | (d, S) => some (some d, S)
theorem kLcM_e  (d : D) (S : Sto) : kLcM  (d, S) = some (some d, S) := rfl
def kLcE  : (W × Sto) → Option (Option D × Sto)
  | (x, S) => bnd (mat1 x S) kLcM
theorem kLcE_e  (x : W) (S : Sto) : kLcE  (x, S) = bnd (mat1 x S) kLcM := rfl
def kLcT (T : Tab) (cl : Calls) (elt : E) (ρ : Env) : Bool × Sto → Option (Option D × Sto)
  | (true, S) => bnd (evW T cl elt ρ S) kLcE
  | (false, S) => some (none, S)
theorem kLcT_t (elt) : kLcT T cl elt ρ (true, S) = bnd (evW T cl elt ρ S) kLcE := rfl
theorem kLcT_f (elt) : kLcT T cl elt ρ (false, S) = some (none, S) := rfl
def kLcP (T : Tab) (cl : Calls) (elt tst : E) (S : Sto) : Env → Option (Option D × Sto)
  | ρ => bnd (evC T cl tst ρ S) (kLcT T cl elt ρ)
theorem kLcP_e (elt tst) : kLcP T cl elt tst S ρ = bnd (evC T cl tst ρ S) (kLcT T cl elt ρ) := rfl
/-- one round of a comprehension -/
def lcStep (own : List (Str × Nat)) (elt : E) (p : P) (tst : E) (ρ : Env) : D → Sto → Option (Option D × Sto) := fun d S =>
  bnd (bindP p d (wipeD ρ (own.map (·.2)))) (kLcP T cl elt tst S)
theorem lcStep_e (own elt p tst ρ d S) : lcStep T cl own elt p tst ρ d S = bnd (bindP p d (wipeD ρ (own.map (·.2)))) (kLcP T cl elt tst S) := rfl
def kLcR  : (List D × Sto) → Option (W × Sto)
  | (ds, S) => some (.tmp ds, S)
theorem kLcR_e  (ds : List D) (S : Sto) : kLcR  (ds, S) = some (.tmp ds, S) := rfl
def kLc (T : Tab) (cl : Calls) (own : List (Str × Nat)) (elt : E) (p : P) (tst : E) (ρ : Env) : (List D × Grd) × Sto → Option (W × Sto)
  | ((xs, g), S) => bnd (lcLoop g (lcStep T cl own elt p tst ρ) xs [] S) kLcR
theorem kLc_e (own elt p tst xs g) : kLc T cl own elt p tst ρ ((xs, g), S) = bnd (lcLoop g (lcStep T cl own elt p tst ρ) xs [] S) kLcR := rfl
theorem e_lc (own elt p it tst) : evW T cl (.lc own elt p it tst) ρ S = bnd (evI T cl it ρ S) (kLc T cl own elt p tst ρ) := by
  rw [evW]
  cases evI T cl it ρ S with
  | none => rfl
  | some q =>
    obtain ⟨⟨xs, g⟩, S1⟩ := q
    simp only [bnd_some, kLc_e]
    have e : (fun (d : D) (S : Sto) => match bindP p d (wipeD ρ (own.map (·.2))) with
          | none => none
          | some ρ' => match evC T cl tst ρ' S with
            | none => none
            | some (false, S') => some (none, S')
            | some (true, S') => match evW T cl elt ρ' S' with
              | none => none
              | some (w, S'') => some (some (matW w S'').1, (matW w S'').2)) = lcStep T cl own elt p tst ρ := by
      funext d S
      unfold lcStep
      cases bindP p d (wipeD ρ (own.map (·.2))) with
      | none => rfl
      | some ρ' =>
        simp only [bnd_some, kLcP_e]
        cases evC T cl tst ρ' S with
        | none => rfl
        | some z =>
          obtain ⟨b, S1⟩ := z
          cases b with
          | false => rfl
          | true =>
            simp only [bnd_some, kLcT_t]
            cases evW T cl elt ρ' S1 <;> rfl
    rw [← e]
    generalize lcLoop g _ xs [] S1 = z
    cases z <;> rfl
theorem c_nil : evC T cl .nil ρ S = some (true, S) := by rw [evC]
theorem c_cons (a b) : evC T cl (.cons a b) ρ S = evT T cl a ρ S := by rw [evC]
def kIRet (S : Sto) (g : Grd) : (List D) → Option ((List D × Grd) × Sto)
  | xs => some ((xs, g), S)
theorem kIRet_e (S : Sto) (g : Grd) (xs : List D) : kIRet S g xs = some ((xs, g), S) := rfl
def kIEn (S : Sto) (g : Grd) : (List D) → Option ((List D × Grd) × Sto)
  | xs => some ((enumL xs, g), S)
theorem kIEn_e (S : Sto) (g : Grd) (xs : List D) : kIEn S g xs = some ((enumL xs, g), S) := rfl
def kRng  : (List W × Sto) → Option ((List D × Grd) × Sto)
  | (ws, S) => bnd (rngW ws) (kIRet S [])
theorem kRng_e  (ws : List W) (S : Sto) : kRng  (ws, S) = bnd (rngW ws) (kIRet S []) := rfl
def kEnm  : (W × Sto) → Option ((List D × Grd) × Sto)
  | (x, S) => bnd (seqOf S x) (kIEn S (guardOf S x))
theorem kEnm_e  (x : W) (S : Sto) : kEnm  (x, S) = bnd (seqOf S x) (kIEn S (guardOf S x)) := rfl
def kSeq  : (W × Sto) → Option ((List D × Grd) × Sto)
  | (x, S) => bnd (seqOf S x) (kIRet S (guardOf S x))
theorem kSeq_e  (x : W) (S : Sto) : kSeq  (x, S) = bnd (seqOf S x) (kIRet S (guardOf S x)) := rfl
theorem i_rng (as) : evI T cl (.rng as) ρ S = bnd (evs T cl as ρ S) kRng := by
  rw [evI]
  cases evs T cl as ρ S with
  | none => rfl
  | some p => obtain ⟨ws, S1⟩ := p; simp only [bnd_some, kRng_e]; cases rngW ws <;> rfl
theorem i_enm (a) : evI T cl (.enm a) ρ S = bnd (evW T cl a ρ S) kEnm := by
  rw [evI]
  cases evW T cl a ρ S with
  | none => rfl
  | some p => obtain ⟨x, S1⟩ := p; simp only [bnd_some, kEnm_e]; cases seqOf S1 x <;> rfl
theorem i_seq (a) : evI T cl (.cons a .nil) ρ S = bnd (evW T cl a ρ S) kSeq := by
  rw [evI]
  cases evW T cl a ρ S with
  | none => rfl
  | some p => obtain ⟨x, S1⟩ := p; simp only [bnd_some, kSeq_e]; cases seqOf S1 x <;> rfl
def kApp4 (n : Nat) (S : Sto) (d : D) : List D → Option (W × Sto)
  | xs => if xs.length < LN then some (.d .non, S.set n (.lst (xs ++ [d]))) else none
theorem kApp4_e {n : Nat} {d : D} {xs : List D} (h : xs.length < LN) : kApp4 n S d xs = some (.d .non, S.set n (.lst (xs ++ [d]))) := if_pos h
def kApp3 (n : Nat) : (D × Sto) → Option (W × Sto)
  | (d, S) => bnd (lstO S[n]?) (kApp4 n S d)
theorem kApp3_e (n : Nat) (d : D) (S : Sto) : kApp3 n (d, S) = bnd (lstO S[n]?) (kApp4 n S d) := rfl
def kApp2 (n : Nat) : (W × Sto) → Option (W × Sto)
  | (x, S) => bnd (mat1 x S) (kApp3 n)
theorem kApp2_e (n : Nat) (x : W) (S : Sto) : kApp2 n (x, S) = bnd (mat1 x S) (kApp3 n) := rfl
def kApp1 (T : Tab) (cl : Calls) (e : E) (ρ : Env) (n : Nat) (S : Sto) : (List D) → Option (W × Sto)
  | _x => bnd (evW T cl e ρ S) (kApp2 n)
theorem kApp1_e (T : Tab) (cl : Calls) (e : E) (ρ : Env) (n : Nat) (S : Sto) (_x : List D) : kApp1 T cl e ρ n S _x = bnd (evW T cl e ρ S) (kApp2 n) := rfl
def kApp0 (T : Tab) (cl : Calls) (e : E) (ρ : Env) (S : Sto) : Nat → Option (W × Sto)
  | n => bnd (lstO S[n]?) (kApp1 T cl e ρ n S)
theorem kApp0_e (T : Tab) (cl : Calls) (e : E) (ρ : Env) (S : Sto) (n : Nat) : kApp0 T cl e ρ S n = bnd (lstO S[n]?) (kApp1 T cl e ρ n S) := rfl
def kApp (T : Tab) (cl : Calls) (e : E) (ρ : Env) : (W × Sto) → Option (W × Sto)
  | (x, S) => bnd (refW x) (kApp0 T cl e ρ S)
theorem kApp_e (T : Tab) (cl : Calls) (e : E) (ρ : Env) (x : W) (S : Sto) : kApp T cl e ρ (x, S) = bnd (refW x) (kApp0 T cl e ρ S) := rfl
theorem e_app (o e) : evW T cl (.app o e) ρ S = bnd (evW T cl o ρ S) (kApp T cl e ρ) := by
  rw [evW]
  cases evW T cl o ρ S with
  | none => rfl
  | some p =>
    obtain ⟨w, S1⟩ := p
    cases w with
    | tmp => rfl
    | d x => cases x with
      | ref n =>
        simp only [bnd_some, kApp_e, refW, kApp0_e]
        cases S1[n]? with
        | none => rfl
        | some u => cases u with
          | dk => rfl
          | lst ys =>
            simp only [lstO, bnd_some, kApp1_e]
            cases evW T cl e ρ S1 with
            | none => rfl
            | some q =>
              obtain ⟨y, S2⟩ := q
              simp only [bnd_some, kApp2_e, mat1]
              show _ = bnd (lstO (matW y S2).2[n]?) _
              generalize (matW y S2).2[n]? = z
              cases z with
              | none => rfl
              | some u => cases u <;> rfl
      | _ => rfl
/-! patterns -/
theorem p_nm (i x d) : bindP (.nm i x) d ρ = some (stv ρ i d) := by rw [bindP, stv_eq]
theorem p_tup (ps ds) : bindP (.tup ps) (.tup ds) ρ = bindPs ps ds ρ := by rw [bindP]
theorem p_nil : bindPs .nil [] ρ = some ρ := by rw [bindPs]
def kPs (ps : P) (ds : List D) : Env → Option Env
  | ρ => bindPs ps ds ρ
theorem kPs_e (ps ds) : kPs ps ds ρ = bindPs ps ds ρ := rfl
theorem p_cons (p ps d ds) : bindPs (.cons p ps) (d :: ds) ρ = bnd (bindP p d ρ) (kPs ps ds) := by
  rw [bindPs]
  cases bindP p d ρ <;> rfl
/-! statements -/
/-- a statement and what comes behind -/
def sq (T : Tab) (cl : Calls) (F : Nat) (ss : Sm) (r : Option (Fl × Env × Sto)) : Option (Fl × Env × Sto) := match r with
  | none => none
  | some (.nx, ρ, S) => evS T cl F ss ρ S
  | some q => some q
theorem sq_nx (ss) : sq T cl F ss (some (.nx, ρ, S)) = evS T cl F ss ρ S := rfl
theorem sq_rt (w : W) (ss) : sq T cl F ss (some (.rt w, ρ, S)) = some (.rt w, ρ, S) := rfl
theorem sq_bk (ss) : sq T cl F ss (some (.bk, ρ, S)) = some (.bk, ρ, S) := rfl
theorem sq_ct (ss) : sq T cl F ss (some (.ct, ρ, S)) = some (.ct, ρ, S) := rfl
theorem x_nil : evS T cl F .nil ρ S = some (.nx, ρ, S) := by rw [evS]
theorem x_cons (s ss) : evS T cl F (.cons s ss) ρ S = sq T cl F ss (evS T cl F s ρ S) := by
  rw [evS]
  cases evS T cl F s ρ S with
  | none => rfl
  | some p => obtain ⟨f, r, S1⟩ := p; cases f <;> rfl
def kAs3 (S : Sto) : Env → Option (Fl × Env × Sto)
  | ρ => some (.nx, ρ, S)
theorem kAs3_e (S : Sto) (ρ : Env) : kAs3 S ρ = some (.nx, ρ, S) := rfl
def kAs2 (p : P) (ρ : Env) : (D × Sto) → Option (Fl × Env × Sto)
  | (d, S) => bnd (bindP p d ρ) (kAs3 S)
theorem kAs2_e (p : P) (ρ : Env) (d : D) (S : Sto) : kAs2 p ρ (d, S) = bnd (bindP p d ρ) (kAs3 S) := rfl
def kAs1 (p : P) (ρ : Env) : (W × Sto) → Option (Fl × Env × Sto)
  | (x, S) => bnd (mat1 x S) (kAs2 p ρ)
theorem kAs1_e (p : P) (ρ : Env) (x : W) (S : Sto) : kAs1 p ρ (x, S) = bnd (mat1 x S) (kAs2 p ρ) := rfl
def kSc2 (i : Nat) (ρ : Env) : (D × Sto) → Option (Fl × Env × Sto)
  | (d, S) => some (.nx, stv ρ i d, S)
theorem kSc2_e (i : Nat) (ρ : Env) (d : D) (S : Sto) : kSc2 i ρ (d, S) = some (.nx, stv ρ i d, S) := rfl
def kSc1 (i : Nat) (ρ : Env) : (W × Sto) → Option (Fl × Env × Sto)
  | (x, S) => bnd (mat1 x S) (kSc2 i ρ)
theorem kSc1_e (i : Nat) (ρ : Env) (x : W) (S : Sto) : kSc1 i ρ (x, S) = bnd (mat1 x S) (kSc2 i ρ) := rfl
theorem x_asg (p e) : evS T cl F (.asg p e) ρ S = bnd (evW T cl e ρ S) (kAs1 p ρ) := by
  rw [evS]
  cases evW T cl e ρ S with
  | none => rfl
  | some q =>
    obtain ⟨x, S1⟩ := q
    simp only [bnd_some, kAs1_e, mat1]
    show _ = bnd (bindP p (matW x S1).1 ρ) _
    cases bindP p (matW x S1).1 ρ <;> rfl
theorem x_setLc (i x own elt p it tst) : evS T cl F (.setLc i x own elt p it tst) ρ S = bnd (evW T cl (.lc own elt p it tst) ρ S) (kSc1 i ρ) := by
  rw [evS]
  cases evW T cl (.lc own elt p it tst) ρ S with
  | none => rfl
  | some q => obtain ⟨x, S1⟩ := q; show some _ = some (Fl.nx, stv ρ i (matW x S1).1, (matW x S1).2); rw [stv_eq]
def kP2b (i j : Nat) (ρ : Env) : List D × Sto → Option (Fl × Env × Sto)
  | ([a, b], S) => some (.nx, stv (stv ρ i a) j b, S)
  | _ => none
theorem kP2b_e (i j a b) : kP2b i j ρ ([a, b], S) = some (.nx, stv (stv ρ i a) j b, S) := rfl
def kP3b (i j k : Nat) (ρ : Env) : List D × Sto → Option (Fl × Env × Sto)
  | ([a, b, c], S) => some (.nx, stv (stv (stv ρ i a) j b) k c, S)
  | _ => none
theorem kP3b_e (i j k a b c) : kP3b i j k ρ ([a, b, c], S) = some (.nx, stv (stv (stv ρ i a) j b) k c, S) := rfl
def kP2 (i : Nat) (j : Nat) (ρ : Env) : (List W × Sto) → Option (Fl × Env × Sto)
  | (ws, S) => bnd (matM ws S) (kP2b i j ρ)
theorem kP2_e (i : Nat) (j : Nat) (ρ : Env) (ws : List W) (S : Sto) : kP2 i j ρ (ws, S) = bnd (matM ws S) (kP2b i j ρ) := rfl
def kP3 (i : Nat) (j : Nat) (k : Nat) (ρ : Env) : (List W × Sto) → Option (Fl × Env × Sto)
  | (ws, S) => bnd (matM ws S) (kP3b i j k ρ)
theorem kP3_e (i : Nat) (j : Nat) (k : Nat) (ρ : Env) (ws : List W) (S : Sto) : kP3 i j k ρ (ws, S) = bnd (matM ws S) (kP3b i j k ρ) := rfl
theorem x_par2 (i x j y as) : evS T cl F (.par2 i x j y as) ρ S = bnd (evs T cl as ρ S) (kP2 i j ρ) := by
  rw [evS]
  cases evs T cl as ρ S with
  | none => rfl
  | some p =>
    obtain ⟨ws, S1⟩ := p
    show _ = kP2b i j ρ ((matsW ws S1).1, (matsW ws S1).2)
    simp only []
    generalize (matsW ws S1).1 = z
    match z with
    | [] => rfl
    | [_] => rfl
    | [a, b] => rw [kP2b_e, stv_eq, stv_eq]
    | _ :: _ :: _ :: _ => rfl
theorem x_par3 (i x j y k z as) : evS T cl F (.par3 i x j y k z as) ρ S = bnd (evs T cl as ρ S) (kP3 i j k ρ) := by
  rw [evS]
  cases evs T cl as ρ S with
  | none => rfl
  | some p =>
    obtain ⟨ws, S1⟩ := p
    show _ = kP3b i j k ρ ((matsW ws S1).1, (matsW ws S1).2)
    simp only []
    generalize (matsW ws S1).1 = z
    match z with
    | [] => rfl
    | [_] => rfl
    | [_, _] => rfl
    | [a, b, c] => rw [kP3b_e, stv_eq, stv_eq, stv_eq]
    | _ :: _ :: _ :: _ :: _ => rfl
def kSd6 (ρ : Env) (n : Nat) (S : Sto) (d : D) (kvs : List (Key × D)) : Key → Option (Fl × Env × Sto)
  | k => if kvs.length < LN then some (.nx, ρ, S.set n (.dk (putD kvs k d))) else none
theorem kSd6_e {n : Nat} {d : D} {kvs : List (Key × D)} {k : Key} (h : decide (kvs.length < LN) = true) : kSd6 ρ n S d kvs k = some (.nx, ρ, S.set n (.dk (putD kvs k d))) := if_pos (of_decide_eq_true h)
def kSd5 (ρ : Env) (n : Nat) (S : Sto) (d : D) (kd : D) : (List (Key × D)) → Option (Fl × Env × Sto)
  | kvs => bnd (keyD kd) (kSd6 ρ n S d kvs)
theorem kSd5_e (ρ : Env) (n : Nat) (S : Sto) (d : D) (kd : D) (kvs : List (Key × D)) : kSd5 ρ n S d kd kvs = bnd (keyD kd) (kSd6 ρ n S d kvs) := rfl
def kSd4 (ρ : Env) (n : Nat) (kd : D) : (D × Sto) → Option (Fl × Env × Sto)
  | (d, S) => bnd (dkO S[n]?) (kSd5 ρ n S d kd)
theorem kSd4_e (ρ : Env) (n : Nat) (kd : D) (d : D) (S : Sto) : kSd4 ρ n kd (d, S) = bnd (dkO S[n]?) (kSd5 ρ n S d kd) := rfl
def kSd3 (ρ : Env) (n : Nat) (x : W) (S : Sto) : D → Option (Fl × Env × Sto)
  | kd => bnd (mat1 x S) (kSd4 ρ n kd)
theorem kSd3_e (ρ : Env) (n : Nat) (x : W) (S : Sto) (kd : D) : kSd3 ρ n x S kd = bnd (mat1 x S) (kSd4 ρ n kd) := rfl
def kSd2 (ρ : Env) (n : Nat) (x : W) : (W × Sto) → Option (Fl × Env × Sto)
  | (y, S) => bnd (dW y) (kSd3 ρ n x S)
theorem kSd2_e (ρ : Env) (n : Nat) (x : W) (y : W) (S : Sto) : kSd2 ρ n x (y, S) = bnd (dW y) (kSd3 ρ n x S) := rfl
def kSd1 (T : Tab) (cl : Calls) (i : E) (ρ : Env) (x : W) (S : Sto) : Nat → Option (Fl × Env × Sto)
  | n => bnd (evW T cl i ρ S) (kSd2 ρ n x)
theorem kSd1_e (T : Tab) (cl : Calls) (i : E) (ρ : Env) (x : W) (S : Sto) (n : Nat) : kSd1 T cl i ρ x S n = bnd (evW T cl i ρ S) (kSd2 ρ n x) := rfl
def kSd0 (T : Tab) (cl : Calls) (i : E) (ρ : Env) (x : W) : (W × Sto) → Option (Fl × Env × Sto)
  | (o, S) => bnd (refW o) (kSd1 T cl i ρ x S)
theorem kSd0_e (T : Tab) (cl : Calls) (i : E) (ρ : Env) (x : W) (o : W) (S : Sto) : kSd0 T cl i ρ x (o, S) = bnd (refW o) (kSd1 T cl i ρ x S) := rfl
def kSd (T : Tab) (cl : Calls) (o : E) (i : E) (ρ : Env) : (W × Sto) → Option (Fl × Env × Sto)
  | (x, S) => bnd (evW T cl o ρ S) (kSd0 T cl i ρ x)
theorem kSd_e (T : Tab) (cl : Calls) (o : E) (i : E) (ρ : Env) (x : W) (S : Sto) : kSd T cl o i ρ (x, S) = bnd (evW T cl o ρ S) (kSd0 T cl i ρ x) := rfl
theorem x_setd (o i e) : evS T cl F (.setd o i e) ρ S = bnd (evW T cl e ρ S) (kSd T cl o i ρ) := by
  rw [evS]
  cases evW T cl e ρ S with
  | none => rfl
  | some p =>
    obtain ⟨x, S0⟩ := p
    simp only [bnd_some, kSd_e]
    cases evW T cl o ρ S0 with
    | none => rfl
    | some q =>
      obtain ⟨w, S1⟩ := q
      cases w with
      | tmp => rfl
      | d x => cases x with
        | ref n =>
          simp only [bnd_some, kSd0_e, refW, kSd1_e]
          cases evW T cl i ρ S1 with
          | none => rfl
          | some r =>
            obtain ⟨u, S2⟩ := r
            cases u with
            | tmp => rfl
            | d kd =>
              simp only [bnd_some, kSd2_e, dW, kSd3_e, mat1]
              show _ = bnd (dkO (matW x S2).2[n]?) _
              generalize (matW x S2).2[n]? = z
              cases z with
              | none => rfl
              | some o => cases o with
                | lst => rfl
                | dk kvs =>
                  simp only [dkO, bnd_some, kSd5_e]
                  cases keyD kd <;> rfl
        | _ => rfl
def kSi5 (ρ : Env) (n : Nat) (S : Sto) (d : D) (xs : List D) : Nat → Option (Fl × Env × Sto)
  | j => some (.nx, ρ, S.set n (.lst (xs.set j d)))
theorem kSi5_e (n d xs j) : kSi5 ρ n S d xs j = some (.nx, ρ, S.set n (.lst (xs.set j d))) := rfl
def kSi4b (ρ : Env) (n : Nat) (S : Sto) (d : D) (k : Int) : (List D) → Option (Fl × Env × Sto)
  | xs => bnd (ixN xs.length k) (kSi5 ρ n S d xs)
theorem kSi4b_e (ρ : Env) (n : Nat) (S : Sto) (d : D) (k : Int) (xs : List D) : kSi4b ρ n S d k xs = bnd (ixN xs.length k) (kSi5 ρ n S d xs) := rfl
def kSi4 (ρ : Env) (n : Nat) (k : Int) : (D × Sto) → Option (Fl × Env × Sto)
  | (d, S) => bnd (lstO S[n]?) (kSi4b ρ n S d k)
theorem kSi4_e (ρ : Env) (n : Nat) (k : Int) (d : D) (S : Sto) : kSi4 ρ n k (d, S) = bnd (lstO S[n]?) (kSi4b ρ n S d k) := rfl
def kSi3 (ρ : Env) (n : Nat) (x : W) (S : Sto) : Int → Option (Fl × Env × Sto)
  | k => bnd (mat1 x S) (kSi4 ρ n k)
theorem kSi3_e (ρ : Env) (n : Nat) (x : W) (S : Sto) (k : Int) : kSi3 ρ n x S k = bnd (mat1 x S) (kSi4 ρ n k) := rfl
def kSi2 (ρ : Env) (n : Nat) (x : W) : (W × Sto) → Option (Fl × Env × Sto)
  | (y, S) => bnd (partW y) (kSi3 ρ n x S)
theorem kSi2_e (ρ : Env) (n : Nat) (x : W) (y : W) (S : Sto) : kSi2 ρ n x (y, S) = bnd (partW y) (kSi3 ρ n x S) := rfl
def kSi1 (T : Tab) (cl : Calls) (i : E) (ρ : Env) (x : W) (S : Sto) : Nat → Option (Fl × Env × Sto)
  | n => bnd (evW T cl i ρ S) (kSi2 ρ n x)
theorem kSi1_e (T : Tab) (cl : Calls) (i : E) (ρ : Env) (x : W) (S : Sto) (n : Nat) : kSi1 T cl i ρ x S n = bnd (evW T cl i ρ S) (kSi2 ρ n x) := rfl
def kSi0 (T : Tab) (cl : Calls) (i : E) (ρ : Env) (x : W) : (W × Sto) → Option (Fl × Env × Sto)
  | (o, S) => bnd (refW o) (kSi1 T cl i ρ x S)
theorem kSi0_e (T : Tab) (cl : Calls) (i : E) (ρ : Env) (x : W) (o : W) (S : Sto) : kSi0 T cl i ρ x (o, S) = bnd (refW o) (kSi1 T cl i ρ x S) := rfl
def kSi (T : Tab) (cl : Calls) (o : E) (i : E) (ρ : Env) : (W × Sto) → Option (Fl × Env × Sto)
  | (x, S) => bnd (evW T cl o ρ S) (kSi0 T cl i ρ x)
theorem kSi_e (T : Tab) (cl : Calls) (o : E) (i : E) (ρ : Env) (x : W) (S : Sto) : kSi T cl o i ρ (x, S) = bnd (evW T cl o ρ S) (kSi0 T cl i ρ x) := rfl
theorem x_seti (o i e) : evS T cl F (.seti o i e) ρ S = bnd (evW T cl e ρ S) (kSi T cl o i ρ) := by
  rw [evS]
  cases evW T cl e ρ S with
  | none => rfl
  | some p =>
    obtain ⟨x, S0⟩ := p
    simp only [bnd_some, kSi_e]
    cases evW T cl o ρ S0 with
    | none => rfl
    | some q =>
      obtain ⟨w, S1⟩ := q
      cases w with
      | tmp => rfl
      | d y => cases y with
        | ref n =>
          simp only [bnd_some, kSi0_e, refW, kSi1_e]
          cases evW T cl i ρ S1 with
          | none => rfl
          | some r =>
            obtain ⟨u, S2⟩ := r
            cases u with
            | tmp => rfl
            | d kd => cases kd with
              | int k =>
                simp only [bnd_some, kSi2_e, partW, kSi3_e, mat1]
                show _ = bnd (lstO (matW x S2).2[n]?) _
                generalize (matW x S2).2[n]? = z
                cases z with
                | none => rfl
                | some o => cases o with
                  | dk => rfl
                  | lst xs =>
                    simp only [lstO, bnd_some, kSi4b_e]
                    cases ixN xs.length k <;> rfl
              | _ => rfl
        | _ => rfl
def kAu3 (i : Nat) (ρ : Env) (S : Sto) : D → Option (Fl × Env × Sto)
  | z => some (.nx, stv ρ i z, S)
theorem kAu3_e (i : Nat) (ρ : Env) (S : Sto) (z : D) : kAu3 i ρ S z = some (.nx, stv ρ i z, S) := rfl
def kAu2 (i : Nat) (ρ : Env) (b : Bop) (d : D) : (W × Sto) → Option (Fl × Env × Sto)
  | (x, S) => bnd (augW b d x) (kAu3 i ρ S)
theorem kAu2_e (i : Nat) (ρ : Env) (b : Bop) (d : D) (x : W) (S : Sto) : kAu2 i ρ b d (x, S) = bnd (augW b d x) (kAu3 i ρ S) := rfl
def kAu1 (T : Tab) (cl : Calls) (i : Nat) (ρ : Env) (b : Bop) (e : E) (S : Sto) : D → Option (Fl × Env × Sto)
  | d => bnd (evW T cl e ρ S) (kAu2 i ρ b d)
theorem kAu1_e (T : Tab) (cl : Calls) (i : Nat) (ρ : Env) (b : Bop) (e : E) (S : Sto) (d : D) : kAu1 T cl i ρ b e S d = bnd (evW T cl e ρ S) (kAu2 i ρ b d) := rfl
def kEx (ρ : Env) : (W × Sto) → Option (Fl × Env × Sto)
  | (_x, S) => some (.nx, ρ, S)
theorem kEx_e (ρ : Env) (_x : W) (S : Sto) : kEx ρ (_x, S) = some (.nx, ρ, S) := rfl
def kRt (ρ : Env) : (W × Sto) → Option (Fl × Env × Sto)
  | (x, S) => some (.rt x, ρ, S)
theorem kRt_e (ρ : Env) (x : W) (S : Sto) : kRt ρ (x, S) = some (.rt x, ρ, S) := rfl
theorem x_aug (i x b e) : evS T cl F (.aug i x b e) ρ S = bnd (lk ρ i) (kAu1 T cl i ρ b e S) := by
  rw [lk_eq, evS]
  cases h : ρ[i]? with
  | none => rfl
  | some o => cases o with
    | none => rfl
    | some d =>
      simp only [Option.join_some, bnd_some, kAu1_e]
      cases evW T cl e ρ S with
      | none => rfl
      | some p =>
        obtain ⟨x, S1⟩ := p
        simp only [bnd_some, kAu2_e]
        cases augW b d x with
        | none => rfl
        | some z => show some _ = some (Fl.nx, stv ρ i z, S1); rw [stv_eq]
theorem x_expr (e) : evS T cl F (.expr e) ρ S = bnd (evW T cl e ρ S) (kEx ρ) := by
  rw [evS]
  cases evW T cl e ρ S <;> rfl
theorem x_ret (e) : evS T cl F (.ret e) ρ S = bnd (evW T cl e ρ S) (kRt ρ) := by
  rw [evS]
  cases evW T cl e ρ S <;> rfl
theorem x_ret0 : evS T cl F .ret0 ρ S = some (.rt (.d .non), ρ, S) := by rw [evS]
def kIf (T : Tab) (cl : Calls) (F : Nat) (a b : Sm) (ρ : Env) : Bool × Sto → Option (Fl × Env × Sto)
  | (true, S) => evS T cl F a ρ S
  | (false, S) => evS T cl F b ρ S
theorem kIf_t (a b) : kIf T cl F a b ρ (true, S) = evS T cl F a ρ S := rfl
theorem kIf_f (a b) : kIf T cl F a b ρ (false, S) = evS T cl F b ρ S := rfl
theorem x_ite (t a b) : evS T cl F (.ite t a b) ρ S = bnd (evT T cl t ρ S) (kIf T cl F a b ρ) := by
  rw [evS]
  cases evT T cl t ρ S with
  | none => rfl
  | some p => obtain ⟨b, S1⟩ := p; cases b <;> rfl
def kStp (T : Tab) (cl : Calls) (F : Nat) (b : Sm) (S : Sto) : Env → Option (Fl × Env × Sto)
  | ρ => evS T cl F b ρ S
theorem kStp_e (b) : kStp T cl F b S ρ = evS T cl F b ρ S := rfl
/-- one round of a for -/
def stp (p : P) (b : Sm) : D → Env → Sto → Option (Fl × Env × Sto) := fun d ρ S => bnd (bindP p d ρ) (kStp T cl F b S)
theorem stp_e (p b d) : stp T cl F p b d ρ S = bnd (bindP p d ρ) (kStp T cl F b S) := rfl
def kFor (T : Tab) (cl : Calls) (F : Nat) (p : P) (b : Sm) (ρ : Env) : (List D × Grd) × Sto → Option (Fl × Env × Sto)
  | ((xs, g), S) => forLoop g (stp T cl F p b) xs ρ S
theorem kFor_e (p b xs g) : kFor T cl F p b ρ ((xs, g), S) = forLoop g (stp T cl F p b) xs ρ S := rfl
theorem x_for (p it b) : evS T cl F (.for p it b) ρ S = bnd (evI T cl it ρ S) (kFor T cl F p b ρ) := by
  rw [evS]
  cases evI T cl it ρ S with
  | none => rfl
  | some q =>
    obtain ⟨⟨xs, g⟩, S1⟩ := q
    simp only [bnd_some, kFor_e]
    congr 1
    funext d ρ S
    unfold stp
    cases bindP p d ρ <;> rfl
/-- a while -/
def whl (t : E) (b : Sm) : Nat → Env → Sto → Option (Fl × Env × Sto) := whileLoop (evT T cl t) (evS T cl F b)
theorem x_while (t b) : evS T cl F (.while t b) ρ S = whl T cl F t b F ρ S := by
  rw [evS]; rfl
def kWh2 (T : Tab) (cl : Calls) (F : Nat) (t : E) (b : Sm) (n : Nat) : Fl × Env × Sto → Option (Fl × Env × Sto)
  | (.nx, ρ', S') => whl T cl F t b n ρ' S'
  | (.ct, ρ', S') => whl T cl F t b n ρ' S'
  | (.bk, ρ', S') => some (.nx, ρ', S')
  | (.rt w, ρ', S') => some (.rt w, ρ', S')
theorem kWh2_nx (t b n) : kWh2 T cl F t b n (.nx, ρ, S) = whl T cl F t b n ρ S := rfl
theorem kWh2_ct (t b n) : kWh2 T cl F t b n (.ct, ρ, S) = whl T cl F t b n ρ S := rfl
theorem kWh2_bk (t b n) : kWh2 T cl F t b n (.bk, ρ, S) = some (.nx, ρ, S) := rfl
theorem kWh2_rt (t b n w) : kWh2 T cl F t b n (.rt w, ρ, S) = some (.rt w, ρ, S) := rfl
def kWh (T : Tab) (cl : Calls) (F : Nat) (t : E) (b : Sm) (n : Nat) (ρ : Env) : Bool × Sto → Option (Fl × Env × Sto)
  | (true, S) => bnd (evS T cl F b ρ S) (kWh2 T cl F t b n)
  | (false, S) => some (.nx, ρ, S)
theorem kWh_t (t b n) : kWh T cl F t b n ρ (true, S) = bnd (evS T cl F b ρ S) (kWh2 T cl F t b n) := rfl
theorem kWh_f (t b n) : kWh T cl F t b n ρ (false, S) = some (.nx, ρ, S) := rfl
theorem whl_s (t b n) : whl T cl F t b (n + 1) ρ S = bnd (evT T cl t ρ S) (kWh T cl F t b n ρ) := by
  unfold whl
  rw [whileLoop]
  cases evT T cl t ρ S with
  | none => rfl
  | some p =>
    obtain ⟨k, S1⟩ := p
    cases k with
    | false => rfl
    | true =>
      simp only [bnd_some, kWh_t]
      cases evS T cl F b ρ S1 with
      | none => rfl
      | some q => obtain ⟨f, r, S2⟩ := q; cases f <;> rfl
theorem x_pass : evS T cl F .pass ρ S = some (.nx, ρ, S) := by rw [evS]
theorem x_brk : evS T cl F .brk ρ S = some (.bk, ρ, S) := by rw [evS]
theorem x_cnt : evS T cl F .cnt ρ S = some (.ct, ρ, S) := by rw [evS]
end
/-! loops -/
def kFl (g : Grd) (st : D → Env → Sto → Option (Fl × Env × Sto)) (xs : List D) : Fl × Env × Sto → Option (Fl × Env × Sto)
  | (.nx, ρ, S) => forLoop g st xs ρ S
  | (.ct, ρ, S) => forLoop g st xs ρ S
  | (.bk, ρ, S) => some (.nx, ρ, S)
  | (.rt w, ρ, S) => some (.rt w, ρ, S)
theorem kFl_nx (g st xs ρ S) : kFl g st xs (.nx, ρ, S) = forLoop g st xs ρ S := rfl
theorem kFl_ct (g st xs ρ S) : kFl g st xs (.ct, ρ, S) = forLoop g st xs ρ S := rfl
theorem kFl_bk (g st xs ρ S) : kFl g st xs (.bk, ρ, S) = some (.nx, ρ, S) := rfl
theorem kFl_rt (g st xs w ρ S) : kFl g st xs (.rt w, ρ, S) = some (.rt w, ρ, S) := rfl
theorem forLoop_nil {g : Grd} {S : Sto} (st ρ) (h : chkG g S = true) : forLoop g st [] ρ S = some (.nx, ρ, S) := by
  rw [forLoop, if_pos h]
theorem forLoop_cons {g : Grd} {S : Sto} (st x xs ρ) (h : chkG g S = true) : forLoop g st (x :: xs) ρ S = bnd (st x ρ S) (kFl g st xs) := by
  rw [forLoop, if_pos h]
  cases st x ρ S with
  | none => rfl
  | some q => obtain ⟨f, r, S2⟩ := q; cases f <;> rfl
def kLl (g : Grd) (st : D → Sto → Option (Option D × Sto)) (xs acc : List D) : Option D × Sto → Option (List D × Sto)
  | (none, S) => lcLoop g st xs acc S
  | (some d, S) => if acc.length < LN then lcLoop g st xs (acc ++ [d]) S else none
theorem kLl_n (g st xs acc S) : kLl g st xs acc (none, S) = lcLoop g st xs acc S := rfl
theorem kLl_s {acc : List D} (g st xs d S) (h : acc.length < LN) : kLl g st xs acc (some d, S) = lcLoop g st xs (acc ++ [d]) S := if_pos h
theorem lcLoop_nil {g : Grd} {S : Sto} (st acc) (h : chkG g S = true) : lcLoop g st [] acc S = some (acc, S) := by
  rw [lcLoop, if_pos h]
theorem lcLoop_cons {g : Grd} {S : Sto} (st x xs acc) (h : chkG g S = true) : lcLoop g st (x :: xs) acc S = bnd (st x S) (kLl g st xs acc) := by
  rw [lcLoop, if_pos h]
  cases st x S with
  | none => rfl
  | some q => obtain ⟨f, S2⟩ := q; cases f <;> rfl
theorem chkG_nil (S : Sto) : chkG [] S = true := rfl
/-! values -/
section
variable (S : Sto)
theorem b_add (a b : Int) : binW S .add (.d (.int a)) (.d (.int b)) = some (.d (.int (a + b))) := rfl
theorem b_sub (a b : Int) : binW S .sub (.d (.int a)) (.d (.int b)) = some (.d (.int (a - b))) := rfl
theorem b_mul {a b : Int} (h : mulOk a b = true) : binW S .mul (.d (.int a)) (.d (.int b)) = some (.d (.int (a * b))) := by
  have e : binI .mul a b = some _ := if_pos h
  show ((binI .mul a b).map fun i => W.d (.int i)) = _
  rw [e]; rfl
theorem b_fdiv {a b : Int} (h : divOk b = true) : binW S .fdiv (.d (.int a)) (.d (.int b)) = some (.d (.int (a / b))) := by
  have e : binI .fdiv a b = some _ := if_pos h
  show ((binI .fdiv a b).map fun i => W.d (.int i)) = _
  rw [e]; rfl
theorem b_mod {a b : Int} (h : 0 < b) : binW S .mod (.d (.int a)) (.d (.int b)) = some (.d (.int (a % b))) := by
  have e : binI .mod a b = some _ := if_pos (decide_eq_true h)
  show ((binI .mod a b).map fun i => W.d (.int i)) = _
  rw [e]; rfl
theorem b_xor (a b : Int) : binW S .bxor (.d (.int a)) (.d (.int b)) = some (.d (.int (Builtin.bitXor a b))) := rfl
theorem c_lt (a b : Int) : cmpW S .lt (.d (.int a)) (.d (.int b)) = some (decide (a < b)) := rfl
theorem c_le (a b : Int) : cmpW S .le (.d (.int a)) (.d (.int b)) = some (decide (a ≤ b)) := rfl
theorem c_gt (a b : Int) : cmpW S .gt (.d (.int a)) (.d (.int b)) = some (decide (b < a)) := rfl
theorem c_ge (a b : Int) : cmpW S .ge (.d (.int a)) (.d (.int b)) = some (decide (b ≤ a)) := rfl
theorem c_eq (x y : W) : cmpW S .eq x y = eqW S x y := rfl
def kNb : Bool → Option Bool
  | b => some (!b)
theorem kNb_e (b : Bool) : kNb b = some (!b) := rfl
theorem c_ne (x y : W) : cmpW S .ne x y = bnd (eqW S x y) kNb := by
  show (eqW S x y).map _ = _
  cases eqW S x y <;> rfl
theorem c_in (x y : W) : cmpW S .inn x y = inW S x y := rfl
theorem c_ni (x y : W) : cmpW S .notin x y = bnd (inW S x y) kNb := by
  show (inW S x y).map _ = _
  cases inW S x y <;> rfl
theorem part_i (i : Int) : partW (.d (.int i)) = some i := rfl
theorem bl_b (b : Bool) : blW (.d (.bl b)) = some b := rfl
theorem fn_f (b : Str) : fnD (.fn b) = some b := rfl
theorem ref_n (n : Nat) : refW (.d (.ref n)) = some n := rfl
theorem d_d (x : D) : dW (.d x) = some x := rfl
theorem tr_b (b : Bool) : truW S (.d (.bl b)) = some b := rfl
theorem tr_i (i : Int) : truW S (.d (.int i)) = some (i != 0) := rfl
theorem tr_t (xs : List D) : truW S (.d (.tup xs)) = some (!xs.isEmpty) := rfl
theorem tr_n : truW S (.d .non) = some false := rfl
theorem tr_m (xs : List D) : truW S (.tmp xs) = some (!xs.isEmpty) := rfl
theorem sq_t (xs : List D) : seqOf S (.d (.tup xs)) = some xs := rfl
theorem sq_m (xs : List D) : seqOf S (.tmp xs) = some xs := rfl
theorem sq_z (xs : List D) : seqOf S (.d (.fz xs)) = some xs := rfl
theorem gd_t (xs : List D) : guardOf S (.d (.tup xs)) = [] := rfl
theorem gd_m (xs : List D) : guardOf S (.tmp xs) = [] := rfl
theorem gd_z (xs : List D) : guardOf S (.d (.fz xs)) = [] := rfl
def kAtD : D → Option W
  | d => some (.d d)
theorem kAtD_e (d : D) : kAtD d = some (.d d) := rfl
/-- subscripts that are numbers -/
def at0 : List D → Nat → Option D
  | [], _ => none
  | x :: _, 0 => some x
  | _ :: xs, i + 1 => at0 xs i
theorem at0_0 (x : D) (xs : List D) : at0 (x :: xs) 0 = some x := rfl
theorem at0_s (x : D) (xs : List D) (i : Nat) : at0 (x :: xs) (i + 1) = at0 xs i := rfl
theorem at0_eq : ∀ (xs : List D) (i : Nat), at0 xs i = xs[i]?
  | [], _ => rfl
  | x :: _, 0 => rfl
  | _ :: xs, i + 1 => by unfold at0; rw [at0_eq xs i]; rfl
theorem atI_nn (xs : List D) (i : Nat) : atI xs (i : Int) = xs[i]? := by
  unfold atI ixN
  rw [if_pos (by omega)]
  by_cases h : i < xs.length
  · rw [if_pos (by omega)]; simp
  · rw [if_neg (by omega), List.getElem?_eq_none (by omega)]; rfl
theorem ix_t (xs : List D) (k : Int) : ixW S (.d (.tup xs)) (.d (.int k)) = bnd (atI xs k) kAtD := by
  show (atI xs k).map _ = _
  cases atI xs k <;> rfl
theorem ix_l {n : Nat} (k : Int) : ixW S (.d (.ref n)) (.d (.int k)) = bnd (lstO S[n]?) fun xs => bnd (atI xs k) kAtD := by
  show (match (match S[n]? with | some (.lst xs) => some xs | _ => none) with | some xs => (atI xs k).map W.d | none => none) = _
  cases S[n]? with
  | none => rfl
  | some o => cases o with
    | dk => rfl
    | lst xs => show (atI xs k).map W.d = _; cases h : atI xs k <;> simp [h, bnd, lstO, kAtD]
theorem ix_z (xs : List D) (k : Int) : ixW S (.d (.fz xs)) (.d (.int k)) = bnd (atI xs k) kAtD := by
  show (atI xs k).map _ = _
  cases atI xs k <;> rfl
end
/-! calls -/
def fin : Option (Fl × Env × Sto) → Option (W × Sto)
  | some (.nx, _, S') => some (.d .non, S')
  | some (.rt w, _, S') => some (w, S')
  | _ => none
theorem fin_nx (ρ S) : fin (some (.nx, ρ, S)) = some (.d .non, S) := rfl
theorem fin_rt (w ρ S) : fin (some (.rt w, ρ, S)) = some (w, S) := rfl
theorem run_eq (F T cl d ds S) : runDef F T cl d ds S = fin (evS T cl F d.body (env0 d ds) S) := by
  unfold runDef
  cases evS T cl F d.body (env0 d ds) S with
  | none => rfl
  | some q => obtain ⟨f, r, S2⟩ := q; cases f <;> rfl
theorem call_px {F T} {pg : Prog} {n : Nat} {f : Str} {ds : List D} {d : Def} {w w' : W} {S' : Sto} (h : pg.lookup f = some d) (hn : ds.length = d.np) (hp : (d.px && D.pures ds) = true) (hr : fin (evS T (callD F T pg n) F d.body (env0 d ds) []) = some (w, S')) (he : expW w S' = some w') (S : Sto) :
    callD F T pg (n + 1) f ds S = some (w', S) := by
  rw [← run_eq] at hr
  unfold callD
  simp only [h, hn, hp, hr, he, if_true, Option.map]
theorem call_im {F T} {pg : Prog} {n : Nat} {f : Str} {ds : List D} {d : Def} {S : Sto} (h : pg.lookup f = some d) (hn : ds.length = d.np) (hp : (d.px && D.pures ds) = false) :
    callD F T pg (n + 1) f ds S = fin (evS T (callD F T pg n) F d.body (env0 d ds) S) := by
  rw [← run_eq]
  conv => lhs; unfold callD
  simp only [h, hn, hp, if_true]
  rfl
end Z

set_option Elab.async false
set_option linter.all false
set_option maxRecDepth 100000
/-! Y2: all the steps in one -/
namespace Z
open PySem PySem.Spec PyProof.Rows L2
theorem at_lit0 (x : D) (xs : List D) : atI (x :: xs) 0 = some x := by rw [show (0 : Int) = ((0 : Nat) : Int) from rfl, atI_nn]; rfl
theorem at_lit1 (x y : D) (xs : List D) : atI (x :: y :: xs) 1 = some y := by rw [show (1 : Int) = ((1 : Nat) : Int) from rfl, atI_nn]; rfl
theorem at_lit2 (x y z : D) (xs : List D) : atI (x :: y :: z :: xs) 2 = some z := by rw [show (2 : Int) = ((2 : Nat) : Int) from rfl, atI_nn]; rfl
theorem at_lit3 (x y z u : D) (xs : List D) : atI (x :: y :: z :: u :: xs) 3 = some u := by rw [show (3 : Int) = ((3 : Nat) : Int) from rfl, atI_nn]; rfl
theorem at_lit4 (x y z u v : D) (xs : List D) : atI (x :: y :: z :: u :: v :: xs) 4 = some v := by rw [show (4 : Int) = ((4 : Nat) : Int) from rfl, atI_nn]; rfl
theorem rng1 {j : Int} (h : rngOk j = true) : rngW [.d (.int j)] = some (rngL 0 j.toNat) := if_pos h
theorem bi_abs (S : Sto) (i : Int) : biW S .abs [.d (.int i)] = some (.d (.int (if i < 0 then -i else i))) := rfl
theorem bi_int (S : Sto) (i : Int) : biW S .int [.d (.int i)] = some (.d (.int i)) := rfl
theorem bi_intb (S : Sto) (b : Bool) : biW S .int [.d (.bl b)] = some (.d (.int (if b then 1 else 0))) := rfl
theorem bi_max (S : Sto) (i j : Int) : biW S .max [.d (.int i), .d (.int j)] = some (.d (.int (if j > i then j else i))) := rfl
theorem bi_min (S : Sto) (i j : Int) : biW S .min [.d (.int i), .d (.int j)] = some (.d (.int (if j < i then j else i))) := rfl
theorem bi_tup (S : Sto) (xs : List D) : biW S .tuple [.tmp xs] = some (.d (.tup xs)) := rfl
theorem bi_lent (S : Sto) (xs : List D) : biW S .len [.d (.tup xs)] = some (.d (.int xs.length)) := rfl
theorem bi_lenm (S : Sto) (xs : List D) : biW S .len [.tmp xs] = some (.d (.int xs.length)) := rfl
theorem au_mul {a b : Int} (h : (sm64 a || sm64 b) = true) : augW .mul (.int a) (.d (.int b)) = some (.int (a * b)) := if_pos h
theorem au_add (a b : Int) : augW .add (.int a) (.d (.int b)) = some (.int (a + b)) := rfl
theorem au_sub (a b : Int) : augW .sub (.int a) (.d (.int b)) = some (.int (a - b)) := rfl
theorem sm_r {a b : Int} (h : sm64 b = true) : (sm64 a || sm64 b) = true := by rw [h, Bool.or_true]
/-- all the steps, for simp -/
theorem evl : type_of% (And.intro @bnd_some (And.intro @lk_0 (And.intro @lk_s (And.intro @stv_0 (And.intro @stv_s (And.intro @mat_d (And.intro @mat_t (And.intro @kMd_e (And.intro @matM_nil (And.intro @matM_d (And.intro @matM_t (And.intro @kRet_e (And.intro @kRetB_e (And.intro @kRetT_e (And.intro @kRetD_e (And.intro @e_var (And.intro @e_cI (And.intro @e_cB (And.intro @e_cN (And.intro @e_cS (And.intro @e_glob (And.intro @kBin2_e (And.intro @kBin1_e (And.intro @e_bin (And.intro @kCmp2_e (And.intro @kCmp1_e (And.intro @e_cmp (And.intro @kCmpT2_e (And.intro @kCmpT1_e (And.intro @t_cmp (And.intro @kIx2_e (And.intro @kIx1_e (And.intro @e_ix (And.intro @kDg2_e (And.intro @kDg1_e (And.intro @e_dget (And.intro @kChn4_e (And.intro @kChn3_t (And.intro @kChn3_f (And.intro @kChn2_e (And.intro @kChn1_e (And.intro @kTB_e (And.intro @t_chn (And.intro @e_chn (And.intro @kNegR_e (And.intro @kNeg_e (And.intro @kNotR_e (And.intro @kNot_e (And.intro @kNotT_e (And.intro @kTst_e (And.intro @e_neg (And.intro @e_not (And.intro @t_not (And.intro @t_tst (And.intro @t_and (And.intro @t_or (And.intro @ta_nil (And.intro @to_nil (And.intro @kTA_t (And.intro @kTA_f (And.intro @kTO_t (And.intro @kTO_f (And.intro @ta_cons (And.intro @to_cons (And.intro @e_and (And.intro @e_or (And.intro @a_one (And.intro @o_one (And.intro @kWA_t (And.intro @kWA_f (And.intro @kWO_t (And.intro @kWO_f (And.intro @kWA1_e (And.intro @kWO1_e (And.intro @a_cons (And.intro @o_cons (And.intro @kIte_t (And.intro @kIte_f (And.intro @e_ite (And.intro @kTup1_e (And.intro @kLst1_e (And.intro @kTup_e (And.intro @kLst_e (And.intro @e_tup (And.intro @e_lst (And.intro @o_nil (And.intro @kPartR_e (And.intro @kPart_e (And.intro @kSl3_e (And.intro @kSl2_e (And.intro @kSl1_e (And.intro @kRev_e (And.intro @kCall1_e (And.intro @kCall_e (And.intro @kBi_e (And.intro @kDisp1_e (And.intro @kS2_e (And.intro @kS1_e (And.intro @o_some (And.intro @e_slc (And.intro @e_rev (And.intro @e_call (And.intro @kLc1_e (And.intro @kLc0_e (And.intro @e_lcall (And.intro @e_bi (And.intro @kDisp_e (And.intro @e_disp (And.intro @s_nil (And.intro @s_cons (And.intro @kLcM_e (And.intro @kLcE_e (And.intro @kLcT_t (And.intro @kLcT_f (And.intro @kLcP_e (And.intro @kLcR_e (And.intro @kLc_e (And.intro @e_lc (And.intro @c_nil (And.intro @c_cons (And.intro @kIRet_e (And.intro @kIEn_e (And.intro @kRng_e (And.intro @kEnm_e (And.intro @kSeq_e (And.intro @i_rng (And.intro @i_enm (And.intro @i_seq (And.intro @kApp3_e (And.intro @kApp2_e (And.intro @kApp1_e (And.intro @kApp0_e (And.intro @kApp_e (And.intro @e_app (And.intro @p_nm (And.intro @p_tup (And.intro @p_nil (And.intro @kPs_e (And.intro @p_cons (And.intro @sq_nx (And.intro @sq_rt (And.intro @sq_bk (And.intro @sq_ct (And.intro @x_nil (And.intro @x_cons (And.intro @kAs3_e (And.intro @kAs2_e (And.intro @kAs1_e (And.intro @kSc2_e (And.intro @kSc1_e (And.intro @x_asg (And.intro @x_setLc (And.intro @kP2b_e (And.intro @kP3b_e (And.intro @kP2_e (And.intro @kP3_e (And.intro @x_par2 (And.intro @x_par3 (And.intro @kSd6_e (And.intro @kSd5_e (And.intro @kSd4_e (And.intro @kSd3_e (And.intro @kSd2_e (And.intro @kSd1_e (And.intro @kSd0_e (And.intro @kSd_e (And.intro @x_setd (And.intro @kSi5_e (And.intro @kSi4b_e (And.intro @kSi4_e (And.intro @kSi3_e (And.intro @kSi2_e (And.intro @kSi1_e (And.intro @kSi0_e (And.intro @kSi_e (And.intro @x_seti (And.intro @kAu3_e (And.intro @kAu2_e (And.intro @kAu1_e (And.intro @kEx_e (And.intro @kRt_e (And.intro @x_aug (And.intro @x_expr (And.intro @x_ret (And.intro @x_ret0 (And.intro @kIf_t (And.intro @kIf_f (And.intro @x_ite (And.intro @kStp_e (And.intro @kFor_e (And.intro @x_for (And.intro @x_while (And.intro @kWh2_nx (And.intro @kWh2_ct (And.intro @kWh2_bk (And.intro @kWh2_rt (And.intro @kWh_t (And.intro @kWh_f (And.intro @x_pass (And.intro @x_brk (And.intro @x_cnt (And.intro @kFl_nx (And.intro @kFl_ct (And.intro @kFl_bk (And.intro @kFl_rt (And.intro @kLl_n (And.intro @chkG_nil (And.intro @b_add (And.intro @b_sub (And.intro @c_lt (And.intro @c_le (And.intro @c_gt (And.intro @c_ge (And.intro @kNb_e (And.intro @part_i (And.intro @bl_b (And.intro @fn_f (And.intro @ref_n (And.intro @d_d (And.intro @tr_b (And.intro @tr_i (And.intro @tr_t (And.intro @tr_n (And.intro @tr_m (And.intro @sq_t (And.intro @sq_m (And.intro @sq_z (And.intro @gd_t (And.intro @gd_m (And.intro @gd_z (And.intro @kAtD_e (And.intro @at0_0 (And.intro @at0_s (And.intro @ix_t (And.intro @ix_z (And.intro @fin_nx (And.intro @fin_rt (And.intro @at_lit0 (And.intro @at_lit1 (And.intro @at_lit2 (And.intro @at_lit3 (And.intro @at_lit4 (And.intro @bi_abs (And.intro @bi_int (And.intro @bi_intb (And.intro @bi_max (And.intro @bi_min (And.intro @bi_tup (And.intro @bi_lent (And.intro @bi_lenm (And.intro @au_add (@au_sub)))))))))))))))))))))))))))))))))))))))))))))))))))))))))))))))))))))))))))))))))))))))))))))))))))))))))))))))))))))))))))))))))))))))))))))))))))))))))))))))))))))))))))))))))))))))))))))))))))))))))))))))))))))))))))))))))))))))))))))))))))))))))))) := And.intro @bnd_some (And.intro @lk_0 (And.intro @lk_s (And.intro @stv_0 (And.intro @stv_s (And.intro @mat_d (And.intro @mat_t (And.intro @kMd_e (And.intro @matM_nil (And.intro @matM_d (And.intro @matM_t (And.intro @kRet_e (And.intro @kRetB_e (And.intro @kRetT_e (And.intro @kRetD_e (And.intro @e_var (And.intro @e_cI (And.intro @e_cB (And.intro @e_cN (And.intro @e_cS (And.intro @e_glob (And.intro @kBin2_e (And.intro @kBin1_e (And.intro @e_bin (And.intro @kCmp2_e (And.intro @kCmp1_e (And.intro @e_cmp (And.intro @kCmpT2_e (And.intro @kCmpT1_e (And.intro @t_cmp (And.intro @kIx2_e (And.intro @kIx1_e (And.intro @e_ix (And.intro @kDg2_e (And.intro @kDg1_e (And.intro @e_dget (And.intro @kChn4_e (And.intro @kChn3_t (And.intro @kChn3_f (And.intro @kChn2_e (And.intro @kChn1_e (And.intro @kTB_e (And.intro @t_chn (And.intro @e_chn (And.intro @kNegR_e (And.intro @kNeg_e (And.intro @kNotR_e (And.intro @kNot_e (And.intro @kNotT_e (And.intro @kTst_e (And.intro @e_neg (And.intro @e_not (And.intro @t_not (And.intro @t_tst (And.intro @t_and (And.intro @t_or (And.intro @ta_nil (And.intro @to_nil (And.intro @kTA_t (And.intro @kTA_f (And.intro @kTO_t (And.intro @kTO_f (And.intro @ta_cons (And.intro @to_cons (And.intro @e_and (And.intro @e_or (And.intro @a_one (And.intro @o_one (And.intro @kWA_t (And.intro @kWA_f (And.intro @kWO_t (And.intro @kWO_f (And.intro @kWA1_e (And.intro @kWO1_e (And.intro @a_cons (And.intro @o_cons (And.intro @kIte_t (And.intro @kIte_f (And.intro @e_ite (And.intro @kTup1_e (And.intro @kLst1_e (And.intro @kTup_e (And.intro @kLst_e (And.intro @e_tup (And.intro @e_lst (And.intro @o_nil (And.intro @kPartR_e (And.intro @kPart_e (And.intro @kSl3_e (And.intro @kSl2_e (And.intro @kSl1_e (And.intro @kRev_e (And.intro @kCall1_e (And.intro @kCall_e (And.intro @kBi_e (And.intro @kDisp1_e (And.intro @kS2_e (And.intro @kS1_e (And.intro @o_some (And.intro @e_slc (And.intro @e_rev (And.intro @e_call (And.intro @kLc1_e (And.intro @kLc0_e (And.intro @e_lcall (And.intro @e_bi (And.intro @kDisp_e (And.intro @e_disp (And.intro @s_nil (And.intro @s_cons (And.intro @kLcM_e (And.intro @kLcE_e (And.intro @kLcT_t (And.intro @kLcT_f (And.intro @kLcP_e (And.intro @kLcR_e (And.intro @kLc_e (And.intro @e_lc (And.intro @c_nil (And.intro @c_cons (And.intro @kIRet_e (And.intro @kIEn_e (And.intro @kRng_e (And.intro @kEnm_e (And.intro @kSeq_e (And.intro @i_rng (And.intro @i_enm (And.intro @i_seq (And.intro @kApp3_e (And.intro @kApp2_e (And.intro @kApp1_e (And.intro @kApp0_e (And.intro @kApp_e (And.intro @e_app (And.intro @p_nm (And.intro @p_tup (And.intro @p_nil (And.intro @kPs_e (And.intro @p_cons (And.intro @sq_nx (And.intro @sq_rt (And.intro @sq_bk (And.intro @sq_ct (And.intro @x_nil (And.intro @x_cons (And.intro @kAs3_e (And.intro @kAs2_e (And.intro @kAs1_e (And.intro @kSc2_e (And.intro @kSc1_e (And.intro @x_asg (And.intro @x_setLc (And.intro @kP2b_e (And.intro @kP3b_e (And.intro @kP2_e (And.intro @kP3_e (And.intro @x_par2 (And.intro @x_par3 (And.intro @kSd6_e (And.intro @kSd5_e (And.intro @kSd4_e (And.intro @kSd3_e (And.intro @kSd2_e (And.intro @kSd1_e (And.intro @kSd0_e (And.intro @kSd_e (And.intro @x_setd (And.intro @kSi5_e (And.intro @kSi4b_e (And.intro @kSi4_e (And.intro @kSi3_e (And.intro @kSi2_e (And.intro @kSi1_e (And.intro @kSi0_e (And.intro @kSi_e (And.intro @x_seti (And.intro @kAu3_e (And.intro @kAu2_e (And.intro @kAu1_e (And.intro @kEx_e (And.intro @kRt_e (And.intro @x_aug (And.intro @x_expr (And.intro @x_ret (And.intro @x_ret0 (And.intro @kIf_t (And.intro @kIf_f (And.intro @x_ite (And.intro @kStp_e (And.intro @kFor_e (And.intro @x_for (And.intro @x_while (And.intro @kWh2_nx (And.intro @kWh2_ct (And.intro @kWh2_bk (And.intro @kWh2_rt (And.intro @kWh_t (And.intro @kWh_f (And.intro @x_pass (And.intro @x_brk (And.intro @x_cnt (And.intro @kFl_nx (And.intro @kFl_ct (And.intro @kFl_bk (And.intro @kFl_rt (And.intro @kLl_n (And.intro @chkG_nil (And.intro @b_add (And.intro @b_sub (And.intro @c_lt (And.intro @c_le (And.intro @c_gt (And.intro @c_ge (And.intro @kNb_e (And.intro @part_i (And.intro @bl_b (And.intro @fn_f (And.intro @ref_n (And.intro @d_d (And.intro @tr_b (And.intro @tr_i (And.intro @tr_t (And.intro @tr_n (And.intro @tr_m (And.intro @sq_t (And.intro @sq_m (And.intro @sq_z (And.intro @gd_t (And.intro @gd_m (And.intro @gd_z (And.intro @kAtD_e (And.intro @at0_0 (And.intro @at0_s (And.intro @ix_t (And.intro @ix_z (And.intro @fin_nx (And.intro @fin_rt (And.intro @at_lit0 (And.intro @at_lit1 (And.intro @at_lit2 (And.intro @at_lit3 (And.intro @at_lit4 (And.intro @bi_abs (And.intro @bi_int (And.intro @bi_intb (And.intro @bi_max (And.intro @bi_min (And.intro @bi_tup (And.intro @bi_lent (And.intro @bi_lenm (And.intro @au_add (@au_sub)))))))))))))))))))))))))))))))))))))))))))))))))))))))))))))))))))))))))))))))))))))))))))))))))))))))))))))))))))))))))))))))))))))))))))))))))))))))))))))))))))))))))))))))))))))))))))))))))))))))))))))))))))))))))))))))))))))))))))))))))))))))))))
end Z

set_option Elab.async false
set_option linter.all false
set_option maxRecDepth 100000
/-! Y3: comparisons of values of a plain form -/
namespace Z
open PySem PySem.Spec PyProof.Rows L2
theorem eq_of (S : Sto) {x y : W} (h : SeqAt.shaped (pyW S x) = true) (h' : SeqAt.shaped (pyW S y) = true) : eqW S x y = some (PyData.eqv (pyW S x) (pyW S y)) := by
  unfold eqW; rw [h, h']; rfl
theorem in_of (S : Sto) {x : W} {ys : List D} (h : SeqAt.shaped (pyW S x) = true) (h' : SeqAt.shaped (.list (D.pys ys)) = true) : inW S x (.d (.tup ys)) = some ((D.pys ys).any fun z => PyData.eqv z (pyW S x)) := by
  show (if _ then _ else _) = _
  rw [h, h']; rfl
theorem v_ii (a b : Int) : PyData.eqv (.int a) (.int b) = decide (a = b) := by rw [PyData.eqv]; rfl
theorem v_bb (a b : Bool) : PyData.eqv (.bool a) (.bool b) = decide (a = b) := by rw [PyData.eqv]; rfl
theorem v_ss (a b : Str) : PyData.eqv (.str a) (.str b) = decide (a = b) := by
  rw [PyData.eqv]
  by_cases h : a = b
  · subst h; rw [decide_eq_true rfl]; exact beq_self_eq_true a
  · rw [decide_eq_false h]; exact beq_eq_false_iff_ne.mpr h
theorem v_tt (a b : List PyData) : PyData.eqv (.tuple a) (.tuple b) = PyData.eqvAll a b := by rw [PyData.eqv]
theorem v_nt (b : List PyData) : PyData.eqv .none (.tuple b) = false := by rw [PyData.eqv]
theorem v_tn (b : List PyData) : PyData.eqv (.tuple b) .none = false := by rw [PyData.eqv]
theorem v_nn : PyData.eqv .none .none = true := by rw [PyData.eqv]
theorem v_ni (b : Int) : PyData.eqv .none (.int b) = false := by rw [PyData.eqv]
theorem v_in (b : Int) : PyData.eqv (.int b) .none = false := by rw [PyData.eqv]
theorem va_nn : PyData.eqvAll [] [] = true := by rw [PyData.eqvAll]
theorem va_cc (x y : PyData) (xs ys : List PyData) : PyData.eqvAll (x :: xs) (y :: ys) = (PyData.eqv x y && PyData.eqvAll xs ys) := by rw [PyData.eqvAll]
theorem va_nc (y : PyData) (ys : List PyData) : PyData.eqvAll [] (y :: ys) = false := by rw [PyData.eqvAll]
theorem va_cn (y : PyData) (ys : List PyData) : PyData.eqvAll (y :: ys) [] = false := by rw [PyData.eqvAll]
theorem y_d (S : Sto) (x : D) (h : x.pure = true) : pyW S (.d x) = x.py := by
  cases x <;> first | rfl | cases h
theorem y_int (i : Int) : D.py (.int i) = .int i := by rw [D.py]
theorem y_str (i : Str) : D.py (.str i) = .str i := by rw [D.py]
theorem y_bl (i : Bool) : D.py (.bl i) = .bool i := by rw [D.py]
theorem y_non : D.py .non = .none := by rw [D.py]
theorem y_tup (xs : List D) : D.py (.tup xs) = .tuple (D.pys xs) := by rw [D.py]
theorem ys_n : D.pys [] = [] := by rw [D.pys]
theorem ys_c (x : D) (xs : List D) : D.pys (x :: xs) = x.py :: D.pys xs := by rw [D.pys]
/-- equality of plain values -/
theorem eqp (S : Sto) (x y : D) (hx : x.pure = true) (hy : y.pure = true) (h : SeqAt.shaped x.py = true) (h' : SeqAt.shaped y.py = true) : eqW S (.d x) (.d y) = some (PyData.eqv x.py y.py) := by
  rw [eq_of S (by rw [y_d S x hx]; exact h) (by rw [y_d S y hy]; exact h'), y_d S x hx, y_d S y hy]
theorem inp (S : Sto) (x : D) (ys : List D) (hx : x.pure = true) (h : SeqAt.shaped x.py = true) (h' : SeqAt.shaped (.list (D.pys ys)) = true) : inW S (.d x) (.d (.tup ys)) = some ((D.pys ys).any fun z => PyData.eqv z x.py) := by
  rw [in_of S (by rw [y_d S x hx]; exact h) h', y_d S x hx]
theorem any_n {α : Type} (f : α → Bool) : List.any [] f = false := rfl
theorem any_c {α : Type} (f : α → Bool) (x : α) (xs : List α) : List.any (x :: xs) f = (f x || List.any xs f) := rfl
/-- all for comparisons -/
theorem evq : type_of% (And.intro @c_eq (And.intro @c_ne (And.intro @c_in (And.intro @c_ni (And.intro @eqp (And.intro @inp (And.intro @v_ii (And.intro @v_bb (And.intro @v_ss (And.intro @v_tt (And.intro @v_nt (And.intro @v_tn (And.intro @v_nn (And.intro @v_ni (And.intro @v_in (And.intro @va_nn (And.intro @va_cc (And.intro @va_nc (And.intro @va_cn (And.intro @y_int (And.intro @y_str (And.intro @y_bl (And.intro @y_non (And.intro @y_tup (And.intro @ys_n (And.intro @ys_c (And.intro @any_n @any_c))))))))))))))))))))))))))) :=
  (And.intro @c_eq (And.intro @c_ne (And.intro @c_in (And.intro @c_ni (And.intro @eqp (And.intro @inp (And.intro @v_ii (And.intro @v_bb (And.intro @v_ss (And.intro @v_tt (And.intro @v_nt (And.intro @v_tn (And.intro @v_nn (And.intro @v_ni (And.intro @v_in (And.intro @va_nn (And.intro @va_cc (And.intro @va_nc (And.intro @va_cn (And.intro @y_int (And.intro @y_str (And.intro @y_bl (And.intro @y_non (And.intro @y_tup (And.intro @ys_n (And.intro @ys_c (And.intro @any_n @any_c)))))))))))))))))))))))))))
example (S : Sto) (a b c d : Int) : eqW S (.d (.tup [.int a, .int b])) (.d (.tup [.int c, .int d])) = some (decide (a = c) && (decide (b = d) && true)) := by
  simp (disch := first | (refine @id _ ?_; with_unfolding_all rfl) | assumption | omega) only [evl, evq]
example (S : Sto) (a b c d : Int) : inW S (.d (.int a)) (.d (.tup [.int c, .int d])) = some (decide (c = a) || (decide (d = a) || false)) := by
  simp (disch := first | (refine @id _ ?_; with_unfolding_all rfl) | assumption | omega) only [evl, evq]
end Z

set_option Elab.async false
set_option linter.all false
set_option maxRecDepth 100000
/-! Y4: the tape of numbers that the laws draw from -/
namespace Z
open PySem PySem.Spec PyProof.Rows L2
def tapeL : Sm := (.cons (.asg (.nm 2 "seed") (.bin .mod (.bi .int (.cons (.bin .add (.bin .mul (.var 2 "seed") (.cI 31)) (.var 3 "cell")) .nil)) (.cI 2147483647))) .nil)
def tapeB : Sm :=
  (.cons (.setLc 1 "cells" [("cell", 3)] (.bi .abs (.cons (.bi .int (.cons (.var 3 "cell") .nil)) .nil)) (.nm 3 "cell") (.cons (.var 0 "script") .nil) .nil)
  (.cons (.asg (.nm 2 "seed") (.cI 7))
  (.cons (.for (.nm 3 "cell") (.cons (.var 1 "cells") .nil) tapeL)
  (.cons (.ret (.disp [(.inr "cells"), (.inr "at"), (.inr "left"), (.inr "seed"), (.inr "salt")] (.cons (.var 1 "cells") (.cons (.cI 0) (.cons (.cI 0) (.cons (.var 2 "seed") (.cons (.cI 0) .nil))))))) .nil))))
def takeB : Sm :=
  (.cons (.ite (.and (.cons (.cmp .eq (.dget (.var 0 "tape") (.cS "left")) (.cI 0)) (.cons (.cmp .lt (.dget (.var 0 "tape") (.cS "at")) (.bi .len (.cons (.dget (.var 0 "tape") (.cS "cells")) .nil))) .nil))) (.cons (.setd (.var 0 "tape") (.cS "left") (.ix (.dget (.var 0 "tape") (.cS "cells")) (.dget (.var 0 "tape") (.cS "at")))) (.cons (.setd (.var 0 "tape") (.cS "at") (.bin .add (.dget (.var 0 "tape") (.cS "at")) (.cI 1))) .nil)) .nil)
  (.cons (.ite (.cmp .gt (.dget (.var 0 "tape") (.cS "left")) (.cI 0)) (.cons (.asg (.nm 2 "drawn") (.bin .mod (.bi .int (.cons (.dget (.var 0 "tape") (.cS "left")) .nil)) (.var 1 "many"))) (.cons (.setd (.var 0 "tape") (.cS "left") (.bin .fdiv (.dget (.var 0 "tape") (.cS "left")) (.var 1 "many"))) (.cons (.ret (.var 2 "drawn")) .nil))) .nil)
  (.cons (.setd (.var 0 "tape") (.cS "salt") (.bin .add (.dget (.var 0 "tape") (.cS "salt")) (.cI 1)))
  (.cons (.asg (.nm 3 "mixed") (.bin .mod (.bi .int (.cons (.bin .add (.bin .mul (.dget (.var 0 "tape") (.cS "seed")) (.cI 48271)) (.bin .mul (.dget (.var 0 "tape") (.cS "salt")) (.cI 69621))) .nil)) (.cI 2147483647)))
  (.cons (.asg (.nm 3 "mixed") (.bin .mod (.bi .int (.cons (.bin .add (.bin .add (.bin .mul (.var 3 "mixed") (.var 3 "mixed")) (.bin .mul (.dget (.var 0 "tape") (.cS "salt")) (.cI 40692))) (.cI 12345)) .nil)) (.cI 2147483399)))
  (.cons (.ret (.bin .mod (.bi .int (.cons (.var 3 "mixed") .nil)) (.var 1 "many"))) .nil))))))
/-- what the tape holds -/
def tk (ci : Nat) (at' left seed salt : Int) : List (Key × D) := [(.inr "cells", .ref ci), (.inr "at", .int at'), (.inr "left", .int left), (.inr "seed", .int seed), (.inr "salt", .int salt)]
structure TapeIs (ti ci : Nat) (cells : List Int) (a : Nat) (left seed salt : Int) (S : Sto) : Prop where
  d : S[ti]? = some (.dk (tk ci a left seed salt))
  c : S[ci]? = some (.lst (cells.map .int))
  n : ti ≠ ci
def TapeOk (ti : Nat) (S : Sto) : Prop := ∃ ci cells a left seed salt, TapeIs ti ci cells a left seed salt S
section
variable {ti ci : Nat} {a left seed salt x : Int}
theorem va_cells : valD (tk ci a left seed salt) (.inr "cells") = some (.ref ci) := by kernel_rfl
theorem va_at : valD (tk ci a left seed salt) (.inr "at") = some (.int a) := by kernel_rfl
theorem va_left : valD (tk ci a left seed salt) (.inr "left") = some (.int left) := by kernel_rfl
theorem va_seed : valD (tk ci a left seed salt) (.inr "seed") = some (.int seed) := by kernel_rfl
theorem va_salt : valD (tk ci a left seed salt) (.inr "salt") = some (.int salt) := by kernel_rfl
theorem pu_at : putD (tk ci a left seed salt) (.inr "at") (.int x) = tk ci x left seed salt := by kernel_rfl
theorem pu_left : putD (tk ci a left seed salt) (.inr "left") (.int x) = tk ci a x seed salt := by kernel_rfl
theorem pu_salt : putD (tk ci a left seed salt) (.inr "salt") (.int x) = tk ci a left seed x := by kernel_rfl
theorem tk_len : (tk ci a left seed salt).length = 5 := rfl
theorem tk_len' : decide ((tk ci a left seed salt).length < LN) = true := rfl
theorem dg_eq {S : Sto} {n : Nat} {kvs : List (Key × D)} {x : Str} (h : S[n]? = some (.dk kvs)) : dgetW S (.d (.ref n)) (.d (.str x)) = bnd (valD kvs (.inr x)) kAtD := by
  show (match S[n]?, keyD (.str x) with | some (.dk kvs), some k => (valD kvs k).map W.d | _, _ => none) = _
  rw [h, show keyD (.str x) = some (.inr x) from rfl]
  simp only
  cases valD kvs (.inr x) <;> rfl
theorem key_s (x : Str) : keyD (.str x) = some (.inr x) := rfl
theorem dk_s (kvs : List (Key × D)) : dkO (some (.dk kvs)) = some kvs := rfl
theorem ls_s (xs : List D) : lstO (some (.lst xs)) = some xs := rfl
end
theorem bi_lenr {S : Sto} {n : Nat} {xs : List D} (h : S[n]? = some (.lst xs)) : biW S .len [.d (.ref n)] = some (.d (.int xs.length)) := by
  show (seqOf S (.d (.ref n))).map _ = _
  have : seqOf S (.d (.ref n)) = some xs := by show (match S[n]? with | some (.lst xs) => some xs | _ => none) = _; rw [h]
  rw [this]; rfl
theorem seq_r {S : Sto} {n : Nat} {xs : List D} (h : S[n]? = some (.lst xs)) : seqOf S (.d (.ref n)) = some xs := by
  show (match S[n]? with | some (.lst xs) => some xs | _ => none) = _; rw [h]
theorem gd_r {S : Sto} {n : Nat} {xs : List D} (h : S[n]? = some (.lst xs)) : guardOf S (.d (.ref n)) = [(n, xs)] := by
  show (match S[n]? with | some (.lst xs) => [(n, xs)] | _ => []) = _; rw [h]
theorem ix_r {S : Sto} {n : Nat} {xs : List D} (k : Int) (h : S[n]? = some (.lst xs)) : ixW S (.d (.ref n)) (.d (.int k)) = bnd (atI xs k) kAtD := by
  rw [ix_l, h]; rfl
theorem atI_map (cells : List Int) (k : Nat) (h : k < cells.length) : atI (cells.map D.int) (k : Int) = some (.int (cells.getD k 0)) := by
  rw [atI_nn, List.getElem?_map, List.getElem?_eq_getElem h]
  simp [List.getD, List.getElem?_eq_getElem h]
theorem mul_r {x : Int} (y : Int) (h : sm64 x = true) : mulOk y x = true := by unfold mulOk; rw [h]; simp
theorem mul_l {x : Int} (y : Int) (h : sm64 x = true) : mulOk x y = true := by unfold mulOk; rw [h]; rfl
theorem take_run (T : Tab) (cl : Calls) (F : Nat) {ti ci : Nat} {cells : List Int} {a : Nat} {left seed salt : Int} {S : Sto} {many : Int} (t : TapeIs ti ci cells a left seed salt S) (h0 : 0 < many) (h1 : divOk many = true) :
    ∃ r a' left' salt', fin (evS T cl F takeB [some (.ref ti), some (.int many), none, none] S) = some (.d (.int r), S.set ti (.dk (tk ci (a' : Nat) left' seed salt'))) ∧ 0 ≤ r ∧ r < many := by
  have hi : ti < S.length := by
    rcases Nat.lt_or_ge ti S.length with z | z
    · exact z
    · have := t.d; rw [List.getElem?_eq_none z] at this; cases this
  have gs : ∀ o, (S.set ti o)[ti]? = some o := fun o => List.getElem?_set_self hi
  have gc : ∀ o, (S.set ti o)[ci]? = some (.lst (cells.map .int)) := fun o => by rw [List.getElem?_set_ne t.n]; exact t.c
  have m1 : ∀ y, mulOk y 48271 = true := fun y => mul_r y (by decide)
  have m2 : ∀ y, mulOk y 69621 = true := fun y => mul_r y (by decide)
  have m3 : ∀ y, mulOk y 40692 = true := fun y => mul_r y (by decide)
  have p1 : (0 : Int) < 2147483647 := by decide
  have p2 : (0 : Int) < 2147483399 := by decide
  -- what follows the first if
  have rest : ∀ (U : Sto) (a' : Nat) (left' : Int), (∀ o, U.set ti o = S.set ti o) → U[ti]? = some (.dk (tk ci a' left' seed salt)) → U[ci]? = some (.lst (cells.map .int)) →
      ∃ r a'' left'' salt', fin (evS T cl F (match takeB with | .cons _ ss => ss | s => s) [some (.ref ti), some (.int many), none, none] U) = some (.d (.int r), S.set ti (.dk (tk ci (a'' : Nat) left'' seed salt'))) ∧ 0 ≤ r ∧ r < many := by
    intro U a' left' hU hd hcU
    have us : ∀ o, (U.set ti o)[ti]? = some o := fun o => by rw [hU]; exact gs o
    by_cases q : 0 < left'
    · refine ⟨left' % many, a', left' / many, salt, ?_, Int.emod_nonneg _ (by omega), Int.emod_lt_of_pos _ h0⟩
      simp only [takeB]
      simp (disch := first | (refine @id _ ?_; with_unfolding_all rfl) | assumption | omega) only [evl, dg_eq hd, va_left, decide_eq_true q, b_mod _ h0, b_fdiv _ h1, hd, dk_s, key_s, tk_len', kSd6_e, pu_left, hU]
    · have b1 : (0 : Int) ≤ (seed * 48271 + (salt + 1) * 69621) % 2147483647 := Int.emod_nonneg _ (by decide)
      have b2 : (seed * 48271 + (salt + 1) * 69621) % 2147483647 < 2147483647 := Int.emod_lt_of_pos _ (by decide)
      have m4 : ∀ y, mulOk ((seed * 48271 + (salt + 1) * 69621) % 2147483647) y = true := fun y => mul_l y (by unfold sm64; simp only [Bool.and_eq_true, decide_eq_true_eq]; omega)
      refine ⟨(((seed * 48271 + (salt + 1) * 69621) % 2147483647 * ((seed * 48271 + (salt + 1) * 69621) % 2147483647) + (salt + 1) * 40692 + 12345) % 2147483399) % many, a', left', salt + 1, ?_, Int.emod_nonneg _ (by omega), Int.emod_lt_of_pos _ h0⟩
      simp only [takeB]
      simp (disch := first | (refine @id _ ?_; with_unfolding_all rfl) | assumption | omega) only [evl, dg_eq hd, va_left, va_salt, decide_eq_false q, hd, dk_s, key_s, tk_len', kSd6_e, pu_salt, dg_eq (gs _), va_seed, b_mul _ (m1 _), b_mul _ (m2 _), b_mul _ (m3 _), b_mul _ (m4 _), b_mod _ p1, b_mod _ p2, b_mod _ h0, hU]
  have sh : fin (evS T cl F takeB [some (.ref ti), some (.int many), none, none] S) = fin (sq T cl F (match takeB with | .cons _ ss => ss | s => s) (evS T cl F (match takeB with | .cons s _ => s | s => s) [some (.ref ti), some (.int many), none, none] S)) := by
    simp only [takeB]
    rw [x_cons]
  rw [sh]
  by_cases q1 : left = 0
  · by_cases q2 : (a : Int) < cells.length
    · have e1 : evS T cl F (match takeB with | .cons s _ => s | s => s) [some (.ref ti), some (.int many), none, none] S = some (.nx, [some (.ref ti), some (.int many), none, none], S.set ti (.dk (tk ci ((a + 1 : Nat) : Int) (cells.getD a 0) seed salt))) := by
        simp only [takeB]
        simp (disch := first | (refine @id _ ?_; with_unfolding_all rfl) | assumption | omega) only [evl, dg_eq t.d, va_left, va_at, va_cells, evq, decide_eq_true q1, bi_lenr t.c, List.length_map, decide_eq_true q2, ix_r _ t.c, atI_map cells a (by omega), t.d, dk_s, key_s, tk_len', kSd6_e, pu_left, dg_eq (gs _), gs, pu_at, List.set_set]
        rfl
      rw [e1, sq_nx]
      exact rest _ (a + 1) _ (fun o => List.set_set ..) (gs _) (gc _)
    · have e1 : evS T cl F (match takeB with | .cons s _ => s | s => s) [some (.ref ti), some (.int many), none, none] S = some (.nx, [some (.ref ti), some (.int many), none, none], S) := by
        simp only [takeB]
        simp (disch := first | (refine @id _ ?_; with_unfolding_all rfl) | assumption | omega) only [evl, dg_eq t.d, va_left, va_at, va_cells, evq, decide_eq_true q1, bi_lenr t.c, List.length_map, decide_eq_false q2]
      rw [e1, sq_nx]
      exact rest _ a _ (fun o => rfl) t.d t.c
  · have e1 : evS T cl F (match takeB with | .cons s _ => s | s => s) [some (.ref ti), some (.int many), none, none] S = some (.nx, [some (.ref ti), some (.int many), none, none], S) := by
      simp only [takeB]
      simp (disch := first | (refine @id _ ?_; with_unfolding_all rfl) | assumption | omega) only [evl, dg_eq t.d, va_left, va_at, va_cells, evq, decide_eq_false q1]
    rw [e1, sq_nx]
    exact rest _ a _ (fun o => rfl) t.d t.c
/-- a draw -/
theorem take_ok (T : Tab) (cl : Calls) (F : Nat) {ti : Nat} {S : Sto} {many : Int} (t : TapeOk ti S) (h0 : 0 < many) (h1 : divOk many = true) :
    ∃ r S', fin (evS T cl F takeB [some (.ref ti), some (.int many), none, none] S) = some (.d (.int r), S') ∧ 0 ≤ r ∧ r < many ∧ TapeOk ti S' ∧ S'.length = S.length ∧ ∀ j, j ≠ ti → S'[j]? = S[j]? := by
  obtain ⟨ci, cells, a, left, seed, salt, t⟩ := t
  obtain ⟨r, a', left', salt', h, h2, h3⟩ := take_run T cl F t h0 h1
  have hi : ti < S.length := by
    rcases Nat.lt_or_ge ti S.length with z | z
    · exact z
    · have := t.d; rw [List.getElem?_eq_none z] at this; cases this
  exact ⟨r, _, h, h2, h3, ⟨ci, cells, a', left', seed, salt', ⟨List.getElem?_set_self hi, by rw [List.getElem?_set_ne t.n]; exact t.c, t.n⟩⟩, List.length_set .., fun j hj => List.getElem?_set_ne (fun z => hj z.symm)⟩
/-! the tape is made -/
def absI (i : Int) : Int := if i < 0 then -i else i
theorem tape_cells (T : Tab) (cl : Calls) (ρ1 ρ2 ρ3 ρ0 : Option D) (S : Sto) : ∀ (ns : List Int) (acc : List D), acc.length + ns.length ≤ 1000 →
    lcLoop [] (lcStep T cl [("cell", 3)] (.bi .abs (.cons (.bi .int (.cons (.var 3 "cell") .nil)) .nil)) (.nm 3 "cell") .nil [ρ0, ρ1, ρ2, ρ3]) (ns.map .int) acc S = some (acc ++ (ns.map absI).map .int, S)
  | [], acc, _ => by rw [List.map_nil, lcLoop_nil _ _ (chkG_nil S)]; simp
  | n :: ns, acc, hl => by
    rw [List.length_cons] at hl
    rw [List.map_cons, lcLoop_cons _ _ _ _ (chkG_nil S), lcStep_e]
    have hw : wipeD [ρ0, ρ1, ρ2, ρ3] (List.map (·.2) [(("cell" : Str), 3)]) = [ρ0, ρ1, ρ2, none] := rfl
    rw [hw]
    simp (disch := first | (refine @id _ ?_; with_unfolding_all rfl) | assumption | omega) only [evl, ]
    rw [kLl_s _ _ _ _ _ (Nat.lt_of_le_of_lt (show acc.length ≤ 1000 by omega) (by decide)), tape_cells T cl ρ1 ρ2 ρ3 ρ0 S ns _ (by rw [List.length_append]; simp; omega)]
    rw [List.map_cons, List.map_cons, List.append_assoc]
    rfl
theorem tape_seed (T : Tab) (cl : Calls) (F : Nat) (ρ0 ρ1 : Option D) {S : Sto} {ci : Nat} {cs : List D} (hc : S[ci]? = some (.lst cs)) : ∀ (ns : List Int) (seed : Int) (y : Option D), ∃ seed' y', forLoop [(ci, cs)] (stp T cl F (.nm 3 "cell") tapeL) (ns.map .int) [ρ0, ρ1, some (.int seed), y] S = some (.nx, [ρ0, ρ1, some (.int seed'), y'], S)
  | [], seed, y => ⟨seed, y, by
      rw [List.map_nil, forLoop_nil]
      unfold chkG chk1; simp only [List.all_cons, List.all_nil, hc, eqDs_refl, Bool.and_true]⟩
  | n :: ns, seed, y => by
    have hk : chkG [(ci, cs)] S = true := by unfold chkG chk1; simp only [List.all_cons, List.all_nil, hc, eqDs_refl, Bool.and_true]
    obtain ⟨s', y', hr⟩ := tape_seed T cl F ρ0 ρ1 hc ns ((seed * 31 + n) % 2147483647) (some (.int n))
    refine ⟨s', y', ?_⟩
    have m1 : ∀ y, mulOk y 31 = true := fun y => mul_r y (by decide)
    have p1 : (0 : Int) < 2147483647 := by decide
    rw [List.map_cons, forLoop_cons _ _ _ _ hk, stp_e]
    unfold tapeL at *
    simp (disch := first | (refine @id _ ?_; with_unfolding_all rfl) | assumption | omega) only [evl, b_mul _ (m1 _), b_mod _ p1]
    exact hr
theorem tape_ok (T : Tab) (cl : Calls) (F : Nat) (ns : List Int) (hn : ns.length ≤ 900) : ∃ S', fin (evS T cl F tapeB [some (.fz (ns.map .int)), none, none, none] []) = some (.d (.ref 1), S') ∧ TapeOk 1 S' := by
  obtain ⟨s', y', hr⟩ := tape_seed T cl F (some (.fz (ns.map .int))) (some (.ref 0)) (S := [.lst ((ns.map absI).map .int)]) (ci := 0) rfl (ns.map absI) 7 none
  refine ⟨[.lst ((ns.map absI).map .int), .dk (tk 0 (0 : Nat) 0 s' 0)], ?_, ⟨0, ns.map absI, 0, 0, s', 0, ⟨rfl, rfl, by decide⟩⟩⟩
  unfold tapeB
  simp (disch := first | (refine @id _ ?_; with_unfolding_all rfl) | assumption | omega) only [evl, e_lc, sq_z, gd_z, tape_cells T cl none none none (some (.fz (ns.map .int))) [] ns [] (by simpa using by omega), List.nil_append, seq_r (show ([.lst ((ns.map absI).map .int)] : Sto)[0]? = some _ from rfl), gd_r (show ([.lst ((ns.map absI).map .int)] : Sto)[0]? = some _ from rfl), List.length_nil]
  rw [hr]
  simp (disch := first | (refine @id _ ?_; with_unfolding_all rfl) | assumption | omega) only [evl, ]
  rfl
end Z

set_option Elab.async false
set_option linter.all false
set_option maxRecDepth 100000
/-! the program of law_machinehall_k61_whole_signs_turned, printed by gen.py -/
namespace K61
open PySem PySem.Spec PyProof.Rows L2 Z
def topS (i : Nat) : Stmt := PySem.Challenge.pw_machinehall_k61_whole_signs_turned.main.body.getD i (.Pass ⟨0, 0, 0, 0⟩)
def s_check_form : Sm :=
  (.cons (.asg (.tup (.cons (.nm 1 "exponent") (.cons (.nm 2 "places") .nil))) (.var 0 "form"))
  (.cons (.ite (.or (.cons (.not (.chn .le .le (.cI 2) (.var 1 "exponent") (.cI 5))) (.cons (.not (.chn .le .le (.cI 1) (.var 2 "places") (.cI 8))) .nil))) (.cons .raise .nil) .nil) .nil))
def d_check_form : Def := ⟨["form", "exponent", "places"], 1, true, s_check_form⟩
def lp_power_of_floating1 : Sm := (.cons (.aug 1 "found" .mul (.cI 2)) .nil)
def s_power_of_floating : Sm :=
  (.cons (.asg (.nm 1 "found") (.cI 1))
  (.cons (.for (.nm 2 "_") (.rng (.cons (.var 0 "number") .nil)) lp_power_of_floating1)
  (.cons (.ret (.var 1 "found")) .nil)))
def d_power_of_floating : Def := ⟨["number", "found", "_"], 1, true, s_power_of_floating⟩
def s_bias : Sm :=
  (.cons (.ret (.bin .sub (.call "power_of_floating" (.cons (.bin .sub (.ix (.var 0 "form") (.cI 0)) (.cI 1)) .nil)) (.cI 1))) .nil)
def d_bias : Def := ⟨["form"], 1, true, s_bias⟩
def s_least_power : Sm :=
  (.cons (.ret (.bin .sub (.bin .sub (.cI 1) (.call "bias" (.cons (.var 0 "form") .nil))) (.ix (.var 0 "form") (.cI 1)))) .nil)
def d_least_power : Def := ⟨["form"], 1, true, s_least_power⟩
def s_size : Sm :=
  (.cons (.expr (.call "check_form" (.cons (.var 0 "form") .nil)))
  (.cons (.ret (.call "power_of_floating" (.cons (.bin .add (.bin .add (.cI 1) (.ix (.var 0 "form") (.cI 0))) (.ix (.var 0 "form") (.cI 1))) .nil))) .nil))
def d_size : Def := ⟨["form"], 1, true, s_size⟩
def s_check_code_floating : Sm :=
  (.cons (.expr (.call "check_form" (.cons (.var 0 "form") .nil)))
  (.cons (.ite (.not (.chn .le .lt (.cI 0) (.var 1 "code") (.call "size" (.cons (.var 0 "form") .nil)))) (.cons .raise .nil) .nil) .nil))
def d_check_code_floating : Def := ⟨["form", "code"], 2, true, s_check_code_floating⟩
def s_parts : Sm :=
  (.cons (.expr (.call "check_code_floating" (.cons (.var 0 "form") (.cons (.var 1 "code") .nil))))
  (.cons (.ret (.tup (.cons (.bin .fdiv (.var 1 "code") (.call "power_of_floating" (.cons (.bin .add (.ix (.var 0 "form") (.cI 0)) (.ix (.var 0 "form") (.cI 1))) .nil))) (.cons (.bin .mod (.bin .fdiv (.var 1 "code") (.call "power_of_floating" (.cons (.ix (.var 0 "form") (.cI 1)) .nil))) (.call "power_of_floating" (.cons (.ix (.var 0 "form") (.cI 0)) .nil))) (.cons (.bin .mod (.var 1 "code") (.call "power_of_floating" (.cons (.ix (.var 0 "form") (.cI 1)) .nil))) .nil))))) .nil))
def d_parts : Def := ⟨["form", "code"], 2, true, s_parts⟩
def s_kind : Sm :=
  (.cons (.asg (.tup (.cons (.nm 2 "_") (.cons (.nm 3 "exponent") (.cons (.nm 4 "places") .nil)))) (.call "parts" (.cons (.var 0 "form") (.cons (.var 1 "code") .nil))))
  (.cons (.ite (.cmp .eq (.var 3 "exponent") (.bin .sub (.call "power_of_floating" (.cons (.ix (.var 0 "form") (.cI 0)) .nil)) (.cI 1))) (.cons (.ret (.ite (.cmp .eq (.var 4 "places") (.cI 0)) (.cS "endless") (.cS "none"))) .nil) .nil)
  (.cons (.ite (.cmp .eq (.var 3 "exponent") (.cI 0)) (.cons (.ret (.ite (.cmp .eq (.var 4 "places") (.cI 0)) (.cS "nought") (.cS "small"))) .nil) .nil)
  (.cons (.ret (.cS "full")) .nil))))
def d_kind : Def := ⟨["form", "code", "_", "exponent", "places"], 2, true, s_kind⟩
def lt_reduced1 : E := (.tst (.var 3 "other"))
def lp_reduced1 : Sm := (.cons (.par2 2 "one" 3 "other" (.cons (.var 3 "other") (.cons (.bin .mod (.var 2 "one") (.var 3 "other")) .nil))) .nil)
def s_reduced : Sm :=
  (.cons (.par2 2 "one" 3 "other" (.cons (.bi .abs (.cons (.var 0 "top") .nil)) (.cons (.bi .abs (.cons (.var 1 "bottom") .nil)) .nil)))
  (.cons (.while lt_reduced1 lp_reduced1)
  (.cons (.ret (.ite (.cmp .gt (.var 2 "one") (.cI 0)) (.tup (.cons (.bin .fdiv (.var 0 "top") (.var 2 "one")) (.cons (.bin .fdiv (.var 1 "bottom") (.var 2 "one")) .nil))) (.tup (.cons (.cI 0) (.cons (.cI 1) .nil))))) .nil)))
def d_reduced : Def := ⟨["top", "bottom", "one", "other"], 2, true, s_reduced⟩
def s_value : Sm :=
  (.cons (.ite (.cmp .inn (.call "kind" (.cons (.var 0 "form") (.cons (.var 1 "code") .nil))) (.tup (.cons (.cS "none") (.cons (.cS "endless") .nil)))) (.cons (.ret .cN) .nil) .nil)
  (.cons (.asg (.tup (.cons (.nm 2 "sign") (.cons (.nm 3 "exponent") (.cons (.nm 4 "places") .nil)))) (.call "parts" (.cons (.var 0 "form") (.cons (.var 1 "code") .nil))))
  (.cons (.asg (.nm 5 "whole") (.ite (.cmp .eq (.var 3 "exponent") (.cI 0)) (.var 4 "places") (.bin .add (.var 4 "places") (.call "power_of_floating" (.cons (.ix (.var 0 "form") (.cI 1)) .nil)))))
  (.cons (.asg (.nm 6 "power") (.bin .add (.call "least_power" (.cons (.var 0 "form") .nil)) (.bi .max (.cons (.bin .sub (.var 3 "exponent") (.cI 1)) (.cons (.cI 0) .nil)))))
  (.cons (.asg (.nm 5 "whole") (.ite (.cmp .eq (.var 2 "sign") (.cI 1)) (.bin .sub (.cI 0) (.var 5 "whole")) (.var 5 "whole")))
  (.cons (.ite (.cmp .ge (.var 6 "power") (.cI 0)) (.cons (.ret (.tup (.cons (.bin .mul (.var 5 "whole") (.call "power_of_floating" (.cons (.var 6 "power") .nil))) (.cons (.cI 1) .nil)))) .nil) .nil)
  (.cons (.ret (.call "reduced" (.cons (.var 5 "whole") (.cons (.call "power_of_floating" (.cons (.bin .sub (.cI 0) (.var 6 "power")) .nil)) .nil)))) .nil)))))))
def d_value : Def := ⟨["form", "code", "sign", "exponent", "places", "whole", "power"], 2, true, s_value⟩
def s_greatest : Sm :=
  (.cons (.expr (.call "check_form" (.cons (.var 0 "form") .nil)))
  (.cons (.ret (.bin .sub (.bin .sub (.call "power_of_floating" (.cons (.bin .add (.ix (.var 0 "form") (.cI 0)) (.ix (.var 0 "form") (.cI 1))) .nil)) (.call "power_of_floating" (.cons (.ix (.var 0 "form") (.cI 1)) .nil))) (.cI 1))) .nil))
def d_greatest : Def := ⟨["form"], 1, true, s_greatest⟩
def s_endless : Sm :=
  (.cons (.ret (.bin .sub (.bin .add (.bin .mul (.var 1 "sign") (.call "power_of_floating" (.cons (.bin .add (.ix (.var 0 "form") (.cI 0)) (.ix (.var 0 "form") (.cI 1))) .nil))) (.call "power_of_floating" (.cons (.bin .add (.ix (.var 0 "form") (.cI 0)) (.ix (.var 0 "form") (.cI 1))) .nil))) (.call "power_of_floating" (.cons (.ix (.var 0 "form") (.cI 1)) .nil)))) .nil)
def d_endless : Def := ⟨["form", "sign"], 2, true, s_endless⟩
def s_nothing : Sm :=
  (.cons (.ret (.bin .add (.bin .sub (.call "power_of_floating" (.cons (.bin .add (.ix (.var 0 "form") (.cI 0)) (.ix (.var 0 "form") (.cI 1))) .nil)) (.call "power_of_floating" (.cons (.ix (.var 0 "form") (.cI 1)) .nil))) (.call "power_of_floating" (.cons (.bin .sub (.ix (.var 0 "form") (.cI 1)) (.cI 1)) .nil)))) .nil)
def d_nothing : Def := ⟨["form"], 1, true, s_nothing⟩
def lt_floor_code1 : E := (.cmp .gt (.bin .sub (.var 4 "high") (.var 3 "low")) (.cI 1))
def lp_floor_code1 : Sm := (.cons (.asg (.nm 5 "middle") (.bin .fdiv (.bin .add (.var 3 "low") (.var 4 "high")) (.cI 2))) (.cons (.asg (.nm 6 "told") (.call "value" (.cons (.var 0 "form") (.cons (.var 5 "middle") .nil)))) (.cons (.ite (.cmp .le (.bin .mul (.ix (.var 6 "told") (.cI 0)) (.var 2 "bottom")) (.bin .mul (.var 1 "top") (.ix (.var 6 "told") (.cI 1)))) (.cons (.asg (.nm 3 "low") (.var 5 "middle")) .nil) (.cons (.asg (.nm 4 "high") (.var 5 "middle")) .nil)) .nil)))
def s_floor_code : Sm :=
  (.cons (.par2 3 "low" 4 "high" (.cons (.cI 0) (.cons (.bin .add (.call "greatest" (.cons (.var 0 "form") .nil)) (.cI 1)) .nil)))
  (.cons (.while lt_floor_code1 lp_floor_code1)
  (.cons (.asg (.nm 6 "told") (.call "value" (.cons (.var 0 "form") (.cons (.var 3 "low") .nil))))
  (.cons (.ret (.tup (.cons (.var 3 "low") (.cons (.cmp .eq (.bin .mul (.ix (.var 6 "told") (.cI 0)) (.var 2 "bottom")) (.bin .mul (.var 1 "top") (.ix (.var 6 "told") (.cI 1)))) .nil)))) .nil))))
def d_floor_code : Def := ⟨["form", "top", "bottom", "low", "high", "middle", "told"], 3, true, s_floor_code⟩
def s_rounded : Sm :=
  (.cons (.expr (.call "check_form" (.cons (.var 0 "form") .nil)))
  (.cons (.ite (.cmp .notin (.var 2 "way") (.glob "WAYS")) (.cons .raise .nil) .nil)
  (.cons (.asg (.tup (.cons (.nm 3 "top") (.cons (.nm 4 "bottom") .nil))) (.var 1 "fraction"))
  (.cons (.asg (.nm 5 "sign") (.bi .int (.cons (.cmp .lt (.var 3 "top") (.cI 0)) .nil)))
  (.cons (.asg (.nm 3 "top") (.bi .abs (.cons (.var 3 "top") .nil)))
  (.cons (.asg (.tup (.cons (.nm 6 "low") (.cons (.nm 7 "is_just") .nil))) (.call "floor_code" (.cons (.var 0 "form") (.cons (.var 3 "top") (.cons (.var 4 "bottom") .nil)))))
  (.cons (.asg (.nm 8 "head") (.bin .mul (.var 5 "sign") (.call "power_of_floating" (.cons (.bin .add (.ix (.var 0 "form") (.cI 0)) (.ix (.var 0 "form") (.cI 1))) .nil))))
  (.cons (.ite (.tst (.var 7 "is_just")) (.cons (.ret (.bin .add (.var 8 "head") (.var 6 "low"))) .nil) .nil)
  (.cons (.asg (.nm 9 "goes_up") (.or (.cons (.and (.cons (.cmp .eq (.var 2 "way") (.cS "up")) (.cons (.cmp .eq (.var 5 "sign") (.cI 0)) .nil))) (.cons (.and (.cons (.cmp .eq (.var 2 "way") (.cS "down")) (.cons (.cmp .eq (.var 5 "sign") (.cI 1)) .nil))) .nil))))
  (.cons (.ite (.cmp .eq (.var 2 "way") (.cS "even")) (.cons (.asg (.nm 9 "goes_up") (.call "is_nearer_above" (.cons (.var 0 "form") (.cons (.var 6 "low") (.cons (.var 3 "top") (.cons (.var 4 "bottom") .nil)))))) .nil) .nil)
  (.cons (.ite (.not (.tst (.var 9 "goes_up"))) (.cons (.ret (.bin .add (.var 8 "head") (.var 6 "low"))) .nil) .nil)
  (.cons (.ret (.ite (.cmp .eq (.var 6 "low") (.call "greatest" (.cons (.var 0 "form") .nil))) (.call "endless" (.cons (.var 0 "form") (.cons (.var 5 "sign") .nil))) (.bin .add (.bin .add (.var 8 "head") (.var 6 "low")) (.cI 1)))) .nil))))))))))))
def d_rounded : Def := ⟨["form", "fraction", "way", "top", "bottom", "sign", "low", "is_just", "head", "goes_up"], 3, true, s_rounded⟩
def s_is_nearer_above : Sm :=
  (.cons (.asg (.nm 4 "below") (.call "value" (.cons (.var 0 "form") (.cons (.var 1 "low") .nil))))
  (.cons (.asg (.nm 5 "step") (.call "below_step" (.cons (.var 0 "form") (.cons (.var 1 "low") .nil))))
  (.cons (.asg (.nm 6 "double") (.bin .mul (.bin .mul (.cI 2) (.bin .sub (.bin .mul (.var 2 "top") (.ix (.var 4 "below") (.cI 1))) (.bin .mul (.ix (.var 4 "below") (.cI 0)) (.var 3 "bottom")))) (.ix (.var 5 "step") (.cI 1))))
  (.cons (.asg (.nm 7 "whole") (.bin .mul (.bin .mul (.ix (.var 5 "step") (.cI 0)) (.var 3 "bottom")) (.ix (.var 4 "below") (.cI 1))))
  (.cons (.ret (.or (.cons (.cmp .gt (.var 6 "double") (.var 7 "whole")) (.cons (.and (.cons (.cmp .eq (.var 6 "double") (.var 7 "whole")) (.cons (.cmp .eq (.bin .mod (.var 1 "low") (.cI 2)) (.cI 1)) .nil))) .nil)))) .nil)))))
def d_is_nearer_above : Def := ⟨["form", "low", "top", "bottom", "below", "step", "double", "whole"], 4, true, s_is_nearer_above⟩
def s_below_step : Sm :=
  (.cons (.asg (.tup (.cons (.nm 2 "_") (.cons (.nm 3 "exponent") (.cons (.nm 2 "_") .nil)))) (.call "parts" (.cons (.var 0 "form") (.cons (.var 1 "low") .nil))))
  (.cons (.asg (.nm 4 "power") (.bin .add (.call "least_power" (.cons (.var 0 "form") .nil)) (.bi .max (.cons (.bin .sub (.var 3 "exponent") (.cI 1)) (.cons (.cI 0) .nil)))))
  (.cons (.ret (.ite (.cmp .ge (.var 4 "power") (.cI 0)) (.tup (.cons (.call "power_of_floating" (.cons (.var 4 "power") .nil)) (.cons (.cI 1) .nil))) (.tup (.cons (.cI 1) (.cons (.call "power_of_floating" (.cons (.bin .sub (.cI 0) (.var 4 "power")) .nil)) .nil))))) .nil)))
def d_below_step : Def := ⟨["form", "low", "_", "exponent", "power"], 2, true, s_below_step⟩
def s_signed_nought : Sm :=
  (.cons (.ret (.bin .mul (.var 1 "sign") (.call "power_of_floating" (.cons (.bin .add (.ix (.var 0 "form") (.cI 0)) (.ix (.var 0 "form") (.cI 1))) .nil)))) .nil)
def d_signed_nought : Def := ⟨["form", "sign"], 2, true, s_signed_nought⟩
def s_add : Sm :=
  (.cons (.expr (.call "check_code_floating" (.cons (.var 0 "form") (.cons (.var 1 "one") .nil))))
  (.cons (.expr (.call "check_code_floating" (.cons (.var 0 "form") (.cons (.var 2 "other") .nil))))
  (.cons (.ite (.cmp .notin (.var 3 "way") (.glob "WAYS")) (.cons .raise .nil) .nil)
  (.cons (.ite (.cmp .inn (.cS "none") (.tup (.cons (.call "kind" (.cons (.var 0 "form") (.cons (.var 1 "one") .nil))) (.cons (.call "kind" (.cons (.var 0 "form") (.cons (.var 2 "other") .nil))) .nil)))) (.cons (.ret (.call "nothing" (.cons (.var 0 "form") .nil))) .nil) .nil)
  (.cons (.ite (.or (.cons (.cmp .eq (.call "kind" (.cons (.var 0 "form") (.cons (.var 1 "one") .nil))) (.cS "endless")) (.cons (.cmp .eq (.call "kind" (.cons (.var 0 "form") (.cons (.var 2 "other") .nil))) (.cS "endless")) .nil))) (.cons (.ite (.and (.cons (.cmp .eq (.call "kind" (.cons (.var 0 "form") (.cons (.var 1 "one") .nil))) (.call "kind" (.cons (.var 0 "form") (.cons (.var 2 "other") .nil)))) (.cons (.cmp .ne (.var 1 "one") (.var 2 "other")) .nil))) (.cons (.ret (.call "nothing" (.cons (.var 0 "form") .nil))) .nil) .nil) (.cons (.ret (.ite (.cmp .eq (.call "kind" (.cons (.var 0 "form") (.cons (.var 1 "one") .nil))) (.cS "endless")) (.var 1 "one") (.var 2 "other"))) .nil)) .nil)
  (.cons (.par2 4 "left" 5 "right" (.cons (.call "value" (.cons (.var 0 "form") (.cons (.var 1 "one") .nil))) (.cons (.call "value" (.cons (.var 0 "form") (.cons (.var 2 "other") .nil))) .nil)))
  (.cons (.asg (.nm 6 "top") (.bin .add (.bin .mul (.ix (.var 4 "left") (.cI 0)) (.ix (.var 5 "right") (.cI 1))) (.bin .mul (.ix (.var 5 "right") (.cI 0)) (.ix (.var 4 "left") (.cI 1)))))
  (.cons (.ite (.cmp .eq (.var 6 "top") (.cI 0)) (.cons (.asg (.nm 7 "signs") (.tup (.cons (.ix (.call "parts" (.cons (.var 0 "form") (.cons (.var 1 "one") .nil))) (.cI 0)) (.cons (.ix (.call "parts" (.cons (.var 0 "form") (.cons (.var 2 "other") .nil))) (.cI 0)) .nil)))) (.cons (.asg (.nm 8 "sign") (.ite (.cmp .eq (.ix (.var 7 "signs") (.cI 0)) (.ix (.var 7 "signs") (.cI 1))) (.ix (.var 7 "signs") (.cI 0)) (.bi .int (.cons (.cmp .eq (.var 3 "way") (.cS "down")) .nil)))) (.cons (.ret (.call "signed_nought" (.cons (.var 0 "form") (.cons (.var 8 "sign") .nil)))) .nil))) .nil)
  (.cons (.ret (.call "rounded" (.cons (.var 0 "form") (.cons (.call "reduced" (.cons (.var 6 "top") (.cons (.bin .mul (.ix (.var 4 "left") (.cI 1)) (.ix (.var 5 "right") (.cI 1))) .nil))) (.cons (.var 3 "way") .nil))))) .nil)))))))))
def d_add : Def := ⟨["form", "one", "other", "way", "left", "right", "top", "signs", "sign"], 4, true, s_add⟩
def s_turned : Sm :=
  (.cons (.expr (.call "check_code_floating" (.cons (.var 0 "form") (.cons (.var 1 "one") .nil))))
  (.cons (.asg (.nm 2 "half") (.call "power_of_floating" (.cons (.bin .add (.ix (.var 0 "form") (.cI 0)) (.ix (.var 0 "form") (.cI 1))) .nil)))
  (.cons (.ret (.ite (.cmp .ge (.var 1 "one") (.var 2 "half")) (.bin .sub (.var 1 "one") (.var 2 "half")) (.bin .add (.var 1 "one") (.var 2 "half")))) .nil)))
def d_turned : Def := ⟨["form", "one", "half"], 2, true, s_turned⟩
def s_multiply : Sm :=
  (.cons (.expr (.call "check_code_floating" (.cons (.var 0 "form") (.cons (.var 1 "one") .nil))))
  (.cons (.expr (.call "check_code_floating" (.cons (.var 0 "form") (.cons (.var 2 "other") .nil))))
  (.cons (.ite (.cmp .notin (.var 3 "way") (.glob "WAYS")) (.cons .raise .nil) .nil)
  (.cons (.asg (.nm 4 "kinds") (.tup (.cons (.call "kind" (.cons (.var 0 "form") (.cons (.var 1 "one") .nil))) (.cons (.call "kind" (.cons (.var 0 "form") (.cons (.var 2 "other") .nil))) .nil))))
  (.cons (.asg (.nm 5 "sign") (.bin .bxor (.ix (.call "parts" (.cons (.var 0 "form") (.cons (.var 1 "one") .nil))) (.cI 0)) (.ix (.call "parts" (.cons (.var 0 "form") (.cons (.var 2 "other") .nil))) (.cI 0))))
  (.cons (.ite (.or (.cons (.cmp .inn (.cS "none") (.var 4 "kinds")) (.cons (.and (.cons (.cmp .inn (.cS "endless") (.var 4 "kinds")) (.cons (.cmp .inn (.cS "nought") (.var 4 "kinds")) .nil))) .nil))) (.cons (.ret (.call "nothing" (.cons (.var 0 "form") .nil))) .nil) .nil)
  (.cons (.ite (.cmp .inn (.cS "endless") (.var 4 "kinds")) (.cons (.ret (.call "endless" (.cons (.var 0 "form") (.cons (.var 5 "sign") .nil)))) .nil) .nil)
  (.cons (.ite (.cmp .inn (.cS "nought") (.var 4 "kinds")) (.cons (.ret (.call "signed_nought" (.cons (.var 0 "form") (.cons (.var 5 "sign") .nil)))) .nil) .nil)
  (.cons (.par2 6 "left" 7 "right" (.cons (.call "value" (.cons (.var 0 "form") (.cons (.var 1 "one") .nil))) (.cons (.call "value" (.cons (.var 0 "form") (.cons (.var 2 "other") .nil))) .nil)))
  (.cons (.ret (.call "rounded" (.cons (.var 0 "form") (.cons (.call "reduced" (.cons (.bin .mul (.ix (.var 6 "left") (.cI 0)) (.ix (.var 7 "right") (.cI 0))) (.cons (.bin .mul (.ix (.var 6 "left") (.cI 1)) (.ix (.var 7 "right") (.cI 1))) .nil))) (.cons (.var 3 "way") .nil))))) .nil))))))))))
def d_multiply : Def := ⟨["form", "one", "other", "way", "kinds", "sign", "left", "right"], 4, true, s_multiply⟩
def s_divide : Sm :=
  (.cons (.expr (.call "check_code_floating" (.cons (.var 0 "form") (.cons (.var 1 "one") .nil))))
  (.cons (.expr (.call "check_code_floating" (.cons (.var 0 "form") (.cons (.var 2 "other") .nil))))
  (.cons (.ite (.cmp .notin (.var 3 "way") (.glob "WAYS")) (.cons .raise .nil) .nil)
  (.cons (.asg (.nm 4 "kinds") (.tup (.cons (.call "kind" (.cons (.var 0 "form") (.cons (.var 1 "one") .nil))) (.cons (.call "kind" (.cons (.var 0 "form") (.cons (.var 2 "other") .nil))) .nil))))
  (.cons (.asg (.nm 5 "sign") (.bin .bxor (.ix (.call "parts" (.cons (.var 0 "form") (.cons (.var 1 "one") .nil))) (.cI 0)) (.ix (.call "parts" (.cons (.var 0 "form") (.cons (.var 2 "other") .nil))) (.cI 0))))
  (.cons (.ite (.or (.cons (.cmp .inn (.cS "none") (.var 4 "kinds")) (.cons (.cmp .inn (.var 4 "kinds") (.tup (.cons (.tup (.cons (.cS "endless") (.cons (.cS "endless") .nil))) (.cons (.tup (.cons (.cS "nought") (.cons (.cS "nought") .nil))) .nil)))) .nil))) (.cons (.ret (.call "nothing" (.cons (.var 0 "form") .nil))) .nil) .nil)
  (.cons (.ite (.or (.cons (.cmp .eq (.ix (.var 4 "kinds") (.cI 0)) (.cS "endless")) (.cons (.cmp .eq (.ix (.var 4 "kinds") (.cI 1)) (.cS "nought")) .nil))) (.cons (.ret (.call "endless" (.cons (.var 0 "form") (.cons (.var 5 "sign") .nil)))) .nil) .nil)
  (.cons (.ite (.or (.cons (.cmp .eq (.ix (.var 4 "kinds") (.cI 1)) (.cS "endless")) (.cons (.cmp .eq (.ix (.var 4 "kinds") (.cI 0)) (.cS "nought")) .nil))) (.cons (.ret (.call "signed_nought" (.cons (.var 0 "form") (.cons (.var 5 "sign") .nil)))) .nil) .nil)
  (.cons (.par2 6 "left" 7 "right" (.cons (.call "value" (.cons (.var 0 "form") (.cons (.var 1 "one") .nil))) (.cons (.call "value" (.cons (.var 0 "form") (.cons (.var 2 "other") .nil))) .nil)))
  (.cons (.par2 8 "top" 9 "bottom" (.cons (.bin .mul (.ix (.var 6 "left") (.cI 0)) (.ix (.var 7 "right") (.cI 1))) (.cons (.bin .mul (.ix (.var 6 "left") (.cI 1)) (.ix (.var 7 "right") (.cI 0))) .nil)))
  (.cons (.ret (.call "rounded" (.cons (.var 0 "form") (.cons (.ite (.cmp .lt (.var 9 "bottom") (.cI 0)) (.call "reduced" (.cons (.bin .sub (.cI 0) (.var 8 "top")) (.cons (.bin .sub (.cI 0) (.var 9 "bottom")) .nil))) (.call "reduced" (.cons (.var 8 "top") (.cons (.var 9 "bottom") .nil)))) (.cons (.var 3 "way") .nil))))) .nil)))))))))))
def d_divide : Def := ⟨["form", "one", "other", "way", "kinds", "sign", "left", "right", "top", "bottom"], 4, true, s_divide⟩
def s_less : Sm :=
  (.cons (.expr (.call "check_code_floating" (.cons (.var 0 "form") (.cons (.var 1 "one") .nil))))
  (.cons (.expr (.call "check_code_floating" (.cons (.var 0 "form") (.cons (.var 2 "other") .nil))))
  (.cons (.ite (.cmp .inn (.cS "none") (.tup (.cons (.call "kind" (.cons (.var 0 "form") (.cons (.var 1 "one") .nil))) (.cons (.call "kind" (.cons (.var 0 "form") (.cons (.var 2 "other") .nil))) .nil)))) (.cons (.ret (.cB false)) .nil) .nil)
  (.cons (.ret (.cmp .lt (.call "place_of" (.cons (.var 0 "form") (.cons (.var 1 "one") .nil))) (.call "place_of" (.cons (.var 0 "form") (.cons (.var 2 "other") .nil))))) .nil))))
def d_less : Def := ⟨["form", "one", "other"], 3, true, s_less⟩
def s_place_of : Sm :=
  (.cons (.asg (.nm 2 "half") (.call "power_of_floating" (.cons (.bin .add (.ix (.var 0 "form") (.cI 0)) (.ix (.var 0 "form") (.cI 1))) .nil)))
  (.cons (.ret (.ite (.cmp .ge (.var 1 "code") (.var 2 "half")) (.bin .sub (.var 2 "half") (.var 1 "code")) (.var 1 "code"))) .nil))
def d_place_of : Def := ⟨["form", "code", "half"], 2, true, s_place_of⟩
def s_next_up : Sm :=
  (.cons (.ite (.or (.cons (.cmp .eq (.call "kind" (.cons (.var 0 "form") (.cons (.var 1 "code") .nil))) (.cS "none")) (.cons (.cmp .eq (.var 1 "code") (.call "endless" (.cons (.var 0 "form") (.cons (.cI 0) .nil)))) .nil))) (.cons (.ret .cN) .nil) .nil)
  (.cons (.asg (.nm 2 "half") (.call "power_of_floating" (.cons (.bin .add (.ix (.var 0 "form") (.cI 0)) (.ix (.var 0 "form") (.cI 1))) .nil)))
  (.cons (.ite (.cmp .inn (.var 1 "code") (.tup (.cons (.cI 0) (.cons (.var 2 "half") .nil)))) (.cons (.ret (.cI 1)) .nil) .nil)
  (.cons (.ret (.ite (.cmp .gt (.var 1 "code") (.var 2 "half")) (.bin .sub (.var 1 "code") (.cI 1)) (.bin .add (.var 1 "code") (.cI 1)))) .nil))))
def d_next_up : Def := ⟨["form", "code", "half"], 2, true, s_next_up⟩
def lp_summed1 : Sm := (.cons (.asg (.nm 3 "now") (.call "add" (.cons (.var 0 "form") (.cons (.var 3 "now") (.cons (.var 5 "code") (.cons (.var 2 "way") .nil)))))) (.cons (.asg (.nm 6 "told") (.call "value" (.cons (.var 0 "form") (.cons (.var 5 "code") .nil)))) (.cons (.ite (.or (.cons (.cmp .isN (.var 6 "told") .cN) (.cons (.cmp .isN (.var 4 "exact") .cN) .nil))) (.cons (.asg (.nm 4 "exact") .cN) .nil) (.cons (.asg (.nm 4 "exact") (.call "reduced" (.cons (.bin .add (.bin .mul (.ix (.var 4 "exact") (.cI 0)) (.ix (.var 6 "told") (.cI 1))) (.bin .mul (.ix (.var 6 "told") (.cI 0)) (.ix (.var 4 "exact") (.cI 1)))) (.cons (.bin .mul (.ix (.var 4 "exact") (.cI 1)) (.ix (.var 6 "told") (.cI 1))) .nil)))) .nil)) .nil)))
def s_summed : Sm :=
  (.cons (.expr (.call "check_form" (.cons (.var 0 "form") .nil)))
  (.cons (.ite (.and (.cons (.not (.tst (.var 1 "codes"))) (.cons (.cmp .notin (.var 2 "way") (.glob "WAYS")) .nil))) (.cons .raise .nil) .nil)
  (.cons (.asg (.nm 3 "now") (.cI 0))
  (.cons (.asg (.nm 4 "exact") (.tup (.cons (.cI 0) (.cons (.cI 1) .nil))))
  (.cons (.for (.nm 5 "code") (.cons (.var 1 "codes") .nil) lp_summed1)
  (.cons (.ret (.tup (.cons (.var 3 "now") (.cons (.var 4 "exact") .nil)))) .nil))))))
def d_summed : Def := ⟨["form", "codes", "way", "now", "exact", "code", "told"], 3, true, s_summed⟩
def s_pair_sum : Sm :=
  (.cons (.asg (.nm 3 "whole") (.call "add" (.cons (.var 0 "form") (.cons (.var 1 "one") (.cons (.var 2 "other") (.cons (.cS "even") .nil))))))
  (.cons (.ite (.cmp .isN (.call "value" (.cons (.var 0 "form") (.cons (.var 3 "whole") .nil))) .cN) (.cons (.ret .cN) .nil) .nil)
  (.cons (.par3 4 "left" 5 "right" 6 "told" (.cons (.call "value" (.cons (.var 0 "form") (.cons (.var 1 "one") .nil))) (.cons (.call "value" (.cons (.var 0 "form") (.cons (.var 2 "other") .nil))) (.cons (.call "value" (.cons (.var 0 "form") (.cons (.var 3 "whole") .nil))) .nil))))
  (.cons (.asg (.nm 7 "top") (.bin .add (.bin .mul (.ix (.var 4 "left") (.cI 0)) (.ix (.var 5 "right") (.cI 1))) (.bin .mul (.ix (.var 5 "right") (.cI 0)) (.ix (.var 4 "left") (.cI 1)))))
  (.cons (.asg (.nm 8 "gap") (.call "reduced" (.cons (.bin .sub (.bin .mul (.var 7 "top") (.ix (.var 6 "told") (.cI 1))) (.bin .mul (.bin .mul (.ix (.var 6 "told") (.cI 0)) (.ix (.var 4 "left") (.cI 1))) (.ix (.var 5 "right") (.cI 1)))) (.cons (.bin .mul (.bin .mul (.ix (.var 4 "left") (.cI 1)) (.ix (.var 5 "right") (.cI 1))) (.ix (.var 6 "told") (.cI 1))) .nil))))
  (.cons (.ret (.tup (.cons (.var 3 "whole") (.cons (.var 8 "gap") .nil)))) .nil))))))
def d_pair_sum : Def := ⟨["form", "one", "other", "whole", "left", "right", "told", "top", "gap"], 3, true, s_pair_sum⟩
def lp_power_of_figures1 : Sm := (.cons (.aug 1 "found" .mul (.cI 2)) .nil)
def s_power_of_figures : Sm :=
  (.cons (.asg (.nm 1 "found") (.cI 1))
  (.cons (.for (.nm 2 "_") (.rng (.cons (.var 0 "number") .nil)) lp_power_of_figures1)
  (.cons (.ret (.var 1 "found")) .nil)))
def d_power_of_figures : Def := ⟨["number", "found", "_"], 1, true, s_power_of_figures⟩
def s_check : Sm :=
  (.cons (.ite (.not (.chn .le .le (.cI 1) (.var 0 "bits") (.glob "MOST_BITS"))) (.cons .raise .nil) .nil) .nil)
def d_check : Def := ⟨["bits"], 1, true, s_check⟩
def s_check_code_figures : Sm :=
  (.cons (.expr (.call "check" (.cons (.var 0 "bits") .nil)))
  (.cons (.ite (.not (.chn .le .lt (.cI 0) (.var 1 "code") (.call "power_of_figures" (.cons (.var 0 "bits") .nil)))) (.cons .raise .nil) .nil) .nil))
def d_check_code_figures : Def := ⟨["bits", "code"], 2, true, s_check_code_figures⟩
def s_meaning : Sm :=
  (.cons (.expr (.call "check_code_figures" (.cons (.var 0 "bits") (.cons (.var 1 "code") .nil))))
  (.cons (.ret (.ite (.cmp .ge (.var 1 "code") (.call "power_of_figures" (.cons (.bin .sub (.var 0 "bits") (.cI 1)) .nil))) (.bin .sub (.var 1 "code") (.call "power_of_figures" (.cons (.var 0 "bits") .nil))) (.var 1 "code"))) .nil))
def d_meaning : Def := ⟨["bits", "code"], 2, true, s_meaning⟩
def s_code_of : Sm :=
  (.cons (.expr (.call "check" (.cons (.var 0 "bits") .nil)))
  (.cons (.ite (.not (.chn .le .lt (.bin .sub (.cI 0) (.call "power_of_figures" (.cons (.bin .sub (.var 0 "bits") (.cI 1)) .nil))) (.var 1 "number") (.call "power_of_figures" (.cons (.bin .sub (.var 0 "bits") (.cI 1)) .nil)))) (.cons (.ret .cN) .nil) .nil)
  (.cons (.ret (.bin .mod (.var 1 "number") (.call "power_of_figures" (.cons (.var 0 "bits") .nil)))) .nil)))
def d_code_of : Def := ⟨["bits", "number"], 2, true, s_code_of⟩
def s_added : Sm :=
  (.cons (.expr (.call "check_code_figures" (.cons (.var 0 "bits") (.cons (.var 1 "one") .nil))))
  (.cons (.expr (.call "check_code_figures" (.cons (.var 0 "bits") (.cons (.var 2 "other") .nil))))
  (.cons (.asg (.nm 3 "whole") (.bin .add (.var 1 "one") (.var 2 "other")))
  (.cons (.asg (.nm 4 "code") (.bin .mod (.var 3 "whole") (.call "power_of_figures" (.cons (.var 0 "bits") .nil))))
  (.cons (.asg (.nm 5 "exact") (.bin .add (.call "meaning" (.cons (.var 0 "bits") (.cons (.var 1 "one") .nil))) (.call "meaning" (.cons (.var 0 "bits") (.cons (.var 2 "other") .nil)))))
  (.cons (.asg (.nm 6 "beyond") (.bi .int (.cons (.cmp .ne (.var 5 "exact") (.call "meaning" (.cons (.var 0 "bits") (.cons (.var 4 "code") .nil)))) .nil)))
  (.cons (.ret (.tup (.cons (.var 4 "code") (.cons (.tup (.cons (.bin .fdiv (.var 3 "whole") (.call "power_of_figures" (.cons (.var 0 "bits") .nil))) (.cons (.var 6 "beyond") (.cons (.bin .fdiv (.var 4 "code") (.call "power_of_figures" (.cons (.bin .sub (.var 0 "bits") (.cI 1)) .nil))) (.cons (.bi .int (.cons (.cmp .eq (.var 4 "code") (.cI 0)) .nil)) .nil))))) .nil)))) .nil)))))))
def d_added : Def := ⟨["bits", "one", "other", "whole", "code", "exact", "beyond"], 3, true, s_added⟩
def s_taken_off : Sm :=
  (.cons (.expr (.call "check_code_figures" (.cons (.var 0 "bits") (.cons (.var 1 "one") .nil))))
  (.cons (.expr (.call "check_code_figures" (.cons (.var 0 "bits") (.cons (.var 2 "other") .nil))))
  (.cons (.asg (.nm 3 "whole") (.bin .add (.bin .add (.var 1 "one") (.bin .sub (.bin .sub (.call "power_of_figures" (.cons (.var 0 "bits") .nil)) (.cI 1)) (.var 2 "other"))) (.cI 1)))
  (.cons (.asg (.nm 4 "code") (.bin .mod (.var 3 "whole") (.call "power_of_figures" (.cons (.var 0 "bits") .nil))))
  (.cons (.asg (.nm 5 "exact") (.bin .sub (.call "meaning" (.cons (.var 0 "bits") (.cons (.var 1 "one") .nil))) (.call "meaning" (.cons (.var 0 "bits") (.cons (.var 2 "other") .nil)))))
  (.cons (.asg (.nm 6 "beyond") (.bi .int (.cons (.cmp .ne (.var 5 "exact") (.call "meaning" (.cons (.var 0 "bits") (.cons (.var 4 "code") .nil)))) .nil)))
  (.cons (.ret (.tup (.cons (.var 4 "code") (.cons (.tup (.cons (.bin .fdiv (.var 3 "whole") (.call "power_of_figures" (.cons (.var 0 "bits") .nil))) (.cons (.var 6 "beyond") (.cons (.bin .fdiv (.var 4 "code") (.call "power_of_figures" (.cons (.bin .sub (.var 0 "bits") (.cI 1)) .nil))) (.cons (.bi .int (.cons (.cmp .eq (.var 4 "code") (.cI 0)) .nil)) .nil))))) .nil)))) .nil)))))))
def d_taken_off : Def := ⟨["bits", "one", "other", "whole", "code", "exact", "beyond"], 3, true, s_taken_off⟩
def lp_digits1 : Sm := (.cons (.asg (.nm 5 "now") (.bin .mod (.bin .fdiv (.var 1 "code") (.call "power_of_figures" (.cons (.var 4 "k") .nil))) (.cI 2))) (.cons (.expr (.app (.var 2 "found") (.bin .sub (.var 3 "before") (.var 5 "now")))) (.cons (.asg (.nm 3 "before") (.var 5 "now")) .nil)))
def s_digits : Sm :=
  (.cons (.expr (.call "check_code_figures" (.cons (.var 0 "bits") (.cons (.var 1 "code") .nil))))
  (.cons (.asg (.nm 2 "found") (.lst .nil))
  (.cons (.asg (.nm 3 "before") (.cI 0))
  (.cons (.for (.nm 4 "k") (.rng (.cons (.var 0 "bits") .nil)) lp_digits1)
  (.cons (.ret (.bi .tuple (.cons (.var 2 "found") .nil))) .nil)))))
def d_digits : Def := ⟨["bits", "code", "found", "before", "k", "now"], 2, true, s_digits⟩
def lt_sparse1 : E := (.cmp .ne (.var 2 "number") (.cI 0))
def lp_sparse1 : Sm := (.cons (.asg (.nm 4 "digit") (.cI 0)) (.cons (.ite (.cmp .eq (.bin .mod (.var 2 "number") (.cI 2)) (.cI 1)) (.cons (.asg (.nm 4 "digit") (.ite (.cmp .eq (.bin .mod (.var 2 "number") (.cI 4)) (.cI 1)) (.cI 1) (.neg (.cI 1)))) .nil) .nil) (.cons (.expr (.app (.var 3 "found") (.var 4 "digit"))) (.cons (.asg (.nm 2 "number") (.bin .fdiv (.bin .sub (.var 2 "number") (.var 4 "digit")) (.cI 2))) .nil))))
def s_sparse : Sm :=
  (.cons (.asg (.nm 2 "number") (.call "meaning" (.cons (.var 0 "bits") (.cons (.var 1 "code") .nil))))
  (.cons (.asg (.nm 3 "found") (.lst .nil))
  (.cons (.while lt_sparse1 lp_sparse1)
  (.cons (.ret (.bi .tuple (.cons (.var 3 "found") .nil))) .nil))))
def d_sparse : Def := ⟨["bits", "code", "number", "found", "digit"], 2, true, s_sparse⟩
def ce_from_digits1 : E := (.cmp .inn (.var 2 "digit") (.tup (.cons (.neg (.cI 1)) (.cons (.cI 0) (.cons (.cI 1) .nil)))))
def lp_from_digits1 : Sm := (.cons (.asg (.nm 1 "found") (.bin .add (.bin .mul (.cI 2) (.var 1 "found")) (.var 2 "digit"))) .nil)
def s_from_digits : Sm :=
  (.cons (.ite (.not (.tst (.bi .all (.cons (.lc [("digit", 2)] ce_from_digits1 (.nm 2 "digit") (.cons (.var 0 "row") .nil) .nil) .nil)))) (.cons .raise .nil) .nil)
  (.cons (.asg (.nm 1 "found") (.cI 0))
  (.cons (.for (.nm 2 "digit") (.cons (.rev (.var 0 "row")) .nil) lp_from_digits1)
  (.cons (.ret (.var 1 "found")) .nil))))
def d_from_digits : Def := ⟨["row", "found", "digit"], 1, true, s_from_digits⟩
def lp_by_digits1 : Sm := (.cons (.aug 5 "found" .add (.bin .mul (.bin .mul (.var 7 "digit") (.var 4 "number")) (.call "power_of_figures" (.cons (.var 6 "k") .nil)))) .nil)
def ct_by_digits1 : E := (.cons (.cmp .ne (.var 7 "digit") (.cI 0)) .nil)
def ce_by_digits1 : E := (.var 7 "digit")
def s_by_digits : Sm :=
  (.cons (.expr (.call "check_code_figures" (.cons (.var 0 "bits") (.cons (.var 1 "one") .nil))))
  (.cons (.asg (.nm 3 "told") (.call "digits" (.cons (.var 0 "bits") (.cons (.var 2 "other") .nil))))
  (.cons (.asg (.nm 4 "number") (.call "meaning" (.cons (.var 0 "bits") (.cons (.var 1 "one") .nil))))
  (.cons (.asg (.nm 5 "found") (.cI 0))
  (.cons (.for (.tup (.cons (.nm 6 "k") (.cons (.nm 7 "digit") .nil))) (.enm (.var 3 "told")) lp_by_digits1)
  (.cons (.ret (.tup (.cons (.var 5 "found") (.cons (.bi .len (.cons (.lc [("digit", 7)] ce_by_digits1 (.nm 7 "digit") (.cons (.var 3 "told") .nil) ct_by_digits1) .nil)) .nil)))) .nil))))))
def d_by_digits : Def := ⟨["bits", "one", "other", "told", "number", "found", "k", "digit"], 3, true, s_by_digits⟩
def ce_law_tape1 : E := (.bi .abs (.cons (.bi .int (.cons (.var 3 "cell") .nil)) .nil))
def lp_law_tape1 : Sm := (.cons (.asg (.nm 2 "seed") (.bin .mod (.bi .int (.cons (.bin .add (.bin .mul (.var 2 "seed") (.cI 31)) (.var 3 "cell")) .nil)) (.cI 2147483647))) .nil)
def s_law_tape : Sm :=
  (.cons (.setLc 1 "cells" [("cell", 3)] ce_law_tape1 (.nm 3 "cell") (.cons (.var 0 "script") .nil) .nil)
  (.cons (.asg (.nm 2 "seed") (.cI 7))
  (.cons (.for (.nm 3 "cell") (.cons (.var 1 "cells") .nil) lp_law_tape1)
  (.cons (.ret (.disp [(.inr "cells"), (.inr "at"), (.inr "left"), (.inr "seed"), (.inr "salt")] (.cons (.var 1 "cells") (.cons (.cI 0) (.cons (.cI 0) (.cons (.var 2 "seed") (.cons (.cI 0) .nil))))))) .nil))))
def d_law_tape : Def := ⟨["script", "cells", "seed", "cell"], 1, false, s_law_tape⟩
def s_law_take : Sm :=
  (.cons (.ite (.and (.cons (.cmp .eq (.dget (.var 0 "tape") (.cS "left")) (.cI 0)) (.cons (.cmp .lt (.dget (.var 0 "tape") (.cS "at")) (.bi .len (.cons (.dget (.var 0 "tape") (.cS "cells")) .nil))) .nil))) (.cons (.setd (.var 0 "tape") (.cS "left") (.ix (.dget (.var 0 "tape") (.cS "cells")) (.dget (.var 0 "tape") (.cS "at")))) (.cons (.setd (.var 0 "tape") (.cS "at") (.bin .add (.dget (.var 0 "tape") (.cS "at")) (.cI 1))) .nil)) .nil)
  (.cons (.ite (.cmp .gt (.dget (.var 0 "tape") (.cS "left")) (.cI 0)) (.cons (.asg (.nm 2 "drawn") (.bin .mod (.bi .int (.cons (.dget (.var 0 "tape") (.cS "left")) .nil)) (.var 1 "many"))) (.cons (.setd (.var 0 "tape") (.cS "left") (.bin .fdiv (.dget (.var 0 "tape") (.cS "left")) (.var 1 "many"))) (.cons (.ret (.var 2 "drawn")) .nil))) .nil)
  (.cons (.setd (.var 0 "tape") (.cS "salt") (.bin .add (.dget (.var 0 "tape") (.cS "salt")) (.cI 1)))
  (.cons (.asg (.nm 3 "mixed") (.bin .mod (.bi .int (.cons (.bin .add (.bin .mul (.dget (.var 0 "tape") (.cS "seed")) (.cI 48271)) (.bin .mul (.dget (.var 0 "tape") (.cS "salt")) (.cI 69621))) .nil)) (.cI 2147483647)))
  (.cons (.asg (.nm 3 "mixed") (.bin .mod (.bi .int (.cons (.bin .add (.bin .add (.bin .mul (.var 3 "mixed") (.var 3 "mixed")) (.bin .mul (.dget (.var 0 "tape") (.cS "salt")) (.cI 40692))) (.cI 12345)) .nil)) (.cI 2147483399)))
  (.cons (.ret (.bin .mod (.bi .int (.cons (.var 3 "mixed") .nil)) (.var 1 "many"))) .nil))))))
def d_law_take : Def := ⟨["tape", "many", "drawn", "mixed"], 2, true, s_law_take⟩
def s_law_code : Sm :=
  (.cons (.par2 2 "which" 3 "whole" (.cons (.call "_law_take" (.cons (.var 0 "tape") (.cons (.cI 4) .nil))) (.cons (.call "size" (.cons (.var 1 "form") .nil)) .nil)))
  (.cons (.ite (.cmp .eq (.var 2 "which") (.cI 0)) (.cons (.ret (.ix (.tup (.cons (.cI 0) (.cons (.bin .fdiv (.var 3 "whole") (.cI 2)) (.cons (.call "greatest" (.cons (.var 1 "form") .nil)) (.cons (.bin .add (.call "greatest" (.cons (.var 1 "form") .nil)) (.cI 1)) (.cons (.bin .add (.call "greatest" (.cons (.var 1 "form") .nil)) (.cI 2)) (.cons (.cI 1) .nil))))))) (.call "_law_take" (.cons (.var 0 "tape") (.cons (.cI 6) .nil))))) .nil) .nil)
  (.cons (.ret (.call "_law_take" (.cons (.var 0 "tape") (.cons (.var 3 "whole") .nil)))) .nil)))
def d_law_code : Def := ⟨["tape", "form", "which", "whole"], 2, true, s_law_code⟩
def s_law_mirror : Sm :=
  (.cons (.ret (.dget (.disp [(.inr "even"), (.inr "zero"), (.inr "up"), (.inr "down")] (.cons (.cS "even") (.cons (.cS "zero") (.cons (.cS "down") (.cons (.cS "up") .nil))))) (.var 0 "way"))) .nil)
def d_law_mirror : Def := ⟨["way"], 1, true, s_law_mirror⟩
def s_law_turned : Sm :=
  (.cons (.ret (.ite (.cmp .eq (.call "kind" (.cons (.var 0 "form") (.cons (.var 1 "code") .nil))) (.cS "none")) (.var 1 "code") (.call "turned" (.cons (.var 0 "form") (.cons (.var 1 "code") .nil))))) .nil)
def d_law_turned : Def := ⟨["form", "code"], 2, true, s_law_turned⟩
def s_law_sums_right : Sm :=
  (.cons (.par2 4 "told" 5 "back" (.cons (.call "add" (.cons (.var 0 "form") (.cons (.var 1 "one") (.cons (.var 2 "other") (.cons (.var 3 "way") .nil))))) (.cons (.call "add" (.cons (.var 0 "form") (.cons (.call "turned" (.cons (.var 0 "form") (.cons (.var 1 "one") .nil))) (.cons (.call "turned" (.cons (.var 0 "form") (.cons (.var 2 "other") .nil))) (.cons (.call "_law_mirror" (.cons (.var 3 "way") .nil)) .nil))))) .nil)))
  (.cons (.asg (.nm 6 "is_bare") (.and (.cons (.cmp .eq (.call "kind" (.cons (.var 0 "form") (.cons (.var 4 "told") .nil))) (.cS "nought")) (.cons (.cmp .ne (.ix (.call "parts" (.cons (.var 0 "form") (.cons (.var 1 "one") .nil))) (.cI 0)) (.ix (.call "parts" (.cons (.var 0 "form") (.cons (.var 2 "other") .nil))) (.cI 0))) (.cons (.cmp .inn (.var 3 "way") (.tup (.cons (.cS "even") (.cons (.cS "zero") .nil)))) .nil)))))
  (.cons (.ite (.or (.cons (.cmp .ne (.var 5 "back") (.ite (.tst (.var 6 "is_bare")) (.var 4 "told") (.call "_law_turned" (.cons (.var 0 "form") (.cons (.var 4 "told") .nil))))) (.cons (.cmp .ne (.call "add" (.cons (.var 0 "form") (.cons (.var 2 "other") (.cons (.var 1 "one") (.cons (.var 3 "way") .nil))))) (.var 4 "told")) .nil))) (.cons (.ret (.cB false)) .nil) .nil)
  (.cons (.ite (.and (.cons (.cmp .ne (.call "add" (.cons (.var 0 "form") (.cons (.var 1 "one") (.cons (.cI 0) (.cons (.var 3 "way") .nil))))) (.var 1 "one")) (.cons (.cmp .notin (.call "kind" (.cons (.var 0 "form") (.cons (.var 1 "one") .nil))) (.tup (.cons (.cS "none") (.cons (.cS "nought") .nil)))) .nil))) (.cons (.ret (.cB false)) .nil) .nil)
  (.cons (.par2 7 "pair" 8 "gone" (.cons (.call "pair_sum" (.cons (.var 0 "form") (.cons (.var 1 "one") (.cons (.var 2 "other") .nil)))) (.cons (.call "pair_sum" (.cons (.var 0 "form") (.cons (.call "turned" (.cons (.var 0 "form") (.cons (.var 1 "one") .nil))) (.cons (.call "turned" (.cons (.var 0 "form") (.cons (.var 2 "other") .nil))) .nil)))) .nil)))
  (.cons (.ite (.cmp .ne (.cmp .isN (.var 7 "pair") .cN) (.cmp .isN (.var 8 "gone") .cN)) (.cons (.ret (.cB false)) .nil) .nil)
  (.cons (.ret (.or (.cons (.cmp .isN (.var 7 "pair") .cN) (.cons (.and (.cons (.cmp .eq (.ix (.var 8 "gone") (.cI 1)) (.tup (.cons (.bin .sub (.cI 0) (.ix (.ix (.var 7 "pair") (.cI 1)) (.cI 0))) (.cons (.ix (.ix (.var 7 "pair") (.cI 1)) (.cI 1)) .nil)))) (.cons (.cmp .eq (.call "value" (.cons (.var 0 "form") (.cons (.ix (.var 8 "gone") (.cI 0)) .nil))) (.tup (.cons (.bin .sub (.cI 0) (.ix (.call "value" (.cons (.var 0 "form") (.cons (.ix (.var 7 "pair") (.cI 0)) .nil))) (.cI 0))) (.cons (.ix (.call "value" (.cons (.var 0 "form") (.cons (.ix (.var 7 "pair") (.cI 0)) .nil))) (.cI 1)) .nil)))) .nil))) .nil)))) .nil)))))))
def d_law_sums_right : Def := ⟨["form", "one", "other", "way", "told", "back", "is_bare", "pair", "gone"], 4, true, s_law_sums_right⟩
def lp_law_products_right1 : Sm := (.cons (.asg (.nm 5 "told") (.lcall 4 "made" (.cons (.var 0 "form") (.cons (.var 1 "one") (.cons (.var 2 "other") (.cons (.var 3 "way") .nil)))))) (.cons (.ite (.cmp .ne (.lcall 4 "made" (.cons (.var 0 "form") (.cons (.call "turned" (.cons (.var 0 "form") (.cons (.var 1 "one") .nil))) (.cons (.call "turned" (.cons (.var 0 "form") (.cons (.var 2 "other") .nil))) (.cons (.var 3 "way") .nil))))) (.var 5 "told")) (.cons (.ret (.cB false)) .nil) .nil) (.cons (.ite (.or (.cons (.cmp .ne (.lcall 4 "made" (.cons (.var 0 "form") (.cons (.call "turned" (.cons (.var 0 "form") (.cons (.var 1 "one") .nil))) (.cons (.var 2 "other") (.cons (.call "_law_mirror" (.cons (.var 3 "way") .nil)) .nil))))) (.call "_law_turned" (.cons (.var 0 "form") (.cons (.var 5 "told") .nil)))) (.cons (.cmp .ne (.lcall 4 "made" (.cons (.var 0 "form") (.cons (.var 1 "one") (.cons (.call "turned" (.cons (.var 0 "form") (.cons (.var 2 "other") .nil))) (.cons (.call "_law_mirror" (.cons (.var 3 "way") .nil)) .nil))))) (.call "_law_turned" (.cons (.var 0 "form") (.cons (.var 5 "told") .nil)))) .nil))) (.cons (.ret (.cB false)) .nil) .nil) .nil)))
def s_law_products_right : Sm :=
  (.cons (.for (.nm 4 "made") (.cons (.tup (.cons (.glob "multiply") (.cons (.glob "divide") .nil))) .nil) lp_law_products_right1)
  (.cons (.ret (.cmp .eq (.call "multiply" (.cons (.var 0 "form") (.cons (.var 2 "other") (.cons (.var 1 "one") (.cons (.var 3 "way") .nil))))) (.call "multiply" (.cons (.var 0 "form") (.cons (.var 1 "one") (.cons (.var 2 "other") (.cons (.var 3 "way") .nil))))))) .nil))
def d_law_products_right : Def := ⟨["form", "one", "other", "way", "made", "told"], 4, true, s_law_products_right⟩
def s_law_order_right : Sm :=
  (.cons (.ite (.or (.cons (.cmp .ne (.call "less" (.cons (.var 0 "form") (.cons (.var 1 "one") (.cons (.var 2 "other") .nil)))) (.call "less" (.cons (.var 0 "form") (.cons (.call "turned" (.cons (.var 0 "form") (.cons (.var 2 "other") .nil))) (.cons (.call "turned" (.cons (.var 0 "form") (.cons (.var 1 "one") .nil))) .nil))))) (.cons (.and (.cons (.tst (.call "less" (.cons (.var 0 "form") (.cons (.var 1 "one") (.cons (.var 2 "other") .nil))))) (.cons (.tst (.call "less" (.cons (.var 0 "form") (.cons (.var 2 "other") (.cons (.var 1 "one") .nil))))) .nil))) .nil))) (.cons (.ret (.cB false)) .nil) .nil)
  (.cons (.ite (.or (.cons (.cmp .ne (.call "turned" (.cons (.var 0 "form") (.cons (.call "turned" (.cons (.var 0 "form") (.cons (.var 1 "one") .nil))) .nil))) (.var 1 "one")) (.cons (.cmp .ne (.call "kind" (.cons (.var 0 "form") (.cons (.call "turned" (.cons (.var 0 "form") (.cons (.var 1 "one") .nil))) .nil))) (.call "kind" (.cons (.var 0 "form") (.cons (.var 1 "one") .nil)))) .nil))) (.cons (.ret (.cB false)) .nil) .nil)
  (.cons (.asg (.nm 3 "after") (.call "next_up" (.cons (.var 0 "form") (.cons (.var 1 "one") .nil))))
  (.cons (.ite (.and (.cons (.cmp .notN (.var 3 "after") .cN) (.cons (.cmp .ne (.call "kind" (.cons (.var 0 "form") (.cons (.var 1 "one") .nil))) (.cS "nought")) .nil))) (.cons (.asg (.nm 4 "back") (.call "next_up" (.cons (.var 0 "form") (.cons (.call "turned" (.cons (.var 0 "form") (.cons (.var 3 "after") .nil))) .nil)))) (.cons (.ite (.or (.cons (.not (.tst (.call "less" (.cons (.var 0 "form") (.cons (.var 1 "one") (.cons (.var 3 "after") .nil)))))) (.cons (.and (.cons (.cmp .ne (.call "value" (.cons (.var 0 "form") (.cons (.var 3 "after") .nil))) (.tup (.cons (.cI 0) (.cons (.cI 1) .nil)))) (.cons (.cmp .ne (.var 4 "back") (.call "turned" (.cons (.var 0 "form") (.cons (.var 1 "one") .nil)))) .nil))) .nil))) (.cons (.ret (.cB false)) .nil) .nil) .nil)) .nil)
  (.cons (.asg (.nm 5 "told") (.call "value" (.cons (.var 0 "form") (.cons (.var 1 "one") .nil))))
  (.cons (.ret (.or (.cons (.cmp .isN (.var 5 "told") .cN) (.cons (.cmp .eq (.call "value" (.cons (.var 0 "form") (.cons (.call "turned" (.cons (.var 0 "form") (.cons (.var 1 "one") .nil))) .nil))) (.tup (.cons (.bin .sub (.cI 0) (.ix (.var 5 "told") (.cI 0))) (.cons (.ix (.var 5 "told") (.cI 1)) .nil)))) .nil)))) .nil))))))
def d_law_order_right : Def := ⟨["form", "one", "other", "after", "back", "told"], 3, true, s_law_order_right⟩
def ce_law_rounded_right1 : E := (.call "_law_code" (.cons (.var 0 "tape") (.cons (.var 1 "form") .nil)))
def ce_law_rounded_right2 : E := (.call "turned" (.cons (.var 1 "form") (.cons (.var 11 "code") .nil)))
def s_law_rounded_right : Sm :=
  (.cons (.par2 3 "top" 4 "bottom" (.cons (.bin .add (.cI 1) (.call "_law_take" (.cons (.var 0 "tape") (.cons (.cI 5000) .nil)))) (.cons (.bin .add (.cI 1) (.call "_law_take" (.cons (.var 0 "tape") (.cons (.cI 5000) .nil)))) .nil)))
  (.cons (.par2 5 "told" 6 "back" (.cons (.call "rounded" (.cons (.var 1 "form") (.cons (.tup (.cons (.var 3 "top") (.cons (.var 4 "bottom") .nil))) (.cons (.var 2 "way") .nil)))) (.cons (.call "rounded" (.cons (.var 1 "form") (.cons (.tup (.cons (.bin .sub (.cI 0) (.var 3 "top")) (.cons (.var 4 "bottom") .nil))) (.cons (.call "_law_mirror" (.cons (.var 2 "way") .nil)) .nil)))) .nil)))
  (.cons (.asg (.nm 7 "codes") (.bi .tuple (.cons (.lc [("k", 10)] ce_law_rounded_right1 (.nm 10 "k") (.rng (.cons (.call "_law_take" (.cons (.var 0 "tape") (.cons (.cI 5) .nil))) .nil)) .nil) .nil)))
  (.cons (.par2 8 "one" 9 "other" (.cons (.call "summed" (.cons (.var 1 "form") (.cons (.var 7 "codes") (.cons (.cS "even") .nil)))) (.cons (.call "summed" (.cons (.var 1 "form") (.cons (.bi .tuple (.cons (.lc [("code", 11)] ce_law_rounded_right2 (.nm 11 "code") (.cons (.var 7 "codes") .nil) .nil) .nil)) (.cons (.cS "even") .nil)))) .nil)))
  (.cons (.ite (.or (.cons (.cmp .ne (.cmp .isN (.ix (.var 8 "one") (.cI 1)) .cN) (.cmp .isN (.ix (.var 9 "other") (.cI 1)) .cN)) (.cons (.and (.cons (.cmp .notN (.ix (.var 8 "one") (.cI 1)) .cN) (.cons (.cmp .ne (.ix (.var 9 "other") (.cI 1)) (.tup (.cons (.bin .sub (.cI 0) (.ix (.ix (.var 8 "one") (.cI 1)) (.cI 0))) (.cons (.ix (.ix (.var 8 "one") (.cI 1)) (.cI 1)) .nil)))) .nil))) .nil))) (.cons (.ret (.cB false)) .nil) .nil)
  (.cons (.ret (.and (.cons (.cmp .eq (.var 6 "back") (.call "turned" (.cons (.var 1 "form") (.cons (.var 5 "told") .nil)))) (.cons (.cmp .eq (.ix (.call "parts" (.cons (.var 1 "form") (.cons (.var 5 "told") .nil))) (.cI 0)) (.cI 0)) .nil)))) .nil))))))
def d_law_rounded_right : Def := ⟨["tape", "form", "way", "top", "bottom", "told", "back", "codes", "one", "other", "k", "code"], 3, true, s_law_rounded_right⟩
def lp_law_figures_right1 : Sm := (.cons (.asg (.nm 2 "whole") (.bin .mul (.cI 2) (.var 2 "whole"))) .nil)
def ce_law_figures_right1 : E := (.bin .sub (.cI 0) (.var 10 "digit"))
def s_law_figures_right : Sm :=
  (.cons (.par2 1 "bits" 2 "whole" (.cons (.bin .add (.cI 1) (.call "_law_take" (.cons (.var 0 "tape") (.cons (.cI 32) .nil)))) (.cons (.cI 1) .nil)))
  (.cons (.for (.nm 3 "k") (.rng (.cons (.var 1 "bits") .nil)) lp_law_figures_right1)
  (.cons (.par2 4 "one" 5 "other" (.cons (.call "_law_take" (.cons (.var 0 "tape") (.cons (.var 2 "whole") .nil))) (.cons (.call "_law_take" (.cons (.var 0 "tape") (.cons (.var 2 "whole") .nil))) .nil)))
  (.cons (.par2 6 "low" 7 "high" (.cons (.call "meaning" (.cons (.var 1 "bits") (.cons (.var 4 "one") .nil))) (.cons (.call "meaning" (.cons (.var 1 "bits") (.cons (.var 5 "other") .nil))) .nil)))
  (.cons (.par2 8 "turned_one" 9 "turned_other" (.cons (.call "code_of" (.cons (.var 1 "bits") (.cons (.bin .sub (.cI 0) (.var 6 "low")) .nil))) (.cons (.call "code_of" (.cons (.var 1 "bits") (.cons (.bin .sub (.cI 0) (.var 7 "high")) .nil))) .nil)))
  (.cons (.ite (.or (.cons (.cmp .ne (.call "added" (.cons (.var 1 "bits") (.cons (.var 4 "one") (.cons (.var 5 "other") .nil)))) (.call "added" (.cons (.var 1 "bits") (.cons (.var 5 "other") (.cons (.var 4 "one") .nil))))) (.cons (.cmp .ne (.call "from_digits" (.cons (.call "sparse" (.cons (.var 1 "bits") (.cons (.var 4 "one") .nil))) .nil)) (.var 6 "low")) .nil))) (.cons (.ret (.cB false)) .nil) .nil)
  (.cons (.ite (.and (.cons (.cmp .notN (.var 8 "turned_one") .cN) (.cons (.or (.cons (.cmp .ne (.call "sparse" (.cons (.var 1 "bits") (.cons (.var 8 "turned_one") .nil))) (.bi .tuple (.cons (.lc [("digit", 10)] ce_law_figures_right1 (.nm 10 "digit") (.cons (.call "sparse" (.cons (.var 1 "bits") (.cons (.var 4 "one") .nil))) .nil) .nil) .nil))) (.cons (.cmp .ne (.ix (.call "by_digits" (.cons (.var 1 "bits") (.cons (.var 8 "turned_one") (.cons (.var 5 "other") .nil)))) (.cI 0)) (.bin .sub (.cI 0) (.ix (.call "by_digits" (.cons (.var 1 "bits") (.cons (.var 4 "one") (.cons (.var 5 "other") .nil)))) (.cI 0)))) .nil))) .nil))) (.cons (.ret (.cB false)) .nil) .nil)
  (.cons (.ite (.and (.cons (.cmp .notN (.var 9 "turned_other") .cN) (.cons (.or (.cons (.cmp .ne (.ix (.call "taken_off" (.cons (.var 1 "bits") (.cons (.var 4 "one") (.cons (.var 9 "turned_other") .nil)))) (.cI 0)) (.ix (.call "added" (.cons (.var 1 "bits") (.cons (.var 4 "one") (.cons (.var 5 "other") .nil)))) (.cI 0))) (.cons (.cmp .ne (.ix (.call "by_digits" (.cons (.var 1 "bits") (.cons (.var 4 "one") (.cons (.var 9 "turned_other") .nil)))) (.cI 0)) (.bin .sub (.cI 0) (.bin .mul (.var 6 "low") (.var 7 "high")))) .nil))) .nil))) (.cons (.ret (.cB false)) .nil) .nil)
  (.cons (.ite (.and (.cons (.cmp .notN (.var 9 "turned_other") .cN) (.cons (.cmp .ne (.slc (.ix (.call "taken_off" (.cons (.var 1 "bits") (.cons (.var 4 "one") (.cons (.var 9 "turned_other") .nil)))) (.cI 1)) (.cons (.cI 1) .nil) .nil) (.slc (.ix (.call "added" (.cons (.var 1 "bits") (.cons (.var 4 "one") (.cons (.var 5 "other") .nil)))) (.cI 1)) (.cons (.cI 1) .nil) .nil)) .nil))) (.cons (.ret (.cB false)) .nil) .nil)
  (.cons (.ret (.and (.cons (.cmp .eq (.ix (.call "taken_off" (.cons (.var 1 "bits") (.cons (.var 4 "one") (.cons (.var 4 "one") .nil)))) (.cI 0)) (.cI 0)) (.cons (.cmp .eq (.ix (.call "added" (.cons (.var 1 "bits") (.cons (.ix (.call "taken_off" (.cons (.var 1 "bits") (.cons (.var 4 "one") (.cons (.var 5 "other") .nil)))) (.cI 0)) (.cons (.var 5 "other") .nil)))) (.cI 0)) (.var 4 "one")) .nil)))) .nil))))))))))
def d_law_figures_right : Def := ⟨["tape", "bits", "whole", "k", "one", "other", "low", "high", "turned_one", "turned_other", "digit"], 1, true, s_law_figures_right⟩
def lp_law1 : Sm := (.cons (.par2 3 "form" 4 "way" (.cons (.tup (.cons (.bin .add (.cI 2) (.call "_law_take" (.cons (.var 1 "tape") (.cons (.cI 4) .nil)))) (.cons (.bin .add (.cI 1) (.call "_law_take" (.cons (.var 1 "tape") (.cons (.cI 8) .nil)))) .nil))) (.cons (.ix (.tup (.cons (.cS "even") (.cons (.cS "zero") (.cons (.cS "up") (.cons (.cS "down") .nil))))) (.call "_law_take" (.cons (.var 1 "tape") (.cons (.cI 4) .nil)))) .nil))) (.cons (.par2 5 "one" 6 "other" (.cons (.call "_law_code" (.cons (.var 1 "tape") (.cons (.var 3 "form") .nil))) (.cons (.call "_law_code" (.cons (.var 1 "tape") (.cons (.var 3 "form") .nil))) .nil))) (.cons (.ite (.or (.cons (.not (.tst (.call "_law_sums_right" (.cons (.var 3 "form") (.cons (.var 5 "one") (.cons (.var 6 "other") (.cons (.var 4 "way") .nil))))))) (.cons (.not (.tst (.call "_law_products_right" (.cons (.var 3 "form") (.cons (.var 5 "one") (.cons (.var 6 "other") (.cons (.var 4 "way") .nil))))))) (.cons (.not (.tst (.call "_law_order_right" (.cons (.var 3 "form") (.cons (.var 5 "one") (.cons (.var 6 "other") .nil)))))) .nil)))) (.cons (.ret (.cB false)) .nil) .nil) (.cons (.ite (.or (.cons (.not (.tst (.call "_law_rounded_right" (.cons (.var 1 "tape") (.cons (.var 3 "form") (.cons (.var 4 "way") .nil)))))) (.cons (.not (.tst (.call "_law_figures_right" (.cons (.var 1 "tape") .nil)))) .nil))) (.cons (.ret (.cB false)) .nil) .nil) .nil))))
def s_law : Sm :=
  (.cons (.asg (.nm 1 "tape") (.call "_law_tape" (.cons (.var 0 "script") .nil)))
  (.cons (.for (.nm 2 "turn") (.rng (.cons (.bin .add (.cI 1) (.call "_law_take" (.cons (.var 1 "tape") (.cons (.cI 6) .nil)))) .nil)) lp_law1)
  (.cons (.ret (.cB true)) .nil)))
def d_law : Def := ⟨["script", "tape", "turn", "form", "way", "one", "other"], 1, true, s_law⟩
def pg : Prog := [(("check_form" : Str), d_check_form),
  (("power_of_floating" : Str), d_power_of_floating),
  (("bias" : Str), d_bias),
  (("least_power" : Str), d_least_power),
  (("size" : Str), d_size),
  (("check_code_floating" : Str), d_check_code_floating),
  (("parts" : Str), d_parts),
  (("kind" : Str), d_kind),
  (("reduced" : Str), d_reduced),
  (("value" : Str), d_value),
  (("greatest" : Str), d_greatest),
  (("endless" : Str), d_endless),
  (("nothing" : Str), d_nothing),
  (("floor_code" : Str), d_floor_code),
  (("rounded" : Str), d_rounded),
  (("is_nearer_above" : Str), d_is_nearer_above),
  (("below_step" : Str), d_below_step),
  (("signed_nought" : Str), d_signed_nought),
  (("add" : Str), d_add),
  (("turned" : Str), d_turned),
  (("multiply" : Str), d_multiply),
  (("divide" : Str), d_divide),
  (("less" : Str), d_less),
  (("place_of" : Str), d_place_of),
  (("next_up" : Str), d_next_up),
  (("summed" : Str), d_summed),
  (("pair_sum" : Str), d_pair_sum),
  (("power_of_figures" : Str), d_power_of_figures),
  (("check" : Str), d_check),
  (("check_code_figures" : Str), d_check_code_figures),
  (("meaning" : Str), d_meaning),
  (("code_of" : Str), d_code_of),
  (("added" : Str), d_added),
  (("taken_off" : Str), d_taken_off),
  (("digits" : Str), d_digits),
  (("sparse" : Str), d_sparse),
  (("from_digits" : Str), d_from_digits),
  (("by_digits" : Str), d_by_digits),
  (("_law_tape" : Str), d_law_tape),
  (("_law_take" : Str), d_law_take),
  (("_law_code" : Str), d_law_code),
  (("_law_mirror" : Str), d_law_mirror),
  (("_law_turned" : Str), d_law_turned),
  (("_law_sums_right" : Str), d_law_sums_right),
  (("_law_products_right" : Str), d_law_products_right),
  (("_law_order_right" : Str), d_law_order_right),
  (("_law_rounded_right" : Str), d_law_rounded_right),
  (("_law_figures_right" : Str), d_law_figures_right),
  (("law" : Str), d_law)]
def tab : Tab := ⟨pg.map fun p => (p.1, p.2.np), [(("WAYS" : Str), .tup [.str "even", .str "zero", .str "up", .str "down"]), (("MOST_BITS" : Str), .int 32), (("multiply" : Str), .fn "multiply"), (("divide" : Str), .fn "divide")], [("abs" : Str), ("all" : Str), ("enumerate" : Str), ("int" : Str), ("len" : Str), ("max" : Str), ("range" : Str), ("tuple" : Str)]⟩
theorem look_check_form : pg.lookup ("check_form" : Str) = some d_check_form := by kernel_rfl
theorem look_power_of_floating : pg.lookup ("power_of_floating" : Str) = some d_power_of_floating := by kernel_rfl
theorem look_bias : pg.lookup ("bias" : Str) = some d_bias := by kernel_rfl
theorem look_least_power : pg.lookup ("least_power" : Str) = some d_least_power := by kernel_rfl
theorem look_size : pg.lookup ("size" : Str) = some d_size := by kernel_rfl
theorem look_check_code_floating : pg.lookup ("check_code_floating" : Str) = some d_check_code_floating := by kernel_rfl
theorem look_parts : pg.lookup ("parts" : Str) = some d_parts := by kernel_rfl
theorem look_kind : pg.lookup ("kind" : Str) = some d_kind := by kernel_rfl
theorem look_reduced : pg.lookup ("reduced" : Str) = some d_reduced := by kernel_rfl
theorem look_value : pg.lookup ("value" : Str) = some d_value := by kernel_rfl
theorem look_greatest : pg.lookup ("greatest" : Str) = some d_greatest := by kernel_rfl
theorem look_endless : pg.lookup ("endless" : Str) = some d_endless := by kernel_rfl
theorem look_nothing : pg.lookup ("nothing" : Str) = some d_nothing := by kernel_rfl
theorem look_floor_code : pg.lookup ("floor_code" : Str) = some d_floor_code := by kernel_rfl
theorem look_rounded : pg.lookup ("rounded" : Str) = some d_rounded := by kernel_rfl
theorem look_is_nearer_above : pg.lookup ("is_nearer_above" : Str) = some d_is_nearer_above := by kernel_rfl
theorem look_below_step : pg.lookup ("below_step" : Str) = some d_below_step := by kernel_rfl
theorem look_signed_nought : pg.lookup ("signed_nought" : Str) = some d_signed_nought := by kernel_rfl
theorem look_add : pg.lookup ("add" : Str) = some d_add := by kernel_rfl
theorem look_turned : pg.lookup ("turned" : Str) = some d_turned := by kernel_rfl
theorem look_multiply : pg.lookup ("multiply" : Str) = some d_multiply := by kernel_rfl
theorem look_divide : pg.lookup ("divide" : Str) = some d_divide := by kernel_rfl
theorem look_less : pg.lookup ("less" : Str) = some d_less := by kernel_rfl
theorem look_place_of : pg.lookup ("place_of" : Str) = some d_place_of := by kernel_rfl
theorem look_next_up : pg.lookup ("next_up" : Str) = some d_next_up := by kernel_rfl
theorem look_summed : pg.lookup ("summed" : Str) = some d_summed := by kernel_rfl
theorem look_pair_sum : pg.lookup ("pair_sum" : Str) = some d_pair_sum := by kernel_rfl
theorem look_power_of_figures : pg.lookup ("power_of_figures" : Str) = some d_power_of_figures := by kernel_rfl
theorem look_check : pg.lookup ("check" : Str) = some d_check := by kernel_rfl
theorem look_check_code_figures : pg.lookup ("check_code_figures" : Str) = some d_check_code_figures := by kernel_rfl
theorem look_meaning : pg.lookup ("meaning" : Str) = some d_meaning := by kernel_rfl
theorem look_code_of : pg.lookup ("code_of" : Str) = some d_code_of := by kernel_rfl
theorem look_added : pg.lookup ("added" : Str) = some d_added := by kernel_rfl
theorem look_taken_off : pg.lookup ("taken_off" : Str) = some d_taken_off := by kernel_rfl
theorem look_digits : pg.lookup ("digits" : Str) = some d_digits := by kernel_rfl
theorem look_sparse : pg.lookup ("sparse" : Str) = some d_sparse := by kernel_rfl
theorem look_from_digits : pg.lookup ("from_digits" : Str) = some d_from_digits := by kernel_rfl
theorem look_by_digits : pg.lookup ("by_digits" : Str) = some d_by_digits := by kernel_rfl
theorem look_law_tape : pg.lookup ("_law_tape" : Str) = some d_law_tape := by kernel_rfl
theorem look_law_take : pg.lookup ("_law_take" : Str) = some d_law_take := by kernel_rfl
theorem look_law_code : pg.lookup ("_law_code" : Str) = some d_law_code := by kernel_rfl
theorem look_law_mirror : pg.lookup ("_law_mirror" : Str) = some d_law_mirror := by kernel_rfl
theorem look_law_turned : pg.lookup ("_law_turned" : Str) = some d_law_turned := by kernel_rfl
theorem look_law_sums_right : pg.lookup ("_law_sums_right" : Str) = some d_law_sums_right := by kernel_rfl
theorem look_law_products_right : pg.lookup ("_law_products_right" : Str) = some d_law_products_right := by kernel_rfl
theorem look_law_order_right : pg.lookup ("_law_order_right" : Str) = some d_law_order_right := by kernel_rfl
theorem look_law_rounded_right : pg.lookup ("_law_rounded_right" : Str) = some d_law_rounded_right := by kernel_rfl
theorem look_law_figures_right : pg.lookup ("_law_figures_right" : Str) = some d_law_figures_right := by kernel_rfl
theorem look_law : pg.lookup ("law" : Str) = some d_law := by kernel_rfl
theorem sc_check_form : FnScope d_check_form.N ["form"] (defScope (topS 4)) := ⟨rfl, rfl, rfl, by decide +kernel, rfl, by decide +kernel, by decide +kernel⟩
theorem ok_check_form : okS tab d_check_form.N (defScope (topS 4)) d_check_form.body (defBody (topS 4)) = true := by decide +kernel
theorem sc_power_of_floating : FnScope d_power_of_floating.N ["number"] (defScope (topS 5)) := ⟨rfl, rfl, rfl, by decide +kernel, rfl, by decide +kernel, by decide +kernel⟩
theorem ok_power_of_floating : okS tab d_power_of_floating.N (defScope (topS 5)) d_power_of_floating.body (defBody (topS 5)) = true := by decide +kernel
theorem sc_bias : FnScope d_bias.N ["form"] (defScope (topS 7)) := ⟨rfl, rfl, rfl, by decide +kernel, rfl, by decide +kernel, by decide +kernel⟩
theorem ok_bias : okS tab d_bias.N (defScope (topS 7)) d_bias.body (defBody (topS 7)) = true := by decide +kernel
theorem sc_least_power : FnScope d_least_power.N ["form"] (defScope (topS 8)) := ⟨rfl, rfl, rfl, by decide +kernel, rfl, by decide +kernel, by decide +kernel⟩
theorem ok_least_power : okS tab d_least_power.N (defScope (topS 8)) d_least_power.body (defBody (topS 8)) = true := by decide +kernel
theorem sc_size : FnScope d_size.N ["form"] (defScope (topS 9)) := ⟨rfl, rfl, rfl, by decide +kernel, rfl, by decide +kernel, by decide +kernel⟩
theorem ok_size : okS tab d_size.N (defScope (topS 9)) d_size.body (defBody (topS 9)) = true := by decide +kernel
theorem sc_check_code_floating : FnScope d_check_code_floating.N ["form", "code"] (defScope (topS 10)) := ⟨rfl, rfl, rfl, by decide +kernel, rfl, by decide +kernel, by decide +kernel⟩
theorem ok_check_code_floating : okS tab d_check_code_floating.N (defScope (topS 10)) d_check_code_floating.body (defBody (topS 10)) = true := by decide +kernel
theorem sc_parts : FnScope d_parts.N ["form", "code"] (defScope (topS 12)) := ⟨rfl, rfl, rfl, by decide +kernel, rfl, by decide +kernel, by decide +kernel⟩
theorem ok_parts : okS tab d_parts.N (defScope (topS 12)) d_parts.body (defBody (topS 12)) = true := by decide +kernel
theorem sc_kind : FnScope d_kind.N ["form", "code"] (defScope (topS 13)) := ⟨rfl, rfl, rfl, by decide +kernel, rfl, by decide +kernel, by decide +kernel⟩
theorem ok_kind : okS tab d_kind.N (defScope (topS 13)) d_kind.body (defBody (topS 13)) = true := by decide +kernel
theorem sc_reduced : FnScope d_reduced.N ["top", "bottom"] (defScope (topS 14)) := ⟨rfl, rfl, rfl, by decide +kernel, rfl, by decide +kernel, by decide +kernel⟩
theorem ok_reduced : okS tab d_reduced.N (defScope (topS 14)) d_reduced.body (defBody (topS 14)) = true := by decide +kernel
theorem sc_value : FnScope d_value.N ["form", "code"] (defScope (topS 15)) := ⟨rfl, rfl, rfl, by decide +kernel, rfl, by decide +kernel, by decide +kernel⟩
theorem ok_value : okS tab d_value.N (defScope (topS 15)) d_value.body (defBody (topS 15)) = true := by decide +kernel
theorem sc_greatest : FnScope d_greatest.N ["form"] (defScope (topS 16)) := ⟨rfl, rfl, rfl, by decide +kernel, rfl, by decide +kernel, by decide +kernel⟩
theorem ok_greatest : okS tab d_greatest.N (defScope (topS 16)) d_greatest.body (defBody (topS 16)) = true := by decide +kernel
theorem sc_endless : FnScope d_endless.N ["form", "sign"] (defScope (topS 17)) := ⟨rfl, rfl, rfl, by decide +kernel, rfl, by decide +kernel, by decide +kernel⟩
theorem ok_endless : okS tab d_endless.N (defScope (topS 17)) d_endless.body (defBody (topS 17)) = true := by decide +kernel
theorem sc_nothing : FnScope d_nothing.N ["form"] (defScope (topS 18)) := ⟨rfl, rfl, rfl, by decide +kernel, rfl, by decide +kernel, by decide +kernel⟩
theorem ok_nothing : okS tab d_nothing.N (defScope (topS 18)) d_nothing.body (defBody (topS 18)) = true := by decide +kernel
theorem sc_floor_code : FnScope d_floor_code.N ["form", "top", "bottom"] (defScope (topS 19)) := ⟨rfl, rfl, rfl, by decide +kernel, rfl, by decide +kernel, by decide +kernel⟩
theorem ok_floor_code : okS tab d_floor_code.N (defScope (topS 19)) d_floor_code.body (defBody (topS 19)) = true := by decide +kernel
theorem sc_rounded : FnScope d_rounded.N ["form", "fraction", "way"] (defScope (topS 20)) := ⟨rfl, rfl, rfl, by decide +kernel, rfl, by decide +kernel, by decide +kernel⟩
theorem ok_rounded : okS tab d_rounded.N (defScope (topS 20)) d_rounded.body (defBody (topS 20)) = true := by decide +kernel
theorem sc_is_nearer_above : FnScope d_is_nearer_above.N ["form", "low", "top", "bottom"] (defScope (topS 21)) := ⟨rfl, rfl, rfl, by decide +kernel, rfl, by decide +kernel, by decide +kernel⟩
theorem ok_is_nearer_above : okS tab d_is_nearer_above.N (defScope (topS 21)) d_is_nearer_above.body (defBody (topS 21)) = true := by decide +kernel
theorem sc_below_step : FnScope d_below_step.N ["form", "low"] (defScope (topS 22)) := ⟨rfl, rfl, rfl, by decide +kernel, rfl, by decide +kernel, by decide +kernel⟩
theorem ok_below_step : okS tab d_below_step.N (defScope (topS 22)) d_below_step.body (defBody (topS 22)) = true := by decide +kernel
theorem sc_signed_nought : FnScope d_signed_nought.N ["form", "sign"] (defScope (topS 23)) := ⟨rfl, rfl, rfl, by decide +kernel, rfl, by decide +kernel, by decide +kernel⟩
theorem ok_signed_nought : okS tab d_signed_nought.N (defScope (topS 23)) d_signed_nought.body (defBody (topS 23)) = true := by decide +kernel
theorem sc_add : FnScope d_add.N ["form", "one", "other", "way"] (defScope (topS 24)) := ⟨rfl, rfl, rfl, by decide +kernel, rfl, by decide +kernel, by decide +kernel⟩
theorem ok_add : okS tab d_add.N (defScope (topS 24)) d_add.body (defBody (topS 24)) = true := by decide +kernel
theorem sc_turned : FnScope d_turned.N ["form", "one"] (defScope (topS 25)) := ⟨rfl, rfl, rfl, by decide +kernel, rfl, by decide +kernel, by decide +kernel⟩
theorem ok_turned : okS tab d_turned.N (defScope (topS 25)) d_turned.body (defBody (topS 25)) = true := by decide +kernel
theorem sc_multiply : FnScope d_multiply.N ["form", "one", "other", "way"] (defScope (topS 26)) := ⟨rfl, rfl, rfl, by decide +kernel, rfl, by decide +kernel, by decide +kernel⟩
theorem ok_multiply : okS tab d_multiply.N (defScope (topS 26)) d_multiply.body (defBody (topS 26)) = true := by decide +kernel
theorem sc_divide : FnScope d_divide.N ["form", "one", "other", "way"] (defScope (topS 27)) := ⟨rfl, rfl, rfl, by decide +kernel, rfl, by decide +kernel, by decide +kernel⟩
theorem ok_divide : okS tab d_divide.N (defScope (topS 27)) d_divide.body (defBody (topS 27)) = true := by decide +kernel
theorem sc_less : FnScope d_less.N ["form", "one", "other"] (defScope (topS 28)) := ⟨rfl, rfl, rfl, by decide +kernel, rfl, by decide +kernel, by decide +kernel⟩
theorem ok_less : okS tab d_less.N (defScope (topS 28)) d_less.body (defBody (topS 28)) = true := by decide +kernel
theorem sc_place_of : FnScope d_place_of.N ["form", "code"] (defScope (topS 29)) := ⟨rfl, rfl, rfl, by decide +kernel, rfl, by decide +kernel, by decide +kernel⟩
theorem ok_place_of : okS tab d_place_of.N (defScope (topS 29)) d_place_of.body (defBody (topS 29)) = true := by decide +kernel
theorem sc_next_up : FnScope d_next_up.N ["form", "code"] (defScope (topS 30)) := ⟨rfl, rfl, rfl, by decide +kernel, rfl, by decide +kernel, by decide +kernel⟩
theorem ok_next_up : okS tab d_next_up.N (defScope (topS 30)) d_next_up.body (defBody (topS 30)) = true := by decide +kernel
theorem sc_summed : FnScope d_summed.N ["form", "codes", "way"] (defScope (topS 31)) := ⟨rfl, rfl, rfl, by decide +kernel, rfl, by decide +kernel, by decide +kernel⟩
theorem ok_summed : okS tab d_summed.N (defScope (topS 31)) d_summed.body (defBody (topS 31)) = true := by decide +kernel
theorem sc_pair_sum : FnScope d_pair_sum.N ["form", "one", "other"] (defScope (topS 32)) := ⟨rfl, rfl, rfl, by decide +kernel, rfl, by decide +kernel, by decide +kernel⟩
theorem ok_pair_sum : okS tab d_pair_sum.N (defScope (topS 32)) d_pair_sum.body (defBody (topS 32)) = true := by decide +kernel
theorem sc_power_of_figures : FnScope d_power_of_figures.N ["number"] (defScope (topS 35)) := ⟨rfl, rfl, rfl, by decide +kernel, rfl, by decide +kernel, by decide +kernel⟩
theorem ok_power_of_figures : okS tab d_power_of_figures.N (defScope (topS 35)) d_power_of_figures.body (defBody (topS 35)) = true := by decide +kernel
theorem sc_check : FnScope d_check.N ["bits"] (defScope (topS 37)) := ⟨rfl, rfl, rfl, by decide +kernel, rfl, by decide +kernel, by decide +kernel⟩
theorem ok_check : okS tab d_check.N (defScope (topS 37)) d_check.body (defBody (topS 37)) = true := by decide +kernel
theorem sc_check_code_figures : FnScope d_check_code_figures.N ["bits", "code"] (defScope (topS 38)) := ⟨rfl, rfl, rfl, by decide +kernel, rfl, by decide +kernel, by decide +kernel⟩
theorem ok_check_code_figures : okS tab d_check_code_figures.N (defScope (topS 38)) d_check_code_figures.body (defBody (topS 38)) = true := by decide +kernel
theorem sc_meaning : FnScope d_meaning.N ["bits", "code"] (defScope (topS 40)) := ⟨rfl, rfl, rfl, by decide +kernel, rfl, by decide +kernel, by decide +kernel⟩
theorem ok_meaning : okS tab d_meaning.N (defScope (topS 40)) d_meaning.body (defBody (topS 40)) = true := by decide +kernel
theorem sc_code_of : FnScope d_code_of.N ["bits", "number"] (defScope (topS 41)) := ⟨rfl, rfl, rfl, by decide +kernel, rfl, by decide +kernel, by decide +kernel⟩
theorem ok_code_of : okS tab d_code_of.N (defScope (topS 41)) d_code_of.body (defBody (topS 41)) = true := by decide +kernel
theorem sc_added : FnScope d_added.N ["bits", "one", "other"] (defScope (topS 42)) := ⟨rfl, rfl, rfl, by decide +kernel, rfl, by decide +kernel, by decide +kernel⟩
theorem ok_added : okS tab d_added.N (defScope (topS 42)) d_added.body (defBody (topS 42)) = true := by decide +kernel
theorem sc_taken_off : FnScope d_taken_off.N ["bits", "one", "other"] (defScope (topS 43)) := ⟨rfl, rfl, rfl, by decide +kernel, rfl, by decide +kernel, by decide +kernel⟩
theorem ok_taken_off : okS tab d_taken_off.N (defScope (topS 43)) d_taken_off.body (defBody (topS 43)) = true := by decide +kernel
theorem sc_digits : FnScope d_digits.N ["bits", "code"] (defScope (topS 44)) := ⟨rfl, rfl, rfl, by decide +kernel, rfl, by decide +kernel, by decide +kernel⟩
theorem ok_digits : okS tab d_digits.N (defScope (topS 44)) d_digits.body (defBody (topS 44)) = true := by decide +kernel
theorem sc_sparse : FnScope d_sparse.N ["bits", "code"] (defScope (topS 45)) := ⟨rfl, rfl, rfl, by decide +kernel, rfl, by decide +kernel, by decide +kernel⟩
theorem ok_sparse : okS tab d_sparse.N (defScope (topS 45)) d_sparse.body (defBody (topS 45)) = true := by decide +kernel
theorem sc_from_digits : FnScope d_from_digits.N ["row"] (defScope (topS 46)) := ⟨rfl, rfl, rfl, by decide +kernel, rfl, by decide +kernel, by decide +kernel⟩
theorem ok_from_digits : okS tab d_from_digits.N (defScope (topS 46)) d_from_digits.body (defBody (topS 46)) = true := by decide +kernel
theorem sc_by_digits : FnScope d_by_digits.N ["bits", "one", "other"] (defScope (topS 47)) := ⟨rfl, rfl, rfl, by decide +kernel, rfl, by decide +kernel, by decide +kernel⟩
theorem ok_by_digits : okS tab d_by_digits.N (defScope (topS 47)) d_by_digits.body (defBody (topS 47)) = true := by decide +kernel
theorem sc_law_tape : FnScope d_law_tape.N ["script"] (defScope (topS 49)) := ⟨rfl, rfl, rfl, by decide +kernel, rfl, by decide +kernel, by decide +kernel⟩
theorem ok_law_tape : okS tab d_law_tape.N (defScope (topS 49)) d_law_tape.body (defBody (topS 49)) = true := by decide +kernel
theorem sc_law_take : FnScope d_law_take.N ["tape", "many"] (defScope (topS 50)) := ⟨rfl, rfl, rfl, by decide +kernel, rfl, by decide +kernel, by decide +kernel⟩
theorem ok_law_take : okS tab d_law_take.N (defScope (topS 50)) d_law_take.body (defBody (topS 50)) = true := by decide +kernel
theorem sc_law_code : FnScope d_law_code.N ["tape", "form"] (defScope (topS 51)) := ⟨rfl, rfl, rfl, by decide +kernel, rfl, by decide +kernel, by decide +kernel⟩
theorem ok_law_code : okS tab d_law_code.N (defScope (topS 51)) d_law_code.body (defBody (topS 51)) = true := by decide +kernel
theorem sc_law_mirror : FnScope d_law_mirror.N ["way"] (defScope (topS 52)) := ⟨rfl, rfl, rfl, by decide +kernel, rfl, by decide +kernel, by decide +kernel⟩
theorem ok_law_mirror : okS tab d_law_mirror.N (defScope (topS 52)) d_law_mirror.body (defBody (topS 52)) = true := by decide +kernel
theorem sc_law_turned : FnScope d_law_turned.N ["form", "code"] (defScope (topS 53)) := ⟨rfl, rfl, rfl, by decide +kernel, rfl, by decide +kernel, by decide +kernel⟩
theorem ok_law_turned : okS tab d_law_turned.N (defScope (topS 53)) d_law_turned.body (defBody (topS 53)) = true := by decide +kernel
theorem sc_law_sums_right : FnScope d_law_sums_right.N ["form", "one", "other", "way"] (defScope (topS 54)) := ⟨rfl, rfl, rfl, by decide +kernel, rfl, by decide +kernel, by decide +kernel⟩
theorem ok_law_sums_right : okS tab d_law_sums_right.N (defScope (topS 54)) d_law_sums_right.body (defBody (topS 54)) = true := by decide +kernel
theorem sc_law_products_right : FnScope d_law_products_right.N ["form", "one", "other", "way"] (defScope (topS 55)) := ⟨rfl, rfl, rfl, by decide +kernel, rfl, by decide +kernel, by decide +kernel⟩
theorem ok_law_products_right : okS tab d_law_products_right.N (defScope (topS 55)) d_law_products_right.body (defBody (topS 55)) = true := by decide +kernel
theorem sc_law_order_right : FnScope d_law_order_right.N ["form", "one", "other"] (defScope (topS 56)) := ⟨rfl, rfl, rfl, by decide +kernel, rfl, by decide +kernel, by decide +kernel⟩
theorem ok_law_order_right : okS tab d_law_order_right.N (defScope (topS 56)) d_law_order_right.body (defBody (topS 56)) = true := by decide +kernel
theorem sc_law_rounded_right : FnScope d_law_rounded_right.N ["tape", "form", "way"] (defScope (topS 57)) := ⟨rfl, rfl, rfl, by decide +kernel, rfl, by decide +kernel, by decide +kernel⟩
theorem ok_law_rounded_right : okS tab d_law_rounded_right.N (defScope (topS 57)) d_law_rounded_right.body (defBody (topS 57)) = true := by decide +kernel
theorem sc_law_figures_right : FnScope d_law_figures_right.N ["tape"] (defScope (topS 58)) := ⟨rfl, rfl, rfl, by decide +kernel, rfl, by decide +kernel, by decide +kernel⟩
theorem ok_law_figures_right : okS tab d_law_figures_right.N (defScope (topS 58)) d_law_figures_right.body (defBody (topS 58)) = true := by decide +kernel
theorem sc_law : FnScope d_law.N ["script"] (defScope (topS 59)) := ⟨rfl, rfl, rfl, by decide +kernel, rfl, by decide +kernel, by decide +kernel⟩
theorem ok_law : okS tab d_law.N (defScope (topS 59)) d_law.body (defBody (topS 59)) = true := by decide +kernel
section
variable {K : PySem.W.Frag} {mg : Str → Option Value} {h : Heap}
theorem is_check_form {a : Addr} {fd : FuncData} (X : K.In h) (G : h.Ns mainGlobals mg) (R : DefRow K "check_form" "check_form" "check_form" (topS 4) a fd) : DefIs K mg tab "check_form" d_check_form := R.is X G sc_check_form rfl (fun _ _ _ _ _ _ us hl => match us, hl with | [_], _ => rfl) ok_check_form
theorem is_power_of_floating {a : Addr} {fd : FuncData} (X : K.In h) (G : h.Ns mainGlobals mg) (R : DefRow K "power_of_floating" "power_of" "power_of" (topS 5) a fd) : DefIs K mg tab "power_of_floating" d_power_of_floating := R.is X G sc_power_of_floating rfl (fun _ _ _ _ _ _ us hl => match us, hl with | [_], _ => rfl) ok_power_of_floating
theorem is_bias {a : Addr} {fd : FuncData} (X : K.In h) (G : h.Ns mainGlobals mg) (R : DefRow K "bias" "bias" "bias" (topS 7) a fd) : DefIs K mg tab "bias" d_bias := R.is X G sc_bias rfl (fun _ _ _ _ _ _ us hl => match us, hl with | [_], _ => rfl) ok_bias
theorem is_least_power {a : Addr} {fd : FuncData} (X : K.In h) (G : h.Ns mainGlobals mg) (R : DefRow K "least_power" "least_power" "least_power" (topS 8) a fd) : DefIs K mg tab "least_power" d_least_power := R.is X G sc_least_power rfl (fun _ _ _ _ _ _ us hl => match us, hl with | [_], _ => rfl) ok_least_power
theorem is_size {a : Addr} {fd : FuncData} (X : K.In h) (G : h.Ns mainGlobals mg) (R : DefRow K "size" "size" "size" (topS 9) a fd) : DefIs K mg tab "size" d_size := R.is X G sc_size rfl (fun _ _ _ _ _ _ us hl => match us, hl with | [_], _ => rfl) ok_size
theorem is_check_code_floating {a : Addr} {fd : FuncData} (X : K.In h) (G : h.Ns mainGlobals mg) (R : DefRow K "check_code_floating" "check_code" "check_code" (topS 10) a fd) : DefIs K mg tab "check_code_floating" d_check_code_floating := R.is X G sc_check_code_floating rfl (fun _ _ _ _ _ _ us hl => match us, hl with | [_, _], _ => rfl) ok_check_code_floating
theorem is_parts {a : Addr} {fd : FuncData} (X : K.In h) (G : h.Ns mainGlobals mg) (R : DefRow K "parts" "parts" "parts" (topS 12) a fd) : DefIs K mg tab "parts" d_parts := R.is X G sc_parts rfl (fun _ _ _ _ _ _ us hl => match us, hl with | [_, _], _ => rfl) ok_parts
theorem is_kind {a : Addr} {fd : FuncData} (X : K.In h) (G : h.Ns mainGlobals mg) (R : DefRow K "kind" "kind" "kind" (topS 13) a fd) : DefIs K mg tab "kind" d_kind := R.is X G sc_kind rfl (fun _ _ _ _ _ _ us hl => match us, hl with | [_, _], _ => rfl) ok_kind
theorem is_reduced {a : Addr} {fd : FuncData} (X : K.In h) (G : h.Ns mainGlobals mg) (R : DefRow K "reduced" "reduced" "reduced" (topS 14) a fd) : DefIs K mg tab "reduced" d_reduced := R.is X G sc_reduced rfl (fun _ _ _ _ _ _ us hl => match us, hl with | [_, _], _ => rfl) ok_reduced
theorem is_value {a : Addr} {fd : FuncData} (X : K.In h) (G : h.Ns mainGlobals mg) (R : DefRow K "value" "value" "value" (topS 15) a fd) : DefIs K mg tab "value" d_value := R.is X G sc_value rfl (fun _ _ _ _ _ _ us hl => match us, hl with | [_, _], _ => rfl) ok_value
theorem is_greatest {a : Addr} {fd : FuncData} (X : K.In h) (G : h.Ns mainGlobals mg) (R : DefRow K "greatest" "greatest" "greatest" (topS 16) a fd) : DefIs K mg tab "greatest" d_greatest := R.is X G sc_greatest rfl (fun _ _ _ _ _ _ us hl => match us, hl with | [_], _ => rfl) ok_greatest
theorem is_endless {a : Addr} {fd : FuncData} (X : K.In h) (G : h.Ns mainGlobals mg) (R : DefRow K "endless" "endless" "endless" (topS 17) a fd) : DefIs K mg tab "endless" d_endless := R.is X G sc_endless rfl (fun _ _ _ _ _ _ us hl => match us, hl with | [_, _], _ => rfl) ok_endless
theorem is_nothing {a : Addr} {fd : FuncData} (X : K.In h) (G : h.Ns mainGlobals mg) (R : DefRow K "nothing" "nothing" "nothing" (topS 18) a fd) : DefIs K mg tab "nothing" d_nothing := R.is X G sc_nothing rfl (fun _ _ _ _ _ _ us hl => match us, hl with | [_], _ => rfl) ok_nothing
theorem is_floor_code {a : Addr} {fd : FuncData} (X : K.In h) (G : h.Ns mainGlobals mg) (R : DefRow K "floor_code" "floor_code" "floor_code" (topS 19) a fd) : DefIs K mg tab "floor_code" d_floor_code := R.is X G sc_floor_code rfl (fun _ _ _ _ _ _ us hl => match us, hl with | [_, _, _], _ => rfl) ok_floor_code
theorem is_rounded {a : Addr} {fd : FuncData} (X : K.In h) (G : h.Ns mainGlobals mg) (R : DefRow K "rounded" "rounded" "rounded" (topS 20) a fd) : DefIs K mg tab "rounded" d_rounded := R.is X G sc_rounded rfl (fun _ _ _ _ _ _ us hl => match us, hl with | [_, _, _], _ => rfl) ok_rounded
theorem is_is_nearer_above {a : Addr} {fd : FuncData} (X : K.In h) (G : h.Ns mainGlobals mg) (R : DefRow K "is_nearer_above" "is_nearer_above" "is_nearer_above" (topS 21) a fd) : DefIs K mg tab "is_nearer_above" d_is_nearer_above := R.is X G sc_is_nearer_above rfl (fun _ _ _ _ _ _ us hl => match us, hl with | [_, _, _, _], _ => rfl) ok_is_nearer_above
theorem is_below_step {a : Addr} {fd : FuncData} (X : K.In h) (G : h.Ns mainGlobals mg) (R : DefRow K "below_step" "below_step" "below_step" (topS 22) a fd) : DefIs K mg tab "below_step" d_below_step := R.is X G sc_below_step rfl (fun _ _ _ _ _ _ us hl => match us, hl with | [_, _], _ => rfl) ok_below_step
theorem is_signed_nought {a : Addr} {fd : FuncData} (X : K.In h) (G : h.Ns mainGlobals mg) (R : DefRow K "signed_nought" "signed_nought" "signed_nought" (topS 23) a fd) : DefIs K mg tab "signed_nought" d_signed_nought := R.is X G sc_signed_nought rfl (fun _ _ _ _ _ _ us hl => match us, hl with | [_, _], _ => rfl) ok_signed_nought
theorem is_add {a : Addr} {fd : FuncData} (X : K.In h) (G : h.Ns mainGlobals mg) (R : DefRow K "add" "add" "add" (topS 24) a fd) : DefIs K mg tab "add" d_add := R.is X G sc_add rfl (fun _ _ _ _ _ _ us hl => match us, hl with | [_, _, _, _], _ => rfl) ok_add
theorem is_turned {a : Addr} {fd : FuncData} (X : K.In h) (G : h.Ns mainGlobals mg) (R : DefRow K "turned" "turned" "turned" (topS 25) a fd) : DefIs K mg tab "turned" d_turned := R.is X G sc_turned rfl (fun _ _ _ _ _ _ us hl => match us, hl with | [_, _], _ => rfl) ok_turned
theorem is_multiply {a : Addr} {fd : FuncData} (X : K.In h) (G : h.Ns mainGlobals mg) (R : DefRow K "multiply" "multiply" "multiply" (topS 26) a fd) : DefIs K mg tab "multiply" d_multiply := R.is X G sc_multiply rfl (fun _ _ _ _ _ _ us hl => match us, hl with | [_, _, _, _], _ => rfl) ok_multiply
theorem is_divide {a : Addr} {fd : FuncData} (X : K.In h) (G : h.Ns mainGlobals mg) (R : DefRow K "divide" "divide" "divide" (topS 27) a fd) : DefIs K mg tab "divide" d_divide := R.is X G sc_divide rfl (fun _ _ _ _ _ _ us hl => match us, hl with | [_, _, _, _], _ => rfl) ok_divide
theorem is_less {a : Addr} {fd : FuncData} (X : K.In h) (G : h.Ns mainGlobals mg) (R : DefRow K "less" "less" "less" (topS 28) a fd) : DefIs K mg tab "less" d_less := R.is X G sc_less rfl (fun _ _ _ _ _ _ us hl => match us, hl with | [_, _, _], _ => rfl) ok_less
theorem is_place_of {a : Addr} {fd : FuncData} (X : K.In h) (G : h.Ns mainGlobals mg) (R : DefRow K "place_of" "place_of" "place_of" (topS 29) a fd) : DefIs K mg tab "place_of" d_place_of := R.is X G sc_place_of rfl (fun _ _ _ _ _ _ us hl => match us, hl with | [_, _], _ => rfl) ok_place_of
theorem is_next_up {a : Addr} {fd : FuncData} (X : K.In h) (G : h.Ns mainGlobals mg) (R : DefRow K "next_up" "next_up" "next_up" (topS 30) a fd) : DefIs K mg tab "next_up" d_next_up := R.is X G sc_next_up rfl (fun _ _ _ _ _ _ us hl => match us, hl with | [_, _], _ => rfl) ok_next_up
theorem is_summed {a : Addr} {fd : FuncData} (X : K.In h) (G : h.Ns mainGlobals mg) (R : DefRow K "summed" "summed" "summed" (topS 31) a fd) : DefIs K mg tab "summed" d_summed := R.is X G sc_summed rfl (fun _ _ _ _ _ _ us hl => match us, hl with | [_, _, _], _ => rfl) ok_summed
theorem is_pair_sum {a : Addr} {fd : FuncData} (X : K.In h) (G : h.Ns mainGlobals mg) (R : DefRow K "pair_sum" "pair_sum" "pair_sum" (topS 32) a fd) : DefIs K mg tab "pair_sum" d_pair_sum := R.is X G sc_pair_sum rfl (fun _ _ _ _ _ _ us hl => match us, hl with | [_, _, _], _ => rfl) ok_pair_sum
theorem is_power_of_figures {a : Addr} {fd : FuncData} (X : K.In h) (G : h.Ns mainGlobals mg) (R : DefRow K "power_of_figures" "power_of" "power_of" (topS 35) a fd) : DefIs K mg tab "power_of_figures" d_power_of_figures := R.is X G sc_power_of_figures rfl (fun _ _ _ _ _ _ us hl => match us, hl with | [_], _ => rfl) ok_power_of_figures
theorem is_check {a : Addr} {fd : FuncData} (X : K.In h) (G : h.Ns mainGlobals mg) (R : DefRow K "check" "check" "check" (topS 37) a fd) : DefIs K mg tab "check" d_check := R.is X G sc_check rfl (fun _ _ _ _ _ _ us hl => match us, hl with | [_], _ => rfl) ok_check
theorem is_check_code_figures {a : Addr} {fd : FuncData} (X : K.In h) (G : h.Ns mainGlobals mg) (R : DefRow K "check_code_figures" "check_code" "check_code" (topS 38) a fd) : DefIs K mg tab "check_code_figures" d_check_code_figures := R.is X G sc_check_code_figures rfl (fun _ _ _ _ _ _ us hl => match us, hl with | [_, _], _ => rfl) ok_check_code_figures
theorem is_meaning {a : Addr} {fd : FuncData} (X : K.In h) (G : h.Ns mainGlobals mg) (R : DefRow K "meaning" "meaning" "meaning" (topS 40) a fd) : DefIs K mg tab "meaning" d_meaning := R.is X G sc_meaning rfl (fun _ _ _ _ _ _ us hl => match us, hl with | [_, _], _ => rfl) ok_meaning
theorem is_code_of {a : Addr} {fd : FuncData} (X : K.In h) (G : h.Ns mainGlobals mg) (R : DefRow K "code_of" "code_of" "code_of" (topS 41) a fd) : DefIs K mg tab "code_of" d_code_of := R.is X G sc_code_of rfl (fun _ _ _ _ _ _ us hl => match us, hl with | [_, _], _ => rfl) ok_code_of
theorem is_added {a : Addr} {fd : FuncData} (X : K.In h) (G : h.Ns mainGlobals mg) (R : DefRow K "added" "added" "added" (topS 42) a fd) : DefIs K mg tab "added" d_added := R.is X G sc_added rfl (fun _ _ _ _ _ _ us hl => match us, hl with | [_, _, _], _ => rfl) ok_added
theorem is_taken_off {a : Addr} {fd : FuncData} (X : K.In h) (G : h.Ns mainGlobals mg) (R : DefRow K "taken_off" "taken_off" "taken_off" (topS 43) a fd) : DefIs K mg tab "taken_off" d_taken_off := R.is X G sc_taken_off rfl (fun _ _ _ _ _ _ us hl => match us, hl with | [_, _, _], _ => rfl) ok_taken_off
theorem is_digits {a : Addr} {fd : FuncData} (X : K.In h) (G : h.Ns mainGlobals mg) (R : DefRow K "digits" "digits" "digits" (topS 44) a fd) : DefIs K mg tab "digits" d_digits := R.is X G sc_digits rfl (fun _ _ _ _ _ _ us hl => match us, hl with | [_, _], _ => rfl) ok_digits
theorem is_sparse {a : Addr} {fd : FuncData} (X : K.In h) (G : h.Ns mainGlobals mg) (R : DefRow K "sparse" "sparse" "sparse" (topS 45) a fd) : DefIs K mg tab "sparse" d_sparse := R.is X G sc_sparse rfl (fun _ _ _ _ _ _ us hl => match us, hl with | [_, _], _ => rfl) ok_sparse
theorem is_from_digits {a : Addr} {fd : FuncData} (X : K.In h) (G : h.Ns mainGlobals mg) (R : DefRow K "from_digits" "from_digits" "from_digits" (topS 46) a fd) : DefIs K mg tab "from_digits" d_from_digits := R.is X G sc_from_digits rfl (fun _ _ _ _ _ _ us hl => match us, hl with | [_], _ => rfl) ok_from_digits
theorem is_by_digits {a : Addr} {fd : FuncData} (X : K.In h) (G : h.Ns mainGlobals mg) (R : DefRow K "by_digits" "by_digits" "by_digits" (topS 47) a fd) : DefIs K mg tab "by_digits" d_by_digits := R.is X G sc_by_digits rfl (fun _ _ _ _ _ _ us hl => match us, hl with | [_, _, _], _ => rfl) ok_by_digits
theorem is_law_tape {a : Addr} {fd : FuncData} (X : K.In h) (G : h.Ns mainGlobals mg) (R : DefRow K "_law_tape" "_law_tape" "_law_tape" (topS 49) a fd) : DefIs K mg tab "_law_tape" d_law_tape := R.is X G sc_law_tape rfl (fun _ _ _ _ _ _ us hl => match us, hl with | [_], _ => rfl) ok_law_tape
theorem is_law_take {a : Addr} {fd : FuncData} (X : K.In h) (G : h.Ns mainGlobals mg) (R : DefRow K "_law_take" "_law_take" "_law_take" (topS 50) a fd) : DefIs K mg tab "_law_take" d_law_take := R.is X G sc_law_take rfl (fun _ _ _ _ _ _ us hl => match us, hl with | [_, _], _ => rfl) ok_law_take
theorem is_law_code {a : Addr} {fd : FuncData} (X : K.In h) (G : h.Ns mainGlobals mg) (R : DefRow K "_law_code" "_law_code" "_law_code" (topS 51) a fd) : DefIs K mg tab "_law_code" d_law_code := R.is X G sc_law_code rfl (fun _ _ _ _ _ _ us hl => match us, hl with | [_, _], _ => rfl) ok_law_code
theorem is_law_mirror {a : Addr} {fd : FuncData} (X : K.In h) (G : h.Ns mainGlobals mg) (R : DefRow K "_law_mirror" "_law_mirror" "_law_mirror" (topS 52) a fd) : DefIs K mg tab "_law_mirror" d_law_mirror := R.is X G sc_law_mirror rfl (fun _ _ _ _ _ _ us hl => match us, hl with | [_], _ => rfl) ok_law_mirror
theorem is_law_turned {a : Addr} {fd : FuncData} (X : K.In h) (G : h.Ns mainGlobals mg) (R : DefRow K "_law_turned" "_law_turned" "_law_turned" (topS 53) a fd) : DefIs K mg tab "_law_turned" d_law_turned := R.is X G sc_law_turned rfl (fun _ _ _ _ _ _ us hl => match us, hl with | [_, _], _ => rfl) ok_law_turned
theorem is_law_sums_right {a : Addr} {fd : FuncData} (X : K.In h) (G : h.Ns mainGlobals mg) (R : DefRow K "_law_sums_right" "_law_sums_right" "_law_sums_right" (topS 54) a fd) : DefIs K mg tab "_law_sums_right" d_law_sums_right := R.is X G sc_law_sums_right rfl (fun _ _ _ _ _ _ us hl => match us, hl with | [_, _, _, _], _ => rfl) ok_law_sums_right
theorem is_law_products_right {a : Addr} {fd : FuncData} (X : K.In h) (G : h.Ns mainGlobals mg) (R : DefRow K "_law_products_right" "_law_products_right" "_law_products_right" (topS 55) a fd) : DefIs K mg tab "_law_products_right" d_law_products_right := R.is X G sc_law_products_right rfl (fun _ _ _ _ _ _ us hl => match us, hl with | [_, _, _, _], _ => rfl) ok_law_products_right
theorem is_law_order_right {a : Addr} {fd : FuncData} (X : K.In h) (G : h.Ns mainGlobals mg) (R : DefRow K "_law_order_right" "_law_order_right" "_law_order_right" (topS 56) a fd) : DefIs K mg tab "_law_order_right" d_law_order_right := R.is X G sc_law_order_right rfl (fun _ _ _ _ _ _ us hl => match us, hl with | [_, _, _], _ => rfl) ok_law_order_right
theorem is_law_rounded_right {a : Addr} {fd : FuncData} (X : K.In h) (G : h.Ns mainGlobals mg) (R : DefRow K "_law_rounded_right" "_law_rounded_right" "_law_rounded_right" (topS 57) a fd) : DefIs K mg tab "_law_rounded_right" d_law_rounded_right := R.is X G sc_law_rounded_right rfl (fun _ _ _ _ _ _ us hl => match us, hl with | [_, _, _], _ => rfl) ok_law_rounded_right
theorem is_law_figures_right {a : Addr} {fd : FuncData} (X : K.In h) (G : h.Ns mainGlobals mg) (R : DefRow K "_law_figures_right" "_law_figures_right" "_law_figures_right" (topS 58) a fd) : DefIs K mg tab "_law_figures_right" d_law_figures_right := R.is X G sc_law_figures_right rfl (fun _ _ _ _ _ _ us hl => match us, hl with | [_], _ => rfl) ok_law_figures_right
theorem is_law {a : Addr} {fd : FuncData} (X : K.In h) (G : h.Ns mainGlobals mg) (R : DefRow K "law" "law" "law" (topS 59) a fd) : DefIs K mg tab "law" d_law := R.is X G sc_law rfl (fun _ _ _ _ _ _ us hl => match us, hl with | [_], _ => rfl) ok_law
end
set_option maxHeartbeats 0 in
theorem top {l : PySem.W.OpenLaw} {w : World} {K : PySem.W.Frag} {h : Heap} {mg : Str → Option Value} {fa : Addr} (X : K.In h) (G : h.Ns mainGlobals mg) (hfa : mg "law" = some (.ref fa))
    {f0 : Addr} {od0 an0 : Option Addr} {sl0 : Array (Option Value)} {oc0 kV0 dc0 pm0 cd0 ct0 : Value}
    {f1 : Addr} {od1 an1 : Option Addr} {sl1 : Array (Option Value)} {oc1 kV1 dc1 pm1 cd1 ct1 : Value}
    {f2 : Addr} {od2 an2 : Option Addr} {sl2 : Array (Option Value)} {oc2 kV2 dc2 pm2 cd2 ct2 : Value}
    {f3 : Addr} {od3 an3 : Option Addr} {sl3 : Array (Option Value)} {oc3 kV3 dc3 pm3 cd3 ct3 : Value}
    {f4 : Addr} {od4 an4 : Option Addr} {sl4 : Array (Option Value)} {oc4 kV4 dc4 pm4 cd4 ct4 : Value}
    {f5 : Addr} {od5 an5 : Option Addr} {sl5 : Array (Option Value)} {oc5 kV5 dc5 pm5 cd5 ct5 : Value}
    {f6 : Addr} {od6 an6 : Option Addr} {sl6 : Array (Option Value)} {oc6 kV6 dc6 pm6 cd6 ct6 : Value}
    {f7 : Addr} {od7 an7 : Option Addr} {sl7 : Array (Option Value)} {oc7 kV7 dc7 pm7 cd7 ct7 : Value}
    {f8 : Addr} {od8 an8 : Option Addr} {sl8 : Array (Option Value)} {oc8 kV8 dc8 pm8 cd8 ct8 : Value}
    {f9 : Addr} {od9 an9 : Option Addr} {sl9 : Array (Option Value)} {oc9 kV9 dc9 pm9 cd9 ct9 : Value}
    {f10 : Addr} {od10 an10 : Option Addr} {sl10 : Array (Option Value)} {oc10 kV10 dc10 pm10 cd10 ct10 : Value}
    {f11 : Addr} {od11 an11 : Option Addr} {sl11 : Array (Option Value)} {oc11 kV11 dc11 pm11 cd11 ct11 : Value}
    {f12 : Addr} {od12 an12 : Option Addr} {sl12 : Array (Option Value)} {oc12 kV12 dc12 pm12 cd12 ct12 : Value}
    {f13 : Addr} {od13 an13 : Option Addr} {sl13 : Array (Option Value)} {oc13 kV13 dc13 pm13 cd13 ct13 : Value}
    {f14 : Addr} {od14 an14 : Option Addr} {sl14 : Array (Option Value)} {oc14 kV14 dc14 pm14 cd14 ct14 : Value}
    {f15 : Addr} {od15 an15 : Option Addr} {sl15 : Array (Option Value)} {oc15 kV15 dc15 pm15 cd15 ct15 : Value}
    {f16 : Addr} {od16 an16 : Option Addr} {sl16 : Array (Option Value)} {oc16 kV16 dc16 pm16 cd16 ct16 : Value}
    {f17 : Addr} {od17 an17 : Option Addr} {sl17 : Array (Option Value)} {oc17 kV17 dc17 pm17 cd17 ct17 : Value}
    {f18 : Addr} {od18 an18 : Option Addr} {sl18 : Array (Option Value)} {oc18 kV18 dc18 pm18 cd18 ct18 : Value}
    {f19 : Addr} {od19 an19 : Option Addr} {sl19 : Array (Option Value)} {oc19 kV19 dc19 pm19 cd19 ct19 : Value}
    {f20 : Addr} {od20 an20 : Option Addr} {sl20 : Array (Option Value)} {oc20 kV20 dc20 pm20 cd20 ct20 : Value}
    {f21 : Addr} {od21 an21 : Option Addr} {sl21 : Array (Option Value)} {oc21 kV21 dc21 pm21 cd21 ct21 : Value}
    {f22 : Addr} {od22 an22 : Option Addr} {sl22 : Array (Option Value)} {oc22 kV22 dc22 pm22 cd22 ct22 : Value}
    {f23 : Addr} {od23 an23 : Option Addr} {sl23 : Array (Option Value)} {oc23 kV23 dc23 pm23 cd23 ct23 : Value}
    {f24 : Addr} {od24 an24 : Option Addr} {sl24 : Array (Option Value)} {oc24 kV24 dc24 pm24 cd24 ct24 : Value}
    {f25 : Addr} {od25 an25 : Option Addr} {sl25 : Array (Option Value)} {oc25 kV25 dc25 pm25 cd25 ct25 : Value}
    {f26 : Addr} {od26 an26 : Option Addr} {sl26 : Array (Option Value)} {oc26 kV26 dc26 pm26 cd26 ct26 : Value}
    {f27 : Addr} {od27 an27 : Option Addr} {sl27 : Array (Option Value)} {oc27 kV27 dc27 pm27 cd27 ct27 : Value}
    {f28 : Addr} {od28 an28 : Option Addr} {sl28 : Array (Option Value)} {oc28 kV28 dc28 pm28 cd28 ct28 : Value}
    {f29 : Addr} {od29 an29 : Option Addr} {sl29 : Array (Option Value)} {oc29 kV29 dc29 pm29 cd29 ct29 : Value}
    {f30 : Addr} {od30 an30 : Option Addr} {sl30 : Array (Option Value)} {oc30 kV30 dc30 pm30 cd30 ct30 : Value}
    {f31 : Addr} {od31 an31 : Option Addr} {sl31 : Array (Option Value)} {oc31 kV31 dc31 pm31 cd31 ct31 : Value}
    {f32 : Addr} {od32 an32 : Option Addr} {sl32 : Array (Option Value)} {oc32 kV32 dc32 pm32 cd32 ct32 : Value}
    {f33 : Addr} {od33 an33 : Option Addr} {sl33 : Array (Option Value)} {oc33 kV33 dc33 pm33 cd33 ct33 : Value}
    {f34 : Addr} {od34 an34 : Option Addr} {sl34 : Array (Option Value)} {oc34 kV34 dc34 pm34 cd34 ct34 : Value}
    {f35 : Addr} {od35 an35 : Option Addr} {sl35 : Array (Option Value)} {oc35 kV35 dc35 pm35 cd35 ct35 : Value}
    {f36 : Addr} {od36 an36 : Option Addr} {sl36 : Array (Option Value)} {oc36 kV36 dc36 pm36 cd36 ct36 : Value}
    {f37 : Addr} {od37 an37 : Option Addr} {sl37 : Array (Option Value)} {oc37 kV37 dc37 pm37 cd37 ct37 : Value}
    {f38 : Addr} {od38 an38 : Option Addr} {sl38 : Array (Option Value)} {oc38 kV38 dc38 pm38 cd38 ct38 : Value}
    {f39 : Addr} {od39 an39 : Option Addr} {sl39 : Array (Option Value)} {oc39 kV39 dc39 pm39 cd39 ct39 : Value}
    {f40 : Addr} {od40 an40 : Option Addr} {sl40 : Array (Option Value)} {oc40 kV40 dc40 pm40 cd40 ct40 : Value}
    {f41 : Addr} {od41 an41 : Option Addr} {sl41 : Array (Option Value)} {oc41 kV41 dc41 pm41 cd41 ct41 : Value}
    {f42 : Addr} {od42 an42 : Option Addr} {sl42 : Array (Option Value)} {oc42 kV42 dc42 pm42 cd42 ct42 : Value}
    {f43 : Addr} {od43 an43 : Option Addr} {sl43 : Array (Option Value)} {oc43 kV43 dc43 pm43 cd43 ct43 : Value}
    {f44 : Addr} {od44 an44 : Option Addr} {sl44 : Array (Option Value)} {oc44 kV44 dc44 pm44 cd44 ct44 : Value}
    {f45 : Addr} {od45 an45 : Option Addr} {sl45 : Array (Option Value)} {oc45 kV45 dc45 pm45 cd45 ct45 : Value}
    {f46 : Addr} {od46 an46 : Option Addr} {sl46 : Array (Option Value)} {oc46 kV46 dc46 pm46 cd46 ct46 : Value}
    {f47 : Addr} {od47 an47 : Option Addr} {sl47 : Array (Option Value)} {oc47 kV47 dc47 pm47 cd47 ct47 : Value}
    {f48 : Addr} {od48 an48 : Option Addr} {sl48 : Array (Option Value)} {oc48 kV48 dc48 pm48 cd48 ct48 : Value}
    {ga0 : Addr} {gd0 : Option Addr} {gi0 : Array Value} {gn0 : Nat} {gl0 : Array (Option Value)}
    {gu1 : Value}
    (a0 : PySem.W.nsIn K mainGlobals "check_form" = some (some (.ref f0))) (l0 : K.lookup f0 = some ⟨oc0, od0, .func (PySem.W.fnOf "check_form" "check_form" (defArgs (topS 4)) (defBody (topS 4)) (defScope (topS 4)) .none kV0 dc0 pm0 an0 cd0 ct0), sl0⟩) (c0 : PySem.W.codeIn K cd0 "check_form" = true) (k0 : PySem.W.keepIn K (.ref f0) = true)
    (a1 : PySem.W.nsIn K mainGlobals "power_of_floating" = some (some (.ref f1))) (l1 : K.lookup f1 = some ⟨oc1, od1, .func (PySem.W.fnOf "power_of" "power_of" (defArgs (topS 5)) (defBody (topS 5)) (defScope (topS 5)) .none kV1 dc1 pm1 an1 cd1 ct1), sl1⟩) (c1 : PySem.W.codeIn K cd1 "power_of" = true) (k1 : PySem.W.keepIn K (.ref f1) = true)
    (a2 : PySem.W.nsIn K mainGlobals "bias" = some (some (.ref f2))) (l2 : K.lookup f2 = some ⟨oc2, od2, .func (PySem.W.fnOf "bias" "bias" (defArgs (topS 7)) (defBody (topS 7)) (defScope (topS 7)) .none kV2 dc2 pm2 an2 cd2 ct2), sl2⟩) (c2 : PySem.W.codeIn K cd2 "bias" = true) (k2 : PySem.W.keepIn K (.ref f2) = true)
    (a3 : PySem.W.nsIn K mainGlobals "least_power" = some (some (.ref f3))) (l3 : K.lookup f3 = some ⟨oc3, od3, .func (PySem.W.fnOf "least_power" "least_power" (defArgs (topS 8)) (defBody (topS 8)) (defScope (topS 8)) .none kV3 dc3 pm3 an3 cd3 ct3), sl3⟩) (c3 : PySem.W.codeIn K cd3 "least_power" = true) (k3 : PySem.W.keepIn K (.ref f3) = true)
    (a4 : PySem.W.nsIn K mainGlobals "size" = some (some (.ref f4))) (l4 : K.lookup f4 = some ⟨oc4, od4, .func (PySem.W.fnOf "size" "size" (defArgs (topS 9)) (defBody (topS 9)) (defScope (topS 9)) .none kV4 dc4 pm4 an4 cd4 ct4), sl4⟩) (c4 : PySem.W.codeIn K cd4 "size" = true) (k4 : PySem.W.keepIn K (.ref f4) = true)
    (a5 : PySem.W.nsIn K mainGlobals "check_code_floating" = some (some (.ref f5))) (l5 : K.lookup f5 = some ⟨oc5, od5, .func (PySem.W.fnOf "check_code" "check_code" (defArgs (topS 10)) (defBody (topS 10)) (defScope (topS 10)) .none kV5 dc5 pm5 an5 cd5 ct5), sl5⟩) (c5 : PySem.W.codeIn K cd5 "check_code" = true) (k5 : PySem.W.keepIn K (.ref f5) = true)
    (a6 : PySem.W.nsIn K mainGlobals "parts" = some (some (.ref f6))) (l6 : K.lookup f6 = some ⟨oc6, od6, .func (PySem.W.fnOf "parts" "parts" (defArgs (topS 12)) (defBody (topS 12)) (defScope (topS 12)) .none kV6 dc6 pm6 an6 cd6 ct6), sl6⟩) (c6 : PySem.W.codeIn K cd6 "parts" = true) (k6 : PySem.W.keepIn K (.ref f6) = true)
    (a7 : PySem.W.nsIn K mainGlobals "kind" = some (some (.ref f7))) (l7 : K.lookup f7 = some ⟨oc7, od7, .func (PySem.W.fnOf "kind" "kind" (defArgs (topS 13)) (defBody (topS 13)) (defScope (topS 13)) .none kV7 dc7 pm7 an7 cd7 ct7), sl7⟩) (c7 : PySem.W.codeIn K cd7 "kind" = true) (k7 : PySem.W.keepIn K (.ref f7) = true)
    (a8 : PySem.W.nsIn K mainGlobals "reduced" = some (some (.ref f8))) (l8 : K.lookup f8 = some ⟨oc8, od8, .func (PySem.W.fnOf "reduced" "reduced" (defArgs (topS 14)) (defBody (topS 14)) (defScope (topS 14)) .none kV8 dc8 pm8 an8 cd8 ct8), sl8⟩) (c8 : PySem.W.codeIn K cd8 "reduced" = true) (k8 : PySem.W.keepIn K (.ref f8) = true)
    (a9 : PySem.W.nsIn K mainGlobals "value" = some (some (.ref f9))) (l9 : K.lookup f9 = some ⟨oc9, od9, .func (PySem.W.fnOf "value" "value" (defArgs (topS 15)) (defBody (topS 15)) (defScope (topS 15)) .none kV9 dc9 pm9 an9 cd9 ct9), sl9⟩) (c9 : PySem.W.codeIn K cd9 "value" = true) (k9 : PySem.W.keepIn K (.ref f9) = true)
    (a10 : PySem.W.nsIn K mainGlobals "greatest" = some (some (.ref f10))) (l10 : K.lookup f10 = some ⟨oc10, od10, .func (PySem.W.fnOf "greatest" "greatest" (defArgs (topS 16)) (defBody (topS 16)) (defScope (topS 16)) .none kV10 dc10 pm10 an10 cd10 ct10), sl10⟩) (c10 : PySem.W.codeIn K cd10 "greatest" = true) (k10 : PySem.W.keepIn K (.ref f10) = true)
    (a11 : PySem.W.nsIn K mainGlobals "endless" = some (some (.ref f11))) (l11 : K.lookup f11 = some ⟨oc11, od11, .func (PySem.W.fnOf "endless" "endless" (defArgs (topS 17)) (defBody (topS 17)) (defScope (topS 17)) .none kV11 dc11 pm11 an11 cd11 ct11), sl11⟩) (c11 : PySem.W.codeIn K cd11 "endless" = true) (k11 : PySem.W.keepIn K (.ref f11) = true)
    (a12 : PySem.W.nsIn K mainGlobals "nothing" = some (some (.ref f12))) (l12 : K.lookup f12 = some ⟨oc12, od12, .func (PySem.W.fnOf "nothing" "nothing" (defArgs (topS 18)) (defBody (topS 18)) (defScope (topS 18)) .none kV12 dc12 pm12 an12 cd12 ct12), sl12⟩) (c12 : PySem.W.codeIn K cd12 "nothing" = true) (k12 : PySem.W.keepIn K (.ref f12) = true)
    (a13 : PySem.W.nsIn K mainGlobals "floor_code" = some (some (.ref f13))) (l13 : K.lookup f13 = some ⟨oc13, od13, .func (PySem.W.fnOf "floor_code" "floor_code" (defArgs (topS 19)) (defBody (topS 19)) (defScope (topS 19)) .none kV13 dc13 pm13 an13 cd13 ct13), sl13⟩) (c13 : PySem.W.codeIn K cd13 "floor_code" = true) (k13 : PySem.W.keepIn K (.ref f13) = true)
    (a14 : PySem.W.nsIn K mainGlobals "rounded" = some (some (.ref f14))) (l14 : K.lookup f14 = some ⟨oc14, od14, .func (PySem.W.fnOf "rounded" "rounded" (defArgs (topS 20)) (defBody (topS 20)) (defScope (topS 20)) .none kV14 dc14 pm14 an14 cd14 ct14), sl14⟩) (c14 : PySem.W.codeIn K cd14 "rounded" = true) (k14 : PySem.W.keepIn K (.ref f14) = true)
    (a15 : PySem.W.nsIn K mainGlobals "is_nearer_above" = some (some (.ref f15))) (l15 : K.lookup f15 = some ⟨oc15, od15, .func (PySem.W.fnOf "is_nearer_above" "is_nearer_above" (defArgs (topS 21)) (defBody (topS 21)) (defScope (topS 21)) .none kV15 dc15 pm15 an15 cd15 ct15), sl15⟩) (c15 : PySem.W.codeIn K cd15 "is_nearer_above" = true) (k15 : PySem.W.keepIn K (.ref f15) = true)
    (a16 : PySem.W.nsIn K mainGlobals "below_step" = some (some (.ref f16))) (l16 : K.lookup f16 = some ⟨oc16, od16, .func (PySem.W.fnOf "below_step" "below_step" (defArgs (topS 22)) (defBody (topS 22)) (defScope (topS 22)) .none kV16 dc16 pm16 an16 cd16 ct16), sl16⟩) (c16 : PySem.W.codeIn K cd16 "below_step" = true) (k16 : PySem.W.keepIn K (.ref f16) = true)
    (a17 : PySem.W.nsIn K mainGlobals "signed_nought" = some (some (.ref f17))) (l17 : K.lookup f17 = some ⟨oc17, od17, .func (PySem.W.fnOf "signed_nought" "signed_nought" (defArgs (topS 23)) (defBody (topS 23)) (defScope (topS 23)) .none kV17 dc17 pm17 an17 cd17 ct17), sl17⟩) (c17 : PySem.W.codeIn K cd17 "signed_nought" = true) (k17 : PySem.W.keepIn K (.ref f17) = true)
    (a18 : PySem.W.nsIn K mainGlobals "add" = some (some (.ref f18))) (l18 : K.lookup f18 = some ⟨oc18, od18, .func (PySem.W.fnOf "add" "add" (defArgs (topS 24)) (defBody (topS 24)) (defScope (topS 24)) .none kV18 dc18 pm18 an18 cd18 ct18), sl18⟩) (c18 : PySem.W.codeIn K cd18 "add" = true) (k18 : PySem.W.keepIn K (.ref f18) = true)
    (a19 : PySem.W.nsIn K mainGlobals "turned" = some (some (.ref f19))) (l19 : K.lookup f19 = some ⟨oc19, od19, .func (PySem.W.fnOf "turned" "turned" (defArgs (topS 25)) (defBody (topS 25)) (defScope (topS 25)) .none kV19 dc19 pm19 an19 cd19 ct19), sl19⟩) (c19 : PySem.W.codeIn K cd19 "turned" = true) (k19 : PySem.W.keepIn K (.ref f19) = true)
    (a20 : PySem.W.nsIn K mainGlobals "multiply" = some (some (.ref f20))) (l20 : K.lookup f20 = some ⟨oc20, od20, .func (PySem.W.fnOf "multiply" "multiply" (defArgs (topS 26)) (defBody (topS 26)) (defScope (topS 26)) .none kV20 dc20 pm20 an20 cd20 ct20), sl20⟩) (c20 : PySem.W.codeIn K cd20 "multiply" = true) (k20 : PySem.W.keepIn K (.ref f20) = true)
    (a21 : PySem.W.nsIn K mainGlobals "divide" = some (some (.ref f21))) (l21 : K.lookup f21 = some ⟨oc21, od21, .func (PySem.W.fnOf "divide" "divide" (defArgs (topS 27)) (defBody (topS 27)) (defScope (topS 27)) .none kV21 dc21 pm21 an21 cd21 ct21), sl21⟩) (c21 : PySem.W.codeIn K cd21 "divide" = true) (k21 : PySem.W.keepIn K (.ref f21) = true)
    (a22 : PySem.W.nsIn K mainGlobals "less" = some (some (.ref f22))) (l22 : K.lookup f22 = some ⟨oc22, od22, .func (PySem.W.fnOf "less" "less" (defArgs (topS 28)) (defBody (topS 28)) (defScope (topS 28)) .none kV22 dc22 pm22 an22 cd22 ct22), sl22⟩) (c22 : PySem.W.codeIn K cd22 "less" = true) (k22 : PySem.W.keepIn K (.ref f22) = true)
    (a23 : PySem.W.nsIn K mainGlobals "place_of" = some (some (.ref f23))) (l23 : K.lookup f23 = some ⟨oc23, od23, .func (PySem.W.fnOf "place_of" "place_of" (defArgs (topS 29)) (defBody (topS 29)) (defScope (topS 29)) .none kV23 dc23 pm23 an23 cd23 ct23), sl23⟩) (c23 : PySem.W.codeIn K cd23 "place_of" = true) (k23 : PySem.W.keepIn K (.ref f23) = true)
    (a24 : PySem.W.nsIn K mainGlobals "next_up" = some (some (.ref f24))) (l24 : K.lookup f24 = some ⟨oc24, od24, .func (PySem.W.fnOf "next_up" "next_up" (defArgs (topS 30)) (defBody (topS 30)) (defScope (topS 30)) .none kV24 dc24 pm24 an24 cd24 ct24), sl24⟩) (c24 : PySem.W.codeIn K cd24 "next_up" = true) (k24 : PySem.W.keepIn K (.ref f24) = true)
    (a25 : PySem.W.nsIn K mainGlobals "summed" = some (some (.ref f25))) (l25 : K.lookup f25 = some ⟨oc25, od25, .func (PySem.W.fnOf "summed" "summed" (defArgs (topS 31)) (defBody (topS 31)) (defScope (topS 31)) .none kV25 dc25 pm25 an25 cd25 ct25), sl25⟩) (c25 : PySem.W.codeIn K cd25 "summed" = true) (k25 : PySem.W.keepIn K (.ref f25) = true)
    (a26 : PySem.W.nsIn K mainGlobals "pair_sum" = some (some (.ref f26))) (l26 : K.lookup f26 = some ⟨oc26, od26, .func (PySem.W.fnOf "pair_sum" "pair_sum" (defArgs (topS 32)) (defBody (topS 32)) (defScope (topS 32)) .none kV26 dc26 pm26 an26 cd26 ct26), sl26⟩) (c26 : PySem.W.codeIn K cd26 "pair_sum" = true) (k26 : PySem.W.keepIn K (.ref f26) = true)
    (a27 : PySem.W.nsIn K mainGlobals "power_of_figures" = some (some (.ref f27))) (l27 : K.lookup f27 = some ⟨oc27, od27, .func (PySem.W.fnOf "power_of" "power_of" (defArgs (topS 35)) (defBody (topS 35)) (defScope (topS 35)) .none kV27 dc27 pm27 an27 cd27 ct27), sl27⟩) (c27 : PySem.W.codeIn K cd27 "power_of" = true) (k27 : PySem.W.keepIn K (.ref f27) = true)
    (a28 : PySem.W.nsIn K mainGlobals "check" = some (some (.ref f28))) (l28 : K.lookup f28 = some ⟨oc28, od28, .func (PySem.W.fnOf "check" "check" (defArgs (topS 37)) (defBody (topS 37)) (defScope (topS 37)) .none kV28 dc28 pm28 an28 cd28 ct28), sl28⟩) (c28 : PySem.W.codeIn K cd28 "check" = true) (k28 : PySem.W.keepIn K (.ref f28) = true)
    (a29 : PySem.W.nsIn K mainGlobals "check_code_figures" = some (some (.ref f29))) (l29 : K.lookup f29 = some ⟨oc29, od29, .func (PySem.W.fnOf "check_code" "check_code" (defArgs (topS 38)) (defBody (topS 38)) (defScope (topS 38)) .none kV29 dc29 pm29 an29 cd29 ct29), sl29⟩) (c29 : PySem.W.codeIn K cd29 "check_code" = true) (k29 : PySem.W.keepIn K (.ref f29) = true)
    (a30 : PySem.W.nsIn K mainGlobals "meaning" = some (some (.ref f30))) (l30 : K.lookup f30 = some ⟨oc30, od30, .func (PySem.W.fnOf "meaning" "meaning" (defArgs (topS 40)) (defBody (topS 40)) (defScope (topS 40)) .none kV30 dc30 pm30 an30 cd30 ct30), sl30⟩) (c30 : PySem.W.codeIn K cd30 "meaning" = true) (k30 : PySem.W.keepIn K (.ref f30) = true)
    (a31 : PySem.W.nsIn K mainGlobals "code_of" = some (some (.ref f31))) (l31 : K.lookup f31 = some ⟨oc31, od31, .func (PySem.W.fnOf "code_of" "code_of" (defArgs (topS 41)) (defBody (topS 41)) (defScope (topS 41)) .none kV31 dc31 pm31 an31 cd31 ct31), sl31⟩) (c31 : PySem.W.codeIn K cd31 "code_of" = true) (k31 : PySem.W.keepIn K (.ref f31) = true)
    (a32 : PySem.W.nsIn K mainGlobals "added" = some (some (.ref f32))) (l32 : K.lookup f32 = some ⟨oc32, od32, .func (PySem.W.fnOf "added" "added" (defArgs (topS 42)) (defBody (topS 42)) (defScope (topS 42)) .none kV32 dc32 pm32 an32 cd32 ct32), sl32⟩) (c32 : PySem.W.codeIn K cd32 "added" = true) (k32 : PySem.W.keepIn K (.ref f32) = true)
    (a33 : PySem.W.nsIn K mainGlobals "taken_off" = some (some (.ref f33))) (l33 : K.lookup f33 = some ⟨oc33, od33, .func (PySem.W.fnOf "taken_off" "taken_off" (defArgs (topS 43)) (defBody (topS 43)) (defScope (topS 43)) .none kV33 dc33 pm33 an33 cd33 ct33), sl33⟩) (c33 : PySem.W.codeIn K cd33 "taken_off" = true) (k33 : PySem.W.keepIn K (.ref f33) = true)
    (a34 : PySem.W.nsIn K mainGlobals "digits" = some (some (.ref f34))) (l34 : K.lookup f34 = some ⟨oc34, od34, .func (PySem.W.fnOf "digits" "digits" (defArgs (topS 44)) (defBody (topS 44)) (defScope (topS 44)) .none kV34 dc34 pm34 an34 cd34 ct34), sl34⟩) (c34 : PySem.W.codeIn K cd34 "digits" = true) (k34 : PySem.W.keepIn K (.ref f34) = true)
    (a35 : PySem.W.nsIn K mainGlobals "sparse" = some (some (.ref f35))) (l35 : K.lookup f35 = some ⟨oc35, od35, .func (PySem.W.fnOf "sparse" "sparse" (defArgs (topS 45)) (defBody (topS 45)) (defScope (topS 45)) .none kV35 dc35 pm35 an35 cd35 ct35), sl35⟩) (c35 : PySem.W.codeIn K cd35 "sparse" = true) (k35 : PySem.W.keepIn K (.ref f35) = true)
    (a36 : PySem.W.nsIn K mainGlobals "from_digits" = some (some (.ref f36))) (l36 : K.lookup f36 = some ⟨oc36, od36, .func (PySem.W.fnOf "from_digits" "from_digits" (defArgs (topS 46)) (defBody (topS 46)) (defScope (topS 46)) .none kV36 dc36 pm36 an36 cd36 ct36), sl36⟩) (c36 : PySem.W.codeIn K cd36 "from_digits" = true) (k36 : PySem.W.keepIn K (.ref f36) = true)
    (a37 : PySem.W.nsIn K mainGlobals "by_digits" = some (some (.ref f37))) (l37 : K.lookup f37 = some ⟨oc37, od37, .func (PySem.W.fnOf "by_digits" "by_digits" (defArgs (topS 47)) (defBody (topS 47)) (defScope (topS 47)) .none kV37 dc37 pm37 an37 cd37 ct37), sl37⟩) (c37 : PySem.W.codeIn K cd37 "by_digits" = true) (k37 : PySem.W.keepIn K (.ref f37) = true)
    (a38 : PySem.W.nsIn K mainGlobals "_law_tape" = some (some (.ref f38))) (l38 : K.lookup f38 = some ⟨oc38, od38, .func (PySem.W.fnOf "_law_tape" "_law_tape" (defArgs (topS 49)) (defBody (topS 49)) (defScope (topS 49)) .none kV38 dc38 pm38 an38 cd38 ct38), sl38⟩) (c38 : PySem.W.codeIn K cd38 "_law_tape" = true) (k38 : PySem.W.keepIn K (.ref f38) = true)
    (a39 : PySem.W.nsIn K mainGlobals "_law_take" = some (some (.ref f39))) (l39 : K.lookup f39 = some ⟨oc39, od39, .func (PySem.W.fnOf "_law_take" "_law_take" (defArgs (topS 50)) (defBody (topS 50)) (defScope (topS 50)) .none kV39 dc39 pm39 an39 cd39 ct39), sl39⟩) (c39 : PySem.W.codeIn K cd39 "_law_take" = true) (k39 : PySem.W.keepIn K (.ref f39) = true)
    (a40 : PySem.W.nsIn K mainGlobals "_law_code" = some (some (.ref f40))) (l40 : K.lookup f40 = some ⟨oc40, od40, .func (PySem.W.fnOf "_law_code" "_law_code" (defArgs (topS 51)) (defBody (topS 51)) (defScope (topS 51)) .none kV40 dc40 pm40 an40 cd40 ct40), sl40⟩) (c40 : PySem.W.codeIn K cd40 "_law_code" = true) (k40 : PySem.W.keepIn K (.ref f40) = true)
    (a41 : PySem.W.nsIn K mainGlobals "_law_mirror" = some (some (.ref f41))) (l41 : K.lookup f41 = some ⟨oc41, od41, .func (PySem.W.fnOf "_law_mirror" "_law_mirror" (defArgs (topS 52)) (defBody (topS 52)) (defScope (topS 52)) .none kV41 dc41 pm41 an41 cd41 ct41), sl41⟩) (c41 : PySem.W.codeIn K cd41 "_law_mirror" = true) (k41 : PySem.W.keepIn K (.ref f41) = true)
    (a42 : PySem.W.nsIn K mainGlobals "_law_turned" = some (some (.ref f42))) (l42 : K.lookup f42 = some ⟨oc42, od42, .func (PySem.W.fnOf "_law_turned" "_law_turned" (defArgs (topS 53)) (defBody (topS 53)) (defScope (topS 53)) .none kV42 dc42 pm42 an42 cd42 ct42), sl42⟩) (c42 : PySem.W.codeIn K cd42 "_law_turned" = true) (k42 : PySem.W.keepIn K (.ref f42) = true)
    (a43 : PySem.W.nsIn K mainGlobals "_law_sums_right" = some (some (.ref f43))) (l43 : K.lookup f43 = some ⟨oc43, od43, .func (PySem.W.fnOf "_law_sums_right" "_law_sums_right" (defArgs (topS 54)) (defBody (topS 54)) (defScope (topS 54)) .none kV43 dc43 pm43 an43 cd43 ct43), sl43⟩) (c43 : PySem.W.codeIn K cd43 "_law_sums_right" = true) (k43 : PySem.W.keepIn K (.ref f43) = true)
    (a44 : PySem.W.nsIn K mainGlobals "_law_products_right" = some (some (.ref f44))) (l44 : K.lookup f44 = some ⟨oc44, od44, .func (PySem.W.fnOf "_law_products_right" "_law_products_right" (defArgs (topS 55)) (defBody (topS 55)) (defScope (topS 55)) .none kV44 dc44 pm44 an44 cd44 ct44), sl44⟩) (c44 : PySem.W.codeIn K cd44 "_law_products_right" = true) (k44 : PySem.W.keepIn K (.ref f44) = true)
    (a45 : PySem.W.nsIn K mainGlobals "_law_order_right" = some (some (.ref f45))) (l45 : K.lookup f45 = some ⟨oc45, od45, .func (PySem.W.fnOf "_law_order_right" "_law_order_right" (defArgs (topS 56)) (defBody (topS 56)) (defScope (topS 56)) .none kV45 dc45 pm45 an45 cd45 ct45), sl45⟩) (c45 : PySem.W.codeIn K cd45 "_law_order_right" = true) (k45 : PySem.W.keepIn K (.ref f45) = true)
    (a46 : PySem.W.nsIn K mainGlobals "_law_rounded_right" = some (some (.ref f46))) (l46 : K.lookup f46 = some ⟨oc46, od46, .func (PySem.W.fnOf "_law_rounded_right" "_law_rounded_right" (defArgs (topS 57)) (defBody (topS 57)) (defScope (topS 57)) .none kV46 dc46 pm46 an46 cd46 ct46), sl46⟩) (c46 : PySem.W.codeIn K cd46 "_law_rounded_right" = true) (k46 : PySem.W.keepIn K (.ref f46) = true)
    (a47 : PySem.W.nsIn K mainGlobals "_law_figures_right" = some (some (.ref f47))) (l47 : K.lookup f47 = some ⟨oc47, od47, .func (PySem.W.fnOf "_law_figures_right" "_law_figures_right" (defArgs (topS 58)) (defBody (topS 58)) (defScope (topS 58)) .none kV47 dc47 pm47 an47 cd47 ct47), sl47⟩) (c47 : PySem.W.codeIn K cd47 "_law_figures_right" = true) (k47 : PySem.W.keepIn K (.ref f47) = true)
    (a48 : PySem.W.nsIn K mainGlobals "law" = some (some (.ref f48))) (l48 : K.lookup f48 = some ⟨oc48, od48, .func (PySem.W.fnOf "law" "law" (defArgs (topS 59)) (defBody (topS 59)) (defScope (topS 59)) .none kV48 dc48 pm48 an48 cd48 ct48), sl48⟩) (c48 : PySem.W.codeIn K cd48 "law" = true) (k48 : PySem.W.keepIn K (.ref f48) = true)
    (ge0 : PySem.W.nsIn K mainGlobals "WAYS" = some (some (.ref ga0))) (gk0 : K.lookup ga0 = some ⟨.type "tuple", gd0, .seq gi0 gn0, gl0⟩) (gv0 : valsOk [.str "even", .str "zero", .str "up", .str "down"] gi0.toList = true) (gw0 : gi0.toList.length ≤ 1000)
    (ge1 : PySem.W.nsIn K mainGlobals "MOST_BITS" = some (some gu1)) (gv1 : valOk (.int 32) gu1 = true)
    (z0 : PySem.W.nsIn K mainGlobals "abs" = some none)
    (z1 : PySem.W.nsIn K mainGlobals "all" = some none)
    (z2 : PySem.W.nsIn K mainGlobals "enumerate" = some none)
    (z3 : PySem.W.nsIn K mainGlobals "int" = some none)
    (z4 : PySem.W.nsIn K mainGlobals "len" = some none)
    (z5 : PySem.W.nsIn K mainGlobals "max" = some none)
    (z6 : PySem.W.nsIn K mainGlobals "range" = some none)
    (z7 : PySem.W.nsIn K mainGlobals "tuple" = some none)
    (hl : ∀ ns : List Int, ns.length ≤ 63 → ∃ S', callD (2 ^ 950) tab pg (30 + 1) lawName [.fz (ns.map D.int)] [] = some (.d (.bl true), S')) :
    ∃ fd : FuncData, (∀ (s : Shared) (v : Value), BindsTo s fd ⟨[v], []⟩ [("script", v)]) ∧ ∀ base : Heap, K.In base → base.Ns mainGlobals mg → FnOk l.prog w K mg base CX0 (30 + 1) fa fd ["script"] (lawSp K) := by
  have e := hfa.symm.trans (PySem.W.mg_of X G a48)
  cases e
  have ai : AllIs K mg tab pg := ⟨is_check_form X G (defRow a0 l0 c0 k0), is_power_of_floating X G (defRow a1 l1 c1 k1), is_bias X G (defRow a2 l2 c2 k2), is_least_power X G (defRow a3 l3 c3 k3), is_size X G (defRow a4 l4 c4 k4), is_check_code_floating X G (defRow a5 l5 c5 k5), is_parts X G (defRow a6 l6 c6 k6), is_kind X G (defRow a7 l7 c7 k7), is_reduced X G (defRow a8 l8 c8 k8), is_value X G (defRow a9 l9 c9 k9), is_greatest X G (defRow a10 l10 c10 k10), is_endless X G (defRow a11 l11 c11 k11), is_nothing X G (defRow a12 l12 c12 k12), is_floor_code X G (defRow a13 l13 c13 k13), is_rounded X G (defRow a14 l14 c14 k14), is_is_nearer_above X G (defRow a15 l15 c15 k15), is_below_step X G (defRow a16 l16 c16 k16), is_signed_nought X G (defRow a17 l17 c17 k17), is_add X G (defRow a18 l18 c18 k18), is_turned X G (defRow a19 l19 c19 k19), is_multiply X G (defRow a20 l20 c20 k20), is_divide X G (defRow a21 l21 c21 k21), is_less X G (defRow a22 l22 c22 k22), is_place_of X G (defRow a23 l23 c23 k23), is_next_up X G (defRow a24 l24 c24 k24), is_summed X G (defRow a25 l25 c25 k25), is_pair_sum X G (defRow a26 l26 c26 k26), is_power_of_figures X G (defRow a27 l27 c27 k27), is_check X G (defRow a28 l28 c28 k28), is_check_code_figures X G (defRow a29 l29 c29 k29), is_meaning X G (defRow a30 l30 c30 k30), is_code_of X G (defRow a31 l31 c31 k31), is_added X G (defRow a32 l32 c32 k32), is_taken_off X G (defRow a33 l33 c33 k33), is_digits X G (defRow a34 l34 c34 k34), is_sparse X G (defRow a35 l35 c35 k35), is_from_digits X G (defRow a36 l36 c36 k36), is_by_digits X G (defRow a37 l37 c37 k37), is_law_tape X G (defRow a38 l38 c38 k38), is_law_take X G (defRow a39 l39 c39 k39), is_law_code X G (defRow a40 l40 c40 k40), is_law_mirror X G (defRow a41 l41 c41 k41), is_law_turned X G (defRow a42 l42 c42 k42), is_law_sums_right X G (defRow a43 l43 c43 k43), is_law_products_right X G (defRow a44 l44 c44 k44), is_law_order_right X G (defRow a45 l45 c45 k45), is_law_rounded_right X G (defRow a46 l46 c46 k46), is_law_figures_right X G (defRow a47 l47 c47 k47), is_law X G (defRow a48 l48 c48 k48), trivial⟩
  have gi : GlbsIs K mg tab.globs := ⟨glb_tup X G ge0 gk0 gv0 gw0, glb_val X G ge1 gv1, glb_fn X G a20, glb_fn X G a21, trivial⟩
  have bi : BltsIs mg tab.blts := ⟨PySem.W.mg_none_of X G z0, PySem.W.mg_none_of X G z1, PySem.W.mg_none_of X G z2, PySem.W.mg_none_of X G z3, PySem.W.mg_none_of X G z4, PySem.W.mg_none_of X G z5, PySem.W.mg_none_of X G z6, PySem.W.mg_none_of X G z7, trivial⟩
  have tp : TopIs K mg tab pg := topIs rfl ai gi bi
  exact ⟨PySem.W.fnOf "law" "law" (defArgs (topS 59)) (defBody (topS 59)) (defScope (topS 59)) .none kV48 dc48 pm48 an48 cd48 ct48, fun s v => .of_eq rfl, fun base _ _ => law_ok (d := d_law) tp look_law (fun_mk l48 c48 k48) sc_law rfl ok_law hl⟩
end K61

set_option Elab.async false
set_option linter.all false
set_option maxRecDepth 100000
/-! M1: forms, codes, kinds: what the functions return -/
namespace K61
open PySem PySem.Spec PyProof.Rows L2 Z
structure Fm (e p : Nat) : Prop where
  a : 2 ≤ e
  b : e ≤ 5
  c : 1 ≤ p
  d : p ≤ 8
abbrev fm (e p : Nat) : D := .tup [.int (e : Int), .int (p : Int)]
inductive Wd where
  | none | endless | nought | small | full | even | zero | up | down
  deriving DecidableEq
def Wd.s : Wd → Str
  | .none => "none" | .endless => "endless" | .nought => "nought" | .small => "small" | .full => "full"
  | .even => "even" | .zero => "zero" | .up => "up" | .down => "down"
theorem wd_inj (a b : Wd) : decide (a.s = b.s) = decide (a = b) := by cases a <;> cases b <;> decide +kernel
theorem wd_ok (a : Wd) : SeqAt.shaped (D.py (.str a.s)) = true := by cases a <;> decide +kernel
theorem l_none : (("none" : String) : Str) = Wd.none.s := rfl
theorem l_endless : (("endless" : String) : Str) = Wd.endless.s := rfl
theorem l_nought : (("nought" : String) : Str) = Wd.nought.s := rfl
theorem l_small : (("small" : String) : Str) = Wd.small.s := rfl
theorem l_full : (("full" : String) : Str) = Wd.full.s := rfl
theorem l_even : (("even" : String) : Str) = Wd.even.s := rfl
theorem l_zero : (("zero" : String) : Str) = Wd.zero.s := rfl
theorem l_up : (("up" : String) : Str) = Wd.up.s := rfl
theorem l_down : (("down" : String) : Str) = Wd.down.s := rfl
theorem lits : type_of% (And.intro l_none (And.intro l_endless (And.intro l_nought (And.intro l_small (And.intro l_full (And.intro l_even (And.intro l_zero (And.intro l_up l_down)))))))) := And.intro l_none (And.intro l_endless (And.intro l_nought (And.intro l_small (And.intro l_full (And.intro l_even (And.intro l_zero (And.intro l_up l_down)))))))
theorem q_w (S : Sto) (a b : Wd) : eqW S (.d (.str a.s)) (.d (.str b.s)) = some (decide (a = b)) := by
  rw [eqp S _ _ rfl rfl (wd_ok a) (wd_ok b), y_str, y_str, v_ss, wd_inj]
theorem shaped_ws : ∀ ws : List Wd, SeqAt.shaped (.list (D.pys (ws.map fun a => .str a.s))) = true := by
  intro ws
  have h : ∀ ws : List Wd, PyData.canLayAll0 (D.pys (ws.map fun a => .str a.s)) = true ∧ PyData.depthAll (D.pys (ws.map fun a => .str a.s)) = 0 := by
    intro ws
    induction ws with
    | nil => exact ⟨rfl, rfl⟩
    | cons a ws ih =>
      rw [List.map_cons, ys_c]
      have := (Bool.and_eq_true_iff.mp (wd_ok a)).1
      refine ⟨?_, ?_⟩
      · unfold PyData.canLayAll0; rw [this, ih.1]; rfl
      · unfold PyData.depthAll; rw [ih.2, y_str]; unfold PyData.depth; rfl
  unfold SeqAt.shaped PyData.canLay0 PyData.depth
  rw [(h ws).1, (h ws).2]; rfl
theorem in_ws (S : Sto) (a : Wd) (ws : List Wd) : inW S (.d (.str a.s)) (.d (.tup (ws.map fun a => .str a.s))) = some (ws.any fun b => decide (b = a)) := by
  rw [inp S _ _ rfl (wd_ok a) (shaped_ws ws)]
  congr 1
  induction ws with
  | nil => rfl
  | cons b ws ih => rw [List.map_cons, ys_c, List.any_cons, List.any_cons, ih, y_str, y_str, v_ss, wd_inj]
theorem in_w2 (S : Sto) (a b c : Wd) : inW S (.d (.str a.s)) (.d (.tup [.str b.s, .str c.s])) = some (decide (b = a) || decide (c = a)) := by
  rw [show inW S (.d (.str a.s)) (.d (.tup [.str b.s, .str c.s])) = _ from in_ws S a [b, c]]; simp
theorem in_w4 (S : Sto) (a b c d f : Wd) : inW S (.d (.str a.s)) (.d (.tup [.str b.s, .str c.s, .str d.s, .str f.s])) = some (decide (b = a) || decide (c = a) || decide (d = a) || decide (f = a)) := by
  rw [show inW S (.d (.str a.s)) (.d (.tup [.str b.s, .str c.s, .str d.s, .str f.s])) = _ from in_ws S a [b, c, d, f]]; simp [Bool.or_assoc]
theorem wds : type_of% (And.intro @q_w (And.intro @in_w2 (And.intro @in_w4 @wd_inj))) := And.intro @q_w (And.intro @in_w2 (And.intro @in_w4 @wd_inj))

/-! numbers -/
theorem au_m2 (a : Int) : augW .mul (.int a) (.d (.int 2)) = some (.int (a * 2)) := au_mul (sm_r rfl)
theorem rngOk_of {j : Int} (h : 0 ≤ j) (h' : j ≤ 1000000) : rngOk j = true := by
  unfold rngOk; simp; omega
theorem rng_i {j : Int} (h : 0 ≤ j ∧ j ≤ 1000000) : rngW [.d (.int j)] = some (rngL 0 j.toNat) := rng1 (rngOk_of h.1 h.2)
theorem big_pow {k : Nat} (h : k ≤ 900) : (2 : Int) ^ k < (2 : Int) ^ 1000 := by
  exact_mod_cast Nat.pow_lt_pow_right (by decide) (by omega)
section
variable (F : Nat) (cl : Calls) (S : Sto)
theorem pow_loop : ∀ (xs : List D) (a y : Option D) (v : Int), ∃ y', forLoop [] (stp tab cl F (.nm 2 "_") lp_power_of_floating1) xs [a, some (.int v), y] S = some (.nx, [a, some (.int (v * 2 ^ xs.length)), y'], S)
  | [], a, y, v => ⟨y, by rw [forLoop_nil _ _ (chkG_nil S)]; simp⟩
  | x :: xs, a, y, v => by
    obtain ⟨y', h⟩ := pow_loop xs a (some x) (v * 2)
    refine ⟨y', ?_⟩
    rw [forLoop_cons _ _ _ _ (chkG_nil S), stp_e]
    unfold lp_power_of_floating1 at *
    simp (disch := first | (refine @id _ ?_; with_unfolding_all rfl) | assumption | omega) only [evl, au_m2]
    rw [h, List.length_cons, Int.pow_succ]
    congr 6
    rw [Int.mul_assoc, Int.mul_comm 2]
end
section
variable (F n : Nat) (S : Sto)
theorem sp_power {i : Int} (h : 0 ≤ i ∧ i ≤ 1000000) : callD F tab pg (n + 1) "power_of_floating" [.int i] S = some (.d (.int (2 ^ i.toNat)), S) := by
  refine call_px look_power_of_floating rfl rfl (w := .d (.int (2 ^ i.toNat))) (S' := []) ?_ rfl S
  rw [show env0 d_power_of_floating [.int i] = [some (.int i), none, none] from rfl]
  show fin (evS tab _ F s_power_of_floating _ _) = _
  unfold s_power_of_floating
  obtain ⟨y', hl⟩ := pow_loop F (callD F tab pg n) [] (rngL 0 i.toNat) (some (.int i)) none 1
  simp (disch := first | (refine @id _ ?_; with_unfolding_all rfl) | assumption | omega) only [evl, rng_i h]
  rw [hl, rngL_len]
  simp (disch := first | (refine @id _ ?_; with_unfolding_all rfl) | assumption | omega) only [evl, Int.one_mul]
theorem sp_check_form {e p : Nat} (h : Fm e p) : callD F tab pg (n + 1) "check_form" [fm e p] S = some (.d .non, S) := by
  refine call_px look_check_form rfl rfl (w := .d .non) (S' := []) ?_ rfl S
  rw [show env0 d_check_form [fm e p] = [some (fm e p), none, none] from rfl]
  show fin (evS tab _ F s_check_form _ _) = _
  unfold s_check_form
  have := h.a; have := h.b; have := h.c; have := h.d
  simp (disch := first | (refine @id _ ?_; with_unfolding_all rfl) | assumption | omega) only [evl, decide_eq_true (show (2 : Int) ≤ e by omega), decide_eq_true (show (e : Int) ≤ 5 by omega), decide_eq_true (show (1 : Int) ≤ p by omega), decide_eq_true (show (p : Int) ≤ 8 by omega), Bool.not_true]
theorem tn_add (a b : Nat) : ((a : Int) + (b : Int)).toNat = a + b := by omega
theorem tn_add1 (a b : Nat) : ((1 : Int) + (a : Int) + (b : Int)).toNat = 1 + a + b := by omega
theorem tn_c (a : Nat) : ((a : Int)).toNat = a := by omega
theorem tn_sub1 (a : Nat) : ((a : Int) - 1).toNat = a - 1 := by omega
theorem sp_bias {e p : Nat} (h : Fm e p) : callD F tab pg (n + 2) "bias" [fm e p] S = some (.d (.int (2 ^ (e - 1) - 1)), S) := by
  refine call_px look_bias rfl rfl (w := .d (.int (2 ^ (e - 1) - 1))) (S' := []) ?_ rfl S
  rw [show env0 d_bias [fm e p] = [some (fm e p)] from rfl]
  show fin (evS tab _ F s_bias _ _) = _
  unfold s_bias
  have := h.a; have := h.b
  simp (disch := first | (refine @id _ ?_; with_unfolding_all rfl) | assumption | omega) only [evl, sp_power, tn_sub1]
theorem sp_least {e p : Nat} (h : Fm e p) : callD F tab pg (n + 3) "least_power" [fm e p] S = some (.d (.int (1 - (2 ^ (e - 1) - 1) - p)), S) := by
  refine call_px look_least_power rfl rfl (w := .d (.int (1 - (2 ^ (e - 1) - 1) - p))) (S' := []) ?_ rfl S
  rw [show env0 d_least_power [fm e p] = [some (fm e p)] from rfl]
  show fin (evS tab _ F s_least_power _ _) = _
  unfold s_least_power
  simp (disch := first | (refine @id _ ?_; with_unfolding_all rfl) | assumption | omega) only [evl, sp_bias _ _ _ h]
theorem sp_size {e p : Nat} (h : Fm e p) : callD F tab pg (n + 2) "size" [fm e p] S = some (.d (.int (2 ^ (1 + e + p))), S) := by
  refine call_px look_size rfl rfl (w := .d (.int (2 ^ (1 + e + p)))) (S' := []) ?_ rfl S
  rw [show env0 d_size [fm e p] = [some (fm e p)] from rfl]
  show fin (evS tab _ F s_size _ _) = _
  unfold s_size
  have := h.a; have := h.b; have := h.c; have := h.d
  simp (disch := first | (refine @id _ ?_; with_unfolding_all rfl) | assumption | omega) only [evl, sp_check_form _ _ _ h, sp_power, tn_add1]
/-- a code of a form -/
structure Cd (e p : Nat) (c : Int) : Prop where
  a : 0 ≤ c
  b : c < 2 ^ (1 + e + p)
theorem sp_check_code {e p : Nat} {c : Int} (h : Fm e p) (hc : Cd e p c) : callD F tab pg (n + 3) "check_code_floating" [fm e p, .int c] S = some (.d .non, S) := by
  refine call_px look_check_code_floating rfl rfl (w := .d .non) (S' := []) ?_ rfl S
  rw [show env0 d_check_code_floating [fm e p, .int c] = [some (fm e p), some (.int c)] from rfl]
  show fin (evS tab _ F s_check_code_floating _ _) = _
  unfold s_check_code_floating
  simp (disch := first | (refine @id _ ?_; with_unfolding_all rfl) | assumption | omega) only [evl, sp_check_form _ _ _ h, sp_size _ _ _ h, decide_eq_true hc.a, decide_eq_true hc.b, Bool.not_true]
def sg (e p : Nat) (c : Int) : Int := c / 2 ^ (e + p)
def xn (e p : Nat) (c : Int) : Int := c / 2 ^ p % 2 ^ e
def pl (p : Nat) (c : Int) : Int := c % 2 ^ p
theorem pow_pos (k : Nat) : (0 : Int) < 2 ^ k := by exact_mod_cast Nat.two_pow_pos k
theorem dv_pow {k : Nat} (h : k ≤ 900) : divOk (2 ^ k) = true := by
  unfold divOk big
  have := pow_pos k
  have := big_pow h
  simp only [Bool.and_eq_true, decide_eq_true_eq]
  refine ⟨by omega, ?_⟩
  have : ((2 : Int) ^ k).natAbs = 2 ^ k := by rw [Int.natAbs_pow]; rfl
  rw [this]
  exact Nat.pow_lt_pow_right (by decide) (by omega)

theorem sp_parts {e p : Nat} {c : Int} (h : Fm e p) (hc : Cd e p c) : callD F tab pg (n + 4) "parts" [fm e p, .int c] S = some (.d (.tup [.int (sg e p c), .int (xn e p c), .int (pl p c)]), S) := by
  refine call_px look_parts rfl rfl (w := .d (.tup [.int (sg e p c), .int (xn e p c), .int (pl p c)])) (S' := []) ?_ rfl S
  rw [show env0 d_parts [fm e p, .int c] = [some (fm e p), some (.int c)] from rfl]
  show fin (evS tab _ F s_parts _ _) = _
  unfold s_parts
  have := h.a; have := h.b; have := h.c; have := h.d
  simp (disch := first | (refine @id _ ?_; with_unfolding_all rfl) | assumption | omega) only [evl, sp_check_code _ _ _ h hc, sp_power, tn_add, tn_c, b_fdiv _ (dv_pow (show e + p ≤ 900 by omega)), b_fdiv _ (dv_pow (show p ≤ 900 by omega)), b_mod _ (pow_pos e), b_mod _ (pow_pos p), sg, xn, pl]
def kd (e p : Nat) (c : Int) : Wd :=
  if xn e p c = 2 ^ e - 1 then (if pl p c = 0 then .endless else .none)
  else if xn e p c = 0 then (if pl p c = 0 then .nought else .small) else .full
theorem sp_kind {e p : Nat} {c : Int} (h : Fm e p) (hc : Cd e p c) : callD F tab pg (n + 5) "kind" [fm e p, .int c] S = some (.d (.str (kd e p c).s), S) := by
  refine call_px look_kind rfl rfl (w := .d (.str (kd e p c).s)) (S' := []) ?_ rfl S
  rw [show env0 d_kind [fm e p, .int c] = [some (fm e p), some (.int c), none, none, none] from rfl]
  show fin (evS tab _ F s_kind _ _) = _
  unfold s_kind
  have := h.a; have := h.b; have := h.c; have := h.d
  unfold kd
  by_cases h1 : xn e p c = 2 ^ e - 1
  · by_cases h2 : pl p c = 0
    · simp (disch := first | (refine @id _ ?_; with_unfolding_all rfl) | assumption | omega) only [evl, sp_parts _ _ _ h hc, sp_power, tn_c, evq, decide_eq_true h1, decide_eq_true h2, if_pos h1, if_pos h2, lits]
    · simp (disch := first | (refine @id _ ?_; with_unfolding_all rfl) | assumption | omega) only [evl, sp_parts _ _ _ h hc, sp_power, tn_c, evq, decide_eq_true h1, decide_eq_false h2, if_pos h1, if_neg h2, lits]
  · by_cases h3 : xn e p c = 0
    · by_cases h2 : pl p c = 0
      · simp (disch := first | (refine @id _ ?_; with_unfolding_all rfl) | assumption | omega) only [evl, sp_parts _ _ _ h hc, sp_power, tn_c, evq, decide_eq_false h1, decide_eq_true h3, decide_eq_true h2, if_neg h1, if_pos h3, if_pos h2, lits]
      · simp (disch := first | (refine @id _ ?_; with_unfolding_all rfl) | assumption | omega) only [evl, sp_parts _ _ _ h hc, sp_power, tn_c, evq, decide_eq_false h1, decide_eq_true h3, decide_eq_false h2, if_neg h1, if_pos h3, if_neg h2, lits]
    · simp (disch := first | (refine @id _ ?_; with_unfolding_all rfl) | assumption | omega) only [evl, sp_parts _ _ _ h hc, sp_power, tn_c, evq, decide_eq_false h1, decide_eq_false h3, if_neg h1, if_neg h3, lits]
/-- a fraction in its lowest terms -/
def red (a b : Int) : Int × Int := if 0 < Int.gcd a b then (a / Int.gcd a b, b / Int.gcd a b) else (0, 1)
theorem gcd_loop (F : Nat) (cl : Calls) : ∀ (k : Nat) (a b : Nat) (y z : Option D), b < k → whl tab cl F lt_reduced1 lp_reduced1 k [y, z, some (.int a), some (.int b)] S = some (.nx, [y, z, some (.int (Nat.gcd a b)), some (.int 0)], S) := by
  intro k
  induction k with
  | zero => intro a b y z h; omega
  | succ k ih =>
    intro a b y z h
    rw [whl_s]
    unfold lt_reduced1
    by_cases hb : b = 0
    · subst hb
      simp (disch := first | (refine @id _ ?_; with_unfolding_all rfl) | assumption | omega) only [evl, show ((((0 : Nat) : Int)) != 0) = false from rfl]
      rw [Nat.gcd_zero_right]; rfl
    · have hbp : (0 : Int) < b := by omega
      have hr := ih b (a % b) y z (by have := Nat.mod_lt a (show 0 < b by omega); omega)
      unfold lp_reduced1 at *
      simp (disch := first | (refine @id _ ?_; with_unfolding_all rfl) | assumption | omega) only [evl, show (((b : Nat) : Int) != 0) = true from by simp [hb], b_mod _ hbp]
      rw [show ((a : Int) % (b : Int)) = ((a % b : Nat) : Int) by simp]
      unfold lt_reduced1 at hr
      rw [hr, Nat.gcd_comm b (a % b), ← Nat.gcd_rec, Nat.gcd_comm b a]
theorem abs_i (a : Int) : (if a < 0 then -a else a) = (a.natAbs : Int) := by split <;> omega
theorem sp_reduced (hF : 2 ^ 900 ≤ F) {a b : Int} (h0 : 0 < b) (h1 : b < 2 ^ 900) : callD F tab pg (n + 1) "reduced" [.int a, .int b] S = some (.d (.tup [.int (red a b).1, .int (red a b).2]), S) := by
  refine call_px look_reduced rfl rfl (w := .d (.tup [.int (red a b).1, .int (red a b).2])) (S' := []) ?_ rfl S
  rw [show env0 d_reduced [.int a, .int b] = [some (.int a), some (.int b), none, none] from rfl]
  show fin (evS tab _ F s_reduced _ _) = _
  unfold s_reduced
  have hb : b.natAbs < F := by
    refine Nat.lt_of_lt_of_le ?_ hF
    have : ((b.natAbs : Nat) : Int) < ((2 ^ 900 : Nat) : Int) := by rw [Int.natCast_pow]; omega
    omega
  have hl := gcd_loop [] F (callD F tab pg n) F a.natAbs b.natAbs (some (.int a)) (some (.int b)) hb
  simp (disch := first | (refine @id _ ?_; with_unfolding_all rfl) | assumption | omega) only [evl, abs_i, hl]
  have hg : 0 < Int.gcd a b := Int.gcd_pos_of_ne_zero_right a (by omega)
  have hg' : (0 : Int) < ((Nat.gcd a.natAbs b.natAbs : Nat) : Int) := by exact_mod_cast hg
  have hd : divOk ((Nat.gcd a.natAbs b.natAbs : Nat) : Int) = true := by
    unfold divOk big
    simp only [Bool.and_eq_true, decide_eq_true_eq]
    refine ⟨hg', ?_⟩
    have h2 : Nat.gcd a.natAbs b.natAbs ≤ b.natAbs := Nat.gcd_le_right _ (by omega)
    have h3 : b.natAbs < 2 ^ 900 := by
      have : ((b.natAbs : Nat) : Int) < ((2 ^ 900 : Nat) : Int) := by rw [Int.natCast_pow]; omega
      omega
    rw [Int.natAbs_natCast]
    exact Nat.lt_of_le_of_lt h2 (Nat.lt_trans h3 (Nat.pow_lt_pow_right (by decide) (by decide)))
  simp (disch := first | (refine @id _ ?_; with_unfolding_all rfl) | assumption | omega) only [evl, decide_eq_true hg', b_fdiv _ hd]
  unfold red
  rw [if_pos hg]
  rfl
/-- a number's whole part in steps of its own -/
def wh (e p : Nat) (c : Int) : Int := bif decide (xn e p c = 0) then pl p c else pl p c + 2 ^ p
def ws (e p : Nat) (c : Int) : Int := bif decide (sg e p c = 1) then 0 - wh e p c else wh e p c
def pw (e p : Nat) (c : Int) : Int := (1 - (2 ^ (e - 1) - 1) - (p : Int)) + (if 0 > xn e p c - 1 then 0 else xn e p c - 1)
def vl (e p : Nat) (c : Int) : Int × Int := bif decide (0 ≤ pw e p c) then (ws e p c * 2 ^ (pw e p c).toNat, 1) else red (ws e p c) (2 ^ (0 - pw e p c).toNat)
theorem wh_eq (e p : Nat) (c : Int) : wh e p c = if xn e p c = 0 then pl p c else pl p c + 2 ^ p := by unfold wh; split <;> simp [*]
theorem ws_eq (e p : Nat) (c : Int) : ws e p c = if sg e p c = 1 then 0 - wh e p c else wh e p c := by unfold ws; split <;> simp [*]
theorem vl_eq (e p : Nat) (c : Int) : vl e p c = if 0 ≤ pw e p c then (ws e p c * 2 ^ (pw e p c).toNat, 1) else red (ws e p c) (2 ^ (0 - pw e p c).toNat) := by
  unfold vl
  by_cases h : 0 ≤ pw e p c
  · rw [if_pos h, decide_eq_true h]; rfl
  · rw [if_neg h, decide_eq_false h]; rfl
def fin' (e p : Nat) (c : Int) : Bool := !(decide (Wd.none = kd e p c) || decide (Wd.endless = kd e p c))
theorem xn_lt (e p : Nat) (c : Int) : 0 ≤ xn e p c ∧ xn e p c < 2 ^ e := ⟨Int.emod_nonneg _ (by have := pow_pos e; omega), Int.emod_lt_of_pos _ (pow_pos e)⟩
theorem pl_lt (p : Nat) (c : Int) : 0 ≤ pl p c ∧ pl p c < 2 ^ p := ⟨Int.emod_nonneg _ (by have := pow_pos p; omega), Int.emod_lt_of_pos _ (pow_pos p)⟩
/-- 2 ^ k for the few k that occur -/
theorem pow_e {e : Nat} (h : 2 ≤ e) (h' : e ≤ 5) : (2 : Int) ^ e = 4 ∨ (2 : Int) ^ e = 8 ∨ (2 : Int) ^ e = 16 ∨ (2 : Int) ^ e = 32 := by
  have : e = 2 ∨ e = 3 ∨ e = 4 ∨ e = 5 := by omega
  rcases this with rfl | rfl | rfl | rfl <;> decide
theorem pow_e1 {e : Nat} (h : 2 ≤ e) : (2 : Int) ^ e = 2 * 2 ^ (e - 1) := by
  obtain ⟨k, rfl⟩ : ∃ k, e = k + 1 := ⟨e - 1, by omega⟩
  rw [Int.pow_succ, Nat.add_sub_cancel, Int.mul_comm]
theorem pow_le {a b : Nat} (h : a ≤ b) : (2 : Int) ^ a ≤ 2 ^ b := by exact_mod_cast Nat.pow_le_pow_right (by decide) h
theorem pow_lt {a b : Nat} (h : a < b) : (2 : Int) ^ a < 2 ^ b := by exact_mod_cast Nat.pow_lt_pow_right (by decide) h
theorem pw_rng {e p : Nat} (h : Fm e p) (c : Int) : -22 ≤ pw e p c ∧ pw e p c ≤ 20 := by
  have h1 := xn_lt e p c
  have h2 := pow_e h.a h.b
  have h3 := pow_e1 h.a
  have := h.c; have := h.d
  unfold pw
  split <;> omega
theorem wh_rng (e p : Nat) (c : Int) : 0 ≤ wh e p c ∧ wh e p c < 2 ^ (p + 1) := by
  have h1 := pl_lt p c
  rw [wh_eq]
  rw [Int.pow_succ]
  split <;> omega
theorem sm_small {a : Int} (h : -(2 ^ 64) < a) (h' : a < 2 ^ 64) : sm64 a = true := by
  unfold sm64; simp only [Bool.and_eq_true, decide_eq_true_eq]; exact ⟨h, h'⟩
theorem ws_rng {e p : Nat} (h : Fm e p) (c : Int) : -512 < ws e p c ∧ ws e p c < 512 := by
  have h1 := wh_rng e p c
  have h2 : (2 : Int) ^ (p + 1) ≤ 2 ^ 9 := pow_le (by have := h.d; omega)
  rw [ws_eq]
  split <;> omega
theorem sp_value (hF : 2 ^ 900 ≤ F) {e p : Nat} {c : Int} (h : Fm e p) (hc : Cd e p c) : callD F tab pg (n + 6) "value" [fm e p, .int c] S = some (.d (if fin' e p c = true then .tup [.int (vl e p c).1, .int (vl e p c).2] else .non), S) := by
  refine call_px look_value rfl rfl (w := .d (if fin' e p c = true then .tup [.int (vl e p c).1, .int (vl e p c).2] else .non)) (S' := []) ?_ (by split <;> rfl) S
  rw [show env0 d_value [fm e p, .int c] = [some (fm e p), some (.int c), none, none, none, none, none] from rfl]
  show fin (evS tab _ F s_value _ _) = _
  unfold s_value
  have := h.a; have := h.b; have := h.c; have := h.d
  have hpw := pw_rng h c
  by_cases hk : (decide (Wd.none = kd e p c) || decide (Wd.endless = kd e p c)) = true
  · have hf : fin' e p c = false := by unfold fin'; rw [hk]; rfl
    simp (disch := first | (refine @id _ ?_; with_unfolding_all rfl) | assumption | omega) only [evl, sp_kind _ _ _ h hc, lits, c_in, wds, hk, hf, Bool.false_eq_true, if_false]
  · have hk : (decide (Wd.none = kd e p c) || decide (Wd.endless = kd e p c)) = false := by simpa using hk
    have hf : fin' e p c = true := by unfold fin'; rw [hk]; rfl
    have fw : 1 - (2 ^ (e - 1) - 1) - (p : Int) + (if 0 > xn e p c - 1 then 0 else xn e p c - 1) = pw e p c := rfl
    have hs := ws_rng h c
    have hm : ∀ x : Int, -512 < x → x < 512 → ∀ y, mulOk x y = true := fun x h1 h2 y => by unfold mulOk; rw [sm_small (by omega) (by omega)]; rfl
    cases b1 : decide (xn e p c = 0) <;> cases b2 : decide (sg e p c = 1) <;> cases b3 : decide (0 ≤ pw e p c)
    all_goals
      simp (disch := first | (refine @id _ ?_; with_unfolding_all rfl) | assumption | omega) only [evl, sp_kind _ _ _ h hc, lits, c_in, wds, hk, hf, sp_parts _ _ _ h hc, sp_least _ _ _ h, evq, sp_power, tn_c, b1, b2, b3, fw]
      simp only [ws, wh, b1, b2, cond_true, cond_false] at hs
      first
        | (have := of_decide_eq_true b3
           simp (disch := first | (refine @id _ ?_; with_unfolding_all rfl) | assumption | omega) only [evl, sp_power, b_mul _ (hm _ hs.1 hs.2 _), vl, ws, wh, b1, b2, b3, cond_true, cond_false, if_true])
        | (have := of_decide_eq_false b3
           have p1 : (2 : Int) ^ (0 - pw e p c).toNat < 2 ^ 900 := pow_lt (by omega)
           simp (disch := first | (refine @id _ ?_; with_unfolding_all rfl) | assumption | omega) only [evl, sp_power, sp_reduced _ _ _ hF (pow_pos (0 - pw e p c).toNat) p1, vl, ws, wh, b1, b2, b3, cond_true, cond_false, if_true])
end
end K61

set_option Elab.async false
set_option linter.all false
set_option maxRecDepth 100000
/-! M2: rounding -/
namespace K61
open PySem PySem.Spec PyProof.Rows L2 Z
section
variable (F n : Nat) (S : Sto)
/-- the greatest code of a number -/
def gt (e p : Nat) : Int := 2 ^ (e + p) - 2 ^ p - 1
theorem sp_greatest {e p : Nat} (h : Fm e p) : callD F tab pg (n + 2) "greatest" [fm e p] S = some (.d (.int (gt e p)), S) := by
  refine call_px look_greatest rfl rfl (w := .d (.int (gt e p))) (S' := []) ?_ rfl S
  rw [show env0 d_greatest [fm e p] = [some (fm e p)] from rfl]
  show fin (evS tab _ F s_greatest _ _) = _
  unfold s_greatest gt
  have := h.a; have := h.b; have := h.c; have := h.d
  simp (disch := first | (refine @id _ ?_; with_unfolding_all rfl) | assumption | omega) only [evl, sp_check_form _ _ _ h, sp_power, tn_add, tn_c]
theorem mul_sm {a b : Int} (h : -(2 ^ 64) < a) (h' : a < 2 ^ 64) : mulOk a b = true := by unfold mulOk; rw [sm_small h h']; rfl
def en (e p : Nat) (s : Int) : Int := s * 2 ^ (e + p) + 2 ^ (e + p) - 2 ^ p
theorem sp_endless {e p : Nat} {s : Int} (h : Fm e p) (h0 : 0 ≤ s) (h1 : s ≤ 1) : callD F tab pg (n + 2) "endless" [fm e p, .int s] S = some (.d (.int (en e p s)), S) := by
  refine call_px look_endless rfl rfl (w := .d (.int (en e p s))) (S' := []) ?_ rfl S
  rw [show env0 d_endless [fm e p, .int s] = [some (fm e p), some (.int s)] from rfl]
  show fin (evS tab _ F s_endless _ _) = _
  unfold s_endless en
  have := h.a; have := h.b; have := h.c; have := h.d
  simp (disch := first | (refine @id _ ?_; with_unfolding_all rfl) | assumption | omega) only [evl, sp_check_form _ _ _ h, sp_power, tn_add, tn_c, b_mul _ (mul_sm (a := s) (b := 2 ^ (e + p)) (by omega) (by omega))]
theorem sp_endless' {e p : Nat} {s : Int} (h : Fm e p) (h0 : 0 ≤ s) (h1 : s ≤ 1) : callD F tab pg (n + 2) Wd.endless.s [fm e p, .int s] S = some (.d (.int (en e p s)), S) := sp_endless F n S h h0 h1
def nt (e p : Nat) : Int := 2 ^ (e + p) - 2 ^ p + 2 ^ (p - 1)
theorem sp_nothing {e p : Nat} (h : Fm e p) : callD F tab pg (n + 2) "nothing" [fm e p] S = some (.d (.int (nt e p)), S) := by
  refine call_px look_nothing rfl rfl (w := .d (.int (nt e p))) (S' := []) ?_ rfl S
  rw [show env0 d_nothing [fm e p] = [some (fm e p)] from rfl]
  show fin (evS tab _ F s_nothing _ _) = _
  unfold s_nothing nt
  have := h.a; have := h.b; have := h.c; have := h.d
  simp (disch := first | (refine @id _ ?_; with_unfolding_all rfl) | assumption | omega) only [evl, sp_power, tn_add, tn_c, tn_sub1]
def sn (e p : Nat) (s : Int) : Int := s * 2 ^ (e + p)
theorem sp_signed {e p : Nat} {s : Int} (h : Fm e p) (h0 : 0 ≤ s) (h1 : s ≤ 1) : callD F tab pg (n + 2) "signed_nought" [fm e p, .int s] S = some (.d (.int (sn e p s)), S) := by
  refine call_px look_signed_nought rfl rfl (w := .d (.int (sn e p s))) (S' := []) ?_ rfl S
  rw [show env0 d_signed_nought [fm e p, .int s] = [some (fm e p), some (.int s)] from rfl]
  show fin (evS tab _ F s_signed_nought _ _) = _
  unfold s_signed_nought sn
  have := h.a; have := h.b; have := h.c; have := h.d
  simp (disch := first | (refine @id _ ?_; with_unfolding_all rfl) | assumption | omega) only [evl, sp_power, tn_add, tn_c, b_mul _ (mul_sm (a := s) (b := 2 ^ (e + p)) (by omega) (by omega))]
def tn (e p : Nat) (c : Int) : Int := bif decide (2 ^ (e + p) ≤ c) then c - 2 ^ (e + p) else c + 2 ^ (e + p)
theorem sp_turned {e p : Nat} {c : Int} (h : Fm e p) (hc : Cd e p c) : callD F tab pg (n + 4) "turned" [fm e p, .int c] S = some (.d (.int (tn e p c)), S) := by
  refine call_px look_turned rfl rfl (w := .d (.int (tn e p c))) (S' := []) ?_ rfl S
  rw [show env0 d_turned [fm e p, .int c] = [some (fm e p), some (.int c), none] from rfl]
  show fin (evS tab _ F s_turned _ _) = _
  unfold s_turned tn
  have := h.a; have := h.b; have := h.c; have := h.d
  cases b : decide (2 ^ (e + p) ≤ c) <;> simp (disch := first | (refine @id _ ?_; with_unfolding_all rfl) | assumption | omega) only [evl, sp_check_code _ _ _ h hc, sp_power, tn_add, tn_c, b, cond_true, cond_false]
def po (e p : Nat) (c : Int) : Int := bif decide (2 ^ (e + p) ≤ c) then 2 ^ (e + p) - c else c
theorem sp_place {e p : Nat} {c : Int} (h : Fm e p) : callD F tab pg (n + 2) "place_of" [fm e p, .int c] S = some (.d (.int (po e p c)), S) := by
  refine call_px look_place_of rfl rfl (w := .d (.int (po e p c))) (S' := []) ?_ rfl S
  rw [show env0 d_place_of [fm e p, .int c] = [some (fm e p), some (.int c), none] from rfl]
  show fin (evS tab _ F s_place_of _ _) = _
  unfold s_place_of po
  have := h.a; have := h.b; have := h.c; have := h.d
  cases b : decide (2 ^ (e + p) ≤ c) <;> simp (disch := first | (refine @id _ ?_; with_unfolding_all rfl) | assumption | omega) only [evl, sp_power, tn_add, tn_c, b, cond_true, cond_false]
end
end K61

set_option Elab.async false
set_option linter.all false
set_option maxRecDepth 100000
/-! M3: the code below a fraction; rounding -/
namespace K61
open PySem PySem.Spec PyProof.Rows L2 Z
theorem red_rng {a b : Int} (h : 0 < b) : (red a b).1.natAbs ≤ a.natAbs ∧ 0 < (red a b).2 ∧ (red a b).2 ≤ b := by
  have hg : 0 < Int.gcd a b := Int.gcd_pos_of_ne_zero_right a (by omega)
  unfold red
  rw [if_pos hg]
  have d1 : ((Int.gcd a b : Nat) : Int) ∣ a := Int.gcd_dvd_left ..
  have d2 : ((Int.gcd a b : Nat) : Int) ∣ b := Int.gcd_dvd_right ..
  obtain ⟨x, hx⟩ := d1
  obtain ⟨y, hy⟩ := d2
  have hg' : ((Int.gcd a b : Nat) : Int) ≠ 0 := by omega
  have e1 : a / ((Int.gcd a b : Nat) : Int) = x := Int.ediv_eq_of_eq_mul_right hg' hx
  have e2 : b / ((Int.gcd a b : Nat) : Int) = y := Int.ediv_eq_of_eq_mul_right hg' hy
  simp only [e1, e2]
  have hgp : (0 : Int) < ((Int.gcd a b : Nat) : Int) := by omega
  have hyp : 0 < y := by
    rcases Int.lt_trichotomy y 0 with z | z | z
    · have := Int.mul_neg_of_pos_of_neg hgp z; omega
    · rw [z] at hy; simp at hy; omega
    · exact z
  refine ⟨?_, hyp, ?_⟩
  · have : a.natAbs = (Int.gcd a b) * x.natAbs := by conv => lhs; rw [hx, Int.natAbs_mul, Int.natAbs_natCast]
    rw [this]
    exact Nat.le_mul_of_pos_left _ hg
  · have : y * 1 ≤ y * ((Int.gcd a b : Nat) : Int) := Int.mul_le_mul_of_nonneg_left (by omega) (by omega)
    rw [Int.mul_comm y] at this
    have h3 : (1 : Int) * y = y := Int.one_mul y
    rw [Int.mul_comm y _, ← hy] at this
    omega
theorem vl_rng {e p : Nat} (h : Fm e p) (c : Int) : -(2 ^ 40) < (vl e p c).1 ∧ (vl e p c).1 < 2 ^ 40 ∧ 0 < (vl e p c).2 ∧ (vl e p c).2 ≤ 2 ^ 22 := by
  have h1 := ws_rng h c
  have h2 := pw_rng h c
  rw [vl_eq]
  split
  · next hp =>
    have h3 : (2 : Int) ^ (pw e p c).toNat ≤ 2 ^ 20 := pow_le (by omega)
    have h4 := pow_pos (pw e p c).toNat
    have h5 : (ws e p c) * 2 ^ (pw e p c).toNat ≤ 512 * 2 ^ (pw e p c).toNat := Int.mul_le_mul_of_nonneg_right (by omega) (by omega)
    have h6 : -512 * 2 ^ (pw e p c).toNat ≤ (ws e p c) * 2 ^ (pw e p c).toNat := Int.mul_le_mul_of_nonneg_right (by omega) (by omega)
    refine ⟨?_, ?_, ?_, ?_⟩ <;> simp only <;> omega
  · next hp =>
    have h3 : (2 : Int) ^ (0 - pw e p c).toNat ≤ 2 ^ 22 := pow_le (by omega)
    have h4 := red_rng (a := ws e p c) (pow_pos (0 - pw e p c).toNat)
    refine ⟨?_, ?_, h4.2.1, ?_⟩ <;> omega
theorem hi_eq (e p : Nat) : (2 : Int) ^ (e + p) = 2 ^ e * 2 ^ p := Int.pow_add 2 e p
theorem size_eq (e p : Nat) : (2 : Int) ^ (1 + e + p) = 2 * 2 ^ (e + p) := by rw [show 1 + e + p = (e + p) + 1 by omega, Int.pow_succ, Int.mul_comm]
theorem half_ge {e p : Nat} (h : Fm e p) : (4 : Int) * 2 ^ p ≤ 2 ^ (e + p) := by
  rw [hi_eq]
  have := pow_le (show 2 ≤ e from h.a)
  exact Int.mul_le_mul_of_nonneg_right (by omega) (by have := pow_pos p; omega)
theorem gt_cd {e p : Nat} (h : Fm e p) {c : Int} (h0 : 0 ≤ c) (h1 : c ≤ gt e p) : Cd e p c := by
  have := half_ge h; have := pow_pos p; have := size_eq e p
  unfold gt at h1
  exact ⟨h0, by omega⟩
/-- the exponent of a code below what is endless -/
theorem xn_gt {e p : Nat} (h : Fm e p) {c : Int} (h0 : 0 ≤ c) (h1 : c ≤ gt e p) : xn e p c = c / 2 ^ p ∧ xn e p c ≤ 2 ^ e - 2 := by
  have hp := pow_pos p; have he := pow_pos e; have hh := hi_eq e p
  unfold gt at h1
  have h2 : c / 2 ^ p ≤ 2 ^ e - 2 := by
    have : c / 2 ^ p < 2 ^ e - 1 := by
      rw [Int.ediv_lt_iff_lt_mul hp, Int.sub_mul, ← hh]; omega
    omega
  have h3 : 0 ≤ c / 2 ^ p := Int.ediv_nonneg h0 (by omega)
  have h4 : xn e p c = c / 2 ^ p := Int.emod_eq_of_lt h3 (by omega)
  exact ⟨h4, by omega⟩
theorem fin_gt {e p : Nat} (h : Fm e p) {c : Int} (h0 : 0 ≤ c) (h1 : c ≤ gt e p) : fin' e p c = true := by
  have h2 := xn_gt h h0 h1
  unfold fin' kd
  rw [if_neg (by omega)]
  split
  · split <;> rfl
  · rfl
/-- the loop's halving -/
def flr (e p : Nat) (t b : Int) : Nat → Int → Int → Int
  | 0, lo, _ => lo
  | k + 1, lo, hi => if 1 < hi - lo then (if (vl e p ((lo + hi) / 2)).1 * b ≤ t * (vl e p ((lo + hi) / 2)).2 then flr e p t b k ((lo + hi) / 2) hi else flr e p t b k lo ((lo + hi) / 2)) else lo
theorem flr_rng (e p : Nat) (t b : Int) : ∀ (k : Nat) (lo hi : Int), lo < hi → lo ≤ flr e p t b k lo hi ∧ flr e p t b k lo hi < hi
  | 0, lo, hi, h => ⟨Int.le_refl _, h⟩
  | k + 1, lo, hi, h => by
    unfold flr
    split
    · split
      · have := flr_rng e p t b k ((lo + hi) / 2) hi (by omega); omega
      · have := flr_rng e p t b k lo ((lo + hi) / 2) (by omega); omega
    · omega
section
variable (F n : Nat) (S : Sto)
theorem mo {a : Int} (h : -(2 ^ 40) < a) (h' : a < 2 ^ 40) (b : Int) : mulOk a b = true := mul_sm (by omega) (by omega)
theorem mo' {b : Int} (h : -(2 ^ 40) < b) (h' : b < 2 ^ 40) (a : Int) : mulOk a b = true := by
  unfold mulOk; rw [sm_small (a := b) (by omega) (by omega)]; simp
theorem floor_loop (hF : 2 ^ 900 ≤ F) {e p : Nat} (h : Fm e p) (t b : Int) : ∀ (k : Nat) (lo hi : Int) (y z : Option D), 0 ≤ lo → lo < hi → hi ≤ gt e p + 1 → (hi - lo).toNat < k →
    ∃ hi' y' z', whl tab (callD F tab pg (n + 6)) F lt_floor_code1 lp_floor_code1 k [some (fm e p), some (.int t), some (.int b), some (.int lo), some (.int hi), y, z] S =
      some (.nx, [some (fm e p), some (.int t), some (.int b), some (.int (flr e p t b k lo hi)), some (.int hi'), y', z'], S) := by
  intro k
  induction k with
  | zero => intro lo hi y z _ _ _ h; omega
  | succ k ih =>
    intro lo hi y z h0 h1 h2 h3
    rw [whl_s]
    by_cases hc : 1 < hi - lo
    · have c1 : Cd e p ((lo + hi) / 2) := gt_cd h (by omega) (by omega)
      have c2 := fin_gt h (c := (lo + hi) / 2) (by omega) (by omega)
      have c3 := vl_rng h ((lo + hi) / 2)
      cases b1 : decide ((vl e p ((lo + hi) / 2)).1 * b ≤ t * (vl e p ((lo + hi) / 2)).2)
      · obtain ⟨hi', y', z', hr⟩ := ih lo ((lo + hi) / 2) (some (.int ((lo + hi) / 2))) (some (.tup [.int (vl e p ((lo + hi) / 2)).1, .int (vl e p ((lo + hi) / 2)).2])) (by omega) (by omega) (by omega) (by omega)
        refine ⟨hi', y', z', ?_⟩
        rw [show flr e p t b (k + 1) lo hi = flr e p t b k lo ((lo + hi) / 2) by
          conv => lhs; unfold flr
          rw [if_pos hc, if_neg (of_decide_eq_false b1)]]
        rw [← hr]
        unfold lt_floor_code1 lp_floor_code1
        simp (disch := first | (refine @id _ ?_; with_unfolding_all rfl) | assumption | omega) only [evl, decide_eq_true hc, b_fdiv _ (show divOk 2 = true from by decide), sp_value _ _ _ hF h c1, c2, if_true, b_mul _ (mo c3.1 c3.2.1 _), b_mul _ (mo' (b := (vl e p ((lo + hi) / 2)).2) (by omega) (by omega) _), b1]
      · obtain ⟨hi', y', z', hr⟩ := ih ((lo + hi) / 2) hi (some (.int ((lo + hi) / 2))) (some (.tup [.int (vl e p ((lo + hi) / 2)).1, .int (vl e p ((lo + hi) / 2)).2])) (by omega) (by omega) (by omega) (by omega)
        refine ⟨hi', y', z', ?_⟩
        rw [show flr e p t b (k + 1) lo hi = flr e p t b k ((lo + hi) / 2) hi by
          conv => lhs; unfold flr
          rw [if_pos hc, if_pos (of_decide_eq_true b1)]]
        rw [← hr]
        unfold lt_floor_code1 lp_floor_code1
        simp (disch := first | (refine @id _ ?_; with_unfolding_all rfl) | assumption | omega) only [evl, decide_eq_true hc, b_fdiv _ (show divOk 2 = true from by decide), sp_value _ _ _ hF h c1, c2, if_true, b_mul _ (mo c3.1 c3.2.1 _), b_mul _ (mo' (b := (vl e p ((lo + hi) / 2)).2) (by omega) (by omega) _), b1]
    · refine ⟨hi, y, z, ?_⟩
      rw [show flr e p t b (k + 1) lo hi = lo by
          conv => lhs; unfold flr
          rw [if_neg hc]]
      unfold lt_floor_code1
      simp (disch := first | (refine @id _ ?_; with_unfolding_all rfl) | assumption | omega) only [evl, decide_eq_false hc]
/-- the greatest code at or below t / b -/
def fl (F e p : Nat) (t b : Int) : Int := flr e p t b F 0 (gt e p + 1)
def ju (F e p : Nat) (t b : Int) : Bool := decide ((vl e p (fl F e p t b)).1 * b = t * (vl e p (fl F e p t b)).2)
theorem gt_rng {e p : Nat} (h : Fm e p) : 0 < gt e p ∧ gt e p < 8192 := by
  have h1 := half_ge h; have h2 := pow_pos p
  have h3 : (2 : Int) ^ (e + p) ≤ 2 ^ 13 := pow_le (by have := h.b; have := h.d; omega)
  have h4 : (2 : Int) ^ 1 ≤ 2 ^ p := pow_le h.c
  unfold gt
  constructor <;> omega
theorem fl_rng {e p : Nat} (h : Fm e p) (t b : Int) : 0 ≤ fl F e p t b ∧ fl F e p t b ≤ gt e p := by
  have h1 := gt_rng h
  have := flr_rng e p t b F 0 (gt e p + 1) (by omega)
  unfold fl
  omega
theorem F_big (hF : 2 ^ 900 ≤ F) : 10000 < F := Nat.lt_of_lt_of_le (Nat.lt_of_lt_of_le (by decide : 10000 < 2 ^ 14) (Nat.pow_le_pow_right (by decide) (by decide))) hF
theorem sp_floor (hF : 2 ^ 900 ≤ F) {e p : Nat} (h : Fm e p) (t b : Int) : callD F tab pg (n + 7) "floor_code" [fm e p, .int t, .int b] S = some (.d (.tup [.int (fl F e p t b), .bl (ju F e p t b)]), S) := by
  refine call_px look_floor_code rfl rfl (w := .d (.tup [.int (fl F e p t b), .bl (ju F e p t b)])) (S' := []) ?_ rfl S
  rw [show env0 d_floor_code [fm e p, .int t, .int b] = [some (fm e p), some (.int t), some (.int b), none, none, none, none] from rfl]
  show fin (evS tab _ F s_floor_code _ _) = _
  unfold s_floor_code
  have h1 := gt_rng h
  have hFb := F_big F hF
  obtain ⟨hi', y', z', hl⟩ := floor_loop F n [] hF h t b F 0 (gt e p + 1) none none (by omega) (by omega) (by omega) (by omega)
  have h2 := fl_rng F h t b
  have hl' : flr e p t b F 0 (gt e p + 1) = fl F e p t b := rfl
  have c3 := vl_rng h (fl F e p t b)
  rw [hl'] at hl
  simp (disch := first | (refine @id _ ?_; with_unfolding_all rfl) | assumption | omega) only [evl, sp_greatest _ _ _ h, hl, sp_value _ _ _ hF h (gt_cd h h2.1 h2.2), fin_gt h h2.1 h2.2, if_true, b_mul _ (mo c3.1 c3.2.1 _), b_mul _ (mo' (b := (vl e p (fl F e p t b)).2) (by omega) (by omega) _), evq, ju]
end
end K61

set_option Elab.async false
set_option linter.all false
set_option maxRecDepth 100000
/-! M4: rounding, sums, products -/
namespace K61
open PySem PySem.Spec PyProof.Rows L2 Z
theorem d10 : decide ((1 : Int) = 0) = false := rfl
theorem d01 : decide ((0 : Int) = 1) = false := rfl
theorem d00 : decide ((0 : Int) = 0) = true := rfl
theorem d11 : decide ((1 : Int) = 1) = true := rfl
theorem dn : type_of% (And.intro d10 (And.intro d01 (And.intro d00 d11))) := And.intro d10 (And.intro d01 (And.intro d00 d11))
section
variable (F n : Nat) (S : Sto)
/-- the step behind a code -/
def st (e p : Nat) (c : Int) : Int × Int := bif decide (0 ≤ pw e p c) then (2 ^ (pw e p c).toNat, 1) else (1, 2 ^ (0 - pw e p c).toNat)
theorem sp_step {e p : Nat} {c : Int} (h : Fm e p) (hc : Cd e p c) : callD F tab pg (n + 5) "below_step" [fm e p, .int c] S = some (.d (.tup [.int (st e p c).1, .int (st e p c).2]), S) := by
  refine call_px look_below_step rfl rfl (w := .d (.tup [.int (st e p c).1, .int (st e p c).2])) (S' := []) ?_ rfl S
  rw [show env0 d_below_step [fm e p, .int c] = [some (fm e p), some (.int c), none, none, none] from rfl]
  show fin (evS tab _ F s_below_step _ _) = _
  unfold s_below_step st
  have hpw := pw_rng h c
  have fw : 1 - (2 ^ (e - 1) - 1) - (p : Int) + (if 0 > xn e p c - 1 then 0 else xn e p c - 1) = pw e p c := rfl
  cases b3 : decide (0 ≤ pw e p c)
  · have := of_decide_eq_false b3
    simp (disch := first | (refine @id _ ?_; with_unfolding_all rfl) | assumption | omega) only [evl, sp_parts _ _ _ h hc, sp_least _ _ _ h, fw, b3, sp_power, cond_false]
  · have := of_decide_eq_true b3
    simp (disch := first | (refine @id _ ?_; with_unfolding_all rfl) | assumption | omega) only [evl, sp_parts _ _ _ h hc, sp_least _ _ _ h, fw, b3, sp_power, cond_true]
theorem st_rng {e p : Nat} (h : Fm e p) (c : Int) : 0 < (st e p c).1 ∧ (st e p c).1 < 2 ^ 40 ∧ 0 < (st e p c).2 ∧ (st e p c).2 < 2 ^ 40 := by
  have h2 := pw_rng h c
  unfold st
  cases b3 : decide (0 ≤ pw e p c)
  · have := pow_le (show (0 - pw e p c).toNat ≤ 30 by omega)
    have := pow_pos (0 - pw e p c).toNat
    refine ⟨?_, ?_, ?_, ?_⟩ <;> simp only [cond_false] <;> omega
  · have := pow_le (show (pw e p c).toNat ≤ 30 by have := of_decide_eq_true b3; omega)
    have := pow_pos (pw e p c).toNat
    refine ⟨?_, ?_, ?_, ?_⟩ <;> simp only [cond_true] <;> omega
def nrr (e p : Nat) (c t b : Int) : Bool :=
  let d := 2 * (t * (vl e p c).2 - (vl e p c).1 * b) * (st e p c).2
  let w := (st e p c).1 * b * (vl e p c).2
  decide (w < d) || (decide (d = w) && decide (c % 2 = 1))
theorem sp_nearer (hF : 2 ^ 900 ≤ F) {e p : Nat} {c t b : Int} (h : Fm e p) (h0 : 0 ≤ c) (h1 : c ≤ gt e p) : callD F tab pg (n + 7) "is_nearer_above" [fm e p, .int c, .int t, .int b] S = some (.d (.bl (nrr e p c t b)), S) := by
  refine call_px look_is_nearer_above rfl rfl (w := .d (.bl (nrr e p c t b))) (S' := []) ?_ rfl S
  rw [show env0 d_is_nearer_above [fm e p, .int c, .int t, .int b] = [some (fm e p), some (.int c), some (.int t), some (.int b), none, none, none, none] from rfl]
  show fin (evS tab _ F s_is_nearer_above _ _) = _
  unfold s_is_nearer_above nrr
  have hc := gt_cd h h0 h1
  have c3 := vl_rng h c
  have c4 := st_rng h c
  simp only
  cases b1 : decide ((st e p c).1 * b * (vl e p c).2 < 2 * (t * (vl e p c).2 - (vl e p c).1 * b) * (st e p c).2) <;> cases b2 : decide (2 * (t * (vl e p c).2 - (vl e p c).1 * b) * (st e p c).2 = (st e p c).1 * b * (vl e p c).2) <;>
  simp (disch := first | (refine @id _ ?_; with_unfolding_all rfl) | assumption | omega) only [evl, sp_value _ _ _ hF h hc, fin_gt h h0 h1, if_true, sp_step _ _ _ h hc, b_mul _ (mo c3.1 c3.2.1 _), b_mul _ (mo' (b := (vl e p c).2) (by omega) (by omega) _), b_mul _ (mo (a := 2) (by omega) (by omega) _), b_mul _ (mo' (b := (st e p c).2) (by omega) (by omega) _), b_mul _ (mo (a := (st e p c).1) (by omega) (by omega) _), evq, b_mod _ (show (0 : Int) < 2 by omega), b1, b2, Bool.true_or, Bool.false_or, Bool.true_and, Bool.false_and]
/-- rounding upward -/
def ups (e p : Nat) (c s t b : Int) (w : Wd) : Bool := match w with
  | .even => nrr e p c t b
  | .up => decide (s = 0)
  | .down => decide (s = 1)
  | _ => false
/-- a fraction's magnitude, rounded; s: its sign -/
def rnd (F e p : Nat) (s t b : Int) (w : Wd) : Int :=
  bif ju F e p t b then s * 2 ^ (e + p) + fl F e p t b
  else bif ups e p (fl F e p t b) s t b w then (bif decide (fl F e p t b = gt e p) then en e p s else s * 2 ^ (e + p) + fl F e p t b + 1) else s * 2 ^ (e + p) + fl F e p t b
def sgn (t : Int) : Int := if decide (t < 0) = true then 1 else 0
theorem sgn_rng (t : Int) : 0 ≤ sgn t ∧ sgn t ≤ 1 := by unfold sgn; split <;> omega
def IsWay (w : Wd) : Prop := w = .even ∨ w = .zero ∨ w = .up ∨ w = .down
theorem ways_at : tab.globs.lookup ("WAYS" : Str) = some (.tup [.str Wd.even.s, .str Wd.zero.s, .str Wd.up.s, .str Wd.down.s]) := by kernel_rfl
theorem sp_rounded (hF : 2 ^ 900 ≤ F) {e p : Nat} {t b : Int} {w : Wd} (h : Fm e p) (hw : IsWay w) : callD F tab pg (n + 8) "rounded" [fm e p, .tup [.int t, .int b], .str w.s] S = some (.d (.int (rnd F e p (sgn t) t.natAbs b w)), S) := by
  refine call_px look_rounded rfl rfl (w := .d (.int (rnd F e p (sgn t) t.natAbs b w))) (S' := []) ?_ rfl S
  rw [show env0 d_rounded [fm e p, .tup [.int t, .int b], .str w.s] = [some (fm e p), some (.tup [.int t, .int b]), some (.str w.s), none, none, none, none, none, none, none] from rfl]
  show fin (evS tab _ F s_rounded _ _) = _
  unfold s_rounded rnd
  have h2 := fl_rng F h t.natAbs b
  have hs := sgn_rng t
  have hs' : sgn t = 0 ∨ sgn t = 1 := by omega
  have := h.b; have := h.d
  have fs : (if decide (t < 0) = true then 1 else 0) = sgn t := rfl
  cases b1 : ju F e p (t.natAbs) b
  · cases b2 : decide (fl F e p (t.natAbs) b = gt e p)
    all_goals
      rcases hs' with z | z
      all_goals
        rw [z] at fs
        rcases hw with rfl | rfl | rfl | rfl
        all_goals first
          | (simp (disch := first | (refine @id _ ?_; with_unfolding_all rfl) | assumption | omega) only [evl, sp_check_form _ _ _ h, sp_floor _ _ _ hF h, e_glob, ways_at, wds, c_ni, c_in, lits, evq, sp_power, tn_add, fs, abs_i, b_mul _ (mo (a := 0) (by omega) (by omega) _), b_mul _ (mo (a := 1) (by omega) (by omega) _), b1, b2, z, sp_nearer _ _ _ hF h h2.1 h2.2, sp_greatest _ _ _ h, sp_endless' _ _ _ h, dn, ups, cond_true, cond_false, reduceCtorEq, decide_true, decide_false, Bool.or_true, Bool.true_or, Bool.or_false, Bool.false_or, Bool.not_true, Bool.not_false]; done)
          | (cases b3 : nrr e p (fl F e p (t.natAbs) b) t.natAbs b <;>
             simp (disch := first | (refine @id _ ?_; with_unfolding_all rfl) | assumption | omega) only [evl, sp_check_form _ _ _ h, sp_floor _ _ _ hF h, e_glob, ways_at, wds, c_ni, c_in, lits, evq, sp_power, tn_add, fs, abs_i, b_mul _ (mo (a := 0) (by omega) (by omega) _), b_mul _ (mo (a := 1) (by omega) (by omega) _), b1, b2, b3, z, sp_nearer _ _ _ hF h h2.1 h2.2, sp_greatest _ _ _ h, sp_endless' _ _ _ h, dn, ups, cond_true, cond_false, reduceCtorEq, decide_true, decide_false, Bool.or_true, Bool.true_or, Bool.or_false, Bool.false_or, Bool.not_true, Bool.not_false])
  · rcases hw with rfl | rfl | rfl | rfl <;>
    simp (disch := first | (refine @id _ ?_; with_unfolding_all rfl) | assumption | omega) only [evl, sp_check_form _ _ _ h, sp_floor _ _ _ hF h, e_glob, ways_at, wds, c_ni, c_in, lits, sp_power, tn_add, fs, abs_i, b_mul _ (mo (a := sgn t) (by omega) (by omega) _), b1, cond_true, reduceCtorEq, decide_true, decide_false, Bool.or_true, Bool.true_or, Bool.or_false, Bool.not_true]
end
end K61

set_option Elab.async false
set_option linter.all false
set_option maxRecDepth 100000
/-! M5: sums, products, quotients -/
namespace K61
open PySem PySem.Spec PyProof.Rows L2 Z
theorem fin_of {e p : Nat} {c : Int} (h : kd e p c ≠ .none) (h' : kd e p c ≠ .endless) : fin' e p c = true := by
  unfold fin'
  rw [decide_eq_false (fun z => h z.symm), decide_eq_false (fun z => h' z.symm)]; rfl
theorem sg_rng {e p : Nat} {c : Int} (h : Cd e p c) : 0 ≤ sg e p c ∧ sg e p c ≤ 1 := by
  have hp := pow_pos (e + p)
  have h1 := h.a; have h2 := h.b
  rw [size_eq] at h2
  unfold sg
  refine ⟨Int.ediv_nonneg h1 (by omega), ?_⟩
  have : c / 2 ^ (e + p) < 2 := by rw [Int.ediv_lt_iff_lt_mul hp]; omega
  omega
def rr (F e p : Nat) (x : Int × Int) (w : Wd) : Int := rnd F e p (sgn x.1) x.1.natAbs x.2 w
def sgd (w : Wd) : Int := if decide (w = .down) = true then 1 else 0
theorem sgd_rng (w : Wd) : 0 ≤ sgd w ∧ sgd w ≤ 1 := by unfold sgd; split <;> omega
section
variable (F n : Nat) (S : Sto)
theorem sp_roundr (hF : 2 ^ 900 ≤ F) {e p : Nat} {t b : Int} {w : Wd} (h : Fm e p) (hw : IsWay w) : callD F tab pg (n + 8) "rounded" [fm e p, .tup [.int (red t b).1, .int (red t b).2], .str w.s] S = some (.d (.int (rr F e p (red t b) w)), S) := sp_rounded F n S hF h hw
def ad (F e p : Nat) (a b : Int) (w : Wd) : Int :=
  bif (decide (kd e p a = .none) || decide (kd e p b = .none)) then nt e p
  else bif (decide (kd e p a = .endless) || decide (kd e p b = .endless)) then (bif (decide (kd e p a = kd e p b) && !decide (a = b)) then nt e p else bif decide (kd e p a = .endless) then a else b)
  else bif decide ((vl e p a).1 * (vl e p b).2 + (vl e p b).1 * (vl e p a).2 = 0) then sn e p (bif decide (sg e p a = sg e p b) then sg e p a else sgd w)
  else rr F e p (red ((vl e p a).1 * (vl e p b).2 + (vl e p b).1 * (vl e p a).2) ((vl e p a).2 * (vl e p b).2)) w
theorem mul_pos2 {a b : Int} (h : 0 < a) (h' : a ≤ 2 ^ 22) (g : 0 < b) (g' : b ≤ 2 ^ 22) : 0 < a * b ∧ a * b < 2 ^ 900 := by
  refine ⟨Int.mul_pos h g, ?_⟩
  have h1 : a * b ≤ 2 ^ 22 * b := Int.mul_le_mul_of_nonneg_right h' (by omega)
  have h2 : (2 : Int) ^ 44 < 2 ^ 900 := pow_lt (by decide)
  omega
theorem way_in {w : Wd} (hw : IsWay w) : (decide (Wd.even = w) || decide (Wd.zero = w) || decide (Wd.up = w) || decide (Wd.down = w)) = true := by
  rcases hw with rfl | rfl | rfl | rfl <;> rfl
theorem sp_add (hF : 2 ^ 900 ≤ F) {e p : Nat} {a b : Int} {w : Wd} (h : Fm e p) (ha : Cd e p a) (hb : Cd e p b) (hw : IsWay w) : callD F tab pg (n + 9) "add" [fm e p, .int a, .int b, .str w.s] S = some (.d (.int (ad F e p a b w)), S) := by
  refine call_px look_add rfl rfl (w := .d (.int (ad F e p a b w))) (S' := []) ?_ rfl S
  rw [show env0 d_add [fm e p, .int a, .int b, .str w.s] = [some (fm e p), some (.int a), some (.int b), some (.str w.s), none, none, none, none, none] from rfl]
  show fin (evS tab _ F s_add _ _) = _
  unfold s_add ad
  have fs : (if decide (w = .down) = true then 1 else 0) = sgd w := rfl
  have wi := way_in hw
  have v1 := vl_rng h a; have v2 := vl_rng h b
  have g1 := sg_rng ha; have g2 := sg_rng hb; have g3 := sgd_rng w
  have m := mul_pos2 v1.2.2.1 v1.2.2.2 v2.2.2.1 v2.2.2.2
  cases b1 : (decide (kd e p a = .none) || decide (kd e p b = .none))
  · cases b2 : decide (kd e p a = .endless)
    · cases b3 : decide (kd e p b = .endless)
      · have n1 : fin' e p a = true := fin_of (of_decide_eq_false (Bool.or_eq_false_iff.mp b1).1) (of_decide_eq_false b2)
        have n2 : fin' e p b = true := fin_of (of_decide_eq_false (Bool.or_eq_false_iff.mp b1).2) (of_decide_eq_false b3)
        cases b6 : decide ((vl e p a).1 * (vl e p b).2 + (vl e p b).1 * (vl e p a).2 = 0)
        · simp (disch := first | (refine @id _ ?_; with_unfolding_all rfl) | assumption | omega) only [evl, sp_check_code _ _ _ h ha, sp_check_code _ _ _ h hb, e_glob, ways_at, wds, c_ni, c_in, c_eq, lits, wi, Bool.not_true, sp_kind _ _ _ h ha, sp_kind _ _ _ h hb, b1, b2, b3, sp_value _ _ _ hF h ha, sp_value _ _ _ hF h hb, n1, n2, if_true,
            b_mul _ (mo v1.1 v1.2.1 _), b_mul _ (mo v2.1 v2.2.1 _), b_mul _ (mo' (b := (vl e p b).2) (by omega) (by omega) _), eqp, v_ii, y_int, b6, sp_reduced _ _ _ hF m.1 m.2, sp_roundr _ _ _ hF h hw, Bool.or_false, cond_false]
        · cases b7 : decide (sg e p a = sg e p b) <;>
          simp (disch := first | (refine @id _ ?_; with_unfolding_all rfl) | assumption | omega) only [evl, sp_check_code _ _ _ h ha, sp_check_code _ _ _ h hb, e_glob, ways_at, wds, c_ni, c_in, c_eq, lits, wi, Bool.not_true, sp_kind _ _ _ h ha, sp_kind _ _ _ h hb, b1, b2, b3, sp_value _ _ _ hF h ha, sp_value _ _ _ hF h hb, n1, n2, if_true,
            b_mul _ (mo v1.1 v1.2.1 _), b_mul _ (mo v2.1 v2.2.1 _), eqp, v_ii, y_int, b6, b7, sp_parts _ _ _ h ha, sp_parts _ _ _ h hb, fs, sp_signed _ _ _ h, Bool.or_false, cond_false, cond_true]
      · cases b4 : decide (kd e p a = kd e p b) <;> cases b5 : decide (a = b) <;>
        simp (disch := first | (refine @id _ ?_; with_unfolding_all rfl) | assumption | omega) only [evl, sp_check_code _ _ _ h ha, sp_check_code _ _ _ h hb, e_glob, ways_at, wds, c_ni, c_in, c_eq, c_ne, lits, wi, Bool.not_true, Bool.not_false, sp_kind _ _ _ h ha, sp_kind _ _ _ h hb, b1, b2, b3, b4, b5, eqp, v_ii, y_int, sp_nothing _ _ _ h, Bool.or_false, Bool.or_true, Bool.true_or, Bool.and_true, Bool.and_false, Bool.true_and, Bool.false_and, cond_false, cond_true]
    · cases b4 : decide (kd e p a = kd e p b) <;> cases b5 : decide (a = b) <;>
        simp (disch := first | (refine @id _ ?_; with_unfolding_all rfl) | assumption | omega) only [evl, sp_check_code _ _ _ h ha, sp_check_code _ _ _ h hb, e_glob, ways_at, wds, c_ni, c_in, c_eq, c_ne, lits, wi, Bool.not_true, Bool.not_false, sp_kind _ _ _ h ha, sp_kind _ _ _ h hb, b1, b2, b4, b5, eqp, v_ii, y_int, sp_nothing _ _ _ h, Bool.or_false, Bool.or_true, Bool.true_or, Bool.and_true, Bool.and_false, Bool.true_and, Bool.false_and, cond_false, cond_true]
  · simp (disch := first | (refine @id _ ?_; with_unfolding_all rfl) | assumption | omega) only [evl, sp_check_code _ _ _ h ha, sp_check_code _ _ _ h hb, e_glob, ways_at, wds, c_ni, c_in, c_eq, lits, wi, Bool.not_true, sp_kind _ _ _ h ha, sp_kind _ _ _ h hb, b1, sp_nothing _ _ _ h, cond_true]
/-- both signs -/
def sx (e p : Nat) (a b : Int) : Int := Builtin.bitXor (sg e p a) (sg e p b)
theorem sx_eq {e p : Nat} {a b : Int} (ha : Cd e p a) (hb : Cd e p b) : sx e p a b = if sg e p a = sg e p b then 0 else 1 := by
  have g1 := sg_rng ha; have g2 := sg_rng hb
  have k1 : sg e p a = 0 ∨ sg e p a = 1 := by omega
  have k2 : sg e p b = 0 ∨ sg e p b = 1 := by omega
  unfold sx
  rcases k1 with k1 | k1 <;> rcases k2 with k2 | k2 <;> rw [k1, k2] <;> decide +kernel
theorem sx_rng {e p : Nat} {a b : Int} (ha : Cd e p a) (hb : Cd e p b) : 0 ≤ sx e p a b ∧ sx e p a b ≤ 1 := by
  rw [sx_eq ha hb]; split <;> omega
def mu (F e p : Nat) (a b : Int) (w : Wd) : Int :=
  bif (decide (kd e p a = .none) || decide (kd e p b = .none)) then nt e p
  else bif ((decide (kd e p a = .endless) || decide (kd e p b = .endless)) && (decide (kd e p a = .nought) || decide (kd e p b = .nought))) then nt e p
  else bif (decide (kd e p a = .endless) || decide (kd e p b = .endless)) then en e p (sx e p a b)
  else bif (decide (kd e p a = .nought) || decide (kd e p b = .nought)) then sn e p (sx e p a b)
  else rr F e p (red ((vl e p a).1 * (vl e p b).1) ((vl e p a).2 * (vl e p b).2)) w
theorem sp_mul (hF : 2 ^ 900 ≤ F) {e p : Nat} {a b : Int} {w : Wd} (h : Fm e p) (ha : Cd e p a) (hb : Cd e p b) (hw : IsWay w) : callD F tab pg (n + 9) "multiply" [fm e p, .int a, .int b, .str w.s] S = some (.d (.int (mu F e p a b w)), S) := by
  refine call_px look_multiply rfl rfl (w := .d (.int (mu F e p a b w))) (S' := []) ?_ rfl S
  rw [show env0 d_multiply [fm e p, .int a, .int b, .str w.s] = [some (fm e p), some (.int a), some (.int b), some (.str w.s), none, none, none, none] from rfl]
  show fin (evS tab _ F s_multiply _ _) = _
  unfold s_multiply mu
  have wi := way_in hw
  have v1 := vl_rng h a; have v2 := vl_rng h b
  have g1 := sx_rng ha hb
  have fx : Builtin.bitXor (sg e p a) (sg e p b) = sx e p a b := rfl
  have m := mul_pos2 v1.2.2.1 v1.2.2.2 v2.2.2.1 v2.2.2.2
  cases b1 : (decide (kd e p a = .none) || decide (kd e p b = .none))
  · cases b2 : (decide (kd e p a = .endless) || decide (kd e p b = .endless))
    · have n1 : fin' e p a = true := fin_of (of_decide_eq_false (Bool.or_eq_false_iff.mp b1).1) (of_decide_eq_false (Bool.or_eq_false_iff.mp b2).1)
      have n2 : fin' e p b = true := fin_of (of_decide_eq_false (Bool.or_eq_false_iff.mp b1).2) (of_decide_eq_false (Bool.or_eq_false_iff.mp b2).2)
      cases b3 : (decide (kd e p a = .nought) || decide (kd e p b = .nought)) <;>
      simp (disch := first | (refine @id _ ?_; with_unfolding_all rfl) | assumption | omega) only [evl, sp_check_code _ _ _ h ha, sp_check_code _ _ _ h hb, e_glob, ways_at, wds, c_ni, c_in, c_eq, lits, wi, Bool.not_true, sp_kind _ _ _ h ha, sp_kind _ _ _ h hb, b1, b2, b3, sp_value _ _ _ hF h ha, sp_value _ _ _ hF h hb, n1, n2, if_true, sp_parts _ _ _ h ha, sp_parts _ _ _ h hb, b_xor, fx, sp_signed _ _ _ h,
            b_mul _ (mo v1.1 v1.2.1 _), b_mul _ (mo' (b := (vl e p b).2) (by omega) (by omega) _), sp_reduced _ _ _ hF m.1 m.2, sp_roundr _ _ _ hF h hw, Bool.false_and, cond_false, cond_true]
    · cases b3 : (decide (kd e p a = .nought) || decide (kd e p b = .nought)) <;>
      simp (disch := first | (refine @id _ ?_; with_unfolding_all rfl) | assumption | omega) only [evl, sp_check_code _ _ _ h ha, sp_check_code _ _ _ h hb, e_glob, ways_at, wds, c_ni, c_in, c_eq, lits, wi, Bool.not_true, sp_kind _ _ _ h ha, sp_kind _ _ _ h hb, b1, b2, b3, sp_parts _ _ _ h ha, sp_parts _ _ _ h hb, b_xor, fx, sp_nothing _ _ _ h, sp_endless' _ _ _ h, Bool.true_and, cond_false, cond_true]
  · simp (disch := first | (refine @id _ ?_; with_unfolding_all rfl) | assumption | omega) only [evl, sp_check_code _ _ _ h ha, sp_check_code _ _ _ h hb, e_glob, ways_at, wds, c_ni, c_in, c_eq, lits, wi, Bool.not_true, sp_kind _ _ _ h ha, sp_kind _ _ _ h hb, b1, sp_parts _ _ _ h ha, sp_parts _ _ _ h hb, b_xor, sp_nothing _ _ _ h, cond_true]
end
end K61

set_option Elab.async false
set_option linter.all false
set_option maxRecDepth 100000
/-! M6: quotients, order, sums of many -/
namespace K61
open PySem PySem.Spec PyProof.Rows L2 Z
theorem shaped_2w (a b : Wd) : SeqAt.shaped (D.py (.tup [.str a.s, .str b.s])) = true := by cases a <;> cases b <;> decide +kernel
theorem in_pp (S : Sto) (a b c d : Wd) : inW S (.d (.tup [.str a.s, .str b.s])) (.d (.tup [.tup [.str c.s, .str c.s], .tup [.str d.s, .str d.s]])) = some ((decide (c = a) && decide (c = b)) || (decide (d = a) && decide (d = b))) := by
  rw [inp S _ _ rfl (shaped_2w a b) (by cases c <;> cases d <;> decide +kernel)]
  simp only [ys_c, ys_n, y_tup, y_str, any_c, any_n, v_tt, va_cc, va_nn, v_ss, wd_inj, Bool.and_true, Bool.or_false]
theorem red_ne {a b : Int} (h : 0 < b) (ha : a ≠ 0) : (red a b).1 ≠ 0 := by
  have hg : 0 < Int.gcd a b := Int.gcd_pos_of_ne_zero_right a (by omega)
  unfold red
  rw [if_pos hg]
  obtain ⟨x, hx⟩ : ((Int.gcd a b : Nat) : Int) ∣ a := Int.gcd_dvd_left ..
  have e1 : a / ((Int.gcd a b : Nat) : Int) = x := Int.ediv_eq_of_eq_mul_right (by omega) hx
  simp only [e1]
  intro z
  rw [z] at hx
  omega
theorem vl_ne {e p : Nat} {c : Int} (h : kd e p c ≠ .nought) (h' : kd e p c ≠ .endless) : (vl e p c).1 ≠ 0 := by
  have h1 := pl_lt p c
  have h2 := pow_pos p
  have hw : wh e p c ≠ 0 := by
    rw [wh_eq]
    split
    · next hx =>
      intro z
      unfold kd at h h'
      by_cases hy : xn e p c = 2 ^ e - 1
      · rw [if_pos hy, if_pos z] at h'; exact h' rfl
      · rw [if_neg hy, if_pos hx, if_pos z] at h; exact h rfl
    · omega
  have hs : ws e p c ≠ 0 := by rw [ws_eq]; split <;> omega
  rw [vl_eq]
  split
  · have := pow_pos (pw e p c).toNat
    exact Int.mul_ne_zero hs (by omega)
  · exact red_ne (pow_pos _) hs
section
variable (F n : Nat) (S : Sto)
def dv (F e p : Nat) (a b : Int) (w : Wd) : Int :=
  bif (decide (kd e p a = .none) || decide (kd e p b = .none)) then nt e p
  else bif ((decide (.endless = kd e p a) && decide (.endless = kd e p b)) || (decide (.nought = kd e p a) && decide (.nought = kd e p b))) then nt e p
  else bif (decide (kd e p a = .endless) || decide (kd e p b = .nought)) then en e p (sx e p a b)
  else bif (decide (kd e p b = .endless) || decide (kd e p a = .nought)) then sn e p (sx e p a b)
  else rr F e p (bif decide ((vl e p a).2 * (vl e p b).1 < 0) then red (0 - (vl e p a).1 * (vl e p b).2) (0 - (vl e p a).2 * (vl e p b).1) else red ((vl e p a).1 * (vl e p b).2) ((vl e p a).2 * (vl e p b).1)) w
theorem sp_div (hF : 2 ^ 900 ≤ F) {e p : Nat} {a b : Int} {w : Wd} (h : Fm e p) (ha : Cd e p a) (hb : Cd e p b) (hw : IsWay w) : callD F tab pg (n + 9) "divide" [fm e p, .int a, .int b, .str w.s] S = some (.d (.int (dv F e p a b w)), S) := by
  refine call_px look_divide rfl rfl (w := .d (.int (dv F e p a b w))) (S' := []) ?_ rfl S
  rw [show env0 d_divide [fm e p, .int a, .int b, .str w.s] = [some (fm e p), some (.int a), some (.int b), some (.str w.s), none, none, none, none, none, none] from rfl]
  show fin (evS tab _ F s_divide _ _) = _
  unfold s_divide dv
  have wi := way_in hw
  have v1 := vl_rng h a; have v2 := vl_rng h b
  have g1 := sx_rng ha hb
  have fx : Builtin.bitXor (sg e p a) (sg e p b) = sx e p a b := rfl
  cases b1 : (decide (kd e p a = .none) || decide (kd e p b = .none))
  · cases b2 : ((decide (Wd.endless = kd e p a) && decide (Wd.endless = kd e p b)) || (decide (Wd.nought = kd e p a) && decide (Wd.nought = kd e p b)))
    · cases b3 : decide (kd e p a = .endless)
      · cases b4 : decide (kd e p b = .nought)
        · cases b5 : decide (kd e p b = .endless)
          · cases b6 : decide (kd e p a = .nought)
            · have n1 : fin' e p a = true := fin_of (of_decide_eq_false (Bool.or_eq_false_iff.mp b1).1) (of_decide_eq_false b3)
              have n2 : fin' e p b = true := fin_of (of_decide_eq_false (Bool.or_eq_false_iff.mp b1).2) (of_decide_eq_false b5)
              have ne := vl_ne (of_decide_eq_false b4) (of_decide_eq_false b5)
              have hne : (vl e p a).2 * (vl e p b).1 ≠ 0 := Int.mul_ne_zero (by omega) ne
              have u1 : (vl e p a).2 * (vl e p b).1 ≤ 2 ^ 22 * 2 ^ 40 ∧ -(2 ^ 22 * 2 ^ 40) ≤ (vl e p a).2 * (vl e p b).1 := by
                have t1 : (vl e p a).2 * (vl e p b).1 ≤ (vl e p a).2 * 2 ^ 40 := Int.mul_le_mul_of_nonneg_left (by omega) (by omega)
                have t2 : (vl e p a).2 * -(2 ^ 40) ≤ (vl e p a).2 * (vl e p b).1 := Int.mul_le_mul_of_nonneg_left (by omega) (by omega)
                omega
              have u2 : (2 : Int) ^ 22 * 2 ^ 40 < 2 ^ 900 := by rw [← Int.pow_add]; exact pow_lt (by decide)
              cases b7 : decide ((vl e p a).2 * (vl e p b).1 < 0)
              · have := of_decide_eq_false b7
                have m1 : 0 < (vl e p a).2 * (vl e p b).1 := by omega
                have m2 : (vl e p a).2 * (vl e p b).1 < 2 ^ 900 := by omega
                simp (disch := first | (refine @id _ ?_; with_unfolding_all rfl) | assumption | omega) only [evl, sp_check_code _ _ _ h ha, sp_check_code _ _ _ h hb, e_glob, ways_at, wds, c_ni, c_in, c_eq, lits, wi, Bool.not_true, sp_kind _ _ _ h ha, sp_kind _ _ _ h hb, b1, in_pp, b2, b3, b4, b5, b6, b7, sp_value _ _ _ hF h ha, sp_value _ _ _ hF h hb, n1, n2, if_true, sp_parts _ _ _ h ha, sp_parts _ _ _ h hb, b_xor, fx,
                  b_mul _ (mo v1.1 v1.2.1 _), b_mul _ (mo' (b := (vl e p b).1) (by omega) (by omega) _), sp_reduced _ _ _ hF m1 m2, sp_roundr _ _ _ hF h hw, Bool.or_false, cond_false, cond_true]
              · have := of_decide_eq_true b7
                have m1 : 0 < 0 - (vl e p a).2 * (vl e p b).1 := by omega
                have m2 : 0 - (vl e p a).2 * (vl e p b).1 < 2 ^ 900 := by omega
                simp (disch := first | (refine @id _ ?_; with_unfolding_all rfl) | assumption | omega) only [evl, sp_check_code _ _ _ h ha, sp_check_code _ _ _ h hb, e_glob, ways_at, wds, c_ni, c_in, c_eq, lits, wi, Bool.not_true, sp_kind _ _ _ h ha, sp_kind _ _ _ h hb, b1, in_pp, b2, b3, b4, b5, b6, b7, sp_value _ _ _ hF h ha, sp_value _ _ _ hF h hb, n1, n2, if_true, sp_parts _ _ _ h ha, sp_parts _ _ _ h hb, b_xor, fx,
                  b_mul _ (mo v1.1 v1.2.1 _), b_mul _ (mo' (b := (vl e p b).1) (by omega) (by omega) _), sp_reduced _ _ _ hF m1 m2, sp_roundr _ _ _ hF h hw, Bool.or_false, cond_false, cond_true]
            · simp (disch := first | (refine @id _ ?_; with_unfolding_all rfl) | assumption | omega) only [evl, sp_check_code _ _ _ h ha, sp_check_code _ _ _ h hb, e_glob, ways_at, wds, c_ni, c_in, c_eq, lits, wi, Bool.not_true, sp_kind _ _ _ h ha, sp_kind _ _ _ h hb, b1, in_pp, b2, b3, b4, b5, b6, sp_parts _ _ _ h ha, sp_parts _ _ _ h hb, b_xor, fx, sp_signed _ _ _ h, Bool.or_true, Bool.or_false, cond_false, cond_true]
          · simp (disch := first | (refine @id _ ?_; with_unfolding_all rfl) | assumption | omega) only [evl, sp_check_code _ _ _ h ha, sp_check_code _ _ _ h hb, e_glob, ways_at, wds, c_ni, c_in, c_eq, lits, wi, Bool.not_true, sp_kind _ _ _ h ha, sp_kind _ _ _ h hb, b1, in_pp, b2, b3, b4, b5, sp_parts _ _ _ h ha, sp_parts _ _ _ h hb, b_xor, fx, sp_signed _ _ _ h, Bool.true_or, Bool.or_false, cond_false, cond_true]
        · simp (disch := first | (refine @id _ ?_; with_unfolding_all rfl) | assumption | omega) only [evl, sp_check_code _ _ _ h ha, sp_check_code _ _ _ h hb, e_glob, ways_at, wds, c_ni, c_in, c_eq, lits, wi, Bool.not_true, sp_kind _ _ _ h ha, sp_kind _ _ _ h hb, b1, in_pp, b2, b3, b4, sp_parts _ _ _ h ha, sp_parts _ _ _ h hb, b_xor, fx, sp_endless' _ _ _ h, Bool.or_true, cond_false, cond_true]
      · simp (disch := first | (refine @id _ ?_; with_unfolding_all rfl) | assumption | omega) only [evl, sp_check_code _ _ _ h ha, sp_check_code _ _ _ h hb, e_glob, ways_at, wds, c_ni, c_in, c_eq, lits, wi, Bool.not_true, sp_kind _ _ _ h ha, sp_kind _ _ _ h hb, b1, in_pp, b2, b3, sp_parts _ _ _ h ha, sp_parts _ _ _ h hb, b_xor, fx, sp_endless' _ _ _ h, Bool.true_or, cond_false, cond_true]
    · simp (disch := first | (refine @id _ ?_; with_unfolding_all rfl) | assumption | omega) only [evl, sp_check_code _ _ _ h ha, sp_check_code _ _ _ h hb, e_glob, ways_at, wds, c_ni, c_in, c_eq, lits, wi, Bool.not_true, sp_kind _ _ _ h ha, sp_kind _ _ _ h hb, b1, in_pp, b2, sp_parts _ _ _ h ha, sp_parts _ _ _ h hb, b_xor, sp_nothing _ _ _ h, cond_true, cond_false]
  · simp (disch := first | (refine @id _ ?_; with_unfolding_all rfl) | assumption | omega) only [evl, sp_check_code _ _ _ h ha, sp_check_code _ _ _ h hb, e_glob, ways_at, wds, c_ni, c_in, c_eq, lits, wi, Bool.not_true, sp_kind _ _ _ h ha, sp_kind _ _ _ h hb, b1, sp_parts _ _ _ h ha, sp_parts _ _ _ h hb, b_xor, sp_nothing _ _ _ h, cond_true]
def ls (e p : Nat) (a b : Int) : Bool := bif (decide (kd e p a = .none) || decide (kd e p b = .none)) then false else decide (po e p a < po e p b)
theorem sp_less {e p : Nat} {a b : Int} (h : Fm e p) (ha : Cd e p a) (hb : Cd e p b) : callD F tab pg (n + 6) "less" [fm e p, .int a, .int b] S = some (.d (.bl (ls e p a b)), S) := by
  refine call_px look_less rfl rfl (w := .d (.bl (ls e p a b))) (S' := []) ?_ rfl S
  rw [show env0 d_less [fm e p, .int a, .int b] = [some (fm e p), some (.int a), some (.int b)] from rfl]
  show fin (evS tab _ F s_less _ _) = _
  unfold s_less ls
  cases b1 : (decide (kd e p a = .none) || decide (kd e p b = .none)) <;>
  simp (disch := first | (refine @id _ ?_; with_unfolding_all rfl) | assumption | omega) only [evl, sp_check_code _ _ _ h ha, sp_check_code _ _ _ h hb, wds, c_in, lits, sp_kind _ _ _ h ha, sp_kind _ _ _ h hb, b1, sp_place _ _ _ h, cond_true, cond_false]
/-- the next code -/
def nu (e p : Nat) (c : Int) : Option Int :=
  bif decide (kd e p c = .none) || decide (c = en e p 0) then none
  else some (bif decide (0 = c) || decide (2 ^ (e + p) = c) then 1 else bif decide (2 ^ (e + p) < c) then c - 1 else c + 1)
def oD : Option Int → D
  | none => .non
  | some i => .int i
theorem sp_next {e p : Nat} {c : Int} (h : Fm e p) (hc : Cd e p c) : callD F tab pg (n + 6) "next_up" [fm e p, .int c] S = some (.d (oD (nu e p c)), S) := by
  refine call_px look_next_up rfl rfl (w := .d (oD (nu e p c))) (S' := []) ?_ (by cases nu e p c <;> rfl) S
  rw [show env0 d_next_up [fm e p, .int c] = [some (fm e p), some (.int c), none] from rfl]
  show fin (evS tab _ F s_next_up _ _) = _
  unfold s_next_up nu
  have := h.a; have := h.b; have := h.c; have := h.d
  cases b1 : decide (kd e p c = .none) <;> cases b2 : decide (c = en e p 0) <;> cases b3 : decide (0 = c) <;> cases b4 : decide (2 ^ (e + p) = c) <;> cases b5 : decide (2 ^ (e + p) < c) <;>
  simp (disch := first | (refine @id _ ?_; with_unfolding_all rfl) | assumption | omega) only [evl, sp_kind _ _ _ h hc, wds, c_eq, c_in, lits, b1, b2, b3, b4, b5, sp_endless' _ _ _ h, eqp, inp, v_ii, y_int, ys_c, ys_n, any_c, any_n, sp_power, tn_add, oD, Bool.or_true, Bool.true_or, Bool.or_false, cond_true, cond_false]
end
end K61

set_option Elab.async false
set_option linter.all false
set_option maxRecDepth 100000
/-! M7: sums of many, pairs; the law's small helpers -/
namespace K61
open PySem PySem.Spec PyProof.Rows L2 Z
theorem isN_n (S : Sto) : cmpW S .isN (.d .non) (.d .non) = some true := rfl
theorem isN_t (S : Sto) (xs : List D) : cmpW S .isN (.d (.tup xs)) (.d .non) = some false := rfl
theorem isN_i (S : Sto) (i : Int) : cmpW S .isN (.d (.int i)) (.d .non) = some false := rfl
theorem ntN_n (S : Sto) : cmpW S .notN (.d .non) (.d .non) = some false := rfl
theorem ntN_t (S : Sto) (xs : List D) : cmpW S .notN (.d (.tup xs)) (.d .non) = some true := rfl
theorem ntN_i (S : Sto) (i : Int) : cmpW S .notN (.d (.int i)) (.d .non) = some true := rfl
theorem isns : type_of% (And.intro isN_n (And.intro isN_t (And.intro isN_i (And.intro ntN_n (And.intro ntN_t ntN_i))))) := And.intro isN_n (And.intro isN_t (And.intro isN_i (And.intro ntN_n (And.intro ntN_t ntN_i))))
theorem rnd_cd {F e p : Nat} {s t b : Int} {w : Wd} (h : Fm e p) (h0 : 0 ≤ s) (h1 : s ≤ 1) : Cd e p (rnd F e p s t b w) := by
  have h2 := fl_rng F h t b
  have h3 := half_ge h; have h4 := pow_pos p; have h5 := size_eq e p
  have k : s = 0 ∨ s = 1 := by omega
  have g : gt e p = 2 ^ (e + p) - 2 ^ p - 1 := rfl
  unfold rnd
  cases ju F e p t b <;> cases ups e p (fl F e p t b) s t b w <;> cases decide (fl F e p t b = gt e p) <;> simp only [cond_true, cond_false, en] <;> rcases k with rfl | rfl <;> constructor <;> omega
theorem rr_cd {F e p : Nat} {x : Int × Int} {w : Wd} (h : Fm e p) : Cd e p (rr F e p x w) := rnd_cd h (sgn_rng _).1 (sgn_rng _).2
theorem nt_cd {e p : Nat} (h : Fm e p) : Cd e p (nt e p) := by
  have h3 := half_ge h; have h4 := pow_pos p; have h5 := size_eq e p
  have h6 := pow_lt (show p - 1 < p by have := h.c; omega)
  have h7 := pow_pos (p - 1)
  unfold nt; constructor <;> omega
theorem en_cd {e p : Nat} (h : Fm e p) {s : Int} (h0 : 0 ≤ s) (h1 : s ≤ 1) : Cd e p (en e p s) := by
  have h3 := half_ge h; have h4 := pow_pos p; have h5 := size_eq e p
  have k : s = 0 ∨ s = 1 := by omega
  unfold en; rcases k with rfl | rfl <;> constructor <;> omega
theorem sn_cd {e p : Nat} (h : Fm e p) {s : Int} (h0 : 0 ≤ s) (h1 : s ≤ 1) : Cd e p (sn e p s) := by
  have h3 := half_ge h; have h4 := pow_pos p; have h5 := size_eq e p
  have k : s = 0 ∨ s = 1 := by omega
  unfold sn; rcases k with rfl | rfl <;> constructor <;> omega
theorem ad_cd {F e p : Nat} {a b : Int} {w : Wd} (h : Fm e p) (ha : Cd e p a) (hb : Cd e p b) : Cd e p (ad F e p a b w) := by
  have g1 := sg_rng ha; have g2 := sg_rng hb; have g3 := sgd_rng w
  unfold ad
  repeat' (rw [Bool.cond_eq_ite]; split)
  all_goals first
    | exact nt_cd h
    | exact ha
    | exact hb
    | exact rr_cd h
    | (refine sn_cd h ?_ ?_ <;> (rw [Bool.cond_eq_ite]; split) <;> omega)
    | (refine sn_cd h ?_ ?_ <;> omega)
theorem tn_cd {e p : Nat} {a : Int} (ha : Cd e p a) : Cd e p (tn e p a) := by
  have h5 := size_eq e p; have h1 := ha.a; have h2 := ha.b; have := pow_pos (e + p)
  unfold tn
  cases b : decide (2 ^ (e + p) ≤ a)
  · have := of_decide_eq_false b; constructor <;> simp only [cond_false] <;> omega
  · have := of_decide_eq_true b; constructor <;> simp only [cond_true] <;> omega
def oP : Option (Int × Int) → D
  | none => .non
  | some x => .tup [.int x.1, .int x.2]
def sm (F e p : Nat) : List Int → Int → Option (Int × Int) → Int × Option (Int × Int)
  | [], now, ex => (now, ex)
  | c :: cs, now, ex => sm F e p cs (ad F e p now c .even) (bif fin' e p c then ex.map fun x => red (x.1 * (vl e p c).2 + (vl e p c).1 * x.2) (x.2 * (vl e p c).2) else none)
section
variable (F n : Nat) (S : Sto)
theorem w_even : IsWay .even := .inl rfl
theorem sum_loop (hF : 2 ^ 900 ≤ F) {e p : Nat} (h : Fm e p) (u : D) : ∀ (cs : List Int) (now : Int) (ex : Option (Int × Int)) (k : Nat) (y z : Option D), (∀ c ∈ cs, Cd e p c) → Cd e p now → (∀ x, ex = some x → 0 < x.2 ∧ x.2 ≤ 2 ^ (22 * k)) → k + cs.length ≤ 40 →
    ∃ y' z', forLoop [] (stp tab (callD F tab pg (n + 9)) F (.nm 5 "code") lp_summed1) (cs.map .int) [some (fm e p), some u, some (.str Wd.even.s), some (.int now), some (oP ex), y, z] S =
      some (.nx, [some (fm e p), some u, some (.str Wd.even.s), some (.int (sm F e p cs now ex).1), some (oP (sm F e p cs now ex).2), y', z'], S)
  | [], now, ex, k, y, z, _, _, _, _ => ⟨y, z, by rw [List.map_nil, forLoop_nil _ _ (chkG_nil S)]; rfl⟩
  | c :: cs, now, ex, k, y, z, hc, hn, hx, hk => by
    have c1 := hc c List.mem_cons_self
    have cs1 : ∀ x ∈ cs, Cd e p x := fun x hx => hc x (List.mem_cons_of_mem _ hx)
    have cn := ad_cd (F := F) (w := .even) h hn c1
    have v := vl_rng h c
    rw [List.length_cons] at hk
    unfold sm
    rw [List.map_cons, forLoop_cons _ _ _ _ (chkG_nil S), stp_e]
    cases hf : fin' e p c
    · obtain ⟨y', z', hr⟩ := sum_loop hF h u cs (ad F e p now c .even) none (k + 1) (some (.int c)) (some .non) cs1 cn (fun x hx => by cases hx) (by omega)
      refine ⟨y', z', ?_⟩
      unfold lp_summed1 at *
      simp (disch := first | (refine @id _ ?_; with_unfolding_all rfl) | assumption | omega) only [evl, sp_add _ _ _ hF h hn c1 w_even, sp_value _ _ _ hF h c1, hf, Bool.false_eq_true, if_false, isns, cond_false]
      exact hr
    · cases ex with
      | none =>
        obtain ⟨y', z', hr⟩ := sum_loop hF h u cs (ad F e p now c .even) none (k + 1) (some (.int c)) (some (.tup [.int (vl e p c).1, .int (vl e p c).2])) cs1 cn (fun x hx => by cases hx) (by omega)
        refine ⟨y', z', ?_⟩
        unfold lp_summed1 at *
        simp (disch := first | (refine @id _ ?_; with_unfolding_all rfl) | assumption | omega) only [evl, sp_add _ _ _ hF h hn c1 w_even, sp_value _ _ _ hF h c1, hf, if_true, isns, cond_true, oP, Option.map_none]
        exact hr
      | some x =>
        have hx1 := hx x rfl
        have m1 : 0 < x.2 * (vl e p c).2 := Int.mul_pos hx1.1 v.2.2.1
        have m2 : x.2 * (vl e p c).2 ≤ 2 ^ (22 * (k + 1)) := by
          have t1 : x.2 * (vl e p c).2 ≤ x.2 * 2 ^ 22 := Int.mul_le_mul_of_nonneg_left v.2.2.2 (by omega)
          have t2 : x.2 * 2 ^ 22 ≤ 2 ^ (22 * k) * 2 ^ 22 := Int.mul_le_mul_of_nonneg_right hx1.2 (by omega)
          rw [← Int.pow_add, show 22 * k + 22 = 22 * (k + 1) by omega] at t2
          omega
        have m3 : x.2 * (vl e p c).2 < 2 ^ 900 := Int.lt_of_le_of_lt m2 (pow_lt (by omega))
        have rg := red_rng (a := x.1 * (vl e p c).2 + (vl e p c).1 * x.2) m1
        obtain ⟨y', z', hr⟩ := sum_loop hF h u cs (ad F e p now c .even) (some (red (x.1 * (vl e p c).2 + (vl e p c).1 * x.2) (x.2 * (vl e p c).2))) (k + 1) (some (.int c)) (some (.tup [.int (vl e p c).1, .int (vl e p c).2])) cs1 cn
          (fun y hy => by cases hy; exact ⟨rg.2.1, by omega⟩) (by omega)
        refine ⟨y', z', ?_⟩
        unfold lp_summed1 at *
        simp (disch := first | (refine @id _ ?_; with_unfolding_all rfl) | assumption | omega) only [evl, sp_add _ _ _ hF h hn c1 w_even, sp_value _ _ _ hF h c1, hf, if_true, isns, cond_true, oP, Option.map_some, b_mul _ (mo v.1 v.2.1 _), b_mul _ (mo' (b := (vl e p c).2) (by omega) (by omega) _), sp_reduced _ _ _ hF m1 m3]
        exact hr
theorem pures_ints : ∀ cs : List Int, D.pures (cs.map .int) = true
  | [] => rfl
  | c :: cs => by rw [List.map_cons]; unfold D.pures; rw [pures_ints cs]; rfl
theorem oP_pure (x : Option (Int × Int)) : (oP x).pure = true := by cases x <;> rfl
theorem sp_summed (hF : 2 ^ 900 ≤ F) {e p : Nat} {cs : List Int} (h : Fm e p) (hc : ∀ c ∈ cs, Cd e p c) (hl : cs.length ≤ 30) : callD F tab pg (n + 10) "summed" [fm e p, .tup (cs.map .int), .str Wd.even.s] S = some (.d (.tup [.int (sm F e p cs 0 (some (0, 1))).1, oP (sm F e p cs 0 (some (0, 1))).2]), S) := by
  refine call_px look_summed rfl ?_ (w := .d (.tup [.int (sm F e p cs 0 (some (0, 1))).1, oP (sm F e p cs 0 (some (0, 1))).2])) (S' := []) ?_ ?_ S
  · show (true && D.pures [fm e p, .tup (cs.map .int), .str Wd.even.s]) = true
    simp only [D.pures, D.pure, pures_ints, Bool.and_self]
  · rw [show env0 d_summed [fm e p, .tup (cs.map .int), .str Wd.even.s] = [some (fm e p), some (.tup (cs.map .int)), some (.str Wd.even.s), none, none, none, none] from rfl]
    show fin (evS tab _ F s_summed _ _) = _
    unfold s_summed
    have c0 : Cd e p 0 := ⟨by omega, pow_pos _⟩
    obtain ⟨y', z', hr⟩ := sum_loop F n [] hF h (.tup (cs.map .int)) cs 0 (some (0, 1)) 0 none none hc c0 (fun x hx => by cases hx; exact ⟨by omega, by decide⟩) (by omega)
    rw [show oP (some (0, 1)) = .tup [.int 0, .int 1] from rfl] at hr
    cases b : !(cs.map D.int).isEmpty <;>
    simp (disch := first | (refine @id _ ?_; with_unfolding_all rfl) | assumption | omega) only [evl, sp_check_form _ _ _ h, b, Bool.not_false, Bool.not_true, e_glob, ways_at, wds, c_ni, c_in, lits, decide_true, Bool.true_or, hr, reduceCtorEq]
  · show (if D.pure (.tup [.int _, oP _]) then _ else _) = _
    simp only [D.pure, D.pures, oP_pure, Bool.and_self, if_true]
/-- a pair's sum and what is left -/
def ps (F e p : Nat) (a b : Int) : Option (Int × (Int × Int)) :=
  bif fin' e p (ad F e p a b .even) then some (ad F e p a b .even, red (((vl e p a).1 * (vl e p b).2 + (vl e p b).1 * (vl e p a).2) * (vl e p (ad F e p a b .even)).2 - (vl e p (ad F e p a b .even)).1 * (vl e p a).2 * (vl e p b).2) ((vl e p a).2 * (vl e p b).2 * (vl e p (ad F e p a b .even)).2)) else none
def oPs : Option (Int × (Int × Int)) → D
  | none => .non
  | some x => .tup [.int x.1, .tup [.int x.2.1, .int x.2.2]]
theorem oPs_pure (x : Option (Int × (Int × Int))) : (oPs x).pure = true := by cases x <;> rfl
theorem fin_nt {e p : Nat} (h : Fm e p) : fin' e p (nt e p) = false := by
  have hp := pow_pos p; have he := pow_pos e; have hh := hi_eq e p
  have h6 := pow_lt (show p - 1 < p by have := h.c; omega)
  have h7 := pow_pos (p - 1)
  have e1 : nt e p = (2 ^ (p - 1)) + (2 ^ e - 1) * 2 ^ p := by unfold nt; rw [hh, Int.sub_mul]; omega
  have x1 : nt e p / 2 ^ p = 2 ^ e - 1 := by rw [e1, Int.add_mul_ediv_right _ _ (by omega), Int.ediv_eq_zero_of_lt (by omega) h6]; omega
  have x2 : xn e p (nt e p) = 2 ^ e - 1 := by unfold xn; rw [x1]; exact Int.emod_eq_of_lt (by have := pow_le h.a; omega) (by omega)
  have x3 : pl p (nt e p) = 2 ^ (p - 1) := by unfold pl; rw [e1, Int.add_mul_emod_self_right]; exact Int.emod_eq_of_lt (by omega) h6
  unfold fin' kd
  rw [if_pos x2, if_neg (by omega)]
  rfl
/-- a finite sum has finite parts -/
theorem fin_ad {F e p : Nat} {a b : Int} {w : Wd} (h : Fm e p) (hf : fin' e p (ad F e p a b w) = true) : fin' e p a = true ∧ fin' e p b = true := by
  unfold ad at hf
  cases b1 : (decide (kd e p a = .none) || decide (kd e p b = .none))
  · rw [b1, cond_false] at hf
    cases b2 : (decide (kd e p a = .endless) || decide (kd e p b = .endless))
    · exact ⟨fin_of (of_decide_eq_false (Bool.or_eq_false_iff.mp b1).1) (of_decide_eq_false (Bool.or_eq_false_iff.mp b2).1), fin_of (of_decide_eq_false (Bool.or_eq_false_iff.mp b1).2) (of_decide_eq_false (Bool.or_eq_false_iff.mp b2).2)⟩
    · rw [b2, cond_true] at hf
      cases b3 : (decide (kd e p a = kd e p b) && !decide (a = b))
      · rw [b3, cond_false] at hf
        cases b4 : decide (kd e p a = .endless)
        · rw [b4, cond_false] at hf
          rw [b4, Bool.false_or] at b2
          have := of_decide_eq_true b2
          unfold fin' at hf
          rw [this] at hf
          exact absurd hf (by decide)
        · rw [b4, cond_true] at hf
          have := of_decide_eq_true b4
          unfold fin' at hf
          rw [this] at hf
          exact absurd hf (by decide)
      · rw [b3, cond_true, fin_nt h] at hf
        cases hf
  · rw [b1, cond_true, fin_nt h] at hf
    cases hf
theorem sp_pair (hF : 2 ^ 900 ≤ F) {e p : Nat} {a b : Int} (h : Fm e p) (ha : Cd e p a) (hb : Cd e p b) : callD F tab pg (n + 10) "pair_sum" [fm e p, .int a, .int b] S = some (.d (oPs (ps F e p a b)), S) := by
  refine call_px look_pair_sum rfl rfl (w := .d (oPs (ps F e p a b))) (S' := []) ?_ (by cases ps F e p a b <;> rfl) S
  rw [show env0 d_pair_sum [fm e p, .int a, .int b] = [some (fm e p), some (.int a), some (.int b), none, none, none, none, none, none] from rfl]
  show fin (evS tab _ F s_pair_sum _ _) = _
  unfold s_pair_sum ps
  have hc := ad_cd (F := F) (w := .even) h ha hb
  have v1 := vl_rng h a; have v2 := vl_rng h b; have v3 := vl_rng h (ad F e p a b .even)
  cases b1 : fin' e p (ad F e p a b .even)
  · simp (disch := first | (refine @id _ ?_; with_unfolding_all rfl) | assumption | omega) only [evl, lits, sp_add _ _ _ hF h ha hb w_even, sp_value _ _ _ hF h hc, b1, Bool.false_eq_true, if_false, isns, cond_false, oPs]
  · obtain ⟨n1, n2⟩ := fin_ad h b1
    have m1 : 0 < (vl e p a).2 * (vl e p b).2 * (vl e p (ad F e p a b .even)).2 := Int.mul_pos (Int.mul_pos v1.2.2.1 v2.2.2.1) v3.2.2.1
    have m2 : (vl e p a).2 * (vl e p b).2 * (vl e p (ad F e p a b .even)).2 < 2 ^ 900 := by
      have t1 : (vl e p a).2 * (vl e p b).2 ≤ 2 ^ 22 * (vl e p b).2 := Int.mul_le_mul_of_nonneg_right v1.2.2.2 (by omega)
      have t2 : (vl e p a).2 * (vl e p b).2 ≤ 2 ^ 44 := by omega
      have t3 : (vl e p a).2 * (vl e p b).2 * (vl e p (ad F e p a b .even)).2 ≤ 2 ^ 44 * (vl e p (ad F e p a b .even)).2 := Int.mul_le_mul_of_nonneg_right t2 (by omega)
      have t4 : (2 : Int) ^ 66 < 2 ^ 900 := pow_lt (by decide)
      omega
    simp (disch := first | (refine @id _ ?_; with_unfolding_all rfl) | assumption | omega) only [evl, lits, sp_add _ _ _ hF h ha hb w_even, sp_value _ _ _ hF h hc, sp_value _ _ _ hF h ha, sp_value _ _ _ hF h hb, b1, n1, n2, if_true, isns, cond_true, oPs,
      b_mul _ (mo v1.1 v1.2.1 _), b_mul _ (mo v2.1 v2.2.1 _), b_mul _ (mo v3.1 v3.2.1 _), b_mul _ (mo' (b := (vl e p a).2) (by omega) (by omega) _), b_mul _ (mo' (b := (vl e p b).2) (by omega) (by omega) _), b_mul _ (mo' (b := (vl e p (ad F e p a b .even)).2) (by omega) (by omega) _), sp_reduced _ _ _ hF m1 m2]
def mir : Wd → Wd
  | .up => .down
  | .down => .up
  | w => w
theorem sp_mirror {w : Wd} (hw : IsWay w) : callD F tab pg (n + 1) "_law_mirror" [.str w.s] S = some (.d (.str (mir w).s), S) := by
  refine call_px look_law_mirror rfl rfl (w := .d (.str (mir w).s)) (S' := [.dk [(.inr Wd.even.s, .str Wd.even.s), (.inr Wd.zero.s, .str Wd.zero.s), (.inr Wd.up.s, .str Wd.down.s), (.inr Wd.down.s, .str Wd.up.s)]]) ?_ rfl S
  rcases hw with rfl | rfl | rfl | rfl <;> kernel_rfl
def ltn (e p : Nat) (c : Int) : Int := bif decide (kd e p c = .none) then c else tn e p c
theorem sp_lturned {e p : Nat} {c : Int} (h : Fm e p) (hc : Cd e p c) : callD F tab pg (n + 6) "_law_turned" [fm e p, .int c] S = some (.d (.int (ltn e p c)), S) := by
  refine call_px look_law_turned rfl rfl (w := .d (.int (ltn e p c))) (S' := []) ?_ rfl S
  rw [show env0 d_law_turned [fm e p, .int c] = [some (fm e p), some (.int c)] from rfl]
  show fin (evS tab _ F s_law_turned _ _) = _
  unfold s_law_turned ltn
  cases b : decide (kd e p c = .none) <;>
  simp (disch := first | (refine @id _ ?_; with_unfolding_all rfl) | assumption | omega) only [evl, sp_kind _ _ _ h hc, lits, c_eq, wds, b, sp_turned _ _ _ h hc, cond_true, cond_false]
end
end K61

set_option Elab.async false
set_option linter.all false
set_option maxRecDepth 100000
/-! M8: signs turned: the plain law -/
namespace K61
open PySem PySem.Spec PyProof.Rows L2 Z
theorem tn_eq (e p : Nat) (c : Int) : tn e p c = if 2 ^ (e + p) ≤ c then c - 2 ^ (e + p) else c + 2 ^ (e + p) := by
  unfold tn; by_cases h : (2 : Int) ^ (e + p) ≤ c
  · rw [if_pos h, decide_eq_true h]; rfl
  · rw [if_neg h, decide_eq_false h]; rfl
theorem tn_tn {e p : Nat} {c : Int} (h : Cd e p c) : tn e p (tn e p c) = c := by
  have h5 := size_eq e p; have h1 := h.a; have h2 := h.b
  rw [tn_eq e p c]
  split <;> rw [tn_eq] <;> split <;> omega
theorem tn_cases {e p : Nat} {c : Int} (h : Cd e p c) : (tn e p c = c + 1 * 2 ^ (e + p) ∧ c < 2 ^ (e + p)) ∨ (c = tn e p c + 1 * 2 ^ (e + p) ∧ tn e p c < 2 ^ (e + p)) := by
  have h5 := size_eq e p; have h1 := h.a; have h2 := h.b
  rw [tn_eq e p c]
  split
  · right; omega
  · left; omega
theorem shift (e p : Nat) (c : Int) (h0 : 0 ≤ c) (h : c < 2 ^ (e + p)) : sg e p c = 0 ∧ sg e p (c + 1 * 2 ^ (e + p)) = 1 ∧ xn e p (c + 1 * 2 ^ (e + p)) = xn e p c ∧ pl p (c + 1 * 2 ^ (e + p)) = pl p c := by
  have h1 := pow_pos (e + p); have h2 := pow_pos p; have h3 := pow_pos e; have hh := hi_eq e p
  have z : c / 2 ^ (e + p) = 0 := Int.ediv_eq_zero_of_lt h0 h
  refine ⟨z, ?_, ?_, ?_⟩
  · unfold sg; rw [Int.add_mul_ediv_right _ _ (by omega), z]; rfl
  · unfold xn; rw [Int.one_mul, hh, Int.add_mul_ediv_right _ _ (by omega), Int.add_emod_right]
  · unfold pl; rw [Int.one_mul, hh, Int.add_mul_emod_self_right]
theorem tn_parts {e p : Nat} {c : Int} (h : Cd e p c) : sg e p (tn e p c) = 1 - sg e p c ∧ xn e p (tn e p c) = xn e p c ∧ pl p (tn e p c) = pl p c := by
  have h' := tn_cd h
  rcases tn_cases h with ⟨h1, h2⟩ | ⟨h1, h2⟩
  · obtain ⟨a, b, c, d⟩ := shift e p c h.a h2
    rw [h1, a, b, c, d]; exact ⟨rfl, rfl, rfl⟩
  · obtain ⟨a, b, c, d⟩ := shift e p (tn e p c) h'.a h2
    rw [← h1] at b c d
    rw [a, b, c, d]; exact ⟨rfl, rfl, rfl⟩
theorem kd_tn {e p : Nat} {c : Int} (h : Cd e p c) : kd e p (tn e p c) = kd e p c := by
  obtain ⟨_, h2, h3⟩ := tn_parts h
  unfold kd; rw [h2, h3]
theorem fin_tn {e p : Nat} {c : Int} (h : Cd e p c) : fin' e p (tn e p c) = fin' e p c := by unfold fin'; rw [kd_tn h]
theorem pw_tn {e p : Nat} {c : Int} (h : Cd e p c) : pw e p (tn e p c) = pw e p c := by unfold pw; rw [(tn_parts h).2.1]
theorem wh_tn {e p : Nat} {c : Int} (h : Cd e p c) : wh e p (tn e p c) = wh e p c := by unfold wh; rw [(tn_parts h).2.1, (tn_parts h).2.2]
theorem ws_tn {e p : Nat} {c : Int} (h : Cd e p c) : ws e p (tn e p c) = -ws e p c := by
  have g := sg_rng h
  rw [ws_eq, ws_eq, wh_tn h, (tn_parts h).1]
  split <;> split <;> omega
theorem red_neg {a b : Int} (h : 0 < b) : red (-a) b = (-(red a b).1, (red a b).2) := by
  have hg : 0 < Int.gcd a b := Int.gcd_pos_of_ne_zero_right a (by omega)
  unfold red
  rw [Int.neg_gcd, if_pos hg]
  rw [Int.neg_ediv_of_dvd (Int.gcd_dvd_left ..), if_pos hg]
theorem vl_tn {e p : Nat} {c : Int} (h : Cd e p c) : vl e p (tn e p c) = (-(vl e p c).1, (vl e p c).2) := by
  rw [vl_eq, vl_eq, ws_tn h, pw_tn h]
  split
  · simp only [Int.neg_mul]
  · exact red_neg (pow_pos _)
/-! rounding turns -/
theorem ups_tn {F e p : Nat} {c s t b : Int} {w : Wd} (hw : IsWay w) (h0 : 0 ≤ s) (h1 : s ≤ 1) : ups e p c (1 - s) t b (mir w) = ups e p c s t b w := by
  rcases hw with rfl | rfl | rfl | rfl
  · rfl
  · rfl
  · show decide (1 - s = 1) = decide (s = 0)
    exact decide_eq_decide.mpr (by omega)
  · show decide (1 - s = 0) = decide (s = 1)
    exact decide_eq_decide.mpr (by omega)
theorem tn_at {e p : Nat} {s x : Int} (h0 : 0 ≤ s) (h1 : s ≤ 1) (hx : 0 ≤ x) (hx' : x < 2 ^ (e + p)) : tn e p (s * 2 ^ (e + p) + x) = (1 - s) * 2 ^ (e + p) + x := by
  have k : s = 0 ∨ s = 1 := by omega
  rcases k with rfl | rfl
  · rw [tn_eq, if_neg (by omega)]; omega
  · rw [tn_eq, if_pos (by omega)]; omega
theorem rnd_tn {F e p : Nat} {s t b : Int} {w : Wd} (h : Fm e p) (hw : IsWay w) (h0 : 0 ≤ s) (h1 : s ≤ 1) : rnd F e p (1 - s) t b (mir w) = tn e p (rnd F e p s t b w) := by
  have h2 := fl_rng F h t b
  have h3 := half_ge h; have h4 := pow_pos p
  have g : gt e p = 2 ^ (e + p) - 2 ^ p - 1 := rfl
  unfold rnd
  rw [ups_tn (F := F) hw h0 h1]
  cases ju F e p t b <;> cases ups e p (fl F e p t b) s t b w <;> cases b : decide (fl F e p t b = gt e p) <;> simp only [cond_true, cond_false, en]
  · rw [tn_at h0 h1 h2.1 (by omega)]
  · rw [tn_at h0 h1 h2.1 (by omega)]
  · have := of_decide_eq_false b
    rw [Int.add_assoc, Int.add_assoc, tn_at h0 h1 (by omega) (by omega)]
  · rw [Int.add_sub_assoc, Int.add_sub_assoc, tn_at h0 h1 (by omega) (by omega)]
  all_goals rw [tn_at h0 h1 h2.1 (by omega)]
theorem sgn_neg {t : Int} (h : t ≠ 0) : sgn (-t) = 1 - sgn t := by
  unfold sgn
  by_cases h1 : t < 0
  · rw [decide_eq_true h1, decide_eq_false (show ¬ (-t < 0) by omega)]; rfl
  · rw [decide_eq_false h1, decide_eq_true (show -t < 0 by omega)]; rfl
theorem rr_tn {F e p : Nat} {x : Int × Int} {w : Wd} (h : Fm e p) (hw : IsWay w) (hx : x.1 ≠ 0) : rr F e p (-x.1, x.2) (mir w) = tn e p (rr F e p x w) := by
  unfold rr
  simp only
  rw [sgn_neg hx, Int.natAbs_neg, rnd_tn h hw (sgn_rng _).1 (sgn_rng _).2]
/-! kinds of what comes -/
theorem kd_nt {e p : Nat} (h : Fm e p) : kd e p (nt e p) = .none := by
  have hp := pow_pos p; have he := pow_pos e; have hh := hi_eq e p
  have h6 := pow_lt (show p - 1 < p by have := h.c; omega)
  have h7 := pow_pos (p - 1)
  have e1 : nt e p = (2 ^ (p - 1)) + (2 ^ e - 1) * 2 ^ p := by unfold nt; rw [hh, Int.sub_mul]; omega
  have x1 : nt e p / 2 ^ p = 2 ^ e - 1 := by rw [e1, Int.add_mul_ediv_right _ _ (by omega), Int.ediv_eq_zero_of_lt (by omega) h6]; omega
  have x2 : xn e p (nt e p) = 2 ^ e - 1 := by unfold xn; rw [x1]; exact Int.emod_eq_of_lt (by have := pow_le h.a; omega) (by omega)
  have x3 : pl p (nt e p) = 2 ^ (p - 1) := by unfold pl; rw [e1, Int.add_mul_emod_self_right]; exact Int.emod_eq_of_lt (by omega) h6
  unfold kd
  rw [if_pos x2, if_neg (by omega)]
/-- the kind of a code with its sign taken off -/
theorem kd_sg {e p : Nat} {s x : Int} (h0 : 0 ≤ s) (h1 : s ≤ 1) (hx : 0 ≤ x) (hx' : x < 2 ^ (e + p)) : kd e p (s * 2 ^ (e + p) + x) = kd e p x ∧ sg e p (s * 2 ^ (e + p) + x) = s ∧ xn e p (s * 2 ^ (e + p) + x) = xn e p x ∧ pl p (s * 2 ^ (e + p) + x) = pl p x := by
  have k : s = 0 ∨ s = 1 := by omega
  obtain ⟨a, b, c, d⟩ := shift e p x hx hx'
  rcases k with rfl | rfl
  · rw [Int.zero_mul, Int.zero_add]; exact ⟨rfl, a, rfl, rfl⟩
  · rw [Int.add_comm]
    refine ⟨?_, b, c, d⟩
    unfold kd; rw [c, d]
/-- of what is at or below the first endless code -/
theorem kd_le {e p : Nat} {x : Int} (h : Fm e p) (h0 : 0 ≤ x) (h1 : x ≤ gt e p + 1) : kd e p x ≠ .none ∧ (kd e p x = .nought → x = 0) ∧ (x = gt e p + 1 → kd e p x = .endless) := by
  have hp := pow_pos p; have he := pow_pos e; have hh := hi_eq e p; have he4 := pow_le h.a
  have g : gt e p = 2 ^ (e + p) - 2 ^ p - 1 := rfl
  have gr := gt_rng h
  by_cases hx : x ≤ gt e p
  · have h2 := xn_gt h h0 hx
    unfold kd
    rw [if_neg (by omega)]
    refine ⟨by split <;> (try split) <;> decide, fun z => ?_, fun z => by omega⟩
    split at z
    · next q =>
      split at z
      · next r =>
        have := Int.emod_add_mul_ediv x (2 ^ p)
        unfold pl at r
        rw [r, ← h2.1, q] at this
        simpa using this.symm
      · cases z
    · cases z
  · have hx' : x = 0 + (2 ^ e - 1) * 2 ^ p := by rw [Int.sub_mul, ← hh]; omega
    have x1 : x / 2 ^ p = 2 ^ e - 1 := by rw [hx', Int.add_mul_ediv_right _ _ (by omega)]; simp
    have x2 : xn e p x = 2 ^ e - 1 := by unfold xn; rw [x1]; exact Int.emod_eq_of_lt (by omega) (by omega)
    have x3 : pl p x = 0 := by unfold pl; rw [hx', Int.add_mul_emod_self_right]; rfl
    have k : kd e p x = .endless := by unfold kd; rw [if_pos x2, if_pos x3]
    rw [k]
    exact ⟨by decide, fun z => (by cases z), fun _ => rfl⟩
/-- a rounded fraction: its sign and a code without one -/
theorem rnd_form {F e p : Nat} {s t b : Int} {w : Wd} (h : Fm e p) : ∃ x, rnd F e p s t b w = s * 2 ^ (e + p) + x ∧ fl F e p t b ≤ x ∧ x ≤ gt e p + 1 := by
  have h2 := fl_rng F h t b
  have g : gt e p = 2 ^ (e + p) - 2 ^ p - 1 := rfl
  unfold rnd
  cases ju F e p t b <;> cases ups e p (fl F e p t b) s t b w <;> cases q : decide (fl F e p t b = gt e p) <;> simp only [cond_true, cond_false, en]
  all_goals first
    | exact ⟨fl F e p t b, rfl, by omega, by omega⟩
    | (have := of_decide_eq_false q; exact ⟨fl F e p t b + 1, by omega, by omega, by omega⟩)
    | (have := of_decide_eq_true q; exact ⟨gt e p + 1, by omega, by omega, by omega⟩)
theorem rr_kd {F e p : Nat} {x : Int × Int} {w : Wd} (h : Fm e p) : kd e p (rr F e p x w) ≠ .none := by
  have h3 := half_ge h; have h4 := pow_pos p
  have g : gt e p = 2 ^ (e + p) - 2 ^ p - 1 := rfl
  obtain ⟨y, h1, h2, h5⟩ := rnd_form (F := F) (s := sgn x.1) (t := x.1.natAbs) (b := x.2) (w := w) h
  have h6 := fl_rng F h x.1.natAbs x.2
  have h7 := sgn_rng x.1
  unfold rr
  rw [h1, (kd_sg h7.1 h7.2 (by omega) (by omega)).1]
  exact (kd_le h (by omega) h5).1
theorem en_form (e p : Nat) (s : Int) : en e p s = s * 2 ^ (e + p) + (gt e p + 1) := by unfold en gt; omega
theorem kd_en {e p : Nat} (h : Fm e p) {s : Int} (h0 : 0 ≤ s) (h1 : s ≤ 1) : kd e p (en e p s) = .endless := by
  have h3 := half_ge h; have h4 := pow_pos p; have gr := gt_rng h
  have g : gt e p = 2 ^ (e + p) - 2 ^ p - 1 := rfl
  rw [en_form, (kd_sg h0 h1 (by omega) (by omega)).1]
  exact (kd_le h (by omega) (Int.le_refl _)).2.2 rfl
theorem kd_0 {e p : Nat} (h : Fm e p) : kd e p 0 = .nought := by
  have he4 := pow_le h.a
  unfold kd xn pl
  simp only [Int.zero_ediv, Int.zero_emod]
  rw [if_neg (by omega)]; rfl
theorem kd_sn {e p : Nat} (h : Fm e p) {s : Int} (h0 : 0 ≤ s) (h1 : s ≤ 1) : kd e p (sn e p s) = .nought := by
  have := (kd_sg (e := e) (p := p) h0 h1 (Int.le_refl 0) (pow_pos _)).1
  rw [Int.add_zero] at this
  unfold sn; rw [this, kd_0 h]
theorem tn_en {e p : Nat} (h : Fm e p) {s : Int} (h0 : 0 ≤ s) (h1 : s ≤ 1) : tn e p (en e p s) = en e p (1 - s) := by
  have h3 := half_ge h; have h4 := pow_pos p; have gr := gt_rng h
  have g : gt e p = 2 ^ (e + p) - 2 ^ p - 1 := rfl
  rw [en_form, en_form, tn_at h0 h1 (by omega) (by omega)]
theorem tn_sn {e p : Nat} {s : Int} (h0 : 0 ≤ s) (h1 : s ≤ 1) : tn e p (sn e p s) = sn e p (1 - s) := by
  have := tn_at (e := e) (p := p) h0 h1 (Int.le_refl 0) (pow_pos _)
  rw [Int.add_zero, Int.add_zero] at this
  exact this
theorem ltn_of {e p : Nat} {c : Int} (h : kd e p c ≠ .none) : ltn e p c = tn e p c := by unfold ltn; rw [decide_eq_false h]; rfl
theorem ltn_nt {e p : Nat} (h : Fm e p) : ltn e p (nt e p) = nt e p := by unfold ltn; rw [kd_nt h]; rfl
end K61

set_option Elab.async false
set_option linter.all false
set_option maxRecDepth 100000
/-! M9: values in steps; what lies below a fraction; sums turned -/
namespace K61
open PySem PySem.Spec PyProof.Rows L2 Z
def LL (e p : Nat) : Nat := 2 ^ (e - 1) + p - 2
def iv (e p : Nat) (c : Int) : Int := ws e p c * 2 ^ (xn e p c - 1).toNat
theorem red_cross {a b : Int} (h : 0 < b) : (red a b).1 * b = a * (red a b).2 := by
  have hg : 0 < Int.gcd a b := Int.gcd_pos_of_ne_zero_right a (by omega)
  unfold red
  rw [if_pos hg]
  obtain ⟨x, hx⟩ : ((Int.gcd a b : Nat) : Int) ∣ a := Int.gcd_dvd_left ..
  obtain ⟨y, hy⟩ : ((Int.gcd a b : Nat) : Int) ∣ b := Int.gcd_dvd_right ..
  have e1 : a / ((Int.gcd a b : Nat) : Int) = x := Int.ediv_eq_of_eq_mul_right (by omega) hx
  have e2 : b / ((Int.gcd a b : Nat) : Int) = y := Int.ediv_eq_of_eq_mul_right (by omega) hy
  simp only [e1, e2]
  conv => lhs; rhs; rw [hy]
  conv => rhs; lhs; rw [hx]
  rw [Int.mul_left_comm, Int.mul_assoc]
theorem LL_eq {e p : Nat} (h : Fm e p) : ((LL e p : Nat) : Int) = 2 ^ (e - 1) + p - 2 := by
  have := h.a; have := h.c
  have h2 : 2 ^ 1 ≤ 2 ^ (e - 1) := Nat.pow_le_pow_right (by decide) (by omega)
  unfold LL
  rw [Int.ofNat_sub (by omega), Int.natCast_add, Int.natCast_pow]; rfl
theorem pw_eq {e p : Nat} (h : Fm e p) (c : Int) : pw e p c = ((xn e p c - 1).toNat : Int) - LL e p := by
  have := xn_lt e p c
  rw [LL_eq h]
  unfold pw
  split <;> omega
theorem vl_iv {e p : Nat} (h : Fm e p) (c : Int) : (vl e p c).1 * 2 ^ LL e p = iv e p c * (vl e p c).2 := by
  have h1 := pw_eq h c
  rw [vl_eq]
  unfold iv
  split
  · next hp =>
    simp only
    rw [Int.mul_one, Int.mul_assoc, ← Int.pow_add]
    congr 2; omega
  · next hp =>
    have h2 := red_cross (a := ws e p c) (pow_pos (0 - pw e p c).toNat)
    have h3 : LL e p = (0 - pw e p c).toNat + (xn e p c - 1).toNat := by omega
    rw [h3, Int.pow_add, ← Int.mul_assoc, h2]
    rw [Int.mul_assoc, Int.mul_comm (red _ _).2, ← Int.mul_assoc]
theorem le_iv {e p : Nat} (h : Fm e p) (c t b : Int) : ((vl e p c).1 * b ≤ t * (vl e p c).2) ↔ (iv e p c * b ≤ t * 2 ^ LL e p) := by
  have h1 := vl_iv h c
  have h2 := pow_pos (LL e p)
  have h3 := (vl_rng h c).2.2.1
  constructor
  · intro z
    have z1 : (vl e p c).1 * b * 2 ^ LL e p ≤ t * (vl e p c).2 * 2 ^ LL e p := Int.mul_le_mul_of_nonneg_right z (by omega)
    rw [Int.mul_assoc, Int.mul_comm b, ← Int.mul_assoc, h1, Int.mul_assoc, Int.mul_comm _ b, ← Int.mul_assoc, Int.mul_assoc t, Int.mul_comm (vl e p c).2, ← Int.mul_assoc] at z1
    exact Int.le_of_mul_le_mul_right z1 h3
  · intro z
    have z1 : iv e p c * b * (vl e p c).2 ≤ t * 2 ^ LL e p * (vl e p c).2 := Int.mul_le_mul_of_nonneg_right z (by omega)
    rw [Int.mul_assoc, Int.mul_comm b, ← Int.mul_assoc, ← h1, Int.mul_assoc, Int.mul_comm _ b, ← Int.mul_assoc, Int.mul_assoc t, Int.mul_comm (2 ^ LL e p), ← Int.mul_assoc] at z1
    exact Int.le_of_mul_le_mul_right z1 h2
theorem eq_iv {e p : Nat} (h : Fm e p) (c t b : Int) : ((vl e p c).1 * b = t * (vl e p c).2) ↔ (iv e p c * b = t * 2 ^ LL e p) := by
  have h1 := vl_iv h c
  have h2 := pow_pos (LL e p)
  have h3 := (vl_rng h c).2.2.1
  constructor
  · intro z
    have z1 : (vl e p c).1 * b * 2 ^ LL e p = t * (vl e p c).2 * 2 ^ LL e p := by rw [z]
    rw [Int.mul_assoc, Int.mul_comm b, ← Int.mul_assoc, h1, Int.mul_assoc, Int.mul_comm _ b, ← Int.mul_assoc, Int.mul_assoc t, Int.mul_comm (vl e p c).2, ← Int.mul_assoc] at z1
    exact Int.eq_of_mul_eq_mul_right (by omega) z1
  · intro z
    have z1 : iv e p c * b * (vl e p c).2 = t * 2 ^ LL e p * (vl e p c).2 := by rw [z]
    rw [Int.mul_assoc, Int.mul_comm b, ← Int.mul_assoc, ← h1, Int.mul_assoc, Int.mul_comm _ b, ← Int.mul_assoc, Int.mul_assoc t, Int.mul_comm (2 ^ LL e p), ← Int.mul_assoc] at z1
    exact Int.eq_of_mul_eq_mul_right (by omega) z1
theorem iv_tn {e p : Nat} {c : Int} (h : Cd e p c) : iv e p (tn e p c) = -iv e p c := by
  unfold iv; rw [ws_tn h, (tn_parts h).2.1, Int.neg_mul]
theorem flr_ok {e p : Nat} (h : Fm e p) (t b : Int) : ∀ (k : Nat) (lo hi : Int), lo < hi → (hi - lo).toNat < k → iv e p lo * b ≤ t * 2 ^ LL e p → (hi ≤ gt e p → t * 2 ^ LL e p < iv e p hi * b) →
    iv e p (flr e p t b k lo hi) * b ≤ t * 2 ^ LL e p ∧ (flr e p t b k lo hi + 1 ≤ gt e p → t * 2 ^ LL e p < iv e p (flr e p t b k lo hi + 1) * b)
  | 0, lo, hi, _, hk, _, _ => by omega
  | k + 1, lo, hi, h1, hk, h2, h3 => by
    unfold flr
    split
    · split
      · next q =>
        exact flr_ok h t b k ((lo + hi) / 2) hi (by omega) (by omega) ((le_iv h _ t b).mp q) h3
      · next q =>
        have q' : ¬ (iv e p ((lo + hi) / 2) * b ≤ t * 2 ^ LL e p) := fun z => q ((le_iv h _ t b).mpr z)
        exact flr_ok h t b k lo ((lo + hi) / 2) (by omega) (by omega) h2 (fun _ => by omega)
    · refine ⟨h2, fun z => ?_⟩
      have : lo + 1 = hi := by omega
      rw [this] at z ⊢
      exact h3 z
theorem low_parts {e p : Nat} (h : Fm e p) {c : Int} (h0 : 0 ≤ c) (h1 : c ≤ gt e p) : iv e p c = (if c / 2 ^ p = 0 then c % 2 ^ p else c % 2 ^ p + 2 ^ p) * 2 ^ (c / 2 ^ p - 1).toNat := by
  have hx := xn_gt h h0 h1
  have h3 := half_ge h; have h4 := pow_pos p
  have g : gt e p = 2 ^ (e + p) - 2 ^ p - 1 := rfl
  have s := (shift e p c h0 (by omega)).1
  unfold iv
  rw [ws_eq, if_neg (by omega), wh_eq, hx.1]
  rfl
theorem iv_0 {e p : Nat} (h : Fm e p) : iv e p 0 = 0 := by
  have gr := gt_rng h
  rw [low_parts h (Int.le_refl 0) (by omega)]
  simp
theorem iv_1 {e p : Nat} (h : Fm e p) : iv e p 1 = 1 := by
  have gr := gt_rng h
  have h2 := pow_le h.c
  have z : (1 : Int) / 2 ^ p = 0 := Int.ediv_eq_zero_of_lt (by omega) (by omega)
  have z' : (1 : Int) % 2 ^ p = 1 := Int.emod_eq_of_lt (by omega) (by omega)
  rw [low_parts h (by omega) (by omega), z, z', if_pos rfl]; rfl
theorem iv_up {e p : Nat} (h : Fm e p) {c : Int} (h0 : 0 ≤ c) (h1 : c + 1 ≤ gt e p) : iv e p c < iv e p (c + 1) := by
  have hp := pow_pos p
  rw [low_parts h h0 (by omega), low_parts h (by omega) h1]
  have hq := Int.emod_add_mul_ediv c (2 ^ p)
  have hr := Int.emod_nonneg c (show (2 : Int) ^ p ≠ 0 by omega)
  have hr' := Int.emod_lt_of_pos c hp
  have hq0 : 0 ≤ c / 2 ^ p := Int.ediv_nonneg h0 (by omega)
  generalize hQ : c / 2 ^ p = q at *
  generalize hR : c % 2 ^ p = r at *
  have hc : c + 1 = (r + 1) + q * 2 ^ p := by rw [Int.mul_comm q]; omega
  by_cases hl : r + 1 < 2 ^ p
  · have d1 : (c + 1) / 2 ^ p = q := by rw [hc, Int.add_mul_ediv_right _ _ (by omega), Int.ediv_eq_zero_of_lt (by omega) hl]; omega
    have d2 : (c + 1) % 2 ^ p = r + 1 := by rw [hc, Int.add_mul_emod_self_right]; exact Int.emod_eq_of_lt (by omega) hl
    rw [d1, d2]
    have := pow_pos (q - 1).toNat
    exact Int.mul_lt_mul_of_pos_right (by split <;> omega) this
  · have hl' : r + 1 = 2 ^ p := by omega
    have d1 : (c + 1) / 2 ^ p = q + 1 := by rw [hc, Int.add_mul_ediv_right _ _ (by omega), hl', Int.ediv_self (by omega)]; omega
    have d2 : (c + 1) % 2 ^ p = 0 := by rw [hc, Int.add_mul_emod_self_right, hl', Int.emod_self]
    rw [d1, d2, if_neg (show ¬ q + 1 = 0 by omega), Int.zero_add, Int.add_sub_cancel]
    split
    · next z => rw [z]; simp; omega
    · next z =>
      have k : q.toNat = (q - 1).toNat + 1 := by omega
      rw [k, Int.pow_succ, Int.mul_comm (2 ^ (q - 1).toNat) 2, ← Int.mul_assoc]
      have := pow_pos (q - 1).toNat
      exact Int.mul_lt_mul_of_pos_right (by omega) this
theorem iv_mono {e p : Nat} (h : Fm e p) {a : Int} (h0 : 0 ≤ a) : ∀ (k : Nat), a + k + 1 ≤ gt e p → iv e p a < iv e p (a + k + 1)
  | 0, h1 => by simpa using iv_up h h0 (by omega)
  | k + 1, h1 => by
    have i1 := iv_mono h h0 k (by omega)
    have i2 := iv_up h (c := a + k + 1) (by omega) (by omega)
    rw [show a + ((k + 1 : Nat) : Int) + 1 = a + k + 1 + 1 by omega]
    omega
theorem iv_lt {e p : Nat} (h : Fm e p) {a b : Int} (h0 : 0 ≤ a) (h1 : a < b) (h2 : b ≤ gt e p) : iv e p a < iv e p b := by
  have := iv_mono h h0 (b - a - 1).toNat (by omega)
  rw [show a + ((b - a - 1).toNat : Int) + 1 = b by omega] at this
  exact this
section
variable {F e p : Nat}
theorem fl_ok (hF : 2 ^ 900 ≤ F) (h : Fm e p) {t b : Int} (ht : 0 ≤ t) : iv e p (fl F e p t b) * b ≤ t * 2 ^ LL e p ∧ (fl F e p t b + 1 ≤ gt e p → t * 2 ^ LL e p < iv e p (fl F e p t b + 1) * b) := by
  have gr := gt_rng h
  have hFb := F_big F hF
  have := pow_pos (LL e p)
  refine flr_ok h t b F 0 (gt e p + 1) (by omega) (by omega) ?_ (fun z => by omega)
  rw [iv_0 h, Int.zero_mul]
  exact Int.mul_nonneg ht (by omega)
/-- a fraction that is a code's value -/
theorem fl_at (hF : 2 ^ 900 ≤ F) (h : Fm e p) {t b c : Int} (hb : 0 < b) (h0 : 0 ≤ c) (h1 : c ≤ gt e p) (hc : t * 2 ^ LL e p = iv e p c * b) (ht : 0 ≤ t) : fl F e p t b = c ∧ ju F e p t b = true := by
  have hr := fl_rng F h t b
  have ho := fl_ok hF h (b := b) ht
  rw [hc] at ho
  have o1 := Int.le_of_mul_le_mul_right ho.1 hb
  have e1 : fl F e p t b = c := by
    rcases Int.lt_trichotomy (fl F e p t b) c with z | z | z
    · have o2 := Int.lt_of_mul_lt_mul_right (ho.2 (by omega)) (by omega)
      by_cases q : fl F e p t b + 1 = c
      · rw [q] at o2; omega
      · have := iv_lt h (a := fl F e p t b + 1) (b := c) (by omega) (by omega) h1; omega
    · exact z
    · have := iv_lt h h0 z hr.2; omega
  refine ⟨e1, ?_⟩
  unfold ju
  rw [e1]
  exact decide_eq_true ((eq_iv h c t b).mpr hc.symm)
/-- a fraction of at least one step -/
theorem fl_one (hF : 2 ^ 900 ≤ F) (h : Fm e p) {t b : Int} (hb : 0 < b) (ht : 0 ≤ t) (h1 : b ≤ t * 2 ^ LL e p) : 1 ≤ fl F e p t b := by
  have hr := fl_rng F h t b
  have ho := fl_ok hF h (b := b) ht
  have gr := gt_rng h
  rcases Int.lt_or_le (fl F e p t b) 1 with z | z
  · have z0 : fl F e p t b = 0 := by omega
    have o2 := ho.2 (by omega)
    rw [z0, Int.zero_add, iv_1 h] at o2
    omega
  · exact z
end
end K61

set_option Elab.async false
set_option linter.all false
set_option maxRecDepth 100000
/-! M10: sums, products, quotients turned -/
namespace K61
open PySem PySem.Spec PyProof.Rows L2 Z
section
variable {F e p : Nat} {a b : Int} {w : Wd}
def tp (e p : Nat) (a b : Int) : Int := (vl e p a).1 * (vl e p b).2 + (vl e p b).1 * (vl e p a).2
def bt (e p : Nat) (a b : Int) : Int := (vl e p a).2 * (vl e p b).2
theorem bt_pos (h : Fm e p) (a b : Int) : 0 < bt e p a b := Int.mul_pos (vl_rng h a).2.2.1 (vl_rng h b).2.2.1
theorem ad_eq (F e p : Nat) (a b : Int) (w : Wd) : ad F e p a b w =
  if (kd e p a = .none ∨ kd e p b = .none) then nt e p
  else if (kd e p a = .endless ∨ kd e p b = .endless) then (if (kd e p a = kd e p b ∧ a ≠ b) then nt e p else if kd e p a = .endless then a else b)
  else if tp e p a b = 0 then sn e p (if sg e p a = sg e p b then sg e p a else sgd w)
  else rr F e p (red (tp e p a b) (bt e p a b)) w := by
  unfold ad tp bt
  simp only [Bool.cond_eq_ite, Bool.or_eq_true, decide_eq_true_eq, Bool.and_eq_true, Bool.not_eq_true', decide_eq_false_iff_not, ne_eq]
theorem tp_tn (ha : Cd e p a) (hb : Cd e p b) : tp e p (tn e p a) (tn e p b) = -tp e p a b := by
  unfold tp; rw [vl_tn ha, vl_tn hb]; simp only [Int.neg_mul]; omega
theorem bt_tn (ha : Cd e p a) (hb : Cd e p b) : bt e p (tn e p a) (tn e p b) = bt e p a b := by
  unfold bt; rw [vl_tn ha, vl_tn hb]
/-- a sum in steps -/
theorem tp_iv (h : Fm e p) : tp e p a b * 2 ^ LL e p = (iv e p a + iv e p b) * bt e p a b := by
  have h1 := vl_iv h a; have h2 := vl_iv h b
  unfold tp bt
  rw [Int.add_mul, Int.add_mul]
  have e1 : (vl e p a).1 * (vl e p b).2 * 2 ^ LL e p = iv e p a * ((vl e p a).2 * (vl e p b).2) := by
    rw [Int.mul_assoc, Int.mul_comm (vl e p b).2, ← Int.mul_assoc, h1, Int.mul_assoc]
  have e2 : (vl e p b).1 * (vl e p a).2 * 2 ^ LL e p = iv e p b * ((vl e p a).2 * (vl e p b).2) := by
    rw [Int.mul_assoc, Int.mul_comm (vl e p a).2, ← Int.mul_assoc, h2, Int.mul_assoc, Int.mul_comm (vl e p b).2]
  rw [e1, e2]
/-- the same of the reduced one -/
theorem red_iv (h : Fm e p) {t m i : Int} (hm : 0 < m) (hi : t * 2 ^ LL e p = i * m) : (red t m).1 * 2 ^ LL e p = i * (red t m).2 := by
  have h1 := red_cross (a := t) hm
  have : (red t m).1 * 2 ^ LL e p * m = i * (red t m).2 * m := by
    rw [Int.mul_assoc, Int.mul_comm (2 ^ LL e p), ← Int.mul_assoc, h1, Int.mul_assoc, Int.mul_comm (red t m).2, ← Int.mul_assoc, hi, Int.mul_assoc, Int.mul_comm m, ← Int.mul_assoc]
  exact Int.eq_of_mul_eq_mul_right (by omega) this
theorem abs_mul_pos {x k : Int} (hk : 0 ≤ k) : ((x * k).natAbs : Int) = (x.natAbs : Int) * k := by
  rw [Int.natAbs_mul]
  have : ((k.natAbs : Nat) : Int) = k := by omega
  rw [Int.natCast_mul, this]
theorem abs_iv (h : Fm e p) {t m i : Int} (hm : 0 < m) (hi : t * 2 ^ LL e p = i * m) : ((red t m).1.natAbs : Int) * 2 ^ LL e p = (i.natAbs : Int) * (red t m).2 := by
  have h1 := red_iv h hm hi
  have h2 := (red_rng (a := t) hm).2.1
  have := pow_pos (LL e p)
  rw [← abs_mul_pos (by omega), h1, abs_mul_pos (by omega)]
/-- what is not 0 is not rounded to 0 -/
theorem rr_ne0 (hF : 2 ^ 900 ≤ F) (h : Fm e p) {t m i : Int} (hm : 0 < m) (hi : t * 2 ^ LL e p = i * m) (ht : t ≠ 0) : kd e p (rr F e p (red t m) w) ≠ .nought := by
  have h0 := red_ne hm ht
  have h1 := abs_iv h hm hi
  have h2 := (red_rng (a := t) hm).2.1
  have hp := pow_pos (LL e p)
  have i0 : i ≠ 0 := by
    intro z; rw [z, Int.zero_mul] at hi
    exact Int.mul_ne_zero ht (by omega) hi
  have h3 : (red t m).2 ≤ ((red t m).1.natAbs : Int) * 2 ^ LL e p := by
    rw [h1]
    have : 1 * (red t m).2 ≤ (i.natAbs : Int) * (red t m).2 := Int.mul_le_mul_of_nonneg_right (by omega) (by omega)
    omega
  have h4 := fl_one hF h h2 (by omega) h3
  have h5 := half_ge h; have h6 := pow_pos p
  have g : gt e p = 2 ^ (e + p) - 2 ^ p - 1 := rfl
  obtain ⟨y, q1, q2, q3⟩ := rnd_form (F := F) (s := sgn (red t m).1) (t := (red t m).1.natAbs) (b := (red t m).2) (w := w) h
  have h7 := sgn_rng (red t m).1
  unfold rr
  rw [q1, (kd_sg h7.1 h7.2 (by omega) (by omega)).1]
  intro z
  have := (kd_le h (by omega) q3).2.1 z
  omega
/-- where a turned sum is the sum itself -/
def bare (F e p : Nat) (a b : Int) (w : Wd) : Bool := decide (kd e p (ad F e p a b w) = .nought) && (!decide (sg e p a = sg e p b) && (decide (.even = w) || decide (.zero = w)))
theorem sgd_mir (hw : IsWay w) (h : ¬(w = .even ∨ w = .zero)) : sgd (mir w) = 1 - sgd w := by
  rcases hw with rfl | rfl | rfl | rfl
  · exact absurd (.inl rfl) h
  · exact absurd (.inr rfl) h
  · rfl
  · rfl
theorem sgd_ez (h : w = .even ∨ w = .zero) : sgd (mir w) = sgd w := by
  rcases h with rfl | rfl <;> rfl
theorem ad_tn (hF : 2 ^ 900 ≤ F) (h : Fm e p) (ha : Cd e p a) (hb : Cd e p b) (hw : IsWay w) : ad F e p (tn e p a) (tn e p b) (mir w) = bif bare F e p a b w then ad F e p a b w else ltn e p (ad F e p a b w) := by
  have g1 := sg_rng ha; have g2 := sg_rng hb; have g3 := sgd_rng w
  have inj : tn e p a = tn e p b ↔ a = b := ⟨fun z => by rw [← tn_tn ha, z, tn_tn hb], fun z => by rw [z]⟩
  have lhs := ad_eq F e p (tn e p a) (tn e p b) (mir w)
  rw [kd_tn ha, kd_tn hb, tp_tn ha hb, bt_tn ha hb, (tn_parts ha).1, (tn_parts hb).1] at lhs
  have rhs := ad_eq F e p a b w
  by_cases c1 : kd e p a = .none ∨ kd e p b = .none
  · rw [if_pos c1] at lhs rhs
    have : bare F e p a b w = false := by unfold bare; rw [rhs, kd_nt h]; rfl
    rw [lhs, rhs, this, cond_false, ltn_nt h]
  · rw [if_neg c1] at lhs rhs
    have k1 : kd e p a ≠ .none := fun z => c1 (.inl z)
    have k2 : kd e p b ≠ .none := fun z => c1 (.inr z)
    by_cases c2 : kd e p a = .endless ∨ kd e p b = .endless
    · rw [if_pos c2] at lhs rhs
      by_cases c3 : kd e p a = kd e p b ∧ a ≠ b
      · rw [if_pos c3] at rhs
        rw [if_pos ⟨c3.1, fun z => c3.2 (inj.mp z)⟩] at lhs
        have : bare F e p a b w = false := by unfold bare; rw [rhs, kd_nt h]; rfl
        rw [lhs, rhs, this, cond_false, ltn_nt h]
      · rw [if_neg c3] at rhs
        rw [if_neg (fun z => c3 ⟨z.1, fun q => z.2 (inj.mpr q)⟩)] at lhs
        by_cases c4 : kd e p a = .endless
        · rw [if_pos c4] at lhs rhs
          have : bare F e p a b w = false := by unfold bare; rw [rhs, c4]; rfl
          rw [lhs, rhs, this, cond_false, ltn_of k1]
        · rw [if_neg c4] at lhs rhs
          have c5 : kd e p b = .endless := by rcases c2 with z | z; exact absurd z c4; exact z
          have : bare F e p a b w = false := by unfold bare; rw [rhs, c5]; rfl
          rw [lhs, rhs, this, cond_false, ltn_of k2]
    · rw [if_neg c2] at lhs rhs
      by_cases c3 : tp e p a b = 0
      · rw [if_pos c3] at rhs
        rw [if_pos (by omega)] at lhs
        by_cases c4 : sg e p a = sg e p b
        · rw [if_pos c4] at rhs
          rw [if_pos (by omega)] at lhs
          have : bare F e p a b w = false := by unfold bare; rw [decide_eq_true c4]; simp
          rw [lhs, rhs, this, cond_false, ltn_of (by rw [kd_sn h g1.1 g1.2]; decide), tn_sn g1.1 g1.2]
        · rw [if_neg c4] at rhs
          rw [if_neg (by omega)] at lhs
          by_cases c5 : w = .even ∨ w = .zero
          · have : bare F e p a b w = true := by
              unfold bare; rw [rhs, kd_sn h g3.1 g3.2, decide_eq_false c4]
              rcases c5 with rfl | rfl <;> rfl
            rw [lhs, rhs, this, cond_true, sgd_ez c5]
          · have : bare F e p a b w = false := by
              unfold bare
              rw [decide_eq_false (show ¬ Wd.even = w from fun z => c5 (.inl z.symm)), decide_eq_false (show ¬ Wd.zero = w from fun z => c5 (.inr z.symm))]; simp
            rw [lhs, rhs, this, cond_false, ltn_of (by rw [kd_sn h g3.1 g3.2]; decide), tn_sn g3.1 g3.2, sgd_mir hw c5]
      · rw [if_neg c3] at rhs
        rw [if_neg (by omega)] at lhs
        have nn := rr_ne0 (w := w) hF h (bt_pos h a b) (tp_iv h) c3
        have : bare F e p a b w = false := by unfold bare; rw [rhs, decide_eq_false nn]; rfl
        rw [lhs, rhs, this, cond_false, ltn_of (rr_kd h), red_neg (bt_pos h a b)]
        exact rr_tn h hw (red_ne (bt_pos h a b) c3)
theorem ad_comm (F e p : Nat) (a b : Int) (w : Wd) : ad F e p b a w = ad F e p a b w := by
  rw [ad_eq, ad_eq]
  have t1 : tp e p b a = tp e p a b := by unfold tp; omega
  have t2 : bt e p b a = bt e p a b := by unfold bt; rw [Int.mul_comm]
  rw [t1, t2]
  by_cases c1 : kd e p a = .none ∨ kd e p b = .none
  · rw [if_pos c1, if_pos c1.symm]
  · rw [if_neg c1, if_neg (fun z => c1 z.symm)]
    by_cases c2 : kd e p a = .endless ∨ kd e p b = .endless
    · rw [if_pos c2, if_pos c2.symm]
      by_cases c3 : kd e p a = kd e p b ∧ a ≠ b
      · rw [if_pos c3, if_pos ⟨c3.1.symm, c3.2.symm⟩]
      · rw [if_neg c3, if_neg (fun z => c3 ⟨z.1.symm, z.2.symm⟩)]
        by_cases c4 : kd e p a = .endless
        · rw [if_pos c4]
          by_cases c5 : kd e p b = .endless
          · rw [if_pos c5]
            exact Classical.byContradiction fun z => c3 ⟨c4.trans c5.symm, fun q => z q.symm⟩
          · rw [if_neg c5]
        · rw [if_neg c4]
          rcases c2 with z | z
          · exact absurd z c4
          · rw [if_pos z]
    · rw [if_neg c2, if_neg (fun z => c2 z.symm)]
      by_cases c3 : tp e p a b = 0
      · rw [if_pos c3, if_pos c3]
        by_cases c4 : sg e p a = sg e p b
        · rw [if_pos c4, if_pos c4.symm, c4]
        · rw [if_neg c4, if_neg (fun z => c4 z.symm)]
      · rw [if_neg c3, if_neg c3]
/-- a code: its sign and what is left -/
theorem cd_form (hc : Cd e p a) : ∃ x, a = sg e p a * 2 ^ (e + p) + x ∧ 0 ≤ x ∧ x < 2 ^ (e + p) := by
  have hp := pow_pos (e + p)
  refine ⟨a % 2 ^ (e + p), ?_, Int.emod_nonneg _ (by omega), Int.emod_lt_of_pos _ hp⟩
  have := Int.emod_add_mul_ediv a (2 ^ (e + p))
  unfold sg
  rw [Int.mul_comm]; omega
theorem fin_low (h : Fm e p) {x : Int} (h0 : 0 ≤ x) (hx : x < 2 ^ (e + p)) (k1 : kd e p x ≠ .none) (k2 : kd e p x ≠ .endless) : x ≤ gt e p := by
  rcases Int.lt_or_le (gt e p) x with z | z
  · exfalso
    have hp := pow_pos p; have he := pow_pos e; have hh := hi_eq e p; have he4 := pow_le h.a
    have g : gt e p = 2 ^ (e + p) - 2 ^ p - 1 := rfl
    have q1 : 2 ^ e - 1 ≤ x / 2 ^ p := by
      rw [Int.le_ediv_iff_mul_le hp, Int.sub_mul, ← hh]; omega
    have q2 : x / 2 ^ p < 2 ^ e := by rw [Int.ediv_lt_iff_lt_mul hp, ← hh]; exact hx
    have q3 : xn e p x = 2 ^ e - 1 := by unfold xn; rw [Int.emod_eq_of_lt (by omega) (by omega)]; omega
    unfold kd at k1 k2
    rw [if_pos q3] at k1 k2
    by_cases q4 : pl p x = 0
    · rw [if_pos q4] at k2; exact k2 rfl
    · rw [if_neg q4] at k1; exact k1 rfl
  · exact z
theorem iv_sign (h : Fm e p) {s x : Int} (h0 : 0 ≤ s) (h1 : s ≤ 1) (hx : 0 ≤ x) (hx' : x < 2 ^ (e + p)) : iv e p (s * 2 ^ (e + p) + x) = (if s = 1 then -iv e p x else iv e p x) := by
  have k := kd_sg (e := e) (p := p) h0 h1 hx hx'
  have s0 := (shift e p x hx hx').1
  have hwh : wh e p (s * 2 ^ (e + p) + x) = wh e p x := by unfold wh; rw [k.2.2.1, k.2.2.2]
  have hx1 : ws e p x = wh e p x := by rw [ws_eq, if_neg (by omega)]
  unfold iv
  rw [k.2.2.1, ws_eq, k.2.1, hwh, hx1]
  split
  · rw [Int.zero_sub, Int.neg_mul]
  · rfl
theorem ad_0 (hF : 2 ^ 900 ≤ F) (h : Fm e p) (ha : Cd e p a) (hw : IsWay w) (k1 : kd e p a ≠ .none) (k2 : kd e p a ≠ .nought) : ad F e p a 0 w = a := by
  have k0 := kd_0 h
  rw [ad_eq, k0, if_neg (by rintro (z | z); exact k1 z; cases z)]
  by_cases c : kd e p a = .endless
  · rw [if_pos (.inl c), if_neg (by rw [c]; rintro ⟨z, _⟩; cases z), if_pos c]
  · rw [if_neg (by rintro (z | z); exact c z; cases z)]
    have t := tp_iv (a := a) (b := 0) h
    rw [iv_0 h, Int.add_zero] at t
    have bp := bt_pos h a 0
    have hp := pow_pos (LL e p)
    obtain ⟨x, q1, q2, q3⟩ := cd_form ha
    have g1 := sg_rng ha
    have kx := (kd_sg g1.1 g1.2 q2 q3).1
    rw [← q1] at kx
    have q4 := fin_low h q2 q3 (by rw [← kx]; exact k1) (by rw [← kx]; exact c)
    have hx0 : 0 < x := by
      rcases Int.lt_or_le 0 x with z | z
      · exact z
      · have : x = 0 := by omega
        rw [this, kd_0 h] at kx; exact absurd kx k2
    have ip : 0 < iv e p x := by have := iv_lt h (Int.le_refl 0) hx0 q4; rw [iv_0 h] at this; exact this
    have is := iv_sign h g1.1 g1.2 q2 q3
    rw [← q1] at is
    have ia : iv e p a ≠ 0 := by rw [is]; split <;> omega
    have t0 : tp e p a 0 ≠ 0 := by
      intro z; rw [z, Int.zero_mul] at t
      exact Int.mul_ne_zero ia (by omega) t.symm
    rw [if_neg t0]
    have r1 := red_iv h bp t
    have r2 := abs_iv h bp t
    have r3 := (red_rng (a := tp e p a 0) bp).2.1
    have ab : ((iv e p a).natAbs : Int) = iv e p x := by rw [is]; split <;> omega
    rw [ab] at r2
    have f := fl_at hF h r3 q2 q4 r2 (by omega)
    have sg1 : sgn (red (tp e p a 0) (bt e p a 0)).1 = sg e p a := by
      have k : sg e p a = 0 ∨ sg e p a = 1 := by omega
      rcases k with k | k
      · rw [if_neg (by omega)] at is
        have : 0 < (red (tp e p a 0) (bt e p a 0)).1 * 2 ^ LL e p := by rw [r1, is]; exact Int.mul_pos ip r3
        have : ¬ (red (tp e p a 0) (bt e p a 0)).1 < 0 := fun z => by
          have := Int.mul_neg_of_neg_of_pos z hp; omega
        unfold sgn; rw [decide_eq_false this, k]; rfl
      · rw [if_pos k] at is
        have : (red (tp e p a 0) (bt e p a 0)).1 * 2 ^ LL e p < 0 := by rw [r1, is]; exact Int.mul_neg_of_neg_of_pos (by omega) r3
        have : (red (tp e p a 0) (bt e p a 0)).1 < 0 := by
          rcases Int.lt_or_le (red (tp e p a 0) (bt e p a 0)).1 0 with z | z
          · exact z
          · have := Int.mul_nonneg z (show (0 : Int) ≤ 2 ^ LL e p by omega); omega
        unfold sgn; rw [decide_eq_true this, k]; rfl
    unfold rr rnd
    rw [f.2, cond_true, f.1, sg1]
    exact q1.symm
end
end K61

set_option Elab.async false
set_option linter.all false
set_option maxRecDepth 100000
/-! M11: products, quotients, order, sums of many: turned -/
namespace K61
open PySem PySem.Spec PyProof.Rows L2 Z
section
variable {F e p : Nat} {a b : Int} {w : Wd}
theorem mu_eq (F e p : Nat) (a b : Int) (w : Wd) : mu F e p a b w =
  if (kd e p a = .none ∨ kd e p b = .none) then nt e p
  else if ((kd e p a = .endless ∨ kd e p b = .endless) ∧ (kd e p a = .nought ∨ kd e p b = .nought)) then nt e p
  else if (kd e p a = .endless ∨ kd e p b = .endless) then en e p (sx e p a b)
  else if (kd e p a = .nought ∨ kd e p b = .nought) then sn e p (sx e p a b)
  else rr F e p (red ((vl e p a).1 * (vl e p b).1) (bt e p a b)) w := by
  unfold mu bt
  simp only [Bool.cond_eq_ite, Bool.or_eq_true, decide_eq_true_eq, Bool.and_eq_true]
theorem dv_eq (F e p : Nat) (a b : Int) (w : Wd) : dv F e p a b w =
  if (kd e p a = .none ∨ kd e p b = .none) then nt e p
  else if ((kd e p a = .endless ∧ kd e p b = .endless) ∨ (kd e p a = .nought ∧ kd e p b = .nought)) then nt e p
  else if (kd e p a = .endless ∨ kd e p b = .nought) then en e p (sx e p a b)
  else if (kd e p b = .endless ∨ kd e p a = .nought) then sn e p (sx e p a b)
  else rr F e p (if (vl e p a).2 * (vl e p b).1 < 0 then red (0 - (vl e p a).1 * (vl e p b).2) (0 - (vl e p a).2 * (vl e p b).1) else red ((vl e p a).1 * (vl e p b).2) ((vl e p a).2 * (vl e p b).1)) w := by
  unfold dv
  simp only [Bool.cond_eq_ite, Bool.or_eq_true, decide_eq_true_eq, Bool.and_eq_true, eq_comm (a := Wd.endless), eq_comm (a := Wd.nought)]
theorem sx_tn2 (ha : Cd e p a) (hb : Cd e p b) : sx e p (tn e p a) (tn e p b) = sx e p a b := by
  rw [sx_eq (tn_cd ha) (tn_cd hb), sx_eq ha hb, (tn_parts ha).1, (tn_parts hb).1]
  split <;> split <;> omega
theorem sx_tn1 (ha : Cd e p a) (hb : Cd e p b) : sx e p (tn e p a) b = 1 - sx e p a b := by
  have := sg_rng ha; have := sg_rng hb
  rw [sx_eq (tn_cd ha) hb, sx_eq ha hb, (tn_parts ha).1]
  split <;> split <;> omega
theorem sx_comm (ha : Cd e p a) (hb : Cd e p b) : sx e p b a = sx e p a b := by
  rw [sx_eq hb ha, sx_eq ha hb]
  split <;> split <;> omega
theorem mu_tn2 (F : Nat) (w : Wd) (ha : Cd e p a) (hb : Cd e p b) : mu F e p (tn e p a) (tn e p b) w = mu F e p a b w := by
  rw [mu_eq, mu_eq, kd_tn ha, kd_tn hb, sx_tn2 ha hb, bt_tn ha hb, vl_tn ha, vl_tn hb]
  simp only [Int.neg_mul_neg]
theorem mu_comm (F : Nat) (w : Wd) (ha : Cd e p a) (hb : Cd e p b) : mu F e p b a w = mu F e p a b w := by
  have t2 : bt e p b a = bt e p a b := by unfold bt; rw [Int.mul_comm]
  rw [mu_eq, mu_eq, sx_comm ha hb, t2, Int.mul_comm (vl e p b).1]
  simp only [or_comm (a := kd e p b = _)]
theorem mu_tn1 (h : Fm e p) (ha : Cd e p a) (hb : Cd e p b) (hw : IsWay w) : mu F e p (tn e p a) b (mir w) = ltn e p (mu F e p a b w) := by
  have g := sx_rng ha hb
  have lhs := mu_eq F e p (tn e p a) b (mir w)
  rw [kd_tn ha, sx_tn1 ha hb, vl_tn ha, show bt e p (tn e p a) b = bt e p a b by unfold bt; rw [vl_tn ha]] at lhs
  have rhs := mu_eq F e p a b w
  by_cases c1 : kd e p a = .none ∨ kd e p b = .none
  · rw [if_pos c1] at lhs rhs
    rw [lhs, rhs, ltn_nt h]
  · rw [if_neg c1] at lhs rhs
    by_cases c2 : (kd e p a = .endless ∨ kd e p b = .endless) ∧ (kd e p a = .nought ∨ kd e p b = .nought)
    · rw [if_pos c2] at lhs rhs
      rw [lhs, rhs, ltn_nt h]
    · rw [if_neg c2] at lhs rhs
      by_cases c3 : kd e p a = .endless ∨ kd e p b = .endless
      · rw [if_pos c3] at lhs rhs
        rw [lhs, rhs, ltn_of (by rw [kd_en h g.1 g.2]; decide), tn_en h g.1 g.2]
      · rw [if_neg c3] at lhs rhs
        by_cases c4 : kd e p a = .nought ∨ kd e p b = .nought
        · rw [if_pos c4] at lhs rhs
          rw [lhs, rhs, ltn_of (by rw [kd_sn h g.1 g.2]; decide), tn_sn g.1 g.2]
        · rw [if_neg c4] at lhs rhs
          have n1 := vl_ne (fun z => c4 (.inl z)) (fun z => c3 (.inl z))
          have n2 := vl_ne (fun z => c4 (.inr z)) (fun z => c3 (.inr z))
          rw [lhs, rhs, ltn_of (rr_kd h)]
          simp only [Int.neg_mul]
          rw [red_neg (bt_pos h a b)]
          exact rr_tn h hw (red_ne (bt_pos h a b) (Int.mul_ne_zero n1 n2))
theorem dv_tn2 (F : Nat) (w : Wd) (h : Fm e p) (ha : Cd e p a) (hb : Cd e p b) : dv F e p (tn e p a) (tn e p b) w = dv F e p a b w := by
  rw [dv_eq, dv_eq, kd_tn ha, kd_tn hb, sx_tn2 ha hb, vl_tn ha, vl_tn hb]
  simp only [Int.mul_neg, Int.neg_mul]
  by_cases c3 : kd e p a = .endless ∨ kd e p b = .nought
  · rw [if_pos c3, if_pos c3]
  · rw [if_neg c3, if_neg c3]
    by_cases c4 : kd e p b = .endless ∨ kd e p a = .nought
    · rw [if_pos c4, if_pos c4]
    · rw [if_neg c4, if_neg c4]
      have n2 := vl_ne (fun z => c3 (.inr z)) (fun z => c4 (.inl z))
      have m : (vl e p a).2 * (vl e p b).1 ≠ 0 := Int.mul_ne_zero (by have := (vl_rng h a).2.2.1; omega) n2
      have e1 : (if -((vl e p a).2 * (vl e p b).1) < 0 then red (0 - -((vl e p a).1 * (vl e p b).2)) (0 - -((vl e p a).2 * (vl e p b).1)) else red (-((vl e p a).1 * (vl e p b).2)) (-((vl e p a).2 * (vl e p b).1)))
          = (if (vl e p a).2 * (vl e p b).1 < 0 then red (0 - (vl e p a).1 * (vl e p b).2) (0 - (vl e p a).2 * (vl e p b).1) else red ((vl e p a).1 * (vl e p b).2) ((vl e p a).2 * (vl e p b).1)) := by
        by_cases q : (vl e p a).2 * (vl e p b).1 < 0
        · rw [if_pos q, if_neg (by omega), Int.zero_sub, Int.zero_sub]
        · rw [if_neg q, if_pos (by omega), Int.zero_sub, Int.zero_sub, Int.neg_neg, Int.neg_neg]
      rw [e1]
/-- the quotient's fraction -/
theorem dv_q (h : Fm e p) (c3 : ¬(kd e p a = .endless ∨ kd e p b = .nought)) (c4 : ¬(kd e p b = .endless ∨ kd e p a = .nought)) (t : Int) (ht : t ≠ 0) (m : Int) (hm : m ≠ 0) : (if m < 0 then red (0 - -t) (0 - m) else red (-t) m) = (-(if m < 0 then red (0 - t) (0 - m) else red t m).1, (if m < 0 then red (0 - t) (0 - m) else red t m).2) ∧ (if m < 0 then red (0 - t) (0 - m) else red t m).1 ≠ 0 := by
  by_cases q : m < 0
  · rw [if_pos q, if_pos q]
    have := red_neg (a := 0 - t) (b := 0 - m) (by omega)
    rw [show -(0 - t) = 0 - -t by omega] at this
    exact ⟨this, red_ne (by omega) (by omega)⟩
  · rw [if_neg q, if_neg q]
    exact ⟨red_neg (by omega), red_ne (by omega) ht⟩
theorem dv_tn1 (h : Fm e p) (ha : Cd e p a) (hb : Cd e p b) (hw : IsWay w) : dv F e p (tn e p a) b (mir w) = ltn e p (dv F e p a b w) := by
  have g := sx_rng ha hb
  have lhs := dv_eq F e p (tn e p a) b (mir w)
  rw [kd_tn ha, sx_tn1 ha hb, vl_tn ha] at lhs
  have rhs := dv_eq F e p a b w
  by_cases c1 : kd e p a = .none ∨ kd e p b = .none
  · rw [if_pos c1] at lhs rhs
    rw [lhs, rhs, ltn_nt h]
  · rw [if_neg c1] at lhs rhs
    by_cases c2 : (kd e p a = .endless ∧ kd e p b = .endless) ∨ (kd e p a = .nought ∧ kd e p b = .nought)
    · rw [if_pos c2] at lhs rhs
      rw [lhs, rhs, ltn_nt h]
    · rw [if_neg c2] at lhs rhs
      by_cases c3 : kd e p a = .endless ∨ kd e p b = .nought
      · rw [if_pos c3] at lhs rhs
        rw [lhs, rhs, ltn_of (by rw [kd_en h g.1 g.2]; decide), tn_en h g.1 g.2]
      · rw [if_neg c3] at lhs rhs
        by_cases c4 : kd e p b = .endless ∨ kd e p a = .nought
        · rw [if_pos c4] at lhs rhs
          rw [lhs, rhs, ltn_of (by rw [kd_sn h g.1 g.2]; decide), tn_sn g.1 g.2]
        · rw [if_neg c4] at lhs rhs
          have n1 := vl_ne (fun z => c4 (.inr z)) (fun z => c3 (.inl z))
          have n2 := vl_ne (fun z => c3 (.inr z)) (fun z => c4 (.inl z))
          have m : (vl e p a).2 * (vl e p b).1 ≠ 0 := Int.mul_ne_zero (by have := (vl_rng h a).2.2.1; omega) n2
          have q := dv_q h c3 c4 ((vl e p a).1 * (vl e p b).2) (Int.mul_ne_zero n1 (by have := (vl_rng h b).2.2.1; omega)) _ m
          simp only [Int.neg_mul] at lhs
          rw [lhs, rhs, ltn_of (rr_kd h), q.1]
          exact rr_tn h hw q.2
theorem dv_tn1' (h : Fm e p) (ha : Cd e p a) (hb : Cd e p b) (hw : IsWay w) : dv F e p a (tn e p b) (mir w) = ltn e p (dv F e p a b w) := by
  have := dv_tn1 (F := F) (a := tn e p a) (b := tn e p b) h (tn_cd ha) (tn_cd hb) hw
  rw [tn_tn ha, dv_tn2 F w h ha hb] at this
  exact this
theorem mu_tn1' (h : Fm e p) (ha : Cd e p a) (hb : Cd e p b) (hw : IsWay w) : mu F e p a (tn e p b) (mir w) = ltn e p (mu F e p a b w) := by
  have := mu_tn1 (F := F) (a := tn e p a) (b := tn e p b) h (tn_cd ha) (tn_cd hb) hw
  rw [tn_tn ha, mu_tn2 F w ha hb] at this
  exact this
/-! order -/
theorem po_eq (e p : Nat) (c : Int) : po e p c = if 2 ^ (e + p) ≤ c then 2 ^ (e + p) - c else c := by
  unfold po; rw [Bool.cond_eq_ite]; simp only [decide_eq_true_eq]
theorem po_tn (hc : Cd e p a) : po e p (tn e p a) = -po e p a := by
  have h5 := size_eq e p; have h1 := hc.a; have h2 := hc.b
  rw [po_eq, po_eq, tn_eq]
  split <;> split <;> omega
theorem ls_eq (e p : Nat) (a b : Int) : ls e p a b = if kd e p a = .none ∨ kd e p b = .none then false else decide (po e p a < po e p b) := by
  unfold ls; rw [Bool.cond_eq_ite]; simp only [Bool.or_eq_true, decide_eq_true_eq]
theorem ls_tn (ha : Cd e p a) (hb : Cd e p b) : ls e p (tn e p b) (tn e p a) = ls e p a b := by
  rw [ls_eq, ls_eq, kd_tn ha, kd_tn hb, po_tn ha, po_tn hb]
  by_cases c : kd e p a = .none ∨ kd e p b = .none
  · rw [if_pos c, if_pos c.symm]
  · rw [if_neg c, if_neg (fun z => c z.symm)]
    exact decide_eq_decide.mpr (by omega)
theorem ls_anti : (ls e p a b && ls e p b a) = false := by
  rw [ls_eq, ls_eq]
  split
  · rfl
  · split
    · simp
    · rw [← Bool.decide_and]; exact decide_eq_false (by omega)
theorem nu_eq (e p : Nat) (c : Int) : nu e p c = if kd e p c = .none ∨ c = en e p 0 then none else some (if 0 = c ∨ 2 ^ (e + p) = c then 1 else if 2 ^ (e + p) < c then c - 1 else c + 1) := by
  unfold nu; simp only [Bool.cond_eq_ite, Bool.or_eq_true, decide_eq_true_eq]
/-- the next code, from a code that is not nought -/
theorem nu_some (h : Fm e p) (ha : Cd e p a) {c : Int} (hn : nu e p a = some c) (k : kd e p a ≠ .nought) : Cd e p c ∧ ls e p a c = true ∧ (kd e p c ≠ .nought → nu e p (tn e p c) = some (tn e p a)) := by
  have h5 := size_eq e p; have h3 := half_ge h; have h4 := pow_pos p
  have g : gt e p = 2 ^ (e + p) - 2 ^ p - 1 := rfl
  have gr := gt_rng h
  have k0 := kd_0 h
  obtain ⟨x, q1, q2, q3⟩ := cd_form ha
  have g1 := sg_rng ha
  have kx := kd_sg g1.1 g1.2 q2 q3
  rw [← q1] at kx
  rw [nu_eq] at hn
  split at hn
  · cases hn
  · next c1 =>
    have c2 : kd e p a ≠ .none := fun z => c1 (.inl z)
    have c3 : a ≠ en e p 0 := fun z => c1 (.inr z)
    rw [en_form] at c3
    have xk : x ≤ gt e p + 1 := by
      by_cases z : kd e p x = .endless
      · have hp := pow_pos p; have he := pow_pos e; have hh := hi_eq e p; have he4 := pow_le h.a
        rcases Int.lt_or_le (gt e p + 1) x with y | y
        · exfalso
          have q5 : 2 ^ e - 1 ≤ x / 2 ^ p := by rw [Int.le_ediv_iff_mul_le hp, Int.sub_mul, ← hh]; omega
          have q6 : x / 2 ^ p < 2 ^ e := by rw [Int.ediv_lt_iff_lt_mul hp, ← hh]; exact q3
          have q7 := Int.emod_add_mul_ediv x (2 ^ p)
          have q8 : x / 2 ^ p = 2 ^ e - 1 := by omega
          have q9 : pl p x = 0 := by
            unfold kd at z
            split at z
            · next u =>
              split at z
              · next v => exact v
              · cases z
            · split at z
              · split at z <;> cases z
              · cases z
          unfold pl at q9
          rw [q9, q8, Int.mul_sub, Int.mul_comm, ← hh] at q7
          omega
        · exact y
      · have := fin_low h q2 q3 (by rw [← kx.1]; exact c2) z; omega
    have x0 : x ≠ 0 := fun z => by rw [z] at kx; exact k (kx.1.trans k0)
    have sgk : sg e p a = 0 ∨ sg e p a = 1 := by omega
    rcases sgk with s | s
    · -- up from a number above 0
      rw [s] at q1
      have hx : x ≤ gt e p := by omega
      rw [if_neg (by rintro (z | z) <;> omega), if_neg (by omega)] at hn
      cases hn
      have cc : Cd e p (a + 1) := ⟨by omega, by omega⟩
      have kc := kd_le h (x := a + 1) (by omega) (by omega)
      refine ⟨cc, ?_, fun _ => ?_⟩
      · rw [ls_eq, if_neg (by rintro (z | z); exact c2 z; exact kc.1 z), po_eq, po_eq, if_neg (by omega), if_neg (by omega)]
        exact decide_eq_true (by omega)
      · rw [nu_eq, kd_tn cc, en_form]
        have t1 : tn e p (a + 1) = a + 1 + 2 ^ (e + p) := by rw [tn_eq, if_neg (by omega)]
        have t2 : tn e p a = a + 2 ^ (e + p) := by rw [tn_eq, if_neg (by omega)]
        rw [t1, t2, if_neg (by rintro (z | z); exact kc.1 z; omega), if_neg (by rintro (z | z) <;> omega), if_pos (by omega)]
        congr 1; omega
    · -- up from a number below 0
      rw [s] at q1
      rw [if_neg (by rintro (z | z) <;> omega), if_pos (by omega)] at hn
      cases hn
      have cc : Cd e p (a - 1) := ⟨by omega, by omega⟩
      have ka : a - 1 = 1 * 2 ^ (e + p) + (x - 1) := by omega
      have kq := kd_sg (e := e) (p := p) (s := 1) (x := x - 1) (by omega) (by omega) (by omega) (by omega)
      rw [← ka] at kq
      have kc := kd_le h (x := x - 1) (by omega) (by omega)
      have tt : tn e p (a - 1) = x - 1 := by rw [tn_eq, if_pos (by omega)]; omega
      have t2 : tn e p a = x := by rw [tn_eq, if_pos (by omega)]; omega
      refine ⟨cc, ?_, fun hv => ?_⟩
      · rw [ls_eq, if_neg (by rintro (z | z); exact c2 z; rw [kq.1] at z; exact kc.1 z), po_eq, po_eq, if_pos (by omega), if_pos (by omega)]
        exact decide_eq_true (by omega)
      · have x1 : x - 1 ≠ 0 := by
          intro z
          apply hv
          rw [kq.1, z, k0]
        rw [nu_eq, tt, t2, en_form, if_neg (by rintro (z | z); exact kc.1 z; omega), if_neg (by rintro (z | z) <;> omega), if_neg (by omega)]
        congr 1; omega
/-! sums of many -/
theorem sm_tn (h : Fm e p) : ∀ (cs : List Int) (n1 n2 : Int) (ex : Option (Int × Int)), (∀ c ∈ cs, Cd e p c) → (∀ x, ex = some x → 0 < x.2) →
    (sm F e p (cs.map (tn e p)) n1 (ex.map fun x => (-x.1, x.2))).2 = (sm F e p cs n2 ex).2.map fun x => (-x.1, x.2)
  | [], _, _, _, _, _ => rfl
  | c :: cs, n1, n2, ex, hc, hx => by
    have c1 := hc c List.mem_cons_self
    have v := vl_rng h c
    rw [List.map_cons]
    unfold sm
    rw [fin_tn c1, vl_tn c1]
    cases hf : fin' e p c
    · rw [cond_false, cond_false]
      exact sm_tn h cs _ _ none (fun x hx => hc x (List.mem_cons_of_mem _ hx)) (fun x z => by cases z)
    · rw [cond_true, cond_true]
      cases ex with
      | none => exact sm_tn h cs _ _ none (fun x hx => hc x (List.mem_cons_of_mem _ hx)) (fun x z => by cases z)
      | some x =>
        have x2 := hx x rfl
        have m1 : 0 < x.2 * (vl e p c).2 := Int.mul_pos x2 v.2.2.1
        have := sm_tn h cs (ad F e p n1 (tn e p c) .even) (ad F e p n2 c .even) (some (red (x.1 * (vl e p c).2 + (vl e p c).1 * x.2) (x.2 * (vl e p c).2))) (fun x hx => hc x (List.mem_cons_of_mem _ hx)) (fun y z => by cases z; exact (red_rng m1).2.1)
        simp only [Option.map_some] at this ⊢
        rw [← this, ← red_neg m1]
        simp only [Int.neg_mul]
        rw [Int.neg_add]
end
end K61

set_option Elab.async false
set_option linter.all false
set_option maxRecDepth 100000
/-! M12: the law's parts on sums, products, order -/
namespace K61
open PySem PySem.Spec PyProof.Rows L2 Z
theorem vl_nought {e p : Nat} {c : Int} (h : Fm e p) (k : kd e p c = .nought) : vl e p c = (0, 1) := by
  have hx : xn e p c = 0 ∧ pl p c = 0 := by
    unfold kd at k
    split at k
    · split at k <;> cases k
    · split at k
      · next a =>
        split at k
        · next b => exact ⟨a, b⟩
        · cases k
      · cases k
  have w0 : ws e p c = 0 := by rw [ws_eq, wh_eq, if_pos hx.1, hx.2]; split <;> rfl
  have p0 : pw e p c < 0 := by
    rw [pw_eq h, hx.1]
    have := LL_eq h; have := h.a; have := h.c
    have := pow_le (show 1 ≤ e - 1 by omega)
    show ((0 - 1 : Int).toNat : Int) - _ < 0
    omega
  rw [vl_eq, if_neg (by omega), w0]
  have hq := pow_pos (0 - pw e p c).toNat
  unfold red
  rw [Int.gcd_zero_left, if_pos (by omega)]
  have : (((2 : Int) ^ (0 - pw e p c).toNat).natAbs : Int) = 2 ^ (0 - pw e p c).toNat := by omega
  simp only [this, Int.zero_ediv, Int.ediv_self (show (2 : Int) ^ (0 - pw e p c).toNat ≠ 0 by omega)]
section
variable {F e p : Nat} {a b : Int} {w : Wd}
theorem ltn_cd {c : Int} (hc : Cd e p c) : Cd e p (ltn e p c) := by unfold ltn; cases decide (kd e p c = .none); exact tn_cd hc; exact hc
/-- the turned pair's sum -/
theorem ad_ev (hF : 2 ^ 900 ≤ F) (h : Fm e p) (ha : Cd e p a) (hb : Cd e p b) : fin' e p (ad F e p (tn e p a) (tn e p b) .even) = fin' e p (ad F e p a b .even) ∧
    (fin' e p (ad F e p a b .even) = true → vl e p (ad F e p (tn e p a) (tn e p b) .even) = (-(vl e p (ad F e p a b .even)).1, (vl e p (ad F e p a b .even)).2)) := by
  have t := ad_tn (w := .even) hF h ha hb (.inl rfl)
  rw [show mir .even = .even from rfl] at t
  have hc := ad_cd (F := F) (w := .even) h ha hb
  rw [t]
  cases q : bare F e p a b .even
  · rw [cond_false]
    by_cases k : kd e p (ad F e p a b .even) = .none
    · have : ltn e p (ad F e p a b .even) = ad F e p a b .even := by unfold ltn; rw [k]; rfl
      rw [this]
      refine ⟨rfl, fun z => ?_⟩
      unfold fin' at z; rw [k] at z; cases z
    · rw [ltn_of k]
      exact ⟨fin_tn hc, fun _ => vl_tn hc⟩
  · rw [cond_true]
    have k : kd e p (ad F e p a b .even) = .nought := by
      unfold bare at q
      exact of_decide_eq_true (Bool.and_eq_true_iff.mp q).1
    exact ⟨rfl, fun _ => by rw [vl_nought h k]; rfl⟩
theorem ps_tn (hF : 2 ^ 900 ≤ F) (h : Fm e p) (ha : Cd e p a) (hb : Cd e p b) : ps F e p (tn e p a) (tn e p b) = (ps F e p a b).map fun x => (ad F e p (tn e p a) (tn e p b) .even, (-x.2.1, x.2.2)) := by
  have t := ad_ev hF h ha hb
  unfold ps
  rw [t.1]
  cases q : fin' e p (ad F e p a b .even)
  · rfl
  · have v1 := vl_rng h a; have v2 := vl_rng h b; have v3 := vl_rng h (ad F e p a b .even)
    have m1 : 0 < (vl e p a).2 * (vl e p b).2 * (vl e p (ad F e p a b .even)).2 := Int.mul_pos (Int.mul_pos v1.2.2.1 v2.2.2.1) v3.2.2.1
    simp only [cond_true, Option.map_some]
    rw [t.2 q, vl_tn ha, vl_tn hb]
    simp only [Int.neg_mul]
    rw [← red_neg m1]
    congr 4
    rw [← Int.neg_add, Int.neg_mul]; omega
theorem ps_some {x : Int × (Int × Int)} (hp : ps F e p a b = some x) : x.1 = ad F e p a b .even ∧ fin' e p (ad F e p a b .even) = true := by
  unfold ps at hp
  cases q : fin' e p (ad F e p a b .even)
  · rw [q] at hp; cases hp
  · rw [q] at hp; cases hp; exact ⟨rfl, rfl⟩
end
section
variable (F n : Nat) (S : Sto)
theorem w_mir {w : Wd} (hw : IsWay w) : IsWay (mir w) := by
  rcases hw with rfl | rfl | rfl | rfl
  · exact .inl rfl
  · exact .inr (.inl rfl)
  · exact .inr (.inr (.inr rfl))
  · exact .inr (.inr (.inl rfl))
theorem c0 (e p : Nat) : Cd e p 0 := ⟨by omega, pow_pos _⟩
theorem sp_sums (hF : 2 ^ 900 ≤ F) {e p : Nat} {a b : Int} {w : Wd} (h : Fm e p) (ha : Cd e p a) (hb : Cd e p b) (hw : IsWay w) : callD F tab pg (n + 11) "_law_sums_right" [fm e p, .int a, .int b, .str w.s] S = some (.d (.bl true), S) := by
  refine call_px look_law_sums_right rfl rfl (w := .d (.bl true)) (S' := []) ?_ rfl S
  rw [show env0 d_law_sums_right [fm e p, .int a, .int b, .str w.s] = [some (fm e p), some (.int a), some (.int b), some (.str w.s), none, none, none, none, none] from rfl]
  show fin (evS tab _ F s_law_sums_right _ _) = _
  unfold s_law_sums_right
  have ta := tn_cd ha; have tb := tn_cd hb; have hm := w_mir hw
  have hc := ad_cd (F := F) (w := w) h ha hb
  have hc2 := ad_cd (F := F) (w := .even) h ha hb
  have hc3 := ad_cd (F := F) (w := .even) h ta tb
  have at1 := ad_tn hF h ha hb hw
  have zz := ad_0 hF h ha hw
  have pt := ps_tn hF h ha hb
  have ae := ad_ev hF h ha hb
  unfold bare at at1
  have comm := ad_comm F e p a b w
  have hz : decide (ad F e p a 0 w = a) = false → (decide (Wd.none = kd e p a) || decide (Wd.nought = kd e p a)) = true := by
    intro z
    by_cases k1 : kd e p a = .none
    · rw [k1]; rfl
    · by_cases k2 : kd e p a = .nought
      · rw [k2]; rfl
      · exact absurd (zz k1 k2) (of_decide_eq_false z)
  cases b1 : decide (kd e p (ad F e p a b w) = .nought) <;> cases b2 : decide (sg e p a = sg e p b) <;> cases b3 : (decide (Wd.even = w) || decide (Wd.zero = w))
  all_goals
    rw [b1, b2, b3] at at1
    simp only [Bool.not_true, Bool.not_false, Bool.and_true, Bool.and_false, Bool.true_and, Bool.false_and, cond_true, cond_false] at at1
    cases b4 : decide (ad F e p a 0 w = a)
    all_goals
      have hz' := hz
      cases b5 : ps F e p a b with
      | none =>
        rw [b5] at pt
        simp only [Option.map_none, Option.map_some] at pt
        simp (disch := first | (refine @id _ ?_; with_unfolding_all rfl) | assumption | omega) only [evl, sp_add _ _ _ hF h ha hb hw, sp_turned _ _ _ h ha, sp_turned _ _ _ h hb, sp_mirror _ _ _ hw, sp_add _ _ _ hF h ta tb hm, sp_kind _ _ _ h hc, wds, lits, b1, b2, b3, sp_parts _ _ _ h ha, sp_parts _ _ _ h hb, evq, Bool.not_true, Bool.not_false, sp_lturned _ _ _ h hc, at1, eq_self, decide_true,
          sp_add _ _ _ hF h hb ha hw, comm, sp_add _ _ _ hF h ha (c0 e p) hw, b4, sp_kind _ _ _ h ha, hz', sp_pair _ _ _ hF h ha hb, sp_pair _ _ _ hF h ta tb, b5, pt, oPs, isns]
      | some x =>
        obtain ⟨y, g⟩ := x
        have py := ps_some b5
        obtain ⟨py1, py2⟩ := py
        simp only at py1
        subst py1
        have ae1 := ae.1
        rw [py2] at ae1
        have ae2 := ae.2 py2
        rw [b5] at pt
        simp only [Option.map_none, Option.map_some] at pt
        simp (disch := first | (refine @id _ ?_; with_unfolding_all rfl) | assumption | omega) only [evl, sp_add _ _ _ hF h ha hb hw, sp_turned _ _ _ h ha, sp_turned _ _ _ h hb, sp_mirror _ _ _ hw, sp_add _ _ _ hF h ta tb hm, sp_kind _ _ _ h hc, wds, lits, b1, b2, b3, sp_parts _ _ _ h ha, sp_parts _ _ _ h hb, evq, Bool.not_true, Bool.not_false, sp_lturned _ _ _ h hc, at1, eq_self, decide_true,
          sp_add _ _ _ hF h hb ha hw, comm, sp_add _ _ _ hF h ha (c0 e p) hw, b4, sp_kind _ _ _ h ha, hz', sp_pair _ _ _ hF h ha hb, sp_pair _ _ _ hF h ta tb, b5, pt, oPs, isns, Int.zero_sub, Bool.and_true, sp_value _ _ _ hF h hc2, sp_value _ _ _ hF h hc3, py2, ae1, ae2, if_true]
/-! products -/
theorem g_mul : tab.globs.lookup ("multiply" : Str) = some (.fn "multiply") := by kernel_rfl
theorem g_div : tab.globs.lookup ("divide" : Str) = some (.fn "divide") := by kernel_rfl
theorem t_mul : tab.defs.lookup ("multiply" : Str) = some 4 := by kernel_rfl
theorem t_div : tab.defs.lookup ("divide" : Str) = some 4 := by kernel_rfl
theorem lc_mul (cl : Calls) (a b c d : W) (S : Sto) : kLc2 tab cl ("multiply" : Str) ([a, b, c, d], S) = bnd (matM [a, b, c, d] S) (kCall1 cl ("multiply" : Str)) := kLc2_e _ _ _ t_mul
theorem lc_div (cl : Calls) (a b c d : W) (S : Sto) : kLc2 tab cl ("divide" : Str) ([a, b, c, d], S) = bnd (matM [a, b, c, d] S) (kCall1 cl ("divide" : Str)) := kLc2_e _ _ _ t_div
theorem mu_cd {F e p : Nat} {a b : Int} {w : Wd} (h : Fm e p) (ha : Cd e p a) (hb : Cd e p b) : Cd e p (mu F e p a b w) := by
  have g := sx_rng ha hb
  rw [mu_eq]
  repeat' split
  all_goals first | exact nt_cd h | exact en_cd h g.1 g.2 | exact sn_cd h g.1 g.2 | exact rr_cd h
theorem dv_cd {F e p : Nat} {a b : Int} {w : Wd} (h : Fm e p) (ha : Cd e p a) (hb : Cd e p b) : Cd e p (dv F e p a b w) := by
  have g := sx_rng ha hb
  rw [dv_eq]
  split
  · exact nt_cd h
  · split
    · exact nt_cd h
    · split
      · exact en_cd h g.1 g.2
      · split
        · exact sn_cd h g.1 g.2
        · exact rr_cd h
theorem sp_products (hF : 2 ^ 900 ≤ F) {e p : Nat} {a b : Int} {w : Wd} (h : Fm e p) (ha : Cd e p a) (hb : Cd e p b) (hw : IsWay w) : callD F tab pg (n + 10) "_law_products_right" [fm e p, .int a, .int b, .str w.s] S = some (.d (.bl true), S) := by
  refine call_px look_law_products_right rfl rfl (w := .d (.bl true)) (S' := []) ?_ rfl S
  rw [show env0 d_law_products_right [fm e p, .int a, .int b, .str w.s] = [some (fm e p), some (.int a), some (.int b), some (.str w.s), none, none] from rfl]
  show fin (evS tab _ F s_law_products_right _ _) = _
  unfold s_law_products_right lp_law_products_right1
  have ta := tn_cd ha; have tb := tn_cd hb; have hm := w_mir hw
  have cm := mu_cd (F := F) (w := w) h ha hb
  have cd := dv_cd (F := F) (w := w) h ha hb
  simp (disch := first | (refine @id _ ?_; with_unfolding_all rfl) | assumption | omega) only [evl, e_glob, g_mul, g_div, forLoop_cons _ _ _ _ (chkG_nil _), forLoop_nil _ _ (chkG_nil _), stp_e, lc_mul, lc_div, sp_mul _ _ _ hF h ha hb hw, sp_div _ _ _ hF h ha hb hw, sp_turned _ _ _ h ha, sp_turned _ _ _ h hb, sp_mul _ _ _ hF h ta tb hw, sp_div _ _ _ hF h ta tb hw,
    sp_mirror _ _ _ hw, sp_mul _ _ _ hF h ta hb hm, sp_div _ _ _ hF h ta hb hm, sp_mul _ _ _ hF h ha tb hm, sp_div _ _ _ hF h ha tb hm, mu_tn2 F w ha hb, dv_tn2 F w h ha hb, mu_tn1 h ha hb hw, dv_tn1 h ha hb hw, mu_tn1' h ha hb hw, dv_tn1' h ha hb hw, sp_lturned _ _ _ h cm, sp_lturned _ _ _ h cd,
    sp_mul _ _ _ hF h hb ha hw, mu_comm F w ha hb, evq, eq_self, decide_true, Bool.not_true]
theorem sp_order (hF : 2 ^ 900 ≤ F) {e p : Nat} {a b : Int} (h : Fm e p) (ha : Cd e p a) (hb : Cd e p b) : callD F tab pg (n + 7) "_law_order_right" [fm e p, .int a, .int b] S = some (.d (.bl true), S) := by
  refine call_px look_law_order_right rfl rfl (w := .d (.bl true)) (S' := []) ?_ rfl S
  rw [show env0 d_law_order_right [fm e p, .int a, .int b] = [some (fm e p), some (.int a), some (.int b), none, none, none] from rfl]
  show fin (evS tab _ F s_law_order_right _ _) = _
  unfold s_law_order_right
  have ta := tn_cd ha; have tb := tn_cd hb
  have an := ls_anti (e := e) (p := p) (a := a) (b := b)
  have vt := vl_tn ha
  have ft := fin_tn ha
  have tail : ∀ (ρ4 : Option D), fin (evS tab (callD F tab pg (n + 6)) F (.cons (.asg (.nm 5 "told") (.call "value" (.cons (.var 0 "form") (.cons (.var 1 "one") .nil)))) (.cons (.ret (.or (.cons (.cmp .isN (.var 5 "told") .cN) (.cons (.cmp .eq (.call "value" (.cons (.var 0 "form") (.cons (.call "turned" (.cons (.var 0 "form") (.cons (.var 1 "one") .nil))) .nil))) (.tup (.cons (.bin .sub (.cI 0) (.ix (.var 5 "told") (.cI 0))) (.cons (.ix (.var 5 "told") (.cI 1)) .nil)))) .nil)))) .nil))
      [some (fm e p), some (.int a), some (.int b), some (oD (nu e p a)), ρ4, none] []) = some (.d (.bl true), []) := by
    intro ρ4
    cases b0 : fin' e p a
    · rw [b0] at ft
      simp (disch := first | (refine @id _ ?_; with_unfolding_all rfl) | assumption | omega) only [evl, sp_value _ _ _ hF h ha, b0, Bool.false_eq_true, if_false, isns]
    · rw [b0] at ft
      simp (disch := first | (refine @id _ ?_; with_unfolding_all rfl) | assumption | omega) only [evl, sp_value _ _ _ hF h ha, b0, if_true, isns, sp_turned _ _ _ h ha, sp_value _ _ _ hF h ta, ft, vt, evq, Int.zero_sub, eq_self, decide_true, Bool.and_true]
  cases hn : nu e p a with
  | none =>
    rw [hn] at tail
    cases b1 : ls e p a b <;> cases b2 : ls e p b a
    all_goals
      rw [b1, b2] at an
      first
        | (cases an; done)
        | (simp (disch := first | (refine @id _ ?_; with_unfolding_all rfl) | assumption | omega) only [evl, sp_less _ _ _ h ha hb, sp_less _ _ _ h hb ha, sp_turned _ _ _ h ha, sp_turned _ _ _ h hb, sp_less _ _ _ h tb ta, ls_tn ha hb, evq, eq_self, decide_true, Bool.not_true, b1, b2, sp_turned _ _ _ h ta, tn_tn ha, sp_kind _ _ _ h ha, sp_kind _ _ _ h ta, kd_tn ha, wds, sp_next _ _ _ h ha, hn, oD, isns]
           have t := tail none
           simp (disch := first | (refine @id _ ?_; with_unfolding_all rfl) | assumption | omega) only [evl, oD] at t
           exact t)
  | some c =>
    rw [hn] at tail
    cases b3 : decide (kd e p a = .nought)
    · have nn := nu_some h ha hn (of_decide_eq_false b3)
      obtain ⟨cc, n1, n2⟩ := nn
      have tc := tn_cd cc
      cases b1 : ls e p a b <;> cases b2 : ls e p b a
      all_goals
        rw [b1, b2] at an
        first
          | (cases an; done)
          | (cases b4 : fin' e p c
             · have k : kd e p c ≠ .nought := fun z => by unfold fin' at b4; rw [z] at b4; cases b4
               have n3 := n2 k
               have t := tail (some (.int (tn e p a)))
               simp (disch := first | (refine @id _ ?_; with_unfolding_all rfl) | assumption | omega) only [evl, oD] at t
               simp (disch := first | (refine @id _ ?_; with_unfolding_all rfl) | assumption | omega) only [evl, sp_less _ _ _ h ha hb, sp_less _ _ _ h hb ha, sp_turned _ _ _ h ha, sp_turned _ _ _ h hb, sp_less _ _ _ h tb ta, ls_tn ha hb, evq, eq_self, decide_true, Bool.not_true, b1, b2, sp_turned _ _ _ h ta, tn_tn ha, sp_kind _ _ _ h ha, sp_kind _ _ _ h ta, kd_tn ha, wds, sp_next _ _ _ h ha, hn, oD, isns, lits, b3, Bool.not_false,
                 sp_turned _ _ _ h cc, sp_next _ _ _ h tc, n3, sp_less _ _ _ h ha cc, n1, sp_value _ _ _ hF h cc, b4, Bool.false_eq_true, if_false]
               exact t
             · cases b5 : (decide ((vl e p c).1 = 0) && (decide ((vl e p c).2 = 1) && true))
               · have k : kd e p c ≠ .nought := fun z => by
                   rw [vl_nought h z] at b5; cases b5
                 have n3 := n2 k
                 have t := tail (some (.int (tn e p a)))
                 simp (disch := first | (refine @id _ ?_; with_unfolding_all rfl) | assumption | omega) only [evl, oD] at t
                 simp (disch := first | (refine @id _ ?_; with_unfolding_all rfl) | assumption | omega) only [evl, sp_less _ _ _ h ha hb, sp_less _ _ _ h hb ha, sp_turned _ _ _ h ha, sp_turned _ _ _ h hb, sp_less _ _ _ h tb ta, ls_tn ha hb, evq, eq_self, decide_true, Bool.not_true, b1, b2, sp_turned _ _ _ h ta, tn_tn ha, sp_kind _ _ _ h ha, sp_kind _ _ _ h ta, kd_tn ha, wds, sp_next _ _ _ h ha, hn, oD, isns, lits, b3, Bool.not_false,
                   sp_turned _ _ _ h cc, sp_next _ _ _ h tc, n3, sp_less _ _ _ h ha cc, n1, sp_value _ _ _ hF h cc, b4, b5, if_true]
                 exact t
               · have t := tail (some (oD (nu e p (tn e p c))))
                 simp (disch := first | (refine @id _ ?_; with_unfolding_all rfl) | assumption | omega) only [evl, oD] at t
                 simp (disch := first | (refine @id _ ?_; with_unfolding_all rfl) | assumption | omega) only [evl, sp_less _ _ _ h ha hb, sp_less _ _ _ h hb ha, sp_turned _ _ _ h ha, sp_turned _ _ _ h hb, sp_less _ _ _ h tb ta, ls_tn ha hb, evq, eq_self, decide_true, Bool.not_true, b1, b2, sp_turned _ _ _ h ta, tn_tn ha, sp_kind _ _ _ h ha, sp_kind _ _ _ h ta, kd_tn ha, wds, sp_next _ _ _ h ha, hn, oD, isns, lits, b3, Bool.not_false,
                   sp_turned _ _ _ h cc, sp_next _ _ _ h tc, sp_less _ _ _ h ha cc, n1, sp_value _ _ _ hF h cc, b4, b5, if_true]
                 exact t)
    · cases b1 : ls e p a b <;> cases b2 : ls e p b a
      all_goals
        rw [b1, b2] at an
        first
          | (cases an; done)
          | (simp (disch := first | (refine @id _ ?_; with_unfolding_all rfl) | assumption | omega) only [evl, sp_less _ _ _ h ha hb, sp_less _ _ _ h hb ha, sp_turned _ _ _ h ha, sp_turned _ _ _ h hb, sp_less _ _ _ h tb ta, ls_tn ha hb, evq, eq_self, decide_true, Bool.not_true, b1, b2, sp_turned _ _ _ h ta, tn_tn ha, sp_kind _ _ _ h ha, sp_kind _ _ _ h ta, kd_tn ha, wds, sp_next _ _ _ h ha, hn, oD, isns, lits, b3]
             have t := tail none
             simp (disch := first | (refine @id _ ?_; with_unfolding_all rfl) | assumption | omega) only [evl, oD] at t
             exact t)
end
end K61

set_option Elab.async false
set_option linter.all false
set_option maxRecDepth 100000
/-! M13: draws; the law's part on rounded fractions -/
namespace K61
open PySem PySem.Spec PyProof.Rows L2 Z
theorem at_lit5 (x y z u v w : D) (xs : List D) : atI (x :: y :: z :: u :: v :: w :: xs) 5 = some w := by rw [show (5 : Int) = ((5 : Nat) : Int) from rfl, atI_nn]; rfl
section
variable (F n : Nat)
theorem sp_take {ti : Nat} {S : Sto} {many : Int} (t : TapeOk ti S) (h0 : 0 < many) (h1 : divOk many = true) : ∃ r S', callD F tab pg (n + 1) "_law_take" [.ref ti, .int many] S = some (.d (.int r), S') ∧ 0 ≤ r ∧ r < many ∧ TapeOk ti S' := by
  obtain ⟨r, S', h, h2, h3, h4, _⟩ := take_ok tab (callD F tab pg n) F t h0 h1
  refine ⟨r, S', ?_, h2, h3, h4⟩
  rw [call_im look_law_take rfl rfl]
  exact h
theorem sp_tape (ns : List Int) (hn : ns.length ≤ 900) : ∃ S', callD F tab pg (n + 1) "_law_tape" [.fz (ns.map .int)] [] = some (.d (.ref 1), S') ∧ TapeOk 1 S' := by
  obtain ⟨S', h, h2⟩ := tape_ok tab (callD F tab pg n) F ns hn
  refine ⟨S', ?_, h2⟩
  rw [call_im look_law_tape rfl rfl]
  exact h
theorem sp_code {e p : Nat} {ti : Nat} {S : Sto} (h : Fm e p) (t : TapeOk ti S) : ∃ c S', callD F tab pg (n + 3) "_law_code" [.ref ti, fm e p] S = some (.d (.int c), S') ∧ Cd e p c ∧ TapeOk ti S' := by
  rw [call_im look_law_code rfl rfl, show env0 d_law_code [.ref ti, fm e p] = [some (.ref ti), some (fm e p), none, none] from rfl]
  show ∃ c S', fin (evS tab _ F s_law_code _ _) = _ ∧ _
  unfold s_law_code
  have hs := size_eq e p; have hh := half_ge h; have hp := pow_pos p
  have g : gt e p = 2 ^ (e + p) - 2 ^ p - 1 := rfl
  have gr := gt_rng h
  have p2 := pow_le h.c
  obtain ⟨r, S1, h1, h2, h3, t1⟩ := sp_take F (n + 1) (many := 4) t (by decide) (by decide)
  by_cases q : r = 0
  · obtain ⟨k, S2, k1, k2, k3, t2⟩ := sp_take F (n + 1) (many := 6) t1 (by decide) (by decide)
    have kk : k = 0 ∨ k = 1 ∨ k = 2 ∨ k = 3 ∨ k = 4 ∨ k = 5 := by omega
    rcases kk with rfl | rfl | rfl | rfl | rfl | rfl
    all_goals
      simp (disch := first | (refine @id _ ?_; with_unfolding_all rfl) | assumption | omega) only [evl, h1, sp_size _ _ _ h, evq, decide_eq_true q, b_fdiv _ (show divOk 2 = true from by decide), sp_greatest _ _ _ h, k1, at_lit5]
      refine ⟨_, _, rfl, ⟨?_, ?_⟩, t2⟩ <;> omega
  · have ps := pow_pos (1 + e + p)
    obtain ⟨c, S2, k1, k2, k3, t2⟩ := sp_take F (n + 1) (many := 2 ^ (1 + e + p)) t1 ps (dv_pow (by have := h.b; have := h.d; omega))
    simp (disch := first | (refine @id _ ?_; with_unfolding_all rfl) | assumption | omega) only [evl, h1, sp_size _ _ _ h, evq, decide_eq_false q, k1]
    exact ⟨_, _, rfl, ⟨k2, k3⟩, t2⟩
theorem codes_loop {e p : Nat} (h : Fm e p) {ti : Nat} (w : D) (x3 x4 x5 x6 x7 x8 x9 x10 x11 : Option D) : ∀ (xs : List D) (acc : List D) (S : Sto), TapeOk ti S → acc.length + xs.length ≤ 1000 →
    ∃ (cs : List Int) (S' : Sto), lcLoop [] (lcStep tab (callD F tab pg (n + 3)) [("k", 10)] ce_law_rounded_right1 (.nm 10 "k") .nil [some (.ref ti), some (fm e p), some w, x3, x4, x5, x6, x7, x8, x9, x10, x11]) xs acc S = some (acc ++ cs.map .int, S') ∧ (∀ c ∈ cs, Cd e p c) ∧ cs.length = xs.length ∧ TapeOk ti S'
  | [], acc, S, t, _ => ⟨[], S, by rw [lcLoop_nil _ _ (chkG_nil S)]; simp, by simp, rfl, t⟩
  | x :: xs, acc, S, t, hl => by
    rw [List.length_cons] at hl
    obtain ⟨c, S1, k1, k2, t1⟩ := sp_code F n h t
    obtain ⟨cs, S2, r1, r2, r3, t2⟩ := codes_loop h w x3 x4 x5 x6 x7 x8 x9 x10 x11 xs (acc ++ [.int c]) S1 t1 (by rw [List.length_append]; simp; omega)
    refine ⟨c :: cs, S2, ?_, fun y hy => ?_, by rw [List.length_cons, List.length_cons, r3], t2⟩
    · rw [lcLoop_cons _ _ _ _ (chkG_nil S), lcStep_e]
      have hw : wipeD [some (.ref ti), some (fm e p), some w, x3, x4, x5, x6, x7, x8, x9, x10, x11] (List.map (·.2) [(("k" : Str), 10)]) = [some (.ref ti), some (fm e p), some w, x3, x4, x5, x6, x7, x8, x9, none, x11] := rfl
      rw [hw]
      unfold ce_law_rounded_right1 at *
      simp (disch := first | (refine @id _ ?_; with_unfolding_all rfl) | assumption | omega) only [evl, k1]
      rw [kLl_s _ _ _ _ _ (Nat.lt_of_le_of_lt (show acc.length ≤ 1000 by omega) (by decide)), r1]
      simp
    · rcases List.mem_cons.mp hy with rfl | z
      · exact k2
      · exact r2 y z
theorem turn_loop {e p : Nat} (h : Fm e p) (w t0 : D) (x3 x4 x5 x6 x7 x8 x9 x10 x11 : Option D) : ∀ (cs : List Int) (acc : List D) (S : Sto), (∀ c ∈ cs, Cd e p c) → acc.length + cs.length ≤ 1000 →
    lcLoop [] (lcStep tab (callD F tab pg (n + 4)) [("code", 11)] ce_law_rounded_right2 (.nm 11 "code") .nil [some t0, some (fm e p), some w, x3, x4, x5, x6, x7, x8, x9, x10, x11]) (cs.map .int) acc S = some (acc ++ (cs.map (tn e p)).map .int, S)
  | [], acc, S, _, _ => by rw [List.map_nil, lcLoop_nil _ _ (chkG_nil S)]; simp
  | c :: cs, acc, S, hc, hl => by
    rw [List.length_cons] at hl
    have c1 := hc c List.mem_cons_self
    rw [List.map_cons, lcLoop_cons _ _ _ _ (chkG_nil S), lcStep_e]
    have hw : wipeD [some t0, some (fm e p), some w, x3, x4, x5, x6, x7, x8, x9, x10, x11] (List.map (·.2) [(("code" : Str), 11)]) = [some t0, some (fm e p), some w, x3, x4, x5, x6, x7, x8, x9, x10, none] := rfl
    rw [hw]
    have ih := turn_loop h w t0 x3 x4 x5 x6 x7 x8 x9 x10 x11 cs (acc ++ [.int (tn e p c)]) S (fun x hx => hc x (List.mem_cons_of_mem _ hx)) (by rw [List.length_append]; simp; omega)
    unfold ce_law_rounded_right2 at *
    simp (disch := first | (refine @id _ ?_; with_unfolding_all rfl) | assumption | omega) only [evl, sp_turned _ _ _ h c1]
    rw [kLl_s _ _ _ _ _ (Nat.lt_of_le_of_lt (show acc.length ≤ 1000 by omega) (by decide)), ih]
    simp
theorem sp_rright (hF : 2 ^ 900 ≤ F) {e p : Nat} {ti : Nat} {S : Sto} {w : Wd} (h : Fm e p) (hw : IsWay w) (t : TapeOk ti S) : ∃ S', callD F tab pg (n + 11) "_law_rounded_right" [.ref ti, fm e p, .str w.s] S = some (.d (.bl true), S') ∧ TapeOk ti S' := by
  rw [call_im look_law_rounded_right rfl rfl, show env0 d_law_rounded_right [.ref ti, fm e p, .str w.s] = [some (.ref ti), some (fm e p), some (.str w.s), none, none, none, none, none, none, none, none, none] from rfl]
  show ∃ S', fin (evS tab _ F s_law_rounded_right _ _) = _ ∧ _
  unfold s_law_rounded_right
  obtain ⟨r1, S1, h1, u1, u2, t1⟩ := sp_take F (n + 9) (many := 5000) t (by decide) (by decide)
  obtain ⟨r2, S2, h2, v1, v2, t2⟩ := sp_take F (n + 9) (many := 5000) t1 (by decide) (by decide)
  obtain ⟨r3, S3, h3, y1, y2, t3⟩ := sp_take F (n + 9) (many := 5) t2 (by decide) (by decide)
  have mw := w_mir hw
  have q1 : rnd F e p (sgn (-(1 + r1))) (-(1 + r1)).natAbs (1 + r2) (mir w) = tn e p (rnd F e p (sgn (1 + r1)) (1 + r1).natAbs (1 + r2) w) := by
    rw [sgn_neg (by omega), Int.natAbs_neg, rnd_tn h hw (sgn_rng _).1 (sgn_rng _).2]
  have s1 : sgn (1 + r1) = 0 := by unfold sgn; rw [decide_eq_false (by omega)]; rfl
  have cd1 : Cd e p (rnd F e p (sgn (1 + r1)) (1 + r1).natAbs (1 + r2) w) := rnd_cd h (sgn_rng _).1 (sgn_rng _).2
  have sg1 : sg e p (rnd F e p (sgn (1 + r1)) (1 + r1).natAbs (1 + r2) w) = 0 := by
    obtain ⟨x, e1, e2, e3⟩ := rnd_form (F := F) (s := sgn (1 + r1)) (t := (1 + r1).natAbs) (b := 1 + r2) (w := w) h
    have := fl_rng F h ((1 + r1).natAbs) (1 + r2)
    have := half_ge h; have := pow_pos p
    have g : gt e p = 2 ^ (e + p) - 2 ^ p - 1 := rfl
    rw [e1, s1]
    exact (kd_sg (Int.le_refl 0) (by omega) (by omega) (by omega)).2.1
  obtain ⟨cs, S4, l1, l2, l3, t4⟩ := codes_loop F (n + 7) h (.str w.s) (some (.int (1 + r1))) (some (.int (1 + r2))) (some (.int (rnd F e p (sgn (1 + r1)) (1 + r1).natAbs (1 + r2) w))) (some (.int (tn e p (rnd F e p (sgn (1 + r1)) (1 + r1).natAbs (1 + r2) w)))) none none none none none (rngL 0 r3.toNat) [] S3 t3 (by rw [rngL_len]; simp; omega)
  rw [rngL_len] at l3
  have hl : cs.length ≤ 30 := by omega
  have tl := turn_loop F (n + 6) h (.str w.s) (.ref ti) (some (.int (1 + r1))) (some (.int (1 + r2))) (some (.int (rnd F e p (sgn (1 + r1)) (1 + r1).natAbs (1 + r2) w))) (some (.int (tn e p (rnd F e p (sgn (1 + r1)) (1 + r1).natAbs (1 + r2) w)))) (some (.tup (cs.map .int))) none none none none cs [] S4 l2 (by simp; omega)
  have ct : ∀ c ∈ cs.map (tn e p), Cd e p c := fun c hc => by obtain ⟨x, hx, rfl⟩ := List.mem_map.mp hc; exact tn_cd (l2 x hx)
  have ht : (cs.map (tn e p)).length ≤ 30 := by rw [List.length_map]; exact hl
  have st := sm_tn (F := F) h cs 0 0 (some (0, 1)) l2 (fun x hx => by cases hx; decide)
  rw [show ((some (0, 1) : Option (Int × Int)).map fun x => (-x.1, x.2)) = some (0, 1) from rfl] at st
  simp only [List.nil_append] at l1 tl
  refine ⟨S4, ?_, t4⟩
  cases b1 : (sm F e p cs 0 (some (0, 1))).2 with
  | none =>
    rw [b1] at st
    simp only [Option.map_none] at st
    simp (disch := first | (refine @id _ ?_; with_unfolding_all rfl) | assumption | omega) only [evl, h1, h2, sp_rounded _ _ _ hF h hw, sp_rounded _ _ _ hF h mw, sp_mirror _ _ _ hw, q1, h3, rng_i (show 0 ≤ r3 ∧ r3 ≤ 1000000 by omega), e_lc, l1, lits, sp_summed _ _ _ hF h l2 hl, tl, sp_summed _ _ _ hF h ct ht, b1, st, oP, isns, evq, eq_self, decide_true, Bool.not_true, Bool.not_false, sp_turned _ _ _ h cd1, sp_parts _ _ _ h cd1, sg1, Int.zero_sub]
  | some x =>
    rw [b1] at st
    simp only [Option.map_some] at st
    simp (disch := first | (refine @id _ ?_; with_unfolding_all rfl) | assumption | omega) only [evl, h1, h2, sp_rounded _ _ _ hF h hw, sp_rounded _ _ _ hF h mw, sp_mirror _ _ _ hw, q1, h3, rng_i (show 0 ≤ r3 ∧ r3 ≤ 1000000 by omega), e_lc, l1, lits, sp_summed _ _ _ hF h l2 hl, tl, sp_summed _ _ _ hF h ct ht, b1, st, oP, isns, evq, eq_self, decide_true, Bool.not_true, Bool.not_false, sp_turned _ _ _ h cd1, sp_parts _ _ _ h cd1, sg1, Int.zero_sub, Bool.and_true]
end
end K61

set_option Elab.async false
set_option linter.all false
set_option maxRecDepth 100000
/-! M14: figures: codes of whole numbers, digits -/
namespace K61
open PySem PySem.Spec PyProof.Rows L2 Z
theorem rngL_succ (lo : Int) (n : Nat) : rngL lo (n + 1) = .int lo :: rngL (lo + 1) n := by
  unfold rngL
  rw [List.range_succ_eq_map, List.map_cons, List.map_map]
  congr 1
  · simp
  · apply List.map_congr_left
    intro i _
    show D.int _ = D.int _
    congr 1
    show lo + ((i + 1 : Nat) : Int) = _
    omega
theorem rngL_zero (lo : Int) : rngL lo 0 = [] := rfl
structure Bt (b : Nat) : Prop where
  a : 1 ≤ b
  b : b ≤ 32
structure Bc (b : Nat) (c : Int) : Prop where
  a : 0 ≤ c
  b : c < 2 ^ b
theorem pow_half {b : Nat} (h : Bt b) : (2 : Int) ^ b = 2 * 2 ^ (b - 1) := by
  obtain ⟨k, rfl⟩ : ∃ k, b = k + 1 := ⟨b - 1, by have := h.a; omega⟩
  rw [Int.pow_succ, Nat.add_sub_cancel, Int.mul_comm]
theorem pow_32 {b : Nat} (h : b ≤ 32) : (2 : Int) ^ b ≤ 4294967296 := pow_le (b := 32) h
def me (b : Nat) (c : Int) : Int := bif decide (2 ^ (b - 1) ≤ c) then c - 2 ^ b else c
theorem me_eq (b : Nat) (c : Int) : me b c = if 2 ^ (b - 1) ≤ c then c - 2 ^ b else c := by unfold me; rw [Bool.cond_eq_ite]; simp only [decide_eq_true_eq]
theorem me_rng {b : Nat} {c : Int} (h : Bt b) (hc : Bc b c) : -(2 ^ (b - 1)) ≤ me b c ∧ me b c < 2 ^ (b - 1) := by
  have := pow_half h; have := hc.a; have := hc.b
  rw [me_eq]; split <;> omega
theorem me_sm {b : Nat} {c : Int} (h : Bt b) (hc : Bc b c) : -(2 ^ 40) < me b c ∧ me b c < 2 ^ 40 := by
  have := me_rng h hc; have := pow_half h; have := pow_32 h.b
  omega
def co (b : Nat) (m : Int) : Option Int := bif decide (0 - 2 ^ (b - 1) ≤ m) && decide (m < 2 ^ (b - 1)) then some (m % 2 ^ b) else none
theorem me_mod {b : Nat} {m : Int} (h : Bt b) (h0 : -(2 ^ (b - 1)) ≤ m) (h1 : m < 2 ^ (b - 1)) : Bc b (m % 2 ^ b) ∧ me b (m % 2 ^ b) = m := by
  have p1 := pow_half h; have p2 := pow_pos b; have p3 := pow_pos (b - 1)
  have e : m % 2 ^ b = if m < 0 then m + 2 ^ b else m := by
    split
    · next z => rw [← Int.add_emod_right, Int.emod_eq_of_lt (by omega) (by omega)]
    · exact Int.emod_eq_of_lt (by omega) (by omega)
  rw [e]
  split
  · refine ⟨⟨by omega, by omega⟩, ?_⟩; rw [me_eq, if_pos (by omega)]; omega
  · refine ⟨⟨by omega, by omega⟩, ?_⟩; rw [me_eq, if_neg (by omega)]
theorem co_some {b : Nat} {m t : Int} (h : Bt b) (hc : co b m = some t) : Bc b t ∧ me b t = m ∧ t = m % 2 ^ b := by
  unfold co at hc
  cases q : decide (0 - 2 ^ (b - 1) ≤ m) && decide (m < 2 ^ (b - 1))
  · rw [q] at hc; cases hc
  · rw [q] at hc; cases hc
    have := of_decide_eq_true (Bool.and_eq_true_iff.mp q).1
    have := of_decide_eq_true (Bool.and_eq_true_iff.mp q).2
    obtain ⟨x, y⟩ := me_mod (m := m) h (by omega) (by omega)
    exact ⟨x, y, rfl⟩
def bz (x y : Int) : Int := if (!decide (x = y)) = true then 1 else 0
def zr (x : Int) : Int := if decide (x = 0) = true then 1 else 0
/-- a sum with its signs -/
def fl4 (b : Nat) (whole exact : Int) : D := .tup [.int (whole % 2 ^ b), .tup [.int (whole / 2 ^ b), .int (bz exact (me b (whole % 2 ^ b))), .int (whole % 2 ^ b / 2 ^ (b - 1)), .int (zr (whole % 2 ^ b))]]
section
variable (F n : Nat) (S : Sto)
theorem powf_loop (cl : Calls) : ∀ (xs : List D) (a y : Option D) (v : Int), ∃ y', forLoop [] (stp tab cl F (.nm 2 "_") lp_power_of_figures1) xs [a, some (.int v), y] S = some (.nx, [a, some (.int (v * 2 ^ xs.length)), y'], S)
  | [], a, y, v => ⟨y, by rw [forLoop_nil _ _ (chkG_nil S)]; simp⟩
  | x :: xs, a, y, v => by
    obtain ⟨y', h⟩ := powf_loop cl xs a (some x) (v * 2)
    refine ⟨y', ?_⟩
    rw [forLoop_cons _ _ _ _ (chkG_nil S), stp_e]
    unfold lp_power_of_figures1 at *
    simp (disch := first | (refine @id _ ?_; with_unfolding_all rfl) | assumption | omega) only [evl, au_m2]
    rw [h, List.length_cons, Int.pow_succ]
    congr 6
    rw [Int.mul_assoc, Int.mul_comm 2]
theorem sp_powf {i : Int} (h : 0 ≤ i ∧ i ≤ 1000000) : callD F tab pg (n + 1) "power_of_figures" [.int i] S = some (.d (.int (2 ^ i.toNat)), S) := by
  refine call_px look_power_of_figures rfl rfl (w := .d (.int (2 ^ i.toNat))) (S' := []) ?_ rfl S
  rw [show env0 d_power_of_figures [.int i] = [some (.int i), none, none] from rfl]
  show fin (evS tab _ F s_power_of_figures _ _) = _
  unfold s_power_of_figures
  obtain ⟨y', hl⟩ := powf_loop F [] (callD F tab pg n) (rngL 0 i.toNat) (some (.int i)) none 1
  simp (disch := first | (refine @id _ ?_; with_unfolding_all rfl) | assumption | omega) only [evl, rng_i h]
  rw [hl, rngL_len]
  simp (disch := first | (refine @id _ ?_; with_unfolding_all rfl) | assumption | omega) only [evl, Int.one_mul]
theorem g_most : tab.globs.lookup ("MOST_BITS" : Str) = some (.int 32) := by kernel_rfl
theorem sp_check {b : Nat} (h : Bt b) : callD F tab pg (n + 1) "check" [.int b] S = some (.d .non, S) := by
  refine call_px look_check rfl rfl (w := .d .non) (S' := []) ?_ rfl S
  rw [show env0 d_check [.int b] = [some (.int b)] from rfl]
  show fin (evS tab _ F s_check _ _) = _
  unfold s_check
  have := h.a; have := h.b
  simp (disch := first | (refine @id _ ?_; with_unfolding_all rfl) | assumption | omega) only [evl, e_glob, g_most, decide_eq_true (show (1 : Int) ≤ b by omega), decide_eq_true (show (b : Int) ≤ 32 by omega), Bool.not_true]
theorem sp_checkf {b : Nat} {c : Int} (h : Bt b) (hc : Bc b c) : callD F tab pg (n + 2) "check_code_figures" [.int b, .int c] S = some (.d .non, S) := by
  refine call_px look_check_code_figures rfl rfl (w := .d .non) (S' := []) ?_ rfl S
  rw [show env0 d_check_code_figures [.int b, .int c] = [some (.int b), some (.int c)] from rfl]
  show fin (evS tab _ F s_check_code_figures _ _) = _
  unfold s_check_code_figures
  have := h.a; have := h.b
  simp (disch := first | (refine @id _ ?_; with_unfolding_all rfl) | assumption | omega) only [evl, sp_check _ _ _ h, sp_powf, tn_c, decide_eq_true hc.a, decide_eq_true hc.b, Bool.not_true]
theorem sp_meaning {b : Nat} {c : Int} (h : Bt b) (hc : Bc b c) : callD F tab pg (n + 3) "meaning" [.int b, .int c] S = some (.d (.int (me b c)), S) := by
  refine call_px look_meaning rfl rfl (w := .d (.int (me b c))) (S' := []) ?_ rfl S
  rw [show env0 d_meaning [.int b, .int c] = [some (.int b), some (.int c)] from rfl]
  show fin (evS tab _ F s_meaning _ _) = _
  unfold s_meaning me
  have := h.a; have := h.b
  cases q : decide (2 ^ (b - 1) ≤ c) <;>
  simp (disch := first | (refine @id _ ?_; with_unfolding_all rfl) | assumption | omega) only [evl, sp_checkf _ _ _ h hc, sp_powf, tn_c, tn_sub1, q, cond_true, cond_false]
theorem sp_codeof {b : Nat} {m : Int} (h : Bt b) : callD F tab pg (n + 2) "code_of" [.int b, .int m] S = some (.d (oD (co b m)), S) := by
  refine call_px look_code_of rfl rfl (w := .d (oD (co b m))) (S' := []) ?_ (by cases co b m <;> rfl) S
  rw [show env0 d_code_of [.int b, .int m] = [some (.int b), some (.int m)] from rfl]
  show fin (evS tab _ F s_code_of _ _) = _
  unfold s_code_of co
  have := h.a; have := h.b
  cases q : decide (0 - 2 ^ (b - 1) ≤ m) <;> cases q2 : decide (m < 2 ^ (b - 1)) <;>
  simp (disch := first | (refine @id _ ?_; with_unfolding_all rfl) | assumption | omega) only [evl, sp_check _ _ _ h, sp_powf, tn_c, tn_sub1, q, q2, cond_true, cond_false, Bool.and_true, Bool.and_false, Bool.not_true, Bool.not_false, oD, b_mod _ (pow_pos b)]
theorem mod_bc {b : Nat} (x : Int) : Bc b (x % 2 ^ b) := ⟨Int.emod_nonneg _ (by have := pow_pos b; omega), Int.emod_lt_of_pos _ (pow_pos b)⟩
theorem sp_added {b : Nat} {x y : Int} (h : Bt b) (hx : Bc b x) (hy : Bc b y) : callD F tab pg (n + 4) "added" [.int b, .int x, .int y] S = some (.d (fl4 b (x + y) (me b x + me b y)), S) := by
  refine call_px look_added rfl rfl (w := .d (fl4 b (x + y) (me b x + me b y))) (S' := []) ?_ rfl S
  rw [show env0 d_added [.int b, .int x, .int y] = [some (.int b), some (.int x), some (.int y), none, none, none, none] from rfl]
  show fin (evS tab _ F s_added _ _) = _
  unfold s_added fl4 bz zr
  have := h.a; have := h.b
  simp (disch := first | (refine @id _ ?_; with_unfolding_all rfl) | assumption | omega) only [evl, sp_checkf _ _ _ h hx, sp_checkf _ _ _ h hy, sp_powf, tn_c, tn_sub1, b_mod _ (pow_pos b), sp_meaning _ _ _ h hx, sp_meaning _ _ _ h hy, sp_meaning _ _ _ h (mod_bc (x + y)), evq, b_fdiv _ (dv_pow (show b ≤ 900 by omega)), b_fdiv _ (dv_pow (show b - 1 ≤ 900 by omega))]
theorem sp_taken {b : Nat} {x y : Int} (h : Bt b) (hx : Bc b x) (hy : Bc b y) : callD F tab pg (n + 4) "taken_off" [.int b, .int x, .int y] S = some (.d (fl4 b (x + (2 ^ b - 1 - y) + 1) (me b x - me b y)), S) := by
  refine call_px look_taken_off rfl rfl (w := .d (fl4 b (x + (2 ^ b - 1 - y) + 1) (me b x - me b y))) (S' := []) ?_ rfl S
  rw [show env0 d_taken_off [.int b, .int x, .int y] = [some (.int b), some (.int x), some (.int y), none, none, none, none] from rfl]
  show fin (evS tab _ F s_taken_off _ _) = _
  unfold s_taken_off fl4 bz zr
  have := h.a; have := h.b
  simp (disch := first | (refine @id _ ?_; with_unfolding_all rfl) | assumption | omega) only [evl, sp_checkf _ _ _ h hx, sp_checkf _ _ _ h hy, sp_powf, tn_c, tn_sub1, b_mod _ (pow_pos b), sp_meaning _ _ _ h hx, sp_meaning _ _ _ h hy, sp_meaning _ _ _ h (mod_bc (x + (2 ^ b - 1 - y) + 1)), evq, b_fdiv _ (dv_pow (show b ≤ 900 by omega)), b_fdiv _ (dv_pow (show b - 1 ≤ 900 by omega))]
end
/-! digits -/
def bit (c : Int) (k : Nat) : Int := c / 2 ^ k % 2
def dgl (c : Int) : Nat → Nat → Int → List Int
  | _, 0, _ => []
  | k, m + 1, bf => (bf - bit c k) :: dgl c (k + 1) m (bit c k)
def vd : List Int → Int
  | [] => 0
  | d :: ds => d + 2 * vd ds
theorem bit_rng (c : Int) (k : Nat) : 0 ≤ bit c k ∧ bit c k ≤ 1 := by unfold bit; omega
theorem dgl_len (c : Int) : ∀ (k m : Nat) (bf : Int), (dgl c k m bf).length = m
  | _, 0, _ => rfl
  | k, m + 1, bf => by unfold dgl; rw [List.length_cons, dgl_len c (k + 1) m]
theorem dgl_sm (c : Int) : ∀ (k m : Nat) (bf : Int), 0 ≤ bf → bf ≤ 1 → ∀ d ∈ dgl c k m bf, -1 ≤ d ∧ d ≤ 1
  | _, 0, _, _, _ => by intro d hd; cases hd
  | k, m + 1, bf, h0, h1 => by
    intro d hd
    have hb := bit_rng c k
    unfold dgl at hd
    rcases List.mem_cons.mp hd with rfl | z
    · omega
    · exact dgl_sm c (k + 1) m _ hb.1 hb.2 d z
theorem div_two (c : Int) (k : Nat) : c / 2 ^ k = bit c k + 2 * (c / 2 ^ (k + 1)) := by
  have : c / 2 ^ (k + 1) = c / 2 ^ k / 2 := by rw [Int.pow_succ, Int.ediv_ediv_of_nonneg (by have := pow_pos k; omega)]
  rw [this]
  unfold bit
  omega
theorem vd_dgl {c : Int} : ∀ (m k : Nat) (bf : Int), vd (dgl c k (m + 1) bf) = bf + (c / 2 ^ k) % 2 ^ (m + 1) - 2 ^ (m + 1) * bit c (k + m)
  | 0, k, bf => by
    unfold dgl dgl vd vd
    have := bit_rng c k
    have e : (c / 2 ^ k) % 2 ^ (0 + 1) = bit c k := rfl
    have z : bit c (k + 0) = bit c k := rfl
    rw [e, z, show (2 : Int) ^ (0 + 1) = 2 from rfl]; omega
  | m + 1, k, bf => by
    have ih := vd_dgl (c := c) m (k + 1) (bit c k)
    rw [show dgl c k (m + 1 + 1) bf = (bf - bit c k) :: dgl c (k + 1) (m + 1) (bit c k) from rfl]
    unfold vd
    rw [ih]
    have hb := bit_rng c k
    have d2 := div_two c k
    have p := pow_pos (m + 1)
    have e : (c / 2 ^ k) % 2 ^ (m + 1 + 1) = bit c k + 2 * (c / 2 ^ (k + 1) % 2 ^ (m + 1)) := by
      have q1 := Int.emod_nonneg (c / 2 ^ (k + 1)) (show (2 : Int) ^ (m + 1) ≠ 0 by omega)
      have q2 := Int.emod_lt_of_pos (c / 2 ^ (k + 1)) p
      have q3 := Int.emod_add_mul_ediv (c / 2 ^ (k + 1)) (2 ^ (m + 1))
      have e2 : c / 2 ^ k = (bit c k + 2 * (c / 2 ^ (k + 1) % 2 ^ (m + 1))) + (c / 2 ^ (k + 1) / 2 ^ (m + 1)) * 2 ^ (m + 1 + 1) := by
        rw [Int.pow_succ 2 (m + 1), ← Int.mul_assoc, Int.mul_comm (c / 2 ^ (k + 1) / 2 ^ (m + 1))]; omega
      conv => lhs; lhs; rw [e2]
      rw [Int.add_mul_emod_self_right]
      exact Int.emod_eq_of_lt (by omega) (by rw [Int.pow_succ 2 (m + 1)]; omega)
    rw [e, show k + (m + 1) = k + 1 + m by omega, Int.pow_succ 2 (m + 1), Int.mul_comm (2 ^ (m + 1)) 2, Int.mul_assoc]
    omega
theorem vd_me {b : Nat} {c : Int} (h : Bt b) (hc : Bc b c) : vd (dgl c 0 b 0) = me b c := by
  obtain ⟨k, rfl⟩ : ∃ k, b = k + 1 := ⟨b - 1, by have := h.a; omega⟩
  have h1 := hc.a; have h2 := hc.b
  have p := pow_pos k
  have ps : (2 : Int) ^ (k + 1) = 2 * 2 ^ k := by rw [Int.pow_succ, Int.mul_comm]
  rw [vd_dgl, me_eq, Nat.add_sub_cancel, Nat.zero_add, show (2 : Int) ^ 0 = 1 from rfl, Int.ediv_one, Int.emod_eq_of_lt h1 h2]
  by_cases q : 2 ^ k ≤ c
  · have : c / 2 ^ k = 1 := by
      have a1 : 1 ≤ c / 2 ^ k := by rw [Int.le_ediv_iff_mul_le p]; omega
      have a2 : c / 2 ^ k < 2 := by rw [Int.ediv_lt_iff_lt_mul p]; omega
      omega
    rw [if_pos q]; unfold bit; rw [this]; omega
  · have : c / 2 ^ k = 0 := Int.ediv_eq_zero_of_lt h1 (by omega)
    rw [if_neg q]; unfold bit; rw [this]; omega
/-! sparse digits -/
def sd (x : Int) : Int := if decide (x % 2 = 1) = true then (if decide (x % 4 = 1) = true then 1 else -1) else 0
def spl : Nat → Int → List Int
  | 0, _ => []
  | k + 1, x => if x = 0 then [] else sd x :: spl k ((x - sd x) / 2)
theorem sd_eq (x : Int) : sd x = if x % 2 = 1 then (if x % 4 = 1 then 1 else -1) else 0 := by unfold sd; simp only [decide_eq_true_eq]
theorem sd_half {x : Int} (h : x ≠ 0) : ((x - sd x) / 2).natAbs < x.natAbs ∧ x = sd x + 2 * ((x - sd x) / 2) := by
  rw [sd_eq]; split
  · split <;> omega
  · omega
theorem sd_neg (x : Int) : sd (-x) = -sd x ∧ (-x - sd (-x)) / 2 = -((x - sd x) / 2) := by
  rw [sd_eq, sd_eq]; split <;> split <;> (try split) <;> (try split) <;> omega
theorem spl_vd : ∀ (k : Nat) (x : Int), x.natAbs < k → vd (spl k x) = x
  | 0, x, h => by omega
  | k + 1, x, h => by
    unfold spl
    split
    · next z => rw [z]; rfl
    · next z =>
      have := sd_half z
      unfold vd
      rw [spl_vd k _ (by omega)]
      omega
theorem spl_neg : ∀ (k : Nat) (x : Int), spl k (-x) = (spl k x).map (fun d => 0 - d)
  | 0, x => rfl
  | k + 1, x => by
    unfold spl
    by_cases z : x = 0
    · rw [if_pos z, if_pos (by omega)]; rfl
    · rw [if_neg z, if_neg (by omega), List.map_cons, (sd_neg x).2, spl_neg k, (sd_neg x).1, Int.zero_sub]
theorem spl_sm : ∀ (k : Nat) (x : Int), ∀ d ∈ spl k x, d = -1 ∨ d = 0 ∨ d = 1
  | 0, x, d, hd => by cases hd
  | k + 1, x, d, hd => by
    unfold spl at hd
    split at hd
    · cases hd
    · rcases List.mem_cons.mp hd with rfl | z
      · rw [sd_eq]; split
        · split <;> omega
        · omega
      · exact spl_sm k _ d z
/-- a sparse code has at most as many digits as bits, and one -/
theorem spl_len : ∀ (k j : Nat) (x : Int), x.natAbs < 2 ^ j → (spl k x).length ≤ j + 1
  | 0, j, x, h => by unfold spl; simp
  | k + 1, j, x, h => by
    unfold spl
    split
    · simp
    · next z =>
      cases j with
      | zero => rw [Nat.pow_zero] at h; omega
      | succ j =>
        rw [List.length_cons]
        by_cases q : ((x - sd x) / 2).natAbs < 2 ^ j
        · have := spl_len k j _ q; omega
        · -- just the power itself is left
          have e : x = sd x + 2 * ((x - sd x) / 2) := (sd_half z).2
          rw [Nat.pow_succ] at h
          have s : sd x = -1 ∨ sd x = 0 ∨ sd x = 1 := by rw [sd_eq]; split; split <;> omega; omega
          have y : ((x - sd x) / 2).natAbs = 2 ^ j := by omega
          cases k with
          | zero => unfold spl; simp
          | succ k =>
            have := spl_pow k j _ y
            omega
where
  spl_pow : ∀ (k j : Nat) (x : Int), x.natAbs = 2 ^ j → (spl (k + 1) x).length ≤ j + 1
  | k, 0, x, h => by
    rw [Nat.pow_zero] at h
    have : x = 1 ∨ x = -1 := by omega
    unfold spl
    rcases this with rfl | rfl
    · rw [if_neg (by decide), List.length_cons, show ((1 : Int) - sd 1) / 2 = 0 from rfl]
      cases k <;> simp [spl]
    · rw [if_neg (by decide), List.length_cons, show ((-1 : Int) - sd (-1)) / 2 = 0 from rfl]
      cases k <;> simp [spl]
  | k, j + 1, x, h => by
    rw [Nat.pow_succ] at h
    have s0 : sd x = 0 := by rw [sd_eq, if_neg (by omega)]
    unfold spl
    split
    · simp
    · rw [List.length_cons, s0]
      cases k with
      | zero => simp [spl]
      | succ k =>
        have := spl_pow k j ((x - 0) / 2) (by omega)
        omega
end K61

set_option Elab.async false
set_option linter.all false
set_option maxRecDepth 100000
/-! M15: digits run -/
namespace K61
open PySem PySem.Spec PyProof.Rows L2 Z
theorem g0 (o : O) : ([o] : Sto)[0]? = some o := rfl
theorem s0 (o u : O) : ([o] : Sto).set 0 u = [u] := rfl
theorem bi_tupr {S : Sto} {n : Nat} {xs : List D} (h : S[n]? = some (.lst xs)) : biW S .tuple [.d (.ref n)] = some (.d (.tup xs)) := by
  show (seqOf S (.d (.ref n))).map _ = _
  rw [seq_r h]; rfl
theorem lnlt {xs : List D} (h : xs.length ≤ 1000) : xs.length < LN := Nat.lt_of_le_of_lt h (by decide)
theorem exp_ints (cs : List Int) (S : Sto) : expW (.d (.tup (cs.map .int))) S = some (.d (.tup (cs.map .int))) := by
  show (if D.pure (.tup (cs.map .int)) then _ else _) = _
  simp only [D.pure, pures_ints, if_true]
theorem vd_c (d : Int) (ds : List Int) : vd (d :: ds) = d + 2 * vd ds := rfl
section
variable (F n : Nat) (S : Sto)
theorem dig_loop {b : Nat} {c : Int} : ∀ (m k : Nat) (bf : Int) (acc : List Int) (y z : Option D), k + m ≤ 40 → acc.length + m ≤ 900 →
    ∃ bf' y' z', forLoop [] (stp tab (callD F tab pg (n + 2)) F (.nm 4 "k") lp_digits1) (rngL (k : Nat) m) [some (.int b), some (.int c), some (.ref 0), some (.int bf), y, z] [.lst (acc.map .int)] =
      some (.nx, [some (.int b), some (.int c), some (.ref 0), some (.int bf'), y', z'], [.lst ((acc ++ dgl c k m bf).map .int)])
  | 0, k, bf, acc, y, z, _, _ => ⟨bf, y, z, by rw [rngL_zero, forLoop_nil _ _ (chkG_nil _)]; unfold dgl; rw [List.append_nil]⟩
  | m + 1, k, bf, acc, y, z, hk, hl => by
    obtain ⟨bf', y', z', hr⟩ := dig_loop (b := b) (c := c) m (k + 1) (bit c k) (acc ++ [bf - bit c k]) (some (.int k)) (some (.int (bit c k))) (by omega) (by rw [List.length_append]; simp; omega)
    refine ⟨bf', y', z', ?_⟩
    have fb : c / 2 ^ k % 2 = bit c k := rfl
    rw [rngL_succ, forLoop_cons _ _ _ _ (chkG_nil _), stp_e]
    unfold lp_digits1 at *
    simp (disch := first | (refine @id _ ?_; with_unfolding_all rfl) | assumption | omega) only [evl, sp_powf, tn_c, b_fdiv _ (dv_pow (show k ≤ 900 by omega)), b_mod _ (show (0 : Int) < 2 by omega), fb, e_app, g0, ls_s, kApp4_e _ (lnlt (show (acc.map D.int).length ≤ 1000 by rw [List.length_map]; omega)), s0]
    rw [show ((k : Nat) : Int) + 1 = ((k + 1 : Nat) : Int) by omega]
    rw [show (acc.map D.int ++ [D.int (bf - bit c k)]) = (acc ++ [bf - bit c k]).map .int by simp, hr]
    rw [show dgl c k (m + 1) bf = (bf - bit c k) :: dgl c (k + 1) m (bit c k) from rfl, List.append_assoc]
    rfl
theorem sp_digits {b : Nat} {c : Int} (h : Bt b) (hc : Bc b c) : callD F tab pg (n + 3) "digits" [.int b, .int c] S = some (.d (.tup ((dgl c 0 b 0).map .int)), S) := by
  refine call_px look_digits rfl rfl (w := .d (.tup ((dgl c 0 b 0).map .int))) (S' := [.lst ((dgl c 0 b 0).map .int)]) ?_ (exp_ints _ _) S
  rw [show env0 d_digits [.int b, .int c] = [some (.int b), some (.int c), none, none, none, none] from rfl]
  show fin (evS tab _ F s_digits _ _) = _
  unfold s_digits
  have := h.a; have := h.b
  obtain ⟨bf', y', z', hr⟩ := dig_loop F n (b := b) (c := c) b 0 0 [] none none (by omega) (by simp; omega)
  rw [List.nil_append] at hr
  simp (disch := first | (refine @id _ ?_; with_unfolding_all rfl) | assumption | omega) only [evl, sp_checkf _ _ _ h hc, rng_i (show 0 ≤ (b : Int) ∧ (b : Int) ≤ 1000000 by omega), tn_c, List.length_nil, List.nil_append]
  rw [show ([] : List Int).map D.int = [] from rfl, show ((0 : Nat) : Int) = 0 from rfl] at hr
  rw [hr]
  simp (disch := first | (refine @id _ ?_; with_unfolding_all rfl) | assumption | omega) only [evl, bi_tupr (g0 _)]
theorem sp_loop {b : Nat} {c : Int} (cl : Calls) : ∀ (k : Nat) (x : Int) (acc : List Int) (y : Option D), x.natAbs < k → acc.length + (spl k x).length ≤ 900 →
    ∃ x' y', whl tab cl F lt_sparse1 lp_sparse1 k [some (.int b), some (.int c), some (.int x), some (.ref 0), y] [.lst (acc.map .int)] =
      some (.nx, [some (.int b), some (.int c), some (.int x'), some (.ref 0), y'], [.lst ((acc ++ spl k x).map .int)]) := by
  intro k
  induction k with
  | zero => intro x acc y h _; omega
  | succ k ih =>
    intro x acc y h hl
    rw [whl_s]
    by_cases hx : x = 0
    · subst hx
      refine ⟨0, y, ?_⟩
      rw [show spl (k + 1) 0 = [] from rfl, List.append_nil]
      unfold lt_sparse1
      simp (disch := first | (refine @id _ ?_; with_unfolding_all rfl) | assumption | omega) only [evl, evq, eq_self, decide_true, Bool.not_true]
    · have hs : spl (k + 1) x = sd x :: spl k ((x - sd x) / 2) := if_neg hx
      rw [hs] at hl ⊢
      rw [List.length_cons] at hl
      have hh := sd_half hx
      obtain ⟨x', y', hr⟩ := ih ((x - sd x) / 2) (acc ++ [sd x]) (some (.int (sd x))) (by omega) (by rw [List.length_append]; simp; omega)
      refine ⟨x', y', ?_⟩
      rw [List.append_assoc] at hr
      rw [show acc ++ sd x :: spl k ((x - sd x) / 2) = acc ++ ([sd x] ++ spl k ((x - sd x) / 2)) from rfl, ← hr]
      unfold lt_sparse1 lp_sparse1
      have e2 : (acc ++ [sd x]).map D.int = acc.map D.int ++ [D.int (sd x)] := by simp
      rw [e2]
      cases b1 : decide (x % 2 = 1) <;> cases b2 : decide (x % 4 = 1) <;>
      simp (disch := first | (refine @id _ ?_; with_unfolding_all rfl) | assumption | omega) only [evl, evq, decide_eq_false hx, Bool.not_false, b_mod _ (show (0 : Int) < 2 by omega), b_mod _ (show (0 : Int) < 4 by omega), b1, b2, e_app, g0, ls_s, kApp4_e _ (lnlt (show (acc.map D.int).length ≤ 1000 by rw [List.length_map]; omega)), s0, b_fdiv _ (show divOk 2 = true from by decide), sd, if_true, Bool.false_eq_true, if_false]
theorem sp_sparse (hF : 2 ^ 900 ≤ F) {b : Nat} {c : Int} (h : Bt b) (hc : Bc b c) : callD F tab pg (n + 4) "sparse" [.int b, .int c] S = some (.d (.tup ((spl F (me b c)).map .int)), S) := by
  refine call_px look_sparse rfl rfl (w := .d (.tup ((spl F (me b c)).map .int))) (S' := [.lst ((spl F (me b c)).map .int)]) ?_ (exp_ints _ _) S
  rw [show env0 d_sparse [.int b, .int c] = [some (.int b), some (.int c), none, none, none] from rfl]
  show fin (evS tab _ F s_sparse _ _) = _
  unfold s_sparse
  have hm := me_rng h hc
  have hp := pow_32 h.b
  have ph := pow_half h
  have hFb : 2 ^ 33 ≤ F := Nat.le_trans (Nat.pow_le_pow_right (by decide) (by decide)) hF
  have hab : (me b c).natAbs < 2 ^ 33 := by omega
  have hlen := spl_len F 33 (me b c) hab
  obtain ⟨x', y', hr⟩ := sp_loop F (b := b) (c := c) (callD F tab pg (n + 3)) F (me b c) [] none (by omega) (by simp; omega)
  rw [List.nil_append] at hr
  rw [show ([] : List Int).map D.int = [] from rfl] at hr
  simp (disch := first | (refine @id _ ?_; with_unfolding_all rfl) | assumption | omega) only [evl, sp_meaning _ _ _ h hc, List.length_nil, List.nil_append, hr, bi_tupr (g0 _)]
theorem in3 (S : Sto) {d : Int} (h : d = -1 ∨ d = 0 ∨ d = 1) : inW S (.d (.int d)) (.d (.tup [.int (-1), .int 0, .int 1])) = some true := by
  simp (disch := first | (refine @id _ ?_; with_unfolding_all rfl) | assumption | omega) only [evl, evq]
  rcases h with rfl | rfl | rfl <;> rfl
theorem fd_all (cl : Calls) (ρ0 ρ1 ρ2 : Option D) (S : Sto) : ∀ (ds : List Int) (acc : List D), (∀ d ∈ ds, d = -1 ∨ d = 0 ∨ d = 1) → acc.length + ds.length ≤ 1000 →
    lcLoop [] (lcStep tab cl [("digit", 2)] ce_from_digits1 (.nm 2 "digit") .nil [ρ0, ρ1, ρ2]) (ds.map .int) acc S = some (acc ++ ds.map (fun _ => .bl true), S)
  | [], acc, _, _ => by rw [List.map_nil, lcLoop_nil _ _ (chkG_nil S)]; simp
  | d :: ds, acc, hd, hl => by
    rw [List.length_cons] at hl
    rw [List.map_cons, lcLoop_cons _ _ _ _ (chkG_nil S), lcStep_e]
    have hw : wipeD [ρ0, ρ1, ρ2] (List.map (·.2) [(("digit" : Str), 2)]) = [ρ0, ρ1, none] := rfl
    rw [hw]
    have ih := fd_all cl ρ0 ρ1 ρ2 S ds (acc ++ [.bl true]) (fun x hx => hd x (List.mem_cons_of_mem _ hx)) (by rw [List.length_append]; simp; omega)
    unfold ce_from_digits1 at *
    simp (disch := first | (refine @id _ ?_; with_unfolding_all rfl) | assumption | omega) only [evl, c_in, in3 S (hd d List.mem_cons_self)]
    rw [kLl_s _ _ _ _ _ (lnlt (by omega)), ih]
    simp
theorem bls_true : ∀ ds : List Int, blsOf (ds.map fun _ => D.bl true) = some (ds.map fun _ => true)
  | [] => rfl
  | d :: ds => by rw [List.map_cons]; unfold blsOf; rw [bls_true ds]; rfl
theorem all_true (S : Sto) (ds : List Int) : biW S .all [.tmp (ds.map fun _ => D.bl true)] = some (.d (.bl true)) := by
  show ((lstOf S (.tmp _)).bind fun xs => (blsOf xs).map fun bs => W.d (.bl (bs.all id))) = _
  rw [show lstOf S (.tmp (ds.map fun _ => D.bl true)) = some (ds.map fun _ => D.bl true) from rfl]
  simp [bls_true]
theorem rev_t (S : Sto) (xs : List D) : revW S (.d (.tup xs)) = some (.d (.tup xs.reverse)) := rfl
theorem fd_loop (cl : Calls) (S : Sto) (r : D) : ∀ (ds : List Int) (v : Int) (y : Option D), ∃ y', forLoop [] (stp tab cl F (.nm 2 "digit") lp_from_digits1) (ds.map .int) [some r, some (.int v), y] S = some (.nx, [some r, some (.int (ds.foldl (fun f d => 2 * f + d) v)), y'], S)
  | [], v, y => ⟨y, by rw [List.map_nil, forLoop_nil _ _ (chkG_nil S)]; rfl⟩
  | d :: ds, v, y => by
    obtain ⟨y', hr⟩ := fd_loop cl S r ds (2 * v + d) (some (.int d))
    refine ⟨y', ?_⟩
    rw [List.map_cons, forLoop_cons _ _ _ _ (chkG_nil S), stp_e]
    unfold lp_from_digits1 at *
    simp (disch := first | (refine @id _ ?_; with_unfolding_all rfl) | assumption | omega) only [evl, b_mul _ (mo (a := 2) (by omega) (by omega) _)]
    exact hr
theorem vd_fold : ∀ ds : List Int, ds.foldr (fun d f => 2 * f + d) 0 = vd ds
  | [] => rfl
  | d :: ds => by rw [List.foldr_cons, vd_fold ds, vd_c]; omega
theorem pures_int1 (cs : List Int) : (true && D.pures [.tup (cs.map .int)]) = true := by simp only [D.pures, D.pure, pures_ints, Bool.and_self]
theorem sp_fromd {ds : List Int} (hd : ∀ d ∈ ds, d = -1 ∨ d = 0 ∨ d = 1) (hl : ds.length ≤ 900) : callD F tab pg (n + 1) "from_digits" [.tup (ds.map .int)] S = some (.d (.int (vd ds)), S) := by
  refine call_px look_from_digits rfl (pures_int1 ds) (w := .d (.int (vd ds))) (S' := []) ?_ rfl S
  rw [show env0 d_from_digits [.tup (ds.map .int)] = [some (.tup (ds.map .int)), none, none] from rfl]
  show fin (evS tab _ F s_from_digits _ _) = _
  unfold s_from_digits
  obtain ⟨y', hr⟩ := fd_loop F (callD F tab pg n) [] (.tup (ds.map .int)) ds.reverse 0 none
  rw [List.foldl_reverse, vd_fold, List.map_reverse] at hr
  simp (disch := first | (refine @id _ ?_; with_unfolding_all rfl) | assumption | omega) only [evl, e_lc, fd_all (callD F tab pg n) (some (.tup (ds.map .int))) none none [] ds [] hd (by simp; omega), List.nil_append, all_true, Bool.not_true, rev_t, hr]
/-! products by digits -/
def eL : Nat → List Int → List D
  | _, [] => []
  | k, d :: ds => .tup [.int (k : Nat), .int d] :: eL (k + 1) ds
theorem eL_eq : ∀ (ds : List Int) (k : Nat), eL k ds = (List.range ds.length).map fun i => D.tup [.int ((k + i : Nat) : Int), (ds.map D.int).getD i .non]
  | [], k => rfl
  | d :: ds, k => by
    unfold eL
    rw [eL_eq ds (k + 1), List.length_cons, List.range_succ_eq_map, List.map_cons, List.map_map]
    congr 1
    apply List.map_congr_left
    intro i _
    show D.tup _ = D.tup _
    rw [show k + 1 + i = k + (i + 1) by omega]
    rfl
theorem enum_ints (ds : List Int) : enumL (ds.map .int) = eL 0 ds := by
  rw [eL_eq]
  unfold enumL
  rw [List.length_map]
  apply List.map_congr_left
  intro i _
  rw [Nat.zero_add]
theorem bd_loop {b : Nat} (h : Bt b) {x y m : Int} (hm : -(2 ^ 40) < m ∧ m < 2 ^ 40) (t : D) : ∀ (ds : List Int) (k : Nat) (v : Int) (p q : Option D), (∀ d ∈ ds, -1 ≤ d ∧ d ≤ 1) → k + ds.length ≤ 33 →
    ∃ p' q', forLoop [] (stp tab (callD F tab pg (n + 3)) F (.tup (.cons (.nm 6 "k") (.cons (.nm 7 "digit") .nil))) lp_by_digits1) (eL k ds) [some (.int b), some (.int x), some (.int y), some t, some (.int m), some (.int v), p, q] S =
      some (.nx, [some (.int b), some (.int x), some (.int y), some t, some (.int m), some (.int (v + m * (2 ^ k * vd ds))), p', q'], S)
  | [], k, v, p, q, _, _ => ⟨p, q, by unfold eL; rw [forLoop_nil _ _ (chkG_nil S)]; unfold vd; simp⟩
  | d :: ds, k, v, p, q, hd, hk => by
    rw [List.length_cons] at hk
    have hd1 := hd d List.mem_cons_self
    obtain ⟨p', q', hr⟩ := bd_loop h (x := x) (y := y) hm t ds (k + 1) (v + d * m * 2 ^ k) (some (.int k)) (some (.int d)) (fun z hz => hd z (List.mem_cons_of_mem _ hz)) (by omega)
    refine ⟨p', q', ?_⟩
    have pk := pow_pos k
    have pk2 := pow_le (show k ≤ 33 by omega)
    unfold eL
    rw [forLoop_cons _ _ _ _ (chkG_nil S), stp_e]
    unfold lp_by_digits1 at *
    simp (disch := first | (refine @id _ ?_; with_unfolding_all rfl) | assumption | omega) only [evl, b_mul _ (mo (a := d) (by omega) (by omega) _), sp_powf, tn_c, b_mul _ (mo' (b := 2 ^ k) (by omega) (by omega) _)]
    rw [hr, vd_c]
    have e1 : m * (2 ^ k * (d + 2 * vd ds)) = d * m * 2 ^ k + m * (2 ^ (k + 1) * vd ds) := by
      rw [Int.mul_add (2 ^ k) d, Int.mul_add m, Int.pow_succ, Int.mul_assoc (2 ^ k) 2, Int.mul_comm d m, Int.mul_assoc m d, Int.mul_comm d]
    rw [e1, Int.add_assoc]
theorem bd_cnt (cl : Calls) {a0 a1 a2 a3 a4 a5 a6 a7 : Option D} : ∀ (ds : List Int) (acc : List D), acc.length + ds.length ≤ 1000 → ∃ r, lcLoop [] (lcStep tab cl [("digit", 7)] ce_by_digits1 (.nm 7 "digit") ct_by_digits1 [a0, a1, a2, a3, a4, a5, a6, a7]) (ds.map .int) acc S = some (r, S)
  | [], acc, _ => ⟨acc, by rw [List.map_nil, lcLoop_nil _ _ (chkG_nil S)]⟩
  | d :: ds, acc, hl => by
    rw [List.length_cons] at hl
    rw [List.map_cons, lcLoop_cons _ _ _ _ (chkG_nil S), lcStep_e]
    have hw : wipeD [a0, a1, a2, a3, a4, a5, a6, a7] (List.map (·.2) [(("digit" : Str), 7)]) = [a0, a1, a2, a3, a4, a5, a6, none] := rfl
    rw [hw]
    cases q : decide (d = 0)
    · obtain ⟨r, hr⟩ := bd_cnt cl (a0 := a0) (a1 := a1) (a2 := a2) (a3 := a3) (a4 := a4) (a5 := a5) (a6 := a6) (a7 := a7) ds (acc ++ [.int d]) (by rw [List.length_append]; simp; omega)
      refine ⟨r, ?_⟩
      unfold ce_by_digits1 ct_by_digits1 at *
      simp (disch := first | (refine @id _ ?_; with_unfolding_all rfl) | assumption | omega) only [evl, evq, q, Bool.not_false]
      rw [kLl_s _ _ _ _ _ (lnlt (by omega)), hr]
    · obtain ⟨r, hr⟩ := bd_cnt cl (a0 := a0) (a1 := a1) (a2 := a2) (a3 := a3) (a4 := a4) (a5 := a5) (a6 := a6) (a7 := a7) ds acc (by omega)
      refine ⟨r, ?_⟩
      unfold ce_by_digits1 ct_by_digits1 at *
      simp (disch := first | (refine @id _ ?_; with_unfolding_all rfl) | assumption | omega) only [evl, evq, q, Bool.not_true]
      exact hr
theorem sp_byd {b : Nat} {x y : Int} (h : Bt b) (hx : Bc b x) (hy : Bc b y) : ∃ m : Int, ∀ S, callD F tab pg (n + 4) "by_digits" [.int b, .int x, .int y] S = some (.d (.tup [.int (me b x * me b y), .int m]), S) := by
  have hm := me_sm h hx
  have := h.a; have := h.b
  obtain ⟨p', q', hr⟩ := bd_loop F n [] h (x := x) (y := y) hm (.tup ((dgl y 0 b 0).map .int)) (dgl y 0 b 0) 0 0 none none (dgl_sm y 0 b 0 (by omega) (by omega)) (by rw [dgl_len]; omega)
  obtain ⟨r, hc⟩ := bd_cnt [] (callD F tab pg (n + 3)) (a0 := some (.int b)) (a1 := some (.int x)) (a2 := some (.int y)) (a3 := some (.tup ((dgl y 0 b 0).map .int))) (a4 := some (.int (me b x))) (a5 := some (.int (me b x * me b y))) (a6 := p') (a7 := q') (dgl y 0 b 0) [] (by rw [dgl_len]; simp; omega)
  rw [vd_me h hy, show (0 : Int) + me b x * (2 ^ 0 * me b y) = me b x * me b y by rw [show (2 : Int) ^ 0 = 1 from rfl, Int.one_mul, Int.zero_add]] at hr
  refine ⟨r.length, fun S => ?_⟩
  refine call_px look_by_digits rfl rfl (w := .d (.tup [.int (me b x * me b y), .int r.length])) (S' := []) ?_ rfl S
  rw [show env0 d_by_digits [.int b, .int x, .int y] = [some (.int b), some (.int x), some (.int y), none, none, none, none, none] from rfl]
  show fin (evS tab _ F s_by_digits _ _) = _
  unfold s_by_digits
  simp (disch := first | (refine @id _ ?_; with_unfolding_all rfl) | assumption | omega) only [evl, sp_checkf _ _ _ h hx, sp_digits _ _ _ h hy, sp_meaning _ _ _ h hx, enum_ints, hr, e_lc, hc]
end
end K61

set_option Elab.async false
set_option linter.all false
set_option maxRecDepth 100000
/-! M16: the law's part on figures; the law -/
namespace K61
open PySem PySem.Spec PyProof.Rows L2 Z
theorem pys_ints (cs : List Int) : PyData.canLayAll0 (D.pys (cs.map .int)) = true ∧ PyData.depthAll (D.pys (cs.map .int)) = 0 := by
  induction cs with
  | nil => exact ⟨rfl, rfl⟩
  | cons c cs ih =>
    rw [List.map_cons, ys_c, y_int]
    refine ⟨?_, ?_⟩
    · unfold PyData.canLayAll0; rw [ih.1]; rfl
    · unfold PyData.depthAll; rw [ih.2]; unfold PyData.depth; rfl
theorem shaped_ints (cs : List Int) : SeqAt.shaped (D.py (.tup (cs.map .int))) = true := by
  rw [y_tup]
  unfold SeqAt.shaped PyData.canLay0 PyData.depth
  rw [(pys_ints cs).1, (pys_ints cs).2]; rfl
theorem eqv_ints (cs : List Int) : PyData.eqvAll (D.pys (cs.map .int)) (D.pys (cs.map .int)) = true := by
  induction cs with
  | nil => rw [List.map_nil, ys_n, va_nn]
  | cons c cs ih => rw [List.map_cons, ys_c, va_cc, y_int, v_ii, ih]; simp
theorem q_ints (S : Sto) (cs : List Int) : eqW S (.d (.tup (cs.map .int))) (.d (.tup (cs.map .int))) = some true := by
  have p : (D.tup (cs.map .int)).pure = true := by simp only [D.pure, pures_ints]
  rw [eqp S _ _ p p (shaped_ints cs) (shaped_ints cs), y_tup, v_tt, eqv_ints]
theorem cut4 (a b c d : D) (S : Sto) : slW S (.d (.tup [a, b, c, d])) (some 1) none = some (.d (.tup [b, c, d])) := by rfl
section
variable (F n : Nat)
theorem neg_loop (cl : Calls) (S : Sto) (a0 a1 a2 a3 a4 a5 a6 a7 a8 a9 a10 : Option D) : ∀ (ds : List Int) (acc : List D), acc.length + ds.length ≤ 1000 →
    lcLoop [] (lcStep tab cl [("digit", 10)] ce_law_figures_right1 (.nm 10 "digit") .nil [a0, a1, a2, a3, a4, a5, a6, a7, a8, a9, a10]) (ds.map .int) acc S = some (acc ++ (ds.map (fun d => 0 - d)).map .int, S)
  | [], acc, _ => by rw [List.map_nil, lcLoop_nil _ _ (chkG_nil S)]; simp
  | d :: ds, acc, hl => by
    rw [List.length_cons] at hl
    rw [List.map_cons, lcLoop_cons _ _ _ _ (chkG_nil S), lcStep_e]
    have hw : wipeD [a0, a1, a2, a3, a4, a5, a6, a7, a8, a9, a10] (List.map (·.2) [(("digit" : Str), 10)]) = [a0, a1, a2, a3, a4, a5, a6, a7, a8, a9, none] := rfl
    rw [hw]
    have ih := neg_loop cl S a0 a1 a2 a3 a4 a5 a6 a7 a8 a9 a10 ds (acc ++ [.int (0 - d)]) (by rw [List.length_append]; simp; omega)
    unfold ce_law_figures_right1 at *
    simp (disch := first | (refine @id _ ?_; with_unfolding_all rfl) | assumption | omega) only [evl, ]
    rw [kLl_s _ _ _ _ _ (lnlt (by omega)), ih]
    simp
theorem whole_loop (cl : Calls) (S : Sto) (a0 a1 a4 a5 a6 a7 a8 a9 a10 : Option D) : ∀ (xs : List D) (v : Int) (y : Option D), ∃ y', forLoop [] (stp tab cl F (.nm 3 "k") lp_law_figures_right1) xs [a0, a1, some (.int v), y, a4, a5, a6, a7, a8, a9, a10] S = some (.nx, [a0, a1, some (.int (v * 2 ^ xs.length)), y', a4, a5, a6, a7, a8, a9, a10], S)
  | [], v, y => ⟨y, by rw [forLoop_nil _ _ (chkG_nil S)]; simp⟩
  | x :: xs, v, y => by
    obtain ⟨y', h⟩ := whole_loop cl S a0 a1 a4 a5 a6 a7 a8 a9 a10 xs (2 * v) (some x)
    refine ⟨y', ?_⟩
    rw [forLoop_cons _ _ _ _ (chkG_nil S), stp_e]
    unfold lp_law_figures_right1 at *
    simp (disch := first | (refine @id _ ?_; with_unfolding_all rfl) | assumption | omega) only [evl, b_mul _ (mo (a := 2) (by omega) (by omega) _)]
    rw [h, List.length_cons, Int.pow_succ]
    congr 7
    rw [Int.mul_comm 2 v, Int.mul_assoc, Int.mul_comm 2]
theorem sp_figures (hF : 2 ^ 900 ≤ F) {ti : Nat} {S : Sto} (t : TapeOk ti S) : ∃ S', callD F tab pg (n + 6) "_law_figures_right" [.ref ti] S = some (.d (.bl true), S') ∧ TapeOk ti S' := by
  rw [call_im look_law_figures_right rfl rfl, show env0 d_law_figures_right [.ref ti] = [some (.ref ti), none, none, none, none, none, none, none, none, none, none] from rfl]
  show ∃ S', fin (evS tab _ F s_law_figures_right _ _) = _ ∧ _
  unfold s_law_figures_right
  obtain ⟨r1, S1, h1, u1, u2, t1⟩ := sp_take F (n + 4) (many := 32) t (by decide) (by decide)
  -- bits
  obtain ⟨b, hb⟩ : ∃ b : Nat, 1 + r1 = (b : Int) := ⟨(1 + r1).toNat, by omega⟩
  have B : Bt b := ⟨by omega, by omega⟩
  have pb := pow_pos b
  have p2 := pow_half B
  obtain ⟨y', hl⟩ := whole_loop F (callD F tab pg (n + 5)) S1 (some (.ref ti)) (some (.int b)) none none none none none none none (rngL 0 b) 1 none
  rw [rngL_len, Int.one_mul] at hl
  obtain ⟨x, S2, h2, v1, v2, t2⟩ := sp_take F (n + 4) (many := 2 ^ b) t1 pb (dv_pow (by have := B.b; omega))
  obtain ⟨y, S3, h3, w1, w2, t3⟩ := sp_take F (n + 4) (many := 2 ^ b) t2 pb (dv_pow (by have := B.b; omega))
  have X : Bc b x := ⟨v1, v2⟩
  have Y : Bc b y := ⟨w1, w2⟩
  have mx := me_sm B X; have my := me_sm B Y
  have rx := me_rng B X
  have lx : (spl F (me b x)).length ≤ 34 := spl_len F 33 (me b x) (by have := pow_32 B.b; omega)
  have fx : (me b x).natAbs < F := Nat.lt_of_lt_of_le (show (me b x).natAbs < 2 ^ 33 by have := pow_32 B.b; omega) (Nat.le_trans (Nat.pow_le_pow_right (by decide) (by decide)) hF)
  have vx := spl_vd F (me b x) fx
  obtain ⟨m1, d1⟩ := sp_byd F (n + 1) B X Y
  have e1 : (x + (2 ^ b - 1 - x) + 1) % 2 ^ b = 0 := by rw [show x + (2 ^ b - 1 - x) + 1 = 2 ^ b by omega, Int.emod_self]
  have Z1 := mod_bc (b := b) (x + (2 ^ b - 1 - y) + 1)
  have e2 : ((x + (2 ^ b - 1 - y) + 1) % 2 ^ b + y) % 2 ^ b = x := by
    rw [Int.emod_add_emod, show x + (2 ^ b - 1 - y) + 1 + y = x + 2 ^ b by omega, Int.add_emod_right]
    exact Int.emod_eq_of_lt v1 v2
  have cm1 : y + x = x + y := Int.add_comm ..
  have cm2 : me b y + me b x = me b x + me b y := Int.add_comm ..
  refine ⟨S3, ?_, t3⟩
  -- the end
  have tail : ∀ (a2 a3 a6 a7 a8 a9 a10 : Option D), fin (evS tab (callD F tab pg (n + 5)) F (.cons (.ret (.and (.cons (.cmp .eq (.ix (.call "taken_off" (.cons (.var 1 "bits") (.cons (.var 4 "one") (.cons (.var 4 "one") .nil)))) (.cI 0)) (.cI 0)) (.cons (.cmp .eq (.ix (.call "added" (.cons (.var 1 "bits") (.cons (.ix (.call "taken_off" (.cons (.var 1 "bits") (.cons (.var 4 "one") (.cons (.var 5 "other") .nil)))) (.cI 0)) (.cons (.var 5 "other") .nil)))) (.cI 0)) (.var 4 "one")) .nil)))) .nil)
      [some (.ref ti), some (.int b), a2, a3, some (.int x), some (.int y), a6, a7, a8, a9, a10] S3) = some (.d (.bl true), S3) := by
    intro a2 a3 a6 a7 a8 a9 a10
    simp (disch := first | (refine @id _ ?_; with_unfolding_all rfl) | assumption | omega) only [evl, sp_taken _ _ _ B X X, sp_taken _ _ _ B X Y, fl4, e1, sp_added _ _ _ B Z1 Y, e2, evq, eq_self, decide_true]
  have t0 := tail (some (.int (2 ^ b))) y' (some (.int (me b x))) (some (.int (me b y)))
  have n1 : ∀ t1, co b (0 - me b x) = some t1 → Bc b t1 ∧ me b t1 = 0 - me b x ∧ t1 = (0 - me b x) % 2 ^ b := fun t1 h => co_some B h
  have n2 : ∀ t1, co b (0 - me b y) = some t1 → Bc b t1 ∧ me b t1 = 0 - me b y ∧ t1 = (0 - me b y) % 2 ^ b := fun t1 h => co_some B h
  have sn := spl_neg F (me b x)
  rw [← Int.zero_sub] at sn
  have nl := fun a6 a7 a8 a9 a10 => neg_loop (callD F tab pg (n + 5)) S3 (some (.ref ti)) (some (.int b)) (some (.int (2 ^ b))) y' (some (.int x)) (some (.int y)) a6 a7 a8 a9 a10 (spl F (me b x)) [] (by simp; omega)
  simp only [List.nil_append] at nl
  have fe : ∀ t2, co b (0 - me b y) = some t2 → (x + (2 ^ b - 1 - t2) + 1) % 2 ^ b = (x + y) % 2 ^ b ∧ me b x - me b t2 = me b x + me b y := by
    intro t2 h
    obtain ⟨_, q2, q3⟩ := n2 t2 h
    refine ⟨?_, by omega⟩
    have ry := me_rng B Y
    have ey := me_eq b y
    have q5 := Int.emod_add_mul_ediv (0 - me b y) (2 ^ b)
    rw [← q3] at q5
    have q6 : (x + (2 ^ b - 1 - t2) + 1) = (x + y) + (1 + (0 - me b y) / 2 ^ b - (if 2 ^ (b - 1) ≤ y then 1 else 0)) * 2 ^ b := by
      rw [Int.sub_mul, Int.add_mul, Int.one_mul, Int.mul_comm ((0 - me b y) / 2 ^ b)]
      split at ey
      · next z => rw [if_pos z]; omega
      · next z => rw [if_neg z]; omega
    rw [q6, Int.add_mul_emod_self_right]
  cases c1 : co b (0 - me b x) with
  | none =>
    cases c2 : co b (0 - me b y) with
    | none =>
      have tt := t0 (some .non) (some .non) none
      simp (disch := first | (refine @id _ ?_; with_unfolding_all rfl) | assumption | omega) only [evl, ] at tt
      simp (disch := first | (refine @id _ ?_; with_unfolding_all rfl) | assumption | omega) only [evl, h1, hb, rng_i (show 0 ≤ (b : Int) ∧ (b : Int) ≤ 1000000 by have := B.b; omega), tn_c, hl, h2, h3, sp_meaning _ _ _ B X, sp_meaning _ _ _ B Y, sp_codeof _ _ _ B, c1, c2, oD, sp_added _ _ _ B X Y, sp_added _ _ _ B Y X, cm1, cm2, fl4, evq, eq_self, decide_true, Bool.and_true, Bool.not_true, sp_sparse _ _ _ hF B X, sp_fromd _ _ _ (spl_sm F (me b x)) (show (spl F (me b x)).length ≤ 900 by omega), vx, isns]
      exact tt
    | some t2 =>
      obtain ⟨T2, q2, q3⟩ := n2 t2 c2
      obtain ⟨f1, f2⟩ := fe t2 c2
      obtain ⟨m3, d3⟩ := sp_byd F (n + 1) B X T2
      have tt := t0 (some .non) (some (.int t2)) none
      have e3 : me b x * me b t2 = 0 - me b x * me b y := by rw [q2, Int.zero_sub, Int.mul_neg, Int.zero_sub]
      simp (disch := first | (refine @id _ ?_; with_unfolding_all rfl) | assumption | omega) only [evl, ] at tt
      simp (disch := first | (refine @id _ ?_; with_unfolding_all rfl) | assumption | omega) only [evl, h1, hb, rng_i (show 0 ≤ (b : Int) ∧ (b : Int) ≤ 1000000 by have := B.b; omega), tn_c, hl, h2, h3, sp_meaning _ _ _ B X, sp_meaning _ _ _ B Y, sp_codeof _ _ _ B, c1, c2, oD, sp_added _ _ _ B X Y, sp_added _ _ _ B Y X, cm1, cm2, fl4, evq, eq_self, decide_true, Bool.and_true, Bool.not_true, sp_sparse _ _ _ hF B X, sp_fromd _ _ _ (spl_sm F (me b x)) (show (spl F (me b x)).length ≤ 900 by omega), vx, isns, sp_taken _ _ _ B X T2, f1, f2, d3, e3, b_mul _ (mo mx.1 mx.2 _), cut4]
      exact tt
  | some t1 =>
    obtain ⟨T1, g2, g3⟩ := n1 t1 c1
    obtain ⟨m4, d4⟩ := sp_byd F (n + 1) B T1 Y
    have e4 : me b t1 * me b y = 0 - me b x * me b y := by rw [g2, Int.zero_sub, Int.neg_mul, Int.zero_sub]
    rw [g2] at e4 d4
    cases c2 : co b (0 - me b y) with
    | none =>
      have tt := t0 (some (.int t1)) (some .non) none
      simp (disch := first | (refine @id _ ?_; with_unfolding_all rfl) | assumption | omega) only [evl, ] at tt
      simp (disch := first | (refine @id _ ?_; with_unfolding_all rfl) | assumption | omega) only [evl, h1, hb, rng_i (show 0 ≤ (b : Int) ∧ (b : Int) ≤ 1000000 by have := B.b; omega), tn_c, hl, h2, h3, sp_meaning _ _ _ B X, sp_meaning _ _ _ B Y, sp_codeof _ _ _ B, c1, c2, oD, sp_added _ _ _ B X Y, sp_added _ _ _ B Y X, cm1, cm2, fl4, evq, eq_self, decide_true, Bool.and_true, Bool.not_true, sp_sparse _ _ _ hF B X, sp_fromd _ _ _ (spl_sm F (me b x)) (show (spl F (me b x)).length ≤ 900 by omega), vx, isns, sp_sparse _ _ _ hF B T1, g2, sn, e_lc, nl, q_ints, c_ne, d1, d4, e4]
      exact tt
    | some t2 =>
      obtain ⟨T2, q2, q3⟩ := n2 t2 c2
      obtain ⟨f1, f2⟩ := fe t2 c2
      obtain ⟨m3, d3⟩ := sp_byd F (n + 1) B X T2
      have e3 : me b x * me b t2 = 0 - me b x * me b y := by rw [q2, Int.zero_sub, Int.mul_neg, Int.zero_sub]
      have tt := t0 (some (.int t1)) (some (.int t2)) none
      simp (disch := first | (refine @id _ ?_; with_unfolding_all rfl) | assumption | omega) only [evl, ] at tt
      simp (disch := first | (refine @id _ ?_; with_unfolding_all rfl) | assumption | omega) only [evl, h1, hb, rng_i (show 0 ≤ (b : Int) ∧ (b : Int) ≤ 1000000 by have := B.b; omega), tn_c, hl, h2, h3, sp_meaning _ _ _ B X, sp_meaning _ _ _ B Y, sp_codeof _ _ _ B, c1, c2, oD, sp_added _ _ _ B X Y, sp_added _ _ _ B Y X, cm1, cm2, fl4, evq, eq_self, decide_true, Bool.and_true, Bool.not_true, sp_sparse _ _ _ hF B X, sp_fromd _ _ _ (spl_sm F (me b x)) (show (spl F (me b x)).length ≤ 900 by omega), vx, isns, sp_sparse _ _ _ hF B T1, g2, sn, e_lc, nl, q_ints, c_ne, d1, d4, e4, sp_taken _ _ _ B X T2, f1, f2, d3, e3, b_mul _ (mo mx.1 mx.2 _), cut4]
      exact tt
end
end K61

set_option Elab.async false
set_option linter.all false
set_option maxRecDepth 100000
/-! M17: the law holds -/
namespace K61
open PySem PySem.Spec PyProof.Rows L2 Z
section
variable (F n : Nat)
theorem law_loop (hF : 2 ^ 900 ≤ F) (a0 : Option D) : ∀ (xs : List D) (y2 y3 y4 y5 y6 : Option D) (S : Sto), TapeOk 1 S → ∃ (ρ' : Z.Env) (S' : Sto), forLoop [] (stp tab (callD F tab pg (n + 11)) F (.nm 2 "turn") lp_law1) xs [a0, some (.ref 1), y2, y3, y4, y5, y6] S = some (.nx, ρ', S')
  | [], y2, y3, y4, y5, y6, S, t => ⟨_, S, by rw [forLoop_nil _ _ (chkG_nil S)]⟩
  | x :: xs, y2, y3, y4, y5, y6, S, t => by
    obtain ⟨r1, S1, h1, u1, u2, t1⟩ := sp_take F (n + 10) (many := 4) t (by decide) (by decide)
    obtain ⟨r2, S2, h2, v1, v2, t2⟩ := sp_take F (n + 10) (many := 8) t1 (by decide) (by decide)
    obtain ⟨e, he⟩ : ∃ e : Nat, 2 + r1 = (e : Int) := ⟨(2 + r1).toNat, by omega⟩
    obtain ⟨p, hp⟩ : ∃ p : Nat, 1 + r2 = (p : Int) := ⟨(1 + r2).toNat, by omega⟩
    have h : Fm e p := ⟨by omega, by omega, by omega, by omega⟩
    obtain ⟨r3, S3, h3, w1, w2, t3⟩ := sp_take F (n + 10) (many := 4) t2 (by decide) (by decide)
    obtain ⟨a, S4, h4, ha, t4⟩ := sp_code F (n + 8) h t3
    obtain ⟨b, S5, h5, hb, t5⟩ := sp_code F (n + 8) h t4
    have kk : r3 = 0 ∨ r3 = 1 ∨ r3 = 2 ∨ r3 = 3 := by omega
    obtain ⟨w, hw, hr3⟩ : ∃ w : Wd, IsWay w ∧ atI [D.str Wd.even.s, D.str Wd.zero.s, D.str Wd.up.s, D.str Wd.down.s] r3 = some (.str w.s) := by
      rcases kk with rfl | rfl | rfl | rfl
      · exact ⟨.even, .inl rfl, at_lit0 ..⟩
      · exact ⟨.zero, .inr (.inl rfl), at_lit1 ..⟩
      · exact ⟨.up, .inr (.inr (.inl rfl)), at_lit2 ..⟩
      · exact ⟨.down, .inr (.inr (.inr rfl)), at_lit3 ..⟩
    obtain ⟨S6, h6, t6⟩ := sp_rright F n hF h hw t5
    obtain ⟨S7, h7, t7⟩ := sp_figures F (n + 5) hF t6
    obtain ⟨ρ', S', hr⟩ := law_loop hF a0 xs (some x) (some (fm e p)) (some (.str w.s)) (some (.int a)) (some (.int b)) S7 t7
    refine ⟨ρ', S', ?_⟩
    rw [forLoop_cons _ _ _ _ (chkG_nil S), stp_e]
    unfold lp_law1 at *
    simp (disch := first | (refine @id _ ?_; with_unfolding_all rfl) | assumption | omega) only [evl, h1, h2, he, hp, h3, lits, hr3, h4, h5, sp_sums _ _ _ hF h ha hb hw, sp_products _ _ _ hF h ha hb hw, sp_order _ _ _ hF h ha hb, Bool.not_true, h6, h7]
    simp only [lits] at hr
    exact hr
theorem sp_law (hF : 2 ^ 900 ≤ F) (ns : List Int) (hn : ns.length ≤ 63) : ∃ S', callD F tab pg (n + 12) "law" [.fz (ns.map .int)] [] = some (.d (.bl true), S') := by
  obtain ⟨S1, h1, t1⟩ := sp_tape F (n + 10) ns (by omega)
  obtain ⟨r, S2, h2, u1, u2, t2⟩ := sp_take F (n + 10) (many := 6) t1 (by decide) (by decide)
  obtain ⟨ρ', S3, hl⟩ := law_loop F n hF (some (.fz (ns.map .int))) (rngL 0 (1 + r).toNat) none none none none none S2 t2
  have hp : (d_law.px && D.pures [D.fz (ns.map D.int)]) = true := by
    show (true && D.pures [D.fz (ns.map D.int)]) = true
    simp only [D.pures, D.pure, pures_ints, Bool.and_self]
  refine ⟨[], call_px look_law rfl hp (w := .d (.bl true)) (S' := S3) ?_ rfl []⟩
  rw [show env0 d_law [.fz (ns.map .int)] = [some (.fz (ns.map .int)), none, none, none, none, none, none] from rfl]
  show fin (evS tab _ F s_law _ _) = _
  unfold s_law
  simp (disch := first | (refine @id _ ?_; with_unfolding_all rfl) | assumption | omega) only [evl, h1, h2, rng_i (show 0 ≤ 1 + r ∧ 1 + r ≤ 1000000 by omega), hl]
end
theorem main : ∀ ns : List Int, ns.length ≤ 63 → ∃ S', Z.callD (2 ^ 950) K61.tab K61.pg (30 + 1) Z.lawName [.fz (ns.map Z.D.int)] [] = some (.d (.bl true), S') := fun ns hn =>
  sp_law (2 ^ 950) 19 (Nat.pow_le_pow_right (by decide) (by decide)) ns hn
end K61

open PySem PySem.W PyProof.Rows
set_option maxHeartbeats 0 in
theorem PySem.Challenge.cw_machinehall_k61_whole_signs_turned_holds : PySem.Challenge.rw_machinehall_k61_whole_signs_turned.Holds := by
  w_on; o_law; k_head; (case hw => w_witness2)
  k_fill
  refine L2.walk_of (l := PySem.Challenge.rw_machinehall_k61_whole_signs_turned) (n := 63) (k := 30 + 1) (x := "script") (CX := fun _ => L2.CX0) (sp := fun w => Z.lawSp _) rfl (by decide) rfl ⟨rfl, by decide, by decide⟩ (fun w h Y => PySem.W.kIn_of Y) ?F (fun _ _ a ns hl o hS => ⟨a, ns, rfl, Z.sqF_of o hS, hl, fun _ => rfl⟩) (fun _ _ _ _ _ h => h)
  case F =>
    intro w mg fa h KX G hmg
    refine' K61.top KX G hmg ?a0 ?l0 ?c0 ?k0 ?a1 ?l1 ?c1 ?k1 ?a2 ?l2 ?c2 ?k2 ?a3 ?l3 ?c3 ?k3 ?a4 ?l4 ?c4 ?k4 ?a5 ?l5 ?c5 ?k5 ?a6 ?l6 ?c6 ?k6 ?a7 ?l7 ?c7 ?k7 ?a8 ?l8 ?c8 ?k8 ?a9 ?l9 ?c9 ?k9 ?a10 ?l10 ?c10 ?k10 ?a11 ?l11 ?c11 ?k11 ?a12 ?l12 ?c12 ?k12 ?a13 ?l13 ?c13 ?k13 ?a14 ?l14 ?c14 ?k14 ?a15 ?l15 ?c15 ?k15 ?a16 ?l16 ?c16 ?k16 ?a17 ?l17 ?c17 ?k17 ?a18 ?l18 ?c18 ?k18 ?a19 ?l19 ?c19 ?k19 ?a20 ?l20 ?c20 ?k20 ?a21 ?l21 ?c21 ?k21 ?a22 ?l22 ?c22 ?k22 ?a23 ?l23 ?c23 ?k23 ?a24 ?l24 ?c24 ?k24 ?a25 ?l25 ?c25 ?k25 ?a26 ?l26 ?c26 ?k26 ?a27 ?l27 ?c27 ?k27 ?a28 ?l28 ?c28 ?k28 ?a29 ?l29 ?c29 ?k29 ?a30 ?l30 ?c30 ?k30 ?a31 ?l31 ?c31 ?k31 ?a32 ?l32 ?c32 ?k32 ?a33 ?l33 ?c33 ?k33 ?a34 ?l34 ?c34 ?k34 ?a35 ?l35 ?c35 ?k35 ?a36 ?l36 ?c36 ?k36 ?a37 ?l37 ?c37 ?k37 ?a38 ?l38 ?c38 ?k38 ?a39 ?l39 ?c39 ?k39 ?a40 ?l40 ?c40 ?k40 ?a41 ?l41 ?c41 ?k41 ?a42 ?l42 ?c42 ?k42 ?a43 ?l43 ?c43 ?k43 ?a44 ?l44 ?c44 ?k44 ?a45 ?l45 ?c45 ?k45 ?a46 ?l46 ?c46 ?k46 ?a47 ?l47 ?c47 ?k47 ?a48 ?l48 ?c48 ?k48 ?ge0 ?gk0 ?gv0 ?gw0 ?ge1 ?gv1 ?z0 ?z1 ?z2 ?z3 ?z4 ?z5 ?z6 ?z7 K61.main
    (case a0 => k_is)
    (case l0 => k_is)
    (case c0 => k_is)
    (case k0 => k_is)
    (case a1 => k_is)
    (case l1 => k_is)
    (case c1 => k_is)
    (case k1 => k_is)
    (case a2 => k_is)
    (case l2 => k_is)
    (case c2 => k_is)
    (case k2 => k_is)
    (case a3 => k_is)
    (case l3 => k_is)
    (case c3 => k_is)
    (case k3 => k_is)
    (case a4 => k_is)
    (case l4 => k_is)
    (case c4 => k_is)
    (case k4 => k_is)
    (case a5 => k_is)
    (case l5 => k_is)
    (case c5 => k_is)
    (case k5 => k_is)
    (case a6 => k_is)
    (case l6 => k_is)
    (case c6 => k_is)
    (case k6 => k_is)
    (case a7 => k_is)
    (case l7 => k_is)
    (case c7 => k_is)
    (case k7 => k_is)
    (case a8 => k_is)
    (case l8 => k_is)
    (case c8 => k_is)
    (case k8 => k_is)
    (case a9 => k_is)
    (case l9 => k_is)
    (case c9 => k_is)
    (case k9 => k_is)
    (case a10 => k_is)
    (case l10 => k_is)
    (case c10 => k_is)
    (case k10 => k_is)
    (case a11 => k_is)
    (case l11 => k_is)
    (case c11 => k_is)
    (case k11 => k_is)
    (case a12 => k_is)
    (case l12 => k_is)
    (case c12 => k_is)
    (case k12 => k_is)
    (case a13 => k_is)
    (case l13 => k_is)
    (case c13 => k_is)
    (case k13 => k_is)
    (case a14 => k_is)
    (case l14 => k_is)
    (case c14 => k_is)
    (case k14 => k_is)
    (case a15 => k_is)
    (case l15 => k_is)
    (case c15 => k_is)
    (case k15 => k_is)
    (case a16 => k_is)
    (case l16 => k_is)
    (case c16 => k_is)
    (case k16 => k_is)
    (case a17 => k_is)
    (case l17 => k_is)
    (case c17 => k_is)
    (case k17 => k_is)
    (case a18 => k_is)
    (case l18 => k_is)
    (case c18 => k_is)
    (case k18 => k_is)
    (case a19 => k_is)
    (case l19 => k_is)
    (case c19 => k_is)
    (case k19 => k_is)
    (case a20 => k_is)
    (case l20 => k_is)
    (case c20 => k_is)
    (case k20 => k_is)
    (case a21 => k_is)
    (case l21 => k_is)
    (case c21 => k_is)
    (case k21 => k_is)
    (case a22 => k_is)
    (case l22 => k_is)
    (case c22 => k_is)
    (case k22 => k_is)
    (case a23 => k_is)
    (case l23 => k_is)
    (case c23 => k_is)
    (case k23 => k_is)
    (case a24 => k_is)
    (case l24 => k_is)
    (case c24 => k_is)
    (case k24 => k_is)
    (case a25 => k_is)
    (case l25 => k_is)
    (case c25 => k_is)
    (case k25 => k_is)
    (case a26 => k_is)
    (case l26 => k_is)
    (case c26 => k_is)
    (case k26 => k_is)
    (case a27 => k_is)
    (case l27 => k_is)
    (case c27 => k_is)
    (case k27 => k_is)
    (case a28 => k_is)
    (case l28 => k_is)
    (case c28 => k_is)
    (case k28 => k_is)
    (case a29 => k_is)
    (case l29 => k_is)
    (case c29 => k_is)
    (case k29 => k_is)
    (case a30 => k_is)
    (case l30 => k_is)
    (case c30 => k_is)
    (case k30 => k_is)
    (case a31 => k_is)
    (case l31 => k_is)
    (case c31 => k_is)
    (case k31 => k_is)
    (case a32 => k_is)
    (case l32 => k_is)
    (case c32 => k_is)
    (case k32 => k_is)
    (case a33 => k_is)
    (case l33 => k_is)
    (case c33 => k_is)
    (case k33 => k_is)
    (case a34 => k_is)
    (case l34 => k_is)
    (case c34 => k_is)
    (case k34 => k_is)
    (case a35 => k_is)
    (case l35 => k_is)
    (case c35 => k_is)
    (case k35 => k_is)
    (case a36 => k_is)
    (case l36 => k_is)
    (case c36 => k_is)
    (case k36 => k_is)
    (case a37 => k_is)
    (case l37 => k_is)
    (case c37 => k_is)
    (case k37 => k_is)
    (case a38 => k_is)
    (case l38 => k_is)
    (case c38 => k_is)
    (case k38 => k_is)
    (case a39 => k_is)
    (case l39 => k_is)
    (case c39 => k_is)
    (case k39 => k_is)
    (case a40 => k_is)
    (case l40 => k_is)
    (case c40 => k_is)
    (case k40 => k_is)
    (case a41 => k_is)
    (case l41 => k_is)
    (case c41 => k_is)
    (case k41 => k_is)
    (case a42 => k_is)
    (case l42 => k_is)
    (case c42 => k_is)
    (case k42 => k_is)
    (case a43 => k_is)
    (case l43 => k_is)
    (case c43 => k_is)
    (case k43 => k_is)
    (case a44 => k_is)
    (case l44 => k_is)
    (case c44 => k_is)
    (case k44 => k_is)
    (case a45 => k_is)
    (case l45 => k_is)
    (case c45 => k_is)
    (case k45 => k_is)
    (case a46 => k_is)
    (case l46 => k_is)
    (case c46 => k_is)
    (case k46 => k_is)
    (case a47 => k_is)
    (case l47 => k_is)
    (case c47 => k_is)
    (case k47 => k_is)
    (case a48 => k_is)
    (case l48 => k_is)
    (case c48 => k_is)
    (case k48 => k_is)
    (case ge0 => k_is)
    (case gk0 => k_is)
    (case gv0 => decide)
    (case gw0 => decide)
    (case ge1 => k_is)
    (case gv1 => decide)
    (case z0 => k_is)
    (case z1 => k_is)
    (case z2 => k_is)
    (case z3 => k_is)
    (case z4 => k_is)
    (case z5 => k_is)
    (case z6 => k_is)
    (case z7 => k_is)
