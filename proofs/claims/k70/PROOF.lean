import PyProof.Rows.All
import Wide.All
import OpenK.AllK
import Wide.FinOn
import PyProof.EqAt
import PyProof.EqKinds
import PyProof.TupleCall
import HandS.ForMost
import HandS.ForExc
import HandS.Star
import HandS.Defaults
import HandS.IsInst
import HandS.Wide
import HandS.TupMul
import HandS.TupAny
import HandS.Conv
import HandS.ExcInit
import HandS.ExcField
import HandS.TryOnly
import HandS.Flow
import HandS.Style
import HandS.Gcd
import HandS.Codes
import HandS.Zip
import HandS.Rev
import KE.DataEq
import KE.KExcIs
import HandS.Dict
import HandS.DictTup
import HandS.WideBits
import HandS.More
import KE.SortKeyHeap
import KE.GoesEnum
import PySem.Challenge.RW_shapestold_k70_first_meetings_are_enough
set_option Elab.async false
set_option linter.all false
set_option maxRecDepth 100000
set_option maxHeartbeats 4000000
/-! PDa: a small syntax with its meaning over plain values: D (tuples inline, lists as places of a store). -/
namespace PD
open PySem

inductive D where
  | non | bl (b : Bool) | int (i : Int) | str (x : Str) | tup (xs : List D) | ref (n : Nat) | ty (n : String) | own (c : Nat)
  /-- a list that is only read (the script) -/
  | kl (xs : List D)
  /-- a tuple of the module -/
  | kt (xs : List D)
instance : Inhabited D := ⟨.non⟩
/-- what stands in the store: a list, an instance of the class c, a dict by tuples of whole numbers -/
inductive SO where
  | lst (xs : List D) | ins (c : Nat) (fs : List (Str × D)) | dct (kvs : List (List Int × D))
abbrev Store := List SO
abbrev DEnv := List (Option D)
/-- an exception of the own class cls, its fields -/
structure Err where
  cls : Nat
  fs : List (Str × D)
abbrev DQ := D → Store → Prop
abbrev EQ := Err → Store → Prop
abbrev DSp := List D → Store → DQ → EQ → Prop

def onO {α : Type} (o : Option α) (k : α → Prop) : Prop := match o with
  | some a => k a
  | none => False
def seqOf (S : Store) : D → Option (List D)
  | .tup xs => some xs
  | .kl xs => some xs
  | .kt xs => some xs
  | .ref n => match S[n]? with
    | some (.lst xs) => some xs
    | _ => none
  | _ => none
def lstOf (S : Store) : D → Option (List D)
  | .ref n => seqOf S (.ref n)
  | _ => none
def truth (S : Store) : D → Option Bool
  | .non => some false
  | .bl b => some b
  | .int i => some (i != 0)
  | .str x => if x.length ≤ sizeLine then some ((x.length : Int) != 0) else none
  | .tup xs => some (!xs.isEmpty)
  | .kl xs => some (!xs.isEmpty)
  | .kt xs => some (!xs.isEmpty)
  | .ref n => (seqOf S (.ref n)).map fun xs => !xs.isEmpty
  | _ => none
def mapO {α β : Type} (f : α → Option β) : List α → Option (List β)
  | [] => some []
  | x :: r => match f x, mapO f r with
    | some y, some ys => some (y :: ys)
    | _, _ => none
def toPy (S : Store) : Nat → D → Option PyData
  | 0, _ => none
  | k + 1, d => match d with
    | .non => some .none
    | .bl b => some (.bool b)
    | .int i => some (.int i)
    | .str x => some (.str x)
    | .tup xs => (mapO (toPy S k) xs).map .tuple
    | .kl xs => (mapO (toPy S k) xs).map .list
    | .kt xs => (mapO (toPy S k) xs).map .tuple
    | .ref n => match seqOf S (.ref n) with
      | some xs => (mapO (toPy S k) xs).map .list
      | none => none
    | _ => none
def pyF : Nat := 40
def eqD (S : Store) (a b : D) : Option Bool := match toPy S pyF a, toPy S pyF b with
  | some x, some y => some (PyData.eqv x y)
  | _, _ => none
/-- a dict's items, a key -/
def dctOf (S : Store) : D → Option (List (List Int × D))
  | .ref n => match S[n]? with
    | some (.dct kvs) => some kvs
    | _ => none
  | _ => none
def dGet (k : List Int) : List (List Int × D) → Option D
  | [] => none
  | p :: r => if p.1 = k then some p.2 else dGet k r
def dPut (k : List Int) (v : D) (kvs : List (List Int × D)) : List (List Int × D) := if (dGet k kvs).isSome then kvs.map fun p => if p.1 = k then (p.1, v) else p else kvs ++ [(k, v)]
def inS (S : Store) (x c : D) : Option Bool := match toPy S pyF x, seqOf S c with
  | some d, some xs => match mapO (toPy S pyF) xs with
    | some ds => some (ds.any fun y => PyData.eqv y d)
    | none => none
  | _, _ => none
def intL : List D → Option (List Int) := mapO fun d => match d with
  | .int i => some i
  | _ => none
def keyOf : D → Option (List Int)
  | .tup xs => intL xs
  | _ => none
def inD (S : Store) (x c : D) : Option Bool := match dctOf S c with
  | some kvs => match keyOf x with
    | some k => some (dGet k kvs).isSome
    | none => none
  | none => inS S x c
def boolL : List D → Option (List Bool) := mapO fun d => match d with
  | .bl i => some i
  | _ => none
/-! ### operators -/
inductive BO where
  | add | sub | mul | fdiv | mod | pow
inductive CO where
  | eq | ne | lt | le | gt | ge | is | isn | inn | nin
def wpBin (S : Store) (o : BO) (x y : D) (Q : DQ) : Prop := match o, x, y with
  | .add, .int i, .int j => Q (.int (i + j)) S
  | .add, .str i, .str j => i.length + j.length ≤ sizeLine ∧ Q (.str (i ++ j)) S
  | .add, .tup xs, .tup ys => xs.length + ys.length ≤ sizeLine ∧ Q (.tup (xs ++ ys)) S
  | .add, .ref a, .ref b => match S[a]?, S[b]? with
    | some (.lst xs), some (.lst ys) => xs.length + ys.length ≤ sizeLine ∧ Q (.ref S.length) (S ++ [.lst (xs ++ ys)])
    | _, _ => False
  | .sub, .int i, .int j => Q (.int (i - j)) S
  | .mul, .int i, .int j => i.natAbs.log2 + j.natAbs.log2 < 1000000 ∧ Q (.int (i * j)) S
  | .mul, .tup xs, .int k => (-(2 ^ 63) ≤ k ∧ k ≤ 1000) ∧ xs.length ≤ 1000 ∧ Q (.tup (List.replicate k.toNat xs).flatten) S
  | .mul, .ref a, .int k => match S[a]? with
    | some (.lst xs) => -(2 ^ 63) ≤ k ∧ k < 2 ^ 63 ∧ xs.length * k.toNat ≤ sizeLine ∧ Q (.ref S.length) (S ++ [.lst (List.replicate k.toNat xs).flatten])
    | _ => False
  | .fdiv, .int i, .int j => 0 < j ∧ j.natAbs.log2 < 9000 ∧ Q (.int (i / j)) S
  | .mod, .int i, .int j => 0 < j ∧ Q (.int (i % j)) S
  | .pow, .int i, .int j => 0 ≤ j ∧ j ≤ 1000000 ∧ i.natAbs < 2 ^ 64 ∧ Q (.int (i ^ j.toNat)) S
  | _, _, _ => False
def isNon : D → Bool
  | .non => true
  | _ => false
def isD (x y : D) : Option Bool := match x, y with
  | x, .non => some (isNon x)
  | .bl a, .bl b => some (a == b)
  | _, _ => none
def cmpD (S : Store) (o : CO) (x y : D) : Option Bool := match o with
  | .eq => eqD S x y
  | .ne => (eqD S x y).map (!·)
  | .lt => match x, y with
    | .int i, .int j => some (decide (i < j))
    | _, _ => none
  | .le => match x, y with
    | .int i, .int j => some (decide (i ≤ j))
    | _, _ => none
  | .gt => match x, y with
    | .int i, .int j => some (decide (j < i))
    | _, _ => none
  | .ge => match x, y with
    | .int i, .int j => some (decide (j ≤ i))
    | _, _ => none
  | .is => isD x y
  | .isn => (isD x y).map (!·)
  | .inn => inD S x y
  | .nin => (inD S x y).map (!·)
/-! ### built-in functions and methods -/
inductive BI where
  | abs | len | int | bool | list | tuple | max | min | sum | any | all | isinstance | gcd | str | lcm | sorted
inductive BM where
  | append | extend | pop | get
def tyName (S : Store) : D → Option String
  | .non => some "NoneType"
  | .bl _ => some "bool"
  | .int _ => some "int"
  | .str _ => some "str"
  | .tup _ => some "tuple"
  | .kl _ => some "list"
  | .kt _ => some "tuple"
  | .ref n => match seqOf S (.ref n) with
    | some _ => some "list"
    | none => none
  | _ => none
/-- the built-in types that isinstance is asked about -/
def tyOk : List String := ["int", "bool", "str", "tuple", "list"]
def isTy (a b : String) : Bool := a == b || (a == "bool" && b == "int")
def isi1 (a : String) : D → Option Bool
  | .ty b => if b ∈ tyOk then some (isTy a b) else none
  | _ => none
def isiD (S : Store) (x c : D) : Option Bool := match tyName S x with
  | none => none
  | some a => match c with
    | .tup cs => (mapO (isi1 a) cs).map fun bs => bs.any id
    | c => isi1 a c
def maxL : List Int → Option Int
  | [] => none
  | x :: r => some (r.foldl max x)
def minL : List Int → Option Int
  | [] => none
  | x :: r => some (r.foldl min x)
/-- a thing as data; a list sorted -/
def encD (S : Store) (d : D) : PyData := (toPy S pyF d).getD .none
def sortD (S : Store) (xs : List D) : List D := xs.mergeSort (PySem.W.dataLe false (encD S))
def wpBi (S : Store) (b : BI) (ds : List D) (Q : DQ) : Prop := match b, ds with
  | .abs, [.int i] => Q (.int (if i < 0 then -i else i)) S
  | .len, [.str x] => x.length ≤ sizeLine ∧ Q (.int x.length) S
  | .len, [d] => onO (seqOf S d) fun xs => Q (.int xs.length) S
  | .int, [.int i] => Q (.int i) S
  | .int, [.bl k] => Q (.int (if k then 1 else 0)) S
  | .bool, [.int i] => Q (.bl (i != 0)) S
  | .bool, [.bl k] => Q (.bl k) S
  | .list, [d] => onO (seqOf S d) fun xs => Q (.ref S.length) (S ++ [.lst xs])
  | .tuple, [.kt _] => False
  | .tuple, [d] => onO (seqOf S d) fun xs => Q (.tup xs) S
  | .max, [.int i, .int j] => Q (.int (if j > i then j else i)) S
  | .max, [.ref n] => onO (seqOf S (.ref n)) fun xs => onO (intL xs) fun is => onO (maxL is) fun m => Q (.int m) S
  | .min, [.int i, .int j] => Q (.int (if j < i then j else i)) S
  | .min, [.ref n] => onO (seqOf S (.ref n)) fun xs => onO (intL xs) fun is => onO (minL is) fun m => Q (.int m) S
  | .sum, [.ref n] => onO (seqOf S (.ref n)) fun xs => onO (intL xs) fun is => Q (.int is.sum) S
  | .any, [.ref n] => onO (seqOf S (.ref n)) fun xs => onO (boolL xs) fun is => Q (.bl (is.any id)) S
  | .all, [.ref n] => onO (seqOf S (.ref n)) fun xs => onO (boolL xs) fun is => Q (.bl (is.all id)) S
  | .isinstance, [x, c] => onO (isiD S x c) fun k => Q (.bl k) S
  | .gcd, [.int i, .int j] => Q (.int (Nat.gcd i.natAbs j.natAbs : Nat)) S
  | .lcm, [.int i, .int j] => i.natAbs < 2 ^ 64 ∧ j.natAbs < 2 ^ 64 ∧ Q (.int (Nat.lcm i.natAbs j.natAbs : Nat)) S
  | .sorted, [.ref n] => onO (seqOf S (.ref n)) fun xs => onO (mapO (toPy S pyF) xs) fun ps => PySem.W.AllAlike ps ∧ PySem.W.Sortable ps ∧ xs.length ≤ 1000000 ∧ Q (.ref S.length) (S ++ [.lst (sortD S xs)])
  | .str, [.int i] => i.natAbs.log2 < 1920 ∧ Q (.str (toString i)) S
  | _, _ => False
/-- the kinds of objects that have the method -/
def bmOk (S : Store) (m : BM) (x : D) : Prop := match m with
  | .get => (dctOf S x).isSome = true
  | _ => (lstOf S x).isSome = true
def wpBm (S : Store) (m : BM) (o : D) (ds : List D) (Q : DQ) : Prop := match o with
  | .ref n => match S[n]? with
    | some (.dct kvs) => match m, ds with
      | .get, [k, d] => onO (keyOf k) fun k => Q ((dGet k kvs).getD d) S
      | _, _ => False
    | some (.lst xs) => match m, ds with
      | .append, [d] => xs.length < sizeLine ∧ Q .non (S.set n (.lst (xs ++ [d])))
      | .extend, [.ref k] => match S[k]? with
        | some (.lst ys) => xs.length + ys.length ≤ sizeLine ∧ Q .non (S.set n (.lst (xs ++ ys)))
        | _ => False
      | .pop, [] => onO xs[xs.length - 1]? fun y => Q y (S.set n (.lst xs.dropLast))
      | _, _ => False
    | _ => False
  | _ => False
/-- the place that an index means -/
def ixS (S : Store) (x y : D) : Option D := match y with
  | .int i => match seqOf S x with
    | some xs => L2.atI xs i
    | none => match x with
      | .str z => if z.length ≤ sizeLine then (L2.atI z.cps.toList i).map fun c => D.str ⟨#[c]⟩ else none
      | _ => none
  | _ => none
def ixD (S : Store) (x y : D) : Option D := match dctOf S x with
  | some kvs => (keyOf y).bind fun k => dGet k kvs
  | none => ixS S x y
def partD : Option D → Option (Option Int)
  | none => some none
  | some (.int i) => some (some i)
  | _ => none
def cutL {α : Type} (xs : List α) (lo hi : Option Int) : List α := (xs.drop (HT.sIx xs.length 0 lo)).take (HT.sIx xs.length xs.length hi - HT.sIx xs.length 0 lo)
def wpSl (S : Store) (x : D) (l h : Option Int) (Q : DQ) : Prop := match x with
  | .tup xs => Q (.tup (cutL xs l h)) S
  | .kl xs => Q (.ref S.length) (S ++ [.lst (cutL xs l h)])
  | .ref n => onO (seqOf S (.ref n)) fun xs => Q (.ref S.length) (S ++ [.lst (cutL xs l h)])
  | _ => False
def fPut (f : Str) (v : D) : List (Str × D) → List (Str × D)
  | [] => [(f, v)]
  | p :: r => if f == p.1 then (p.1, v) :: r else p :: fPut f v r
/-- an attribute is stored -/
def wpFld (na : Nat → Str → Bool) (S : Store) (o : D) (f : Str) (d : D) (K : Store → Prop) : Prop := match o with
  | .ref n => match S[n]? with
    | some (.ins c fs) => na c f = true ∧ fs.length < 1000 ∧ K (S.set n (.ins c (fPut f d fs)))
    | _ => False
  | _ => False
def wpSet (S : Store) (o i d : D) (K : Store → Prop) : Prop := match o, i with
  | .ref n, .tup xs => match S[n]? with
    | some (.dct kvs) => onO (intL xs) fun k => kvs.length < sizeLine ∧ K (S.set n (.dct (dPut k d kvs)))
    | _ => False
  | .ref n, .int k => match S[n]? with
    | some (.lst xs) => onO (L2.ixN xs.length k) fun j => K (S.set n (.lst (xs.set j d)))
    | _ => False
  | _, _ => False
/-! ### the syntax -/
mutual
inductive DE where
  | var (i : Nat)
  | cst (d : D)
  | bin (o : BO) (a b : DE)
  | neg (a : DE)
  | cmp (o : CO) (a b : DE)
  | chn (o p : CO) (a b c : DE)
  | and (a b : DE)
  | or (a b : DE)
  | not (a : DE)
  | ife (c a b : DE)
  | call (f : Nat) (es : DEs)
  | bi (b : BI) (es : DEs)
  | bm (m : BM) (o : DE) (es : DEs)
  | ix (a i : DE)
  | sl (a : DE) (lo hi : DO)
  | tup (es : DEs)
  | lst (es : DEs)
  | lc (own : List Nat) (t : DT) (it : DI) (c : DO) (e : DE)
  | efld (f : Str)
  | dnew
  | bits (a : DE)
  | fld (a : DE) (f : Str)
  | mth (m : Str) (tb : List (Nat × Nat)) (o : DE) (es : DEs)
  | new (c i : Nat) (es : DEs)
  | eisi (cs : List Nat)
inductive DO where
  | none
  | some (e : DE)
inductive DEs where
  | nil
  | cons (e : DE) (es : DEs)
  | star (e : DE) (es : DEs)
inductive DT where
  | nm (i : Nat)
  | sub (o i : DE)
  | tp (ts : DTs)
inductive DTs where
  | nil
  | cons (t : DT) (ts : DTs)
inductive DI where
  | seq (e : DE)
  | rng (es : DEs)
  | enum (e : DE)
  | items (e : DE)
  | rev (e : DE)
end
def DTs.len : DTs → Nat
  | .nil => 0
  | .cons _ r => r.len + 1
inductive DS where
  | asg (t : DT) (e : DE)
  | aug (i : Nat) (o : BO) (e : DE)
  | ex (e : DE)
  | ret (e : DO)
  | ifs (c : DE) (a b : List DS)
  | fr (t : DT) (it : DI) (b : List DS)
  | wh (c : DE) (b : List DS)
  | pas
  | brk
  | cnt
  | rse (c : Nat) (fs : List Str) (es : DEs)
  | tr (b : List DS) (c : Nat) (n : Option Nat) (s : List DS)
  | setf (o : DE) (f : Str) (e : DE)
/-! ### the meaning -/
/-- what the meaning leans on: the promises of the defs, what is wanted of an exception, the exception that a suite holds, the classes' order -/
structure SC where
  sp : Nat → DSp
  xq : Err → DEnv → Store → Prop
  exn : Option Err
  sub : Nat → Nat → Bool
  /-- the classes that are raised, their fields -/
  kn : Nat → List Str → Bool
  /-- the classes' constant attributes -/
  con : Nat → Str → Option D
  /-- what is no attribute of the class -/
  noA : Nat → Str → Bool
/-- a call by a promise, whatever it wants -/
def callC (sp : DSp) (ds : List D) (S : Store) (Q : DQ) (E : EQ) : Prop := ∃ (Q0 : DQ) (E0 : EQ), sp ds S Q0 E0 ∧ (∀ d S', Q0 d S' → Q d S') ∧ ∀ e S', E0 e S' → E e S'
/-- where the items come from: a thing that must stay as it is -/
abbrev Src := Option (D × List D)
def still (s : Src) (S : Store) : Prop := ∀ p, s = some p → seqOf S p.1 = some p.2
def enumL : Nat → List D → List D
  | _, [] => []
  | i, d :: r => .tup [.int i, d] :: enumL (i + 1) r
def rngL (lo : Int) (n : Nat) : List D := (List.range n).map fun i => .int (lo + (i : Nat))
/-- range's items: ends within 2^62 -/
def rngD : List D → Option (List D)
  | [.int j] => if -(2 ^ 62) ≤ j ∧ j < 2 ^ 62 then some (rngL 0 j.toNat) else none
  | [.int i, .int j] => if -(2 ^ 62) ≤ i ∧ i < 2 ^ 62 ∧ -(2 ^ 62) ≤ j ∧ j < 2 ^ 62 then some (rngL i (j - i).toNat) else none
  | _ => none
def wipeD (env : DEnv) : List Nat → DEnv
  | [] => env
  | v :: vs => (wipeD env vs).set v none
/-- a comprehension's turns: step gives the item (or none) -/
def lcGo (src : Src) (n : Nat) (step : D → Store → (Option D → Store → Prop) → Prop) : List D → Store → (Store → Prop) → Prop
  | [], S, K => K S
  | d :: r, S, K => step d S fun o S' => still src S' ∧ match o with
    | some y => match S'[n]? with
      | some (.lst acc) => acc.length < sizeLine ∧ lcGo src n step r (S'.set n (.lst (acc ++ [y]))) K
      | _ => False
    | none => lcGo src n step r S' K
mutual
def wpE (C : SC) : DE → DEnv → Store → DQ → Prop
  | .var i, env, S, Q => match env[i]? with
    | some (some d) => Q d S
    | _ => False
  | .cst d, _, S, Q => Q d S
  | .bin o a b, env, S, Q => wpE C a env S fun x S1 => wpE C b env S1 fun y S2 => wpBin S2 o x y Q
  | .neg a, env, S, Q => wpE C a env S fun x S1 => match x with
    | .int i => Q (.int (-i)) S1
    | _ => False
  | .cmp o a b, env, S, Q => wpE C a env S fun x S1 => wpE C b env S1 fun y S2 => onO (cmpD S2 o x y) fun k => Q (.bl k) S2
  | .chn o p a b c, env, S, Q => wpE C a env S fun x S1 => wpE C b env S1 fun y S2 => onO (cmpD S2 o x y) fun k =>
      if k = true then wpE C c env S2 fun z S3 => onO (cmpD S3 p y z) fun l => Q (.bl l) S3 else Q (.bl false) S2
  | .and a b, env, S, Q => wpE C a env S fun x S1 => onO (truth S1 x) fun k => if k = true then wpE C b env S1 Q else Q x S1
  | .or a b, env, S, Q => wpE C a env S fun x S1 => onO (truth S1 x) fun k => if k = true then Q x S1 else wpE C b env S1 Q
  | .not a, env, S, Q => wpE C a env S fun x S1 => onO (truth S1 x) fun k => Q (.bl (!k)) S1
  | .ife c a b, env, S, Q => wpE C c env S fun x S1 => onO (truth S1 x) fun k => if k = true then wpE C a env S1 Q else wpE C b env S1 Q
  | .call f es, env, S, Q => wpEs C es env S fun ds S1 => callC (C.sp f) ds S1 Q fun er S' => C.xq er env S'
  | .bi b es, env, S, Q => wpEs C es env S fun ds S1 => wpBi S1 b ds Q
  | .bm m o es, env, S, Q => wpE C o env S fun x S1 => bmOk S1 m x ∧ wpEs C es env S1 fun ds S2 => wpBm S2 m x ds Q
  | .ix a i, env, S, Q => wpE C a env S fun x S1 => wpE C i env S1 fun y S2 => onO (ixD S2 x y) fun d => Q d S2
  | .sl a lo hi, env, S, Q => wpE C a env S fun x S1 => wpO C lo env S1 fun l S2 => onO (partD l) fun l => wpO C hi env S2 fun h S3 => onO (partD h) fun h => wpSl S3 x l h Q
  | .tup es, env, S, Q => wpEs C es env S fun ds S1 => ds.length ≤ sizeLine ∧ Q (.tup ds) S1
  | .lst es, env, S, Q => wpEs C es env S fun ds S1 => ds.length ≤ sizeLine ∧ Q (.ref S1.length) (S1 ++ [.lst ds])
  | .lc own t it c e, env, S, Q => wpI C it env S fun src items S1 => still src S1 ∧
      lcGo src S1.length (fun d S2 K => wpT { C with xq := fun _ _ _ => False } t d (wipeD env own) S2 fun env1 S3 =>
        wpO { C with xq := fun _ _ _ => False } c env1 S3 fun o S4 => match o with
          | none => wpE { C with xq := fun _ _ _ => False } e env1 S4 fun y S5 => K (some y) S5
          | some x => onO (truth S4 x) fun k => if k = true then wpE { C with xq := fun _ _ _ => False } e env1 S4 fun y S5 => K (some y) S5 else K none S4)
        items (S1 ++ [.lst []]) fun S2 => Q (.ref S1.length) S2
  | .efld f, _, S, Q => match C.exn with
    | some er => onO (er.fs.lookup f) fun d => Q d S
    | none => False
  | .eisi cs, _, S, Q => match C.exn with
    | some er => Q (.bl (cs.any fun c => C.sub er.cls c)) S
    | none => False
  | .dnew, _, S, Q => Q (.ref S.length) (S ++ [.dct []])
  | .bits a, env, S, Q => wpE C a env S fun x S1 => match x with
    | .int i => Q (.int (Builtin.Int.intBits i : Nat)) S1
    | _ => False
  | .fld a f, env, S, Q => wpE C a env S fun x S1 => match x with
    | .ref n => match S1[n]? with
      | some (.ins c fs) => match fs.lookup f with
        | some d => C.noA c f = true ∧ Q d S1
        | none => onO (C.con c f) fun d => Q d S1
      | _ => False
    | _ => False
  | .mth m tb o es, env, S, Q => wpE C o env S fun x S1 => match x with
    | .ref n => match S1[n]? with
      | some (.ins c fs) => fs.lookup m = none ∧ onO (tb.lookup c) fun i => wpEs C es env S1 fun ds S2 => callC (C.sp i) (x :: ds) S2 Q fun er S' => C.xq er env S'
      | _ => False
    | _ => False
  | .new c i es, env, S, Q => wpEs C es env S fun ds S1 => callC (C.sp i) (.ref S1.length :: ds) (S1 ++ [.ins c []]) (fun d S2 => d = .non ∧ Q (.ref S1.length) S2) fun er S' => C.xq er env S'
def wpO (C : SC) : DO → DEnv → Store → (Option D → Store → Prop) → Prop
  | .none, _, S, Q => Q none S
  | .some e, env, S, Q => wpE C e env S fun d S1 => Q (some d) S1
def wpEs (C : SC) : DEs → DEnv → Store → (List D → Store → Prop) → Prop
  | .nil, _, S, Q => Q [] S
  | .cons e es, env, S, Q => wpE C e env S fun d S1 => wpEs C es env S1 fun ds S2 => Q (d :: ds) S2
  | .star e es, env, S, Q => wpE C e env S fun d S1 => onO (seqOf S1 d) fun xs => wpEs C es env S1 fun ds S2 => Q (xs ++ ds) S2
def wpT (C : SC) : DT → D → DEnv → Store → (DEnv → Store → Prop) → Prop
  | .nm i, d, env, S, K => K (env.set i (some d)) S
  | .sub o i, d, env, S, K => wpE C o env S fun x S1 => wpE C i env S1 fun y S2 => wpSet S2 x y d fun S3 => K env S3
  | .tp ts, d, env, S, K => onO (seqOf S d) fun xs => xs.length = ts.len ∧ wpTs C ts xs env S K
def wpTs (C : SC) : DTs → List D → DEnv → Store → (DEnv → Store → Prop) → Prop
  | .nil, [], env, S, K => K env S
  | .cons t ts, d :: ds, env, S, K => wpT C t d env S fun env1 S1 => wpTs C ts ds env1 S1 K
  | _, _, _, _, _ => False
def wpI (C : SC) : DI → DEnv → Store → (Src → List D → Store → Prop) → Prop
  | .seq e, env, S, Q => wpE C e env S fun d S1 => onO (seqOf S1 d) fun xs => Q (some (d, xs)) xs S1
  | .rng es, env, S, Q => wpEs C es env S fun ds S1 => onO (rngD ds) fun xs => Q none xs S1
  | .enum e, env, S, Q => wpE C e env S fun d S1 => onO (seqOf S1 d) fun xs => Q (some (d, xs)) (enumL 0 xs) S1
  | .items _, _, _, _ => False
  | .rev e, env, S, Q => wpE C e env S fun d S1 => onO (seqOf S1 d) fun xs => Q (some (d, xs)) xs.reverse S1
end
/-- what is wanted behind a statement -/
structure DEnds where
  nx : DEnv → Store → Prop
  rt : DQ
  bk : DEnv → Store → Prop
  ct : DEnv → Store → Prop
/-- a for's turns: step is the target's store and the body -/
def frGo (src : Src) (step : D → DEnds → DEnv → Store → Prop) (B : DEnds) : List D → DEnv → Store → Prop
  | [], env, S => B.nx env S
  | d :: r, env, S => step d { nx := fun e' S' => still src S' ∧ frGo src step B r e' S', ct := fun e' S' => still src S' ∧ frGo src step B r e' S', bk := B.nx, rt := B.rt } env S
/-- behind an except clause its name is gone -/
def setN (n : Option Nat) (env : DEnv) : DEnv := match n with
  | none => env
  | some i => env.set i none
def inN (n : Option Nat) (env : DEnv) : Prop := match n with
  | none => True
  | some i => i < env.length
def endsN (n : Option Nat) (B : DEnds) : DEnds :=
  { nx := fun e S => B.nx (setN n e) S, rt := B.rt, bk := fun e S => B.bk (setN n e) S, ct := fun e S => B.ct (setN n e) S }
mutual
def wpS (C : SC) : DS → DEnds → DEnv → Store → Prop
  | .asg t e, B, env, S => wpE C e env S fun d S1 => wpT C t d env S1 B.nx
  | .aug i o e, B, env, S => match env[i]? with
    | some (some x) => wpE C e env S fun y S1 => match x with
      | .int _ => wpBin S1 o x y fun d S2 => B.nx (env.set i (some d)) S2
      | _ => False
    | _ => False
  | .ex e, B, env, S => wpE C e env S fun _ S1 => B.nx env S1
  | .ret e, B, env, S => wpO C e env S fun o S1 => B.rt (o.getD .non) S1
  | .ifs c a b, B, env, S => wpE C c env S fun x S1 => onO (truth S1 x) fun k => if k = true then wpSs C a B env S1 else wpSs C b B env S1
  | .fr t it b, B, env, S => wpI C it env S fun src items S1 => still src S1 ∧ frGo src (fun d B' env' S' => wpT C t d env' S' fun e2 S2 => wpSs C b B' e2 S2) B items env S1
  | .wh c b, B, env, S => ∃ W : Nat → DEnv → Store → Prop, (∃ m, W m env S) ∧ ∀ m env S, W m env S → wpE C c env S fun x S1 => onO (truth S1 x) fun k =>
      if k = true then wpSs C b { nx := fun e' S' => ∃ m', m' < m ∧ W m' e' S', ct := fun e' S' => ∃ m', m' < m ∧ W m' e' S', bk := B.nx, rt := B.rt } env S1 else B.nx env S1
  | .pas, B, env, S => B.nx env S
  | .brk, B, env, S => B.bk env S
  | .cnt, B, env, S => B.ct env S
  | .rse c fs es, B, env, S => wpEs C es env S fun ds S1 => ds.length = fs.length ∧ C.xq ⟨c, fs.zip ds⟩ env S1
  | .tr b c n s, B, env, S => wpSs { C with xq := fun er env' S' => C.kn er.cls (er.fs.map (·.1)) = true ∧ inN n env' ∧ (C.sub er.cls c = true → wpSs { C with exn := some er, xq := fun _ _ _ => False } s (endsN n B) (setN n env') S') ∧
      (C.sub er.cls c = false → C.xq er env' S') } b B env S
  | .setf o f e, B, env, S => wpE C e env S fun d S1 => wpE C o env S1 fun x S2 => wpFld C.noA S2 x f d fun S3 => B.nx env S3
def wpSs (C : SC) : List DS → DEnds → DEnv → Store → Prop
  | [], B, env, S => B.nx env S
  | s :: r, B, env, S => wpS C s { B with nx := fun e' S' => wpSs C r B e' S' } env S
end
end PD

set_option Elab.async false
set_option linter.all false
set_option maxRecDepth 100000
set_option maxHeartbeats 4000000
namespace PD
open PySem PySem.Spec PyProof.Rows L2
/-! ### consequence -/
theorem onO_mono {α : Type} {o : Option α} {k k' : α → Prop} (h : ∀ a, k a → k' a) (q : onO o k) : onO o k' := by
  cases o with
  | none => exact q
  | some a => exact h a q
theorem wpBin_mono {S : Store} {o : BO} {x y : D} {Q Q' : DQ} (h : ∀ d S, Q d S → Q' d S) (q : wpBin S o x y Q) : wpBin S o x y Q' := by
  unfold wpBin at q ⊢
  split at q <;> first
    | exact h _ _ q
    | exact ⟨q.1, h _ _ q.2⟩
    | exact ⟨q.1, q.2.1, h _ _ q.2.2⟩
    | exact ⟨q.1, q.2.1, q.2.2.1, h _ _ q.2.2.2⟩
    | exact q.elim
    | (split at q <;> first | exact ⟨q.1, h _ _ q.2⟩ | exact ⟨q.1, q.2.1, q.2.2.1, h _ _ q.2.2.2⟩ | exact q.elim)
theorem wpBi_mono {S : Store} {b : BI} {ds : List D} {Q Q' : DQ} (h : ∀ d S, Q d S → Q' d S) (q : wpBi S b ds Q) : wpBi S b ds Q' := by
  unfold wpBi at q ⊢
  split at q <;> first
    | exact h _ _ q
    | exact ⟨q.1, h _ _ q.2⟩
    | exact ⟨q.1, q.2.1, h _ _ q.2.2⟩
    | exact onO_mono (fun _ z => h _ _ z) q
    | exact onO_mono (fun _ z => onO_mono (fun _ z => h _ _ z) z) q
    | exact onO_mono (fun _ z => onO_mono (fun _ z => onO_mono (fun _ z => h _ _ z) z) z) q
    | exact onO_mono (fun _ z => onO_mono (fun _ z => ⟨z.1, z.2.1, z.2.2.1, h _ _ z.2.2.2⟩) z) q
    | exact q.elim
theorem wpBm_mono {S : Store} {m : BM} {o : D} {ds : List D} {Q Q' : DQ} (h : ∀ d S, Q d S → Q' d S) (q : wpBm S m o ds Q) : wpBm S m o ds Q' := by
  unfold wpBm at q ⊢
  split at q
  · split at q
    · split at q
      · exact onO_mono (fun _ z => h _ _ z) q
      · exact q.elim
    · split at q
      · exact ⟨q.1, h _ _ q.2⟩
      · split at q
        · exact ⟨q.1, h _ _ q.2⟩
        · exact q.elim
      · exact onO_mono (fun _ z => h _ _ z) q
      · exact q.elim
    · exact q.elim
  · exact q.elim
theorem wpSl_mono {S : Store} {x : D} {lo hi : Option Int} {Q Q' : DQ} (h : ∀ d S, Q d S → Q' d S) (q : wpSl S x lo hi Q) : wpSl S x lo hi Q' := by
  unfold wpSl at q ⊢
  split at q
  · exact h _ _ q
  · exact h _ _ q
  · exact onO_mono (fun _ z => h _ _ z) q
  · exact q.elim
theorem wpSet_mono {S : Store} {o i d : D} {K K' : Store → Prop} (h : ∀ S, K S → K' S) (q : wpSet S o i d K) : wpSet S o i d K' := by
  unfold wpSet at q ⊢
  split at q
  · split at q
    · exact onO_mono (fun _ z => ⟨z.1, h _ z.2⟩) q
    · exact q.elim
  · split at q
    · exact onO_mono (fun _ z => h _ z) q
    · exact q.elim
  · exact q.elim
theorem wpFld_mono {na : Nat → Str → Bool} {S : Store} {o d : D} {f : Str} {K K' : Store → Prop} (h : ∀ S, K S → K' S) (q : wpFld na S o f d K) : wpFld na S o f d K' := by
  unfold wpFld at q ⊢
  split at q
  · split at q
    · exact ⟨q.1, q.2.1, h _ q.2.2⟩
    · exact q.elim
  · exact q.elim
theorem callC_mono {sp : DSp} {ds : List D} {S : Store} {Q Q' : DQ} {E E' : EQ} (h : ∀ d S, Q d S → Q' d S) (hE : ∀ e S, E e S → E' e S) (q : callC sp ds S Q E) : callC sp ds S Q' E' := by
  obtain ⟨Q0, E0, q0, h1, h2⟩ := q
  exact ⟨Q0, E0, q0, fun d S' z => h _ _ (h1 _ _ z), fun e S' z => hE _ _ (h2 _ _ z)⟩
theorem lcGo_mono {src : Src} {n : Nat} {step : D → Store → (Option D → Store → Prop) → Prop} (hs : ∀ d S K K', (∀ o S, K o S → K' o S) → step d S K → step d S K') {K K' : Store → Prop} (h : ∀ S, K S → K' S) :
    ∀ (l : List D) (S : Store), lcGo src n step l S K → lcGo src n step l S K'
  | [], S, q => h _ q
  | d :: r, S, q => by
    unfold lcGo at q ⊢
    refine hs _ _ _ _ (fun o S' z => ⟨z.1, ?_⟩) q
    have z2 := z.2
    cases o with
    | none => exact lcGo_mono hs h r S' z2
    | some y =>
      dsimp only at z2 ⊢
      split at z2
      · exact ⟨z2.1, lcGo_mono hs h r _ z2.2⟩
      · exact z2.elim
mutual
theorem wpE_mono (C : SC) (X : Err → DEnv → Store → Prop) (hX : ∀ er e S, C.xq er e S → X er e S) : ∀ (e : DE) (env : DEnv) (S : Store) (Q Q' : DQ), (∀ d S, Q d S → Q' d S) → wpE C e env S Q → wpE { C with xq := X } e env S Q'
  | .var i, env, S, Q, Q', h, q => by
    unfold wpE at q ⊢
    split at q
    · exact h _ _ q
    · exact q.elim
  | .cst d, env, S, Q, Q', h, q => by unfold wpE at q ⊢; exact h _ _ q
  | .bin o a b, env, S, Q, Q', h, q => by
    unfold wpE at q ⊢
    exact wpE_mono C X hX a _ _ _ _ (fun x S1 q => wpE_mono C X hX b _ _ _ _ (fun y S2 q => wpBin_mono h q) q) q
  | .neg a, env, S, Q, Q', h, q => by
    unfold wpE at q ⊢
    refine wpE_mono C X hX a _ _ _ _ (fun x S1 q => ?_) q
    split at q
    · exact h _ _ q
    · exact q.elim
  | .cmp o a b, env, S, Q, Q', h, q => by
    unfold wpE at q ⊢
    exact wpE_mono C X hX a _ _ _ _ (fun x S1 q => wpE_mono C X hX b _ _ _ _ (fun y S2 q => onO_mono (fun _ z => h _ _ z) q) q) q
  | .chn o p a b c, env, S, Q, Q', h, q => by
    unfold wpE at q ⊢
    refine wpE_mono C X hX a _ _ _ _ (fun x S1 q => wpE_mono C X hX b _ _ _ _ (fun y S2 q => onO_mono (fun k z => ?_) q) q) q
    by_cases hk : k = true
    · rw [if_pos hk] at z ⊢
      exact wpE_mono C X hX c _ _ _ _ (fun w S3 q => onO_mono (fun _ z => h _ _ z) q) z
    · rw [if_neg hk] at z ⊢
      exact h _ _ z
  | .and a b, env, S, Q, Q', h, q => by
    unfold wpE at q ⊢
    refine wpE_mono C X hX a _ _ _ _ (fun x S1 q => onO_mono (fun k z => ?_) q) q
    by_cases hk : k = true
    · rw [if_pos hk] at z ⊢
      exact wpE_mono C X hX b _ _ _ _ h z
    · rw [if_neg hk] at z ⊢
      exact h _ _ z
  | .or a b, env, S, Q, Q', h, q => by
    unfold wpE at q ⊢
    refine wpE_mono C X hX a _ _ _ _ (fun x S1 q => onO_mono (fun k z => ?_) q) q
    by_cases hk : k = true
    · rw [if_pos hk] at z ⊢
      exact h _ _ z
    · rw [if_neg hk] at z ⊢
      exact wpE_mono C X hX b _ _ _ _ h z
  | .not a, env, S, Q, Q', h, q => by
    unfold wpE at q ⊢
    exact wpE_mono C X hX a _ _ _ _ (fun x S1 q => onO_mono (fun k z => h _ _ z) q) q
  | .ife c a b, env, S, Q, Q', h, q => by
    unfold wpE at q ⊢
    refine wpE_mono C X hX c _ _ _ _ (fun x S1 q => onO_mono (fun k z => ?_) q) q
    by_cases hk : k = true
    · rw [if_pos hk] at z ⊢
      exact wpE_mono C X hX a _ _ _ _ h z
    · rw [if_neg hk] at z ⊢
      exact wpE_mono C X hX b _ _ _ _ h z
  | .call f es, env, S, Q, Q', h, q => by
    unfold wpE at q ⊢
    exact wpEs_mono C X hX es _ _ _ _ (fun ds S1 q => callC_mono h (fun _ _ z => hX _ _ _ z) q) q
  | .bi b es, env, S, Q, Q', h, q => by
    unfold wpE at q ⊢
    exact wpEs_mono C X hX es _ _ _ _ (fun ds S1 q => wpBi_mono h q) q
  | .bm m o es, env, S, Q, Q', h, q => by
    unfold wpE at q ⊢
    exact wpE_mono C X hX o _ _ _ _ (fun x S1 q => ⟨q.1, wpEs_mono C X hX es _ _ _ _ (fun ds S2 q => wpBm_mono h q) q.2⟩) q
  | .ix a i, env, S, Q, Q', h, q => by
    unfold wpE at q ⊢
    exact wpE_mono C X hX a _ _ _ _ (fun x S1 q => wpE_mono C X hX i _ _ _ _ (fun y S2 q => onO_mono (fun _ z => h _ _ z) q) q) q
  | .sl a lo hi, env, S, Q, Q', h, q => by
    unfold wpE at q ⊢
    exact wpE_mono C X hX a _ _ _ _ (fun x S1 q => wpO_mono C X hX lo _ _ _ _ (fun l S2 q => onO_mono (fun l q => wpO_mono C X hX hi _ _ _ _ (fun u S3 q => onO_mono (fun u q => wpSl_mono h q) q) q) q) q) q
  | .tup es, env, S, Q, Q', h, q => by
    unfold wpE at q ⊢
    exact wpEs_mono C X hX es _ _ _ _ (fun ds S1 q => ⟨q.1, h _ _ q.2⟩) q
  | .lst es, env, S, Q, Q', h, q => by
    unfold wpE at q ⊢
    exact wpEs_mono C X hX es _ _ _ _ (fun ds S1 q => ⟨q.1, h _ _ q.2⟩) q
  | .lc own t it c e, env, S, Q, Q', h, q => by
    unfold wpE at q ⊢
    refine wpI_mono C X hX it _ _ _ _ (fun src items S1 q => ⟨q.1, lcGo_mono (fun d S K K' hK q => ?_) (fun S z => h _ _ z) _ _ q.2⟩) q
    refine wpT_mono { C with xq := fun _ _ _ => False } (fun _ _ _ => False) (fun _ _ _ z => z) t _ _ _ _ _ (fun env1 S3 q => wpO_mono { C with xq := fun _ _ _ => False } (fun _ _ _ => False) (fun _ _ _ z => z) c _ _ _ _ (fun o S4 q => ?_) q) q
    cases o with
    | none => exact wpE_mono { C with xq := fun _ _ _ => False } (fun _ _ _ => False) (fun _ _ _ z => z) e _ _ _ _ (fun y S5 z => hK _ _ z) q
    | some x =>
      refine onO_mono (fun k z => ?_) q
      by_cases hk : k = true
      · rw [if_pos hk] at z ⊢
        exact wpE_mono { C with xq := fun _ _ _ => False } (fun _ _ _ => False) (fun _ _ _ z => z) e _ _ _ _ (fun y S5 z => hK _ _ z) z
      · rw [if_neg hk] at z ⊢
        exact hK _ _ z
  | .efld f, env, S, Q, Q', h, q => by
    unfold wpE at q ⊢
    dsimp only at q ⊢
    revert q
    cases C.exn with
    | none => exact fun q => q
    | some er => exact fun q => onO_mono (fun _ z => h _ _ z) q
  | .eisi cs, env, S, Q, Q', h, q => by
    unfold wpE at q ⊢
    dsimp only at q ⊢
    revert q
    cases C.exn with
    | none => exact fun q => q
    | some er => exact fun q => h _ _ q
  | .dnew, env, S, Q, Q', h, q => by unfold wpE at q ⊢; exact h _ _ q
  | .bits a, env, S, Q, Q', h, q => by
    unfold wpE at q ⊢
    refine wpE_mono C X hX a _ _ _ _ (fun x S1 q => ?_) q
    split at q
    · exact h _ _ q
    · exact q.elim
  | .fld a f, env, S, Q, Q', h, q => by
    unfold wpE at q ⊢
    refine wpE_mono C X hX a _ _ _ _ (fun x S1 q => ?_) q
    split at q
    · split at q
      · dsimp only at q ⊢
        split at q
        · exact ⟨q.1, h _ _ q.2⟩
        · exact onO_mono (fun _ z => h _ _ z) q
      · exact q.elim
    · exact q.elim
  | .mth m tb o es, env, S, Q, Q', h, q => by
    unfold wpE at q ⊢
    refine wpE_mono C X hX o _ _ _ _ (fun x S1 q => ?_) q
    split at q
    · split at q
      · exact ⟨q.1, onO_mono (fun _ q => wpEs_mono C X hX es _ _ _ _ (fun ds S2 q => callC_mono h (fun _ _ z => hX _ _ _ z) q) q) q.2⟩
      · exact q.elim
    · exact q.elim
  | .new c i es, env, S, Q, Q', h, q => by
    unfold wpE at q ⊢
    exact wpEs_mono C X hX es _ _ _ _ (fun ds S1 q => callC_mono (fun _ _ z => ⟨z.1, h _ _ z.2⟩) (fun _ _ z => hX _ _ _ z) q) q
theorem wpO_mono (C : SC) (X : Err → DEnv → Store → Prop) (hX : ∀ er e S, C.xq er e S → X er e S) : ∀ (e : DO) (env : DEnv) (S : Store) (Q Q' : Option D → Store → Prop), (∀ d S, Q d S → Q' d S) → wpO C e env S Q → wpO { C with xq := X } e env S Q'
  | .none, env, S, Q, Q', h, q => by unfold wpO at q ⊢; exact h _ _ q
  | .some e, env, S, Q, Q', h, q => by unfold wpO at q ⊢; exact wpE_mono C X hX e _ _ _ _ (fun d S1 z => h _ _ z) q
theorem wpEs_mono (C : SC) (X : Err → DEnv → Store → Prop) (hX : ∀ er e S, C.xq er e S → X er e S) : ∀ (es : DEs) (env : DEnv) (S : Store) (Q Q' : List D → Store → Prop), (∀ d S, Q d S → Q' d S) → wpEs C es env S Q → wpEs { C with xq := X } es env S Q'
  | .nil, env, S, Q, Q', h, q => by unfold wpEs at q ⊢; exact h _ _ q
  | .cons e es, env, S, Q, Q', h, q => by
    unfold wpEs at q ⊢
    exact wpE_mono C X hX e _ _ _ _ (fun d S1 q => wpEs_mono C X hX es _ _ _ _ (fun ds S2 z => h _ _ z) q) q
  | .star e es, env, S, Q, Q', h, q => by
    unfold wpEs at q ⊢
    exact wpE_mono C X hX e _ _ _ _ (fun d S1 q => onO_mono (fun xs q => wpEs_mono C X hX es _ _ _ _ (fun ds S2 z => h _ _ z) q) q) q
theorem wpT_mono (C : SC) (X : Err → DEnv → Store → Prop) (hX : ∀ er e S, C.xq er e S → X er e S) : ∀ (t : DT) (d : D) (env : DEnv) (S : Store) (K K' : DEnv → Store → Prop), (∀ e S, K e S → K' e S) → wpT C t d env S K → wpT { C with xq := X } t d env S K'
  | .nm i, d, env, S, K, K', h, q => by unfold wpT at q ⊢; exact h _ _ q
  | .sub o i, d, env, S, K, K', h, q => by
    unfold wpT at q ⊢
    exact wpE_mono C X hX o _ _ _ _ (fun x S1 q => wpE_mono C X hX i _ _ _ _ (fun y S2 q => wpSet_mono (fun _ z => h _ _ z) q) q) q
  | .tp ts, d, env, S, K, K', h, q => by
    unfold wpT at q ⊢
    exact onO_mono (fun xs q => ⟨q.1, wpTs_mono C X hX ts _ _ _ _ _ h q.2⟩) q
theorem wpTs_mono (C : SC) (X : Err → DEnv → Store → Prop) (hX : ∀ er e S, C.xq er e S → X er e S) : ∀ (ts : DTs) (ds : List D) (env : DEnv) (S : Store) (K K' : DEnv → Store → Prop), (∀ e S, K e S → K' e S) → wpTs C ts ds env S K → wpTs { C with xq := X } ts ds env S K'
  | .nil, [], env, S, K, K', h, q => by unfold wpTs at q ⊢; exact h _ _ q
  | .cons t ts, d :: ds, env, S, K, K', h, q => by
    unfold wpTs at q ⊢
    exact wpT_mono C X hX t _ _ _ _ _ (fun e1 S1 q => wpTs_mono C X hX ts _ _ _ _ _ h q) q
  | .nil, d :: ds, env, S, K, K', h, q => by unfold wpTs at q; exact q.elim
  | .cons t ts, [], env, S, K, K', h, q => by unfold wpTs at q; exact q.elim
theorem wpI_mono (C : SC) (X : Err → DEnv → Store → Prop) (hX : ∀ er e S, C.xq er e S → X er e S) : ∀ (it : DI) (env : DEnv) (S : Store) (Q Q' : Src → List D → Store → Prop), (∀ s l S, Q s l S → Q' s l S) → wpI C it env S Q → wpI { C with xq := X } it env S Q'
  | .seq e, env, S, Q, Q', h, q => by unfold wpI at q ⊢; exact wpE_mono C X hX e _ _ _ _ (fun d S1 q => onO_mono (fun _ z => h _ _ _ z) q) q
  | .rng es, env, S, Q, Q', h, q => by unfold wpI at q ⊢; exact wpEs_mono C X hX es _ _ _ _ (fun d S1 q => onO_mono (fun _ z => h _ _ _ z) q) q
  | .enum e, env, S, Q, Q', h, q => by unfold wpI at q ⊢; exact wpE_mono C X hX e _ _ _ _ (fun d S1 q => onO_mono (fun _ z => h _ _ _ z) q) q
  | .items e, env, S, Q, Q', h, q => by unfold wpI at q; exact q.elim
  | .rev e, env, S, Q, Q', h, q => by unfold wpI at q ⊢; exact wpE_mono C X hX e _ _ _ _ (fun d S1 q => onO_mono (fun _ z => h _ _ _ z) q) q
end
structure DEnds.Le (B B' : DEnds) : Prop where
  nx : ∀ e S, B.nx e S → B'.nx e S
  rt : ∀ d S, B.rt d S → B'.rt d S
  bk : ∀ e S, B.bk e S → B'.bk e S
  ct : ∀ e S, B.ct e S → B'.ct e S
theorem DEnds.Le.refl (B : DEnds) : B.Le B := ⟨fun _ _ z => z, fun _ _ z => z, fun _ _ z => z, fun _ _ z => z⟩
theorem frGo_mono {src : Src} {step step' : D → DEnds → DEnv → Store → Prop} (hs : ∀ d B B' e S, B.Le B' → step d B e S → step' d B' e S) {B B' : DEnds} (h : B.Le B') :
    ∀ (l : List D) (e : DEnv) (S : Store), frGo src step B l e S → frGo src step' B' l e S
  | [], e, S, q => h.nx _ _ q
  | d :: r, e, S, q => by
    have ih := frGo_mono (src := src) hs h r
    unfold frGo at q ⊢
    refine hs d _ _ e S (DEnds.Le.mk ?_ ?_ ?_ ?_) q
    · intro e S z
      exact ⟨z.1, ih _ _ z.2⟩
    · exact h.rt
    · exact h.nx
    · intro e S z
      exact ⟨z.1, ih _ _ z.2⟩
theorem endsN_mono {n : Option Nat} {B B' : DEnds} (h : B.Le B') : (endsN n B).Le (endsN n B') := DEnds.Le.mk (fun _ _ z => h.nx _ _ z) h.rt (fun _ _ z => h.bk _ _ z) (fun _ _ z => h.ct _ _ z)
mutual
theorem wpS_mono (C : SC) (X : Err → DEnv → Store → Prop) (hX : ∀ er e S, C.xq er e S → X er e S) : ∀ (s : DS) (B B' : DEnds) (env : DEnv) (S : Store), B.Le B' → wpS C s B env S → wpS { C with xq := X } s B' env S
  | .asg t e, B, B', env, S, h, q => by
    unfold wpS at q ⊢
    exact wpE_mono C X hX e _ _ _ _ (fun d S1 q => wpT_mono C X hX t _ _ _ _ _ h.nx q) q
  | .aug i o e, B, B', env, S, h, q => by
    unfold wpS at q ⊢
    split at q
    · refine wpE_mono C X hX e _ _ _ _ (fun y S1 q => ?_) q
      split at q
      · exact wpBin_mono (fun _ _ z => h.nx _ _ z) q
      · exact q.elim
    · exact q.elim
  | .ex e, B, B', env, S, h, q => by
    unfold wpS at q ⊢
    exact wpE_mono C X hX e _ _ _ _ (fun d S1 q => h.nx _ _ q) q
  | .ret e, B, B', env, S, h, q => by
    unfold wpS at q ⊢
    exact wpO_mono C X hX e _ _ _ _ (fun d S1 q => h.rt _ _ q) q
  | .ifs c a b, B, B', env, S, h, q => by
    unfold wpS at q ⊢
    refine wpE_mono C X hX c _ _ _ _ (fun d S1 q => onO_mono (fun k z => ?_) q) q
    by_cases hk : k = true
    · rw [if_pos hk] at z ⊢
      exact wpSs_mono C X hX a _ _ _ _ h z
    · rw [if_neg hk] at z ⊢
      exact wpSs_mono C X hX b _ _ _ _ h z
  | .fr t it b, B, B', env, S, h, q => by
    unfold wpS at q ⊢
    exact wpI_mono C X hX it _ _ _ _ (fun src items S1 q => ⟨q.1, frGo_mono (fun d B B' e S hB q => wpT_mono C X hX t _ _ _ _ _ (fun e2 S2 q => wpSs_mono C X hX b _ _ _ _ hB q) q) h _ _ _ q.2⟩) q
  | .wh c b, B, B', env, S, h, q => by
    unfold wpS at q ⊢
    obtain ⟨W, h0, q⟩ := q
    refine ⟨W, h0, fun m env S hW => wpE_mono C X hX c _ _ _ _ (fun x S1 q => onO_mono (fun k z => ?_) q) (q m env S hW)⟩
    by_cases hk : k = true
    · rw [if_pos hk] at z ⊢
      refine wpSs_mono C X hX b _ _ _ _ ?_ z
      exact DEnds.Le.mk (fun _ _ z => z) h.rt h.nx (fun _ _ z => z)
    · rw [if_neg hk] at z ⊢
      exact h.nx _ _ z
  | .pas, B, B', env, S, h, q => by unfold wpS at q ⊢; exact h.nx _ _ q
  | .brk, B, B', env, S, h, q => by unfold wpS at q ⊢; exact h.bk _ _ q
  | .cnt, B, B', env, S, h, q => by unfold wpS at q ⊢; exact h.ct _ _ q
  | .rse c fs es, B, B', env, S, h, q => by
    unfold wpS at q ⊢
    exact wpEs_mono C X hX es _ _ _ _ (fun ds S1 z => ⟨z.1, hX _ _ _ z.2⟩) q
  | .tr b c n s, B, B', env, S, h, q => by
    unfold wpS at q ⊢
    have w := fun X' hX' => wpSs_mono _ X' hX' b _ _ _ _ h q
    refine w _ ?_
    intro er e S z
    exact ⟨z.1, z.2.1, fun hc => wpSs_mono _ (fun _ _ _ => False) (fun _ _ _ z => z) s _ _ _ _ (endsN_mono h) (z.2.2.1 hc), fun hc => hX _ _ _ (z.2.2.2 hc)⟩
  | .setf o f e, B, B', env, S, h, q => by
    unfold wpS at q ⊢
    exact wpE_mono C X hX e _ _ _ _ (fun d S1 q => wpE_mono C X hX o _ _ _ _ (fun x S2 q => wpFld_mono (fun _ z => h.nx _ _ z) q) q) q
theorem wpSs_mono (C : SC) (X : Err → DEnv → Store → Prop) (hX : ∀ er e S, C.xq er e S → X er e S) : ∀ (s : List DS) (B B' : DEnds) (env : DEnv) (S : Store), B.Le B' → wpSs C s B env S → wpSs { C with xq := X } s B' env S
  | [], B, B', env, S, h, q => by unfold wpSs at q ⊢; exact h.nx _ _ q
  | s :: r, B, B', env, S, h, q => by
    unfold wpSs at q ⊢
    refine wpS_mono C X hX s _ _ _ _ ?_ q
    exact DEnds.Le.mk (fun e S z => wpSs_mono C X hX r _ _ _ _ h z) h.rt h.bk h.ct
end
end PD

set_option Elab.async false
set_option linter.all false
set_option maxRecDepth 100000
set_option maxHeartbeats 4000000
namespace PD
open PySem PySem.Spec PyProof.Rows L2
/-! ### plain values and the layer's -/
/-- a list that nobody writes: frozen, or an object of the module -/
def SqR (K : PySem.W.Frag) (H : Hp) (a : Addr) (xs : List V) : Prop := (∃ o, H a = some (.frz o (.lst xs))) ∨
  ∃ (o : Obj) (its : Array Value) (n : Nat), K.lookup a = some o ∧ o.cls = .type "list" ∧ o.dict = none ∧ o.data = .seq its n ∧ its.size ≤ sizeLine ∧ Vals xs its.toList
theorem SqR.sq {K : PySem.W.Frag} {H : Hp} {a : Addr} {xs : List V} (h : SqR K H a xs) : SqL K H a xs := by
  rcases h with ⟨o, h⟩ | h
  · exact .inl (.inr ⟨o, h⟩)
  · exact .inr h
/-- a tuple that was made -/
def SqU (H : Hp) (a : Addr) (xs : List V) : Prop := H a = some (.tup xs)
theorem SqU.sq {K : PySem.W.Frag} {H : Hp} {a : Addr} {xs : List V} (h : SqU H a xs) : SqT K H a xs := .inl (.inl h)
/-- a tuple of the module -/
def SqM (K : PySem.W.Frag) (a : Addr) (xs : List V) : Prop := ∃ (o : Obj) (its : Array Value) (n : Nat), K.lookup a = some o ∧ o.cls = .type "tuple" ∧ o.data = .seq its n ∧ its.size ≤ sizeLine ∧ Vals xs its.toList
theorem SqM.sq {K : PySem.W.Frag} {H : Hp} {a : Addr} {xs : List V} (h : SqM K a xs) : SqT K H a xs := .inr h
mutual
inductive RD (K : PySem.W.Frag) (ca : Nat → Addr) (H : Hp) (β : List Addr) : D → V → Prop
  | non : RD K ca H β .non .non
  | bl (b : Bool) : RD K ca H β (.bl b) (.bl b)
  | int (i : Int) : RD K ca H β (.int i) (.int i)
  | str (x : Str) : RD K ca H β (.str x) (.str x)
  | ty (n : String) : RD K ca H β (.ty n) (.ty n)
  | own (c : Nat) : RD K ca H β (.own c) (.ref (ca c))
  | tup {a : Addr} {vs : List V} {ds : List D} : SqU H a vs → RDs K ca H β ds vs → RD K ca H β (.tup ds) (.ref a)
  | kt {a : Addr} {vs : List V} {ds : List D} : SqM K a vs → RDs K ca H β ds vs → RD K ca H β (.kt ds) (.ref a)
  | kl {a : Addr} {vs : List V} {ds : List D} : SqR K H a vs → RDs K ca H β ds vs → RD K ca H β (.kl ds) (.ref a)
  | ref {n : Nat} {a : Addr} : β[n]? = some a → RD K ca H β (.ref n) (.ref a)
inductive RDs (K : PySem.W.Frag) (ca : Nat → Addr) (H : Hp) (β : List Addr) : List D → List V → Prop
  | nil : RDs K ca H β [] []
  | cons {d : D} {v : V} {ds : List D} {vs : List V} : RD K ca H β d v → RDs K ca H β ds vs → RDs K ca H β (d :: ds) (v :: vs)
end
/-- how the heap may go on -/
structure Gr (K : PySem.W.Frag) (β : List Addr) (H : Hp) (β' : List Addr) (H' : Hp) : Prop where
  pre : ∀ (n : Nat) (a : Addr), β[n]? = some a → β'[n]? = some a
  tup : ∀ a vs, SqU H a vs → SqU H' a vs
  frz : ∀ a o u, H a = some (.frz o u) → H' a = some (.frz o u)
  xd : ∀ a fs, H a = some (.xd fs) → H' a = some (.xd fs)
section
variable {K : PySem.W.Frag} {ca : Nat → Addr} {H H' H2 : Hp} {β β' β2 : List Addr}
theorem Gr.refl : Gr K β H β H := ⟨fun _ _ z => z, fun _ _ z => z, fun _ _ _ z => z, fun _ _ z => z⟩
theorem Gr.trans (a : Gr K β H β' H') (b : Gr K β' H' β2 H2) : Gr K β H β2 H2 := ⟨fun n x z => b.pre n x (a.pre n x z), fun n x z => b.tup n x (a.tup n x z), fun n x y z => b.frz n x y (a.frz n x y z), fun n x z => b.xd n x (a.xd n x z)⟩
theorem Gr.ro (g : Gr K β H β' H') {a : Addr} {vs : List V} (h : SqR K H a vs) : SqR K H' a vs := by
  rcases h with ⟨o, h⟩ | h
  · exact .inl ⟨o, g.frz _ _ _ h⟩
  · exact .inr h
mutual
theorem RD.grow (g : Gr K β H β' H') : ∀ {d : D} {v : V}, RD K ca H β d v → RD K ca H' β' d v
  | _, _, .non => .non
  | _, _, .bl b => .bl b
  | _, _, .int b => .int b
  | _, _, .str b => .str b
  | _, _, .ty b => .ty b
  | _, _, .own b => .own b
  | _, _, .tup h r => .tup (g.tup _ _ h) (RDs.grow g r)
  | _, _, .kl h r => .kl (g.ro h) (RDs.grow g r)
  | _, _, .kt h r => .kt h (RDs.grow g r)
  | _, _, .ref h => .ref (g.pre _ _ h)
theorem RDs.grow (g : Gr K β H β' H') : ∀ {ds : List D} {vs : List V}, RDs K ca H β ds vs → RDs K ca H' β' ds vs
  | _, _, .nil => .nil
  | _, _, .cons h r => .cons (RD.grow g h) (RDs.grow g r)
end
theorem RDs.length : ∀ {ds : List D} {vs : List V}, RDs K ca H β ds vs → ds.length = vs.length
  | _, _, .nil => rfl
  | _, _, .cons _ r => by rw [List.length_cons, List.length_cons, RDs.length r]
theorem RDs.get : ∀ {ds : List D} {vs : List V} {i : Nat} {d : D}, RDs K ca H β ds vs → ds[i]? = some d → ∃ v, vs[i]? = some v ∧ RD K ca H β d v
  | _, _, _, _, .nil, e => by simp at e
  | _, _, 0, _, .cons r _, e => by simp at e; subst e; exact ⟨_, rfl, r⟩
  | _, _, i + 1, d, .cons _ t, e => by
    obtain ⟨u, h1, h2⟩ := RDs.get (i := i) (d := d) t (by simpa using e)
    exact ⟨u, by simpa using h1, h2⟩
theorem RDs.app : ∀ {ds es : List D} {vs ws : List V}, RDs K ca H β ds vs → RDs K ca H β es ws → RDs K ca H β (ds ++ es) (vs ++ ws)
  | _, _, _, _, .nil, s => s
  | _, _, _, _, .cons r t, s => .cons r (RDs.app t s)
theorem RDs.take : ∀ {ds : List D} {vs : List V} (n : Nat), RDs K ca H β ds vs → RDs K ca H β (ds.take n) (vs.take n)
  | _, _, 0, _ => .nil
  | _, _, _ + 1, .nil => .nil
  | _, _, n + 1, .cons r t => .cons r (RDs.take n t)
theorem RDs.drop : ∀ {ds : List D} {vs : List V} (n : Nat), RDs K ca H β ds vs → RDs K ca H β (ds.drop n) (vs.drop n)
  | _, _, 0, r => r
  | _, _, _ + 1, .nil => .nil
  | _, _, n + 1, .cons _ t => RDs.drop n t
theorem RDs.set {d : D} {v : V} (r : RD K ca H β d v) : ∀ {ds : List D} {vs : List V} (i : Nat), RDs K ca H β ds vs → RDs K ca H β (ds.set i d) (vs.set i v)
  | _, _, _, .nil => .nil
  | _, _, 0, .cons _ t => .cons r t
  | _, _, i + 1, .cons q t => .cons q (RDs.set r i t)
theorem RDs.dropLast : ∀ {ds : List D} {vs : List V}, RDs K ca H β ds vs → RDs K ca H β ds.dropLast vs.dropLast
  | _, _, .nil => .nil
  | _, _, .cons r .nil => .nil
  | _, _, .cons r (.cons s t) => .cons r (RDs.dropLast (.cons s t))
theorem RDs.rep {ds : List D} {vs : List V} (r : RDs K ca H β ds vs) : ∀ k : Nat, RDs K ca H β (List.replicate k ds).flatten (List.replicate k vs).flatten
  | 0 => .nil
  | k + 1 => by
    rw [List.replicate_succ, List.replicate_succ, List.flatten_cons, List.flatten_cons]
    exact r.app (RDs.rep r k)
theorem RDs.cut {ds : List D} {vs : List V} (r : RDs K ca H β ds vs) (lo hi : Option Int) : RDs K ca H β (cutL ds lo hi) (cutV vs lo hi) := by
  unfold cutL cutV
  rw [r.length]
  exact (r.drop _).take _
/-- what stands at a place of the store -/
def OR (K : PySem.W.Frag) (ca : Nat → Addr) (H : Hp) (β : List Addr) : SO → Addr → Prop
  | .lst xs, a => ∃ vs, H a = some (.lst vs) ∧ RDs K ca H β xs vs
  | .ins c fs, a => ∃ (dx : Addr) (fv : List (Str × V)), H a = some (.ins (ca c) dx fv) ∧ fs.map (·.1) = fv.map (·.1) ∧ RDs K ca H β (fs.map (·.2)) (fv.map (·.2))
  | .dct kvs, a => ∃ kv : List (List L2.Key × V), H a = some (.dT kv) ∧ kv.map (·.1) = kvs.map (fun p => p.1.map Sum.inl) ∧ RDs K ca H β (kvs.map (·.2)) (kv.map (·.2))
structure HSim (K : PySem.W.Frag) (ca : Nat → Addr) (S : Store) (β : List Addr) (H : Hp) : Prop where
  len : β.length = S.length
  nd : β.Nodup
  ob : ∀ (n : Nat) (o : SO) (a : Addr), S[n]? = some o → β[n]? = some a → OR K ca H β o a
theorem OR.some {o : SO} {a : Addr} (h : OR K ca H β o a) : ∃ u, H a = some u ∧ (∀ xs, u ≠ .tup xs) ∧ (∀ ob v, u ≠ .frz ob v) ∧ ∀ fs, u ≠ .xd fs := by
  cases o with
  | lst xs => obtain ⟨vs, h, _⟩ := h; exact ⟨_, h, fun _ z => (nomatch z), fun _ _ z => (nomatch z), fun _ z => (nomatch z)⟩
  | ins c fs => obtain ⟨dx, fv, h, _⟩ := h; exact ⟨_, h, fun _ z => (nomatch z), fun _ _ z => (nomatch z), fun _ z => (nomatch z)⟩
  | dct kvs => obtain ⟨kv, h, _⟩ := h; exact ⟨_, h, fun _ z => (nomatch z), fun _ _ z => (nomatch z), fun _ z => (nomatch z)⟩
theorem HSim.at {S : Store} (s : HSim K ca S β H) {n : Nat} {o : SO} (h : S[n]? = some o) : ∃ a, β[n]? = some a ∧ OR K ca H β o a := by
  have hl : n < S.length := by
    rcases Nat.lt_or_ge n S.length with z | z
    · exact z
    · rw [List.getElem?_eq_none z] at h; cases h
  have hb : n < β.length := by rw [s.len]; exact hl
  exact ⟨_, List.getElem?_eq_getElem hb, s.ob n o _ h (List.getElem?_eq_getElem hb)⟩
theorem HSim.there {S : Store} (s : HSim K ca S β H) {n : Nat} {a : Addr} (h : β[n]? = some a) : ∃ o, S[n]? = some o ∧ OR K ca H β o a := by
  have hl : n < β.length := by
    rcases Nat.lt_or_ge n β.length with z | z
    · exact z
    · rw [List.getElem?_eq_none z] at h; cases h
  have hb : n < S.length := by rw [← s.len]; exact hl
  exact ⟨_, List.getElem?_eq_getElem hb, s.ob n _ a (List.getElem?_eq_getElem hb) h⟩
/-- objects are kept: the relation goes on -/
theorem OR.keep (g : Gr K β H β' H') {o : SO} {a : Addr} (k : H' a = H a) (h : OR K ca H β o a) : OR K ca H' β' o a := by
  cases o with
  | lst xs => obtain ⟨vs, h, r⟩ := h; exact ⟨vs, k.trans h, r.grow g⟩
  | ins c fs => obtain ⟨dx, fv, h, e, r⟩ := h; exact ⟨dx, fv, k.trans h, e, r.grow g⟩
  | dct kvs => obtain ⟨kv, h, e, r⟩ := h; exact ⟨kv, k.trans h, e, r.grow g⟩
theorem sqT_upd {p : Addr} {o : HO} (hp : H p = none ∨ (∃ u, H p = some u ∧ (∀ xs, u ≠ .tup xs) ∧ (∀ ob v, u ≠ .frz ob v))) {a : Addr} {vs : List V} (h : SqU H a vs) : SqU (upd H p o) a vs := by
  have h : H a = some (.tup vs) := h
  have hne : a ≠ p := by
    rintro rfl
    rcases hp with hp | ⟨u, hu, n1, n2⟩
    · rw [hp] at h; cases h
    · rw [hu] at h; cases h; exact n1 _ rfl
  show upd H p o a = some (.tup vs)
  rw [upd_ne hne]; exact h
theorem Gr.fresh {p : Addr} {o : HO} (hp : H p = none) : Gr K β H β (upd H p o) where
  pre := fun _ _ z => z
  tup := fun _ _ h => sqT_upd (.inl hp) h
  frz := fun a ob u h => by rw [upd_ne (ne_of_none h hp)]; exact h
  xd := fun a ob h => by rw [upd_ne (ne_of_none h hp)]; exact h
theorem Gr.snoc (p : Addr) : Gr K β H (β ++ [p]) H where
  pre := fun n a z => by
    rw [List.getElem?_append_left]
    · exact z
    · rcases Nat.lt_or_ge n β.length with q | q
      · exact q
      · rw [List.getElem?_eq_none q] at z; cases z
  tup := fun _ _ z => z
  frz := fun _ _ _ z => z
  xd := fun _ _ z => z
/-- an object that is not of the store's places is laid -/
theorem HSim.fresh {S : Store} (s : HSim K ca S β H) {p : Addr} {o : HO} (hp : H p = none) : HSim K ca S β (upd H p o) where
  len := s.len
  nd := s.nd
  ob := fun n ob a h1 h2 => by
    have h := s.ob n ob a h1 h2
    obtain ⟨u, hu, _⟩ := h.some
    exact h.keep (Gr.fresh hp) (upd_ne (ne_of_none hu hp))
theorem HSim.alloc {S : Store} (s : HSim K ca S β H) {p : Addr} (hp : H p = none) {o : SO} {ho : HO} (hr : OR K ca (upd H p ho) (β ++ [p]) o p) : HSim K ca (S ++ [o]) (β ++ [p]) (upd H p ho) where
  len := by rw [List.length_append, List.length_append, s.len]; rfl
  nd := by
    refine List.nodup_append.mpr ⟨s.nd, List.nodup_cons.mpr ⟨List.not_mem_nil, List.nodup_nil⟩, ?_⟩
    intro a ha b hb
    rw [List.mem_singleton] at hb
    subst hb
    obtain ⟨n, hn⟩ := List.getElem?_of_mem ha
    obtain ⟨o, _, h⟩ := s.there hn
    obtain ⟨u, hu, _⟩ := h.some
    exact ne_of_none hu hp
  ob := fun n ob a h1 h2 => by
    rcases Nat.lt_or_ge n S.length with hl | hl
    · rw [List.getElem?_append_left hl] at h1
      rw [List.getElem?_append_left (by rw [s.len]; exact hl)] at h2
      have h := s.ob n ob a h1 h2
      obtain ⟨u, hu, _⟩ := h.some
      exact (h.keep ((Gr.fresh hp).trans (Gr.snoc p)) (upd_ne (ne_of_none hu hp)))
    · have e : n = S.length := by
        rcases Nat.lt_or_ge n (S ++ [o]).length with z | z
        · rw [List.length_append] at z
          simp at z
          omega
        · rw [List.getElem?_eq_none z] at h1; cases h1
      subst e
      rw [List.getElem?_append_right (Nat.le_refl _), Nat.sub_self] at h1
      cases h1
      rw [← s.len, List.getElem?_append_right (Nat.le_refl _), Nat.sub_self] at h2
      cases h2
      exact hr
theorem HSim.lst {S : Store} (s : HSim K ca S β H) {p : Addr} (hp : H p = none) {xs : List D} {vs : List V} (r : RDs K ca H β xs vs) : HSim K ca (S ++ [.lst xs]) (β ++ [p]) (upd H p (.lst vs)) :=
  s.alloc hp ⟨vs, upd_same, r.grow ((Gr.fresh hp).trans (Gr.snoc p))⟩
theorem grow_alloc {p : Addr} {ho : HO} (hp : H p = none) : Gr K β H (β ++ [p]) (upd H p ho) := (Gr.fresh hp).trans (Gr.snoc p)
theorem ref_last {S : Store} (s : HSim K ca S β H) {p : Addr} : RD K ca H' (β ++ [p]) (.ref S.length) (.ref p) := .ref (by rw [← s.len, List.getElem?_append_right (Nat.le_refl _), Nat.sub_self]; rfl)
/-- an object of the store is written -/
theorem gr_wr {a : Addr} {ho : HO} {o : SO} (h : OR K ca H β o a) : Gr K β H β (upd H a ho) := by
  obtain ⟨u, hv, n1, n2, n3⟩ := h.some
  refine ⟨fun _ _ z => z, fun b us h => sqT_upd (.inr ⟨_, hv, n1, n2⟩) h, fun b o u2 h => ?_, fun b fs h => ?_⟩
  · rw [upd_ne (ne_of h hv (fun z => n2 _ _ z.symm))]; exact h
  · rw [upd_ne (ne_of h hv (fun z => n3 _ z.symm))]; exact h
theorem HSim.wrO {S : Store} (s : HSim K ca S β H) {n : Nat} {a : Addr} {o o' : SO} {ho : HO} (h1 : S[n]? = some o) (h2 : β[n]? = some a) (r : OR K ca (upd H a ho) β o' a) :
    HSim K ca (S.set n o') β (upd H a ho) ∧ Gr K β H β (upd H a ho) := by
  have g : Gr K β H β (upd H a ho) := gr_wr (s.ob n _ a h1 h2)
  refine ⟨⟨by rw [List.length_set]; exact s.len, s.nd, fun m ob b e1 e2 => ?_⟩, g⟩
  by_cases hm : m = n
  · subst hm
    rw [h2] at e2
    cases e2
    have hl : m < S.length := by
      rcases Nat.lt_or_ge m S.length with z | z
      · exact z
      · rw [List.getElem?_eq_none z] at h1; cases h1
    rw [List.getElem?_set_self hl] at e1
    cases e1
    exact r
  · rw [List.getElem?_set_ne (Ne.symm hm)] at e1
    have h := s.ob m ob b e1 e2
    refine h.keep g (upd_ne ?_)
    rintro rfl
    have hbl : m < β.length := by
      rcases Nat.lt_or_ge m β.length with z | z
      · exact z
      · rw [List.getElem?_eq_none z] at e2; cases e2
    exact hm ((List.getElem?_inj hbl s.nd).mp (e2.trans h2.symm))
/-- a list of the store is written -/
theorem HSim.wr {S : Store} (s : HSim K ca S β H) {n : Nat} {a : Addr} {xs ys : List D} {ws : List V} (h1 : S[n]? = some (.lst xs)) (h2 : β[n]? = some a) (r : RDs K ca H β ys ws) :
    HSim K ca (S.set n (.lst ys)) β (upd H a (.lst ws)) ∧ Gr K β H β (upd H a (.lst ws)) :=
  s.wrO h1 h2 ⟨ws, upd_same, r.grow (gr_wr (s.ob n _ a h1 h2))⟩
end
/-- what the heap-level end wants -/
def HQ (K : PySem.W.Frag) (ca : Nat → Addr) (β : List Addr) (H : Hp) (Q : VK) : DQ := fun d S' => ∀ β' v H', HSim K ca S' β' H' → Gr K β H β' H' → RD K ca H' β' d v → Q v H'
section
variable {K : PySem.W.Frag} {ca : Nat → Addr} {H H' : Hp} {β β' : List Addr} {Q : VK} {S : Store}
theorem HQ.step (g : Gr K β H β' H') {d : D} (h : HQ K ca β H Q d S) : HQ K ca β' H' Q d S := fun β2 v H2 s g2 r => h β2 v H2 s (g.trans g2) r
theorem HQ.now (s : HSim K ca S β H) {d : D} {v : V} (r : RD K ca H β d v) (h : HQ K ca β H Q d S) : Q v H := h β v H s Gr.refl r
/-- a new list -/
theorem HQ.new (s : HSim K ca S β H) {xs : List D} {vs : List V} (r : RDs K ca H β xs vs) (h : HQ K ca β H Q (.ref S.length) (S ++ [.lst xs])) : ∀ p, H p = none → Q (.ref p) (upd H p (.lst vs)) :=
  fun p hp => h _ _ _ (s.lst hp r) (grow_alloc hp) (ref_last s)
/-- a new tuple -/
theorem HQ.newT (s : HSim K ca S β H) {xs : List D} {vs : List V} (r : RDs K ca H β xs vs) (h : HQ K ca β H Q (.tup xs) S) : ∀ p, H p = none → Q (.ref p) (upd H p (.tup vs)) :=
  fun p hp => h _ _ _ (s.fresh hp) (Gr.fresh hp) (.tup upd_same (r.grow (Gr.fresh hp)))
/-- the items of a thing -/
theorem seq_of (s : HSim K ca S β H) {d : D} {v : V} {xs : List D} (h : seqOf S d = some xs) (r : RD K ca H β d v) : ∃ a vs, v = .ref a ∧ (SqL K H a vs ∨ SqT K H a vs) ∧ RDs K ca H β xs vs := by
  cases r with
  | tup hs hr =>
    cases h
    exact ⟨_, _, rfl, .inr hs.sq, hr⟩
  | kl hs hr =>
    cases h
    exact ⟨_, _, rfl, .inl hs.sq, hr⟩
  | kt hs hr =>
    cases h
    exact ⟨_, _, rfl, .inr hs.sq, hr⟩
  | ref hb =>
    rename_i n a
    obtain ⟨o, ho, hor⟩ := s.there hb
    unfold seqOf at h
    dsimp only at h
    rw [ho] at h
    cases o with
    | lst ys =>
      cases h
      obtain ⟨vs, hv, hr⟩ := hor
      exact ⟨a, vs, rfl, .inl (SqL.of hv), hr⟩
    | ins c fs => cases h
    | dct kvs => cases h
  | _ => cases h
theorem seq_lst (s : HSim K ca S β H) {n : Nat} {v : V} {xs : List D} (h : seqOf S (.ref n) = some xs) (r : RD K ca H β (.ref n) v) : ∃ a vs, v = .ref a ∧ SqL K H a vs ∧ RDs K ca H β xs vs := by
  cases r with
  | ref hb =>
    rename_i a
    obtain ⟨o, ho, hor⟩ := s.there hb
    unfold seqOf at h
    dsimp only at h
    rw [ho] at h
    cases o with
    | lst ys =>
      cases h
      obtain ⟨vs, hv, hr⟩ := hor
      exact ⟨a, vs, rfl, SqL.of hv, hr⟩
    | ins c fs => cases h
    | dct kvs => cases h
/-- an instance, a dict of the store -/
theorem ins_at (s : HSim K ca S β H) {n : Nat} {v : V} {c : Nat} {fs : List (Str × D)} (h : S[n]? = some (.ins c fs)) (r : RD K ca H β (.ref n) v) : ∃ a dx fv, v = .ref a ∧ β[n]? = some a ∧ H a = some (.ins (ca c) dx fv) ∧ fs.map (·.1) = fv.map (·.1) ∧ RDs K ca H β (fs.map (·.2)) (fv.map (·.2)) := by
  cases r with
  | ref hb =>
    obtain ⟨dx, fv, hv, he, hr⟩ := s.ob n _ _ h hb
    exact ⟨_, dx, fv, rfl, hb, hv, he, hr⟩
theorem dct_at (s : HSim K ca S β H) {n : Nat} {v : V} {kvs : List (List Int × D)} (h : S[n]? = some (.dct kvs)) (r : RD K ca H β (.ref n) v) : ∃ a kv, v = .ref a ∧ β[n]? = some a ∧ H a = some (.dT kv) ∧ kv.map (·.1) = kvs.map (fun p => p.1.map Sum.inl) ∧ RDs K ca H β (kvs.map (·.2)) (kv.map (·.2)) := by
  cases r with
  | ref hb =>
    obtain ⟨kv, hv, he, hr⟩ := s.ob n _ _ h hb
    exact ⟨_, kv, rfl, hb, hv, he, hr⟩
theorem dctOf_some {d : D} {kvs : List (List Int × D)} (h : dctOf S d = some kvs) : ∃ n, d = .ref n ∧ S[n]? = some (.dct kvs) := by
  unfold dctOf at h
  split at h
  · split at h
    · rename_i e; cases h; exact ⟨_, rfl, e⟩
    · cases h
  · cases h
theorem inl_inj : ∀ {a b : List Int}, a.map (Sum.inl : Int → L2.Key) = b.map Sum.inl → a = b
  | [], [], _ => rfl
  | [], _ :: _, e => by cases e
  | _ :: _, [], e => by cases e
  | x :: xs, y :: ys, e => by
    rw [List.map_cons, List.map_cons] at e
    injection e with e1 e2
    rw [Sum.inl.inj e1, inl_inj e2]
/-- a dict's items on both sides -/
theorem dval {kvs : List (List Int × D)} {k : List Int} : ∀ {kv : List (List L2.Key × V)}, kv.map (·.1) = kvs.map (fun p => p.1.map Sum.inl) → RDs K ca H β (kvs.map (·.2)) (kv.map (·.2)) →
    match dGet k kvs with
    | some d => ∃ v, valV kv (k.map Sum.inl) = some v ∧ RD K ca H β d v
    | none => valV kv (k.map Sum.inl) = none := by
  induction kvs with
  | nil =>
    intro kv he hr
    cases kv with
    | nil => rfl
    | cons _ _ => cases he
  | cons p r ih =>
    intro kv he hr
    cases kv with
    | nil => cases he
    | cons q t =>
      rw [List.map_cons, List.map_cons] at he
      injection he with e1 e2
      rw [List.map_cons, List.map_cons] at hr
      cases hr with
      | cons h1 h2 =>
        have e3 : q.1 = k.map Sum.inl ↔ p.1 = k := by
          rw [e1]
          refine ⟨fun z => ?_, fun z => by rw [z]⟩
          exact inl_inj z
        unfold dGet
        by_cases hk : p.1 = k
        · rw [if_pos hk]
          exact ⟨_, valV_pos (e3.mpr hk), h1⟩
        · rw [if_neg hk]
          rw [valV_neg (fun z => hk (e3.mp z))]
          exact ih e2 h2
theorem drepl {kvs : List (List Int × D)} {k : List Int} {d : D} {v : V} (rd : RD K ca H β d v) : ∀ {kv : List (List L2.Key × V)}, kv.map (·.1) = kvs.map (fun p => p.1.map Sum.inl) → RDs K ca H β (kvs.map (·.2)) (kv.map (·.2)) →
    (kv.map fun p => if p.1 = k.map Sum.inl then (p.1, v) else p).map (·.1) = (kvs.map fun p => if p.1 = k then (p.1, d) else p).map (fun p => p.1.map Sum.inl) ∧
      RDs K ca H β ((kvs.map fun p => if p.1 = k then (p.1, d) else p).map (·.2)) ((kv.map fun p => if p.1 = k.map Sum.inl then (p.1, v) else p).map (·.2)) := by
  induction kvs with
  | nil =>
    intro kv he hr
    cases kv with
    | nil => exact ⟨rfl, .nil⟩
    | cons _ _ => cases he
  | cons p r ih =>
    intro kv he hr
    cases kv with
    | nil => cases he
    | cons q t =>
      rw [List.map_cons, List.map_cons] at he
      injection he with e1 e2
      rw [List.map_cons, List.map_cons] at hr
      cases hr with
      | cons h1 h2 =>
        have e3 : q.1 = k.map Sum.inl ↔ p.1 = k := by
          rw [e1]
          exact ⟨fun z => inl_inj z, fun z => by rw [z]⟩
        obtain ⟨i1, i2⟩ := ih e2 h2
        simp only [List.map_cons]
        by_cases hk : p.1 = k
        · rw [if_pos hk, if_pos (e3.mpr hk)]
          exact ⟨by rw [i1, e1], .cons rd i2⟩
        · rw [if_neg hk, if_neg (fun z => hk (e3.mp z))]
          exact ⟨by rw [i1, e1], .cons h1 i2⟩
theorem dput {kvs : List (List Int × D)} {k : List Int} {d : D} {v : V} (rd : RD K ca H β d v) {kv : List (List L2.Key × V)} (he : kv.map (·.1) = kvs.map (fun p => p.1.map Sum.inl)) (hr : RDs K ca H β (kvs.map (·.2)) (kv.map (·.2))) :
    (putK kv (k.map Sum.inl) v).map (·.1) = (dPut k d kvs).map (fun p => p.1.map Sum.inl) ∧ RDs K ca H β ((dPut k d kvs).map (·.2)) ((putK kv (k.map Sum.inl) v).map (·.2)) := by
  have hv := dval (k := k) he hr
  unfold putK dPut
  rw [valV_any]
  cases hg : dGet k kvs with
  | some x =>
    rw [hg] at hv
    obtain ⟨y, hy, _⟩ := hv
    rw [hy]
    exact drepl rd he hr
  | none =>
    rw [hg] at hv
    have hv : valV kv (k.map Sum.inl) = none := hv
    rw [hv]
    simp only [Option.isSome_none, Bool.false_eq_true, if_false, List.map_append, List.map_cons, List.map_nil]
    exact ⟨by rw [he], hr.app (.cons rd .nil)⟩
theorem lst_at (s : HSim K ca S β H) {n : Nat} {v : V} {xs : List D} (h : S[n]? = some (.lst xs)) (r : RD K ca H β (.ref n) v) : ∃ a vs, v = .ref a ∧ β[n]? = some a ∧ H a = some (.lst vs) ∧ RDs K ca H β xs vs := by
  cases r with
  | ref hb =>
    obtain ⟨vs, hv, hr⟩ := s.ob n _ _ h hb
    exact ⟨_, vs, rfl, hb, hv, hr⟩
end
end PD

set_option Elab.async false
set_option linter.all false
set_option maxRecDepth 100000
set_option maxHeartbeats 4000000
namespace PD
open PySem PySem.Spec PyProof.Rows L2
/-! ### tuple * int: the ends that TupMul leaves out -/
theorem tuple_mulS (l : Addr) (items : Array Value) (n : Nat) (dd : Option Addr) (sl : Array (Option Value)) (x : Int) (u : Tok) (c0 : (decide (x < -(2 ^ 63)) || decide (x ≥ 2 ^ 63)) = false) (c1 : (items.isEmpty || x == 1) = true) :
    Meets (Builtin.«tuple.__mul__» ⟨[.ref l, .int x u], []⟩) (fun _ R s => s.heap.get? l = some { cls := .type "tuple", dict := dd, data := .seq items n, slots := sl } ∧ R (.ok (.ret (Value.ref l))) s) :=
  .of_wp fun prog w A R s h => by
    obtain ⟨hp, g, d, tk, os⟩ := s
    obtain ⟨hl, h⟩ := h
    have f1 := AutoSeq1.idx_int
    wp_walk using wpAny_loadPart' hl
    repeat (first
      | (refine wpAny_ite_false (decide_eq_false (by rw [c0]; exact Bool.false_ne_true)) ?_; wp_walk using wpAny_loadPart' hl)
      | (refine wpAny_ite_true (decide_eq_true c1) ?_; wp_walk using wpAny_loadPart' hl)
      | (refine wpAny_ite_true (by decide) ?_; wp_walk using wpAny_loadPart' hl))
    exact ⟨_, rfl, h⟩
theorem tuple_mulE (l : Addr) (items : Array Value) (n : Nat) (dd : Option Addr) (sl : Array (Option Value)) (x : Int) (u : Tok) (c0 : (decide (x < -(2 ^ 63)) || decide (x ≥ 2 ^ 63)) = false) (c1 : (items.isEmpty || x == 1) = false) (c2 : (decide (x ≤ 0) || items.isEmpty) = true) :
    Meets (Builtin.«tuple.__mul__» ⟨[.ref l, .int x u], []⟩) (fun _ R s => s.heap.get? l = some { cls := .type "tuple", dict := dd, data := .seq items n, slots := sl } ∧
      R (.ok (.ret (Value.ref s.heap.objs.size))) { s with heap := s.heap.push { cls := Value.type "tuple", data := Data.seq #[] }, toks := s.toks }) :=
  .of_wp fun prog w A R s h => by
    obtain ⟨hp, g, d, tk, os⟩ := s
    obtain ⟨hl, h⟩ := h
    have f1 := AutoSeq1.idx_int
    wp_walk using wpAny_loadPart' hl
    repeat (first
      | (refine wpAny_ite_false (decide_eq_false (by rw [c0]; exact Bool.false_ne_true)) ?_; wp_walk using wpAny_loadPart' hl)
      | (refine wpAny_ite_false (decide_eq_false (by rw [c1]; exact Bool.false_ne_true)) ?_; wp_walk using wpAny_loadPart' hl)
      | (refine wpAny_ite_true (decide_eq_true c2) ?_; wp_walk using wpAny_loadPart' hl))
    exact ⟨_, rfl, h⟩
def rRepA (K : PySem.W.Frag) : R2 := fun x y H Q => ∃ l k xs, x = .ref l ∧ y = .int k ∧ SqT K H l xs ∧ -(2 ^ 63) ≤ k ∧ k ≤ 1000 ∧ xs.length ≤ 1000 ∧ (xs = [] ∨ k = 1 → Q (.ref l) H) ∧
  (xs ≠ [] → k ≠ 1 → ∀ p, H p = none → Q (.ref p) (upd H p (.tup (List.replicate k.toNat xs).flatten)))
theorem op_repA {X : Cx} : OpR X (binaryOp .Mult) (rRepA X.K) := by
  intro pins s σ H x y v u Q I rx ry h
  obtain ⟨l, k, xs, rfl, rfl, hT, h0, h1, hz, q1, q2⟩ := h
  by_cases hs : xs = [] ∨ k = 1
  · cases rx
    obtain ⟨t, rfl⟩ := ry
    obtain ⟨its, r, ⟨⟨cls, dd, data, sl⟩, ho, hc, n, hd⟩, hs'⟩ := I.tuple hT
    simp only at hc hd
    subst hc hd
    have c0 : (decide (k < -(2 ^ 63)) || decide (k ≥ 2 ^ 63)) = false := by
      rw [decide_eq_false (by omega), decide_eq_false (by omega)] <;> rfl
    have c1 : (its.toArray.isEmpty || k == 1) = true := by
      rcases hs with rfl | rfl
      · cases r
        rfl
      · simp
    refine wpAny_binaryOp_repeat_ref (T := "tuple") (U := "int") (by decide) ⟨_, ho, rfl⟩ (fun s' => typeIs_int s' k t) noFill_tuple_mul F.fills_int_mul F.slot_int_rmul repeat_tuple F.slot_int_index.lookup
      (call_meets F.slot_int_rmul (typeIs_int s k t) F.entry_int_rmul (F.args_int_rmul_2 _ _) (int_rmul_tuple k t l its.toArray n dd sl)
        ⟨ho, rfl, ⟨_, ho, rfl⟩, call_meets F.slot_tuple_mul ⟨_, ho, rfl⟩ F.entry_tuple_mul (F.args_tuple_mul_2 _ _) (tuple_mulS l its.toArray n dd sl k t c0 c1) ⟨ho, ?_⟩⟩)
    exact ⟨.ref l, H, I, rfl, q1 hs⟩
  · have hne : xs ≠ [] := fun z => hs (.inl z)
    have hk1 : k ≠ 1 := fun z => hs (.inr z)
    by_cases h2 : 2 ≤ k
    · exact op_repT pins s σ H _ _ v u Q I rx ry ⟨l, k, xs, rfl, rfl, hT, hne, h2, h1, hz, q2 hne hk1⟩
    · cases rx
      obtain ⟨t, rfl⟩ := ry
      obtain ⟨its, r, ⟨⟨cls, dd, data, sl⟩, ho, hc, n, hd⟩, hs'⟩ := I.tuple hT
      simp only at hc hd
      subst hc hd
      have hi : its.toArray.isEmpty = false := by
        cases r with
        | nil => exact absurd rfl hne
        | cons a b => rfl
      have c0 : (decide (k < -(2 ^ 63)) || decide (k ≥ 2 ^ 63)) = false := by
        rw [decide_eq_false (by omega), decide_eq_false (by omega)] <;> rfl
      have c1 : (its.toArray.isEmpty || k == 1) = false := by
        rw [hi, Bool.false_or]
        exact beq_eq_false_iff_ne.mpr hk1
      have c2 : (decide (k ≤ 0) || its.toArray.isEmpty) = true := by
        rw [decide_eq_true (by omega)] <;> rfl
      have q3 := q2 hne hk1
      have e0 : k.toNat = 0 := by omega
      rw [e0] at q3
      refine wpAny_binaryOp_repeat_ref (T := "tuple") (U := "int") (by decide) ⟨_, ho, rfl⟩ (fun s' => typeIs_int s' k t) noFill_tuple_mul F.fills_int_mul F.slot_int_rmul repeat_tuple F.slot_int_index.lookup
        (call_meets F.slot_int_rmul (typeIs_int s k t) F.entry_int_rmul (F.args_int_rmul_2 _ _) (int_rmul_tuple k t l its.toArray n dd sl)
          ⟨ho, rfl, ⟨_, ho, rfl⟩, call_meets F.slot_tuple_mul ⟨_, ho, rfl⟩ F.entry_tuple_mul (F.args_tuple_mul_2 _ _) (tuple_mulE l its.toArray n dd sl k t c0 c1 c2) ⟨ho, ?_⟩⟩)
      refine ⟨.ref s.heap.objs.size, _, I.laid (t' := s.toks) (o := .tup []) (fun b ob q => Heap.get?_push_of_some _ q) (Nat.le_refl _) ?_, rfl, q3 _ (I.hok.fresh (Nat.le_refl _))⟩
      exact ⟨Nat.zero_le _, [], .nil, IsTup.new _ _⟩
end PD

set_option Elab.async false
set_option linter.all false
set_option maxRecDepth 100000
set_option maxHeartbeats 4000000
namespace PD
open PySem PySem.Spec PyProof.Rows L2
open Sem (wp)
open AutoSeq1 (wpAny_loadPart')
/-! ### enumerate(tuple) -/
theorem meets_enum1 {v : Value} {o : Obj} {H : Heap → Prop} (B : Begins v o H) :
    Meets (Builtin.«enumerate.__new__» ⟨[.type "enumerate", v], []⟩) (fun _ R s => H s.heap ∧
      R (.ok (.ret (.ref (s.heap.push o).objs.size))) { s with heap := (s.heap.push o).push { cls := .type "enumerate", data := .fields #[.none, .bool false, .ref s.heap.objs.size, rawInt 0, .none, .none] } }) :=
  .of_wp fun prog w A R s h => by
    obtain ⟨hp, g, d, tk, os⟩ := s; obtain ⟨h1, h⟩ := h
    have hsub := sub_enumerate
    have q1 : ∀ {A' : Around} {E : Value → Shared → Prop} {Q : Value → Shared → Prop}, Q (.ref hp.objs.size) ⟨hp.push o, g, d, tk, os⟩ → wpAny (model prog w) A' (pyIter v) Q E ⟨hp, g, d, tk, os⟩ :=
      fun q => B.iter prog w _ _ ⟨hp, g, d, tk, os⟩ _ h1 q
    wp_walk using q1
    refine wpAny_stack_any fun st => wpAny_pure ?_
    split
    · rename_i c _ _ _ _ _
      cases (c == Value.type "enumerate")
      · wp_walk using q1
        exact ⟨_, rfl, h⟩
      · wp_walk using q1
        exact ⟨_, rfl, h⟩
    · wp_walk using q1
      exact ⟨_, rfl, h⟩
theorem call_enum1 {prog : Program} {w : World} {A : Around} {E : Value → Shared → Prop} {s : Shared} {v : Value} {o : Obj} {H : Heap → Prop} {Q : Value → Shared → Prop} (B : Begins v o H) (h1 : H s.heap)
    (h : ∀ h', IsEnum h' (s.heap.objs.size + 1) s.heap.objs.size 0 .none → h'.get? s.heap.objs.size = some o → h'.objs.size = s.heap.objs.size + 2 →
      (∀ b o, s.heap.get? b = some o → h'.get? b = some o) → Q (.ref (s.heap.objs.size + 1)) { s with heap := h' }) :
    wpAny (model prog w) A (call (.type "enumerate") [v]) Q E s := by
  refine callType_new F.called_enumerate (by decide) (F.typeCall_enumerate_1 _) (F.newCall_enumerate_1 _) (fun obj => F.args_object_init_2 obj _) F.entry_enumerate_new
    (meets_enum1 B) ⟨h1, ?_⟩
  have hz : (s.heap.push o).objs.size = s.heap.objs.size + 1 := Heap.size_push ..
  show _ ∧ _
  rw [hz]
  have he : IsEnum ((s.heap.push o).push { cls := .type "enumerate", data := .fields #[.none, .bool false, .ref s.heap.objs.size, rawInt 0, .none, .none] }) (s.heap.objs.size + 1) s.heap.objs.size 0 .none := by
    have := Heap.get?_push_size (s.heap.push o) (o := { cls := .type "enumerate", data := .fields #[.none, .bool false, .ref s.heap.objs.size, rawInt 0, .none, .none] }) rfl
    rw [hz] at this; exact this
  refine ⟨⟨_, he, rfl⟩, h _ he (Heap.get?_push_of_some _ (Heap.get?_push_size _ B.free)) (by rw [Heap.size_push, hz]) fun b o x => Heap.get?_push_of_some _ (Heap.get?_push_of_some _ x)⟩
/-- the tuple at a, each item in a new pair -/
def IteT (K : PySem.W.Frag) (a : Addr) : It :=
  ⟨fun i H => ∃ (xs : List V) (x : V), SqT K H a xs ∧ xs[i]? = some x, fun i H v H' => ∃ T x, v = .ref T ∧ H T = none ∧ H' = upd H T (.tup [.int (i : Nat), x]) ∧ ∀ xs, SqT K H a xs → xs[i]? = some x, fun i H => ∃ xs : List V, SqT K H a xs ∧ xs.length = i⟩
theorem turn_enumT {P : Program} {w : World} {K : PySem.W.Frag} {elts : List Expr} {kk : Nat} {tpos : Pos} (a e it : Addr) (hai : a ≠ it) (hae : a ≠ e) :
    Turn P w K (.Tuple elts kk tpos) (IteT K a) [e, it] e (fun i h => (∃ old, IsEnum h e it ((i : Nat) : Int) old) ∧ h.IsTupleIter it a i ∧ e ≠ it) where
  mem := by simp
  obj := fun i h st b hb => by
    obtain ⟨⟨old, he⟩, ⟨o, ho, hc, hd⟩, _⟩ := st
    have e' : b = e ∨ b = it := by simpa using hb
    rcases e' with z | z
    · rw [z]; exact ⟨_, he, fun v q => nomatch q⟩
    · rw [z]; exact ⟨o, ho, fun v q => by rw [hd] at q; cases q⟩
  keep := fun i h h' st k => let ⟨⟨old, he⟩, hi, hne⟩ := st; ⟨⟨old, k e (by simp) _ he⟩, hi.at fun o q => k it (by simp) o q, hne⟩
  item := by
    intro X hP hw hK hc i pins s σ H E I hf st hg
    subst hP hw hK
    obtain ⟨⟨old, he⟩, hit, hne⟩ := st
    obtain ⟨xs, x, hq, hx⟩ := hg
    obtain ⟨its, rv, p, hz⟩ := I.tuple hq
    obtain ⟨u, hu, ru⟩ := rv.get hx
    have hel : e < s.heap.objs.size := Heap.lt_size he
    have hil : it < s.heap.objs.size := by obtain ⟨_, q, _⟩ := hit; exact Heap.lt_size q
    have hu' : its.toArray[i]? = some u := by simpa using hu
    have hlt : i < its.toArray.size := by
      rcases Nat.lt_or_ge i its.toArray.size with z | z
      · exact z
      · rw [Array.getElem?_eq_none z] at hu'; cases hu'
    refine wpAny_pyNext_enum_itemC (Draws.tuple (A := X.A.in1) (I.ok.hd hc) it a hai its.toArray) he ⟨hit, p⟩ hlt hne (by simp [hne, hae.symm]) fun y h' tk hy ho st' hT hsz hk => ?_
    have ey : y = u := Option.some.inj (hy.symm.trans hu')
    subst ey
    obtain ⟨hit', _⟩ := st'
    refine ⟨_, rfl, wpAny_letOwnedTupleGo_enum (s := { s with heap := h', toks := tk + 1 }) ho fun h'' he' sb => ?_⟩
    have hT2 : h''.get? s.heap.objs.size = some { cls := .type "tuple", data := .seq #[.int i tk, y] } := (sb.2 _ (Nat.ne_of_gt hel)).trans hT
    have new : ObjOk X.prog X.w (upd H s.heap.objs.size (.tup [.int (i : Nat), x])) h'' s.heap.objs.size (.tup [.int (i : Nat), x]) :=
      ⟨by show 2 ≤ sizeLine; decide, [.int i tk, y], .cons ⟨_, rfl⟩ (.cons ru .nil), ⟨_, hT2, rfl, _, rfl⟩⟩
    have I1 : Inv X pins σ (upd H s.heap.objs.size (.tup [.int (i : Nat), x])) { s with heap := h'', toks := tk + 1 } :=
      I.turnedNew (ch := [e, it]) (fun b ob hb q => (sb.2 b (fun z => hb (by simp [z]))).trans (hk b ob (fun z => hb (by simp [z])) (fun z => hb (by simp [z])) q)) hf (Nat.le_refl _) new
    refine ⟨.ref s.heap.objs.size, _, I1, rfl, ⟨_, x, rfl, I.hok.fresh (Nat.le_refl _), rfl, fun ys hy => by rw [I.tuple_inj hy hq]; exact hx⟩, ⟨⟨y, ?_⟩, hit'.at fun o q => (sb.2 it (Ne.symm hne)).trans q, hne⟩, fun b hb => ?_⟩
    · have e1 : ((i + 1 : Nat) : Int) = (i : Int) + 1 := by omega
      rw [e1]; exact he'
    · have hb' : b < s.heap.objs.size := by
        have e' : b = e ∨ b = it := by simpa using hb
        rcases e' with z | z
        · rw [z]; exact hel
        · rw [z]; exact hil
      rw [upd_ne (Nat.ne_of_lt hb')]
      exact (hf b hb).1
  done := by
    intro X hP hw hK hc i pins s σ H E I hf st hg
    subst hP hw hK
    obtain ⟨⟨old, he⟩, hit, hne⟩ := st
    obtain ⟨xs, hq, hx⟩ := hg
    obtain ⟨its, rv, p, hz⟩ := I.tuple hq
    obtain ⟨f0, f1, f2, f3, f4, f5⟩ := hf it (by simp)
    have hl := rv.length
    have ei : its.toArray.size = i := by rw [List.size_toArray, ← hl, hx]
    refine wpAny_pyNext_enum_endD (Draws.tuple (A := X.A.in1) (I.ok.hd hc) it a hai its.toArray) he ⟨by rw [ei]; exact hit, p⟩ fun h' eb => ⟨rfl, I.turned (t' := s.toks) (fun b o hb q => eb b o hb q) f0 f1 f3 f4 f5⟩
  self := fun A i s Q E st h => let ⟨⟨_, he⟩, _⟩ := st; wpAny_pyIter_enum he h
/-- enumerate of a list or a tuple -/
def iEnumA (K : PySem.W.Frag) (ta : TA) : TI := fun σ H R => ta σ H fun vs H1 => ∃ a xs, vs = [.ref a] ∧ ((SqL K H1 a xs ∧ R (Ite K a) H1) ∨ (SqT K H1 a xs ∧ R (IteT K a) H1))
theorem pi_enumA {X : Cx} {e : Expr} {ta : TA} {p pos tpos : Pos} {elts : List Expr} {kk : Nat} (hg : Gl X "enumerate") (hm : X.mg "enumerate" = none) (ha : PA X [e] ta) (hs : starEach [e] X.env = (false, eval e X.env) :: starEach [] X.env) :
    PI X (.Tuple elts kk tpos) (.Call (.Name "enumerate" p) [e] [] pos) (iEnumA X.K ta) := by
  refine ⟨fun pins s σ H R I h => ?_⟩
  refine Call_ (ld_blt I hg hm boot_enumerate (PyProof.Rows.callWith_type1 (thn (ha.run pos pins s σ H _ I h) fun us s1 ⟨vs, H1, I1, r1, q1⟩ => ?_) hs rfl))
  obtain ⟨a, xs, ex, q⟩ := q1
  subst ex
  cases r1 with
  | cons r rr =>
    cases rr
    cases r
    have hfp : ∀ b ∈ [s1.heap.objs.size + 1, s1.heap.objs.size], FpOk X pins H1 b := fun b hb => by
      have e' : b = s1.heap.objs.size + 1 ∨ b = s1.heap.objs.size := by simpa using hb
      have hle : s1.heap.objs.size ≤ b := by
        rcases e' with z | z
        · rw [z]; exact Nat.le_add_right _ _
        · rw [z]; exact Nat.le_refl _
      exact I1.fpOk hle (I1.hok.fresh hle)
    rcases q with ⟨hq, q⟩ | ⟨hq, q⟩
    · obtain ⟨its, rv, p', hz⟩ := I1.list hq
      refine call_enumerate_list p'.isList fun h' he hit hsz hk => wpAny_pyIter_enum he ?_
      have I2 : Inv X pins σ H1 { s1 with heap := h' } := I1.kept (t' := s1.toks) hk
      exact ⟨s1.heap.objs.size + 1, [s1.heap.objs.size + 1, s1.heap.objs.size], _, _, H1, rfl, I2, turn_enum a (s1.heap.objs.size + 1) s1.heap.objs.size, ⟨⟨.none, he⟩, hit, Nat.succ_ne_self _⟩, hfp, q⟩
    · obtain ⟨its, rv, p', hz⟩ := I1.tuple hq
      obtain ⟨o, ho, hco, n, hd⟩ := id p'
      have hlt : a < s1.heap.objs.size := Heap.lt_size ho
      refine call_enum1 (begins_tuple a its.toArray) p' fun h' he hit hsz hk => wpAny_pyIter_enum he ?_
      have I2 : Inv X pins σ H1 { s1 with heap := h' } := I1.kept (t' := s1.toks) hk
      exact ⟨s1.heap.objs.size + 1, [s1.heap.objs.size + 1, s1.heap.objs.size], _, _, H1, rfl, I2, turn_enumT a (s1.heap.objs.size + 1) s1.heap.objs.size (Nat.ne_of_lt hlt) (Nat.ne_of_lt (Nat.lt_succ_of_lt hlt)), ⟨⟨.none, he⟩, ⟨_, hit, rfl, rfl⟩, Nat.succ_ne_self _⟩, hfp, q⟩
end PD

set_option Elab.async false
set_option linter.all false
set_option maxRecDepth 100000
set_option maxHeartbeats 4000000
namespace PD
open PySem PySem.Spec PyProof.Rows L2
theorem mapO_get {α β : Type} {f : α → Option β} : ∀ {xs : List α} {ys : List β}, mapO f xs = some ys → xs.length = ys.length
  | [], ys, h => by cases h; rfl
  | x :: r, ys, h => by
    unfold mapO at h
    split at h
    · rename_i y zs e1 e2
      cases h
      rw [List.length_cons, List.length_cons, mapO_get e2]
    · cases h
theorem mapO_cons {α β : Type} {f : α → Option β} {x : α} {r : List α} {ys : List β} (h : mapO f (x :: r) = some ys) : ∃ y zs, ys = y :: zs ∧ f x = some y ∧ mapO f r = some zs := by
  unfold mapO at h
  split at h
  · rename_i y zs e1 e2
    cases h
    exact ⟨y, zs, rfl, e1, e2⟩
  · cases h
section
variable {K : PySem.W.Frag} {ca : Nat → Addr} {H H' : Hp} {β β' : List Addr} {Q : VK} {S : Store}
theorem toPys_dp {f : D → Option PyData} {k : Nat} (ih : ∀ d v p, f d = some p → RD K ca H β d v → Dp K H v p ∧ p.plain = true ∧ p.depth ≤ k) :
    ∀ (ds : List D) (vs : List V) (ps : List PyData), mapO f ds = some ps → RDs K ca H β ds vs → DpAll K H vs ps ∧ PyData.plainAll ps = true ∧ PyData.depthAll ps ≤ k
  | [], vs, ps, h, r => by
    cases h
    cases r
    exact ⟨.nil, rfl, Nat.zero_le _⟩
  | d :: ds, vs, ps, h, r => by
    obtain ⟨y, zs, rfl, e1, e2⟩ := mapO_cons h
    cases r with
    | cons r1 r2 =>
      obtain ⟨a1, a2, a3⟩ := ih _ _ _ e1 r1
      obtain ⟨b1, b2, b3⟩ := toPys_dp ih ds _ _ e2 r2
      refine ⟨.cons a1 b1, ?_, ?_⟩
      · show (PyData.plain y && PyData.plainAll zs) = true
        rw [a2, b2]
        rfl
      · exact Nat.max_le.mpr ⟨a3, b3⟩
theorem toPy_dp (hs : HSim K ca S β H) : ∀ (k : Nat) (d : D) (v : V) (p : PyData), toPy S k d = some p → RD K ca H β d v → Dp K H v p ∧ p.plain = true ∧ p.depth ≤ k
  | 0, d, v, p, h, r => by unfold toPy at h; cases h
  | k + 1, d, v, p, h, r => by
    unfold toPy at h
    cases r with
    | non => cases h; exact ⟨.non, rfl, Nat.zero_le _⟩
    | bl b => cases h; exact ⟨.bl b, rfl, Nat.zero_le _⟩
    | int b => cases h; exact ⟨.int b, rfl, Nat.zero_le _⟩
    | str b => cases h; exact ⟨.str b, rfl, Nat.zero_le _⟩
    | ty n => cases h
    | own c => cases h
    | tup h1 h2 =>
      dsimp only at h
      obtain ⟨ps, e, rfl⟩ := Option.map_eq_some_iff.mp h
      obtain ⟨a1, a2, a3⟩ := toPys_dp (toPy_dp hs k) _ _ _ e h2
      exact ⟨.tup h1.sq a1, a2, Nat.succ_le_succ a3⟩
    | kl h1 h2 =>
      dsimp only at h
      obtain ⟨ps, e, rfl⟩ := Option.map_eq_some_iff.mp h
      obtain ⟨a1, a2, a3⟩ := toPys_dp (toPy_dp hs k) _ _ _ e h2
      exact ⟨.lst h1.sq a1, a2, Nat.succ_le_succ a3⟩
    | kt h1 h2 =>
      dsimp only at h
      obtain ⟨ps, e, rfl⟩ := Option.map_eq_some_iff.mp h
      obtain ⟨a1, a2, a3⟩ := toPys_dp (toPy_dp hs k) _ _ _ e h2
      exact ⟨.tup h1.sq a1, a2, Nat.succ_le_succ a3⟩
    | ref hb =>
      dsimp only at h
      split at h
      · rename_i xs e
        obtain ⟨ps, e2, rfl⟩ := Option.map_eq_some_iff.mp h
        obtain ⟨a, vs, ea, hl, hr⟩ := seq_lst hs e (.ref hb)
        cases ea
        obtain ⟨a1, a2, a3⟩ := toPys_dp (toPy_dp hs k) _ _ _ e2 hr
        exact ⟨.lst hl a1, a2, Nat.succ_le_succ a3⟩
      · cases h
theorem truth_v (hs : HSim K ca S β H) {d : D} {v : V} {k : Bool} (h : truth S d = some k) (r : RD K ca H β d v) : TruV K v H k := by
  cases r with
  | non => cases h; rfl
  | bl b => cases h; rfl
  | int i => cases h; rfl
  | str x =>
    unfold truth at h
    dsimp only at h
    split at h
    · cases h
      exact ⟨by assumption, rfl⟩
    · cases h
  | ty n => cases h
  | own c => cases h
  | tup h1 h2 =>
    cases h
    refine .inr (.inl ⟨_, h1.sq, ?_⟩)
    cases h2 <;> rfl
  | kl h1 h2 =>
    cases h
    refine .inl ⟨_, h1.sq, ?_⟩
    cases h2 <;> rfl
  | kt h1 h2 =>
    cases h
    refine .inr (.inl ⟨_, h1.sq, ?_⟩)
    cases h2 <;> rfl
  | ref hb =>
    unfold truth at h
    dsimp only at h
    obtain ⟨xs, e, rfl⟩ := Option.map_eq_some_iff.mp h
    obtain ⟨a, vs, ea, hl, hr⟩ := seq_lst hs e (.ref hb)
    cases ea
    refine .inl ⟨_, hl, ?_⟩
    cases hr <;> rfl
end
/-! ### operators -/
def boP : BO → Operator
  | .add => .Add | .sub => .Sub | .mul => .Mult | .fdiv => .FloorDiv | .mod => .Mod | .pow => .Pow
def coP : CO → CmpOp
  | .eq => .Eq | .ne => .NotEq | .lt => .Lt | .le => .LtE | .gt => .Gt | .ge => .GtE | .is => .Is | .isn => .IsNot | .inn => .In | .nin => .NotIn
section
variable {X : Cx} {ca : Nat → Addr}
theorem rep_one {α : Type} (l : List α) : (List.replicate (Int.toNat 1) l).flatten = l := by
  show (List.replicate 1 l).flatten = l
  rw [List.replicate_one, List.flatten_singleton]
def rBin (K : PySem.W.Frag) (ca : Nat → Addr) (o : BO) : R2 := fun x y H Q => ∃ S β d1 d2, HSim K ca S β H ∧ RD K ca H β d1 x ∧ RD K ca H β d2 y ∧ wpBin S o d1 d2 (HQ K ca β H Q)
theorem op_bin (o : BO) : OpR X (binaryOp (boP o)) (rBin X.K ca o) := by
  intro pins s σ H x y v u Q I rx ry h
  obtain ⟨S, β, d1, d2, hs, r1, r2, h⟩ := h
  unfold wpBin at h
  split at h
  · cases r1; cases r2
    exact op_add pins s σ H _ _ v u Q I rx ry ⟨_, _, rfl, rfl, h.now hs (.int _)⟩
  · cases r1; cases r2
    exact op_add_str pins s σ H _ _ v u Q I rx ry ⟨_, _, rfl, rfl, h.1, h.2.now hs (.str _)⟩
  · cases r1 with
    | tup h1 h2 =>
      cases r2 with
      | tup g1 g2 =>
        have e1 := h2.length
        have e2 := g2.length
        refine op_catA pins s σ H _ _ v u Q I rx ry ⟨_, _, _, _, rfl, rfl, h1.sq, g1.sq, by rw [← e1, ← e2]; exact h.1, fun e => ?_, fun _ e => ?_, fun _ _ => ?_⟩
        · subst e
          cases h2
          exact h.2.now hs (.tup g1 g2)
        · subst e
          cases g2
          have hh := h.2
          rw [List.append_nil] at hh
          exact hh.now hs (.tup h1 h2)
        · exact h.2.newT hs (h2.app g2)
  · split at h
    · rename_i xs ys e1 e2
      obtain ⟨a, vs, rfl, hb, ha, hr⟩ := lst_at hs e1 r1
      obtain ⟨b, ws, rfl, hb2, ha2, hr2⟩ := lst_at hs e2 r2
      exact op_cat pins s σ H _ _ v u Q I rx ry ⟨_, _, _, _, rfl, rfl, ha, ha2, by rw [← hr.length, ← hr2.length]; exact h.1, h.2.new hs (hr.app hr2)⟩
    · exact h.elim
  · cases r1; cases r2
    exact op_sub pins s σ H _ _ v u Q I rx ry ⟨_, _, rfl, rfl, h.now hs (.int _)⟩
  · cases r1; cases r2
    exact op_mulW pins s σ H _ _ v u Q I rx ry ⟨_, _, rfl, rfl, h.1, h.2.now hs (.int _)⟩
  · cases r1 with
    | tup h1 h2 =>
      cases r2
      obtain ⟨⟨g1, g2⟩, g3, g4⟩ := h
      refine op_repA pins s σ H _ _ v u Q I rx ry ⟨_, _, _, rfl, rfl, h1.sq, g1, g2, by rw [← h2.length]; exact g3, fun e => ?_, fun _ _ => ?_⟩
      · rcases e with rfl | rfl
        · cases h2
          have e : ∀ n : Nat, (List.replicate n ([] : List D)).flatten = [] := fun n => by
            induction n with
            | zero => rfl
            | succ n ih => rw [List.replicate_succ, List.flatten_cons, ih]; rfl
          rw [e] at g4
          exact g4.now hs (.tup h1 .nil)
        · rw [rep_one] at g4
          exact g4.now hs (.tup h1 h2)
      · exact g4.newT hs (h2.rep _)
  · split at h
    · rename_i xs e1
      obtain ⟨a, vs, rfl, hb, ha, hr⟩ := lst_at hs e1 r1
      cases r2
      exact op_rep pins s σ H _ _ v u Q I rx ry ⟨_, _, _, rfl, rfl, ha, h.1, h.2.1, by rw [← hr.length]; exact h.2.2.1, h.2.2.2.new hs (hr.rep _)⟩
    · exact h.elim
  · cases r1; cases r2
    exact op_fdivW pins s σ H _ _ v u Q I rx ry ⟨_, _, rfl, rfl, ⟨h.1, h.2.1⟩, h.2.2.now hs (.int _)⟩
  · cases r1; cases r2
    exact op_mod pins s σ H _ _ v u Q I rx ry ⟨_, _, rfl, rfl, h.1, h.2.now hs (.int _)⟩
  · cases r1; cases r2
    exact op_pow pins s σ H _ _ v u Q I rx ry ⟨_, _, rfl, rfl, ⟨h.1, h.2.1, h.2.2.1⟩, h.2.2.2.now hs (.int _)⟩
  · exact h.elim
/-! ### comparisons -/
def rCmp (K : PySem.W.Frag) (ca : Nat → Addr) (o : CO) : R2 := fun x y H Q => ∃ S β d1 d2 k, HSim K ca S β H ∧ RD K ca H β d1 x ∧ RD K ca H β d2 y ∧ cmpD S o d1 d2 = some k ∧ Q (.bl k) H
theorem eqD_ok {K : PySem.W.Frag} {H : Hp} {β : List Addr} {S : Store} {d1 d2 : D} {x y : V} {k : Bool} (hs : HSim K ca S β H) (r1 : RD K ca H β d1 x) (r2 : RD K ca H β d2 y) (h : eqD S d1 d2 = some k) :
    ∃ a b, Dp K H x a ∧ Dp K H y b ∧ a.plain = true ∧ b.plain = true ∧ a.depth ≤ 40 ∧ k = PyData.eqv a b := by
  unfold eqD at h
  split at h
  · rename_i a b e1 e2
    cases h
    obtain ⟨a1, a2, a3⟩ := toPy_dp hs _ _ _ _ e1 r1
    obtain ⟨b1, b2, b3⟩ := toPy_dp hs _ _ _ _ e2 r2
    exact ⟨a, b, a1, b1, a2, b2, a3, rfl⟩
  · cases h
section
variable {K : PySem.W.Frag} {H : Hp} {β : List Addr}
theorem ints_v : ∀ {ds : List D} {is : List Int} {vs : List V}, intL ds = some is → RDs K ca H β ds vs → vs = is.map V.int
  | [], is, vs, h, r => by
    cases r
    cases h
    rfl
  | d :: ds, is, vs, h, r => by
    obtain ⟨y, zs, rfl, e1, e2⟩ := mapO_cons h
    cases r with
    | cons r1 r2 =>
      cases r1 <;> (try (cases e1; done))
      cases e1
      rw [List.map_cons, ints_v (ds := ds) e2 r2]
end
theorem onO_some {α : Type} {o : Option α} {k : α → Prop} (h : onO o k) : ∃ a, o = some a ∧ k a := by
  cases o with
  | none => exact h.elim
  | some a => exact ⟨a, rfl, h⟩
/-- a dict asked by a key -/
theorem key_ok {K : PySem.W.Frag} {H : Hp} {β : List Addr} {S : Store} {d1 d2 : D} {x y : V} {kvs : List (List Int × D)} {k : List Int} (hs : HSim K ca S β H) (r1 : RD K ca H β d1 x) (r2 : RD K ca H β d2 y) (h : dctOf S d2 = some kvs) (hk : keyOf d1 = some k) :
    ∃ a b kv, y = .ref a ∧ x = .ref b ∧ H a = some (.dT kv) ∧ H b = some (.tup ((k.map Sum.inl).map kV)) ∧ kv.map (·.1) = kvs.map (fun p => p.1.map Sum.inl) ∧ RDs K ca H β (kvs.map (·.2)) (kv.map (·.2)) := by
  obtain ⟨n, rfl, hn⟩ := dctOf_some h
  obtain ⟨a, kv, rfl, hb, ha, he, hr⟩ := dct_at hs hn r2
  unfold keyOf at hk
  split at hk
  · rename_i xs
    cases r1 with
    | tup h1 h2 =>
      have e := ints_v hk h2
      subst e
      refine ⟨a, _, kv, rfl, rfl, ha, ?_, he, hr⟩
      rw [List.map_map]
      exact h1
  · cases hk
theorem dget_ok {K : PySem.W.Frag} {H : Hp} {β : List Addr} {S : Store} {d1 d2 : D} {x y : V} {kvs : List (List Int × D)} {k : List Int} (hs : HSim K ca S β H) (r1 : RD K ca H β d1 x) (r2 : RD K ca H β d2 y) (h : dctOf S d2 = some kvs) (hk : keyOf d1 = some k) :
    ∃ a, y = .ref a ∧ (match dGet k kvs with
      | some d => ∃ v, DGet H a x (some v) ∧ RD K ca H β d v
      | none => DGet H a x none) := by
  obtain ⟨a, b, kv, rfl, rfl, h1, h2, h3, h4⟩ := key_ok hs r1 r2 h hk
  refine ⟨a, rfl, ?_⟩
  have hv := dval (k := k) h3 h4
  have g := DGet.t h1 h2
  split
  · rename_i d e
    rw [e] at hv
    obtain ⟨v, e1, e2⟩ := hv
    rw [e1] at g
    exact ⟨v, g, e2⟩
  · rename_i e
    rw [e] at hv
    have hv : valV kv (k.map Sum.inl) = none := hv
    rw [hv] at g
    exact g
theorem inS_ok {K : PySem.W.Frag} {H : Hp} {β : List Addr} {S : Store} {d1 d2 : D} {x y : V} {k : Bool} (hs : HSim K ca S β H) (r1 : RD K ca H β d1 x) (r2 : RD K ca H β d2 y) (h : inS S d1 d2 = some k) :
    ∃ a ds, Dp K H x a ∧ (Dp K H y (.list ds) ∨ Dp K H y (.tuple ds)) ∧ a.plain = true ∧ PyData.plainAll ds = true ∧ a.depth ≤ 40 ∧ k = ds.any fun z => PyData.eqv z a := by
  unfold inS at h
  split at h
  · rename_i a xs e1 e2
    split at h
    · rename_i ds e3
      cases h
      obtain ⟨a1, a2, a3⟩ := toPy_dp hs _ _ _ _ e1 r1
      obtain ⟨l, vs, rfl, hl, hr⟩ := seq_of hs e2 r2
      obtain ⟨b1, b2, b3⟩ := toPys_dp (toPy_dp hs _) _ _ _ e3 hr
      refine ⟨a, ds, a1, ?_, a2, b2, a3, rfl⟩
      rcases hl with hl | hl
      · exact .inl (.lst hl b1)
      · exact .inr (.tup hl b1)
    · cases h
  · cases h
theorem isD_ok {pins : List (Addr × Obj)} {s : Shared} {σ : L2.St} {H : Hp} {β : List Addr} {d1 d2 : D} {x y : V} {v u : Value} {k : Bool} {Q : VK} (I : Inv X pins σ H s) (r1 : RD X.K ca H β d1 x) (r2 : RD X.K ca H β d2 y) (rx : RelV x v) (ry : RelV y u)
    (h : isD d1 d2 = some k) :
    (Q (.bl k) H → wpAny (model X.prog X.w) X.A (compareOp .Is v u) (EP X pins σ Q) X.xe s) ∧ (Q (.bl (!k)) H → wpAny (model X.prog X.w) X.A (compareOp .IsNot v u) (EP X pins σ Q) X.xe s) := by
  unfold isD at h
  split at h
  · cases r2
    cases h
    have e : isNon d1 = decide (x = .non) := by cases r1 <;> rfl
    rw [e]
    exact ⟨fun q => op_isN pins s σ H _ _ v u Q I rx ry ⟨rfl, q⟩, fun q => op_notN pins s σ H _ _ v u Q I rx ry ⟨rfl, q⟩⟩
  · cases r1
    cases r2
    cases h
    rename_i a b
    have e : (a == b) = decide (a = b) := by cases a <;> cases b <;> rfl
    rw [e]
    exact ⟨fun q => op_isBl pins s σ H _ _ v u Q I rx ry ⟨_, _, rfl, rfl, q⟩, fun q => op_notBl pins s σ H _ _ v u Q I rx ry ⟨_, _, rfl, rfl, q⟩⟩
  · cases h
theorem op_cmp (hu : X.A.units + 65 < cLine) (o : CO) : OpR X (compareOp (coP o)) (rCmp X.K ca o) := by
  intro pins s σ H x y v u Q I rx ry h
  obtain ⟨S, β, d1, d2, k, hs, r1, r2, h, q⟩ := h
  unfold cmpD at h
  cases o with
  | eq =>
    obtain ⟨a, b, h1, h2, p1, p2, p3, rfl⟩ := eqD_ok hs r1 r2 h
    obtain ⟨as, g1⟩ := Dp.reads I a x v h1 rx
    obtain ⟨bs, g2⟩ := Dp.reads I b y u h2 ry
    exact SeqAt.eq_plain g1 g2 p1 p2 (by have := Nat.min_le_left a.depth b.depth; omega) ⟨.bl _, H, I, rfl, q⟩
  | ne =>
    obtain ⟨k', h', rfl⟩ := Option.map_eq_some_iff.mp h
    obtain ⟨a, b, h1, h2, p1, p2, p3, rfl⟩ := eqD_ok hs r1 r2 h'
    obtain ⟨as, g1⟩ := Dp.reads I a x v h1 rx
    obtain ⟨bs, g2⟩ := Dp.reads I b y u h2 ry
    exact SeqAt.ne_plain g1 g2 p1 p2 (by have := Nat.min_le_left a.depth b.depth; omega) ⟨.bl _, H, I, rfl, q⟩
  | lt =>
    dsimp only at h
    split at h
    · cases r1; cases r2; cases h
      exact op_lt pins s σ H _ _ v u Q I rx ry ⟨_, _, rfl, rfl, q⟩
    · cases h
  | le =>
    dsimp only at h
    split at h
    · cases r1; cases r2; cases h
      exact op_le pins s σ H _ _ v u Q I rx ry ⟨_, _, rfl, rfl, q⟩
    · cases h
  | gt =>
    dsimp only at h
    split at h
    · cases r1; cases r2; cases h
      exact op_gt pins s σ H _ _ v u Q I rx ry ⟨_, _, rfl, rfl, q⟩
    · cases h
  | ge =>
    dsimp only at h
    split at h
    · cases r1; cases r2; cases h
      exact op_ge pins s σ H _ _ v u Q I rx ry ⟨_, _, rfl, rfl, q⟩
    · cases h
  | is => exact (isD_ok I r1 r2 rx ry h).1 q
  | isn =>
    obtain ⟨k', h', rfl⟩ := Option.map_eq_some_iff.mp h
    exact (isD_ok I r1 r2 rx ry h').2 q
  | inn =>
    dsimp only at h
    unfold inD at h
    split at h
    · rename_i kvs e
      split at h
      · rename_i key e2
        cases h
        obtain ⟨a, rfl, g⟩ := dget_ok hs r1 r2 e e2
        cases (show u = Value.ref a from ry)
        split at g
        · rename_i d e3
          obtain ⟨w, g, _⟩ := g
          exact d_in (by omega) I g rx fun s' I' => ⟨.bl _, H, I', rfl, by rw [e3] at q; exact q⟩
        · rename_i e3
          exact d_in (by omega) I g rx fun s' I' => ⟨.bl _, H, I', rfl, by rw [e3] at q; exact q⟩
      · cases h
    · obtain ⟨a, ds, h1, h2, p1, p2, p3, rfl⟩ := inS_ok hs r1 r2 h
      obtain ⟨as, g1⟩ := Dp.reads I a x v h1 rx
      have hm := Nat.min_le_right (PyData.depthAll ds) a.depth
      rcases h2 with h2 | h2
      · obtain ⟨bs, g2⟩ := Dp.reads I _ y u h2 ry
        exact SeqAt.in_list_data g2 g1 p2 p1 (by omega) ⟨.bl _, H, I, rfl, q⟩
      · obtain ⟨bs, g2⟩ := Dp.reads I _ y u h2 ry
        exact SeqAt.in_tuple_data g2 g1 p2 p1 (by omega) ⟨.bl _, H, I, rfl, q⟩
  | nin =>
    obtain ⟨k', h', rfl⟩ := Option.map_eq_some_iff.mp h
    unfold inD at h'
    split at h'
    · rename_i kvs e
      split at h'
      · rename_i key e2
        cases h'
        obtain ⟨a, rfl, g⟩ := dget_ok hs r1 r2 e e2
        cases (show u = Value.ref a from ry)
        split at g
        · rename_i d e3
          obtain ⟨w, g, _⟩ := g
          exact d_notIn (by omega) I g rx fun s' I' => ⟨.bl _, H, I', rfl, by rw [e3] at q; exact q⟩
        · rename_i e3
          exact d_notIn (by omega) I g rx fun s' I' => ⟨.bl _, H, I', rfl, by rw [e3] at q; exact q⟩
      · cases h'
    · obtain ⟨a, ds, h1, h2, p1, p2, p3, rfl⟩ := inS_ok hs r1 r2 h'
      obtain ⟨as, g1⟩ := Dp.reads I a x v h1 rx
      have hm := Nat.min_le_right (PyData.depthAll ds) a.depth
      rcases h2 with h2 | h2
      · obtain ⟨bs, g2⟩ := Dp.reads I _ y u h2 ry
        exact SeqAt.notIn_list_data g2 g1 p2 p1 (by omega) ⟨.bl _, H, I, rfl, q⟩
      · obtain ⟨bs, g2⟩ := Dp.reads I _ y u h2 ry
        exact SeqAt.notIn_tuple_data g2 g1 p2 p1 (by omega) ⟨.bl _, H, I, rfl, q⟩
/-! ### items, slices, stores -/
theorem cutL_all {α : Type} {xs : List α} {lo hi : Option Int} (h : HT.sIx xs.length 0 lo = 0 ∧ HT.sIx xs.length xs.length hi = xs.length) : cutL xs lo hi = xs := by
  unfold cutL
  rw [h.1, h.2, List.drop_zero, Nat.sub_zero, List.take_length]
theorem atI_rel {K : PySem.W.Frag} {H : Hp} {β : List Addr} {ds : List D} {vs : List V} {i : Int} {d : D} (r : RDs K ca H β ds vs) (h : atI ds i = some d) : ∃ v, atI vs i = some v ∧ RD K ca H β d v := by
  unfold atI at h ⊢
  rw [← r.length]
  cases e : ixN ds.length i with
  | none => rw [e] at h; cases h
  | some j =>
    rw [e] at h
    exact r.get h
def rIxD (K : PySem.W.Frag) (ca : Nat → Addr) : R2 := fun x y H Q => ∃ S β d1 d2 d, HSim K ca S β H ∧ RD K ca H β d1 x ∧ RD K ca H β d2 y ∧ ixD S d1 d2 = some d ∧ HQ K ca β H Q d S
theorem ix_d (hu : X.A.units + 1 < cLine) : IxR X (rIxD X.K ca) := by
  intro value slice pins s σ H x y v u Q I rx ry h hsub
  obtain ⟨S, β, d1, d2, d, hs, r1, r2, h, q⟩ := h
  unfold ixD at h
  split at h
  · rename_i kvs e
    obtain ⟨key, e2, e3⟩ := Option.bind_eq_some_iff.mp h
    obtain ⟨a, rfl, g⟩ := dget_ok hs r2 r1 e e2
    rw [e3] at g
    obtain ⟨w, g, rw⟩ := g
    cases (show v = Value.ref a from rx)
    exact tail_any (dict_typeIs I g) PySem.F.slot_dict_getitem.lookup (d_getItem hu I g ry fun w' s' I' r' => ⟨w, H, I', r', q.now hs rw⟩) hsub
  unfold ixS at h
  split at h
  · cases r2
    split at h
    · rename_i xs e
      obtain ⟨a, vs, rfl, hl, hr⟩ := seq_of hs e r1
      obtain ⟨w, hw, rw⟩ := atI_rel hr h
      rcases hl with hl | hl
      · exact ix_list value slice pins s σ H _ _ v u Q I rx ry ⟨_, _, _, _, rfl, rfl, hl, hw, q.now hs rw⟩ hsub
      · exact ix_tup value slice pins s σ H _ _ v u Q I rx ry ⟨_, _, _, _, rfl, rfl, hl, hw, q.now hs rw⟩ hsub
    · split at h
      · cases r1
        split at h
        · rename_i hz
          obtain ⟨c, hc, rfl⟩ := Option.map_eq_some_iff.mp h
          exact ix_str value slice pins s σ H _ _ v u Q I rx ry ⟨_, _, _, rfl, rfl, hz, hc, q.now hs (.str _)⟩ hsub
        · cases h
      · cases h
  · cases h
def rSlD (K : PySem.W.Frag) (ca : Nat → Addr) : V → Option Int → Option Int → Hp → VK → Prop := fun x lo hi H Q => ∃ S β d, HSim K ca S β H ∧ RD K ca H β d x ∧
  (match d with
  | .tup xs => HQ K ca β H Q (.tup (cutL xs lo hi)) S
  | .kl xs => HQ K ca β H Q (.ref S.length) (S ++ [.lst (cutL xs lo hi)])
  | .ref n => onO (seqOf S (.ref n)) fun xs => HQ K ca β H Q (.ref S.length) (S ++ [.lst (cutL xs lo hi)])
  | _ => False)
theorem sl_d : SlR X (rSlD X.K ca) := by
  intro pins s σ H x v vl vu lo hi sl Q I rx hsl pl pu h
  obtain ⟨S, β, d, hs, r, h⟩ := h
  cases r with
  | tup h1 h2 =>
    dsimp only at h
    refine sl_tupA pins s σ H _ v vl vu lo hi sl Q I rx hsl pl pu ⟨_, _, rfl, h1.sq, fun e => ?_, fun _ => h.newT hs (h2.cut lo hi)⟩
    have e2 : cutL _ lo hi = _ := cutL_all (h2.length.symm ▸ e)
    rw [e2] at h
    exact h.now hs (.tup h1 h2)
  | kl h1 h2 =>
    dsimp only at h
    exact sl_list pins s σ H _ v vl vu lo hi sl Q I rx hsl pl pu ⟨_, _, rfl, h1.sq, h.new hs (h2.cut lo hi)⟩
  | ref hb =>
    dsimp only at h
    unfold onO at h
    split at h
    · rename_i xs e
      obtain ⟨a, vs, ea, hl, hr⟩ := seq_lst hs e (.ref hb)
      cases ea
      exact sl_list pins s σ H _ v vl vu lo hi sl Q I rx hsl pl pu ⟨_, _, rfl, hl, h.new hs (hr.cut lo hi)⟩
    · exact h.elim
  | _ => exact h.elim
def tSetD (K : PySem.W.Frag) (ca : Nat → Addr) : TSet := fun o i v H Q => ∃ S β d1 d2 d, HSim K ca S β H ∧ RD K ca H β d1 o ∧ RD K ca H β d2 i ∧ RD K ca H β d v ∧
  wpSet S d1 d2 d fun S' => ∀ H', HSim K ca S' β H' → Gr K β H β H' → Q H'
theorem set_d (hu : X.A.units + 1 < cLine) : PSet X (tSetD X.K ca) := by
  intro pins s σ H o i v ov iv u Q I ro ri rv h
  obtain ⟨S, β, d1, d2, d, hs, r1, r2, r, h⟩ := h
  unfold wpSet at h
  split at h
  · split at h
    · rename_i n ks kvs e
      obtain ⟨key, e2, hl, h⟩ := onO_some h
      obtain ⟨a, b, kv, rfl, rfl, h1, h2, h3, h4⟩ := key_ok (k := key) hs r2 r1 (by unfold dctOf; dsimp only; rw [e]) (by unfold keyOf; exact e2)
      cases (show ov = Value.ref a from ro)
      obtain ⟨a', kv', ea, hb, ha, _, _⟩ := dct_at hs e r1
      cases ea
      have g := gr_wr (ho := .dT (putK kv (key.map Sum.inl) v)) (hs.ob _ _ _ e hb)
      obtain ⟨i1, i2⟩ := dput (k := key) r h3 h4
      obtain ⟨s2, g2⟩ := hs.wrO (o' := .dct (dPut key d kvs)) (ho := .dT (putK kv (key.map Sum.inl) v)) e hb ⟨_, upd_same, i1, i2.grow g⟩
      have hlen : kv.length = kvs.length := by have := congrArg List.length h3; rwa [List.length_map, List.length_map] at this
      exact d_setItem hu I (DPut.t h1 h2 (by rw [hlen]; exact hl)) ri rv fun s' I' => ⟨_, I', h _ s2 g2⟩
    · exact h.elim
  · split at h
    · rename_i n k xs e
      obtain ⟨a, vs, rfl, hb, ha, hr⟩ := lst_at hs e r1
      cases r2
      unfold onO at h
      split at h
      · rename_i j ej
        obtain ⟨s2, g2⟩ := hs.wr e hb (hr.set r j)
        exact set_list pins s σ H _ _ _ ov iv u Q I ro ri rv ⟨_, _, _, _, rfl, rfl, ha, by rw [← hr.length]; exact ej, h _ s2 g2⟩
      · exact h.elim
    · exact h.elim
  · exact h.elim
end
end PD

set_option Elab.async false
set_option linter.all false
set_option maxRecDepth 100000
set_option maxHeartbeats 4000000
namespace PD
open PySem PySem.Spec PyProof.Rows L2
section
variable {K : PySem.W.Frag} {ca : Nat → Addr} {H H' : Hp} {β β' : List Addr} {S : Store}
theorem bools_v : ∀ {ds : List D} {is : List Bool} {vs : List V}, boolL ds = some is → RDs K ca H β ds vs → vs = is.map V.bl
  | [], is, vs, h, r => by
    cases r
    cases h
    rfl
  | d :: ds, is, vs, h, r => by
    obtain ⟨y, zs, rfl, e1, e2⟩ := mapO_cons h
    cases r with
    | cons r1 r2 =>
      cases r1 <;> (try (cases e1; done))
      cases e1
      rw [List.map_cons, bools_v (ds := ds) e2 r2]
theorem foldl_max_le : ∀ (l : List Int) (a : Int), a ≤ l.foldl max a ∧ (∀ x ∈ l, x ≤ l.foldl max a) ∧ (l.foldl max a = a ∨ l.foldl max a ∈ l)
  | [], a => ⟨Int.le_refl _, fun _ h => (nomatch h), .inl rfl⟩
  | b :: r, a => by
    obtain ⟨h1, h2, h3⟩ := foldl_max_le r (max a b)
    refine ⟨Int.le_trans (Int.le_max_left a b) h1, fun x hx => ?_, ?_⟩
    · rcases List.mem_cons.mp hx with rfl | hx
      · exact Int.le_trans (Int.le_max_right a x) h1
      · exact h2 x hx
    · show (r.foldl max (max a b) = a ∨ r.foldl max (max a b) ∈ b :: r)
      rcases h3 with h3 | h3
      · rw [h3]
        rcases Int.le_total a b with z | z
        · right; rw [Int.max_eq_right z]; exact List.mem_cons_self
        · left; exact Int.max_eq_left z
      · right; exact List.mem_cons_of_mem _ h3
theorem foldl_min_le : ∀ (l : List Int) (a : Int), l.foldl min a ≤ a ∧ (∀ x ∈ l, l.foldl min a ≤ x) ∧ (l.foldl min a = a ∨ l.foldl min a ∈ l)
  | [], a => ⟨Int.le_refl _, fun _ h => (nomatch h), .inl rfl⟩
  | b :: r, a => by
    obtain ⟨h1, h2, h3⟩ := foldl_min_le r (min a b)
    refine ⟨Int.le_trans h1 (Int.min_le_left a b), fun x hx => ?_, ?_⟩
    · rcases List.mem_cons.mp hx with rfl | hx
      · exact Int.le_trans h1 (Int.min_le_right a x)
      · exact h2 x hx
    · show (r.foldl min (min a b) = a ∨ r.foldl min (min a b) ∈ b :: r)
      rcases h3 with h3 | h3
      · rw [h3]
        rcases Int.le_total a b with z | z
        · left; exact Int.min_eq_left z
        · right; rw [Int.min_eq_right z]; exact List.mem_cons_self
      · right; exact List.mem_cons_of_mem _ h3
theorem maxL_is {is : List Int} {m n : Int} (h : maxL is = some m) (h1 : n ∈ is) (h2 : ∀ y ∈ is, y ≤ n) : n = m := by
  cases is with
  | nil => cases h
  | cons x r =>
    cases h
    obtain ⟨g1, g2, g3⟩ := foldl_max_le r x
    apply Int.le_antisymm
    · rcases List.mem_cons.mp h1 with rfl | z
      · exact g1
      · exact g2 n z
    · rcases g3 with z | z
      · rw [z]; exact h2 x List.mem_cons_self
      · exact h2 _ (List.mem_cons_of_mem _ z)
theorem minL_is {is : List Int} {m n : Int} (h : minL is = some m) (h1 : n ∈ is) (h2 : ∀ y ∈ is, n ≤ y) : n = m := by
  cases is with
  | nil => cases h
  | cons x r =>
    cases h
    obtain ⟨g1, g2, g3⟩ := foldl_min_le r x
    apply Int.le_antisymm
    · rcases g3 with z | z
      · rw [z]; exact h2 x List.mem_cons_self
      · exact h2 _ (List.mem_cons_of_mem _ z)
    · rcases List.mem_cons.mp h1 with rfl | z
      · exact g1
      · exact g2 n z
/-! ### isinstance -/
def tyIn : List String := ["NoneType", "bool", "int", "str", "tuple", "list"]
theorem kit_all : ∀ a ∈ tyIn, ∀ b ∈ tyOk, kitB a b = some (isTy a b) := by decide +kernel
theorem tyName_v (hs : HSim K ca S β H) {d : D} {v : V} {a : String} (h : tyName S d = some a) (r : RD K ca H β d v) : TyX K H v (.type a) ∧ a ∈ tyIn := by
  cases r with
  | non => cases h; exact ⟨.base .non, by decide⟩
  | bl b => cases h; exact ⟨.base (.bl b), by decide⟩
  | int b => cases h; exact ⟨.base (.int b), by decide⟩
  | str b => cases h; exact ⟨.base (.str b), by decide⟩
  | ty n => cases h
  | own c => cases h
  | tup h1 h2 =>
    cases h
    exact ⟨.base (.tup h1), by decide⟩
  | kt h1 h2 =>
    cases h
    obtain ⟨o, its, n, h1, h2, _⟩ := h1
    exact ⟨.kTuple h1 h2, by decide⟩
  | kl h1 h2 =>
    cases h
    refine ⟨?_, by decide⟩
    rcases h1 with ⟨o, h1⟩ | ⟨o, its, n, h1, h2, _⟩
    · exact .base (.frz h1)
    · exact .kList h1 h2
  | ref hb =>
    unfold tyName at h
    dsimp only at h
    split at h
    · rename_i xs e
      cases h
      refine ⟨?_, by decide⟩
      obtain ⟨o, ho, hor⟩ := hs.there hb
      unfold seqOf at e
      dsimp only at e
      rw [ho] at e
      cases o with
      | lst ys =>
        obtain ⟨vs, hv, _⟩ := hor
        exact .base (.lst hv)
      | ins c fs => cases e
      | dct kvs => cases e
    · cases h
theorem isi1_v {a : String} (ha : a ∈ tyIn) {c : D} {v : V} {k : Bool} (h : isi1 a c = some k) (r : RD K ca H β c v) : ∃ b, v = .ty b ∧ PySem.W.kitOne K (.type a) (.type b) = some k := by
  unfold isi1 at h
  split at h
  · cases r
    split at h
    · rename_i hb
      cases h
      exact ⟨_, rfl, kit_ty (kit_all a ha _ hb)⟩
    · cases h
  · cases h
theorem isiAll {a : String} (ha : a ∈ tyIn) : ∀ {cs : List D} {vs : List V} {bs : List Bool}, mapO (isi1 a) cs = some bs → RDs K ca H β cs vs → ∃ us, Paired ClsV vs us ∧ PySem.W.kitAny K (.type a) us = some (bs.any id)
  | [], vs, bs, h, r => by
    cases r
    cases h
    exact ⟨[], .nil, kitAny_nil⟩
  | c :: cs, vs, bs, h, r => by
    obtain ⟨y, zs, rfl, e1, e2⟩ := mapO_cons h
    cases r with
    | cons r1 r2 =>
      obtain ⟨b, rfl, h1⟩ := isi1_v ha e1 r1
      obtain ⟨us, p, h2⟩ := isiAll ha e2 r2
      refine ⟨_, .cons (.ty b) p, ?_⟩
      cases y with
      | true => exact kitAny_cons h1 (fun z => (nomatch z)) (fun _ => rfl)
      | false =>
        refine kitAny_cons h1 (fun _ => ?_) (fun z => (nomatch z))
        rw [h2]
        rfl
end
/-! ### built-in functions -/
def biV : BI → Value
  | .abs => .builtin "abs" | .len => .builtin "len" | .int => .type "int" | .bool => .type "bool" | .list => .type "list" | .tuple => .type "tuple" | .max => .builtin "max" | .min => .builtin "min"
  | .sum => .builtin "sum" | .any => .builtin "any" | .all => .builtin "all" | .isinstance => .builtin "isinstance" | .gcd => .builtin "math.gcd" | .lcm => .builtin "math.lcm" | .sorted => .builtin "sorted" | .str => .type "str"
section
variable {X : Cx} {ca : Nat → Addr}
def rBi (K : PySem.W.Frag) (ca : Nat → Addr) (b : BI) : List V → Hp → VK → Prop := fun xs H Q => ∃ S β ds, HSim K ca S β H ∧ RDs K ca H β ds xs ∧ wpBi S b ds (HQ K ca β H Q)
theorem rds1 {K : PySem.W.Frag} {H : Hp} {β : List Addr} {d : D} {xs : List V} (r : RDs K ca H β [d] xs) : ∃ v, xs = [v] ∧ RD K ca H β d v := by
  cases r with
  | cons r1 r2 => cases r2; exact ⟨_, rfl, r1⟩
theorem rds2 {K : PySem.W.Frag} {H : Hp} {β : List Addr} {d e : D} {xs : List V} (r : RDs K ca H β [d, e] xs) : ∃ v w, xs = [v, w] ∧ RD K ca H β d v ∧ RD K ca H β e w := by
  cases r with
  | cons r1 r2 =>
    obtain ⟨w, rfl, r3⟩ := rds1 r2
    exact ⟨_, _, rfl, r1, r3⟩
theorem encs {S : Store} : ∀ {xs : List D} {ps : List PyData}, mapO (toPy S pyF) xs = some ps → xs.map (encD S) = ps ∧ ∀ d ∈ xs, ∃ p, toPy S pyF d = some p
  | [], ps, h => by cases h; exact ⟨rfl, fun d z => absurd z List.not_mem_nil⟩
  | x :: r, ps, h => by
    obtain ⟨y, zs, rfl, e1, e2⟩ := mapO_cons h
    obtain ⟨i1, i2⟩ := encs e2
    refine ⟨?_, fun d hd => ?_⟩
    · rw [List.map_cons, i1]
      unfold encD
      rw [e1]
      rfl
    · rcases List.mem_cons.mp hd with rfl | hd
      · exact ⟨y, e1⟩
      · exact i2 d hd
theorem each_vals {K : PySem.W.Frag} {H : Hp} {β : List Addr} : ∀ {ds : List D} {vs : List V} {us : List Value}, RDs K ca H β ds vs → Vals vs us → PySem.W.EachIs (fun u d => ∃ v, RelV v u ∧ RD K ca H β d v) us ds
  | [], _, _, .nil, r => by cases r; exact .nil
  | d :: ds, _, _, .cons r1 r2, r => by
    cases r with
    | cons a b => exact .cons ⟨_, a, r1⟩ (each_vals r2 b)
theorem vals_each {K : PySem.W.Frag} {H : Hp} {β : List Addr} : ∀ {ds : List D} {us : List Value}, PySem.W.EachIs (fun u d => ∃ v, RelV v u ∧ RD K ca H β d v) us ds → ∃ vs, RDs K ca H β ds vs ∧ Vals vs us
  | _, _, .nil => ⟨[], .nil, .nil⟩
  | _, _, .cons ⟨v, a, b⟩ t => by
    obtain ⟨vs, h1, h2⟩ := vals_each t
    exact ⟨v :: vs, .cons b h1, .cons a h2⟩
theorem call_sorted {S : Store} {β : List Addr} {H : Hp} {pins : List (Addr × Obj)} {s : Shared} {σ : L2.St} {n : Nat} {v : V} {us : List Value} {xs : List D} {ps : List PyData} {Q : VK} (hu : X.A.units + 65 < cLine) (I : Inv X pins σ H s) (hs : HSim X.K ca S β H) (r : RD X.K ca H β (.ref n) v)
    (e1 : seqOf S (.ref n) = some xs) (e2 : mapO (toPy S pyF) xs = some ps) (hal : PySem.W.AllAlike ps) (hsr : PySem.W.Sortable ps) (hl : xs.length ≤ 1000000) (rv : Vals [v] us) (q : HQ X.K ca β H Q (.ref S.length) (S ++ [.lst (sortD S xs)])) :
    wpAny (model X.prog X.w) X.A (call (.builtin "sorted") us) (EP X pins σ Q) X.xe s := by
  obtain ⟨a, vs, rfl, hq, hr⟩ := seq_lst hs e1 r
  obtain ⟨u, rfl, ru⟩ := vals1 rv
  obtain rfl : u = Value.ref a := ru
  obtain ⟨its, rv2, hli, hz⟩ := I.list hq
  obtain ⟨i1, i2⟩ := encs e2
  subst i1
  have ee := each_vals hr rv2
  have er : PySem.W.EachIs (fun u d => ∃ as, Reads s.heap u (encD S d) as) its xs := by
    refine (PySem.W.each_mem ee).mono ?_
    rintro u d ⟨⟨w, ra, rd⟩, hd⟩
    obtain ⟨p, hp⟩ := i2 d hd
    have : encD S d = p := by unfold encD; rw [hp]; rfl
    rw [this]
    exact Dp.reads I p w u (toPy_dp hs _ _ _ _ hp rd).1 ra
  have eu : ∀ d, d ∈ xs → X.A.units + 2 + (encD S d).depth < cLine := by
    intro d hd
    obtain ⟨p, hp⟩ := i2 d hd
    have : encD S d = p := by unfold encD; rw [hp]; rfl
    rw [this]
    obtain ⟨j, hj⟩ := List.getElem?_of_mem hd
    obtain ⟨w, _, rd⟩ := hr.get hj
    have := (toPy_dp hs _ _ _ _ hp rd).2.2
    have : pyF = 40 := rfl
    omega
  refine PySem.W.sorted_data (enc := encD S) hli.isList ee er hal hsr (Nat.le_trans hl (by decide)) eu ?_
  intro out hlen ho
  obtain ⟨ws, h1, h2⟩ := vals_each ho
  obtain ⟨c, hcc⟩ := sortedAll_at s.heap its out.toArray
  have hn : H (s.heap.objs.size + 1) = none := I.hok.fresh (Nat.le_succ _)
  refine ⟨.ref (s.heap.objs.size + 1), upd H (s.heap.objs.size + 1) (.lst ws), I.laid (t' := s.toks) (fun b o z => sortedAll_old z) (Nat.le_succ _) ⟨?_, out, c, h2, hcc⟩, rfl, q.new hs h1 _ hn⟩
  rw [← h1.length, List.length_mergeSort]
  exact Nat.le_trans hl (by decide)
theorem call_bi (hu : X.A.units + 65 < cLine) (hc : X.calm = true) (b : BI) : CallR X (biV b) (rBi X.K ca b) := by
  intro pins s σ H xs us Q I rv h
  obtain ⟨S, β, ds, hs, r, h⟩ := h
  unfold wpBi at h
  split at h
  · obtain ⟨v, rfl, r1⟩ := rds1 r
    cases r1
    exact call_abs pins s σ H _ us Q I rv ⟨_, rfl, h.now hs (.int _)⟩
  · obtain ⟨v, rfl, r1⟩ := rds1 r
    cases r1
    exact call_len_str pins s σ H _ us Q I rv ⟨_, rfl, h.1, h.2.now hs (.int _)⟩
  · obtain ⟨v, rfl, r1⟩ := rds1 r
    obtain ⟨ys, e, q⟩ := onO_some h
    obtain ⟨a, vs, rfl, hl, hr⟩ := seq_of hs e r1
    refine call_len_seq pins s σ H _ us Q I rv ⟨_, _, rfl, hl, ?_⟩
    rw [← hr.length]
    exact q.now hs (.int _)
  · obtain ⟨v, rfl, r1⟩ := rds1 r
    cases r1
    exact call_int1 pins s σ H _ us Q I rv (.inl ⟨_, rfl, h.now hs (.int _)⟩)
  · obtain ⟨v, rfl, r1⟩ := rds1 r
    cases r1
    exact call_int1 pins s σ H _ us Q I rv (.inr ⟨_, rfl, h.now hs (.int _)⟩)
  · obtain ⟨v, rfl, r1⟩ := rds1 r
    cases r1
    exact call_bool1 pins s σ H _ us Q I rv (.inl ⟨_, rfl, h.now hs (.bl _)⟩)
  · obtain ⟨v, rfl, r1⟩ := rds1 r
    cases r1
    exact call_bool1 pins s σ H _ us Q I rv (.inr ⟨_, rfl, h.now hs (.bl _)⟩)
  · obtain ⟨v, rfl, r1⟩ := rds1 r
    obtain ⟨ys, e, q⟩ := onO_some h
    obtain ⟨a, vs, rfl, hl, hr⟩ := seq_of hs e r1
    exact call_list_of pins s σ H _ us Q I rv ⟨_, _, rfl, hl, q.new hs hr⟩
  · exact h.elim
  · rename_i hno
    obtain ⟨v, rfl, r1⟩ := rds1 r
    obtain ⟨ys, e, q⟩ := onO_some h
    have r1' := r1
    cases r1 with
    | kt h1 h2 => exact absurd rfl (hno _)
    | tup h1 h2 =>
      cases e
      exact call_tuple_of pins s σ H _ us Q I rv ⟨_, _, rfl, .inr ⟨h1.sq, q.now hs r1'⟩⟩
    | kl h1 h2 =>
      cases e
      exact call_tuple_of pins s σ H _ us Q I rv ⟨_, _, rfl, .inl ⟨h1.sq, q.newT hs h2⟩⟩
    | ref hb =>
      obtain ⟨a, vs, ea, hl, hr⟩ := seq_lst hs e (.ref hb)
      cases ea
      exact call_tuple_of pins s σ H _ us Q I rv ⟨_, _, rfl, .inl ⟨hl, q.newT hs hr⟩⟩
    | _ => cases e
  · obtain ⟨v, w, rfl, r1, r2⟩ := rds2 r
    cases r1
    cases r2
    exact call_max2 hc pins s σ H _ us Q I rv ⟨_, _, rfl, h.now hs (.int _)⟩
  · obtain ⟨v, rfl, r1⟩ := rds1 r
    obtain ⟨ys, e, q⟩ := onO_some h
    obtain ⟨is, e2, q⟩ := onO_some q
    obtain ⟨m, e3, q⟩ := onO_some q
    obtain ⟨a, vs, rfl, hl, hr⟩ := seq_lst hs e r1
    have ev := ints_v e2 hr
    subst ev
    refine cr_max hc pins s σ H _ us Q I rv ⟨_, _, rfl, hl, ?_, fun n h1 h2 => ?_⟩
    · cases is with
      | nil => cases e3
      | cons x r => exact Nat.succ_pos _
    · rw [maxL_is e3 h1 h2]
      exact q.now hs (.int _)
  · obtain ⟨v, w, rfl, r1, r2⟩ := rds2 r
    cases r1
    cases r2
    exact call_min2 hc pins s σ H _ us Q I rv ⟨_, _, rfl, h.now hs (.int _)⟩
  · obtain ⟨v, rfl, r1⟩ := rds1 r
    obtain ⟨ys, e, q⟩ := onO_some h
    obtain ⟨is, e2, q⟩ := onO_some q
    obtain ⟨m, e3, q⟩ := onO_some q
    obtain ⟨a, vs, rfl, hl, hr⟩ := seq_lst hs e r1
    have ev := ints_v e2 hr
    subst ev
    refine cr_min hc pins s σ H _ us Q I rv ⟨_, _, rfl, hl, ?_, fun n h1 h2 => ?_⟩
    · cases is with
      | nil => cases e3
      | cons x r => exact Nat.succ_pos _
    · rw [minL_is e3 h1 h2]
      exact q.now hs (.int _)
  · obtain ⟨v, rfl, r1⟩ := rds1 r
    obtain ⟨ys, e, q⟩ := onO_some h
    obtain ⟨is, e2, q⟩ := onO_some q
    obtain ⟨a, vs, rfl, hl, hr⟩ := seq_lst hs e r1
    have ev := ints_v e2 hr
    subst ev
    exact cr_sum hc pins s σ H _ us Q I rv ⟨_, _, rfl, hl, q.now hs (.int _)⟩
  · obtain ⟨v, rfl, r1⟩ := rds1 r
    obtain ⟨ys, e, q⟩ := onO_some h
    obtain ⟨is, e2, q⟩ := onO_some q
    obtain ⟨a, vs, rfl, hl, hr⟩ := seq_lst hs e r1
    have ev := bools_v e2 hr
    subst ev
    exact cr_any hc pins s σ H _ us Q I rv ⟨_, _, rfl, hl, q.now hs (.bl _)⟩
  · obtain ⟨v, rfl, r1⟩ := rds1 r
    obtain ⟨ys, e, q⟩ := onO_some h
    obtain ⟨is, e2, q⟩ := onO_some q
    obtain ⟨a, vs, rfl, hl, hr⟩ := seq_lst hs e r1
    have ev := bools_v e2 hr
    subst ev
    exact cr_all hc pins s σ H _ us Q I rv ⟨_, _, rfl, hl, q.now hs (.bl _)⟩
  · obtain ⟨v, w, rfl, r1, r2⟩ := rds2 r
    obtain ⟨k, e, q⟩ := onO_some h
    unfold isiD at e
    split at e
    · cases e
    · rename_i a ea
      obtain ⟨ty, ha⟩ := tyName_v hs ea r1
      split at e
      · obtain ⟨bs, eb, rfl⟩ := Option.map_eq_some_iff.mp e
        cases r2 with
        | tup h1 h2 =>
          obtain ⟨us', p, hk⟩ := isiAll ha eb h2
          exact call_isiT pins s σ H _ us Q I rv ⟨_, _, _, _, _, _, rfl, h1, p, ty, hk, q.now hs (.bl _)⟩
      · obtain ⟨b, rfl, hk⟩ := isi1_v ha e r2
        exact call_isi pins s σ H _ us Q I rv ⟨_, _, _, _, _, rfl, .ty b, ty, hk, q.now hs (.bl _)⟩
  · obtain ⟨v, w, rfl, r1, r2⟩ := rds2 r
    cases r1
    cases r2
    exact cr_gcd pins s σ H _ us Q I rv ⟨_, _, rfl, h.now hs (.int _)⟩
  · obtain ⟨v, w, rfl, r1, r2⟩ := rds2 r
    cases r1
    cases r2
    obtain ⟨t, u, rfl⟩ := Vals.int2 rv
    exact PySem.W.mc_lcm h.1 h.2.1 fun _ => ⟨.int _, H, I.tok _, ⟨_, rfl⟩, h.2.2.now hs (.int _)⟩
  · obtain ⟨v, rfl, r1⟩ := rds1 r
    obtain ⟨xs, e1, h⟩ := onO_some h
    obtain ⟨ps, e2, hal, hsr, hl, q⟩ := onO_some h
    exact call_sorted hu I hs r1 e1 e2 hal hsr hl rv q
  · obtain ⟨v, rfl, r1⟩ := rds1 r
    cases r1
    exact call_str_int pins s σ H _ us Q I rv ⟨_, rfl, h.1, h.2.now hs (.str _)⟩
  · exact h.elim
/-! ### methods of lists -/
def bmId : BM → String
  | .append => "list.append" | .extend => "list.extend" | .pop => "list.pop" | .get => "dict.get"
def bmN : BM → Str
  | .append => "append" | .extend => "extend" | .pop => "pop" | .get => "get"
def rBm (K : PySem.W.Frag) (ca : Nat → Addr) (m : BM) : V → List V → Hp → VK → Prop := fun x xs H Q => ∃ S β d ds, HSim K ca S β H ∧ RD K ca H β d x ∧ RDs K ca H β ds xs ∧ wpBm S m d ds (HQ K ca β H Q)
theorem mt_bm (hu : X.A.units + 65 < cLine) (m : BM) : MtR X (bmId m) (rBm X.K ca m) := by
  intro pins s σ H x xs v us Q I rx rv h
  obtain ⟨S, β, d, ds, hs, r, rr, h⟩ := h
  unfold wpBm at h
  split at h
  · split at h
    · rename_i n kvs e
      split at h
      · obtain ⟨k, e2, q⟩ := onO_some h
        obtain ⟨w1, w2, rfl, r1, r2⟩ := rds2 rr
        obtain ⟨u1, u2, rfl, ru1, ru2⟩ := vals2 rv
        obtain ⟨a, rfl, g⟩ := dget_ok hs r1 r (by unfold dctOf; dsimp only; rw [e]) e2
        cases (show v = Value.ref a from rx)
        split at g
        · rename_i d' e3
          obtain ⟨w, g, rw⟩ := g
          exact d_get2 (by omega) I g ru1 ru2 fun w' s' I' r' => ⟨w, H, I', r', by rw [e3] at q; exact q.now hs rw⟩
        · rename_i e3
          exact d_get2 (by omega) I g ru1 ru2 fun w' s' I' r' => ⟨w2, H, I', r', by rw [e3] at q; exact q.now hs r2⟩
      · exact h.elim
    · rename_i n ys e
      obtain ⟨a, vs, rfl, hb, ha, hr⟩ := lst_at hs e r
      split at h
      · obtain ⟨w, rfl, r1⟩ := rds1 rr
        obtain ⟨s2, g2⟩ := hs.wr e hb (hr.app (.cons r1 .nil))
        exact mt_append pins s σ H _ _ v us Q I rx rv ⟨_, _, _, rfl, rfl, ha, by rw [← hr.length]; exact h.1, h.2 _ _ _ s2 g2 .non⟩
      · split at h
        · rename_i k zs e2
          obtain ⟨w, rfl, r1⟩ := rds1 rr
          obtain ⟨b, ws, rfl, hb2, ha2, hr2⟩ := lst_at hs e2 r1
          obtain ⟨s2, g2⟩ := hs.wr e hb (hr.app hr2)
          exact mt_extend pins s σ H _ _ v us Q I rx rv ⟨_, _, _, _, rfl, rfl, ha, ha2, by rw [← hr.length, ← hr2.length]; exact h.1, h.2 _ _ _ s2 g2 .non⟩
        · exact h.elim
      · obtain ⟨y, e2, q⟩ := onO_some h
        cases rr
        obtain ⟨s2, g2⟩ := hs.wr e hb hr.dropLast
        obtain ⟨w, hw, rw⟩ := hr.get e2
        exact mt_pop pins s σ H _ _ v us Q I rx rv ⟨_, _, _, rfl, rfl, ha, by rw [← hr.length]; exact hw, q _ _ _ s2 g2 (rw.grow g2)⟩
      · exact h.elim
    · exact h.elim
  · exact h.elim
end
end PD

set_option Elab.async false
set_option linter.all false
set_option maxRecDepth 100000
set_option maxHeartbeats 4000000
namespace PD
open PySem PySem.Spec PyProof.Rows L2
/-! ### from the text to the small syntax -/
/-- what a name of the module, or a built-in's, is -/
inductive GK where
  | fn (i : Nat) | ty (n : String) | bi (b : BI) | cst (d : D) | cls (c : Nat) | exc (c : Nat) (fs : List Str) | rng | enum
  /-- a built-in exception class -/
  | xty (c : Nat) (n : String)
  /-- a class that is made by the i-th def; the methods: name, class, def; reversed -/
  | new (c i : Nat) | obj (c : Nat) | mts (t : List (Str × Nat × Nat)) | rvs
def GK.cid : GK → Option Nat
  | .cls c => some c
  | .exc c _ => some c
  | .xty c _ => some c
  | _ => none
structure Ctx where
  N : List Str
  sc : Scope
  calm : Bool
  top : Bool
  fn : Bool
  exn : Option Str
  gl : List (Str × GK)
def ixOf (x : Str) : List Str → Nat → Option Nat
  | [], _ => none
  | y :: r, i => if x == y then some i else ixOf x r (i + 1)
def kindL (c : Ctx) (x : Str) : Option NameKind := c.sc.names.lookup x
/-- a slot's name -/
def slotOf (c : Ctx) (x : Str) : Option Nat := match kindL c x with
  | some .local => ixOf x c.N 0
  | some .cell => ixOf x c.N 0
  | some .free => ixOf x c.N 0
  | _ => none
def globOf (c : Ctx) (x : Str) : Option GK := match kindL c x with
  | some .globalImplicit => if x == ("__debug__" : Str) || x == ("__name__" : Str) then none else c.gl.lookup x
  | _ => none
def opB : Operator → Option BO
  | .Add => some .add | .Sub => some .sub | .Mult => some .mul | .FloorDiv => some .fdiv | .Mod => some .mod | .Pow => some .pow
  | _ => none
def opC : CmpOp → CO
  | .Eq => .eq | .NotEq => .ne | .Lt => .lt | .LtE => .le | .Gt => .gt | .GtE => .ge | .Is => .is | .IsNot => .isn | .In => .inn | .NotIn => .nin
def tyB (n : String) : Option BI := if n == "int" then some .int else if n == "bool" then some .bool else if n == "list" then some .list else if n == "tuple" then some .tuple else if n == "str" then some .str else none
def bmOf (m : Str) : Option BM := if m == bmN .append then some .append else if m == bmN .extend then some .extend else if m == bmN .pop then some .pop else if m == bmN .get then some .get else none
def isGet : BM → Bool
  | .get => true
  | _ => false
/-- who has the method m -/
def mtsOf (c : Ctx) (m : Str) : List (Nat × Nat) := match c.gl.lookup (".": Str) with
  | some (.mts t) => t.filterMap fun p => if p.1 == m then some p.2 else none
  | _ => []
def plainE : Expr → Bool
  | .Starred _ _ => false
  | _ => true
def noSlice : Expr → Bool
  | .Slice _ _ _ _ => false
  | _ => true
def noComp : Expr → Bool
  | .ListComp _ _ _ _ => false
  | .SetComp _ _ _ _ => false
  | .DictComp _ _ _ _ _ => false
  | _ => true
def noCall0 : Expr → Bool
  | .Call _ [] [] _ => false
  | _ => true
def noSet : Expr → Bool
  | .Set _ _ _ => false
  | _ => true
def compL (f : Expr → Option DE) : List Expr → Option DEs
  | [] => some .nil
  | e :: r => if plainE e then (match f e, compL f r with
    | some x, some xs => some (.cons x xs)
    | _, _ => none) else none
def compO (f : Expr → Option DE) : Option Expr → Option DO
  | none => some .none
  | some e => (f e).map .some
def compGs (f : Expr → Option DT) : List Expr → Option DTs
  | [] => some .nil
  | e :: r => if plainE e then (match f e, compGs f r with
    | some x, some xs => some (.cons x xs)
    | _, _ => none) else none
def ownOf (N : List Str) : List (Str × NameKind) → List (Str × Nat)
  | [] => []
  | (x, k) :: r => if k == .local || k == .cell then (match ixOf x N 0 with
    | some i => (x, i) :: ownOf N r
    | none => ownOf N r) else ownOf N r
def blkCtx (c : Ctx) (scope : Scope) : Ctx := { c with sc := relS scope c.sc, top := false, fn := false }
def okN (x : Str) : Bool := !(x == ("__debug__" : Str) || x == ("__classdict__" : Str))
def cid1 (c : Ctx) : Expr → Option Nat
  | .Name z _ => (globOf c z).bind GK.cid
  | _ => none
/-- a class or several -/
def clsL (c : Ctx) : Expr → Option (List Nat)
  | .Tuple es _ _ => if es.length < 20 then mapO (cid1 c) es else none
  | e => (cid1 c e).map fun k => [k]
def isTup : Expr → Bool
  | .Tuple _ _ _ => true
  | _ => false
mutual
/-- the targets store the own names of a block alone -/
def ownT (own : List Nat) : DT → Bool
  | .nm i => own.contains i
  | .tp ts => ownTs own ts
  | .sub _ _ => false
def ownTs (own : List Nat) : DTs → Bool
  | .nil => true
  | .cons t ts => ownT own t && ownTs own ts
end
/-- a test: no conditional expression stands in it -/
def noIf : Nat → Expr → Bool
  | 0, _ => true
  | _ + 1, .IfExp _ _ _ _ => false
  | n + 1, .UnaryOp .Not a _ => noIf n a
  | n + 1, .BoolOp _ es _ => es.all (noIf n)
  | _ + 1, _ => true
/-- names and tuples of names -/
def compN : Nat → Ctx → Expr → Option DT
  | 0, _, _ => none
  | n + 1, c, e => match e with
    | .Name x _ => if kindL c x == some .local || (c.fn && kindL c x == some .cell) then (if c.exn == some x then none else (ixOf x c.N 0).map .nm) else none
    | .Tuple es _ _ => if c.calm then (compGs (compN n c) es).map .tp else none
    | _ => none
def compI (E : Expr → Option DE) (c : Ctx) (tup : Bool) (e : Expr) : Option DI := match e with
  | .Call (.Name x _) es [] _ => match globOf c x with
    | some .rng => if es.length == 1 || es.length == 2 then (compL E es).map .rng else none
    | some .enum => match es with
      | [a] => if plainE a && tup then (E a).map .enum else none
      | _ => none
    | some .rvs => match es with
      | [a] => if plainE a then (E a).map .rev else none
      | _ => none
    | _ => (E e).map .seq
  | e => if noSet e then (E e).map .seq else none
def compC (n : Nat) (E : Expr → Option DE) : List Expr → Option DO
  | [] => some .none
  | [t] => if noIf n t then (E t).map .some else none
  | _ => none
def compE : Nat → Ctx → Expr → Option DE
  | 0, _, _ => none
  | n + 1, c, e =>
    let E := compE n c
    match e with
    | .Name x _ => if !okN x then none else if c.exn == some x then none else match slotOf c x with
      | some i => some (.var i)
      | none => match globOf c x with
        | some (.ty t) => some (.cst (.ty t))
        | some (.cst d) => some (.cst d)
        | some (.xty _ t) => some (.cst (.ty t))
        | some (.cls k) => some (.cst (.own k))
        | some (.exc k _) => some (.cst (.own k))
        | some (.new k _) => some (.cst (.own k))
        | some (.obj k) => some (.cst (.own k))
        | _ => none
    | .Constant (.int i) _ _ => some (.cst (.int i))
    | .Constant (.bool i) _ _ => some (.cst (.bl i))
    | .Constant .none _ _ => some (.cst .non)
    | .Constant (.str i) _ _ => some (.cst (.str i))
    | .BinOp a o b _ => match opB o, E a, E b with
      | some o, some x, some y => some (.bin o x y)
      | _, _, _ => none
    | .UnaryOp .USub a _ => (E a).map .neg
    | .UnaryOp .Not a _ => (E a).map .not
    | .Compare l [o] [r] _ => if behindInMarks o r then none else match E l, E r with
      | some x, some y => some (.cmp (opC o) x y)
      | _, _ => none
    | .Compare l [o, p] [a, b] _ => if lastMarks [o, p] [a, b] then none else match E l, E a, E b with
      | some x, some y, some z => some (.chn (opC o) (opC p) x y z)
      | _, _, _ => none
    | .BoolOp _ [a] _ => E a
    | .BoolOp .And (a :: b :: r) pos => match E a, E (.BoolOp .And (b :: r) pos) with
      | some x, some y => some (.and x y)
      | _, _ => none
    | .BoolOp .Or (a :: b :: r) pos => match E a, E (.BoolOp .Or (b :: r) pos) with
      | some x, some y => some (.or x y)
      | _, _ => none
    | .IfExp t a b _ => if noIf n t then (match E t, E a, E b with
      | some x, some y, some z => some (.ife x y z)
      | _, _, _ => none) else none
    | .Call (.Name x _) es [] _ => match globOf c x with
      | some (.fn i) => if c.calm then (compL E es).map (.call i) else none
      | some (.new k i) => if c.calm && !es.isEmpty then (compL E es).map (.new k i) else none
      | some (.bi .isinstance) => match c.exn, es with
        | some n, [.Name y _, z] => if n == y && okN y then (clsL c z).map .eisi else none
        | some n, _ => none
        | none, es => if c.calm && !es.isEmpty then (compL E es).map (.bi .isinstance) else none
      | some (.bi b) => if c.calm && !es.isEmpty then (compL E es).map (.bi b) else none
      | some (.ty t) => match tyB t with
        | some b => if c.calm && !es.isEmpty then (compL E es).map (.bi b) else none
        | none => none
      | _ => none
    | .Call (.Attribute o m apos) es [] cpos => if apos.endLine == cpos.line && noCall0 o && decide (es.length < 20) then (match E o, compL E es with
      | some x, some xs => if m == ("bit_length" : Str) && es.isEmpty then some (.bits x) else match bmOf m with
        | some b => if isGet b && es.isEmpty then none else some (.bm b x xs)
        | none => if c.calm && !(mtsOf c m).isEmpty then some (.mth m (mtsOf c m) x xs) else none
      | _, _ => none) else none
    | .Subscript a (.Slice lo hi none _) _ => match E a, compO E lo, compO E hi with
      | some x, some l, some h => some (.sl x l h)
      | _, _, _ => none
    | .Subscript a i _ => if noSlice i then (match E a, E i with
      | some x, some y => some (.ix x y)
      | _, _ => none) else none
    | .Tuple es _ _ => (compL E es).map .tup
    | .List es _ => (compL E es).map .lst
    | .ListComp elt [⟨tg, iter, ifs, 0⟩] scope _ =>
      let c' := blkCtx c scope
      let own := ownOf c.N scope.names
      if c.calm && blkC c.N c.sc scope own && noSet iter then (match compI E c (isTup tg) iter, compN n c' tg, compE n c' elt, compC n (compE n c') ifs with
        | some it, some t, some x, some o => if ownT (own.map (·.2)) t then some (.lc (own.map (·.2)) t it o x) else none
        | _, _, _, _ => none) else none
    | .Dict [] [] _ => some .dnew
    | .Attribute (.Name x p) f _ => if c.exn == some x && okN x then some (.efld f) else if c.exn == some x then none else (E (.Name x p)).map fun y => .fld y f
    | .Attribute a f _ => if noCall0 a then (E a).map fun y => .fld y f else none
    | _ => none
def compG (n : Nat) (c : Ctx) (e : Expr) : Option DT := match e with
  | .Subscript o i _ => if noSlice i then (match compE n c o, compE n c i with
    | some x, some y => some (.sub x y)
    | _, _ => none) else none
  | e => compN n c e
/-! ### statements -/
def hdOk (c : Ctx) : List ExceptHandler → Option (Nat × Option Str × List Stmt)
  | [.ExceptHandler (some (.Name x _)) nm (b :: r) _] => ((globOf c x).bind GK.cid).map fun k => (k, nm, b :: r)
  | _ => none
def suiteCtx (c : Ctx) (nm : Option Str) : Ctx := { c with calm := false, top := false, exn := nm }
def docE : Expr → Bool
  | .Constant (.str _) _ _ => true
  | _ => false
/-- a, b = x, y with plain local names -/
def isPar (t : Expr) (v : Expr) : Bool := match t, v with
  | .Tuple _ _ _, .Tuple _ _ _ => true
  | _, _ => false
def swapFree (c : Ctx) (t e : Expr) : Bool := match e with
  | .ListComp _ _ sc pos => (match t with
    | .Name y py => !(kindL c y == some .local && py.line == pos.line && !(sc.names.any fun (n, k) => n == y && (k == .local || k == .cell)))
    | _ => true)
  | e => noComp e
def swapOn (c : Ctx) (t e : Expr) : Bool := match t, e with
  | .Name y py, .ListComp _ _ sc pos => kindL c y == some .local && c.sc.kind == .function && py.line == pos.line && !(sc.names.any fun (n, k) => n == y && (k == .local || k == .cell))
  | _, _ => false
def compSs (f : Stmt → Option DS) : List Stmt → Option (List DS)
  | [] => some []
  | s :: r => match f s, compSs f r with
    | some x, some xs => some (x :: xs)
    | _, _ => none
def compS : Nat → Ctx → Stmt → Option DS
  | 0, _, _ => none
  | n + 1, c, s => match s with
    | .Assign [.Attribute o f _] e pos => if noComp e then (match compE n c e, compE n c o with
      | some x, some y => some (.setf y f x)
      | _, _ => none) else none
    | .Assign [t] e pos => if isPar t e then none else match compG n c t, compE n c e with
        | some dt, some x => if swapFree c t e || swapOn c t e then some (.asg dt x) else none
        | _, _ => none
    | .AugAssign (.Name x _) o e _ => if kindL c x == some .local || (c.fn && kindL c x == some .cell) then (if c.exn == some x then none else match ixOf x c.N 0, opB o, compE n c e with
        | some i, some .add, some e => some (.aug i .add e)
        | some i, some .sub, some e => some (.aug i .sub e)
        | _, _, _ => none) else none
    | .Expr e _ => if docE e then some .pas else if noComp e then (compE n c e).map .ex else none
    | .Return (some e) _ => (compE n c e).map fun x => .ret (.some x)
    | .Return none _ => some (.ret .none)
    | .If t a b _ => if noIf n t then (match compE n c t, compSs (compS n c) a, compSs (compS n c) b with
      | some x, some y, some z => some (.ifs x y z)
      | _, _, _ => none) else none
    | .For tg it b [] _ => if c.calm && noSet it then (match compN n c tg, compI (compE n c) c (isTup tg) it, compSs (compS n c) b with
      | some t, some i, some b => some (.fr t i b)
      | _, _, _ => none) else none
    | .While t b [] _ => if c.calm && noIf n t then (match compE n c t, compSs (compS n c) b with
      | some x, some b => some (.wh x b)
      | _, _ => none) else none
    | .Pass _ => some .pas
    | .Break _ => some .brk
    | .Continue _ => some .cnt
    | .Raise (some (.Call (.Name x _) es [] _)) none _ => if c.calm && c.top && !es.isEmpty then (match globOf c x, compL (compE n c) es with
      | some (.exc k fs), some es => some (.rse k fs es)
      | _, _ => none) else none
    | .Try b hs [] [] _ => if c.calm && c.top then (match hdOk c hs, compSs (compS n c) b with
      | some (k, nm, su), some b => match compSs (compS n (suiteCtx c nm)) su with
        | some su => match nm with
          | none => some (.tr b k none su)
          | some y => if kindL c y == some .local then (ixOf y c.N 0).map fun i => .tr b k (some i) su else none
        | none => none
      | _, _ => none) else none
    | _ => none
end PD

set_option Elab.async false
set_option linter.all false
set_option maxRecDepth 100000
set_option maxHeartbeats 4000000
namespace PD
open PySem PySem.Spec PyProof.Rows L2
/-! ### a frame over the store -/
/-- the exception that a suite holds -/
structure ExnI where
  slot : Option Nat
  a : Addr
  cls : Value
  d : Option Addr
  er : Err
def RFld (K : PySem.W.Frag) (ca : Nat → Addr) (H : Hp) (β : List Addr) (fs : List (Str × D)) (fv : List (Str × V)) : Prop :=
  ∀ f, (∀ x, fs.lookup f = some x → ∃ v, fv.lookup f = some v ∧ RD K ca H β x v) ∧ (fs.lookup f = none → fv.lookup f = none)
def RErr (K : PySem.W.Frag) (ca : Nat → Addr) (er : Err) (cls : Value) (d : Option Addr) (H : Hp) (β : List Addr) : Prop :=
  cls = .ref (ca er.cls) ∧ ((er.fs = [] ∧ d = none) ∨ ∃ (dd : Addr) (fv : List (Str × V)), d = some dd ∧ H dd = some (.xd fv) ∧ RFld K ca H β er.fs fv)
structure Root where
  β : List Addr
  H : Hp
  exn : Option ExnI
structure Sim (K : PySem.W.Frag) (ca : Nat → Addr) (R : Root) (env : DEnv) (S : Store) (β : List Addr) (σ : L2.St) (H : Hp) : Prop where
  h : HSim K ca S β H
  el : env.length = σ.length
  ev : ∀ (i : Nat) (d : D), env[i]? = some (some d) → ∃ v, σ[i]? = some (some v) ∧ RD K ca H β d v
  gr : Gr K R.β R.H β H
  ex : ∀ x, R.exn = some x → (∀ i, x.slot = some i → σ[i]? = some (some (.ref x.a))) ∧ RErr K ca x.er x.cls x.d H β
section
variable {K : PySem.W.Frag} {ca : Nat → Addr} {R : Root} {env : DEnv} {S S' : Store} {β β' : List Addr} {σ : L2.St} {H H' : Hp}
theorem RFld.grow {fs : List (Str × D)} {fv : List (Str × V)} (g : Gr K β H β' H') (r : RFld K ca H β fs fv) : RFld K ca H' β' fs fv := fun f => ⟨fun x h => by
    obtain ⟨v, h1, h2⟩ := (r f).1 x h
    exact ⟨v, h1, h2.grow g⟩, (r f).2⟩
theorem RErr.grow {er : Err} {cls : Value} {d : Option Addr} (g : Gr K β H β' H') (r : RErr K ca er cls d H β) : RErr K ca er cls d H' β' := by
  refine ⟨r.1, ?_⟩
  rcases r.2 with h | ⟨dd, fv, h1, h2, h3⟩
  · exact .inl h
  · exact .inr ⟨dd, fv, h1, g.xd _ _ h2, h3.grow g⟩
theorem Sim.grow (s : Sim K ca R env S β σ H) (h : HSim K ca S' β' H') (g : Gr K β H β' H') : Sim K ca R env S' β' σ H' where
  h := h
  el := s.el
  ev := fun i d e => by
    obtain ⟨v, h1, h2⟩ := s.ev i d e
    exact ⟨v, h1, h2.grow g⟩
  gr := s.gr.trans g
  ex := fun x e => ⟨(s.ex x e).1, (s.ex x e).2.grow g⟩
theorem Sim.set (s : Sim K ca R env S β σ H) {i : Nat} {d : D} {v : V} (r : RD K ca H β d v) (hx : ∀ x, R.exn = some x → x.slot ≠ some i) : Sim K ca R (env.set i (some d)) S β (σ.set i (some v)) H where
  h := s.h
  el := by rw [List.length_set, List.length_set]; exact s.el
  ev := fun j e h => by
    by_cases hj : j = i
    · subst hj
      have hl : j < env.length := by
        rcases Nat.lt_or_ge j env.length with z | z
        · exact z
        · rw [List.getElem?_eq_none (by rw [List.length_set]; exact z)] at h; cases h
      rw [List.getElem?_set_self hl] at h
      cases h
      exact ⟨v, List.getElem?_set_self (by rw [← s.el]; exact hl), r⟩
    · rw [List.getElem?_set_ne (Ne.symm hj)] at h
      rw [List.getElem?_set_ne (Ne.symm hj)]
      exact s.ev j e h
  gr := s.gr
  ex := fun x e => ⟨fun j hj => by
    have := hx x e
    rw [List.getElem?_set_ne (fun z => this (by rw [hj, z]))]
    exact (s.ex x e).1 j hj, (s.ex x e).2⟩
end
/-! ### readings -/
section
variable (K : PySem.W.Frag) (ca : Nat → Addr) (R : Root)
def LE (w : DEnv → Store → DQ → Prop) : TE := fun σ H Q => ∃ env S β, Sim K ca R env S β σ H ∧ w env S (HQ K ca β H Q)
def HB (β : List Addr) (H : Hp) (Q : Bool → Hp → Prop) : D → Store → Prop := fun d S' => onO (truth S' d) fun k => ∀ β' H', HSim K ca S' β' H' → Gr K β H β' H' → Q k H'
def LT (w : DEnv → Store → DQ → Prop) : TT := fun σ H Q => ∃ env S β, Sim K ca R env S β σ H ∧ w env S (HB K ca β H Q)
def HL (β : List Addr) (H : Hp) (Q : List V → Hp → Prop) : List D → Store → Prop := fun ds S' => ∀ β' vs H', HSim K ca S' β' H' → Gr K β H β' H' → RDs K ca H' β' ds vs → Q vs H'
def LA (w : DEnv → Store → (List D → Store → Prop) → Prop) : TA := fun σ H Q => ∃ env S β, Sim K ca R env S β σ H ∧ w env S (HL K ca β H Q)
/-- a call's reading -/
def HE (β : List Addr) (H : Hp) (E : XK) : EQ := fun er S' => ∀ β' cls d H', HSim K ca S' β' H' → Gr K β H β' H' → RErr K ca er cls d H' β' → E cls d H'
def LSp (sp : DSp) : Sp := fun vs H Q E => ∃ S β ds, HSim K ca S β H ∧ RDs K ca H β ds vs ∧ callC sp ds S (HQ K ca β H Q) (HE K ca β H E)
def XLift (C : SC) (W : WX) : Prop := ∀ er env S β σ H cls d, C.xq er env S → Sim K ca R env S β σ H → RErr K ca er cls d H β → W cls d σ H
end
theorem HL.step {K : PySem.W.Frag} {ca : Nat → Addr} {β β' : List Addr} {H H' : Hp} {Q : List V → Hp → Prop} (g : Gr K β H β' H') {ds : List D} {S : Store} (h : HL K ca β H Q ds S) : HL K ca β' H' Q ds S := fun β2 v H2 s g2 r => h β2 v H2 s (g.trans g2) r
theorem HB.step {K : PySem.W.Frag} {ca : Nat → Addr} {β β' : List Addr} {H H' : Hp} {Q : Bool → Hp → Prop} (g : Gr K β H β' H') {d : D} {S : Store} (h : HB K ca β H Q d S) : HB K ca β' H' Q d S := by
  unfold HB at h ⊢
  exact onO_mono (fun k h β2 H2 s g2 => h β2 H2 s (g.trans g2)) h
theorem PE.imp {X : Cx} {e : Expr} {t t' : TE} (h : PE X e t) (w : ∀ σ H Q, t' σ H Q → t σ H Q) : PE X e t' := ⟨fun pins s σ H Q I q => h.run pins s σ H Q I (w _ _ _ q)⟩
theorem PT.imp {X : Cx} {e : Expr} {t t' : TT} (h : PT X e t) (w : ∀ σ H Q, t' σ H Q → t σ H Q) : PT X e t' := ⟨fun pins s σ H Q I q => h.run pins s σ H Q I (w _ _ _ q)⟩
theorem PW.imp {X : Cx} {e : Expr} {t t' : TT} (h : PW X e t) (w : ∀ σ H Q, t' σ H Q → t σ H Q) : PW X e t' := ⟨fun wh pins s σ H Q I q => h.run wh pins s σ H Q I (w _ _ _ q)⟩
theorem PA.imp {X : Cx} {e : List Expr} {t t' : TA} (h : PA X e t) (w : ∀ σ H Q, t' σ H Q → t σ H Q) : PA X e t' := ⟨fun pos pins s σ H Q I q => h.run pos pins s σ H Q I (w _ _ _ q)⟩
theorem PS.imp {X : Cx} {e : Stmt} {t t' : TS} (h : PS X e t) (w : ∀ D σ H, t' D σ H → t D σ H) : PS X e t' := ⟨fun pins s σ H Q I q => h.run pins s σ H Q I (w _ _ _ q)⟩
theorem PSs.imp {X : Cx} {e : List Stmt} {t t' : TS} (h : PSs X e t) (w : ∀ D σ H, t' D σ H → t D σ H) : PSs X e t' := ⟨fun pins s σ H Q I q => h.run pins s σ H Q I (w _ _ _ q)⟩
theorem PG.imp {X : Cx} {e : Expr} {t t' : TG} (h : PG X e t) (w : ∀ v σ H Q, t' v σ H Q → t v σ H Q) : PG X e t' := ⟨fun pins s σ H v u Q I r q => h.run pins s σ H v u Q I r (w _ _ _ _ q)⟩
theorem PI.imp {X : Cx} {g e : Expr} {t t' : TI} (h : PI X g e t) (w : ∀ σ H Q, t' σ H Q → t σ H Q) : PI X g e t' := ⟨fun pins s σ H R I q => h.run pins s σ H R I (w _ _ _ q)⟩
theorem PG.or {X : Cx} {e : Expr} {t t' : TG} (h : PG X e t) (h' : PG X e t') : PG X e (fun v σ H Q => t v σ H Q ∨ t' v σ H Q) :=
  ⟨fun pins s σ H v u Q I r q => q.elim (fun q => h.run pins s σ H v u Q I r q) fun q => h'.run pins s σ H v u Q I r q⟩
/-! ### what a frame's context must be -/
def GOk (ca : Nat → Addr) (X : Cx) (x : Str) : GK → Prop
  | .fn _ => True
  | .ty n => X.mg x = none ∧ bootBuiltins x = some (.type n)
  | .bi .gcd => X.mg x = some (.builtin "math.gcd")
  | .bi .lcm => X.mg x = some (.builtin "math.lcm")
  | .bi b => X.mg x = none ∧ bootBuiltins x = some (biV b)
  | .cst d => ∃ (u : Value) (v : V), X.mg x = some u ∧ RelV v u ∧ ∀ H β, RD X.K ca H β d v
  | .cls c => X.mg x = some (.ref (ca c))
  | .exc c _ => X.mg x = some (.ref (ca c))
  | .xty _ n => X.mg x = none ∧ bootBuiltins x = some (.type n)
  | .rng => X.mg x = none ∧ x = "range"
  | .enum => X.mg x = none ∧ x = "enumerate"
  | .rvs => X.mg x = none ∧ x = "reversed"
  | .mts _ => True
  | .new c _ => X.mg x = some (.ref (ca c))
  | .obj c => X.mg x = some (.ref (ca c))
def FOk (ca : Nat → Addr) (X : Cx) (C : SC) (i : Nat) (x : Str) : Prop := ∃ (a : Addr) (k : Nat), X.mg x = some (.ref a) ∧ PySem.W.keepIn X.K (.ref a) = true ∧ Room k X.A ∧ FnR X.prog X.w X.K X.mg X.base (L2.CX X.prog X.w) k a (LSp X.K ca (C.sp i))
/-- a method of the class k; a class that is made -/
def MOk (ca : Nat → Addr) (X : Cx) (C : SC) (i k : Nat) (m : Str) : Prop := Cls X.K (ca k) ∧ ∃ (a : Addr) (l : Nat), Meth X.K (ca k) m a ∧ Room l X.A ∧ FnR X.prog X.w X.K X.mg X.base (L2.CX X.prog X.w) l a (LSp X.K ca (C.sp i))
def NOk (ca : Nat → Addr) (X : Cx) (C : SC) (i k : Nat) : Prop := ∃ (a : Addr) (l : Nat), Mk X.K (ca k) a ∧ Room (l + 1) X.A ∧ FnR X.prog X.w X.K X.mg X.base (L2.CX X.prog X.w) l a (LSp X.K ca (C.sp i))
/-- a class of exceptions with the fields fs is made -/
def ROk (ca : Nat → Addr) (X : Cx) (x : Str) (c : Nat) (fs : List Str) : Prop := ∀ (e : Expr) (es : List Expr) (ta : TA) (p pos : Pos), Gl X x → PA X (e :: es) ta → starEach (e :: es) X.env = (false, eval e X.env) :: starEach es X.env →
  (backTo pos (starEach es X.env)).any (·.1) = false → PMk X (.Call (.Name x p) (e :: es) [] pos) (fun σ H Q => ta σ H fun vs H1 => vs.length = fs.length ∧ ∀ d fv, H1 d = none → (∀ f, fv.lookup f = (fs.zip vs).lookup f) → Q (.ref (ca c)) (some d) (upd H1 d (.xd fv)))
/-- the class that a name means -/
def GK.cv (ca : Nat → Addr) : GK → Value
  | .cls c => .ref (ca c)
  | .exc c _ => .ref (ca c)
  | .xty _ n => .type n
  | .new c _ => .ref (ca c)
  | _ => .none
def GK.vv (ca : Nat → Addr) : GK → V
  | .cls c => .ref (ca c)
  | .exc c _ => .ref (ca c)
  | .xty _ n => .ty n
  | .new c _ => .ref (ca c)
  | _ => .non
/-- so that isinstance asks its instances rightly -/
structure KXC (K : PySem.W.Frag) (D : Addr) : Prop where
  ha : PySem.W.findIn K (.ref D) "__class__" = some (some (.builtin "object.__class__"))
  hn : PySem.W.specialIn K (.builtin "object.__class__") "__get__" = some (some (.builtin "getset_descriptor.__get__"))
  ht : PySem.W.takesIn K (.builtin "object.__class__") = some true
  hm : PySem.W.mroIn K D (.type "object") = some true
/-- what is known of a class of exceptions -/
structure KOk (ca : Nat → Addr) (X : Cx) (c : Ctx) (C : SC) (k : Nat) (fs : List Str) : Prop where
  xf : XfC X.K (ca k)
  kx : KXC X.K (ca k)
  no : ∀ f ∈ fs, PySem.W.findIn X.K (.ref (ca k)) f = some none
  ex : ∀ (x : Str) (g : GK) (j : Nat), c.gl.lookup x = some g → g.cid = some j → PySem.W.exmOne X.K (.ref (ca k)) (g.cv ca) = some (C.sub k j)
  is : ∀ (x : Str) (g : GK) (j : Nat), c.gl.lookup x = some g → g.cid = some j → PySem.W.kitOne X.K (.ref (ca k)) (g.cv ca) = some (C.sub k j)
structure XOk (ca : Nat → Addr) (R : Root) (X : Cx) (c : Ctx) (C : SC) : Prop where
  N : X.N = c.N
  nd : c.N.Nodup
  sc : X.env.scope = c.sc
  calm : c.calm = true → X.calm = true
  fn : c.fn = true → ∀ x, X.fn x = true
  un : X.A.units + 65 < cLine
  gl : ∀ x g, c.gl.lookup x = some g → GOk ca X x g
  fs : c.calm = true → ∀ x i, c.gl.lookup x = some (.fn i) → FOk ca X C i x
  ms : c.calm = true → ∀ t, c.gl.lookup (".": Str) = some (.mts t) → ∀ m k i, (m, k, i) ∈ t → MOk ca X C i k m
  nw : c.calm = true → ∀ x k i, c.gl.lookup x = some (.new k i) → NOk ca X C i k
  cn : ∀ k f d, C.con k f = some d → Cls X.K (ca k) ∧ ∃ v u, Con X.K (ca k) f v u ∧ ∀ H β, RD X.K ca H β d v
  na : ∀ k f, C.noA k f = true → Cls X.K (ca k) ∧ NoAttr X.K (ca k) f
  rs : c.top = true → ∀ (pn : List (Addr × Obj)) (xe : Value → Shared → Prop) (x : Str) (k : Nat) (fs : List Str), c.gl.lookup x = some (.exc k fs) → ROk ca (X.tr pn xe) x k fs
  ks : c.top = true → ∀ (k : Nat) (fs : List Str), C.kn k fs = true → KOk ca X c C k fs
  po : PassesOwn (model X.prog X.w) X.A X.env X.xe
  tk : ∃ W, Takes X W ∧ XLift X.K ca R C W
  top : c.top = true → X.stack = X.env :: X.outer ∧ X.env.frame = some X.env.locals
  exs : ∀ ei, R.exn = some ei → ∀ i, ei.slot = some i → ∃ n, c.exn = some n ∧ c.N[i]? = some n
  exn : ∀ n, c.exn = some n → ∃ (X0 : Cx) (c0 : Ctx) (a : Addr) (oe : Obj) (pn : List (Addr × Obj)) (cls : Value) (d : Option Addr) (er : Err) (i : Nat), X = X0.suite a ((a, oe) :: pn) ∧ Zc cls d oe ∧ (∃ vs, oe.data = .fields vs) ∧ R.exn = some ⟨some i, a, cls, d, er⟩ ∧
    C.exn = some er ∧ c.N[i]? = some n ∧ kindL c n = some .local ∧ c0.gl = c.gl ∧ KOk ca X0 c0 C er.cls (er.fs.map (·.1))
theorem ixOf_get {x : Str} : ∀ {N : List Str} {j i : Nat}, ixOf x N j = some i → j ≤ i ∧ N[i - j]? = some x
  | [], _, _, h => by cases h
  | y :: r, j, i, h => by
    unfold ixOf at h
    split at h
    · rename_i e
      cases h
      refine ⟨Nat.le_refl _, ?_⟩
      rw [Nat.sub_self]
      have e2 : x = y := by simpa using e
      rw [e2]
      rfl
    · obtain ⟨h1, h2⟩ := ixOf_get h
      refine ⟨by omega, ?_⟩
      have e : i - j = (i - (j + 1)) + 1 := by omega
      rw [e]
      exact h2
theorem ixOf_at {x : Str} {N : List Str} {i : Nat} (h : ixOf x N 0 = some i) : N[i]? = some x := (ixOf_get h).2
section
variable {ca : Nat → Addr} {R : Root} {X : Cx} {c : Ctx} {C : SC}
theorem XOk.slot (o : XOk ca R X c C) {x : Str} {i : Nat} (h : slotOf c x = some i) : X.N[i]? = some x ∧ Vis X.env.scope x := by
  have e := o.sc
  unfold slotOf kindL at h
  rw [← e] at h
  unfold Vis
  split at h
  · rename_i hk; exact ⟨by rw [o.N]; exact ixOf_at h, .inl hk⟩
  · rename_i hk; exact ⟨by rw [o.N]; exact ixOf_at h, .inr (.inl hk)⟩
  · rename_i hk; exact ⟨by rw [o.N]; exact ixOf_at h, .inr (.inr hk)⟩
  · cases h
theorem XOk.glob (o : XOk ca R X c C) {x : Str} {g : GK} (h : globOf c x = some g) : Gl X x ∧ (x == ("__debug__" : Str)) = false ∧ x ≠ "__name__" ∧ c.gl.lookup x = some g := by
  have e := o.sc
  unfold globOf kindL at h
  rw [← e] at h
  split at h
  · rename_i hk
    split at h
    · cases h
    · rename_i hn
      have hn' : (x == ("__debug__" : Str) || x == ("__name__" : Str)) = false := by simpa using hn
      obtain ⟨h1, h2⟩ := Bool.or_eq_false_iff.mp hn'
      exact ⟨hk, h1, by simpa using h2, h⟩
  · cases h
theorem XOk.wr (o : XOk ca R X c C) {x : Str} (h : (kindL c x == some .local || (c.fn && kindL c x == some .cell)) = true) : L2.Loc X.env.scope x ∧ (X.fn x = true ∨ X.env.scope.names.lookup x = some .local) := by
  have e := o.sc
  unfold kindL at h
  rw [← e] at h
  unfold L2.Loc
  rcases Bool.or_eq_true_iff.mp h with h | h
  · have h' : X.env.scope.names.lookup x = some .local := by simpa using h
    exact ⟨.inl h', .inr h'⟩
  · obtain ⟨h1, h2⟩ := Bool.and_eq_true_iff.mp h
    have h' : X.env.scope.names.lookup x = some .cell := by simpa using h2
    exact ⟨.inr h', .inl (o.fn h1 x)⟩
theorem XOk.noex (o : XOk ca R X c C) {x : Str} {i : Nat} (hi : c.N[i]? = some x) (h : (c.exn == some x) = false) : ∀ e, R.exn = some e → e.slot ≠ some i := by
  intro e he hs
  obtain ⟨n, h1, h2⟩ := o.exs e he i hs
  rw [hi] at h2
  cases h2
  rw [h1] at h
  simp at h
/-! ### targets -/
def LG (K : PySem.W.Frag) (ca : Nat → Addr) (R : Root) (P : Nat → Prop) (w : D → DEnv → Store → (DEnv → Store → Prop) → Prop) : TG := fun v σ H Q => ∃ env S β d, Sim K ca R env S β σ H ∧ RD K ca H β d v ∧
  w d env S fun env' S' => ∀ β' σ' H', Sim K ca R env' S' β' σ' H' → Gr K β H β' H' → σ'.length = σ.length → (∀ i, ¬ P i → σ'[i]? = σ[i]?) → Q σ' H'
def LGs (K : PySem.W.Frag) (ca : Nat → Addr) (R : Root) (P : Nat → Prop) (w : List D → DEnv → Store → (DEnv → Store → Prop) → Prop) : TGs := fun vs σ H Q => ∃ env S β ds, Sim K ca R env S β σ H ∧ RDs K ca H β ds vs ∧
  w ds env S fun env' S' => ∀ β' σ' H', Sim K ca R env' S' β' σ' H' → Gr K β H β' H' → σ'.length = σ.length → (∀ i, ¬ P i → σ'[i]? = σ[i]?) → Q σ' H'
mutual
/-- the slots that a target stores -/
def inT (P : Nat → Prop) : DT → Prop
  | .nm i => P i
  | .tp ts => inTs P ts
  | .sub _ _ => True
def inTs (P : Nat → Prop) : DTs → Prop
  | .nil => True
  | .cons t ts => inT P t ∧ inTs P ts
end
mutual
theorem inT_true : ∀ t, inT (fun _ => True) t
  | .nm i => trivial
  | .tp ts => inTs_true ts
  | .sub _ _ => trivial
theorem inTs_true : ∀ ts, inTs (fun _ => True) ts
  | .nil => trivial
  | .cons t ts => ⟨inT_true t, inTs_true ts⟩
end
theorem wpT_m (C : SC) (t : DT) (d : D) (env : DEnv) (S : Store) (K K' : DEnv → Store → Prop) (h : ∀ e S, K e S → K' e S) (q : wpT C t d env S K) : wpT C t d env S K' := wpT_mono C C.xq (fun _ _ _ z => z) t d env S K K' h q
theorem wpTs_m (C : SC) (t : DTs) (d : List D) (env : DEnv) (S : Store) (K K' : DEnv → Store → Prop) (h : ∀ e S, K e S → K' e S) (q : wpTs C t d env S K) : wpTs C t d env S K' := wpTs_mono C C.xq (fun _ _ _ z => z) t d env S K K' h q
theorem wpE_m (C : SC) (t : DE) (env : DEnv) (S : Store) (K K' : DQ) (h : ∀ e S, K e S → K' e S) (q : wpE C t env S K) : wpE C t env S K' := wpE_mono C C.xq (fun _ _ _ z => z) t env S K K' h q
theorem wpO_m (C : SC) (t : DO) (env : DEnv) (S : Store) (K K' : Option D → Store → Prop) (h : ∀ e S, K e S → K' e S) (q : wpO C t env S K) : wpO C t env S K' := wpO_mono C C.xq (fun _ _ _ z => z) t env S K K' h q
theorem wpEs_m (C : SC) (t : DEs) (env : DEnv) (S : Store) (K K' : List D → Store → Prop) (h : ∀ e S, K e S → K' e S) (q : wpEs C t env S K) : wpEs C t env S K' := wpEs_mono C C.xq (fun _ _ _ z => z) t env S K K' h q
theorem wpI_m (C : SC) (t : DI) (env : DEnv) (S : Store) (K K' : Src → List D → Store → Prop) (h : ∀ s e S, K s e S → K' s e S) (q : wpI C t env S K) : wpI C t env S K' := wpI_mono C C.xq (fun _ _ _ z => z) t env S K K' h q
theorem assignEach_len (env : Env) : ∀ (es : List Expr), (assignEach es env).length = es.length
  | [] => rfl
  | e :: r => by
    cases e <;> (unfold assignEach; rw [List.length_cons, List.length_cons, assignEach_len env r])
theorem assignEach_cons {env : Env} {e : Expr} {es : List Expr} (h : plainE e = true) : assignEach (e :: es) env = (false, assign e env) :: assignEach es env := by
  cases e <;> first
    | rfl
    | cases h
theorem starEach_cons {env : Env} {e : Expr} {es : List Expr} (h : plainE e = true) : starEach (e :: es) env = (false, eval e env) :: starEach es env := by
  cases e <;> first
    | rfl
    | cases h
theorem compGs_plain {f : Expr → Option DT} {env : Env} : ∀ {es : List Expr} {ts : DTs}, compGs f es = some ts → (assignEach es env).findIdx? (·.1) = none
  | [], _, _ => rfl
  | e :: es, ts, h => by
    unfold compGs at h
    split at h
    · rename_i hp
      split at h
      · rename_i x xs e1 e2
        rw [assignEach_cons hp]
        have ih := compGs_plain (env := env) e2
        rw [List.findIdx?_cons]
        simp [ih]
      · cases h
    · cases h
theorem compGs_len {f : Expr → Option DT} : ∀ {es : List Expr} {ts : DTs}, compGs f es = some ts → ts.len = es.length
  | [], ts, h => by cases h; rfl
  | e :: es, ts, h => by
    unfold compGs at h
    split at h
    · split at h
      · rename_i x xs e1 e2
        cases h
        rw [List.length_cons, ← compGs_len e2]
        rfl
      · cases h
    · cases h
theorem PGs.imp {X : Cx} {e : List Expr} {t t' : TGs} (h : PGs X e t) (w : ∀ v σ H Q, t' v σ H Q → t v σ H Q) : PGs X e t' := ⟨fun pins s σ H v u Q I r q => h.run pins s σ H v u Q I r (w _ _ _ _ q)⟩
theorem sNs {P : Nat → Prop} {f : Expr → Option DT} (hf : ∀ e t, f e = some t → inT P t → PG X e (LG X.K ca R P (wpT C t))) : ∀ (es : List Expr) (ts : DTs), compGs f es = some ts → inTs P ts → PGs X es (LGs X.K ca R P (wpTs C ts))
  | [], ts, h, _ => by
    cases h
    refine PGs.imp pgs_nil fun vs σ H Q q => ?_
    obtain ⟨env, S, β, ds, s, r, q⟩ := q
    cases ds with
    | nil =>
      cases r
      unfold wpTs at q
      exact ⟨rfl, q _ _ _ s Gr.refl rfl fun _ _ => rfl⟩
    | cons d ds => unfold wpTs at q; exact q.elim
  | e :: es, ts, h, hp2 => by
    unfold compGs at h
    split at h
    · rename_i hp
      split at h
      · rename_i x xs e1 e2
        cases h
        refine PGs.imp (pgs_cons (hf _ _ e1 hp2.1) (sNs hf es _ e2 hp2.2) (by rw [assignEach_cons hp]; rfl)) fun vs σ H Q q => ?_
        obtain ⟨env, S, β, ds, s, r, q⟩ := q
        cases ds with
        | nil => unfold wpTs at q; exact q.elim
        | cons d ds =>
          cases r with
          | cons r1 r2 =>
            unfold wpTs at q
            refine ⟨_, _, rfl, env, S, β, d, s, r1, wpT_m _ _ _ _ _ _ _ (fun env1 S1 q β1 σ1 H1 s1 g1 l1 k1 => ?_) q⟩
            exact ⟨env1, S1, β1, ds, s1, r2.grow g1, wpTs_m _ _ _ _ _ _ _ (fun e2 S2 q β2 σ2 H2 s2 g2 l2 k2 => q _ _ _ s2 (g1.trans g2) (l2.trans l1) fun i hi => (k2 i hi).trans (k1 i hi)) q⟩
      · cases h
    · cases h
theorem sN {P : Nat → Prop} (o : XOk ca R X c C) : ∀ (n : Nat) (e : Expr) (t : DT), compN n c e = some t → inT P t → PG X e (LG X.K ca R P (wpT C t))
  | 0, e, t, h, _ => by cases h
  | n + 1, e, t, h, hp => by
    unfold compN at h
    split at h
    · split at h
      · rename_i hk
        split at h
        · cases h
        · rename_i hne
          obtain ⟨i, hi, rfl⟩ := Option.map_eq_some_iff.mp h
          have hi' := ixOf_at hi
          obtain ⟨h1, h2⟩ := o.wr hk
          refine PG.imp (pg_name (by rw [o.N]; exact o.nd) (by rw [o.N]; exact hi') h1 h2) fun v σ H Q q => ?_
          obtain ⟨env, S, β, d, s, r, q⟩ := q
          unfold wpT at q
          refine q _ _ _ (s.set r (o.noex hi' (by simpa using hne))) Gr.refl (List.length_set ..) fun j hj => List.getElem?_set_ne ?_
          rintro rfl
          exact hj hp
      · cases h
    · split at h
      · rename_i hc
        obtain ⟨ts, hts, rfl⟩ := Option.map_eq_some_iff.mp h
        have hg := sNs (X := X) (ca := ca) (R := R) (C := C) (fun e t => sN (P := P) o n e t) _ _ hts hp
        have hl := compGs_len hts
        refine PG.imp (PG.or (pg_tup (o.calm hc) hg rfl (compGs_plain hts)) (pg_lst (o.calm hc) hg rfl (compGs_plain hts))) fun v σ H Q q => ?_
        obtain ⟨env, S, β, d, s, r, q⟩ := q
        unfold wpT at q
        obtain ⟨xs, e, hlen, q⟩ := onO_some q
        obtain ⟨a, vs, rfl, hq, hr⟩ := seq_of s.h e r
        have hl2 : ∀ es : List Expr, ts.len = es.length → vs.length = (assignEach es X.env).length := fun es h => by rw [assignEach_len, ← h, ← hlen, hr.length]
        rcases hq with hq | hq
        · exact .inr ⟨a, vs, rfl, hq, hl2 _ hl, env, S, β, xs, s, hr, q⟩
        · exact .inl ⟨a, vs, rfl, hq, hl2 _ hl, env, S, β, xs, s, hr, q⟩
      · cases h
    · cases h
end
end PD

set_option Elab.async false
set_option linter.all false
set_option maxRecDepth 100000
set_option maxHeartbeats 4000000
namespace PD
open PySem PySem.Spec PyProof.Rows L2
theorem opB_inv {p : Operator} {o : BO} (h : opB p = some o) : p = boP o := by
  cases p <;> cases h <;> rfl
theorem opC_inv (o : CmpOp) : coP (opC o) = o := by cases o <;> rfl
theorem noIf_down : ∀ (n : Nat) (e : Expr), noIf (n + 1) e = true → noIf n e = true
  | 0, e, h => by unfold noIf; rfl
  | n + 1, e, h => by
    cases e with
    | IfExp a b c p => cases h
    | UnaryOp op a p =>
      cases op with
      | Not => exact noIf_down n a h
      | _ => rfl
    | BoolOp op es p => exact List.all_eq_true.mpr fun x hx => noIf_down n x (List.all_eq_true.mp h x hx)
    | _ => rfl
section
variable {ca : Nat → Addr} {R : Root} {X : Cx} {c : Ctx} {C : SC} {a b e : Expr} {da db dc : DE} {pos : Pos}
theorem e_bin {o : BO} (ha : PE X a (LE X.K ca R (wpE C da))) (hb : PE X b (LE X.K ca R (wpE C db))) : PE X (.BinOp a (boP o) b pos) (LE X.K ca R (wpE C (.bin o da db))) := by
  refine PE.imp (pe_op (op_bin (ca := ca) o) ha hb) fun σ H Q ⟨env, S, β, s, h⟩ => ?_
  unfold wpE at h
  refine ⟨env, S, β, s, wpE_m _ _ _ _ _ _ (fun x S1 h β1 v H1 s1 g1 r1 => ?_) h⟩
  refine ⟨env, S1, β1, s.grow s1 g1, wpE_m _ _ _ _ _ _ (fun y S2 h β2 u H2 s2 g2 r2 => ?_) h⟩
  exact ⟨S2, β2, x, y, s2, r1.grow g2, r2, wpBin_mono (fun _ _ z => z.step (g1.trans g2)) h⟩
theorem e_cmp (hu : X.A.units + 65 < cLine) {o : CmpOp} (ha : PE X a (LE X.K ca R (wpE C da))) (hb : PE X b (LE X.K ca R (wpE C db))) (hm : behindInMarks o b = false) : PE X (.Compare a [o] [b] pos) (LE X.K ca R (wpE C (.cmp (opC o) da db))) := by
  have ho : OpR X (compareOp o) (rCmp X.K ca (opC o)) := by
    have := op_cmp (X := X) (ca := ca) hu (opC o)
    rw [opC_inv] at this
    exact this
  refine PE.imp (pe_cmpR ho ha hb hm) fun σ H Q ⟨env, S, β, s, h⟩ => ?_
  unfold wpE at h
  refine ⟨env, S, β, s, wpE_m _ _ _ _ _ _ (fun x S1 h β1 v H1 s1 g1 r1 => ?_) h⟩
  refine ⟨env, S1, β1, s.grow s1 g1, wpE_m _ _ _ _ _ _ (fun y S2 h β2 u H2 s2 g2 r2 => ?_) h⟩
  obtain ⟨k, hk, q⟩ := onO_some h
  exact ⟨S2, β2, x, y, k, s2, r1.grow g2, r2, hk, (q.step (g1.trans g2)).now s2 (.bl k)⟩
theorem t_cmp (hu : X.A.units + 65 < cLine) {o : CmpOp} (ha : PE X a (LE X.K ca R (wpE C da))) (hb : PE X b (LE X.K ca R (wpE C db))) (hm : behindInMarks o b = false) : PT X (.Compare a [o] [b] pos) (LT X.K ca R (wpE C (.cmp (opC o) da db))) := by
  have ho : OpR X (compareOp o) (rCmp X.K ca (opC o)) := by
    have := op_cmp (X := X) (ca := ca) hu (opC o)
    rw [opC_inv] at this
    exact this
  refine PT.imp (pt_cmpR ho ha hb hm) fun σ H Q ⟨env, S, β, s, h⟩ => ?_
  unfold wpE at h
  refine ⟨env, S, β, s, wpE_m _ _ _ _ _ _ (fun x S1 h β1 v H1 s1 g1 r1 => ?_) h⟩
  refine ⟨env, S1, β1, s.grow s1 g1, wpE_m _ _ _ _ _ _ (fun y S2 h β2 u H2 s2 g2 r2 => ?_) h⟩
  obtain ⟨k, hk, q⟩ := onO_some h
  exact ⟨S2, β2, x, y, k, s2, r1.grow g2, r2, hk, k, rfl, q β2 H2 s2 (g1.trans g2)⟩
theorem e_chn (hu : X.A.units + 65 < cLine) {o p : CmpOp} {e : Expr} (ha : PE X a (LE X.K ca R (wpE C da))) (hb : PE X b (LE X.K ca R (wpE C db))) (hc : PE X e (LE X.K ca R (wpE C dc))) (hm : lastMarks [o, p] [b, e] = false) :
    PE X (.Compare a [o, p] [b, e] pos) (LE X.K ca R (wpE C (.chn (opC o) (opC p) da db dc))) := by
  have ho : ∀ o, OpR X (compareOp o) (rCmp X.K ca (opC o)) := fun o => by
    have := op_cmp (X := X) (ca := ca) hu (opC o)
    rw [opC_inv] at this
    exact this
  refine PE.imp (pe_chain (ho o) (ho p) ha hb hc hm) fun σ H Q ⟨env, S, β, s, h⟩ => ?_
  unfold wpE at h
  refine ⟨env, S, β, s, wpE_m _ _ _ _ _ _ (fun x S1 h β1 v H1 s1 g1 r1 => ?_) h⟩
  refine ⟨env, S1, β1, s.grow s1 g1, wpE_m _ _ _ _ _ _ (fun y S2 h β2 u H2 s2 g2 r2 => ?_) h⟩
  obtain ⟨k, hk, q⟩ := onO_some h
  refine ⟨S2, β2, x, y, k, s2, r1.grow g2, r2, hk, k, rfl, ?_⟩
  by_cases hk : k = true
  · rw [if_pos hk] at q ⊢
    refine ⟨env, S2, β2, (s.grow s1 g1).grow s2 g2, wpE_m _ _ _ _ _ _ (fun z S3 h β3 w H3 s3 g3 r3 => ?_) q⟩
    obtain ⟨l, hl, q⟩ := onO_some h
    exact ⟨S3, β3, y, z, l, s3, r2.grow g3, r3, hl, (q.step ((g1.trans g2).trans g3)).now s3 (.bl l)⟩
  · rw [if_neg hk] at q ⊢
    exact (q.step (g1.trans g2)).now s2 (.bl false)
theorem t_chn (hu : X.A.units + 65 < cLine) {o p : CmpOp} {e : Expr} (ha : PE X a (LE X.K ca R (wpE C da))) (hb : PE X b (LE X.K ca R (wpE C db))) (hc : PE X e (LE X.K ca R (wpE C dc))) (hm : lastMarks [o, p] [b, e] = false) :
    PT X (.Compare a [o, p] [b, e] pos) (LT X.K ca R (wpE C (.chn (opC o) (opC p) da db dc))) := by
  have ho : ∀ o, OpR X (compareOp o) (rCmp X.K ca (opC o)) := fun o => by
    have := op_cmp (X := X) (ca := ca) hu (opC o)
    rw [opC_inv] at this
    exact this
  refine PT.imp (pt_chain (ho o) (ho p) ha hb hc hm) fun σ H Q ⟨env, S, β, s, h⟩ => ?_
  unfold wpE at h
  refine ⟨env, S, β, s, wpE_m _ _ _ _ _ _ (fun x S1 h β1 v H1 s1 g1 r1 => ?_) h⟩
  refine ⟨env, S1, β1, s.grow s1 g1, wpE_m _ _ _ _ _ _ (fun y S2 h β2 u H2 s2 g2 r2 => ?_) h⟩
  obtain ⟨k, hk, q⟩ := onO_some h
  refine ⟨S2, β2, x, y, k, s2, r1.grow g2, r2, hk, k, rfl, ?_⟩
  by_cases hk : k = true
  · rw [if_pos hk] at q ⊢
    refine ⟨env, S2, β2, (s.grow s1 g1).grow s2 g2, wpE_m _ _ _ _ _ _ (fun z S3 h β3 w H3 s3 g3 r3 => ?_) q⟩
    obtain ⟨l, hl, q⟩ := onO_some h
    exact ⟨S3, β3, y, z, l, s3, r2.grow g3, r3, hl, l, rfl, q β3 H3 s3 ((g1.trans g2).trans g3)⟩
  · rw [if_neg hk] at q ⊢
    exact ⟨false, rfl, q β2 H2 s2 (g1.trans g2)⟩
theorem e_neg (ha : PE X a (LE X.K ca R (wpE C da))) : PE X (.UnaryOp .USub a pos) (LE X.K ca R (wpE C (.neg da))) := by
  refine PE.imp (pe_un un_neg ha) fun σ H Q ⟨env, S, β, s, h⟩ => ?_
  unfold wpE at h
  refine ⟨env, S, β, s, wpE_m _ _ _ _ _ _ (fun x S1 h β1 v H1 s1 g1 r1 => ?_) h⟩
  split at h
  · cases r1
    exact ⟨_, rfl, (h.step g1).now s1 (.int _)⟩
  · exact h.elim
theorem e_not (ha : PE X a (LE X.K ca R (wpE C da))) : PE X (.UnaryOp .Not a pos) (LE X.K ca R (wpE C (.not da))) := by
  refine PE.imp (pe_notT ha) fun σ H Q ⟨env, S, β, s, h⟩ => ?_
  unfold wpE at h
  refine ⟨env, S, β, s, wpE_m _ _ _ _ _ _ (fun x S1 h β1 v H1 s1 g1 r1 => ?_) h⟩
  obtain ⟨k, hk, q⟩ := onO_some h
  exact ⟨k, truth_v s1 hk r1, (q.step g1).now s1 (.bl _)⟩
theorem t_not (ha : PT X a (LT X.K ca R (wpE C da))) : PT X (.UnaryOp .Not a pos) (LT X.K ca R (wpE C (.not da))) := by
  refine PT.imp (pt_not ha) fun σ H Q ⟨env, S, β, s, h⟩ => ?_
  unfold wpE at h
  refine ⟨env, S, β, s, wpE_m _ _ _ _ _ _ (fun x S1 h => ?_) h⟩
  unfold HB
  exact onO_mono (fun k q => q) h
theorem e_and {r : List Expr} (ha : PE X a (LE X.K ca R (wpE C da))) (hb : PE X (.BoolOp .And (b :: r) pos) (LE X.K ca R (wpE C db))) : PE X (.BoolOp .And (a :: b :: r) pos) (LE X.K ca R (wpE C (.and da db))) := by
  refine PE.imp (pe_andT ha hb) fun σ H Q ⟨env, S, β, s, h⟩ => ?_
  unfold wpE at h
  refine ⟨env, S, β, s, wpE_m _ _ _ _ _ _ (fun x S1 h β1 v H1 s1 g1 r1 => ?_) h⟩
  obtain ⟨k, hk, q⟩ := onO_some h
  refine ⟨k, truth_v s1 hk r1, ?_⟩
  by_cases hk : k = true
  · rw [if_pos hk] at q ⊢
    exact ⟨env, S1, β1, s.grow s1 g1, wpE_m _ _ _ _ _ _ (fun y S2 h => h.step g1) q⟩
  · rw [if_neg hk] at q ⊢
    exact (q.step g1).now s1 r1
theorem e_or {r : List Expr} (ha : PE X a (LE X.K ca R (wpE C da))) (hb : PE X (.BoolOp .Or (b :: r) pos) (LE X.K ca R (wpE C db))) : PE X (.BoolOp .Or (a :: b :: r) pos) (LE X.K ca R (wpE C (.or da db))) := by
  refine PE.imp (pe_orT ha hb) fun σ H Q ⟨env, S, β, s, h⟩ => ?_
  unfold wpE at h
  refine ⟨env, S, β, s, wpE_m _ _ _ _ _ _ (fun x S1 h β1 v H1 s1 g1 r1 => ?_) h⟩
  obtain ⟨k, hk, q⟩ := onO_some h
  refine ⟨k, truth_v s1 hk r1, ?_⟩
  by_cases hk : k = true
  · rw [if_pos hk] at q ⊢
    exact (q.step g1).now s1 r1
  · rw [if_neg hk] at q ⊢
    exact ⟨env, S1, β1, s.grow s1 g1, wpE_m _ _ _ _ _ _ (fun y S2 h => h.step g1) q⟩
theorem w_and {r : List Expr} (ha : PT X a (LT X.K ca R (wpE C da))) (hb : PW X (.BoolOp .And (b :: r) pos) (LT X.K ca R (wpE C db))) : PW X (.BoolOp .And (a :: b :: r) pos) (LT X.K ca R (wpE C (.and da db))) := by
  refine PW.imp (pw_and ha hb) fun σ H Q ⟨env, S, β, s, h⟩ => ?_
  unfold wpE at h
  refine ⟨env, S, β, s, wpE_m _ _ _ _ _ _ (fun x S1 h => ?_) h⟩
  obtain ⟨k, hk, q⟩ := onO_some h
  unfold HB
  rw [hk]
  intro β1 H1 s1 g1
  cases k with
  | true =>
    rw [if_pos rfl] at q
    rw [if_pos rfl]
    exact ⟨env, S1, β1, s.grow s1 g1, wpE_m _ _ _ _ _ _ (fun y S2 h => h.step g1) q⟩
  | false =>
    rw [if_neg (by decide)] at q
    rw [if_neg (by decide)]
    unfold HB at q
    rw [hk] at q
    exact q β1 H1 s1 g1
theorem w_or {r : List Expr} (ha : PT X a (LT X.K ca R (wpE C da))) (hb : PW X (.BoolOp .Or (b :: r) pos) (LT X.K ca R (wpE C db))) : PW X (.BoolOp .Or (a :: b :: r) pos) (LT X.K ca R (wpE C (.or da db))) := by
  refine PW.imp (pw_or ha hb) fun σ H Q ⟨env, S, β, s, h⟩ => ?_
  unfold wpE at h
  refine ⟨env, S, β, s, wpE_m _ _ _ _ _ _ (fun x S1 h => ?_) h⟩
  obtain ⟨k, hk, q⟩ := onO_some h
  unfold HB
  rw [hk]
  intro β1 H1 s1 g1
  cases k with
  | true =>
    rw [if_pos rfl] at q
    rw [if_pos rfl]
    unfold HB at q
    rw [hk] at q
    exact q β1 H1 s1 g1
  | false =>
    rw [if_neg (by decide)] at q
    rw [if_neg (by decide)]
    exact ⟨env, S1, β1, s.grow s1 g1, wpE_m _ _ _ _ _ _ (fun y S2 h => h.step g1) q⟩
theorem e_ife {t : Expr} (ht : PT X t (LT X.K ca R (wpE C dc))) (ha : PE X a (LE X.K ca R (wpE C da))) (hb : PE X b (LE X.K ca R (wpE C db))) : PE X (.IfExp t a b pos) (LE X.K ca R (wpE C (.ife dc da db))) := by
  refine PE.imp (pe_ifExp ht ha hb) fun σ H Q ⟨env, S, β, s, h⟩ => ?_
  unfold wpE at h
  refine ⟨env, S, β, s, wpE_m _ _ _ _ _ _ (fun x S1 h => ?_) h⟩
  unfold HB
  refine onO_mono (fun k q β1 H1 s1 g1 => ?_) h
  by_cases hk : k = true
  · rw [if_pos hk] at q ⊢
    exact ⟨env, S1, β1, s.grow s1 g1, wpE_m _ _ _ _ _ _ (fun y S2 h => h.step g1) q⟩
  · rw [if_neg hk] at q ⊢
    exact ⟨env, S1, β1, s.grow s1 g1, wpE_m _ _ _ _ _ _ (fun y S2 h => h.step g1) q⟩
/-- a value's truth -/
theorem t_of (he : PE X e (LE X.K ca R (wpE C da))) (hw : ∀ whole, isTrue e X.env whole = (do let v ← whole; standAt e.pos; holding [v] (truthy v))) : PT X e (LT X.K ca R (wpE C da)) := by
  refine PT.imp (pt_truth he hw) fun σ H Q ⟨env, S, β, s, h⟩ => ?_
  refine ⟨env, S, β, s, wpE_m _ _ _ _ _ _ (fun x S1 h β1 v H1 s1 g1 r1 => ?_) h⟩
  obtain ⟨k, hk, q⟩ := onO_some h
  exact ⟨k, truth_v s1 hk r1, q β1 H1 s1 g1⟩
/-! ### lists of arguments -/
theorem sL {f : Expr → Option DE} (hf : ∀ e de, f e = some de → PE X e (LE X.K ca R (wpE C de))) : ∀ (es : List Expr) (ds : DEs), compL f es = some ds → PA X es (LA X.K ca R (wpEs C ds))
  | [], ds, h => by
    cases h
    refine PA.imp pa_nil fun σ H Q ⟨env, S, β, s, h⟩ => ?_
    unfold wpEs at h
    exact h β [] H s.h Gr.refl .nil
  | e :: es, ds, h => by
    unfold compL at h
    split at h
    · rename_i hp
      split at h
      · rename_i x xs e1 e2
        cases h
        refine PA.imp (pa_cons (hf _ _ e1) (sL hf es _ e2) (starEach_cons hp)) fun σ H Q ⟨env, S, β, s, h⟩ => ?_
        unfold wpEs at h
        refine ⟨env, S, β, s, wpE_m _ _ _ _ _ _ (fun d S1 h β1 v H1 s1 g1 r1 => ?_) h⟩
        refine ⟨env, S1, β1, s.grow s1 g1, wpEs_m _ _ _ _ _ _ (fun ds S2 h β2 vs H2 s2 g2 r2 => ?_) h⟩
        exact h β2 (v :: vs) H2 s2 (g1.trans g2) (.cons (r1.grow g2) r2)
      · cases h
    · cases h
theorem compL_any {f : Expr → Option DE} {env : Env} : ∀ {es : List Expr} {ds : DEs}, compL f es = some ds → (backTo pos (starEach es env)).any (·.1) = false
  | [], ds, h => rfl
  | e :: es, ds, h => by
    unfold compL at h
    split at h
    · rename_i hp
      split at h
      · rename_i x xs e1 e2
        rw [starEach_cons hp]
        exact compL_any e2
      · cases h
    · cases h
theorem compL_cons {f : Expr → Option DE} {e : Expr} {es : List Expr} {ds : DEs} (h : compL f (e :: es) = some ds) : plainE e = true ∧ ∃ d r, ds = .cons d r ∧ f e = some d ∧ compL f es = some r := by
  unfold compL at h
  split at h
  · rename_i hp
    split at h
    · rename_i x xs e1 e2
      cases h
      exact ⟨hp, x, xs, rfl, e1, e2⟩
    · cases h
  · cases h
theorem e_tup {es : List Expr} {ds : DEs} {k : Nat} (ha : PA X es (LA X.K ca R (wpEs C ds))) : PE X (.Tuple es k pos) (LE X.K ca R (wpE C (.tup ds))) := by
  refine PE.imp (pe_tup ha) fun σ H Q ⟨env, S, β, s, h⟩ => ?_
  unfold wpE at h
  refine ⟨env, S, β, s, wpEs_m _ _ _ _ _ _ (fun ds S1 h β1 vs H1 s1 g1 r1 => ?_) h⟩
  exact ⟨by rw [← r1.length]; exact h.1, (h.2.step g1).newT s1 r1⟩
theorem e_lst {es : List Expr} {ds : DEs} (ha : PA X es (LA X.K ca R (wpEs C ds))) : PE X (.List es pos) (LE X.K ca R (wpE C (.lst ds))) := by
  refine PE.imp (pe_lst ha) fun σ H Q ⟨env, S, β, s, h⟩ => ?_
  unfold wpE at h
  refine ⟨env, S, β, s, wpEs_m _ _ _ _ _ _ (fun ds S1 h β1 vs H1 s1 g1 r1 => ?_) h⟩
  exact ⟨by rw [← r1.length]; exact h.1, (h.2.step g1).new s1 r1⟩
theorem e_ix (hu : X.A.units + 65 < cLine) (ha : PE X a (LE X.K ca R (wpE C da))) (hb : PE X b (LE X.K ca R (wpE C db))) (hs : noSlice b = true) : PE X (.Subscript a b pos) (LE X.K ca R (wpE C (.ix da db))) := by
  refine PE.imp (pe_ix (ix_d (ca := ca) (by omega)) ha hb (fun o i => by cases b <;> first | rfl | cases hs)) fun σ H Q ⟨env, S, β, s, h⟩ => ?_
  unfold wpE at h
  refine ⟨env, S, β, s, wpE_m _ _ _ _ _ _ (fun x S1 h β1 v H1 s1 g1 r1 => ?_) h⟩
  refine ⟨env, S1, β1, s.grow s1 g1, wpE_m _ _ _ _ _ _ (fun y S2 h β2 u H2 s2 g2 r2 => ?_) h⟩
  obtain ⟨d, hd, q⟩ := onO_some h
  exact ⟨S2, β2, x, y, d, s2, r1.grow g2, r2, hd, q.step (g1.trans g2)⟩
/-! ### slices -/
def LO (K : PySem.W.Frag) (ca : Nat → Addr) (R : Root) (w : DEnv → Store → (Option D → Store → Prop) → Prop) : TO := fun σ H Q => ∃ env S β, Sim K ca R env S β σ H ∧
  w env S fun o S' => onO (partD o) fun oi => ∀ β' H', HSim K ca S' β' H' → Gr K β H β' H' → Q oi H'
theorem PO.imp {X : Cx} {e : Option Expr} {t t' : TO} (h : PO X e t) (w : ∀ σ H Q, t' σ H Q → t σ H Q) : PO X e t' := ⟨fun pins s σ H Q I q => h.run pins s σ H Q I (w _ _ _ q)⟩
theorem sO {f : Expr → Option DE} (hf : ∀ e de, f e = some de → PE X e (LE X.K ca R (wpE C de))) {o : Option Expr} {d : DO} (h : compO f o = some d) : PO X o (LO X.K ca R (wpO C d)) := by
  cases o with
  | none =>
    cases h
    refine PO.imp po_none fun σ H Q ⟨env, S, β, s, h⟩ => ?_
    unfold wpO at h
    exact h β H s.h Gr.refl
  | some e =>
    obtain ⟨x, hx, rfl⟩ := Option.map_eq_some_iff.mp h
    refine PO.imp (po_some (hf _ _ hx)) fun σ H Q ⟨env, S, β, s, h⟩ => ?_
    unfold wpO at h
    refine ⟨env, S, β, s, wpE_m _ _ _ _ _ _ (fun x S1 h β1 v H1 s1 g1 r1 => ?_) h⟩
    obtain ⟨oi, ho, q⟩ := onO_some h
    unfold partD at ho
    split at ho
    · rename_i heq; cases heq
    · rename_i heq
      cases heq
      cases r1
      cases ho
      exact ⟨_, rfl, q β1 H1 s1 g1⟩
    · cases ho
theorem e_sl {lo hi : Option Expr} {dl dh : DO} {p2 : Pos} (ha : PE X a (LE X.K ca R (wpE C da))) (hl : PO X lo (LO X.K ca R (wpO C dl))) (hh : PO X hi (LO X.K ca R (wpO C dh))) : PE X (.Subscript a (.Slice lo hi none p2) pos) (LE X.K ca R (wpE C (.sl da dl dh))) := by
  refine PE.imp (pe_slice (sl_d (ca := ca)) ha hl hh) fun σ H Q ⟨env, S, β, s, h⟩ => ?_
  unfold wpE at h
  refine ⟨env, S, β, s, wpE_m _ _ _ _ _ _ (fun x S1 h β1 v H1 s1 g1 r1 => ?_) h⟩
  refine ⟨env, S1, β1, s.grow s1 g1, wpO_m _ _ _ _ _ _ (fun l S2 h => onO_mono (fun l h β2 H2 s2 g2 => ?_) h) h⟩
  refine ⟨env, S2, β2, (s.grow s1 g1).grow s2 g2, wpO_m _ _ _ _ _ _ (fun u S3 h => onO_mono (fun u h β3 H3 s3 g3 => ?_) h) h⟩
  have g := (g1.trans g2).trans g3
  refine ⟨S3, β3, x, s3, r1.grow (g2.trans g3), ?_⟩
  unfold wpSl at h
  split at h
  · exact h.step g
  · exact h.step g
  · exact onO_mono (fun _ z => z.step g) h
  · exact h.elim
end
end PD

set_option Elab.async false
set_option linter.all false
set_option maxRecDepth 100000
set_option maxHeartbeats 4000000
namespace PD
open PySem PySem.Spec PyProof.Rows L2
section
variable {ca : Nat → Addr} {R : Root} {X : Cx} {c : Ctx} {C : SC} {pos : Pos}
/-! ### names, constants -/
theorem e_var (o : XOk ca R X c C) {x : Str} {i : Nat} (h : slotOf c x = some i) (h1 : (x == ("__debug__" : Str)) = false) (h2 : (x == ("__classdict__" : Str)) = false) : PE X (.Name x pos) (LE X.K ca R (wpE C (.var i))) := by
  obtain ⟨a, b⟩ := o.slot h
  refine PE.imp (pe_var a b h1 h2) fun σ H Q ⟨env, S, β, s, h⟩ => ?_
  unfold wpE at h
  split at h
  · rename_i d e
    obtain ⟨v, hv, r⟩ := s.ev i d e
    exact ⟨v, hv, h.now s.h r⟩
  · exact h.elim
theorem e_cst {e : Expr} {d : D} {v : V} (h : PE X e (tC v)) (r : ∀ H β, RD X.K ca H β d v) : PE X e (LE X.K ca R (wpE C (.cst d))) := by
  refine PE.imp h fun σ H Q ⟨env, S, β, s, h⟩ => ?_
  unfold wpE at h
  exact h.now s.h (r H β)
/-! ### calls -/
theorem run_fnRS {CX : CXT} {k : Nat} {f : Addr} {sp : Sp} {E : XK} {pins : List (Addr × Obj)} {σ : L2.St} {H : Hp} {s : Shared} {Q : VK} {us : List Value} {vs : List V} (F : FnR X.prog X.w X.K X.mg X.base CX k f sp) (hr : Room k X.A) (hx : PassesAt CX X σ E) (I : Inv X pins σ H s) (r : Vals vs us) (h : sp vs H Q E) :
    wpAny (model X.prog X.w) X.A (call (.ref f) us) (EP X pins σ Q) X.xe s := by
  refine wpAny_call (codeAny_mono (F X.A X.stack s H us vs Q E hr I.env0 r h) fun r s' hq => ?_)
  cases r with
  | error e => exact hx pins H s e s' I hq
  | ok fl =>
    cases fl with
    | ret u => exact I.after hq
    | next => exact False.elim hq
    | brk => exact False.elim hq
    | cont => exact False.elim hq
theorem e_call (o : XOk ca R X c C) (hc : c.calm = true) {x : Str} {i : Nat} {f : Expr → Option DE} {es : List Expr} {ds : DEs} {p : Pos} (hg : globOf c x = some (.fn i)) (hl : compL f es = some ds) (ha : PA X es (LA X.K ca R (wpEs C ds))) : PE X (.Call (.Name x p) es [] pos) (LE X.K ca R (wpE C (.call i ds))) := by
  obtain ⟨h1, h2, h3, h4⟩ := o.glob hg
  obtain ⟨a, k, hm, hk, hr, F⟩ := o.fs hc x i h4
  obtain ⟨W, tk, hW⟩ := o.tk
  refine ⟨fun pins s σ H Q I h => ?_⟩
  obtain ⟨env, S, β, sm, h⟩ := h
  unfold wpE at h
  have key : wpEs C ds env S (HL X.K ca β H fun vs H1 => LSp X.K ca (C.sp i) vs H1 Q (WE W σ)) := by
    refine wpEs_m _ _ _ _ _ _ (fun ds S1 h β1 vs H1 s1 g1 r1 => ?_) h
    refine ⟨S1, β1, ds, s1, r1, callC_mono (fun d S' z => z.step g1) (fun er S' z β2 cls d H2 s2 g2 re => ?_) h⟩
    exact hW er env S' β2 σ H2 cls d z ((sm.grow s1 g1).grow s2 g2) re
  refine wpAny_Call_Name_kw (ld_glob I h1 hm ?_ h2)
  cases es with
  | nil =>
    cases hl
    unfold wpEs at key
    exact PySem.W.callWith_K0 I.kIn hk (run_fnRS (us := []) F hr (passAt tk σ) I .nil (key β [] H sm.h Gr.refl .nil))
  | cons e es =>
    obtain ⟨hp, d, r, rfl, e1, e2⟩ := compL_cons hl
    refine PySem.W.callWith_K (h₀ := X.base) I.ok.mod.kin hk (thn (ha.run pos pins s σ H _ I ⟨env, S, β, sm, key⟩) fun us s1 ⟨vs, H1, I1, r, q⟩ => ⟨I1.kIn, ?_⟩) (starEach_cons hp) (compL_any e2)
    exact run_fnRS F hr (passAt tk σ) I1 r q
theorem tyB_v {n : String} {b : BI} (h : tyB n = some b) : biV b = .type n := by
  unfold tyB at h
  split at h
  · rename_i e; cases h; have : n = "int" := by simpa using e
    subst this; rfl
  · split at h
    · rename_i e; cases h; have : n = "bool" := by simpa using e
      subst this; rfl
    · split at h
      · rename_i e; cases h; have : n = "list" := by simpa using e
        subst this; rfl
      · split at h
        · rename_i e; cases h; have : n = "tuple" := by simpa using e
          subst this; rfl
        · split at h
          · rename_i e; cases h; have : n = "str" := by simpa using e
            subst this; rfl
          · cases h
theorem bi_read {b : BI} {ds : DEs} : ∀ σ H Q, LE X.K ca R (wpE C (.bi b ds)) σ H Q → tCB (rBi X.K ca b) (LA X.K ca R (wpEs C ds)) σ H Q := fun σ H Q ⟨env, S, β, s, h⟩ => by
  unfold wpE at h
  refine ⟨env, S, β, s, wpEs_m _ _ _ _ _ _ (fun ds S1 h β1 vs H1 s1 g1 r1 => ?_) h⟩
  exact ⟨S1, β1, ds, s1, r1, wpBi_mono (fun _ _ z => z.step g1) h⟩
theorem e_bi (o : XOk ca R X c C) (hc : c.calm = true) {x : Str} {b : BI} {f : Expr → Option DE} {es : List Expr} {ds : DEs} {p : Pos} (hg : globOf c x = some (.bi b)) (he : es.isEmpty = false) (hl : compL f es = some ds) (ha : PA X es (LA X.K ca R (wpEs C ds))) : PE X (.Call (.Name x p) es [] pos) (LE X.K ca R (wpE C (.bi b ds))) := by
  obtain ⟨h1, h2, h3, h4⟩ := o.glob hg
  have g := o.gl x _ h4
  have cb := call_bi (ca := ca) o.un (o.calm hc) b
  cases es with
  | nil => cases he
  | cons e es =>
    obtain ⟨hp, d, r, rfl, e1, e2⟩ := compL_cons hl
    refine PE.imp ?_ bi_read
    have st := starEach_cons (env := X.env) (es := es) hp
    have an := compL_any (pos := pos) (env := X.env) e2
    cases b with
    | gcd => exact pe_callBfun cb h1 g ha h2 st an
    | lcm => exact pe_callBfun cb h1 g ha h2 st an
    | sorted => exact pe_callB cb h1 g.1 g.2 ha h3 h2 st an
    | int => exact pe_callTy cb h1 g.1 g.2 ha h3 h2 st an
    | bool => exact pe_callTy cb h1 g.1 g.2 ha h3 h2 st an
    | list => exact pe_callTy cb h1 g.1 g.2 ha h3 h2 st an
    | tuple => exact pe_callTy cb h1 g.1 g.2 ha h3 h2 st an
    | str => exact pe_callTy cb h1 g.1 g.2 ha h3 h2 st an
    | abs => exact pe_callB cb h1 g.1 g.2 ha h3 h2 st an
    | len => exact pe_callB cb h1 g.1 g.2 ha h3 h2 st an
    | max => exact pe_callB cb h1 g.1 g.2 ha h3 h2 st an
    | min => exact pe_callB cb h1 g.1 g.2 ha h3 h2 st an
    | sum => exact pe_callB cb h1 g.1 g.2 ha h3 h2 st an
    | any => exact pe_callB cb h1 g.1 g.2 ha h3 h2 st an
    | all => exact pe_callB cb h1 g.1 g.2 ha h3 h2 st an
    | isinstance => exact pe_callB cb h1 g.1 g.2 ha h3 h2 st an
theorem e_ty (o : XOk ca R X c C) (hc : c.calm = true) {x : Str} {n : String} {b : BI} {f : Expr → Option DE} {es : List Expr} {ds : DEs} {p : Pos} (hg : globOf c x = some (.ty n)) (hb : tyB n = some b) (he : es.isEmpty = false) (hl : compL f es = some ds) (ha : PA X es (LA X.K ca R (wpEs C ds))) :
    PE X (.Call (.Name x p) es [] pos) (LE X.K ca R (wpE C (.bi b ds))) := by
  obtain ⟨h1, h2, h3, h4⟩ := o.glob hg
  have g := o.gl x _ h4
  have cb := call_bi (ca := ca) o.un (o.calm hc) b
  rw [tyB_v hb] at cb
  cases es with
  | nil => cases he
  | cons e es =>
    obtain ⟨hp, d, r, rfl, e1, e2⟩ := compL_cons hl
    exact PE.imp (pe_callTy cb h1 g.1 g.2 ha h3 h2 (starEach_cons hp) (compL_any e2)) bi_read
/-! ### methods of lists and dicts -/
theorem bm_read (hu : X.A.units + 65 < cLine) {m : BM} (hm : m ≠ .get) {od : DE} {ds : DEs} : ∀ σ H Q, LE X.K ca R (wpE C (.bm m od ds)) σ H Q → tBM X.K "list" (rBm X.K ca m) (LE X.K ca R (wpE C od)) (LA X.K ca R (wpEs C ds)) σ H Q := fun σ H Q ⟨env, S, β, s, h⟩ => by
  unfold wpE at h
  refine ⟨env, S, β, s, wpE_m _ _ _ _ _ _ (fun x S1 h β1 v H1 s1 g1 r1 => ?_) h⟩
  obtain ⟨hk, h⟩ := h
  have hk : (lstOf S1 x).isSome = true := by cases m <;> first | exact hk | exact absurd rfl hm
  obtain ⟨xs, hx⟩ := Option.isSome_iff_exists.mp hk
  unfold lstOf at hx
  split at hx
  · obtain ⟨a, vs, rfl, hl, hr⟩ := seq_lst s1 hx r1
    refine ⟨.inl ⟨rfl, vs, hl⟩, env, S1, β1, s.grow s1 g1, wpEs_m _ _ _ _ _ _ (fun ds S2 h β2 us H2 s2 g2 r2 => ?_) h⟩
    exact ⟨S2, β2, _, ds, s2, r1.grow g2, r2, wpBm_mono (fun _ _ z => z.step (g1.trans g2)) h⟩
  · cases hx
/-- a method of a dict -/
theorem pe_bmd {o e : Expr} {es : List Expr} {r : V → List V → Hp → VK → Prop} {to : TE} {t : TA} {apos : Pos} (hm : MtR X "dict.get" r) (ho : PE X o to) (ha : PA X (e :: es) t)
    (hbase : attributeBase o "get" X.env (eval o X.env) = eval o X.env)
    (hfew : ((backTo pos (starEach (e :: es) X.env)).all (fun x => !x.1) && (backToKw pos (keywordEach [] X.env)).all (fun x => x.1.isSome)
      && decide ((e :: es).length + ([] : List Keyword).length + (if ([] : List Keyword).isEmpty then 0 else 1) < 30)) = true)
    (hline : (apos.endLine == pos.line) = true) (hs : starEach (e :: es) X.env = (false, eval e X.env) :: starEach es X.env) (hplain : (backTo pos (starEach es X.env)).any (·.1) = false) :
    PE X (.Call (.Attribute o "get" apos) (e :: es) [] pos) (fun σ H Q => to σ H fun x H1 => (∃ a, x = .ref a ∧ IsD H1 a) ∧ t σ H1 fun xs H2 => r x xs H2 Q) := by
  refine ⟨fun pins s σ H Q I h => ?_⟩
  refine wpAny_Call_method_late hbase hfew hline rfl (thn (ho.run pins s σ H _ I h) fun v s1 ⟨x, H1, I1, r1, ⟨a, ex, ty⟩, q1⟩ => ?_)
  subst ex
  obtain rfl : v = Value.ref a := r1
  obtain ⟨h1, h2, _⟩ := isD_at I1 ty
  refine ⟨"dict", "dict.get", PySem.F.plainAttrs_dict, PySem.F.slot_dict_get, PySem.F.type_dict_get, h1, h2, ?_⟩
  have hA := ha.run pos pins s1 σ H1 _ I1 q1
  rw [hs] at hA ⊢
  refine Calls.callWith_builtin (by show (false || (backTo pos (starEach es X.env)).any (·.1)) = false; rw [hplain] <;> rfl) (Calls.evalArgs_plain ?_)
  exact thn hA fun us s2 ⟨vs, H2, I2, r2, q2⟩ => hm pins s2 σ H2 (.ref a) vs _ us Q I2 rfl r2 q2
theorem get_read {od : DE} {ds : DEs} : ∀ σ H Q, LE X.K ca R (wpE C (.bm .get od ds)) σ H Q → LE X.K ca R (wpE C od) σ H fun x H1 => (∃ a, x = .ref a ∧ IsD H1 a) ∧ LA X.K ca R (wpEs C ds) σ H1 fun xs H2 => rBm X.K ca .get x xs H2 Q := fun σ H Q ⟨env, S, β, s, h⟩ => by
  unfold wpE at h
  refine ⟨env, S, β, s, wpE_m _ _ _ _ _ _ (fun x S1 h β1 v H1 s1 g1 r1 => ?_) h⟩
  obtain ⟨hk, h⟩ := h
  have hk : (dctOf S1 x).isSome = true := hk
  obtain ⟨kvs, hx⟩ := Option.isSome_iff_exists.mp hk
  obtain ⟨n, rfl, hn⟩ := dctOf_some hx
  obtain ⟨a, kv, rfl, hb, ha, _, _⟩ := dct_at s1 hn r1
  refine ⟨⟨a, rfl, .inr ⟨kv, .inl ha⟩⟩, env, S1, β1, s.grow s1 g1, wpEs_m _ _ _ _ _ _ (fun ds S2 h β2 us H2 s2 g2 r2 => ?_) h⟩
  exact ⟨S2, β2, _, ds, s2, r1.grow g2, r2, wpBm_mono (fun _ _ z => z.step (g1.trans g2)) h⟩
theorem bmOf_inv {m : Str} {b : BM} (h : bmOf m = some b) : m = bmN b := by
  unfold bmOf at h
  split at h
  · rename_i e; cases h; simpa using e
  · split at h
    · rename_i e; cases h; simpa using e
    · split at h
      · rename_i e; cases h; simpa using e
      · split at h
        · rename_i e; cases h; simpa using e
        · cases h
theorem base_of {env : Env} {e : Expr} {m : Str} {whole : Sem Value} (h : noCall0 e = true) : attributeBase e m env whole = whole := by
  cases e <;> first
    | rfl
    | (rename_i f as ks p
       cases as with
       | nil =>
         cases ks with
         | nil => cases h
         | cons _ _ => cases f <;> rfl
       | cons _ _ => cases f <;> rfl)
theorem few_of {f : Expr → Option DE} {env : Env} {es : List Expr} {ds : DEs} (h : compL f es = some ds) (hl : es.length < 20) :
    ((backTo pos (starEach es env)).all (fun x => !x.1) && (backToKw pos (keywordEach [] env)).all (fun x => x.1.isSome) && decide (es.length + ([] : List Keyword).length + (if ([] : List Keyword).isEmpty then 0 else 1) < 30)) = true := by
  have h1 : (backTo pos (starEach es env)).all (fun x => !x.1) = true := by
    have := compL_any (pos := pos) (env := env) h
    rw [List.all_eq_not_any_not]
    simp only [Bool.not_not]
    rw [this]
    rfl
  have h2 : decide (es.length + ([] : List Keyword).length + (if ([] : List Keyword).isEmpty then 0 else 1) < 30) = true := by
    refine decide_eq_true ?_
    show es.length + 0 + 0 < 30
    omega
  rw [h1, h2]
  rfl
theorem e_bm (hu : X.A.units + 65 < cLine) {o : Expr} {m : Str} {b : BM} {f : Expr → Option DE} {es : List Expr} {od : DE} {ds : DEs} {apos : Pos} (hm : bmOf m = some b) (hline : (apos.endLine == pos.line) = true) (hn : noCall0 o = true) (hlen : es.length < 20) (hge : (isGet b && es.isEmpty) = false) (ho : PE X o (LE X.K ca R (wpE C od)))
    (hl : compL f es = some ds) (ha : PA X es (LA X.K ca R (wpEs C ds))) : PE X (.Call (.Attribute o m apos) es [] pos) (LE X.K ca R (wpE C (.bm b od ds))) := by
  have e := bmOf_inv hm
  subst e
  cases es with
  | nil =>
    cases hl
    have rd : b ≠ .get → ∀ σ H Q, LE X.K ca R (wpE C (.bm b od .nil)) σ H Q → tBM0 X.K "list" (rBm X.K ca b) (LE X.K ca R (wpE C od)) σ H Q := fun hb σ H Q h => by
      obtain ⟨env, S, β, s, h⟩ := bm_read hu hb σ H Q h
      refine ⟨env, S, β, s, wpE_m _ _ _ _ _ _ (fun x S1 h β1 v H1 s1 g1 r1 => ?_) h⟩
      obtain ⟨t, env2, S2, β2, s2, h2⟩ := h β1 v H1 s1 g1 r1
      unfold wpEs at h2
      exact ⟨t, h2 β2 [] H1 s2.h Gr.refl .nil⟩
    cases b with
    | append => exact PE.imp (pe_bm0 PySem.F.plainAttrs_list PySem.F.slot_list_append PySem.F.type_list_append (mt_bm hu .append) ho (base_of hn) hline) (rd (fun z => nomatch z))
    | extend => exact PE.imp (pe_bm0 PySem.F.plainAttrs_list PySem.F.slot_list_extend PySem.F.type_list_extend (mt_bm hu .extend) ho (base_of hn) hline) (rd (fun z => nomatch z))
    | pop => exact PE.imp (pe_bm0 PySem.F.plainAttrs_list PySem.F.slot_list_pop PySem.F.type_list_pop (mt_bm hu .pop) ho (base_of hn) hline) (rd (fun z => nomatch z))
    | get =>
      cases hge
  | cons e es =>
    have hl' := hl
    obtain ⟨hp, d, r, rfl, e1, e2⟩ := compL_cons hl
    have st := starEach_cons (env := X.env) (es := es) hp
    have an := compL_any (pos := pos) (env := X.env) e2
    have fw := few_of (pos := pos) (env := X.env) hl' hlen
    cases b with
    | append => exact PE.imp (pe_bm PySem.F.plainAttrs_list PySem.F.slot_list_append PySem.F.type_list_append (mt_bm hu .append) ho ha (base_of hn) fw hline st an) (bm_read (m := .append) hu (fun z => nomatch z))
    | extend => exact PE.imp (pe_bm PySem.F.plainAttrs_list PySem.F.slot_list_extend PySem.F.type_list_extend (mt_bm hu .extend) ho ha (base_of hn) fw hline st an) (bm_read (m := .extend) hu (fun z => nomatch z))
    | pop => exact PE.imp (pe_bm PySem.F.plainAttrs_list PySem.F.slot_list_pop PySem.F.type_list_pop (mt_bm hu .pop) ho ha (base_of hn) fw hline st an) (bm_read (m := .pop) hu (fun z => nomatch z))
    | get => exact PE.imp (pe_bmd (mt_bm hu .get) ho ha (base_of hn) fw hline st an) get_read
/-! ### {}, bit_length, attributes, own methods, own classes -/
theorem e_dnew : PE X (.Dict [] [] pos) (LE X.K ca R (wpE C .dnew)) := PE.imp pe_dnewT fun σ H Q ⟨env, S, β, s, h⟩ => by
  unfold wpE at h
  intro p hp
  exact h _ _ _ (s.h.alloc hp (o := .dct []) ⟨[], upd_same, rfl, .nil⟩) (grow_alloc hp) (ref_last s.h)
theorem e_bits {o : Expr} {od : DE} {apos : Pos} (ho : PE X o (LE X.K ca R (wpE C od))) (hline : (apos.endLine == pos.line) = true) (hn : noCall0 o = true) : PE X (.Call (.Attribute o "bit_length" apos) [] [] pos) (LE X.K ca R (wpE C (.bits od))) :=
  PE.imp (pe_bits ho (base_of hn) hline) fun σ H Q ⟨env, S, β, s, h⟩ => by
    unfold wpE at h
    refine ⟨env, S, β, s, wpE_m _ _ _ _ _ _ (fun x S1 h β1 v H1 s1 g1 r1 => ?_) h⟩
    split at h
    · cases r1
      exact ⟨_, rfl, (h.step g1).now s1 (.int _)⟩
    · exact h.elim
theorem fld_look {K : PySem.W.Frag} {H : Hp} {β : List Addr} {f : Str} : ∀ {fs : List (Str × D)} {fv : List (Str × V)}, fs.map (·.1) = fv.map (·.1) → RDs K ca H β (fs.map (·.2)) (fv.map (·.2)) →
    match fs.lookup f with
    | some d => ∃ v, fv.lookup f = some v ∧ RD K ca H β d v
    | none => fv.lookup f = none
  | [], [], _, _ => rfl
  | [], _ :: _, e, _ => by cases e
  | _ :: _, [], e, _ => by cases e
  | (g, d) :: r, (g', v) :: t, e, h => by
    rw [List.map_cons, List.map_cons] at e
    injection e with e1 e2
    have e1 : g = g' := e1
    subst e1
    rw [List.map_cons, List.map_cons] at h
    cases h with
    | cons h1 h2 =>
      rw [List.lookup_cons, List.lookup_cons]
      cases hb : f == g with
      | true => exact ⟨v, rfl, h1⟩
      | false => exact fld_look e2 h2
theorem e_fld (o : XOk ca R X c C) {a : Expr} {od : DE} {f : Str} (ho : PE X a (LE X.K ca R (wpE C od))) (hn : noCall0 a = true) : PE X (.Attribute a f pos) (LE X.K ca R (wpE C (.fld od f))) := by
  refine ⟨fun pins s σ H Q I h => ?_⟩
  obtain ⟨env, S, β, sm, h⟩ := h
  unfold wpE at h
  have key : LE X.K ca R (wpE C od) σ H fun x H1 => ∃ b C1 dx fs, x = .ref b ∧ H1 b = some (.ins C1 dx fs) ∧ Cls X.K C1 ∧ ((NoAttr X.K C1 f ∧ ∃ v, fs.lookup f = some v ∧ Q v H1) ∨ (fs.lookup f = none ∧ ∃ v u, Con X.K C1 f v u ∧ Q v H1)) := by
    refine ⟨env, S, β, sm, wpE_m _ _ _ _ _ _ (fun x S1 h β1 v H1 s1 g1 r1 => ?_) h⟩
    split at h
    · split at h
      · rename_i n k fs e
        obtain ⟨b, dx, fv, rfl, hb, hi, he, hr⟩ := ins_at s1 e r1
        have hl := fld_look (f := f) he hr
        refine ⟨b, _, dx, fv, rfl, hi, ?_⟩
        (try dsimp only at h)
        split at h
        · rename_i d e2
          rw [e2] at hl
          obtain ⟨w, hw, rw'⟩ := hl
          obtain ⟨cl, na⟩ := o.na _ _ h.1
          exact ⟨cl, .inl ⟨na, w, hw, (h.2.step g1).now s1 rw'⟩⟩
        · rename_i e2
          rw [e2] at hl
          obtain ⟨d, hd, q⟩ := onO_some h
          obtain ⟨cl, w, u, cn, rw'⟩ := o.cn _ _ _ hd
          exact ⟨cl, .inr ⟨hl, w, u, cn, (q.step g1).now s1 (rw' _ _)⟩⟩
      · exact h.elim
    · exact h.elim
  refine attr_of (base_of hn) (thn (ho.run pins s σ H _ I key) fun u s1 ⟨x, H1, I1, rx, b, C1, dx, fs, ex, hi, cl, hq⟩ => ?_)
  subst ex
  obtain rfl : u = Value.ref b := rx
  rcases hq with ⟨na, v, hl, q⟩ | ⟨hl, v, w, cn, q⟩
  · exact getattr_ok I1 hi cl na hl fun w' s' I' r' => ⟨v, H1, I', r', q⟩
  · refine getcon_ok I1 hi cl cn hl ?_
    intro s' I'
    exact ⟨v, H1, I', cn.rel, q⟩
theorem run_mkR {CX : CXT} {k : Nat} {f C0 : Addr} {sp : Sp} {E : XK} {pins : List (Addr × Obj)} {σ : L2.St} {H : Hp} {s : Shared} {Q : VK} {us : List Value} {vs : List V} (M : Mk X.K C0 f) (F : FnR X.prog X.w X.K X.mg X.base CX k f sp) (hr : Room (k + 1) X.A) (hx : PassesAt CX X σ E) (I : Inv X pins σ H s) (r : Vals vs us)
    (h : ∀ x dx, H x = Option.none → H dx = Option.none → dx ≠ x → sp (V.ref x :: vs) (upd (upd H dx (.own x)) x (.ins C0 dx [])) (fun v H2 => v = .non ∧ Q (.ref x) H2) E) :
    wpAny (model X.prog X.w) X.A (call (.ref C0) us) (EP X pins σ Q) X.xe s := by
  have hq := h (s.heap.objs.size + 1) s.heap.objs.size (I.hok.fresh (Nat.le_succ _)) (I.hok.fresh (Nat.le_refl _)) (Nat.ne_of_lt (Nat.lt_succ_self _))
  have I2 := Inv.made (C := C0) I
  have r2 : Vals (V.ref (s.heap.objs.size + 1) :: vs) (Value.ref (s.heap.objs.size + 1) :: us) := .cons rfl r
  refine wpAny_call (make_map (f := f) I.kIn M.makes M.init (beq_iff_eq.mp M.fn) (codeAny_mono (F _ X.stack _ _ (Value.ref (s.heap.objs.size + 1) :: us) _ _ E (hr.make C0 us []) (I2.env0.make C0 us []) r2 hq) fun r s' hq' => ?_))
  cases r with
  | error e => exact hx pins _ _ e s' I2 hq'
  | ok fl =>
    cases fl with
    | ret u =>
      obtain ⟨v, H', I3, rv, ev, q3⟩ := I2.after hq'
      subst ev
      exact ⟨rv, ⟨V.ref (s.heap.objs.size + 1), H', I3, rfl, q3⟩⟩
    | next => exact False.elim hq'
    | brk => exact False.elim hq'
    | cont => exact False.elim hq'
theorem e_new (o : XOk ca R X c C) (hc : c.calm = true) {x : Str} {k i : Nat} {f : Expr → Option DE} {es : List Expr} {ds : DEs} {p : Pos} (hg : globOf c x = some (.new k i)) (he : es.isEmpty = false) (hl : compL f es = some ds) (ha : PA X es (LA X.K ca R (wpEs C ds))) : PE X (.Call (.Name x p) es [] pos) (LE X.K ca R (wpE C (.new k i ds))) := by
  obtain ⟨h1, h2, h3, h4⟩ := o.glob hg
  have hm : X.mg x = some (.ref (ca k)) := o.gl x _ h4
  obtain ⟨a, l, M, hr, F⟩ := o.nw hc x k i h4
  obtain ⟨W, tk, hW⟩ := o.tk
  refine ⟨fun pins s σ H Q I h => ?_⟩
  obtain ⟨env, S, β, sm, h⟩ := h
  unfold wpE at h
  have key : wpEs C ds env S (HL X.K ca β H fun vs H1 => ∀ x dx, H1 x = Option.none → H1 dx = Option.none → dx ≠ x → LSp X.K ca (C.sp i) (V.ref x :: vs) (upd (upd H1 dx (.own x)) x (.ins (ca k) dx [])) (fun v H2 => v = .non ∧ Q (.ref x) H2) (WE W σ)) := by
    refine wpEs_m _ _ _ _ _ _ (fun ds S1 h β1 vs H1 s1 g1 r1 => ?_) h
    intro y dx hy hdx hne
    have s2 := s1.fresh (o := .own y) hdx
    have hy2 : upd H1 dx (.own y) y = none := by rw [upd_ne (Ne.symm hne)]; exact hy
    have s3 := s2.alloc (o := .ins k []) (ho := .ins (ca k) dx []) hy2 ⟨dx, [], upd_same, rfl, .nil⟩
    have g3 := (Gr.fresh (K := X.K) (β := β1) (o := .own y) hdx).trans (grow_alloc (ho := .ins (ca k) dx []) hy2)
    refine ⟨_, _, _, s3, .cons (ref_last s1) (r1.grow g3), callC_mono (fun d S' z β2 w H2 s4 g4 r4 => ?_) (fun er S' z β2 cls d H2 s4 g4 re => ?_) h⟩
    · obtain ⟨rfl, z⟩ := z
      cases r4
      refine ⟨rfl, z _ _ _ s4 (g1.trans (g3.trans g4)) (RD.grow g4 (ref_last s1))⟩
    · exact hW er env S' β2 σ H2 cls d z ((sm.grow s1 g1).grow s4 (g3.trans g4)) re
  refine wpAny_Call_Name_kw (ld_glob I h1 hm ?_ h2)
  cases es with
  | nil => cases he
  | cons e es =>
    obtain ⟨hp, d, r, rfl, e1, e2⟩ := compL_cons hl
    refine PySem.W.callWith_K (h₀ := X.base) I.ok.mod.kin M.kp (thn (ha.run pos pins s σ H _ I ⟨env, S, β, sm, key⟩) fun us s1 ⟨vs, H1, I1, r, q⟩ => ⟨I1.kIn, ?_⟩) (starEach_cons hp) (compL_any e2)
    exact run_mkR M F hr (passAt tk σ) I1 r q
/-- a call of an own method, run -/
theorem meth_run {prog : Program} {w : World} {A : Around} {E : Value → Shared → Prop} {s : Shared} {env : Env} {o : Expr} {name : Str} {apos : Pos} {args : List Expr} {Q : Value → Shared → Prop}
    (hbase : attributeBase o name env (eval o env) = eval o env)
    (hfew : ((backTo pos (starEach args env)).all (fun x => !x.1) && (backToKw pos (keywordEach [] env)).all (fun x => x.1.isSome) && decide (args.length + ([] : List Keyword).length + (if ([] : List Keyword).isEmpty then 0 else 1) < 30)) = true)
    (hline : (apos.endLine == pos.line) = true)
    (h : wpAny (model prog w) A (eval o env) (fun ov s₁ => ∀ pl, wpAny (model prog w) A (getMethod ov name pl) (fun fx s₂ => wpAny (model prog w) A (callWith pos fx.1 fx.2 (backTo pos (starEach args env)) (backToKw pos (keywordEach [] env))) Q E s₂) E s₁) E s) :
    wpAny (model prog w) A (eval (.Call (.Attribute o name apos) args [] pos) env) Q E s := by
  rw [arm_eval_Call, hbase]
  refine wpAny_bind (wpAny_mono h (fun ov s₁ h₁ => ?_) fun _ _ e => e)
  refine wpAny_bind (wpAny_standAt ?_)
  have hform : methodCallForm (args.length + ([] : List Keyword).length) (backTo pos (starEach args env)) (backToKw pos (keywordEach [] env)) = true := hfew
  have hpos : methodCallPos true o env apos pos = pure pos := by unfold methodCallPos; simp [hline]
  unfold methodCall
  rw [hform]
  refine wpAny_bind (wpAny_holding ?_)
  refine wpAny_mono (h₁ _) (fun fx s₂ h₂ => ?_) fun _ _ e => e
  exact wpAny_bind (wpAny_of_eq hpos h₂)
theorem lookup_mem' {m : Str} {c : Ctx} {k i : Nat} (h : (mtsOf c m).lookup k = some i) : ∃ t, c.gl.lookup (".": Str) = some (.mts t) ∧ (m, k, i) ∈ t := by
  unfold mtsOf at h
  split at h
  · rename_i t e
    refine ⟨t, e, ?_⟩
    have : ∀ {l : List (Nat × Nat)}, l.lookup k = some i → (k, i) ∈ l := by
      intro l
      induction l with
      | nil => intro h; cases h
      | cons p r ih =>
        intro h
        obtain ⟨k', i'⟩ := p
        rw [List.lookup_cons] at h
        cases hb : k == k' with
        | true =>
          rw [hb] at h
          cases h
          have : k = k' := by simpa using hb
          subst this
          exact List.mem_cons_self
        | false =>
          rw [hb] at h
          exact List.mem_cons_of_mem _ (ih h)
    obtain ⟨p, hp, e2⟩ := List.mem_filterMap.mp (this h)
    obtain ⟨n, q⟩ := p
    dsimp only at e2
    split at e2
    · rename_i hn
      cases e2
      have : n = m := by simpa using hn
      subst this
      exact hp
    · cases e2
  · cases h
theorem e_mth (o : XOk ca R X c C) (hc : c.calm = true) {a : Expr} {m : Str} {f : Expr → Option DE} {es : List Expr} {od : DE} {ds : DEs} {apos : Pos} (hline : (apos.endLine == pos.line) = true) (hn : noCall0 a = true) (hlen : es.length < 20) (ho : PE X a (LE X.K ca R (wpE C od)))
    (hl : compL f es = some ds) (ha : PA X es (LA X.K ca R (wpEs C ds))) : PE X (.Call (.Attribute a m apos) es [] pos) (LE X.K ca R (wpE C (.mth m (mtsOf c m) od ds))) := by
  obtain ⟨W, tk, hW⟩ := o.tk
  refine ⟨fun pins s σ H Q I h => ?_⟩
  obtain ⟨env, S, β, sm, h⟩ := h
  unfold wpE at h
  have key : LE X.K ca R (wpE C od) σ H fun x H1 => ∃ b C1 dx fs g l sp, x = .ref b ∧ H1 b = some (.ins C1 dx fs) ∧ Cls X.K C1 ∧ fs.lookup m = none ∧ Meth X.K C1 m g ∧ Room l X.A ∧ FnR X.prog X.w X.K X.mg X.base (L2.CX X.prog X.w) l g sp ∧ LA X.K ca R (wpEs C ds) σ H1 fun vs H2 => sp (.ref b :: vs) H2 Q (WE W σ) := by
    refine ⟨env, S, β, sm, wpE_m _ _ _ _ _ _ (fun x S1 h β1 v H1 s1 g1 r1 => ?_) h⟩
    split at h
    · split at h
      · rename_i n k fs e
        obtain ⟨b, dx, fv, rfl, hb, hi, he, hr⟩ := ins_at s1 e r1
        have hl := fld_look (f := m) he hr
        rw [h.1] at hl
        obtain ⟨i, hi2, h⟩ := onO_some h.2
        obtain ⟨t, ht, hmem⟩ := lookup_mem' hi2
        obtain ⟨cl, g, l, me, ro, F⟩ := o.ms hc t ht m k i hmem
        refine ⟨b, _, dx, fv, g, l, _, rfl, hi, cl, hl, me, ro, F, env, S1, β1, sm.grow s1 g1, wpEs_m _ _ _ _ _ _ (fun ds S2 h β2 us H2 s2 g2 r2 => ?_) h⟩
        refine ⟨S2, β2, _, s2, .cons (r1.grow g2) r2, callC_mono (fun d S' z => z.step (g1.trans g2)) (fun er S' z β3 cls d H3 s3 g3 re => ?_) h⟩
        exact hW er env S' β3 σ H3 cls d z (((sm.grow s1 g1).grow s2 g2).grow s3 g3) re
      · exact h.elim
    · exact h.elim
  refine meth_run (base_of hn) (few_of hl hlen) hline (thn (ho.run pins s σ H _ I key) fun u s1 ⟨x, H1, I1, rx, b, C1, dx, fs, g, l, sp, ex, hi, cl, hl2, me, ro, F, q⟩ pl => ?_)
  subst ex
  obtain rfl : u = Value.ref b := rx
  refine getmeth_ok I1 hi cl me hl2 ?_
  cases es with
  | nil =>
    cases hl
    obtain ⟨env2, S2, β2, s2, h2⟩ := q
    unfold wpEs at h2
    exact PySem.W.callWith_K0 (first := [.ref b]) I1.kIn me.kp (run_fnRS (us := [.ref b]) (vs := [.ref b]) F ro (passAt tk σ) I1 (.cons rfl .nil) (h2 β2 [] H1 s2.h Gr.refl .nil))
  | cons e es =>
    obtain ⟨hp, d, r, rfl, e1, e2⟩ := compL_cons hl
    refine PySem.W.callWith_K (first := [.ref b]) (h₀ := X.base) I.ok.mod.kin me.kp (thn (ha.run pos pins s1 σ H1 _ I1 q) fun us s2 ⟨vs, H2, I2, r, q2⟩ => ⟨I2.kIn, ?_⟩) (starEach_cons hp) (compL_any e2)
    exact run_fnRS (us := .ref b :: us) (vs := .ref b :: vs) F ro (passAt tk σ) I2 (.cons rfl r) q2
end
end PD

set_option Elab.async false
set_option linter.all false
set_option maxRecDepth 100000
set_option maxHeartbeats 4000000
namespace PD
open PySem PySem.Spec PyProof.Rows L2
section
variable {ca : Nat → Addr} {R : Root} {X : Cx} {c : Ctx} {C : SC} {pos : Pos}
/-! ### the exception that a suite holds -/
theorem lookup_mem {α : Type} {f : Str} : ∀ {fs : List (Str × α)} {x : α}, fs.lookup f = some x → f ∈ fs.map (·.1)
  | [], _, h => by cases h
  | (g, y) :: r, x, h => by
    rw [List.lookup_cons] at h
    cases e : f == g with
    | true =>
      have : f = g := by simpa using e
      rw [this]
      exact List.mem_cons_self
    | false =>
      rw [e] at h
      exact List.mem_cons_of_mem _ (lookup_mem h)
theorem lookup_none {α : Type} {f : Str} : ∀ {fs : List (Str × α)}, f ∉ fs.map (·.1) → fs.lookup f = none
  | [], _ => rfl
  | (g, y) :: r, h => by
    rw [List.map_cons, List.mem_cons, not_or] at h
    have e : (f == g) = false := by simpa using h.1
    rw [List.lookup_cons, e]
    exact lookup_none h.2
theorem e_efld (o : XOk ca R X c C) {x f : Str} {p : Pos} (h : c.exn = some x) (h1 : (x == ("__debug__" : Str)) = false) (h2 : (x == ("__classdict__" : Str)) = false) : PE X (.Attribute (.Name x p) f pos) (LE X.K ca R (wpE C (.efld f))) := by
  obtain ⟨X0, c0, a, oe, pn, cls, d, er, i, hX, hz, hf, hR, hC, hi, hk, hgl, K⟩ := o.exn x h
  by_cases hm : f ∈ er.fs.map (·.1)
  · have hv : PE X (.Name x p) (tVar i) := pe_var (by rw [o.N]; exact hi) (.inl (by rw [o.sc]; exact hk)) h1 h2
    subst hX
    refine PE.imp (pe_xf K.xf (K.no f hm) hz hf hv) fun σ H Q ⟨env, S, β, s, h⟩ => ?_
    unfold wpE at h
    rw [hC] at h
    obtain ⟨dd, hd, q⟩ := onO_some h
    obtain ⟨g1, g2, g3⟩ := s.ex _ hR
    refine ⟨.ref a, g1 i rfl, rfl, g2, ?_⟩
    rcases g3 with ⟨g3, _⟩ | ⟨da, fv, g4, g5, g6⟩
    · rw [g3] at hm; cases hm
    · obtain ⟨v, hv, rv⟩ := (g6 f).1 dd hd
      exact ⟨da, fv, v, g4, g5, hv, q.now s.h rv⟩
  · refine ⟨fun pins s σ H Q I ⟨env, S, β, sm, h⟩ => ?_⟩
    unfold wpE at h
    rw [hC] at h
    dsimp only at h
    rw [lookup_none hm] at h
    exact h.elim
/-- a value that stands for one alone -/
def OneV (v : V) (u : Value) : Prop := RelV v u ∧ ∀ w, RelV v w → w = u
theorem e_cls (o : XOk ca R X c C) {x : Str} {g : GK} {j : Nat} (hg : globOf c x = some g) (hj : g.cid = some j) : (∀ p : Pos, PE X (.Name x p) (tC (g.vv ca))) ∧ OneV (g.vv ca) (g.cv ca) := by
  obtain ⟨h1, h2, h3, h4⟩ := o.glob hg
  have gx := o.gl x _ h4
  cases g with
  | cls k => exact ⟨fun p => pe_glob h1 gx rfl h2, rfl, fun w r => r⟩
  | exc k fs => exact ⟨fun p => pe_glob h1 gx rfl h2, rfl, fun w r => r⟩
  | xty k n => exact ⟨fun p => pe_bltn h1 gx.1 gx.2 rfl h3 h2, rfl, fun w r => r⟩
  | _ => cases hj
def rIsX (K : PySem.W.Frag) (D a : Addr) (d : Option Addr) : List V → Hp → VK → Prop := fun xs H Q => (d = none ∨ ∃ dd fv, d = some dd ∧ H dd = some (.xd fv)) ∧ ∃ c b, xs = [.ref a, c] ∧ Q (.bl b) H ∧
  ((∃ cv, OneV c cv ∧ PySem.W.kitOne K (.ref D) cv = some b) ∨ ∃ p cs us, c = .ref p ∧ H p = some (.tup cs) ∧ Paired OneV cs us ∧ PySem.W.kitAny K (.ref D) us = some b)
theorem oneV_vals : ∀ {cs : List V} {us ws : List Value}, Paired OneV cs us → Vals cs ws → ws = us
  | [], us, ws, h, r => by cases h; cases r; rfl
  | c :: cs, us, ws, h, r => by
    cases h with
    | cons h1 h2 =>
      cases r with
      | cons r1 r2 => rw [h1.2 _ r1, oneV_vals h2 r2]
theorem call_isX {X : Cx} {a D : Addr} {oe : Obj} {d : Option Addr} {pn : List (Addr × Obj)} (xf : XfC X.K D) (kx : KXC X.K D) (hz : Zc (.ref D) d oe) (hf : ∃ vs, oe.data = .fields vs) : CallR (X.suite a ((a, oe) :: pn)) (.builtin "isinstance") (rIsX X.K D a d) := by
  intro pins s σ H xs us Q I r h
  obtain ⟨hd, c, b, rfl, q, h⟩ := h
  cases r with
  | cons rx rr =>
    cases rr with
    | cons rt rr =>
      cases rr
      cases rx
      obtain ⟨hget, _⟩ := I.pin (a, oe) (List.mem_append.mpr (.inl List.mem_cons_self))
      obtain ⟨vs, hv⟩ := hf
      obtain ⟨od, J⟩ : ∃ od, PySem.W.InstAt s.heap a oe D od := by
        rcases hd with hd | ⟨dd, fv, hd, hfv⟩
        · exact ⟨none, hget, hz.1, by unfold PySem.W.notCls; rw [hv] <;> rfl, by rw [hz.2, hd]; trivial⟩
        · have hx : ObjOk X.prog X.w H s.heap dd (.xd fv) := I.hok dd _ hfv
          obtain ⟨mA, hns, hr⟩ := hx
          obtain ⟨o, es, ep, ho, _⟩ := hns
          exact ⟨some o, hget, hz.1, by unfold PySem.W.notCls; rw [hv] <;> rfl, by rw [hz.2, hd]; exact ho⟩
      have hcl : (PySem.W.clsIn X.K D).isSome = true := by
        obtain ⟨cd, hc, _⟩ := PySem.W.any_some xf.hdC
        rw [hc]
        rfl
      have kit := PySem.W.kitx_exc (x := a) (ox := oe) (od := od) hcl xf.ga xf.gg xf.exC kx.ha kx.hn kx.ht kx.hm
      rcases h with ⟨cv, hcv, e⟩ | ⟨p, cs, us2, rfl, ht, hp, e⟩
      · have ec := hcv.2 _ rt
        subst ec
        exact PySem.W.kia_one kit I.kIn J e (fun z => nomatch z) fun tk => ⟨.bl b, H, I.kept (t' := tk) fun _ _ z => z, rfl, q⟩
      · cases rt
        obtain ⟨its, rv, ⟨o, ho, hcl2, n, hdata⟩, hz2⟩ := I.tuple (.inl (.inl ht))
        have eu := oneV_vals hp rv
        subst eu
        obtain ⟨oc, odi, oda, osl⟩ := o
        dsimp only at hcl2 hdata
        subst hcl2
        subst hdata
        exact PySem.W.kia_tup kit I.kIn J ho e (fun z => nomatch z) fun tk => ⟨.bl b, H, I.kept (t' := tk) fun _ _ z => z, rfl, q⟩
theorem cls_list (o : XOk ca R X c C) {K : PySem.W.Frag} {k : Nat} (hk : ∀ (x : Str) (g : GK) (j : Nat), c.gl.lookup x = some g → g.cid = some j → PySem.W.kitOne K (.ref (ca k)) (g.cv ca) = some (C.sub k j)) :
    ∀ {es : List Expr} {cs : List Nat}, mapO (cid1 c) es = some cs → ∃ (vs : List V) (us : List Value), vs.length = es.length ∧ PA X es (fun σ H Q => Q vs H) ∧ Paired OneV vs us ∧ PySem.W.kitAny K (.ref (ca k)) us = some (cs.any fun j => C.sub k j)
  | [], cs, h => by
    cases h
    exact ⟨[], [], rfl, pa_nil, .nil, rfl⟩
  | e :: es, cs, h => by
    obtain ⟨j, js, rfl, e1, e2⟩ := mapO_cons h
    obtain ⟨vs, us, h0, h1, h2, h3⟩ := cls_list o hk e2
    unfold cid1 at e1
    split at e1
    · obtain ⟨g, hg, hj⟩ := Option.bind_eq_some_iff.mp e1
      obtain ⟨p1, p2⟩ := e_cls o hg hj
      obtain ⟨a1, a2, a3, a4⟩ := o.glob hg
      refine ⟨_, _, by rw [List.length_cons, List.length_cons, h0], PA.imp (pa_cons (p1 _) h1 rfl) fun σ H Q q => q, .cons p2 h2, ?_⟩
      have kk := hk _ g j a4 hj
      rw [List.any_cons]
      refine kitAny_cons kk (fun hb => ?_) (fun hb => ?_)
      · rw [hb, Bool.false_or]
        exact h3
      · rw [hb, Bool.true_or]
    · cases e1
theorem e_eisi (o : XOk ca R X c C) {x y : Str} {z : Expr} {cs : List Nat} {p p2 : Pos} (h : c.exn = some y) (hg : globOf c x = some (.bi .isinstance)) (hz : clsL c z = some cs) (h1 : (y == ("__debug__" : Str)) = false) (h2 : (y == ("__classdict__" : Str)) = false) :
    PE X (.Call (.Name x p) [.Name y p2, z] [] pos) (LE X.K ca R (wpE C (.eisi cs))) := by
  obtain ⟨X0, c0, a, oe, pn, cls, d, er, i, hX, hzc, hf, hR, hC, hi, hk, hgl, K⟩ := o.exn y h
  obtain ⟨g1, g2, g3, g4⟩ := o.glob hg
  have gx := o.gl x _ g4
  have hv : PE X (.Name y p2) (tVar i) := pe_var (by rw [o.N]; exact hi) (.inl (by rw [o.sc]; exact hk)) h1 h2
  have hkit : ∀ (x : Str) (g : GK) (j : Nat), c.gl.lookup x = some g → g.cid = some j → PySem.W.kitOne X0.K (.ref (ca er.cls)) (g.cv ca) = some (C.sub er.cls j) := by
    rw [← hgl]
    exact K.is
  by_cases hcls : cls = .ref (ca er.cls)
  · subst hcls
    have cr := call_isX (X := X0) (a := a) (pn := pn) K.xf K.kx hzc hf
    have rd : ∀ (σ : L2.St) (H : Hp) (Q : VK), LE X.K ca R (wpE C (.eisi cs)) σ H Q → σ[i]? = some (some (.ref a)) ∧ (d = none ∨ ∃ dd fv, d = some dd ∧ H dd = some (.xd fv)) ∧ Q (.bl (cs.any fun j => C.sub er.cls j)) H ∧ ∀ p vs, H p = none → Q (.bl (cs.any fun j => C.sub er.cls j)) (upd H p (.tup vs)) := fun σ H Q ⟨env, S, β, s, h⟩ => by
      unfold wpE at h
      rw [hC] at h
      obtain ⟨q1, q2, q3⟩ := s.ex _ hR
      refine ⟨q1 i rfl, ?_, h.now s.h (.bl _), fun p vs hp => h β _ _ (s.h.fresh hp) (Gr.fresh hp) (.bl _)⟩
      rcases q3 with ⟨_, q3⟩ | ⟨da, fv, q4, q5, q6⟩
      · exact .inl q3
      · exact .inr ⟨da, fv, q4, q5⟩
    have one : ∀ (k : Nat), cs = [k] → cid1 c z = some k → PE X (.Call (.Name x p) [.Name y p2, z] [] pos) (LE X.K ca R (wpE C (.eisi cs))) := fun k ek e1 => by
      subst ek
      unfold cid1 at e1
      split at e1
      · obtain ⟨g, hg', hj⟩ := Option.bind_eq_some_iff.mp e1
        obtain ⟨p1, p2⟩ := e_cls o hg' hj
        obtain ⟨a1, a2, a3, a4⟩ := o.glob hg'
        subst hX
        refine PE.imp (pe_callB cr g1 gx.1 gx.2 (pa_cons hv (pa_cons (p1 _) pa_nil)) g3 g2 rfl rfl) fun σ H Q q => ?_
        obtain ⟨q1, q2, q3, q4⟩ := rd σ H Q q
        refine ⟨.ref a, q1, q2, _, _, rfl, q3, .inl ⟨_, p2, ?_⟩⟩
        rw [hkit _ g k a4 hj]
        simp
      · cases e1
    unfold clsL at hz
    split at hz
    · split at hz
      rotate_left
      · cases hz
      rename_i hlen
      obtain ⟨vs, us, h0, h1, h2, h3⟩ := cls_list o hkit hz
      subst hX
      refine PE.imp (pe_callB cr g1 gx.1 gx.2 (pa_cons hv (pa_cons (pe_tup h1) pa_nil)) g3 g2 rfl rfl) fun σ H Q q => ?_
      obtain ⟨q1, q2, q3, q4⟩ := rd σ H Q q
      refine ⟨.ref a, q1, ?_, fun p hp => ?_⟩
      · rw [h0]
        exact Nat.le_trans (Nat.le_of_lt hlen) (by decide)
      · refine ⟨?_, _, _, rfl, q4 p vs hp, .inr ⟨p, vs, us, rfl, upd_same, h2, h3⟩⟩
        rcases q2 with q2 | ⟨dd, fv, q2, q5⟩
        · exact .inl q2
        · refine .inr ⟨dd, fv, q2, ?_⟩
          rw [upd_ne (fun z => by rw [z, hp] at q5; cases q5)]
          exact q5
    · obtain ⟨k, hk, e⟩ := Option.map_eq_some_iff.mp hz
      exact one k e.symm hk
  · refine ⟨fun pins s σ H Q I ⟨env, S, β, sm, h⟩ => ?_⟩
    exact absurd (sm.ex _ hR).2.1 hcls
/-! ### what a loop walks -/
structure WK (K : PySem.W.Frag) (ca : Nat → Addr) (β1 : List Addr) (H1 : Hp) (J : It) (src : Src) (items : List D) : Prop where
  go : ∀ S β H i, HSim K ca S β H → Gr K β1 H1 β H → still src S → i < items.length → J.go i H
  stop : ∀ S β H, HSim K ca S β H → Gr K β1 H1 β H → still src S → J.stop items.length H
  yld : ∀ S β H i x H', HSim K ca S β H → Gr K β1 H1 β H → still src S → i < items.length → J.yld i H x H' → ∃ d, items[i]? = some d ∧ HSim K ca S β H' ∧ Gr K β H β H' ∧ RD K ca H' β d x
def LI (K : PySem.W.Frag) (ca : Nat → Addr) (R : Root) (w : DEnv → Store → (Src → List D → Store → Prop) → Prop) : TI := fun σ H R' => ∃ env S β, Sim K ca R env S β σ H ∧
  w env S fun src items S' => ∀ β' H' J, HSim K ca S' β' H' → Gr K β H β' H' → WK K ca β' H' J src items → R' J H'
/-- a list or tuple, as the walk sees it: the same kind throughout -/
inductive SqK (K : PySem.W.Frag) (ca : Nat → Addr) (H : Hp) (β : List Addr) (d : D) (a : Addr) : Prop
  | lst (h : ∀ S β' H' xs, HSim K ca S β' H' → Gr K β H β' H' → seqOf S d = some xs → ∃ vs, SqL K H' a vs ∧ RDs K ca H' β' xs vs)
  | tup (h : ∀ S β' H' xs, HSim K ca S β' H' → Gr K β H β' H' → seqOf S d = some xs → ∃ vs, SqT K H' a vs ∧ RDs K ca H' β' xs vs)
theorem sqK_of {K : PySem.W.Frag} {H : Hp} {β : List Addr} {d : D} {v : V} {S : Store} {xs : List D} (hs : HSim K ca S β H) (r : RD K ca H β d v) (h : seqOf S d = some xs) : ∃ a, v = .ref a ∧ SqK K ca H β d a := by
  cases r with
  | tup h1 h2 =>
    refine ⟨_, rfl, .tup fun S' β' H' ys s' g e => ?_⟩
    cases e
    exact ⟨_, (g.tup _ _ h1).sq, h2.grow g⟩
  | kl h1 h2 =>
    refine ⟨_, rfl, .lst fun S' β' H' ys s' g e => ?_⟩
    cases e
    exact ⟨_, (g.ro h1).sq, h2.grow g⟩
  | kt h1 h2 =>
    refine ⟨_, rfl, .tup fun S' β' H' ys s' g e => ?_⟩
    cases e
    exact ⟨_, h1.sq, h2.grow g⟩
  | ref hb =>
    refine ⟨_, rfl, .lst fun S' β' H' ys s' g e => ?_⟩
    obtain ⟨a, vs, ea, hl, hr⟩ := seq_lst s' e (.ref (g.pre _ _ hb))
    cases ea
    exact ⟨vs, hl, hr⟩
  | _ => cases h
theorem get_lt {α : Type} {xs : List α} {i : Nat} (h : i < xs.length) : ∃ x, xs[i]? = some x := ⟨_, List.getElem?_eq_getElem h⟩
theorem wk_list {K : PySem.W.Frag} {H : Hp} {β : List Addr} {d : D} {a : Addr} {xs : List D} (h : ∀ S β' H' xs, HSim K ca S β' H' → Gr K β H β' H' → seqOf S d = some xs → ∃ vs, SqL K H' a vs ∧ RDs K ca H' β' xs vs) : WK K ca β H (Itl K a) (some (d, xs)) xs where
  go := fun S β' H' i s g st hi => by
    obtain ⟨vs, h1, h2⟩ := h S β' H' xs s g (st _ rfl)
    obtain ⟨x, hx⟩ := get_lt (xs := vs) (i := i) (by rw [← h2.length]; exact hi)
    exact ⟨vs, x, h1, hx⟩
  stop := fun S β' H' s g st => by
    obtain ⟨vs, h1, h2⟩ := h S β' H' xs s g (st _ rfl)
    exact ⟨vs, h1, by rw [h2.length]; exact Nat.le_refl _⟩
  yld := fun S β' H' i x H2 s g st hi y => by
    obtain ⟨rfl, y⟩ := y
    obtain ⟨vs, h1, h2⟩ := h S β' H2 xs s g (st _ rfl)
    obtain ⟨e, he⟩ := get_lt hi
    obtain ⟨v, hv, rv⟩ := h2.get he
    rw [y vs h1] at hv
    cases hv
    exact ⟨e, he, s, Gr.refl, rv⟩
theorem wk_tup {K : PySem.W.Frag} {H : Hp} {β : List Addr} {d : D} {a : Addr} {xs : List D} (h : ∀ S β' H' xs, HSim K ca S β' H' → Gr K β H β' H' → seqOf S d = some xs → ∃ vs, SqT K H' a vs ∧ RDs K ca H' β' xs vs) : WK K ca β H (Itt K a) (some (d, xs)) xs where
  go := fun S β' H' i s g st hi => by
    obtain ⟨vs, h1, h2⟩ := h S β' H' xs s g (st _ rfl)
    obtain ⟨x, hx⟩ := get_lt (xs := vs) (i := i) (by rw [← h2.length]; exact hi)
    exact ⟨vs, x, h1, hx⟩
  stop := fun S β' H' s g st => by
    obtain ⟨vs, h1, h2⟩ := h S β' H' xs s g (st _ rfl)
    exact ⟨vs, h1, by rw [h2.length]; exact Nat.le_refl _⟩
  yld := fun S β' H' i x H2 s g st hi y => by
    obtain ⟨rfl, y⟩ := y
    obtain ⟨vs, h1, h2⟩ := h S β' H2 xs s g (st _ rfl)
    obtain ⟨e, he⟩ := get_lt hi
    obtain ⟨v, hv, rv⟩ := h2.get he
    rw [y vs h1] at hv
    cases hv
    exact ⟨e, he, s, Gr.refl, rv⟩
theorem enumL_len : ∀ (k : Nat) (xs : List D), (enumL k xs).length = xs.length
  | _, [] => rfl
  | k, d :: r => by
    unfold enumL
    rw [List.length_cons, List.length_cons, enumL_len]
theorem enumL_get : ∀ (k : Nat) (xs : List D) (i : Nat) (d : D), xs[i]? = some d → (enumL k xs)[i]? = some (.tup [.int ((k + i : Nat) : Int), d])
  | k, [], i, d, h => by cases h
  | k, x :: r, 0, d, h => by
    cases h
    rfl
  | k, x :: r, i + 1, d, h => by
    unfold enumL
    rw [List.getElem?_cons_succ, enumL_get (k + 1) r i d h]
    have e : k + 1 + i = k + (i + 1) := by omega
    rw [e]
theorem enum_yld {K : PySem.W.Frag} {H : Hp} {β : List Addr} {S : Store} {xs : List D} {vs : List V} {i : Nat} {T : Addr} {x : V} (s : HSim K ca S β H) (h2 : RDs K ca H β xs vs) (hi : i < xs.length) (hT : H T = none) (y : vs[i]? = some x) :
    ∃ d, (enumL 0 xs)[i]? = some d ∧ HSim K ca S β (upd H T (.tup [.int (i : Nat), x])) ∧ Gr K β H β (upd H T (.tup [.int (i : Nat), x])) ∧ RD K ca (upd H T (.tup [.int (i : Nat), x])) β d (.ref T) := by
  obtain ⟨e, he⟩ := get_lt hi
  obtain ⟨v, hv, rv⟩ := h2.get he
  rw [y] at hv
  cases hv
  have g : Gr K β H β (upd H T (.tup [.int (i : Nat), x])) := Gr.fresh hT
  refine ⟨_, enumL_get 0 xs i e he, s.fresh hT, g, .tup upd_same (.cons ?_ (.cons (rv.grow g) .nil))⟩
  rw [Nat.zero_add]
  exact .int _
theorem wk_enumL {K : PySem.W.Frag} {H : Hp} {β : List Addr} {d : D} {a : Addr} {xs : List D} (h : ∀ S β' H' xs, HSim K ca S β' H' → Gr K β H β' H' → seqOf S d = some xs → ∃ vs, SqL K H' a vs ∧ RDs K ca H' β' xs vs) : WK K ca β H (Ite K a) (some (d, xs)) (enumL 0 xs) where
  go := fun S β' H' i s g st hi => by
    rw [enumL_len] at hi
    obtain ⟨vs, h1, h2⟩ := h S β' H' xs s g (st _ rfl)
    obtain ⟨x, hx⟩ := get_lt (xs := vs) (i := i) (by rw [← h2.length]; exact hi)
    exact ⟨vs, x, h1, hx⟩
  stop := fun S β' H' s g st => by
    obtain ⟨vs, h1, h2⟩ := h S β' H' xs s g (st _ rfl)
    exact ⟨vs, h1, by rw [enumL_len, h2.length]; exact Nat.le_refl _⟩
  yld := fun S β' H' i x H2 s g st hi y => by
    rw [enumL_len] at hi
    obtain ⟨T, z, rfl, hT, rfl, y⟩ := y
    obtain ⟨vs, h1, h2⟩ := h S β' H' xs s g (st _ rfl)
    exact enum_yld s h2 hi hT (y vs h1)
theorem wk_enumT {K : PySem.W.Frag} {H : Hp} {β : List Addr} {d : D} {a : Addr} {xs : List D} (h : ∀ S β' H' xs, HSim K ca S β' H' → Gr K β H β' H' → seqOf S d = some xs → ∃ vs, SqT K H' a vs ∧ RDs K ca H' β' xs vs) : WK K ca β H (IteT K a) (some (d, xs)) (enumL 0 xs) where
  go := fun S β' H' i s g st hi => by
    rw [enumL_len] at hi
    obtain ⟨vs, h1, h2⟩ := h S β' H' xs s g (st _ rfl)
    obtain ⟨x, hx⟩ := get_lt (xs := vs) (i := i) (by rw [← h2.length]; exact hi)
    exact ⟨vs, x, h1, hx⟩
  stop := fun S β' H' s g st => by
    obtain ⟨vs, h1, h2⟩ := h S β' H' xs s g (st _ rfl)
    exact ⟨vs, h1, by rw [enumL_len, h2.length]⟩
  yld := fun S β' H' i x H2 s g st hi y => by
    rw [enumL_len] at hi
    obtain ⟨T, z, rfl, hT, rfl, y⟩ := y
    obtain ⟨vs, h1, h2⟩ := h S β' H' xs s g (st _ rfl)
    exact enum_yld s h2 hi hT (y vs h1)
theorem rngL_len (lo : Int) (n : Nat) : (rngL lo n).length = n := by unfold rngL; rw [List.length_map, List.length_range]
theorem wk_rng {K : PySem.W.Frag} {H : Hp} {β : List Addr} {lo : Int} {n : Nat} : WK K ca β H (Itr lo n) none (rngL lo n) where
  go := fun S β' H' i s g st hi => by rw [rngL_len] at hi; exact hi
  stop := fun S β' H' s g st => by rw [rngL_len]; exact Nat.le_refl n
  yld := fun S β' H' i x H2 s g st hi y => by
    rw [rngL_len] at hi
    obtain ⟨rfl, rfl⟩ := y
    refine ⟨.int (lo + (i : Nat)), ?_, s, Gr.refl, .int _⟩
    unfold rngL
    rw [List.getElem?_map, List.getElem?_range hi]
    rfl
theorem i_seq {tg e : Expr} {de : DE} (he : PE X e (LE X.K ca R (wpE C de))) : PI X tg e (LI X.K ca R (wpI C (.seq de))) := by
  refine ⟨fun pins s σ H R' I ⟨env, S, β, sm, h⟩ => ?_⟩
  unfold wpI at h
  have key : wpE C de env S (HQ X.K ca β H fun x H1 => (∃ a vs, x = .ref a ∧ SqL X.K H1 a vs ∧ R' (Itl X.K a) H1) ∨ ∃ a vs, x = .ref a ∧ SqT X.K H1 a vs ∧ R' (Itt X.K a) H1) := by
    refine wpE_m _ _ _ _ _ _ (fun d S1 h β1 v H1 s1 g1 r1 => ?_) h
    obtain ⟨xs, hx, q⟩ := onO_some h
    obtain ⟨a, rfl, k⟩ := sqK_of s1 r1 hx
    cases k with
    | lst k =>
      obtain ⟨vs, h1, h2⟩ := k S1 β1 H1 xs s1 Gr.refl hx
      exact .inl ⟨a, vs, rfl, h1, q β1 H1 _ s1 g1 (wk_list k)⟩
    | tup k =>
      obtain ⟨vs, h1, h2⟩ := k S1 β1 H1 xs s1 Gr.refl hx
      exact .inr ⟨a, vs, rfl, h1, q β1 H1 _ s1 g1 (wk_tup k)⟩
  refine thn (he.run pins s σ H _ I ⟨env, S, β, sm, key⟩) fun v s1 ⟨x, H1, I1, r1, q1⟩ => ?_
  rcases q1 with ⟨a, vs, rfl, hq, q⟩ | ⟨a, vs, rfl, hq, q⟩
  · cases r1
    obtain ⟨its, rv, p, hz⟩ := I1.list hq
    refine wpAny_pyIter_list p.isList ?_
    refine ⟨s1.heap.objs.size, [s1.heap.objs.size], _, _, H1, rfl, I1.kept (t' := s1.toks) fun b o e => Heap.get?_push_of_some _ e, turn_list a _, ⟨_, Heap.get?_push_size _ rfl, rfl, rfl⟩, fun b hb => ?_, q⟩
    have e : b = s1.heap.objs.size := by simpa using hb
    subst e
    exact I1.fpOk (Nat.le_refl _) (I1.hok.fresh (Nat.le_refl _))
  · cases r1
    obtain ⟨its, rv, p, hz⟩ := I1.tuple hq
    refine wpAny_pyIter_tuple (show s1.heap.IsTuple a its.toArray from p) ?_
    refine ⟨s1.heap.objs.size, [s1.heap.objs.size], _, _, H1, rfl, I1.kept (t' := s1.toks) fun b o e => Heap.get?_push_of_some _ e, turn_tuple a _, ⟨_, Heap.get?_push_size _ rfl, rfl, rfl⟩, fun b hb => ?_, q⟩
    have e : b = s1.heap.objs.size := by simpa using hb
    subst e
    exact I1.fpOk (Nat.le_refl _) (I1.hok.fresh (Nat.le_refl _))
theorem wk_revlist {K : PySem.W.Frag} {H : Hp} {β : List Addr} {d : D} {a : Addr} {xs : List D} (h : ∀ S β' H' xs, HSim K ca S β' H' → Gr K β H β' H' → seqOf S d = some xs → ∃ vs, SqL K H' a vs ∧ RDs K ca H' β' xs vs) : WK K ca β H (Itv K a xs.length) (some (d, xs)) xs.reverse where
  go := fun S β' H' i s g st hi => by
    rw [List.length_reverse] at hi
    obtain ⟨vs, h1, h2⟩ := h S β' H' xs s g (st _ rfl)
    obtain ⟨x, hx⟩ := get_lt (xs := vs) (i := xs.length - 1 - i) (by rw [← h2.length]; omega)
    exact ⟨hi, vs, x, h1, hx⟩
  stop := fun S β' H' s g st => by rw [List.length_reverse]; exact Nat.le_refl xs.length
  yld := fun S β' H' i x H2 s g st hi y => by
    rw [List.length_reverse] at hi
    obtain ⟨rfl, y⟩ := y
    obtain ⟨vs, h1, h2⟩ := h S β' H2 xs s g (st _ rfl)
    obtain ⟨e, he⟩ := get_lt (xs := xs) (i := xs.length - 1 - i) (by omega)
    obtain ⟨v, hv, rv⟩ := h2.get he
    rw [y vs h1] at hv
    cases hv
    exact ⟨e, by rw [List.getElem?_reverse hi]; exact he, s, Gr.refl, rv⟩
theorem wk_revtup {K : PySem.W.Frag} {H : Hp} {β : List Addr} {d : D} {a : Addr} {xs : List D} (h : ∀ S β' H' xs, HSim K ca S β' H' → Gr K β H β' H' → seqOf S d = some xs → ∃ vs, SqT K H' a vs ∧ RDs K ca H' β' xs vs) : WK K ca β H (RT.ItvT K a xs.length) (some (d, xs)) xs.reverse where
  go := fun S β' H' i s g st hi => by
    rw [List.length_reverse] at hi
    obtain ⟨vs, h1, h2⟩ := h S β' H' xs s g (st _ rfl)
    obtain ⟨x, hx⟩ := get_lt (xs := vs) (i := xs.length - 1 - i) (by rw [← h2.length]; omega)
    exact ⟨hi, vs, x, h1, hx⟩
  stop := fun S β' H' s g st => by rw [List.length_reverse]; exact Nat.le_refl xs.length
  yld := fun S β' H' i x H2 s g st hi y => by
    rw [List.length_reverse] at hi
    obtain ⟨rfl, y⟩ := y
    obtain ⟨vs, h1, h2⟩ := h S β' H2 xs s g (st _ rfl)
    obtain ⟨e, he⟩ := get_lt (xs := xs) (i := xs.length - 1 - i) (by omega)
    obtain ⟨v, hv, rv⟩ := h2.get he
    rw [y vs h1] at hv
    cases hv
    exact ⟨e, by rw [List.getElem?_reverse hi]; exact he, s, Gr.refl, rv⟩
theorem i_rev {tg e : Expr} {de : DE} {p : Pos} (hg : Gl X "reversed") (hm : X.mg "reversed" = none) (hp : plainE e = true) (he : PE X e (LE X.K ca R (wpE C de))) : PI X tg (.Call (.Name "reversed" p) [e] [] pos) (LI X.K ca R (wpI C (.rev de))) := by
  refine PI.imp (RT.pi_revA hg hm he (starEach_cons hp)) fun σ H R' ⟨env, S, β, sm, h⟩ => ?_
  unfold wpI at h
  refine ⟨env, S, β, sm, wpE_m _ _ _ _ _ _ (fun d S1 h β1 v H1 s1 g1 r1 => ?_) h⟩
  obtain ⟨xs, hx, q⟩ := onO_some h
  obtain ⟨a, rfl, k⟩ := sqK_of s1 r1 hx
  cases k with
  | lst k =>
    obtain ⟨vs, h1, h2⟩ := k S1 β1 H1 xs s1 Gr.refl hx
    refine ⟨a, vs, rfl, .inl ⟨h1, ?_⟩⟩
    rw [← h2.length]
    exact q β1 H1 _ s1 g1 (wk_revlist k)
  | tup k =>
    obtain ⟨vs, h1, h2⟩ := k S1 β1 H1 xs s1 Gr.refl hx
    refine ⟨a, vs, rfl, .inr ⟨h1, ?_⟩⟩
    rw [← h2.length]
    exact q β1 H1 _ s1 g1 (wk_revtup k)
theorem i_enum {e : Expr} {de : DE} {elts : List Expr} {kk : Nat} {tpos p : Pos} (hg : Gl X "enumerate") (hm : X.mg "enumerate" = none) (hp : plainE e = true) (he : PE X e (LE X.K ca R (wpE C de))) :
    PI X (.Tuple elts kk tpos) (.Call (.Name "enumerate" p) [e] [] pos) (LI X.K ca R (wpI C (.enum de))) := by
  refine PI.imp (pi_enumA hg hm (pa_cons he pa_nil (starEach_cons hp)) (starEach_cons hp)) fun σ H R' ⟨env, S, β, sm, h⟩ => ?_
  unfold wpI at h
  refine ⟨env, S, β, sm, wpE_m _ _ _ _ _ _ (fun d S1 h β1 v H1 s1 g1 r1 => ?_) h⟩
  obtain ⟨xs, hx, q⟩ := onO_some h
  obtain ⟨a, rfl, k⟩ := sqK_of s1 r1 hx
  cases k with
  | lst k =>
    obtain ⟨vs, h1, h2⟩ := k S1 β1 H1 xs s1 Gr.refl hx
    exact ⟨a, vs, rfl, .inl ⟨h1, q β1 H1 _ s1 g1 (wk_enumL k)⟩⟩
  | tup k =>
    obtain ⟨vs, h1, h2⟩ := k S1 β1 H1 xs s1 Gr.refl hx
    exact ⟨a, vs, rfl, .inr ⟨h1, q β1 H1 _ s1 g1 (wk_enumT k)⟩⟩
theorem wpEs_cnt {f : Expr → Option DE} : ∀ {es : List Expr} {ds : DEs} {env : DEnv} {S : Store} {Q : List D → Store → Prop}, compL f es = some ds → wpEs C ds env S Q → wpEs C ds env S fun l S' => l.length = es.length ∧ Q l S'
  | [], ds, env, S, Q, h, q => by
    cases h
    unfold wpEs at q ⊢
    exact ⟨rfl, q⟩
  | e :: es, ds, env, S, Q, h, q => by
    obtain ⟨hp, d, r, rfl, e1, e2⟩ := compL_cons h
    unfold wpEs at q ⊢
    refine wpE_m _ _ _ _ _ _ (fun x S1 q => wpEs_m _ _ _ _ _ _ (fun l S2 q => ?_) (wpEs_cnt e2 q)) q
    exact ⟨by rw [List.length_cons, List.length_cons, q.1], q.2⟩
theorem i_rng {tg : Expr} {f : Expr → Option DE} {es : List Expr} {ds : DEs} {p : Pos} (hg : Gl X "range") (hm : X.mg "range" = none) (hl : compL f es = some ds) (ha : PA X es (LA X.K ca R (wpEs C ds))) (hn : es.length = 1 ∨ es.length = 2) :
    PI X tg (.Call (.Name "range" p) es [] pos) (LI X.K ca R (wpI C (.rng ds))) := by
  match es, hl, ha, hn with
  | [], hl, ha, hn => simp at hn
  | [a], hl, ha, hn =>
    obtain ⟨hp, d, r, rfl, e1, e2⟩ := compL_cons hl
    refine PI.imp (pi_range1 hg hm ha (starEach_cons hp)) fun σ H R' ⟨env, S, β, sm, h⟩ => ?_
    unfold wpI at h
    refine ⟨env, S, β, sm, wpEs_m _ _ _ _ _ _ (fun ds S1 h β1 vs H1 s1 g1 r1 => ?_) (wpEs_cnt hl h)⟩
    obtain ⟨hc, h⟩ := h
    obtain ⟨xs, hx, q⟩ := onO_some h
    unfold rngD at hx
    split at hx
    · split at hx
      · rename_i hb
        cases hx
        obtain ⟨v, rfl, r2⟩ := rds1 r1
        cases r2
        exact ⟨_, rfl, hb.1, hb.2, q β1 H1 _ s1 g1 wk_rng⟩
      · cases hx
    · simp at hc
    · cases hx
  | [a, b], hl, ha, hn =>
    have hl0 := hl
    obtain ⟨hp, d, r, rfl, e1, e2⟩ := compL_cons hl
    obtain ⟨hp2, d2, r2, rfl, e3, e4⟩ := compL_cons e2
    refine PI.imp (pi_range2 hg hm ha (by rw [starEach_cons hp, starEach_cons hp2]; rfl) (starEach_cons hp2)) fun σ H R' ⟨env, S, β, sm, h⟩ => ?_
    unfold wpI at h
    refine ⟨env, S, β, sm, wpEs_m _ _ _ _ _ _ (fun ds S1 h β1 vs H1 s1 g1 r1 => ?_) (wpEs_cnt hl0 h)⟩
    obtain ⟨hc, h⟩ := h
    obtain ⟨xs, hx, q⟩ := onO_some h
    unfold rngD at hx
    split at hx
    · simp at hc
    · split at hx
      · rename_i hb
        cases hx
        obtain ⟨v, w, rfl, r2, r3⟩ := rds2 r1
        cases r2
        cases r3
        exact ⟨_, _, rfl, hb, q β1 H1 _ s1 g1 wk_rng⟩
      · cases hx
    · cases hx
  | _ :: _ :: _ :: _, hl, ha, hn => simp at hn
theorem sI {E : Expr → Option DE} (o : XOk ca R X c C) (hE : ∀ e de, E e = some de → PE X e (LE X.K ca R (wpE C de))) {tg e : Expr} {it : DI} (h : compI E c (isTup tg) e = some it) : PI X tg e (LI X.K ca R (wpI C it)) := by
  unfold compI at h
  split at h
  · split at h
    · rename_i hg
      split at h
      · rename_i hn
        obtain ⟨ds, hd, rfl⟩ := Option.map_eq_some_iff.mp h
        obtain ⟨h1, h2, h3, h4⟩ := o.glob hg
        obtain ⟨hm, rfl⟩ := o.gl _ _ h4
        exact i_rng h1 hm hd (sL hE _ _ hd) (by simpa using hn)
      · cases h
    · rename_i hg
      split at h
      · split at h
        · rename_i hpt
          obtain ⟨hp, ht⟩ := Bool.and_eq_true_iff.mp hpt
          obtain ⟨d, hd, rfl⟩ := Option.map_eq_some_iff.mp h
          obtain ⟨h1, h2, h3, h4⟩ := o.glob hg
          obtain ⟨hm, rfl⟩ := o.gl _ _ h4
          cases tg <;> first
            | exact i_enum h1 hm hp (hE _ _ hd)
            | cases ht
        · cases h
      · cases h
    · rename_i hg
      split at h
      · split at h
        · rename_i hp
          obtain ⟨d, hd, rfl⟩ := Option.map_eq_some_iff.mp h
          obtain ⟨h1, h2, h3, h4⟩ := o.glob hg
          obtain ⟨hm, rfl⟩ := o.gl _ _ h4
          exact i_rev h1 hm hp (hE _ _ hd)
        · cases h
      · cases h
    · obtain ⟨d, hd, rfl⟩ := Option.map_eq_some_iff.mp h
      exact i_seq (hE _ _ hd)
  · split at h
    · obtain ⟨d, hd, rfl⟩ := Option.map_eq_some_iff.mp h
      exact i_seq (hE _ _ hd)
    · cases h
theorem compI_set {E : Expr → Option DE} {e : Expr} {env : Env} (h : noSet e = true) : ∀ x, foldedSetIterable e env x = pure x := by
  intro x
  cases e <;> first
    | rfl
    | cases h
end
end PD

set_option Elab.async false
set_option linter.all false
set_option maxRecDepth 100000
set_option maxHeartbeats 4000000
namespace PD
open PySem PySem.Spec PyProof.Rows L2
theorem wipe_in {σ : L2.St} {i : Nat} : ∀ {vs : List Nat}, i ∈ vs → (wipe σ vs)[i]? = if i < σ.length then some none else none
  | [], h => by cases h
  | v :: vs, h => by
    unfold wipe
    by_cases e : i = v
    · subst e
      by_cases hl : i < σ.length
      · rw [if_pos hl, List.getElem?_set_self (by rw [wipe_length]; exact hl)]
      · rw [if_neg hl]
        exact List.getElem?_eq_none (by rw [List.length_set, wipe_length]; omega)
    · rw [List.getElem?_set_ne (Ne.symm e)]
      exact wipe_in ((List.mem_cons.mp h).resolve_left e)
theorem wipe_eq {σ τ : L2.St} {vs : List Nat} (hl : τ.length = σ.length) (h : ∀ i, i ∉ vs → τ[i]? = (wipe σ vs)[i]?) : wipe τ vs = wipe σ vs := by
  refine List.ext_getElem? fun i => ?_
  by_cases hi : i ∈ vs
  · rw [wipe_in hi, wipe_in hi, hl]
  · rw [wipe_out hi, h i hi]
theorem wipeD_len (env : DEnv) : ∀ vs : List Nat, (wipeD env vs).length = env.length
  | [] => rfl
  | v :: vs => by unfold wipeD; rw [List.length_set, wipeD_len]
theorem wipeD_some {env : DEnv} {i : Nat} {d : D} : ∀ {vs : List Nat}, (wipeD env vs)[i]? = some (some d) → env[i]? = some (some d) ∧ i ∉ vs
  | [], h => ⟨h, fun z => (nomatch z)⟩
  | v :: vs, h => by
    unfold wipeD at h
    by_cases e : i = v
    · subst e
      by_cases hl : i < (wipeD env vs).length
      · rw [List.getElem?_set_self hl] at h
        cases h
      · rw [List.getElem?_eq_none (by rw [List.length_set]; omega)] at h
        cases h
    · rw [List.getElem?_set_ne (Ne.symm e)] at h
      obtain ⟨a, b⟩ := wipeD_some h
      exact ⟨a, fun z => (List.mem_cons.mp z).elim e b⟩
theorem Sim.wipe {K : PySem.W.Frag} {ca : Nat → Addr} {R : Root} {env : DEnv} {S : Store} {β : List Addr} {σ : L2.St} {H : Hp} (s : Sim K ca R env S β σ H) (vs : List Nat) (hx : ∀ x, R.exn = some x → x.slot = none) : Sim K ca R (wipeD env vs) S β (L2.wipe σ vs) H where
  h := s.h
  el := by rw [wipeD_len, L2.wipe_length]; exact s.el
  ev := fun i d e => by
    obtain ⟨a, b⟩ := wipeD_some e
    rw [wipe_out b]
    exact s.ev i d a
  gr := s.gr
  ex := fun x e => ⟨fun i hi => (by rw [hx x e] at hi; cases hi), (s.ex x e).2⟩
section
variable {ca : Nat → Addr} {R : Root} {X : Cx} {c : Ctx} {C : SC} {pos : Pos}
abbrev SC.mute (C : SC) : SC := { C with xq := fun _ _ _ => False }
theorem XOk.nosuite (o : XOk ca R X c C) (hc : c.calm = true) : c.exn = none := by
  cases e : c.exn with
  | none => rfl
  | some n =>
    obtain ⟨X0, c0, a, oe, pn, cls, d, er, i, hX, _⟩ := o.exn n e
    have := o.calm hc
    rw [hX] at this
    cases this
theorem XOk.blk (o : XOk ca R X c C) (hc : c.calm = true) (scope : Scope) (s : Shared) (H : Hp) (A : Addr) (cl : List (Str × Addr)) (fp : List Addr) : XOk ca R (X.blk s H scope (compEnvC scope cl A X.env) fp) (blkCtx c scope) C.mute where
  N := o.N
  nd := o.nd
  sc := by
    show relS scope X.env.scope = relS scope c.sc
    rw [o.sc]
  calm := fun _ => o.calm hc
  fn := fun h => by cases h
  un := o.un
  gl := fun x g h => by
    have := o.gl x g h
    cases g with
    | bi b => cases b <;> exact this
    | _ => exact this
  fs := fun _ x i h => o.fs hc x i h
  ms := fun _ t h m k i z => o.ms hc t h m k i z
  nw := fun _ x k i h => o.nw hc x k i h
  cn := o.cn
  na := o.na
  rs := fun h => by cases h
  ks := fun h => by cases h
  po := PassesOwn.never
  tk := ⟨fun _ _ _ _ => False, takes0, fun _ _ _ _ _ _ _ _ h _ _ => h⟩
  top := fun h => by cases h
  exs := o.exs
  exn := fun n h => by
    have : c.exn = some n := h
    rw [o.nosuite hc] at this
    cases this
mutual
theorem inT_of {own : List Nat} : ∀ {t : DT}, ownT own t = true → inT (fun i => i ∈ own) t
  | .nm i, h => by
    unfold ownT at h
    exact List.contains_iff_mem.mp h
  | .tp ts, h => by
    unfold ownT at h
    exact inTs_of h
  | .sub _ _, h => by cases h
theorem inTs_of {own : List Nat} : ∀ {ts : DTs}, ownTs own ts = true → inTs (fun i => i ∈ own) ts
  | .nil, h => trivial
  | .cons t ts, h => by
    unfold ownTs at h
    obtain ⟨a, b⟩ := Bool.and_eq_true_iff.mp h
    exact ⟨inT_of a, inTs_of b⟩
end
/-- a comprehension's test -/
def ttOf (K : PySem.W.Frag) (ca : Nat → Addr) (R : Root) (C : SC) : DO → TT
  | .none => tYes
  | .some d => LT K ca R (wpE C d)
theorem lc_read (o : XOk ca R X c C) (hc : c.calm = true) {t : DT} {own : List Nat} {it : DI} {oc : DO} {de : DE} (σ : L2.St) (H : Hp) (Q : VK) (h : LE X.K ca R (wpE C (.lc own t it oc de)) σ H Q) :
    tLc (LI X.K ca R (wpI C it)) (LG X.K ca R (fun i => i ∈ own) (wpT C.mute t)) (ttOf X.K ca R C.mute oc) (LE X.K ca R (wpE C.mute de)) own σ H Q := by
  obtain ⟨env, S, β, sm, h⟩ := h
  have hx : ∀ x, R.exn = some x → x.slot = none := fun x hx => by
    cases e : x.slot with
    | none => rfl
    | some i =>
      obtain ⟨n, hn, _⟩ := o.exs x hx i e
      rw [o.nosuite hc] at hn
      cases hn
  unfold wpE at h
  refine ⟨env, S, β, sm, wpI_m _ _ _ _ _ _ (fun src items S1 h β1 H1 J s1 g1 wk Da hD => ?_) h⟩
  obtain ⟨st1, h⟩ := h
  have s2 := s1.lst hD (xs := []) (vs := []) .nil
  have g2 : Gr X.K β1 H1 (β1 ++ [Da]) (upd H1 Da (.lst [])) := grow_alloc hD
  have hn2 : (β1 ++ [Da])[S1.length]? = some Da := by rw [← s1.len, List.getElem?_append_right (Nat.le_refl _), Nat.sub_self]; rfl
  -- the source is older than the new list
  have hsrc : ∀ S' ys, still src S' → still src (S'.set S1.length (.lst ys)) := fun S' ys hst p hp => by
    have e := hst p hp
    obtain ⟨d, xs⟩ := p
    cases d with
    | ref k =>
      have hk : k ≠ S1.length := by
        rintro rfl
        have e1 := st1 _ hp
        unfold seqOf at e1
        dsimp only at e1
        rw [List.getElem?_eq_none (Nat.le_refl _)] at e1
        cases e1
      show seqOf (S'.set S1.length (.lst ys)) (.ref k) = some xs
      have e' : seqOf S' (.ref k) = some xs := e
      unfold seqOf at e' ⊢
      dsimp only at e' ⊢
      rw [List.getElem?_set_ne (Ne.symm hk)]
      exact e'
    | _ => exact e
  have st2 : still src (S1 ++ [.lst []]) := fun p hp => by
    have e := st1 p hp
    obtain ⟨d, xs⟩ := p
    cases d with
    | ref k =>
      have e' : seqOf S1 (.ref k) = some xs := e
      show seqOf (S1 ++ [.lst []]) (.ref k) = some xs
      unfold seqOf at e' ⊢
      dsimp only at e' ⊢
      have hk : k < S1.length := by
        rcases Nat.lt_or_ge k S1.length with z | z
        · exact z
        · rw [List.getElem?_eq_none z] at e'; cases e'
      rw [List.getElem?_append_left hk]
      exact e'
    | _ => exact e
  obtain ⟨step, hstep, h⟩ : ∃ step : D → Store → (Option D → Store → Prop) → Prop, (∀ d S2 K, step d S2 K → wpT C.mute t d (wipeD env own) S2 fun env1 S3 =>
        wpO C.mute oc env1 S3 fun o S4 => match o with
          | none => wpE C.mute de env1 S4 fun y S5 => K (some y) S5
          | some x => onO (truth S4 x) fun k => if k = true then wpE C.mute de env1 S4 fun y S5 => K (some y) S5 else K none S4) ∧
      lcGo src S1.length step items (S1 ++ [.lst []]) fun S2 => HQ X.K ca β H Q (.ref S1.length) S2 := ⟨_, fun _ _ _ h => h, h⟩
  refine ⟨fun i m H' => ∃ S' β', i + m = items.length ∧ HSim X.K ca S' β' H' ∧ Gr X.K (β1 ++ [Da]) (upd H1 Da (.lst [])) β' H' ∧ still src S' ∧ lcGo src S1.length step (items.drop i) S' fun S2 => HQ X.K ca β H Q (.ref S1.length) S2,
    ⟨items.length, _, _, Nat.zero_add _, s2, Gr.refl, st2, by rw [List.drop_zero]; exact h⟩, fun i m H' hW => ?_⟩
  obtain ⟨S', β', him, s', g', st', h⟩ := hW
  rcases Nat.lt_or_ge i items.length with hi | hi
  · refine .inr ⟨wk.go S' β' H' i s' (g2.trans g') st' hi, fun H2 => ∃ S' β', HSim X.K ca S' β' H2 ∧ Gr X.K (β1 ++ [Da]) (upd H1 Da (.lst [])) β' H2 ∧ still src S' ∧ lcGo src S1.length step (items.drop (i + 1)) S' fun S2 => HQ X.K ca β H Q (.ref S1.length) S2, fun H2 ⟨S2, β2, a, b, c', d⟩ => ⟨m - 1, by omega, S2, β2, by omega, a, b, c', d⟩, fun x H2 hy => ?_⟩
    obtain ⟨d, hd, s3, g3, r3⟩ := wk.yld S' β' H' i x H2 s' (g2.trans g') st' hi hy
    have hdrop : items.drop i = d :: items.drop (i + 1) := by
      rw [List.drop_eq_getElem_cons hi]
      rw [List.getElem?_eq_getElem hi] at hd
      cases hd
      rfl
    rw [hdrop] at h
    unfold lcGo at h
    replace h := hstep _ _ _ h
    have smw : Sim X.K ca R (wipeD env own) S' β' (wipe σ own) H2 := ((((sm.grow s1 g1).grow s2 g2).grow s' g').grow s3 g3).wipe _ hx
    refine ⟨_, S', β', d, smw, r3, wpT_m _ _ _ _ _ _ _ (fun env1 S3 h β3 σ3 H3 s4 g4 l4 k4 => ⟨wipe_eq (by rw [l4, wipe_length]) k4, ?_⟩) h⟩
    -- what an item does
    have hput : ∀ (S4 : Store) (β4 : List Addr) (H4 : Hp), HSim X.K ca S4 β4 H4 → Gr X.K β3 H3 β4 H4 →
        (wpE C.mute de env1 S4 fun y S5 => still src S5 ∧ match S5[S1.length]? with
          | some (.lst acc) => acc.length < sizeLine ∧ lcGo src S1.length step (items.drop (i + 1)) (S5.set S1.length (.lst (acc ++ [y]))) fun S2 => HQ X.K ca β H Q (.ref S1.length) S2
          | _ => False) →
        LE X.K ca R (wpE C.mute de) σ3 H4 fun y H5 => ∃ acc, H5 Da = some (.lst acc) ∧ acc.length < sizeLine ∧ ∃ S' β', HSim X.K ca S' β' (upd H5 Da (.lst (acc ++ [y]))) ∧ Gr X.K (β1 ++ [Da]) (upd H1 Da (.lst [])) β' (upd H5 Da (.lst (acc ++ [y]))) ∧ still src S' ∧
          lcGo src S1.length step (items.drop (i + 1)) S' fun S2 => HQ X.K ca β H Q (.ref S1.length) S2 := fun S4 β4 H4 s5 g5 h => by
      refine ⟨env1, S4, β4, s4.grow s5 g5, wpE_m _ _ _ _ _ _ (fun y S5 h β5 v H5 s6 g6 r6 => ?_) h⟩
      obtain ⟨st5, h⟩ := h
      split at h
      · rename_i acc hacc
        have gg : Gr X.K (β1 ++ [Da]) (upd H1 Da (.lst [])) β5 H5 := (((g'.trans g3).trans g4).trans g5).trans g6
        have hb5 : β5[S1.length]? = some Da := gg.pre _ _ hn2
        obtain ⟨vs, hv, hr⟩ : ∃ vs, H5 Da = some (.lst vs) ∧ RDs X.K ca H5 β5 acc vs := s6.ob _ _ _ hacc hb5
        obtain ⟨s7, g7⟩ := s6.wr hacc hb5 (hr.app (.cons r6 .nil))
        exact ⟨vs, hv, by rw [← hr.length]; exact h.1, _, β5, s7, gg.trans g7, hsrc _ _ st5, h.2⟩
      · exact h.elim
    cases oc with
    | none =>
      unfold wpO at h
      have et : ttOf X.K ca R C.mute .none = tYes := rfl
      rw [et]
      unfold tYes
      dsimp only
      rw [if_pos rfl]
      exact hput S3 β3 H3 s4.h Gr.refl h
    | some dc =>
      unfold wpO at h
      refine ⟨env1, S3, β3, s4, wpE_m _ _ _ _ _ _ (fun x S4 h => ?_) h⟩
      unfold HB
      refine onO_mono (fun k h β4 H4 s5 g5 => ?_) h
      cases k with
      | true =>
        rw [if_pos rfl] at h
        rw [if_pos rfl]
        exact hput S4 β4 H4 s5 g5 h
      | false =>
        rw [if_neg (by decide)] at h
        rw [if_neg (by decide)]
        exact ⟨S4, β4, s5, ((g'.trans g3).trans g4).trans g5, h.1, h.2⟩
  · have e : i = items.length := by omega
    subst e
    rw [List.drop_length] at h
    unfold lcGo at h
    exact .inl ⟨wk.stop S' β' H' s' (g2.trans g') st', h β' (.ref Da) H' s' ((g1.trans g2).trans g') (.ref (g'.pre _ _ hn2))⟩
theorem e_lc (o : XOk ca R X c C) (hc : c.calm = true) {elt tg iter : Expr} {ifs : List Expr} {scope : Scope} {own : List (Str × Nat)} {t : DT} {it : DI} {oc : DO} {de : DE} (hb : blkC c.N c.sc scope own = true) (hset : noSet iter = true)
    (hi : PI X tg iter (LI X.K ca R (wpI C it)))
    (hg : ∀ (s : Shared) (H : Hp) (A : Addr) (cl : List (Str × Addr)) (fp : List Addr), PG (X.blk s H scope (compEnvC scope cl A X.env) fp) tg (LG X.K ca R (fun i => i ∈ own.map (·.2)) (wpT C.mute t)))
    (ht : ∀ (s : Shared) (H : Hp) (A : Addr) (cl : List (Str × Addr)) (fp : List Addr), PTs (X.blk s H scope (compEnvC scope cl A X.env) fp) ifs (ttOf X.K ca R C.mute oc))
    (he : ∀ (s : Shared) (H : Hp) (A : Addr) (cl : List (Str × Addr)) (fp : List Addr), PE (X.blk s H scope (compEnvC scope cl A X.env) fp) elt (LE X.K ca R (wpE C.mute de))) :
    PE X (.ListComp elt [⟨tg, iter, ifs, 0⟩] scope pos) (LE X.K ca R (wpE C (.lc (own.map (·.2)) t it oc de))) := by
  exact PE.imp (pe_lc (own := own) (o.calm hc) (by rw [o.N]; exact o.nd) hi (by rw [o.N, o.sc]; exact blkOk_by hb) hg ht he (compI_set (E := fun _ => none) hset)) fun σ H Q h => lc_read o hc σ H Q h
/-- name = [..] on one line -/
theorem s_lc (o : XOk ca R X c C) (hc : c.calm = true) {elt tg iter : Expr} {ifs : List Expr} {scope : Scope} {own : List (Str × Nat)} {t : DT} {it : DI} {oc : DO} {de : DE} {y : Str} {i : Nat} {py spos : Pos} (hb : blkC c.N c.sc scope own = true) (hset : noSet iter = true)
    (hi : PI X tg iter (LI X.K ca R (wpI C it)))
    (hg : ∀ (s : Shared) (H : Hp) (A : Addr) (cl : List (Str × Addr)) (fp : List Addr), PG (X.blk s H scope (compEnvC scope cl A X.env) fp) tg (LG X.K ca R (fun i => i ∈ own.map (·.2)) (wpT C.mute t)))
    (ht : ∀ (s : Shared) (H : Hp) (A : Addr) (cl : List (Str × Addr)) (fp : List Addr), PTs (X.blk s H scope (compEnvC scope cl A X.env) fp) ifs (ttOf X.K ca R C.mute oc))
    (he : ∀ (s : Shared) (H : Hp) (A : Addr) (cl : List (Str × Addr)) (fp : List Addr), PE (X.blk s H scope (compEnvC scope cl A X.env) fp) elt (LE X.K ca R (wpE C.mute de)))
    (hy : ixOf y c.N 0 = some i) (hyl : kindL c y = some .local) (hk : c.sc.kind = .function) (hl : (py.line == pos.line) = true) (ha : (scope.names.any fun (n, k) => n == y && (k == .local || k == .cell)) = false) :
    PS X (.Assign [.Name y py] (.ListComp elt [⟨tg, iter, ifs, 0⟩] scope pos) spos) (tAsg (LE X.K ca R (wpE C (.lc (own.map (·.2)) t it oc de))) (gName i)) := by
  have hyl' : X.env.scope.names.lookup y = some .local := by rw [o.sc]; exact hyl
  refine ⟨fun pins s σ H D I h => ?_⟩
  exact (ps_setLc (own := own) (o.calm hc) (by rw [o.N]; exact o.nd) (by rw [o.N]; exact ixOf_at hy) hyl' (sw_true (by rw [o.sc]; exact hk) hyl' hl ha) hi (by rw [o.N, o.sc]; exact blkOk_by hb) hg ht he (compI_set (E := fun _ => none) hset)).run pins s σ H D I (lc_read o hc σ H _ h)
end
end PD

set_option Elab.async false
set_option linter.all false
set_option maxRecDepth 100000
set_option maxHeartbeats 4000000
namespace PD
open PySem PySem.Spec PyProof.Rows L2
theorem okN_1 {x : Str} (h : okN x = true) : (x == ("__debug__" : Str)) = false ∧ (x == ("__classdict__" : Str)) = false := by
  unfold okN at h
  have h' : (x == ("__debug__" : Str) || x == ("__classdict__" : Str)) = false := by simpa using h
  exact Bool.or_eq_false_iff.mp h'
/-- the compiled text is sound, to the depth n -/
structure SP (n : Nat) : Prop where
  E : ∀ {ca : Nat → Addr} {R : Root} {X : Cx} {c : Ctx} {C : SC}, XOk ca R X c C → ∀ e de, compE n c e = some de → PE X e (LE X.K ca R (wpE C de))
  T : ∀ {ca : Nat → Addr} {R : Root} {X : Cx} {c : Ctx} {C : SC}, XOk ca R X c C → ∀ e de, noIf n e = true → compE n c e = some de → PT X e (LT X.K ca R (wpE C de))
  W : ∀ {ca : Nat → Addr} {R : Root} {X : Cx} {c : Ctx} {C : SC}, XOk ca R X c C → ∀ op es pos de, noIf n (.BoolOp op es pos) = true → compE n c (.BoolOp op es pos) = some de → PW X (.BoolOp op es pos) (LT X.K ca R (wpE C de))
section
variable {ca : Nat → Addr} {R : Root} {X : Cx} {c : Ctx} {C : SC} {n : Nat}
theorem lc_inv (ih : SP n) (o : XOk ca R X c C) {elt : Expr} {gs : List Comprehension} {scope : Scope} {pos : Pos} {de : DE} (h : compE (n + 1) c (.ListComp elt gs scope pos) = some de) :
    ∃ (tg iter : Expr) (ifs : List Expr) (t : DT) (it : DI) (oc : DO) (dx : DE) (own : List (Str × Nat)), gs = [⟨tg, iter, ifs, 0⟩] ∧ de = .lc (own.map (·.2)) t it oc dx ∧ c.calm = true ∧ blkC c.N c.sc scope own = true ∧ noSet iter = true ∧
      PI X tg iter (LI X.K ca R (wpI C it)) ∧
      (∀ (s : Shared) (H : Hp) (A : Addr) (cl : List (Str × Addr)) (fp : List Addr), PG (X.blk s H scope (compEnvC scope cl A X.env) fp) tg (LG X.K ca R (fun i => i ∈ own.map (·.2)) (wpT C.mute t))) ∧
      (∀ (s : Shared) (H : Hp) (A : Addr) (cl : List (Str × Addr)) (fp : List Addr), PTs (X.blk s H scope (compEnvC scope cl A X.env) fp) ifs (ttOf X.K ca R C.mute oc)) ∧
      (∀ (s : Shared) (H : Hp) (A : Addr) (cl : List (Str × Addr)) (fp : List Addr), PE (X.blk s H scope (compEnvC scope cl A X.env) fp) elt (LE X.K ca R (wpE C.mute dx))) := by
  unfold compE at h
  dsimp only at h
  split at h <;> first
    | (rename_i heq; cases heq; done)
    | skip
  · rename_i heq
    cases heq
    split at h
    · rename_i hc
      obtain ⟨hc, hset⟩ := Bool.and_eq_true_iff.mp hc
      obtain ⟨hc, hb⟩ := Bool.and_eq_true_iff.mp hc
      split at h
      · rename_i it t x oc e1 e2 e3 e4
        split at h
        · rename_i hown
          cases h
          refine ⟨_, _, _, t, it, oc, x, _, rfl, rfl, hc, hb, hset, sI o (fun e de => ih.E o e de) e1, fun s H A cl fp => ?_, fun s H A cl fp => ?_, fun s H A cl fp => ?_⟩
          · exact sN (o.blk hc _ s H A cl fp) _ _ _ e2 (inT_of hown)
          · have o2 := o.blk hc scope s H A cl fp
            unfold compC at e4
            split at e4
            · cases e4; exact pts_nil
            · split at e4
              · rename_i hn
                obtain ⟨y, hy, rfl⟩ := Option.map_eq_some_iff.mp e4
                exact pts_one (ih.T o2 _ _ hn hy)
              · cases e4
            · cases e4
          · exact ih.E (o.blk hc _ s H A cl fp) _ _ e3
        · cases h
      · cases h
    · cases h
  · cases h
theorem lc_case (ih : SP n) (o : XOk ca R X c C) {elt : Expr} {gs : List Comprehension} {scope : Scope} {pos : Pos} {de : DE} (h : compE (n + 1) c (.ListComp elt gs scope pos) = some de) : PE X (.ListComp elt gs scope pos) (LE X.K ca R (wpE C de)) := by
  obtain ⟨tg, iter, ifs, t, it, oc, dx, own, rfl, rfl, hc, hb, hset, hi, hg, ht, he⟩ := lc_inv ih o h
  exact e_lc o hc hb hset hi hg ht he
theorem sp_E (ih : SP n) (o : XOk ca R X c C) (e : Expr) (de : DE) (h : compE (n + 1) c e = some de) : PE X e (LE X.K ca R (wpE C de)) := by
  have h0 := h
  unfold compE at h
  dsimp only at h
  split at h
  · -- a name
    split at h
    · cases h
    · rename_i hk
      obtain ⟨k1, k2⟩ := okN_1 (by simpa using hk)
      split at h
      · cases h
      · rename_i hx
        split at h
        · rename_i i hs
          cases h
          exact e_var o hs k1 k2
        · split at h
          · rename_i hg
            cases h
            obtain ⟨h1, h2, h3, h4⟩ := o.glob hg
            have g := o.gl _ _ h4
            exact e_cst (v := .ty _) (pe_bltn h1 g.1 g.2 rfl h3 h2) fun H β => .ty _
          · rename_i hg
            cases h
            obtain ⟨h1, h2, h3, h4⟩ := o.glob hg
            obtain ⟨u, v, g1, g2, g3⟩ := o.gl _ _ h4
            exact e_cst (pe_glob h1 g1 g2 h2) g3
          · rename_i hg
            cases h
            obtain ⟨h1, h2, h3, h4⟩ := o.glob hg
            have g := o.gl _ _ h4
            exact e_cst (v := .ty _) (pe_bltn h1 g.1 g.2 rfl h3 h2) fun H β => .ty _
          · rename_i hg
            cases h
            obtain ⟨h1, h2, h3, h4⟩ := o.glob hg
            exact e_cst (v := .ref _) (pe_glob h1 (o.gl _ _ h4) rfl h2) fun H β => .own _
          · rename_i hg
            cases h
            obtain ⟨h1, h2, h3, h4⟩ := o.glob hg
            exact e_cst (v := .ref _) (pe_glob h1 (o.gl _ _ h4) rfl h2) fun H β => .own _
          · rename_i hg
            cases h
            obtain ⟨h1, h2, h3, h4⟩ := o.glob hg
            exact e_cst (v := .ref _) (pe_glob h1 (o.gl _ _ h4) rfl h2) fun H β => .own _
          · rename_i hg
            cases h
            obtain ⟨h1, h2, h3, h4⟩ := o.glob hg
            exact e_cst (v := .ref _) (pe_glob h1 (o.gl _ _ h4) rfl h2) fun H β => .own _
          · cases h
  · cases h; exact e_cst pe_int fun H β => .int _
  · cases h; exact e_cst pe_bl fun H β => .bl _
  · cases h; exact e_cst pe_non fun H β => .non
  · cases h; exact e_cst pe_str fun H β => .str _
  · -- an operator
    split at h
    · rename_i e1 e2 e3
      cases h
      have := opB_inv e1
      subst this
      exact e_bin (ih.E o _ _ e2) (ih.E o _ _ e3)
    · cases h
  · obtain ⟨x, hx, rfl⟩ := Option.map_eq_some_iff.mp h
    exact e_neg (ih.E o _ _ hx)
  · obtain ⟨x, hx, rfl⟩ := Option.map_eq_some_iff.mp h
    exact e_not (ih.E o _ _ hx)
  · split at h
    · cases h
    · rename_i hm
      split at h
      · rename_i e1 e2
        cases h
        exact e_cmp o.un (ih.E o _ _ e1) (ih.E o _ _ e2) (by simpa using hm)
      · cases h
  · split at h
    · cases h
    · rename_i hm
      split at h
      · rename_i e1 e2 e3
        cases h
        exact e_chn o.un (ih.E o _ _ e1) (ih.E o _ _ e2) (ih.E o _ _ e3) (by simpa using hm)
      · cases h
  · exact pe_one (ih.E o _ _ h)
  · split at h
    · rename_i e1 e2
      cases h
      exact e_and (ih.E o _ _ e1) (ih.E o _ _ e2)
    · cases h
  · split at h
    · rename_i e1 e2
      cases h
      exact e_or (ih.E o _ _ e1) (ih.E o _ _ e2)
    · cases h
  · split at h
    · rename_i hn
      split at h
      · rename_i e1 e2 e3
        cases h
        exact e_ife (ih.T o _ _ hn e1) (ih.E o _ _ e2) (ih.E o _ _ e3)
      · cases h
    · cases h
  · -- a call of a name
    split at h
    · rename_i hg
      split at h
      · rename_i hc
        obtain ⟨ds, hd, rfl⟩ := Option.map_eq_some_iff.mp h
        exact e_call o hc hg hd (sL (fun e de => ih.E o e de) _ _ hd)
      · cases h
    · rename_i hg
      split at h
      · rename_i hc
        obtain ⟨hc, he⟩ := Bool.and_eq_true_iff.mp hc
        obtain ⟨ds, hd, rfl⟩ := Option.map_eq_some_iff.mp h
        exact e_new o hc hg (by simpa using he) hd (sL (fun e de => ih.E o e de) _ _ hd)
      · cases h
    · rename_i hg
      split at h
      · rename_i y p2 z hx
        split at h
        · rename_i hy
          obtain ⟨hy, hk⟩ := Bool.and_eq_true_iff.mp hy
          obtain ⟨k1, k2⟩ := okN_1 hk
          have hy := eq_of_beq hy
          subst hy
          obtain ⟨cs, hcs, rfl⟩ := Option.map_eq_some_iff.mp h
          exact e_eisi o hx hg hcs k1 k2
        · cases h
      · cases h
      · split at h
        · rename_i hc
          obtain ⟨hc, he⟩ := Bool.and_eq_true_iff.mp hc
          obtain ⟨ds, hd, rfl⟩ := Option.map_eq_some_iff.mp h
          exact e_bi o hc hg (by simpa using he) hd (sL (fun e de => ih.E o e de) _ _ hd)
        · cases h
    · rename_i hg
      split at h
      · rename_i hc
        obtain ⟨hc, he⟩ := Bool.and_eq_true_iff.mp hc
        obtain ⟨ds, hd, rfl⟩ := Option.map_eq_some_iff.mp h
        exact e_bi o hc hg (by simpa using he) hd (sL (fun e de => ih.E o e de) _ _ hd)
      · cases h
    · rename_i hg
      split at h
      · rename_i b hb
        split at h
        · rename_i hc
          obtain ⟨hc, he⟩ := Bool.and_eq_true_iff.mp hc
          obtain ⟨ds, hd, rfl⟩ := Option.map_eq_some_iff.mp h
          exact e_ty o hc hg hb (by simpa using he) hd (sL (fun e de => ih.E o e de) _ _ hd)
        · cases h
      · cases h
    · cases h
  · -- a method
    split at h
    · rename_i hc
      obtain ⟨hc, h3⟩ := Bool.and_eq_true_iff.mp hc
      obtain ⟨h1, h2⟩ := Bool.and_eq_true_iff.mp hc
      split at h
      · rename_i e2 e3
        split at h
        · rename_i hb
          obtain ⟨hb, he⟩ := Bool.and_eq_true_iff.mp hb
          have hb := eq_of_beq hb
          subst hb
          cases h
          have he := List.isEmpty_iff.mp he
          subst he
          exact e_bits (ih.E o _ _ e2) h1 h2
        · split at h
          · rename_i b e1
            split at h
            · cases h
            · rename_i hg
              cases h
              exact e_bm o.un e1 h1 h2 (of_decide_eq_true h3) (by simpa using hg) (ih.E o _ _ e2) e3 (sL (fun e de => ih.E o e de) _ _ e3)
          · split at h
            · rename_i hm
              obtain ⟨hc, _⟩ := Bool.and_eq_true_iff.mp hm
              cases h
              exact e_mth o hc h1 h2 (of_decide_eq_true h3) (ih.E o _ _ e2) e3 (sL (fun e de => ih.E o e de) _ _ e3)
            · cases h
      · cases h
    · cases h
  · -- a slice
    split at h
    · rename_i e1 e2 e3
      cases h
      exact e_sl (ih.E o _ _ e1) (sO (fun e de => ih.E o e de) e2) (sO (fun e de => ih.E o e de) e3)
    · cases h
  · split at h
    · rename_i hs
      split at h
      · rename_i e1 e2
        cases h
        exact e_ix o.un (ih.E o _ _ e1) (ih.E o _ _ e2) hs
      · cases h
    · cases h
  · obtain ⟨x, hx, rfl⟩ := Option.map_eq_some_iff.mp h
    exact e_tup (sL (fun e de => ih.E o e de) _ _ hx)
  · obtain ⟨x, hx, rfl⟩ := Option.map_eq_some_iff.mp h
    exact e_lst (sL (fun e de => ih.E o e de) _ _ hx)
  · exact lc_case ih o h0
  · cases h; exact e_dnew
  · split at h
    · rename_i hc
      obtain ⟨hc, hk⟩ := Bool.and_eq_true_iff.mp hc
      obtain ⟨k1, k2⟩ := okN_1 hk
      cases h
      exact e_efld o (by simpa using hc) k1 k2
    · split at h
      · cases h
      · obtain ⟨y, hy, rfl⟩ := Option.map_eq_some_iff.mp h
        exact e_fld o (ih.E o _ _ hy) rfl
  · split at h
    · rename_i hn
      obtain ⟨y, hy, rfl⟩ := Option.map_eq_some_iff.mp h
      exact e_fld o (ih.E o _ _ hy) hn
    · cases h
  · cases h

theorem sp_W (ih : SP n) (o : XOk ca R X c C) (op : BoolOp) (es : List Expr) (pos : Pos) (de : DE) (hn : noIf (n + 1) (.BoolOp op es pos) = true) (h : compE (n + 1) c (.BoolOp op es pos) = some de) : PW X (.BoolOp op es pos) (LT X.K ca R (wpE C de)) := by
  have hall : es.all (noIf n) = true := hn
  have hdown : ∀ x ∈ es, noIf n x = true := List.all_eq_true.mp hall
  match es, op, h with
  | [], .And, h => cases h
  | [], .Or, h => cases h
  | [a], .And, h => exact pw_and1 (ih.T o _ _ (hdown a List.mem_cons_self) h)
  | [a], .Or, h => exact pw_or1 (ih.T o _ _ (hdown a List.mem_cons_self) h)
  | a :: b :: r, .And, h =>
    unfold compE at h
    dsimp only at h
    split at h
    · rename_i e1 e2
      cases h
      refine w_and (ih.T o _ _ (hdown a List.mem_cons_self) e1) (ih.W o _ _ _ _ ?_ e2)
      exact noIf_down n _ (by
        show (b :: r).all (noIf n) = true
        exact List.all_eq_true.mpr fun x hx => hdown x (List.mem_cons_of_mem _ hx))
    · cases h
  | a :: b :: r, .Or, h =>
    unfold compE at h
    dsimp only at h
    split at h
    · rename_i e1 e2
      cases h
      refine w_or (ih.T o _ _ (hdown a List.mem_cons_self) e1) (ih.W o _ _ _ _ ?_ e2)
      exact noIf_down n _ (by
        show (b :: r).all (noIf n) = true
        exact List.all_eq_true.mpr fun x hx => hdown x (List.mem_cons_of_mem _ hx))
    · cases h
theorem sp_T (ih : SP n) (o : XOk ca R X c C) (e : Expr) (de : DE) (hn : noIf (n + 1) e = true) (h : compE (n + 1) c e = some de) : PT X e (LT X.K ca R (wpE C de)) := by
  cases e with
  | BoolOp op es pos => exact (sp_W ih o op es pos de hn h).pt
  | IfExp t a b pos => cases hn
  | UnaryOp op a pos =>
    cases op with
    | Not =>
      unfold compE at h
      obtain ⟨x, hx, rfl⟩ := Option.map_eq_some_iff.mp h
      exact t_not (ih.T o _ _ hn hx)
    | _ => exact t_of (sp_E ih o _ _ h) (fun _ => rfl)
  | Compare l ops rs pos =>
    match ops, rs, h with
    | [p], [r], h =>
      unfold compE at h
      dsimp only at h
      split at h
      · cases h
      · rename_i hm
        split at h
        · rename_i e1 e2
          cases h
          exact t_cmp o.un (ih.E o _ _ e1) (ih.E o _ _ e2) (by simpa using hm)
        · cases h
    | [p, q], [a, b], h =>
      unfold compE at h
      dsimp only at h
      split at h
      · cases h
      · rename_i hm
        split at h
        · rename_i e1 e2 e3
          cases h
          exact t_chn o.un (ih.E o _ _ e1) (ih.E o _ _ e2) (ih.E o _ _ e3) (by simpa using hm)
        · cases h
    | [], _, h => cases h
    | [_], [], h => cases h
    | [_], _ :: _ :: _, h => cases h
    | [_, _], [], h => cases h
    | [_, _], [_], h => cases h
    | [_, _], _ :: _ :: _ :: _, h => cases h
    | _ :: _ :: _ :: _, _, h => cases h
  | _ => exact t_of (sp_E ih o _ _ h) (fun _ => rfl)
end
theorem sp : ∀ n, SP n
  | 0 => ⟨fun _ _ _ h => (nomatch h), fun _ _ _ _ h => (nomatch h), fun _ _ _ _ _ _ h => (nomatch h)⟩
  | n + 1 => ⟨fun o e de => sp_E (sp n) o e de, fun o e de => sp_T (sp n) o e de, fun o op es pos de => sp_W (sp n) o op es pos de⟩
end PD

set_option Elab.async false
set_option linter.all false
set_option maxRecDepth 100000
set_option maxHeartbeats 4000000
namespace PD
open PySem PySem.Spec PyProof.Rows L2
/-! ### statements -/
def LD (K : PySem.W.Frag) (ca : Nat → Addr) (R : Root) (β : List Addr) (H : Hp) (D : Ends) : DEnds where
  nx := fun env S => ∀ β' σ' H', Sim K ca R env S β' σ' H' → Gr K β H β' H' → D.nx σ' H'
  rt := fun d S => HQ K ca β H D.rt d S
  bk := fun env S => ∀ β' σ' H', Sim K ca R env S β' σ' H' → Gr K β H β' H' → D.bk σ' H'
  ct := fun env S => ∀ β' σ' H', Sim K ca R env S β' σ' H' → Gr K β H β' H' → D.ct σ' H'
def LS (K : PySem.W.Frag) (ca : Nat → Addr) (R : Root) (w : DEnds → DEnv → Store → Prop) : TS := fun D σ H => ∃ env S β, Sim K ca R env S β σ H ∧ w (LD K ca R β H D) env S
theorem LD.step {K : PySem.W.Frag} {ca : Nat → Addr} {R : Root} {β β' : List Addr} {H H' : Hp} {D : Ends} (g : Gr K β H β' H') : (LD K ca R β H D).Le (LD K ca R β' H' D) :=
  ⟨fun _ _ h β2 σ2 H2 s g2 => h β2 σ2 H2 s (g.trans g2), fun _ _ h => h.step g, fun _ _ h β2 σ2 H2 s g2 => h β2 σ2 H2 s (g.trans g2), fun _ _ h β2 σ2 H2 s g2 => h β2 σ2 H2 s (g.trans g2)⟩
theorem wpS_m (C : SC) (s : DS) {B B' : DEnds} {env : DEnv} {S : Store} (h : B.Le B') (q : wpS C s B env S) : wpS C s B' env S := wpS_mono C C.xq (fun _ _ _ z => z) s B B' env S h q
theorem wpSs_m (C : SC) (s : List DS) {B B' : DEnds} {env : DEnv} {S : Store} (h : B.Le B') (q : wpSs C s B env S) : wpSs C s B' env S := wpSs_mono C C.xq (fun _ _ _ z => z) s B B' env S h q
section
variable {ca : Nat → Addr} {R : Root} {X : Cx} {c : Ctx} {C : SC} {n : Nat} {pos : Pos}
/-- a block -/
theorem s_nil : PSs X [] (LS X.K ca R (wpSs C [])) := PSs.imp pss_nil fun D σ H ⟨env, S, β, s, h⟩ => by
  unfold wpSs at h
  exact h β σ H s Gr.refl
theorem s_cons {st : Stmt} {r : List Stmt} {d : DS} {ds : List DS} (h1 : PS X st (LS X.K ca R (wpS C d))) (h2 : PSs X r (LS X.K ca R (wpSs C ds))) : PSs X (st :: r) (LS X.K ca R (wpSs C (d :: ds))) :=
  PSs.imp (pss_cons h1 h2) fun D σ H ⟨env, S, β, s, h⟩ => by
    unfold wpSs at h
    refine ⟨env, S, β, s, wpS_m C d (DEnds.Le.mk ?_ ?_ ?_ ?_) h⟩
    · intro e' S' h β' σ' H' s' g'
      exact ⟨e', S', β', s', wpSs_m C ds (LD.step g') h⟩
    · intro _ _ z; exact z
    · intro _ _ z; exact z
    · intro _ _ z; exact z
/-! assignments -/
theorem asg_read {de : DE} {t : DT} (D : Ends) (σ : L2.St) (H : Hp) (h : LS X.K ca R (wpS C (.asg t de)) D σ H) : tAsg (LE X.K ca R (wpE C de)) (LG X.K ca R (fun _ => True) (wpT C t)) D σ H := by
  obtain ⟨env, S, β, s, h⟩ := h
  unfold wpS at h
  refine ⟨env, S, β, s, wpE_m _ _ _ _ _ _ (fun d S1 h β1 v H1 s1 g1 r1 => ?_) h⟩
  refine ⟨env, S1, β1, d, s.grow s1 g1, r1, wpT_m _ _ _ _ _ _ _ (fun e2 S2 h β2 σ2 H2 s2 g2 l2 k2 => ?_) h⟩
  exact h β2 σ2 H2 s2 (g1.trans g2)
theorem sw_no {t e : Expr} {l : Nat} {env : Env} (hs : env.scope = c.sc) (h : swapFree c t e = true) : swapsWithSole [t] e l env = pure false := by
  unfold swapFree at h
  cases e with
  | ListComp elt gs sc pos =>
    cases t with
    | Name y py =>
      dsimp only at h
      have h' : (kindL c y == some .local && py.line == pos.line && !(sc.names.any fun (n, k) => n == y && (k == .local || k == .cell))) = false := by
        rw [Bool.not_eq_true'] at h
        exact h
      show (pure (env.blockKind == .function && env.kindOf y == some .local && py.line == pos.line && !(sc.names.any fun (n, k) => n == y && (k == .local || k == .cell))) : Sem Bool) = pure false
      have e1 : env.kindOf y = kindL c y := by
        show env.scope.names.lookup y = c.sc.names.lookup y
        rw [hs]
      have key : ∀ a b c d : Bool, (b && c && d) = false → (a && b && c && d) = false := by decide
      rw [e1, key _ _ _ _ h']
    | _ => rfl
  | SetComp _ _ _ _ => cases h
  | DictComp _ _ _ _ _ => cases h
  | _ => rfl
theorem sw_none {t e : Expr} {env : Env} (h : isPar t e = false) (hl : ∀ ts p, t ≠ .List ts p) : swappedStores [t] e env = pure none := by
  cases t with
  | Tuple ts k p =>
    cases e with
    | Tuple _ _ _ => cases h
    | _ => rfl
  | List ts p => exact absurd rfl (hl ts p)
  | _ => rfl
theorem as_one {t : Expr} {env : Env} (h : plainE t = true) : (assignEach [t] env).map (·.2) = [assign t env] := by
  rw [assignEach_cons h]
  rfl
theorem s_asg {t e : Expr} {dt : DT} {de : DE} (o : XOk ca R X c C) (he : PE X e (LE X.K ca R (wpE C de))) (hg : PG X t (LG X.K ca R (fun _ => True) (wpT C dt))) (hs : swapFree c t e = true) (hp : isPar t e = false) (hl : ∀ ts p, t ≠ .List ts p) (hpl : plainE t = true) :
    PS X (.Assign [t] e pos) (LS X.K ca R (wpS C (.asg dt de))) :=
  PS.imp (ps_asg he hg (sw_no o.sc hs) (sw_none hp hl) (as_one hpl)) asg_read
theorem s_ex {e : Expr} {de : DE} (he : PE X e (LE X.K ca R (wpE C de))) (hn : noComp e = true) : PS X (.Expr e pos) (LS X.K ca R (wpS C (.ex de))) :=
  PS.imp (ps_expr he (by cases e <;> first | rfl | cases hn)) fun D σ H ⟨env, S, β, s, h⟩ => by
    unfold wpS at h
    refine ⟨env, S, β, s, wpE_m _ _ _ _ _ _ (fun d S1 h β1 v H1 s1 g1 r1 => ?_) h⟩
    exact h β1 σ H1 (s.grow s1 g1) g1
theorem s_ret {e : Expr} {de : DE} (he : PE X e (LE X.K ca R (wpE C de))) : PS X (.Return (some e) pos) (LS X.K ca R (wpS C (.ret (.some de)))) :=
  PS.imp (ps_ret he) fun D σ H ⟨env, S, β, s, h⟩ => by
    unfold wpS wpO at h
    refine ⟨env, S, β, s, wpE_m _ _ _ _ _ _ (fun d S1 h => ?_) h⟩
    exact h
theorem s_retN : PS X (.Return none pos) (LS X.K ca R (wpS C (.ret .none))) :=
  PS.imp ps_retN fun D σ H ⟨env, S, β, s, h⟩ => by
    unfold wpS wpO at h
    exact HQ.now s.h .non h
theorem s_if {t : Expr} {a b : List Stmt} {dc : DE} {da db : List DS} (ht : PT X t (LT X.K ca R (wpE C dc))) (ha : PSs X a (LS X.K ca R (wpSs C da))) (hb : PSs X b (LS X.K ca R (wpSs C db))) : PS X (.If t a b pos) (LS X.K ca R (wpS C (.ifs dc da db))) :=
  PS.imp (ps_if ht ha hb) fun D σ H ⟨env, S, β, s, h⟩ => by
    unfold wpS at h
    refine ⟨env, S, β, s, wpE_m _ _ _ _ _ _ (fun d S1 h => ?_) h⟩
    unfold HB
    refine onO_mono (fun k q β1 H1 s1 g1 => ?_) h
    by_cases hk : k = true
    · rw [if_pos hk] at q ⊢
      exact ⟨env, S1, β1, s.grow s1 g1, wpSs_m C da (LD.step g1) q⟩
    · rw [if_neg hk] at q ⊢
      exact ⟨env, S1, β1, s.grow s1 g1, wpSs_m C db (LD.step g1) q⟩
theorem s_pas : PS X (.Pass pos) (LS X.K ca R (wpS C .pas)) := PS.imp ps_pass fun D σ H ⟨env, S, β, s, h⟩ => by
  unfold wpS at h
  exact h β σ H s Gr.refl
theorem s_brk : PS X (.Break pos) (LS X.K ca R (wpS C .brk)) := PS.imp ps_break fun D σ H ⟨env, S, β, s, h⟩ => by
  unfold wpS at h
  exact h β σ H s Gr.refl
theorem s_cnt : PS X (.Continue pos) (LS X.K ca R (wpS C .cnt)) := PS.imp ps_continue fun D σ H ⟨env, S, β, s, h⟩ => by
  unfold wpS at h
  exact h β σ H s Gr.refl
theorem s_doc {x : Str} {j : Nat} {p2 : Pos} : PS X (.Expr (.Constant (.str x) j p2) pos) (LS X.K ca R (wpS C .pas)) := PS.imp ps_doc fun D σ H ⟨env, S, β, s, h⟩ => by
  unfold wpS at h
  exact h β σ H s Gr.refl
theorem s_aug {x : Str} {i : Nat} {bo : BO} {o2 : Operator} {f : Int → Int → Int} {e : Expr} {de : DE} {p2 : Pos} (o : XOk ca R X c C) (hi : ixOf x c.N 0 = some i) (hw : (kindL c x == some .local || (c.fn && kindL c x == some .cell)) = true) (hne : (c.exn == some x) = false)
    (he : PE X e (LE X.K ca R (wpE C de))) (hp : PIp X o2 (ipI f)) (hb : ∀ (S : Store) (i : Int) (y : D) (Q : DQ), wpBin S bo (.int i) y Q → ∃ j, y = .int j ∧ Q (.int (f i j)) S) : PS X (.AugAssign (.Name x p2) o2 e pos) (LS X.K ca R (wpS C (.aug i bo de))) := by
  obtain ⟨w1, w2⟩ := o.wr hw
  refine PS.imp (ps_aug (by rw [o.N]; exact o.nd) (by rw [o.N]; exact ixOf_at hi) w1 he hp w2) fun D σ H ⟨env, S, β, s, h⟩ => ?_
  unfold wpS at h
  split at h
  · rename_i x0 ex
    obtain ⟨v, hv, rv⟩ := s.ev _ _ ex
    refine ⟨v, hv, env, S, β, s, wpE_m _ _ _ _ _ _ (fun d S1 h β1 u H1 s1 g1 r1 => ?_) h⟩
    split at h
    · obtain ⟨j, rfl, q⟩ := hb _ _ _ _ h
      cases rv
      cases r1
      refine ⟨_, _, rfl, rfl, ?_⟩
      exact q β1 _ H1 ((s.grow s1 g1).set (.int _) (o.noex (ixOf_at hi) hne)) g1
    · exact h.elim
  · exact h.elim
/-! an attribute is stored -/
theorem fput_rel {K : PySem.W.Frag} {ca : Nat → Addr} {H : Hp} {β : List Addr} {f : Str} {d : D} {v : V} (rd : RD K ca H β d v) : ∀ {fs : List (Str × D)} {fv : List (Str × V)}, fs.map (·.1) = fv.map (·.1) → RDs K ca H β (fs.map (·.2)) (fv.map (·.2)) →
    (fPut f d fs).map (·.1) = (putF f v fv).map (·.1) ∧ RDs K ca H β ((fPut f d fs).map (·.2)) ((putF f v fv).map (·.2))
  | [], [], _, _ => ⟨rfl, .cons rd .nil⟩
  | [], _ :: _, e, _ => by cases e
  | _ :: _, [], e, _ => by cases e
  | (g, x) :: r, (g', y) :: t, e, h => by
    rw [List.map_cons, List.map_cons] at e
    injection e with e1 e2
    have e1 : g = g' := e1
    subst e1
    rw [List.map_cons, List.map_cons] at h
    cases h with
    | cons h1 h2 =>
      unfold fPut putF
      by_cases hb : g = f
      · subst hb
        rw [if_pos rfl]
        have : (g == g) = true := by simp
        rw [if_pos this]
        exact ⟨by rw [List.map_cons, List.map_cons, e2], .cons rd h2⟩
      · rw [if_neg hb]
        have : ¬ (f == g) = true := by simpa using fun z : f = g => hb z.symm
        rw [if_neg this]
        obtain ⟨i1, i2⟩ := fput_rel rd e2 h2
        exact ⟨by rw [List.map_cons, List.map_cons, i1], .cons h1 i2⟩
theorem s_setf (o : XOk ca R X c C) {a e : Expr} {f : Str} {da de : DE} {p2 : Pos} (ha : PE X a (LE X.K ca R (wpE C da))) (he : PE X e (LE X.K ca R (wpE C de))) (hn : noComp e = true) : PS X (.Assign [.Attribute a f p2] e pos) (LS X.K ca R (wpS C (.setf da f de))) := by
  refine PS.imp (ps_fld ha he (by cases e <;> first | rfl | cases hn)) fun D σ H ⟨env, S, β, s, h⟩ => ?_
  unfold wpS at h
  refine ⟨env, S, β, s, wpE_m _ _ _ _ _ _ (fun d S1 h β1 y H1 s1 g1 r1 => ?_) h⟩
  refine ⟨env, S1, β1, s.grow s1 g1, wpE_m _ _ _ _ _ _ (fun x S2 h β2 v H2 s2 g2 r2 => ?_) h⟩
  unfold wpFld at h
  split at h
  · split at h
    · rename_i n k fs e
      obtain ⟨b, dx, fv, rfl, hb, hi, he, hr⟩ := ins_at s2 e r2
      obtain ⟨cl, na⟩ := o.na _ _ h.1
      have g := gr_wr (K := X.K) (ho := .ins (ca k) dx (putF f y fv)) (s2.ob _ _ _ e hb)
      obtain ⟨i1, i2⟩ := fput_rel (f := f) (r1.grow g2) he hr
      obtain ⟨s3, g3⟩ := s2.wrO (o' := .ins k (fPut f d fs)) (ho := .ins (ca k) dx (putF f y fv)) e hb ⟨dx, _, upd_same, i1, i2.grow g⟩
      have hlen : fv.length = fs.length := by have := congrArg List.length he; rw [List.length_map, List.length_map] at this; exact this.symm
      refine ⟨b, _, dx, fv, rfl, hi, cl, na, by rw [hlen]; exact h.2.1, ?_⟩
      exact h.2.2 _ _ _ (((s.grow s1 g1).grow s2 g2).grow s3 g3) (g1.trans (g2.trans g3))
    · exact h.elim
  · exact h.elim
/-! loops -/
theorem s_wh {t : Expr} {b : List Stmt} {dc : DE} {db : List DS} (o : XOk ca R X c C) (ht : PT X t (LT X.K ca R (wpE C dc))) (hb : PSs X b (LS X.K ca R (wpSs C db))) : PS X (.While t b [] pos) (LS X.K ca R (wpS C (.wh dc db))) :=
  PS.imp (ps_while o.po ht hb) fun D σ H ⟨env, S, β, s, h⟩ => by
    unfold wpS at h
    obtain ⟨W, ⟨m, w0⟩, h⟩ := h
    refine ⟨fun m σ' H' => ∃ env S β', Sim X.K ca R env S β' σ' H' ∧ Gr X.K β H β' H' ∧ W m env S, ⟨m, env, S, β, s, Gr.refl, w0⟩, fun m σ' H' ⟨env, S, β', s', g', w⟩ => ?_⟩
    refine ⟨env, S, β', s', wpE_m _ _ _ _ _ _ (fun x S1 q => ?_) (h m env S w)⟩
    unfold HB
    refine onO_mono (fun k q β1 H1 s1 g1 => ?_) q
    by_cases hk : k = true
    · rw [if_pos hk] at q ⊢
      refine ⟨fun σ2 H2 => ∃ m', m' < m ∧ ∃ env S β', Sim X.K ca R env S β' σ2 H2 ∧ Gr X.K β H β' H2 ∧ W m' env S, fun σ2 H2 z => z, env, S1, β1, s'.grow s1 g1, wpSs_m C db (DEnds.Le.mk ?_ ?_ ?_ ?_) q⟩
      · intro e2 S2 ⟨m', hm, w'⟩ β2 σ2 H2 s2 g2
        exact ⟨m', hm, e2, S2, β2, s2, (g'.trans g1).trans g2, w'⟩
      · intro d S z
        exact z.step (g'.trans g1)
      · intro e2 S2 z β2 σ2 H2 s2 g2
        exact z β2 σ2 H2 s2 ((g'.trans g1).trans g2)
      · intro e2 S2 ⟨m', hm, w'⟩ β2 σ2 H2 s2 g2
        exact ⟨m', hm, e2, S2, β2, s2, (g'.trans g1).trans g2, w'⟩
    · rw [if_neg hk] at q ⊢
      exact q β1 σ' H1 (s'.grow s1 g1) (g'.trans g1)
theorem s_fr {tg it : Expr} {b : List Stmt} {dt : DT} {di : DI} {db : List DS} (o : XOk ca R X c C) (hc : c.calm = true) (hset : noSet it = true) (hi : PI X tg it (LI X.K ca R (wpI C di))) (hg : PG X tg (LG X.K ca R (fun _ => True) (wpT C dt))) (hb : PSs X b (LS X.K ca R (wpSs C db))) :
    PS X (.For tg it b [] pos) (LS X.K ca R (wpS C (.fr dt di db))) :=
  PS.imp (ps_for o.po (o.calm hc) hi hg hb (compI_set (E := fun _ => none) hset)) fun D σ H ⟨env, S, β, s, h⟩ => by
    unfold wpS at h
    refine ⟨env, S, β, s, wpI_m _ _ _ _ _ _ (fun src items S1 h β1 H1 J s1 g1 wk => ?_) h⟩
    obtain ⟨st1, h⟩ := h
    refine ⟨fun i m σ' H' => ∃ env S' β', i + m = items.length ∧ Sim X.K ca R env S' β' σ' H' ∧ Gr X.K β1 H1 β' H' ∧ still src S' ∧ frGo src (fun d B' env' S' => wpT C dt d env' S' fun e2 S2 => wpSs C db B' e2 S2) (LD X.K ca R β H D) (items.drop i) env S',
      ⟨items.length, env, S1, β1, Nat.zero_add _, s.grow s1 g1, Gr.refl, st1, by rw [List.drop_zero]; exact h⟩, fun i m σ' H' hW => ?_⟩
    obtain ⟨env', S', β', him, s', g', st', h⟩ := hW
    rcases Nat.lt_or_ge i items.length with hi | hi
    · refine .inr ⟨wk.go S' β' H' i s'.h g' st' hi, fun σ2 H2 => ∃ env S2 β2, Sim X.K ca R env S2 β2 σ2 H2 ∧ Gr X.K β1 H1 β2 H2 ∧ still src S2 ∧ frGo src (fun d B' env' S' => wpT C dt d env' S' fun e2 S2 => wpSs C db B' e2 S2) (LD X.K ca R β H D) (items.drop (i + 1)) env S2,
        fun σ2 H2 ⟨e2, S2, β2, a, b, c', d⟩ => ⟨m - 1, by omega, e2, S2, β2, by omega, a, b, c', d⟩, fun x H2 hy => ?_⟩
      obtain ⟨d, hd, s3, g3, r3⟩ := wk.yld S' β' H' i x H2 s'.h g' st' hi hy
      have hdrop : items.drop i = d :: items.drop (i + 1) := by
        rw [List.drop_eq_getElem_cons hi]
        rw [List.getElem?_eq_getElem hi] at hd
        cases hd
        rfl
      rw [hdrop] at h
      unfold frGo at h
      refine ⟨env', S', β', d, s'.grow s3 g3, r3, wpT_m _ _ _ _ _ _ _ (fun e4 S4 h β4 σ4 H4 s4 g4 l4 k4 => ?_) h⟩
      have gg : Gr X.K β1 H1 β4 H4 := (g'.trans g3).trans g4
      refine ⟨e4, S4, β4, s4, wpSs_m C db (DEnds.Le.mk ?_ ?_ ?_ ?_) h⟩
      · intro e5 S5 z β5 σ5 H5 s5 g5
        exact ⟨e5, S5, β5, s5, gg.trans g5, z.1, z.2⟩
      · intro d5 S5 z
        exact HQ.step (g1.trans gg) z
      · intro e5 S5 z β5 σ5 H5 s5 g5
        exact z β5 σ5 H5 s5 ((g1.trans gg).trans g5)
      · intro e5 S5 z β5 σ5 H5 s5 g5
        exact ⟨e5, S5, β5, s5, gg.trans g5, z.1, z.2⟩
    · have e : i = items.length := by omega
      subst e
      rw [List.drop_length] at h
      unfold frGo at h
      exact .inl ⟨wk.stop S' β' H' s'.h g' st', h β' σ' H' s' (g1.trans g')⟩
end
end PD

set_option Elab.async false
set_option linter.all false
set_option maxRecDepth 100000
set_option maxHeartbeats 4000000
namespace PD
open PySem PySem.Spec PyProof.Rows L2
theorem zip_fld {K : PySem.W.Frag} {ca : Nat → Addr} {H : Hp} {β : List Addr} : ∀ {fs : List Str} {ds : List D} {vs : List V}, RDs K ca H β ds vs → RFld K ca H β (fs.zip ds) (fs.zip vs)
  | [], ds, vs, _ => fun f => ⟨fun x h => (nomatch h), fun _ => rfl⟩
  | g :: fs, [], vs, h => by
    cases h
    exact fun f => ⟨fun x h => (nomatch h), fun _ => rfl⟩
  | g :: fs, d :: ds, vs, h => by
    cases h with
    | cons h1 h2 =>
      have ih := zip_fld (fs := fs) h2
      intro f
      rw [List.zip_cons_cons, List.zip_cons_cons, List.lookup_cons, List.lookup_cons]
      cases f == g with
      | true =>
        refine ⟨fun x e => ?_, fun e => by cases e⟩
        cases e
        exact ⟨_, rfl, h1⟩
      | false => exact ih f
theorem RFld.look {K : PySem.W.Frag} {ca : Nat → Addr} {H : Hp} {β : List Addr} {fs : List (Str × D)} {fv gv : List (Str × V)} (h : RFld K ca H β fs fv) (e : ∀ f, gv.lookup f = fv.lookup f) : RFld K ca H β fs gv := fun f => by
  rw [e f]
  exact h f
theorem Sim.root {K : PySem.W.Frag} {ca : Nat → Addr} {R R' : Root} {env : DEnv} {S : Store} {β : List Addr} {σ : L2.St} {H : Hp} (s : Sim K ca R' env S β σ H) (g : Gr K R.β R.H β H) (hx : R.exn = R'.exn) : Sim K ca R env S β σ H where
  h := s.h
  el := s.el
  ev := s.ev
  gr := g
  ex := fun x e => s.ex x (by rw [← hx]; exact e)
section
variable {ca : Nat → Addr} {R : Root} {X : Cx} {c : Ctx} {C : SC} {n : Nat} {pos : Pos}
theorem s_rse (o : XOk ca R X c C) (hc : c.calm = true) (ht : c.top = true) {f : Expr → Option DE} {x : Str} {k : Nat} {fs : List Str} {es : List Expr} {ds : DEs} {p p2 : Pos} (hg : globOf c x = some (.exc k fs)) (hne : es.isEmpty = false) (hl : compL f es = some ds) (ha : PA X es (LA X.K ca R (wpEs C ds))) :
    PS X (.Raise (some (.Call (.Name x p) es [] p2)) none pos) (LS X.K ca R (wpS C (.rse k fs ds))) := by
  obtain ⟨h1, h2, h3, h4⟩ := o.glob hg
  obtain ⟨W, tk, hW⟩ := o.tk
  cases es with
  | nil => cases hne
  | cons e es =>
    obtain ⟨hp, d, r, rfl, e1, e2⟩ := compL_cons hl
    have rk := o.rs ht X.pn X.xe x k fs h4 e es _ p p2 h1 ha (starEach_cons hp) (compL_any e2)
    refine PS.imp (ps_raise (o.calm hc) tk rk) fun D σ H ⟨env, S, β, s, h⟩ => ?_
    unfold wpS at h
    refine ⟨env, S, β, s, wpEs_m _ _ _ _ _ _ (fun ds S1 h β1 vs H1 s1 g1 r1 => ?_) h⟩
    refine ⟨by rw [← r1.length]; exact h.1, fun d fv hd hfv => ?_⟩
    have g2 : Gr X.K β1 H1 β1 (upd H1 d (.xd fv)) := Gr.fresh hd
    exact hW _ env S1 β1 σ _ _ _ h.2 ((s.grow s1 g1).grow (s1.fresh hd) g2) ⟨rfl, .inr ⟨d, fv, rfl, upd_same, (zip_fld (r1.grow g2)).look hfv⟩⟩
/-! ### try -/
theorem XOk.nosl (o : XOk ca R X c C) (hc : c.calm = true) : ∀ x, R.exn = some x → x.slot = none := fun x hx => by
  cases e : x.slot with
  | none => rfl
  | some i =>
    obtain ⟨n, hn, _⟩ := o.exs x hx i e
    rw [o.nosuite hc] at hn
    cases hn
/-- the body of a try -/
theorem XOk.tr (o : XOk ca R X c C) (hc : c.calm = true) {R' : Root} (hR : R'.exn = R.exn) {xq : Err → DEnv → Store → Prop} {W : WX} (hW : XLift X.K ca R' { C with xq := xq } W) {pn : List (Addr × Obj)} {xe : Value → Shared → Prop} (tk : Takes (X.tr pn xe) W) (po : PassesOwn (model X.prog X.w) X.A X.env xe) :
    XOk ca R' (X.tr pn xe) c { C with xq := xq } where
  N := o.N
  nd := o.nd
  sc := o.sc
  calm := o.calm
  fn := o.fn
  un := o.un
  gl := fun x g h => by
    have := o.gl x g h
    cases g with
    | bi b => cases b <;> exact this
    | _ => exact this
  fs := fun h x i hi => o.fs h x i hi
  ms := fun h t ht m k i z => o.ms h t ht m k i z
  nw := fun h x k i z => o.nw h x k i z
  cn := o.cn
  na := o.na
  rs := fun h pn xe x k fs hx => o.rs h pn xe x k fs hx
  ks := fun h k fs hk => by
    have q := o.ks h k fs hk
    exact ⟨q.xf, q.kx, q.no, q.ex, q.is⟩
  po := po
  tk := ⟨W, tk, hW⟩
  top := o.top
  exs := fun ei he => o.exs ei (by rw [← hR]; exact he)
  exn := fun n h => by
    rw [o.nosuite hc] at h
    cases h
/-- the suite of an except clause -/
theorem XOk.suite (o : XOk ca R X c C) (hc : c.calm = true) (ht : c.top = true) {a : Addr} {oe : Obj} {pn : List (Addr × Obj)} {cls : Value} {d : Option Addr} {er : Err} {nm : Option Str} {sl : Option Nat} {β : List Addr} {H : Hp} (hz : Zc cls d oe) (hf : ∃ vs, oe.data = .fields vs)
    (hk : C.kn er.cls (er.fs.map (·.1)) = true) (hs : (nm = none ∧ sl = none) ∨ ∃ y i, nm = some y ∧ sl = some i ∧ c.N[i]? = some y ∧ kindL c y = some .local) :
    XOk ca ⟨β, H, if sl.isSome then some ⟨sl, a, cls, d, er⟩ else none⟩ (X.suite a ((a, oe) :: pn)) (suiteCtx c nm) { C with exn := some er, xq := fun _ _ _ => False } where
  N := o.N
  nd := o.nd
  sc := o.sc
  calm := fun h => by cases h
  fn := o.fn
  un := o.un
  gl := fun x g h => by
    have := o.gl x g h
    cases g with
    | bi b => cases b <;> exact this
    | _ => exact this
  fs := fun h => by cases h
  ms := fun h => by cases h
  nw := fun h => by cases h
  cn := o.cn
  na := o.na
  rs := fun h => by cases h
  ks := fun h => by cases h
  po := PassesOwn.never
  tk := ⟨fun _ _ _ _ => False, takes0, fun _ _ _ _ _ _ _ _ h _ _ => h⟩
  top := fun h => by cases h
  exs := fun ei he i hi => by
    rcases hs with ⟨_, h2⟩ | ⟨y, j, h1, h2, h3, h4⟩
    · rw [h2] at he
      cases he
    · rw [h2] at he
      cases he
      cases hi
      exact ⟨y, h1, h3⟩
  exn := fun nn h => by
    rcases hs with ⟨h1, _⟩ | ⟨y, j, h1, h2, h3, h4⟩
    · rw [show (suiteCtx c nm).exn = nm from rfl, h1] at h
      cases h
    · have e : nm = some nn := h
      rw [h1] at e
      cases e
      have q := o.ks ht _ _ hk
      refine ⟨X, c, a, oe, pn, cls, d, er, j, rfl, hz, hf, ?_, rfl, h3, h4, rfl, ⟨q.xf, q.kx, q.no, q.ex, q.is⟩⟩
      rw [h2]
      rfl
/-- what the body of a try is to do -/
def tTry (K : PySem.W.Frag) (ca : Nat → Addr) (R : Root) (C : SC) (b : List DS) (W : WX) : TS := fun D σ H => ∃ R' xq, R'.exn = R.exn ∧ XLift K ca R' { C with xq := xq } W ∧ LS K ca R' (wpSs { C with xq := xq } b) D σ H
/-- .. and its suite -/
def tSuite (K : PySem.W.Frag) (ca : Nat → Addr) (C : SC) (sl : Option Nat) (b : List DS) (a : Addr) (cls : Value) (d : Option Addr) : TS := fun D σ H => ∃ er β0 H0, C.kn er.cls (er.fs.map (·.1)) = true ∧ LS K ca ⟨β0, H0, if sl.isSome then some ⟨sl, a, cls, d, er⟩ else none⟩ (wpSs { C with exn := some er, xq := fun _ _ _ => False } b) D σ H
theorem get_setN {env : DEnv} {i j : Nat} {d : D} (h : (env.set i none)[j]? = some (some d)) : env[j]? = some (some d) ∧ j ≠ i := by
  by_cases hj : j = i
  · subst hj
    by_cases hl : j < env.length
    · rw [List.getElem?_set_self hl] at h; cases h
    · rw [List.getElem?_eq_none (by rw [List.length_set]; omega)] at h; cases h
  · rw [List.getElem?_set_ne (Ne.symm hj)] at h
    exact ⟨h, hj⟩
/-- the name is stored; the name is gone -/
theorem Sim.named {K : PySem.W.Frag} {env : DEnv} {S : Store} {β : List Addr} {σ : L2.St} {H : Hp} (s : Sim K ca R env S β σ H) {i : Nat} {a : Addr} {cls : Value} {d : Option Addr} {er : Err} (hi : i < env.length) (hr : RErr K ca er cls d H β) :
    Sim K ca ⟨β, H, some ⟨some i, a, cls, d, er⟩⟩ (env.set i none) S β (σ.set i (some (.ref a))) H where
  h := s.h
  el := by rw [List.length_set, List.length_set]; exact s.el
  ev := fun j x h => by
    obtain ⟨h1, h2⟩ := get_setN h
    rw [List.getElem?_set_ne (Ne.symm h2)]
    exact s.ev j x h1
  gr := Gr.refl
  ex := fun x e => by
    cases e
    refine ⟨fun j hj => ?_, hr⟩
    cases hj
    exact List.getElem?_set_self (by rw [← s.el]; exact hi)
theorem Sim.gone {K : PySem.W.Frag} {R' : Root} {env : DEnv} {S : Store} {β : List Addr} {σ : L2.St} {H : Hp} (s : Sim K ca R' env S β σ H) (i : Nat) (g : Gr K R.β R.H β H) (hx : ∀ x, R.exn = some x → x.slot = none ∧ RErr K ca x.er x.cls x.d H β) : Sim K ca R (env.set i none) S β (σ.set i none) H where
  h := s.h
  el := by rw [List.length_set, List.length_set]; exact s.el
  ev := fun j x h => by
    obtain ⟨h1, h2⟩ := get_setN h
    rw [List.getElem?_set_ne (Ne.symm h2)]
    exact s.ev j x h1
  gr := g
  ex := fun x e => ⟨fun j hj => (by rw [(hx x e).1] at hj; cases hj), (hx x e).2⟩
theorem Sim.bare {K : PySem.W.Frag} {R' : Root} {env : DEnv} {S : Store} {β : List Addr} {σ : L2.St} {H : Hp} (s : Sim K ca R' env S β σ H) (g : Gr K R.β R.H β H) (hx : ∀ x, R.exn = some x → x.slot = none ∧ RErr K ca x.er x.cls x.d H β) : Sim K ca R env S β σ H where
  h := s.h
  el := s.el
  ev := s.ev
  gr := g
  ex := fun x e => ⟨fun j hj => (by rw [(hx x e).1] at hj; cases hj), (hx x e).2⟩
theorem names_of (o : XOk ca R X c C) {x : Str} {g : GK} {k : Nat} (hg : globOf c x = some g) (hk : g.cid = some k) : Names X x (g.cv ca) := by
  obtain ⟨h1, h2, h3, h4⟩ := o.glob hg
  have gx := o.gl x _ h4
  cases g with
  | cls j => exact ⟨h1, h2, .inl gx⟩
  | exc j fs => exact ⟨h1, h2, .inl gx⟩
  | xty j n => exact ⟨h1, h2, .inr ⟨gx.1, gx.2, h3⟩⟩
  | _ => cases hk
theorem s_tr1 (o : XOk ca R X c C) (hc : c.calm = true) (ht : c.top = true) {x y : Str} {g : GK} {k i : Nat} {body suite : List Stmt} {b₀ : Stmt} {np pos' : Pos} {db dsu : List DS} (hg : globOf c x = some g) (hk : g.cid = some k) (hi : ixOf y c.N 0 = some i) (hl : kindL c y = some .local)
    (hb : ∀ {R' : Root} {X' : Cx} {C' : SC}, X'.K = X.K → XOk ca R' X' c C' → PSs X' body (LS X'.K ca R' (wpSs C' db)))
    (hsu : ∀ {R' : Root} {X' : Cx} {C' : SC}, X'.K = X.K → XOk ca R' X' (suiteCtx c (some y)) C' → PSs X' (b₀ :: suite) (LS X'.K ca R' (wpSs C' dsu))) :
    PS X (.Try body [.ExceptHandler (some (.Name x np)) (some y) (b₀ :: suite) pos'] [] [] pos) (LS X.K ca R (wpS C (.tr db k (some i) dsu))) := by
  obtain ⟨W, tk, hW⟩ := o.tk
  obtain ⟨t1, t2⟩ := o.top ht
  have hi' := ixOf_at hi
  have nosl := o.nosl hc
  refine PS.imp (ps_try_as (i := i) (tb := tTry X.K ca R C db) (ts := tSuite X.K ca C (some i) dsu) t1 t2 (by rw [o.N]; exact o.nd) (by rw [o.N]; exact hi') ?_ (names_of o hg hk) tk (fun W' pn xe tk' po => ⟨fun pins s σ H D I h => ?_⟩) (fun a oe cls d pn hz hf => ⟨fun pins s σ H D I h => ?_⟩)) fun D σ H h => ?_
  · show X.env.scope.names.lookup y = some .local
    rw [o.sc]
    exact hl
  · obtain ⟨R', xq, hR, hx, h⟩ := h
    exact (hb (X' := X.tr pn xe) rfl (o.tr hc hR hx tk' po)).run pins s σ H D I h
  · obtain ⟨er, β0, H0, hkn, h⟩ := h
    exact (hsu (X' := X.suite a ((a, oe) :: pn)) rfl (o.suite (nm := some y) (sl := some i) (β := β0) (H := H0) hc ht hz hf hkn (.inr ⟨y, i, rfl, rfl, hi', hl⟩))).run pins s σ H D I h
  · obtain ⟨env, S, β, s, h⟩ := h
    unfold wpS at h
    refine ⟨⟨β, H, R.exn⟩, _, rfl, ?_, env, S, β, s.root Gr.refl rfl, wpSs_m _ db (DEnds.Le.mk ?_ ?_ ?_ ?_) h⟩
    · intro er env' S' β' σ' H' cls d hq s' re
      obtain ⟨q1, q2, q3, q4⟩ := hq
      have kk := o.ks ht _ _ q1
      obtain ⟨a1, a2, a3, a4⟩ := o.glob hg
      have g' : Gr X.K β H β' H' := s'.gr
      have rt : Sim X.K ca R env' S' β' σ' H' := s'.root (s.gr.trans g') rfl
      refine ⟨C.sub er.cls k, ?_, fun hs a ha => ?_, fun hs => hW er env' S' β' σ' H' cls d (q4 hs) rt re⟩
      · rw [re.1]
        exact kk.ex x g k a4 hk
      · refine ⟨er, β', H', q1, env'.set i none, S', β', s'.named q2 re, wpSs_m _ dsu (DEnds.Le.mk ?_ ?_ ?_ ?_) (q3 hs)⟩
        · intro e2 S2 z β2 σ2 H2 s2 g2
          exact z β2 _ H2 (s2.gone i (s.gr.trans (g'.trans g2)) fun x hx => ⟨nosl x hx, ((rt.ex x hx).2).grow g2⟩) (g'.trans g2)
        · intro d2 S2 z
          exact HQ.step g' z
        · intro e2 S2 z β2 σ2 H2 s2 g2
          exact z β2 _ H2 (s2.gone i (s.gr.trans (g'.trans g2)) fun x hx => ⟨nosl x hx, ((rt.ex x hx).2).grow g2⟩) (g'.trans g2)
        · intro e2 S2 z β2 σ2 H2 s2 g2
          exact z β2 _ H2 (s2.gone i (s.gr.trans (g'.trans g2)) fun x hx => ⟨nosl x hx, ((rt.ex x hx).2).grow g2⟩) (g'.trans g2)
    · intro e2 S2 z β2 σ2 H2 s2 g2
      exact z β2 σ2 H2 (s2.root (s.gr.trans g2) rfl) g2
    · intro d2 S2 z
      exact z
    · intro e2 S2 z β2 σ2 H2 s2 g2
      exact z β2 σ2 H2 (s2.root (s.gr.trans g2) rfl) g2
    · intro e2 S2 z β2 σ2 H2 s2 g2
      exact z β2 σ2 H2 (s2.root (s.gr.trans g2) rfl) g2
theorem s_tr0 (o : XOk ca R X c C) (hc : c.calm = true) (ht : c.top = true) {x : Str} {g : GK} {k : Nat} {body suite : List Stmt} {b₀ : Stmt} {np pos' : Pos} {db dsu : List DS} (hg : globOf c x = some g) (hk : g.cid = some k)
    (hb : ∀ {R' : Root} {X' : Cx} {C' : SC}, X'.K = X.K → XOk ca R' X' c C' → PSs X' body (LS X'.K ca R' (wpSs C' db)))
    (hsu : ∀ {R' : Root} {X' : Cx} {C' : SC}, X'.K = X.K → XOk ca R' X' (suiteCtx c none) C' → PSs X' (b₀ :: suite) (LS X'.K ca R' (wpSs C' dsu))) :
    PS X (.Try body [.ExceptHandler (some (.Name x np)) none (b₀ :: suite) pos'] [] [] pos) (LS X.K ca R (wpS C (.tr db k none dsu))) := by
  obtain ⟨W, tk, hW⟩ := o.tk
  obtain ⟨t1, t2⟩ := o.top ht
  have nosl := o.nosl hc
  refine PS.imp (ps_try_only (tb := tTry X.K ca R C db) (ts := tSuite X.K ca C none dsu) t1 t2 (names_of o hg hk) tk (fun W' pn xe tk' po => ⟨fun pins s σ H D I h => ?_⟩) (fun a oe cls d pn hz hf => ⟨fun pins s σ H D I h => ?_⟩)) fun D σ H h => ?_
  · obtain ⟨R', xq, hR, hx, h⟩ := h
    exact (hb (X' := X.tr pn xe) rfl (o.tr hc hR hx tk' po)).run pins s σ H D I h
  · obtain ⟨er, β0, H0, hkn, h⟩ := h
    exact (hsu (X' := X.suite a ((a, oe) :: pn)) rfl (o.suite (nm := none) (sl := none) (β := β0) (H := H0) hc ht hz hf hkn (.inl ⟨rfl, rfl⟩))).run pins s σ H D I h
  · obtain ⟨env, S, β, s, h⟩ := h
    unfold wpS at h
    refine ⟨⟨β, H, R.exn⟩, _, rfl, ?_, env, S, β, s.root Gr.refl rfl, wpSs_m _ db (DEnds.Le.mk ?_ ?_ ?_ ?_) h⟩
    · intro er env' S' β' σ' H' cls d hq s' re
      obtain ⟨q1, q2, q3, q4⟩ := hq
      have kk := o.ks ht _ _ q1
      obtain ⟨a1, a2, a3, a4⟩ := o.glob hg
      have g' : Gr X.K β H β' H' := s'.gr
      have rt : Sim X.K ca R env' S' β' σ' H' := s'.root (s.gr.trans g') rfl
      refine ⟨C.sub er.cls k, ?_, fun hs a ha => ?_, fun hs => hW er env' S' β' σ' H' cls d (q4 hs) rt re⟩
      · rw [re.1]
        exact kk.ex x g k a4 hk
      · refine ⟨er, β', H', q1, env', S', β', rt.bare Gr.refl (fun x hx => by cases hx), wpSs_m _ dsu (DEnds.Le.mk ?_ ?_ ?_ ?_) (q3 hs)⟩
        · intro e2 S2 z β2 σ2 H2 s2 g2
          exact z β2 _ H2 (s2.bare (s.gr.trans (g'.trans g2)) fun x hx => ⟨nosl x hx, ((rt.ex x hx).2).grow g2⟩) (g'.trans g2)
        · intro d2 S2 z
          exact HQ.step g' z
        · intro e2 S2 z β2 σ2 H2 s2 g2
          exact z β2 _ H2 (s2.bare (s.gr.trans (g'.trans g2)) fun x hx => ⟨nosl x hx, ((rt.ex x hx).2).grow g2⟩) (g'.trans g2)
        · intro e2 S2 z β2 σ2 H2 s2 g2
          exact z β2 _ H2 (s2.bare (s.gr.trans (g'.trans g2)) fun x hx => ⟨nosl x hx, ((rt.ex x hx).2).grow g2⟩) (g'.trans g2)
    · intro e2 S2 z β2 σ2 H2 s2 g2
      exact z β2 σ2 H2 (s2.root (s.gr.trans g2) rfl) g2
    · intro d2 S2 z
      exact z
    · intro e2 S2 z β2 σ2 H2 s2 g2
      exact z β2 σ2 H2 (s2.root (s.gr.trans g2) rfl) g2
    · intro e2 S2 z β2 σ2 H2 s2 g2
      exact z β2 σ2 H2 (s2.root (s.gr.trans g2) rfl) g2
end
end PD

set_option Elab.async false
set_option linter.all false
set_option maxRecDepth 100000
set_option maxHeartbeats 4000000
namespace PD
open PySem PySem.Spec PyProof.Rows L2
/-- the compiled statements are sound, to the depth n -/
def SS (n : Nat) : Prop := ∀ {ca : Nat → Addr} {R : Root} {X : Cx} {c : Ctx} {C : SC}, XOk ca R X c C → ∀ s d, compS n c s = some d → PS X s (LS X.K ca R (wpS C d))
section
variable {ca : Nat → Addr} {R : Root} {X : Cx} {c : Ctx} {C : SC} {n : Nat}
theorem sB (ih : SS n) (o : XOk ca R X c C) : ∀ (b : List Stmt) (db : List DS), compSs (compS n c) b = some db → PSs X b (LS X.K ca R (wpSs C db))
  | [], db, h => by
    cases h
    exact s_nil
  | s :: r, db, h => by
    unfold compSs at h
    split at h
    · rename_i x xs e1 e2
      cases h
      exact s_cons (ih o _ _ e1) (sB ih o r _ e2)
    · cases h
theorem add_b : ∀ (S : Store) (i : Int) (y : D) (Q : DQ), wpBin S .add (.int i) y Q → ∃ j, y = .int j ∧ Q (.int (i + j)) S := fun S i y Q h => by
  cases y with
  | int j => exact ⟨j, rfl, h⟩
  | _ => exact h.elim
theorem sub_b : ∀ (S : Store) (i : Int) (y : D) (Q : DQ), wpBin S .sub (.int i) y Q → ∃ j, y = .int j ∧ Q (.int (i - j)) S := fun S i y Q h => by
  cases y with
  | int j => exact ⟨j, rfl, h⟩
  | _ => exact h.elim
theorem opB_add {p : Operator} (h : opB p = some .add) : p = .Add := by cases p <;> first | rfl | cases h
theorem opB_sub {p : Operator} (h : opB p = some .sub) : p = .Sub := by cases p <;> first | rfl | cases h
theorem sub_inT (o : XOk ca R X c C) {t : Expr} {dt : DT} (h : compG n c t = some dt) : PG X t (LG X.K ca R (fun _ => True) (wpT C dt)) := by
  unfold compG at h
  split at h
  · rename_i oe ie p
    split at h
    · rename_i hs
      split at h
      · rename_i x y e1 e2
        cases h
        refine PG.imp (pg_sub ((sp n).E o _ _ e1) ((sp n).E o _ _ e2) (set_d (ca := ca) (by have := o.un; omega)) (fun v => by cases ie <;> first | rfl | cases hs)) fun v σ H Q q => ?_
        obtain ⟨env, S, β, d, s, r, q⟩ := q
        unfold wpT at q
        refine ⟨env, S, β, s, wpE_m _ _ _ _ _ _ (fun x S1 h β1 v1 H1 s1 g1 r1 => ?_) q⟩
        refine ⟨env, S1, β1, s.grow s1 g1, wpE_m _ _ _ _ _ _ (fun y S2 h β2 v2 H2 s2 g2 r2 => ?_) h⟩
        refine ⟨S2, β2, x, y, d, s2, r1.grow g2, r2, r.grow (g1.trans g2), ?_⟩
        refine wpSet_mono (fun S3 h H3 s3 g3 => ?_) h
        exact h _ _ _ (s.grow s3 ((g1.trans g2).trans g3)) ((g1.trans g2).trans g3) rfl fun _ _ => rfl
      · cases h
    · cases h
  · exact sN o n _ _ h (inT_true _)
theorem compG_ok {t : Expr} {dt : DT} (h : compG n c t = some dt) : (∀ ts p, t ≠ .List ts p) ∧ plainE t = true := by
  cases t with
  | Name x p => exact ⟨fun _ _ z => (nomatch z), rfl⟩
  | Tuple es k p => exact ⟨fun _ _ z => (nomatch z), rfl⟩
  | Subscript a i p => exact ⟨fun _ _ z => (nomatch z), rfl⟩
  | _ =>
    unfold compG at h
    cases n <;> cases h
theorem swap_asg (o : XOk ca R X c C) {t e : Expr} {dt : DT} {de : DE} {pos : Pos} (hs : swapOn c t e = true) (h1 : compG n c t = some dt) (h2 : compE n c e = some de) : PS X (.Assign [t] e pos) (LS X.K ca R (wpS C (.asg dt de))) := by
  unfold swapOn at hs
  split at hs
  · rename_i y py elt gs sc lpos
    obtain ⟨hs, ha⟩ := Bool.and_eq_true_iff.mp hs
    obtain ⟨hs, hl⟩ := Bool.and_eq_true_iff.mp hs
    obtain ⟨hk, hf⟩ := Bool.and_eq_true_iff.mp hs
    cases n with
    | zero => cases h2
    | succ m =>
      obtain ⟨tg, iter, ifs, t, it, oc, dx, own, rfl, rfl, hc, hb, hset, hi, hg, ht, he⟩ := lc_inv (sp m) o h2
      have h1' : compN (m + 1) c (.Name y py) = some dt := h1
      unfold compN at h1'
      dsimp only at h1'
      split at h1'
      · split at h1'
        · cases h1'
        · rename_i hne
          obtain ⟨i, hi', rfl⟩ := Option.map_eq_some_iff.mp h1'
          refine PS.imp (s_lc o hc hb hset hi hg ht he hi' (by simpa using hk) (by simpa using hf) hl (by simpa using ha)) fun D σ H h => ?_
          obtain ⟨env, S, β, s, h⟩ := h
          unfold wpS at h
          refine ⟨env, S, β, s, wpE_m _ _ _ _ _ _ (fun d S1 h β1 v H1 s1 g1 r1 => ?_) h⟩
          unfold wpT at h
          exact h β1 _ H1 ((s.grow s1 g1).set r1 (o.noex (ixOf_at hi') (by simpa using hne))) g1
      · cases h1'
  · cases hs
theorem ss_step (ih : SS n) (o : XOk ca R X c C) (s : Stmt) (d : DS) (h : compS (n + 1) c s = some d) : PS X s (LS X.K ca R (wpS C d)) := by
  have E := (sp n).E o
  have T := (sp n).T o
  unfold compS at h
  split at h
  · -- an attribute
    split at h
    · rename_i hn
      split at h
      · rename_i e1 e2
        cases h
        exact s_setf o (E _ _ e2) (E _ _ e1) hn
      · cases h
    · cases h
  · -- an assignment
    split at h
    · cases h
    · rename_i hp
      split at h
      · rename_i e1 e2
        split at h
        · rename_i hs
          cases h
          obtain ⟨k1, k2⟩ := compG_ok e1
          rcases Bool.or_eq_true_iff.mp hs with hs | hs
          · exact s_asg o (E _ _ e2) (sub_inT o e1) hs (by simpa using hp) k1 k2
          · exact swap_asg o hs e1 e2
        · cases h
      · cases h
  · -- op=
    split at h
    · rename_i hk
      split at h
      · cases h
      · rename_i hne
        split at h
        · rename_i e1 e2 e3
          cases h
          have := opB_add e2
          subst this
          exact s_aug o e1 hk (by simpa using hne) (E _ _ e3) ip_add add_b
        · rename_i e1 e2 e3
          cases h
          have := opB_sub e2
          subst this
          exact s_aug o e1 hk (by simpa using hne) (E _ _ e3) ip_sub sub_b
        · cases h
    · cases h
  · split at h
    · rename_i e p hd
      cases h
      unfold docE at hd
      split at hd
      · exact s_doc
      · cases hd
    · split at h
      · rename_i hn
        obtain ⟨x, hx, rfl⟩ := Option.map_eq_some_iff.mp h
        exact s_ex (E _ _ hx) hn
      · cases h
  · obtain ⟨x, hx, rfl⟩ := Option.map_eq_some_iff.mp h
    exact s_ret (E _ _ hx)
  · cases h
    exact s_retN
  · split at h
    · rename_i hn
      split at h
      · rename_i e1 e2 e3
        cases h
        exact s_if (T _ _ hn e1) (sB ih o _ _ e2) (sB ih o _ _ e3)
      · cases h
    · cases h
  · split at h
    · rename_i hc
      obtain ⟨hc, hs⟩ := Bool.and_eq_true_iff.mp hc
      split at h
      · rename_i e1 e2 e3
        cases h
        exact s_fr o hc hs (sI o E e2) (sN o n _ _ e1 (inT_true _)) (sB ih o _ _ e3)
      · cases h
    · cases h
  · split at h
    · rename_i hc
      obtain ⟨hc, hs⟩ := Bool.and_eq_true_iff.mp hc
      split at h
      · rename_i e1 e2
        cases h
        exact s_wh o (T _ _ hs e1) (sB ih o _ _ e2)
      · cases h
    · cases h
  · cases h; exact s_pas
  · cases h; exact s_brk
  · cases h; exact s_cnt
  · -- raise
    split at h
    · rename_i hc
      obtain ⟨hc, he⟩ := Bool.and_eq_true_iff.mp hc
      obtain ⟨hc, ht⟩ := Bool.and_eq_true_iff.mp hc
      split at h
      · rename_i e1 e2
        cases h
        exact s_rse o hc ht e1 (by simpa using he) e2 (sL E _ _ e2)
      · cases h
    · cases h
  · -- try
    split at h
    · rename_i hc
      obtain ⟨hc, ht⟩ := Bool.and_eq_true_iff.mp hc
      split at h
      · rename_i k nm su b e1 e2
        split at h
        · rename_i su' e3
          unfold hdOk at e1
          split at e1
          · rename_i x np y b0 r pos'
            obtain ⟨k', hk', e⟩ := Option.map_eq_some_iff.mp e1
            cases e
            obtain ⟨g, hg, hk⟩ := Option.bind_eq_some_iff.mp hk'
            split at h
            · cases h
              exact s_tr0 o hc ht hg hk (fun {R' X' C'} _ o' => sB ih o' _ _ e2) (fun {R' X' C'} _ o' => sB ih o' _ _ e3)
            · split at h
              · rename_i hl
                obtain ⟨i, hi, rfl⟩ := Option.map_eq_some_iff.mp h
                exact s_tr1 o hc ht hg hk hi (by simpa using hl) (fun {R' X' C'} _ o' => sB ih o' _ _ e2) (fun {R' X' C'} _ o' => sB ih o' _ _ e3)
              · cases h
          · cases e1
        · cases h
      · cases h
    · cases h
  · cases h
end
theorem ss : ∀ n, SS n
  | 0 => fun _ _ _ h => (nomatch h)
  | n + 1 => fun o s d => ss_step (ss n) o s d
end PD

set_option Elab.async false
set_option linter.all false
set_option maxRecDepth 100000
set_option maxHeartbeats 4000000
namespace PD
open PySem PySem.Spec PyProof.Rows L2
/-! ### a module's defs -/
structure Md where
  /-- the defs, each calling those ahead of it alone -/
  fnames : List Str
  oth : List (Str × GK)
  sp : Nat → DSp
  sub : Nat → Nat → Bool
  kn : Nat → List Str → Bool
  /-- the methods: name, class, def; the classes that are made: name, class, def -/
  mts : List (Str × Nat × Nat)
  news : List (Str × Nat × Nat)
  con : Nat → Str → Option D
  noA : Nat → Str → Bool
/-- the defs that are methods -/
def Md.meths (M : Md) : List Nat := M.mts.map (·.2.2) ++ M.news.map (·.2.2)
def fnGl (ms : List Nat) (ns : List Str) (i : Nat) : List (Str × GK) := ((List.range i).filter fun j => !(ms.contains j)).map fun j => (ns.getD j "", .fn j)
def Md.gl (M : Md) (i : Nat) : List (Str × GK) := (".", .mts (M.mts.filter fun t => decide (t.2.2 < i))) :: ((M.news.filter fun t => decide (t.2.2 < i)).map (fun t => (t.1, .new t.2.1 t.2.2)) ++ (M.oth ++ fnGl M.meths M.fnames i))
def mkCtx (gl : List (Str × GK)) (N : List Str) (sc : Scope) : Ctx := { N := N, sc := sc, calm := true, top := true, fn := true, exn := none, gl := gl }
def Md.C (M : Md) (E : EQ) : SC := ⟨M.sp, fun er _ S => E er S, none, M.sub, M.kn, M.con, M.noA⟩
def rets (Q : DQ) : DEnds := ⟨fun _ S => Q .non S, Q, fun _ _ => False, fun _ _ => False⟩
def startD (N : List Str) (ds : List D) : DEnv := ds.map some ++ List.replicate (N.length - ds.length) none
def isFnK : GK → Bool
  | .fn _ => true
  | .new _ _ => true
  | .mts _ => true
  | _ => false
theorem lookup_in {α : Type} {x : Str} : ∀ {l : List (Str × α)} {y : α}, l.lookup x = some y → (x, y) ∈ l
  | [], _, h => by cases h
  | (g, z) :: r, y, h => by
    rw [List.lookup_cons] at h
    cases e : x == g with
    | true =>
      rw [e] at h
      cases h
      have : x = g := by simpa using e
      rw [this]
      exact List.mem_cons_self
    | false =>
      rw [e] at h
      exact List.mem_cons_of_mem _ (lookup_in h)
/-- what is known of the module -/
structure MdOk (M : Md) (ca : Nat → Addr) (P : Program) (w : World) (K : PySem.W.Frag) (mg : Str → Option Value) (base : Heap) : Prop where
  gl : ∀ (X : Cx), X.K = K → X.mg = mg → ∀ (x : Str) (g : GK), (x, g) ∈ M.oth → GOk ca X x g
  nf : ∀ (x : Str) (g : GK), (x, g) ∈ M.oth → isFnK g = false
  rs : ∀ (X : Cx), X.prog = P → X.w = w → X.K = K → X.mg = mg → X.base = base → Room 2 X.A → ∀ (x : Str) (k : Nat) (fs : List Str), (x, GK.exc k fs) ∈ M.oth → ROk ca X x k fs
  ks : ∀ (k : Nat) (fs : List Str), M.kn k fs = true → XfC K (ca k) ∧ KXC K (ca k) ∧ (∀ f ∈ fs, PySem.W.findIn K (.ref (ca k)) f = some none) ∧
    (∀ (x : Str) (g : GK) (j : Nat), (x, g) ∈ M.oth → g.cid = some j → PySem.W.exmOne K (.ref (ca k)) (g.cv ca) = some (M.sub k j) ∧ PySem.W.kitOne K (.ref (ca k)) (g.cv ca) = some (M.sub k j))
  cl : ∀ (m : Str) (k j : Nat), (m, k, j) ∈ M.mts → Cls K (ca k)
  nm : ∀ (x : Str) (k j : Nat), (x, k, j) ∈ M.news → mg x = some (.ref (ca k))
  cn : ∀ (k : Nat) (f : Str) (d : D), M.con k f = some d → Cls K (ca k) ∧ ∃ v u, Con K (ca k) f v u ∧ ∀ H β, RD K ca H β d v
  na : ∀ (k : Nat) (f : Str), M.noA k f = true → Cls K (ca k) ∧ NoAttr K (ca k) f
/-- the defs ahead of the i-th keep their promises -/
def Done (M : Md) (ca : Nat → Addr) (P : Program) (w : World) (K : PySem.W.Frag) (mg : Str → Option Value) (base : Heap) (i : Nat) : Prop :=
  ∀ j, j < i → ∃ a, (M.meths.contains j = false → mg (M.fnames.getD j "") = some (.ref a) ∧ PySem.W.keepIn K (.ref a) = true) ∧ FnR P w K mg base (L2.CX P w) (2 * j + 3) a (LSp K ca (M.sp j)) ∧
    (∀ m k, (m, k, j) ∈ M.mts → Meth K (ca k) m a) ∧ ∀ x k, (x, k, j) ∈ M.news → Mk K (ca k) a
section
variable {M : Md} {ca : Nat → Addr} {P : Program} {w : World} {K : PySem.W.Frag} {mg : Str → Option Value} {base : Heap} {i : Nat}
theorem Done.zero : Done M ca P w K mg base 0 := fun j h => absurd h (Nat.not_lt_zero j)
theorem Done.put (d : Done M ca P w K mg base i) {a : Addr} (h1 : M.meths.contains i = false → mg (M.fnames.getD i "") = some (.ref a) ∧ PySem.W.keepIn K (.ref a) = true) (h3 : FnR P w K mg base (L2.CX P w) (2 * i + 3) a (LSp K ca (M.sp i)))
    (h4 : ∀ m k, (m, k, i) ∈ M.mts → Meth K (ca k) m a) (h5 : ∀ x k, (x, k, i) ∈ M.news → Mk K (ca k) a) : Done M ca P w K mg base (i + 1) := fun j h => by
  rcases Nat.lt_or_ge j i with z | z
  · exact d j z
  · have e : j = i := by omega
    subst e
    exact ⟨a, h1, h3, h4, h5⟩
theorem not_meth {j : Nat} (h : M.meths.contains j = false) : (∀ m k, (m, k, j) ∉ M.mts) ∧ ∀ x k, (x, k, j) ∉ M.news := by
  have hn : j ∉ M.meths := by
    intro z
    rw [List.contains_iff_mem.mpr z] at h
    cases h
  refine ⟨fun m k z => hn ?_, fun x k z => hn ?_⟩
  · exact List.mem_append_left _ (List.mem_map.mpr ⟨_, z, rfl⟩)
  · exact List.mem_append_right _ (List.mem_map.mpr ⟨_, z, rfl⟩)
theorem Done.succ (d : Done M ca P w K mg base i) {a : Addr} (h1 : mg (M.fnames.getD i "") = some (.ref a)) (h2 : PySem.W.keepIn K (.ref a) = true) (h3 : FnR P w K mg base (L2.CX P w) (2 * i + 3) a (LSp K ca (M.sp i))) (h4 : M.meths.contains i = false) : Done M ca P w K mg base (i + 1) :=
  d.put (fun _ => ⟨h1, h2⟩) h3 (fun m k z => absurd z ((not_meth h4).1 m k)) fun x k z => absurd z ((not_meth h4).2 x k)
theorem gl_split {x : Str} {g : GK} (h : (M.gl i).lookup x = some g) : ((x, g) ∈ M.oth ∨ ∃ j, j < i ∧ M.meths.contains j = false ∧ x = M.fnames.getD j "" ∧ g = .fn j) ∨ (∃ k j, j < i ∧ (x, k, j) ∈ M.news ∧ g = .new k j) ∨ g = .mts (M.mts.filter fun t => decide (t.2.2 < i)) := by
  have h' := lookup_in h
  unfold Md.gl fnGl at h'
  rcases List.mem_cons.mp h' with h' | h'
  · cases h'
    exact .inr (.inr rfl)
  rcases List.mem_append.mp h' with h' | h'
  · obtain ⟨⟨y, k, j⟩, hm, e⟩ := List.mem_map.mp h'
    obtain ⟨h1, h2⟩ := List.mem_filter.mp hm
    cases e
    exact .inr (.inl ⟨k, j, of_decide_eq_true h2, h1, rfl⟩)
  rcases List.mem_append.mp h' with h' | h'
  · exact .inl (.inl h')
  · obtain ⟨j, hj, e⟩ := List.mem_map.mp h'
    obtain ⟨h1, h2⟩ := List.mem_filter.mp hj
    cases e
    exact .inl (.inr ⟨j, List.mem_range.mp h1, by simpa using h2, rfl, rfl⟩)
theorem start_sim {S : Store} {β : List Addr} {H : Hp} {ds : List D} {vs : List V} (N : List Str) (hs : HSim K ca S β H) (r : RDs K ca H β ds vs) : Sim K ca ⟨β, H, none⟩ (startD N ds) S β (L2.start N vs) H where
  h := hs
  el := by
    unfold startD L2.start
    rw [List.length_append, List.length_append, List.length_map, List.length_map, List.length_replicate, List.length_replicate, r.length]
  ev := fun j d h => by
    unfold startD at h
    rw [List.getElem?_append] at h
    split at h
    · rename_i hl
      rw [List.length_map] at hl
      rw [List.getElem?_map] at h
      obtain ⟨e, he, e2⟩ := Option.map_eq_some_iff.mp h
      cases e2
      obtain ⟨v, hv, rv⟩ := r.get he
      refine ⟨v, ?_, rv⟩
      unfold L2.start
      rw [List.getElem?_append_left (by rw [List.length_map, ← r.length]; exact hl), List.getElem?_map, hv]
      rfl
    · have := List.mem_of_getElem? h
      have := List.eq_of_mem_replicate this
      cases this
  gr := Gr.refl
  ex := fun x e => by cases e
theorem ctx_ok (O : MdOk M ca P w K mg base) (D : Done M ca P w K mg base i) {N : List Str} {qual : Str} {scope : Scope} {f : Addr} {cdv : Value} {A : Around} {outer : List Env} {s : Shared} {H : Hp} {E : XK} {β : List Addr} {E0 : EQ}
    (nd : N.Nodup) (hr : Room (2 * i + 2) (A.deeper (envOfC qual scope s.heap.objs.size f cdv))) (hE : ∀ er S, E0 er S → HE K ca β H E er S) :
    XOk ca ⟨β, H, none⟩ (cxOf (L2.CX P w) P w K mg base N qual scope f cdv A outer s H E) (mkCtx (M.gl i) N scope) (M.C E0) where
  N := rfl
  nd := nd
  sc := rfl
  calm := fun _ => rfl
  fn := fun _ _ => rfl
  un := by
    have := hr.un
    show (A.deeper (envOfC qual scope s.heap.objs.size f cdv)).units + 65 < cLine
    omega
  gl := fun x g h => by
    rcases gl_split h with (h | ⟨j, _, _, _, rfl⟩) | ⟨k, j, _, hn, rfl⟩ | rfl
    · exact O.gl _ rfl rfl x g h
    · trivial
    · exact O.nm x k j hn
    · trivial
  fs := fun _ x j h => by
    rcases gl_split h with (h | ⟨j', hj, hm, hx, e⟩) | ⟨k, j', _, h, e⟩ | e
    · exact absurd (O.nf x _ h) (fun z => nomatch z)
    · cases e
      obtain ⟨a, h1, h3, _⟩ := D j hj
      obtain ⟨h1, h2⟩ := h1 hm
      exact ⟨a, 2 * j + 3, by rw [hx]; exact h1, h2, hr.mono (by omega), h3⟩
    · cases e
    · cases e
  ms := fun _ t h m k j z => by
    have e : t = M.mts.filter fun t => decide (t.2.2 < i) := by
      have h : List.lookup (".": Str) (M.gl i) = some (.mts t) := h
      unfold Md.gl at h
      rw [List.lookup_cons] at h
      have : ((".": Str) == (".": Str)) = true := by simp
      rw [this] at h
      cases h
      rfl
    subst e
    obtain ⟨h1, h2⟩ := List.mem_filter.mp z
    have hj : j < i := of_decide_eq_true h2
    obtain ⟨a, _, h3, h4, _⟩ := D j hj
    exact ⟨O.cl m k j h1, a, 2 * j + 3, h4 m k h1, hr.mono (by omega), h3⟩
  nw := fun _ x k j h => by
    rcases gl_split h with (h | ⟨j', hj, hm, hx, e⟩) | ⟨k', j', hj, hn, e⟩ | e
    · exact absurd (O.nf x _ h) (fun z => nomatch z)
    · cases e
    · obtain ⟨rfl, rfl⟩ : k = k' ∧ j = j' := by cases e; exact ⟨rfl, rfl⟩
      obtain ⟨a, _, h3, _, h5⟩ := D j hj
      exact ⟨a, 2 * j + 3, h5 x k hn, hr.mono (by omega), h3⟩
    · cases e
  cn := fun k f d h => O.cn k f d h
  na := fun k f h => O.na k f h
  rs := fun _ pn xe x k fs h => by
    rcases gl_split h with (h | ⟨j', hj, hm, hx, e⟩) | ⟨k', j', hj, h, e⟩ | e
    · exact O.rs _ rfl rfl rfl rfl rfl (hr.mono (by omega)) x k fs h
    · cases e
    · cases e
    · cases e
  ks := fun _ k fs h => by
    obtain ⟨h1, h2, h3, h4⟩ := O.ks k fs h
    refine ⟨h1, h2, h3, fun x g j hx hj => ?_, fun x g j hx hj => ?_⟩
    · rcases gl_split hx with (hx | ⟨_, _, _, _, rfl⟩) | ⟨k', j', _, hn, rfl⟩ | rfl
      · exact (h4 x g j hx hj).1
      · cases hj
      · cases hj
      · cases hj
    · rcases gl_split hx with (hx | ⟨_, _, _, _, rfl⟩) | ⟨k', j', _, hn, rfl⟩ | rfl
      · exact (h4 x g j hx hj).2
      · cases hj
      · cases hj
      · cases hj
  po := passes_of rfl
  tk := ⟨fun cls d _ H' => E cls d H', takes_of rfl rfl rfl rfl, fun er env S β' σ H' cls d h sm re => hE er S h β' cls d H' sm.h sm.gr re⟩
  top := fun _ => ⟨rfl, rfl⟩
  exs := fun ei h => by cases h
  exn := fun n h => by cases h
theorem rets_ok {R : Root} {β : List Addr} {H : Hp} {Q : VK} {Q0 : DQ} (hQ : ∀ d S, Q0 d S → HQ K ca β H Q d S) : (rets Q0).Le (LD K ca R β H { nx := fun _ H' => Q .non H', rt := Q }) := by
  refine DEnds.Le.mk ?_ ?_ ?_ ?_
  · intro e S h β' σ' H' s' g'
    exact hQ .non S h β' .non H' s'.h g' .non
  · exact hQ
  · intro e S h; exact h.elim
  · intro e S h; exact h.elim
/-- a body keeps its promise -/
theorem body_ok (O : MdOk M ca P w K mg base) (D : Done M ca P w K mg base i) {N : List Str} {qual : Str} {scope : Scope} {f : Addr} {cdv : Value} {A : Around} {outer : List Env} {s : Shared} {H : Hp} {E : XK} {Q : VK} {vs : List V} {sp : DSp} {n : Nat} {b : List Stmt} {db : List DS}
    (nd : N.Nodup) (hc : compSs (compS n (mkCtx (M.gl i) N scope)) b = some db) (vc : ∀ ds S Q E, sp ds S Q E → wpSs (M.C E) db (rets Q) (startD N ds) S) (hr : Room (2 * i + 2) (A.deeper (envOfC qual scope s.heap.objs.size f cdv))) (h : LSp K ca sp vs H Q E) :
    ∃ t, PSs (cxOf (L2.CX P w) P w K mg base N qual scope f cdv A outer s H E) b t ∧ t { nx := fun _ H' => Q .non H', rt := Q } (L2.start N vs) H := by
  obtain ⟨S, β, ds, hs, r, Q0, E0, h, hQ, hE⟩ := h
  have o : XOk ca ⟨β, H, none⟩ (cxOf (L2.CX P w) P w K mg base N qual scope f cdv A outer s H E) (mkCtx (M.gl i) N scope) (M.C E0) := ctx_ok O D nd hr hE
  exact ⟨_, sB (ss n) o b db hc, startD N ds, S, β, start_sim N hs r, wpSs_m _ db (rets_ok hQ) (vc ds S Q0 E0 h)⟩
/-- THE RULE for a def -/
theorem fn_step (O : MdOk M ca P w K mg base) (D : Done M ca P w K mg base i) {x qual : Str} {st : Stmt} {f : Addr} {fd : FuncData} {N ps : List Str} {sp : DSp} {n : Nat} {db : List DS} (F : Fun K x qual st f fd) (S : FnScope N ps (defScope st))
    (hc : compSs (compS n (mkCtx (M.gl i) N (defScope st))) (defBody st) = some db) (len : ∀ ds S Q E, sp ds S Q E → ds.length = ps.length) (vc : ∀ ds S Q E, sp ds S Q E → wpSs (M.C E) db (rets Q) (startD N ds) S) :
    FnOk P w K mg base (L2.CX P w) (2 * i + 3) f fd ps (LSp K ca sp) := by
  refine F.okX S (fun vs H Q E h => ?_) (fun cdv A outer s H vs Q E hr h => body_ok O D S.nd hc vc hr h)
  obtain ⟨S, β, ds, hs, r, Q0, E0, h, hQ, hE⟩ := h
  rw [← r.length]
  exact len _ _ _ _ h
theorem fn_all {f : Addr} {fd : FuncData} {ps : List Str} {k : Nat} {sp : Sp} (F : FnOk P w K mg base (L2.CX P w) k f fd ps sp) (b : Binds K fd ps []) : FnR P w K mg base (L2.CX P w) k f sp := (F.raw b .nil).imp fun vs H Q E h => by
  rw [List.append_nil]
  exact h
/-- .. called with the defaults -/
theorem fn_dfl {f : Addr} {fd : FuncData} {ps : List Str} {k : Nat} {sp : DSp} {ds : List Value} {dvs : List V} {dds : List D} (F : FnOk P w K mg base (L2.CX P w) k f fd ps (LSp K ca sp)) (b : Binds K fd ps ds) (hd : Vals dvs ds) (hr : ∀ H β, RDs K ca H β dds dvs) :
    FnR P w K mg base (L2.CX P w) k f (LSp K ca fun es S Q E => sp (es ++ dds) S Q E) := (F.raw b hd).imp fun vs H Q E h => by
  obtain ⟨S, β, es, hs, r, h⟩ := h
  exact ⟨S, β, es ++ dds, hs, r.app (hr H β), h⟩
theorem fn_or {f : Addr} {k : Nat} {sp sp' : DSp} (F : FnR P w K mg base (L2.CX P w) k f (LSp K ca sp)) (F' : FnR P w K mg base (L2.CX P w) k f (LSp K ca sp')) : FnR P w K mg base (L2.CX P w) k f (LSp K ca fun es S Q E => sp es S Q E ∨ sp' es S Q E) := fun A outer s H us vs Q E hr e0 r h => by
  obtain ⟨S, β, es, hs, rd, Q0, E0, h, hQ, hE⟩ := h
  rcases h with h | h
  · exact F A outer s H us vs Q E hr e0 r ⟨S, β, es, hs, rd, Q0, E0, h, hQ, hE⟩
  · exact F' A outer s H us vs Q E hr e0 r ⟨S, β, es, hs, rd, Q0, E0, h, hQ, hE⟩
theorem rds_split {H : Hp} {β : List Addr} : ∀ {as bs : List D} {vs : List V}, RDs K ca H β (as ++ bs) vs → ∃ us ws, vs = us ++ ws ∧ RDs K ca H β as us ∧ RDs K ca H β bs ws
  | [], bs, vs, r => ⟨[], vs, rfl, .nil, r⟩
  | a :: as, bs, vs, r => by
    cases r with
    | cons r1 r2 =>
      obtain ⟨us, ws, rfl, h1, h2⟩ := rds_split r2
      exact ⟨_ :: us, ws, rfl, .cons r1 h1, h2⟩
/-- def f(a, .., *v) -/
theorem fn_star_step (O : MdOk M ca P w K mg base) (D : Done M ca P w K mg base i) {x qual pv : Str} {st : Stmt} {f : Addr} {fd : FuncData} {N ps : List Str} {sp : DSp} {n : Nat} {db : List DS} (F : Fun K x qual st f fd) (S : FnScope N (ps ++ [pv]) (defScope st))
    (hb : ∀ (kV doc pm : Value) (an : Option Addr) (cdv ct : Value) (us rest : List Value), us.length = ps.length → bindArgs (PySem.W.fnOf x qual (defArgs st) (defBody st) (defScope st) .none kV doc pm an cdv ct) ⟨us ++ rest, []⟩ = (newTuple rest >>= fun t => pure (ps.zip us ++ [(pv, t)])))
    (hc : compSs (compS n (mkCtx (M.gl i) N (defScope st))) (defBody st) = some db) (vc : ∀ ds S Q E, sp ds S Q E → wpSs (M.C E) db (rets Q) (startD N ds) S) :
    FnR P w K mg base (L2.CX P w) (2 * i + 3) f (LSp K ca fun es S Q E => ∃ as bs, es = as ++ bs ∧ as.length = ps.length ∧ bs.length ≤ sizeLine ∧ sp (as ++ [.tup bs]) S Q E) := by
  obtain ⟨oc, od, kV, doc, pm, an, cdv, ct, osl, rfl, lk, hcd⟩ := F.ex
  refine (StX.fn_star (sp := LSp K ca sp) lk hcd S StX.cxUp (hb _ _ _ _ _ _) fun A outer s H vs Q E hr h => body_ok O D S.nd hc vc hr h).imp fun vs H Q E h => ?_
  obtain ⟨S, β, es, hs, r, Q0, E0, ⟨as, bs, rfl, hl, hz, h⟩, hQ, hE⟩ := h
  obtain ⟨us, ws, rfl, h1, h2⟩ := rds_split r
  refine ⟨us, ws, rfl, by rw [← h1.length]; exact hl, by rw [← h2.length]; exact hz, fun p hp => ?_⟩
  have g : Gr K β H β (upd H p (.tup ws)) := Gr.fresh hp
  refine ⟨S, β, as ++ [.tup bs], hs.fresh hp, (h1.grow g).app (.cons (.tup upd_same (h2.grow g)) .nil), Q0, E0, h, fun d S' q => (hQ d S' q).step g, fun er S' q => ?_⟩
  intro β' cls d H' s' g' re
  exact hE er S' q β' cls d H' s' (g.trans g') re
end
end PD

set_option Elab.async false
set_option linter.all false
set_option maxRecDepth 100000
set_option maxHeartbeats 4000000
namespace PD
open PySem PySem.Spec PyProof.Rows L2
/-! ### own exception classes with __init__(self, a, ..): self.f = a; .. -/
/-- the fields that the body stores, the slots of their values -/
def initL (N : List Str) (sc : Scope) : List Stmt → Option (List (Str × Nat))
  | [] => some []
  | .Assign [.Attribute (.Name x _) f _] (.Name y _) _ :: r => if okN x && okN y && sc.names.lookup x == some .local && sc.names.lookup y == some .local && ixOf x N 0 == some 0 then (match ixOf y N 0, initL N sc r with
    | some i, some l => some ((f, i) :: l)
    | _, _ => none) else none
  | _ => none
/-- its reading -/
def tInit (K : PySem.W.Frag) : List (Str × Nat) → TS
  | [] => tNext
  | (f, i) :: r => tSeq (tOst K f (tVar 0) (tVar i)) (tInit K r)
theorem init_ok {X : Cx} {N : List Str} (hN : X.N = N) : ∀ {b : List Stmt} {l : List (Str × Nat)}, initL N X.env.scope b = some l → PSs X b (tInit X.K l)
  | [], l, h => by cases h; exact pss_nil
  | s :: r, l, h => by
    unfold initL at h
    split at h
    · rename_i heq
      cases heq
    · rename_i x p1 f p2 y p3 p4 r' heq
      cases heq
      split at h
      · rename_i hk
        simp only [Bool.and_eq_true] at hk
        obtain ⟨⟨⟨⟨k1, k2⟩, k3⟩, k4⟩, k5⟩ := hk
        split at h
        · rename_i i l' e1 e2
          cases h
          obtain ⟨a1, a2⟩ := okN_1 k1
          obtain ⟨b1, b2⟩ := okN_1 k2
          have h0 : X.N[0]? = some x := by rw [hN]; exact ixOf_at (by simpa using k5)
          have h1 : X.N[i]? = some y := by rw [hN]; exact ixOf_at e1
          exact pss_cons (ps_ost (pe_var h0 (.inl (by simpa using k3)) a1 a2) (pe_var h1 (.inl (by simpa using k4)) b1 b2) rfl) (init_ok hN e2)
        · cases h
      · cases h
    · cases h
/-- the further fields -/
theorem init_more {K : PySem.W.Frag} {σ : L2.St} {a C dx : Addr} (T : OexC K C) (h0 : σ[0]? = some (some (.ref a))) (hda : dx ≠ a) {D : Ends} : ∀ (l : List (Str × Nat)) (fs : List (Str × V)) (H : Hp) (vs : List V),
    (∀ p ∈ l, PySem.W.findIn K (.ref C) p.1 = some none) → Paired (fun (p : Str × Nat) v => σ[p.2]? = some (some v)) l vs → fs.length + l.length ≤ 900 → H a = some (exo a C (some dx)) → H dx = some (exd dx fs) →
    (∀ H' fv, (∀ b, b ≠ a → b ≠ dx → H' b = H b) → H' a = some (exo a C (some dx)) → H' dx = some (exd dx fv) → fv = ((l.map (·.1)).zip vs).reverse ++ fs → D.nx σ H') → tInit K l D σ H
  | [], fs, H, vs, _, r, _, ha, hd, k => by
    cases r
    exact k H fs (fun _ _ _ => rfl) ha hd rfl
  | (f, i) :: l, fs, H, vs, hno, r, hl, ha, hd, k => by
    cases r with
    | @cons _ v _ vs' r1 r2 =>
      rw [List.length_cons] at hl
      refine ⟨v, r1, .ref a, h0, a, C, rfl, T, hno _ List.mem_cons_self, .inr ⟨dx, fs, ha, hd, by omega, ?_⟩⟩
      refine init_more T h0 hda l ((f, v) :: fs) _ vs' (fun p hp => hno p (List.mem_cons_of_mem _ hp)) r2 (by rw [List.length_cons]; omega) ?_ upd_same fun H' fv h1 h2 h3 h4 => ?_
      · rw [upd_ne hda.symm]
        exact ha
      · refine k H' fv (fun b b1 b2 => ?_) h2 h3 ?_
        · rw [h1 b b1 b2, upd_ne b2]
        · rw [h4]
          simp
theorem init_pure {K : PySem.W.Frag} {σ : L2.St} {a C : Addr} (T : OexC K C) (h0 : σ[0]? = some (some (.ref a))) {D : Ends} (l : List (Str × Nat)) (H : Hp) (vs : List V) (hl : l ≠ []) (hl2 : l.length ≤ 900)
    (hno : ∀ p ∈ l, PySem.W.findIn K (.ref C) p.1 = some none) (r : Paired (fun (p : Str × Nat) v => σ[p.2]? = some (some v)) l vs) (ha : H a = some (exo a C none))
    (k : ∀ H' dx, H dx = none → dx ≠ a → (∀ b, b ≠ a → b ≠ dx → H' b = H b) → H' a = some (exo a C (some dx)) → H' dx = some (exd dx ((l.map (·.1)).zip vs).reverse) → D.nx σ H') : tInit K l D σ H := by
  cases l with
  | nil => exact absurd rfl hl
  | cons p l =>
    obtain ⟨f, i⟩ := p
    cases r with
    | @cons _ v _ vs' r1 r2 =>
      refine ⟨v, r1, .ref a, h0, a, C, rfl, T, hno _ List.mem_cons_self, .inl ⟨ha, fun dx hd hda => ?_⟩⟩
      rw [List.length_cons] at hl2
      refine init_more T h0 hda l [(f, v)] _ vs' (fun p hp => hno p (List.mem_cons_of_mem _ hp)) r2 (by rw [List.length_cons, List.length_nil]; omega) upd_same (by rw [upd_ne hda]; exact upd_same) fun H' fv h1 h2 h3 h4 => ?_
      refine k H' dx hd hda (fun b b1 b2 => ?_) h2 (by rw [h3, h4]; simp)
      rw [h1 b b1 b2, upd_ne b1, upd_ne b2]
theorem lookup_rev {α : Type} : ∀ {fs : List (Str × α)}, (fs.map (·.1)).Nodup → ∀ f, fs.reverse.lookup f = fs.lookup f
  | [], _, f => rfl
  | (g, y) :: r, nd, f => by
    rw [List.map_cons, List.nodup_cons] at nd
    have ih := lookup_rev (fs := r) nd.2 f
    rw [List.reverse_cons, List.lookup_append, ih, List.lookup_cons, List.lookup_cons, List.lookup_nil]
    cases e : f == g with
    | false =>
      cases r.lookup f <;> rfl
    | true =>
      have : f = g := by simpa using e
      subst this
      rw [lookup_none nd.1]
      rfl
def spInit (C : Addr) (fs : List Str) : Sp := fun vs H Q _ => ∃ a ws, vs = .ref a :: ws ∧ ws.length = fs.length ∧ H a = some (exo a C none) ∧
  ∀ H' dx, H dx = none → dx ≠ a → (∀ b, b ≠ a → b ≠ dx → H' b = H b) → H' a = some (exo a C (some dx)) → H' dx = some (exd dx (fs.zip ws).reverse) → Q .non H'
theorem slots_of : ∀ {l : List (Str × Nat)} {ws : List V} {k : Nat} {σ : L2.St}, l.map (·.2) = List.range' k l.length → ws.length = l.length → (∀ i v, ws[i]? = some v → σ[k + i]? = some (some v)) → Paired (fun (p : Str × Nat) v => σ[p.2]? = some (some v)) l ws
  | [], [], _, _, _, _, _ => .nil
  | [], _ :: _, _, _, _, h, _ => by cases h
  | _ :: _, [], _, _, _, h, _ => by cases h
  | (f, i) :: l, w :: ws, k, σ, h, hl, hs => by
    rw [List.map_cons, List.length_cons, List.range'_succ] at h
    injection h with h1 h2
    refine .cons ?_ (slots_of (k := k + 1) h2 (by simpa using hl) fun j v hv => ?_)
    · dsimp only at h1 ⊢
      rw [h1]
      exact hs 0 w rfl
    · have := hs (j + 1) v hv
      rw [show k + 1 + j = k + (j + 1) by omega]
      exact this
theorem init_fn {P : Program} {w : World} {K : PySem.W.Frag} {mg : Str → Option Value} {base : Heap} {C fI : Addr} {qual : Str} {st : Stmt} {fd : FuncData} {N ps fs : List Str} {l : List (Str × Nat)} (T : OexC K C) (F : Fun K "__init__" qual st fI fd) (S : FnScope N ps (defScope st))
    (hc : initL N (defScope st) (defBody st) = some l) (hfs : l.map (·.1) = fs) (hsl : l.map (·.2) = List.range' 1 l.length) (hps : ps.length = fs.length + 1) (hne : l ≠ []) (hl : l.length ≤ 900) (hno : ∀ f ∈ fs, PySem.W.findIn K (.ref C) f = some none) :
    FnOk P w K mg base (L2.CX P w) 1 fI fd ps (spInit C fs) := by
  refine F.okX S (fun vs H Q E h => ?_) (fun cdv A outer s H vs Q E hr h => ⟨tInit K l, init_ok (N := N) rfl hc, ?_⟩)
  · obtain ⟨a, ws, rfl, h1, _⟩ := h
    rw [List.length_cons, h1, hps]
  · obtain ⟨a, ws, rfl, h1, h2, k⟩ := h
    have e : (l.map (·.1)).length = l.length := List.length_map ..
    rw [hfs] at e
    refine init_pure T rfl l H ws hne hl (fun p hp => hno _ (by rw [← hfs]; exact List.mem_map_of_mem hp)) (slots_of hsl (by omega) fun i v hv => ?_) h2 fun H' dx d1 d2 d3 d4 d5 => k H' dx d1 d2 d3 d4 (by rw [← hfs]; exact d5)
    unfold L2.start
    have hi : i < ws.length := by
      rcases Nat.lt_or_ge i ws.length with z | z
      · exact z
      · rw [List.getElem?_eq_none z] at hv; cases hv
    rw [List.getElem?_append_left (by rw [List.length_map, List.length_cons]; omega), List.getElem?_map, Nat.add_comm, List.getElem?_cons_succ, hv]
    rfl
theorem _root_.L2.PA.up {X : Cx} {es : List Expr} {ta : TA} (h : PA X es ta) : PA X es (fun σ H Q2 => ∃ Qh, ta σ H Qh ∧ ∀ vs H1, Qh vs H1 → Q2 vs H1) :=
  ⟨fun pos pins s σ H Q I ⟨Qh, h1, h2⟩ => thn (h.run pos pins s σ H Qh I h1) fun us s1 ⟨vs, H1, I1, r, q⟩ => ⟨vs, H1, I1, r, h2 _ _ q⟩⟩
theorem rok_of {ca : Nat → Addr} {X : Cx} {x : Str} {c : Nat} {fs ps : List Str} {fI : Addr} {fd : FuncData} (T : OexC X.K (ca c)) (hm : X.mg x = some (.ref (ca c))) (hd : (x == ("__debug__" : Str)) = false) (iC : PySem.W.findIn X.K (.ref (ca c)) "__init__" = some (some (.ref fI))) (tI : PySem.W.typeIn X.K (.ref fI) = some (.type "function"))
    (F : FnOk X.prog X.w X.K X.mg X.base (L2.CX X.prog X.w) 1 fI fd ps (spInit (ca c) fs)) (b : Binds X.K fd ps []) (nd : fs.Nodup) (hf : fs.length ≤ 900) (hr : Room 2 X.A) : ROk ca X x c fs := fun e es ta p pos hg ha he hpl => by
  have q := pmk_oex (p := p) T iC tI F hr b .nil passL hg hm ha.up hd he hpl
  intro pins s σ H Q I h
  refine q pins s σ H Q I ⟨_, h, fun vs H1 ⟨h1, h2⟩ => ⟨by omega, fun a ha => ?_⟩⟩
  rw [List.append_nil]
  refine ⟨a, vs, rfl, h1, upd_same, fun H' dx d1 d2 d3 d4 d5 => ⟨rfl, dx, _, d4, d5, ?_, ?_⟩⟩
  · rw [upd_ne d2] at d1
    exact d1
  · rw [upd_ne d2] at d1
    have e : upd (del H' a) dx (.xd (fs.zip vs).reverse) = upd H1 dx (.xd (fs.zip vs).reverse) := by
      funext b
      by_cases hb : b = dx
      · rw [hb, upd_same, upd_same]
      · rw [upd_ne hb, upd_ne hb]
        by_cases hba : b = a
        · rw [hba, del_same, ha]
        · rw [del_ne hba, d3 b hba hb, upd_ne hba]
    rw [e]
    refine h2 dx _ d1 fun f => lookup_rev ?_ f
    rw [List.map_fst_zip (by omega)]
    exact nd
end PD

set_option Elab.async false
set_option linter.all false
set_option maxRecDepth 100000
set_option maxHeartbeats 4000000
namespace PD
open PySem PySem.Spec PyProof.Rows L2
/-! ### pure defs: what they leave is their answer alone -/
inductive Out where
  | val (d : D) | new (xs : List D) | exc (er : Err)
  /-- new objects, the answer -/
  | nws (L : List SO) (d : D)
def Out.post (o : Out) (S : Store) (Q : DQ) (E : EQ) : Prop := match o with
  | .val d => Q d S
  | .new xs => Q (.ref S.length) (S ++ [.lst xs])
  | .exc er => E er S
  | .nws L d => Q d (S ++ L)
/-- the promise of a pure def -/
def FnS (f : List D → Store → Out → Prop) : DSp := fun ds S Q E => ∃ o, f ds S o ∧ o.post S Q E
theorem callC_FnS (f : List D → Store → Out → Prop) : callC (FnS f) = FnS f := by
  funext ds S Q E
  refine propext ⟨fun ⟨Q0, E0, h, hQ, hE⟩ => ?_, fun h => ⟨Q, E, h, fun _ _ z => z, fun _ _ z => z⟩⟩
  obtain ⟨o, ho, h⟩ := h
  refine ⟨o, ho, ?_⟩
  cases o with
  | val d => exact hQ _ _ h
  | new xs => exact hQ _ _ h
  | exc er => exact hE _ _ h
  | nws L d => exact hQ _ _ h
/-- the old places stand -/
def Ext (S S' : Store) : Prop := S.length ≤ S'.length ∧ ∀ n, n < S.length → S'[n]? = S[n]?
theorem Ext.refl (S : Store) : Ext S S := ⟨Nat.le_refl _, fun _ _ => rfl⟩
theorem Ext.trans {S S' S2 : Store} (a : Ext S S') (b : Ext S' S2) : Ext S S2 := ⟨Nat.le_trans a.1 b.1, fun n h => (b.2 n (Nat.lt_of_lt_of_le h a.1)).trans (a.2 n h)⟩
theorem Ext.app (S L : Store) : Ext S (S ++ L) := ⟨by rw [List.length_append]; omega, fun n h => List.getElem?_append_left h⟩
theorem Ext.set {S S' : Store} (a : Ext S S') {n : Nat} (o : SO) (h : S.length ≤ n) : Ext S (S'.set n o) := ⟨by rw [List.length_set]; exact a.1, fun m hm => by rw [List.getElem?_set_ne (by omega)]; exact a.2 m hm⟩
theorem Ext.get {S S' : Store} (a : Ext S S') {n : Nat} {o : SO} (h : S[n]? = some o) : S'[n]? = some o := by
  rw [a.2 n, h]
  rcases Nat.lt_or_ge n S.length with z | z
  · exact z
  · rw [List.getElem?_eq_none z] at h; cases h
mutual
/-- the places in a value lie below n -/
def refsLt (n : Nat) : D → Bool
  | .ref k => decide (k < n)
  | .tup xs => refsLts n xs
  | .kl xs => refsLts n xs
  | .kt xs => refsLts n xs
  | _ => true
def refsLts (n : Nat) : List D → Bool
  | [] => true
  | d :: r => refsLt n d && refsLts n r
end
/-- places renamed: what is new stands at ρ -/
def renN (n : Nat) (ρ : List Nat) (k : Nat) : Nat := if k < n then k else ρ.getD (k - n) 0
mutual
def renD (n : Nat) (ρ : List Nat) : D → D
  | .ref k => .ref (renN n ρ k)
  | .tup xs => .tup (renDs n ρ xs)
  | .kl xs => .kl (renDs n ρ xs)
  | .kt xs => .kt (renDs n ρ xs)
  | d => d
def renDs (n : Nat) (ρ : List Nat) : List D → List D
  | [] => []
  | d :: r => renD n ρ d :: renDs n ρ r
end
def renF (n : Nat) (ρ : List Nat) (fs : List (Str × D)) : List (Str × D) := fs.map fun p => (p.1, renD n ρ p.2)
def renS (n : Nat) (ρ : List Nat) : SO → SO
  | .lst xs => .lst (renDs n ρ xs)
  | .ins c fs => .ins c (renF n ρ fs)
  | .dct kvs => .dct (kvs.map fun p => (p.1, renD n ρ p.2))
def soLt (n : Nat) : SO → Bool
  | .lst xs => refsLts n xs
  | .ins _ fs => refsLts n (fs.map (·.2))
  | .dct kvs => refsLts n (kvs.map (·.2))
theorem renDs_map (n : Nat) (ρ : List Nat) : ∀ xs : List D, renDs n ρ xs = xs.map (renD n ρ)
  | [] => rfl
  | d :: r => by unfold renDs; rw [renDs_map n ρ r]; rfl
/-- the new objects L stand in S' at ρ -/
structure KeepN (S S' : Store) (L : List SO) (ρ : List Nat) : Prop where
  len : ρ.length = L.length
  nd : ρ.Nodup
  ge : ∀ j ∈ ρ, S.length ≤ j
  ob : ∀ (i : Nat) (o : SO) (j : Nat), L[i]? = some o → ρ[i]? = some j → S'[j]? = some (renS S.length ρ o)
section
variable {K : PySem.W.Frag} {ca : Nat → Addr} {H H' : Hp} {β β' : List Addr} {S S' : Store}
mutual
theorem RD.lt : ∀ {d : D} {v : V}, RD K ca H β d v → refsLt β.length d = true
  | _, _, .non => rfl
  | _, _, .bl b => rfl
  | _, _, .int b => rfl
  | _, _, .str b => rfl
  | _, _, .ty b => rfl
  | _, _, .own b => rfl
  | _, _, .tup h r => by unfold refsLt; exact RDs.lt r
  | _, _, .kl h r => by unfold refsLt; exact RDs.lt r
  | _, _, .kt h r => by unfold refsLt; exact RDs.lt r
  | _, _, .ref (n := n) h => by
    unfold refsLt
    refine decide_eq_true ?_
    rcases Nat.lt_or_ge n β.length with z | z
    · exact z
    · rw [List.getElem?_eq_none z] at h; cases h
theorem RDs.lt : ∀ {ds : List D} {vs : List V}, RDs K ca H β ds vs → refsLts β.length ds = true
  | _, _, .nil => rfl
  | _, _, .cons h r => by unfold refsLts; rw [RD.lt h, RDs.lt r]; rfl
end
mutual
theorem RD.low (p : ∀ (n : Nat) (a : Addr), β[n]? = some a → β'[n]? = some a) : ∀ {d : D} {v : V}, RD K ca H β' d v → refsLt β.length d = true → RD K ca H β d v
  | _, _, .non, _ => .non
  | _, _, .bl b, _ => .bl b
  | _, _, .int b, _ => .int b
  | _, _, .str b, _ => .str b
  | _, _, .ty b, _ => .ty b
  | _, _, .own b, _ => .own b
  | _, _, .tup h r, q => .tup h (RDs.low p r (by unfold refsLt at q; exact q))
  | _, _, .kl h r, q => .kl h (RDs.low p r (by unfold refsLt at q; exact q))
  | _, _, .kt h r, q => .kt h (RDs.low p r (by unfold refsLt at q; exact q))
  | _, _, .ref (n := n) h, q => .ref (by
    unfold refsLt at q
    have hl := of_decide_eq_true q
    have e := List.getElem?_eq_getElem hl
    rw [p n _ e] at h
    cases h
    exact e)
theorem RDs.low (p : ∀ (n : Nat) (a : Addr), β[n]? = some a → β'[n]? = some a) : ∀ {ds : List D} {vs : List V}, RDs K ca H β' ds vs → refsLts β.length ds = true → RDs K ca H β ds vs
  | _, _, .nil, _ => .nil
  | _, _, .cons h r, q => by
    unfold refsLts at q
    obtain ⟨a, b⟩ := Bool.and_eq_true_iff.mp q
    exact .cons (RD.low p h a) (RDs.low p r b)
end
theorem or_low (p : ∀ (n : Nat) (a : Addr), β[n]? = some a → β'[n]? = some a) {H0 : Hp} {o : SO} {a b : Addr} (h : OR K ca H β' o a) (h0 : OR K ca H0 β o b) : OR K ca H β o a := by
  cases o with
  | lst xs =>
    obtain ⟨vs, h1, h2⟩ := h
    obtain ⟨ws, _, h3⟩ := h0
    exact ⟨vs, h1, h2.low p h3.lt⟩
  | ins c fs =>
    obtain ⟨dx, fv, h1, h2, h3⟩ := h
    obtain ⟨_, ws, _, _, h4⟩ := h0
    exact ⟨dx, fv, h1, h2, h3.low p h4.lt⟩
  | dct kvs =>
    obtain ⟨kv, h1, h2, h3⟩ := h
    obtain ⟨ws, _, _, h4⟩ := h0
    exact ⟨kv, h1, h2, h3.low p h4.lt⟩
/-- what a def has made is let go -/
theorem gc_sim (s : HSim K ca S β H) (s' : HSim K ca S' β' H') (g : Gr K β H β' H') (e : Ext S S') : HSim K ca S β H' where
  len := s.len
  nd := s.nd
  ob := fun n o a h1 h2 => or_low g.pre (s'.ob n o a (e.get h1) (g.pre n a h2)) (s.ob n o a h1 h2)
theorem gc_gr (g : Gr K β H β' H') : Gr K β H β H' := ⟨fun _ _ z => z, g.tup, g.frz, g.xd⟩
/-- .. but one list -/
theorem gc_new (s : HSim K ca S β H) (s' : HSim K ca S' β' H') (g : Gr K β H β' H') (e : Ext S S') {n : Nat} {xs : List D} {a : Addr} (h1 : S'[n]? = some (.lst xs)) (h2 : β'[n]? = some a) (hn : S.length ≤ n) (hx : refsLts S.length xs = true) :
    HSim K ca (S ++ [.lst xs]) (β ++ [a]) H' ∧ Gr K β H (β ++ [a]) H' ∧ RD K ca H' (β ++ [a]) (.ref S.length) (.ref a) := by
  have s2 := gc_sim s s' g e
  have gs : Gr K β H' (β ++ [a]) H' := Gr.snoc a
  refine ⟨⟨by rw [List.length_append, List.length_append, s.len]; rfl, ?_, fun m o b k1 k2 => ?_⟩, (gc_gr g).trans gs, .ref ?_⟩
  · refine List.nodup_append.mpr ⟨s.nd, List.nodup_cons.mpr ⟨List.not_mem_nil, List.nodup_nil⟩, ?_⟩
    intro b hb c hc
    rw [List.mem_singleton] at hc
    subst hc
    rintro rfl
    obtain ⟨m, hm⟩ := List.getElem?_of_mem hb
    have hm' := g.pre m _ hm
    have hl : m < β.length := by
      rcases Nat.lt_or_ge m β.length with z | z
      · exact z
      · rw [List.getElem?_eq_none z] at hm; cases hm
    have hl' : m < β'.length := by
      rcases Nat.lt_or_ge m β'.length with z | z
      · exact z
      · rw [List.getElem?_eq_none z] at hm'; cases hm'
    have := (List.getElem?_inj hl' s'.nd).mp (hm'.trans h2.symm)
    have := s.len
    omega
  · rcases Nat.lt_or_ge m S.length with z | z
    · rw [List.getElem?_append_left z] at k1
      rw [List.getElem?_append_left (by rw [s.len]; exact z)] at k2
      exact (s2.ob m o b k1 k2).keep gs rfl
    · have hm : m = S.length := by
        rcases Nat.lt_or_ge m (S.length + 1) with q | q
        · omega
        · rw [List.getElem?_eq_none (by rw [List.length_append]; exact q)] at k1; cases k1
      subst hm
      rw [List.getElem?_append_right (Nat.le_refl _), Nat.sub_self] at k1
      rw [List.getElem?_append_right (by rw [s.len]; exact Nat.le_refl _), s.len, Nat.sub_self] at k2
      cases k1
      cases k2
      obtain ⟨vs, q1, q2⟩ := s'.ob n _ a h1 h2
      exact ⟨vs, q1, (q2.low g.pre (by rw [s.len]; exact hx)).grow gs⟩
  · rw [← s.len, List.getElem?_append_right (Nat.le_refl _), Nat.sub_self]
    rfl
mutual
theorem RD.unren {n m : Nat} {ρ : List Nat} {βn : List Addr} (p : ∀ (k : Nat) (a : Addr), k < n + m → β'[renN n ρ k]? = some a → βn[k]? = some a) : ∀ {d : D} {v : V}, RD K ca H β' (renD n ρ d) v → refsLt (n + m) d = true → RD K ca H βn d v
  | .non, _, .non, _ => .non
  | .bl _, _, .bl b, _ => .bl b
  | .int _, _, .int b, _ => .int b
  | .str _, _, .str b, _ => .str b
  | .ty _, _, .ty b, _ => .ty b
  | .own _, _, .own b, _ => .own b
  | .tup _, _, .tup h r, q => .tup h (RDs.unren p r (by unfold refsLt at q; exact q))
  | .kl _, _, .kl h r, q => .kl h (RDs.unren p r (by unfold refsLt at q; exact q))
  | .kt _, _, .kt h r, q => .kt h (RDs.unren p r (by unfold refsLt at q; exact q))
  | .ref k, _, .ref h, q => .ref (p k _ (by unfold refsLt at q; exact of_decide_eq_true q) h)
theorem RDs.unren {n m : Nat} {ρ : List Nat} {βn : List Addr} (p : ∀ (k : Nat) (a : Addr), k < n + m → β'[renN n ρ k]? = some a → βn[k]? = some a) : ∀ {ds : List D} {vs : List V}, RDs K ca H β' (renDs n ρ ds) vs → refsLts (n + m) ds = true → RDs K ca H βn ds vs
  | [], _, .nil, _ => .nil
  | _ :: _, _, .cons h r, q => by
    unfold refsLts at q
    obtain ⟨a, b⟩ := Bool.and_eq_true_iff.mp q
    exact .cons (RD.unren p h a) (RDs.unren p r b)
end
theorem or_unren {n m : Nat} {ρ : List Nat} {βn : List Addr} (p : ∀ (k : Nat) (a : Addr), k < n + m → β'[renN n ρ k]? = some a → βn[k]? = some a) {o : SO} {a : Addr} (h : OR K ca H β' (renS n ρ o) a) (q : soLt (n + m) o = true) : OR K ca H βn o a := by
  cases o with
  | lst xs =>
    obtain ⟨vs, h1, h2⟩ := h
    exact ⟨vs, h1, h2.unren p q⟩
  | ins c fs =>
    obtain ⟨dx, fv, h1, h2, h3⟩ := h
    refine ⟨dx, fv, h1, ?_, ?_⟩
    · rw [← h2]
      unfold renF
      rw [List.map_map]
      rfl
    · have e : (renF n ρ fs).map (·.2) = renDs n ρ (fs.map (·.2)) := by
        unfold renF
        rw [renDs_map, List.map_map, List.map_map]
        rfl
      rw [e] at h3
      exact h3.unren p q
  | dct kvs =>
    obtain ⟨kv, h1, h2, h3⟩ := h
    refine ⟨kv, h1, ?_, ?_⟩
    · rw [h2, List.map_map]
      rfl
    · have e : (kvs.map fun p => (p.1, renD n ρ p.2)).map (·.2) = renDs n ρ (kvs.map (·.2)) := by
        rw [renDs_map, List.map_map, List.map_map]
        rfl
      rw [e] at h3
      exact h3.unren p q
/-- .. but the new objects L -/
theorem gc_news (s : HSim K ca S β H) (s' : HSim K ca S' β' H') (g : Gr K β H β' H') (e : Ext S S') {L : List SO} {ρ : List Nat} (k : KeepN S S' L ρ) (hx : ∀ o ∈ L, soLt (S.length + L.length) o = true) :
    ∃ βn, HSim K ca (S ++ L) βn H' ∧ Gr K β H βn H' ∧ ∀ d v, refsLt (S.length + L.length) d = true → RD K ca H' β' (renD S.length ρ d) v → RD K ca H' βn d v := by
  have hj : ∀ j ∈ ρ, j < β'.length := fun j hj => by
    obtain ⟨i, hi⟩ := List.getElem?_of_mem hj
    have hil : i < ρ.length := by
      rcases Nat.lt_or_ge i ρ.length with z | z
      · exact z
      · rw [List.getElem?_eq_none z] at hi; cases hi
    have ho := k.ob i _ j (List.getElem?_eq_getElem (by rw [← k.len]; exact hil)) hi
    rcases Nat.lt_or_ge j S'.length with z | z
    · rw [s'.len]; exact z
    · rw [List.getElem?_eq_none z] at ho; cases ho
  have hex : ∃ as : List Addr, as.length = ρ.length ∧ ∀ (i j : Nat), ρ[i]? = some j → as[i]? = β'[j]? := by
    refine ⟨ρ.map fun j => β'.getD j 0, List.length_map .., fun i j h => ?_⟩
    rw [List.getElem?_map, h]
    have hjl := hj j (List.mem_of_getElem? h)
    rw [List.getElem?_eq_getElem hjl]
    show some (β'.getD j 0) = _
    rw [List.getD_eq_getElem?_getD, List.getElem?_eq_getElem hjl]
    rfl
  obtain ⟨as, hal, hag⟩ := hex
  have hbl := s.len
  have p : ∀ (q : Nat) (a : Addr), q < S.length + L.length → β'[renN S.length ρ q]? = some a → (β ++ as)[q]? = some a := fun q a hq h => by
    unfold renN at h
    split at h
    · rename_i z
      have hb : β[q]? = some (β[q]'(by rw [hbl]; exact z)) := List.getElem?_eq_getElem _
      rw [List.getElem?_append_left (by rw [hbl]; exact z), hb]
      have := g.pre q _ hb
      rw [this] at h
      exact h
    · rename_i z
      rw [List.getElem?_append_right (by rw [hbl]; omega), hbl]
      have hl : q - S.length < ρ.length := by rw [k.len]; omega
      have hr : ρ[q - S.length]? = some (ρ[q - S.length]) := List.getElem?_eq_getElem hl
      rw [hag _ _ hr]
      rw [List.getD_eq_getElem?_getD, hr] at h
      exact h
  have gp : ∀ (q : Nat) (a : Addr), β[q]? = some a → (β ++ as)[q]? = some a := fun q a h => by
    have hq : q < β.length := by
      rcases Nat.lt_or_ge q β.length with z | z
      · exact z
      · rw [List.getElem?_eq_none z] at h; cases h
    rw [List.getElem?_append_left hq]
    exact h
  have gr : Gr K β H (β ++ as) H' := ⟨gp, g.tup, g.frz, g.xd⟩
  refine ⟨β ++ as, ⟨by rw [List.length_append, List.length_append, hbl, hal, k.len], ?_, fun q o b k1 k2 => ?_⟩, gr, fun d v hd r => r.unren p hd⟩
  · refine List.nodup_append.mpr ⟨s.nd, ?_, ?_⟩
    · refine List.pairwise_iff_getElem.mpr fun i j hi hjl hij he => ?_
      have hil' : i < ρ.length := by rw [← hal]; exact hi
      have hjl' : j < ρ.length := by rw [← hal]; exact hjl
      have h1 : ρ[i]? = some (ρ[i]) := List.getElem?_eq_getElem hil'
      have h2 : ρ[j]? = some (ρ[j]) := List.getElem?_eq_getElem hjl'
      have e1 := hag _ _ h1
      have e2 := hag _ _ h2
      rw [List.getElem?_eq_getElem hi] at e1
      rw [List.getElem?_eq_getElem hjl] at e2
      have m1 := hj _ (List.getElem_mem hil')
      have e3 : ρ[i] = ρ[j] := (List.getElem?_inj m1 s'.nd).mp (e1.symm.trans ((congrArg some he).trans e2))
      have e4 : i = j := (List.getElem?_inj hil' k.nd).mp (h1.trans ((congrArg some e3).trans h2.symm))
      omega
    · intro b hb c hc
      rintro rfl
      obtain ⟨m, hm⟩ := List.getElem?_of_mem hb
      obtain ⟨i, hi⟩ := List.getElem?_of_mem hc
      have hil : i < ρ.length := by
        rcases Nat.lt_or_ge i as.length with z | z
        · rw [← hal]; exact z
        · rw [List.getElem?_eq_none z] at hi; cases hi
      have h1 : ρ[i]? = some (ρ[i]) := List.getElem?_eq_getElem hil
      rw [hag _ _ h1] at hi
      have hm' := g.pre m _ hm
      have hml : m < β.length := by
        rcases Nat.lt_or_ge m β.length with z | z
        · exact z
        · rw [List.getElem?_eq_none z] at hm; cases hm
      have hml' : m < β'.length := by
        rcases Nat.lt_or_ge m β'.length with z | z
        · exact z
        · rw [List.getElem?_eq_none z] at hm'; cases hm'
      have := (List.getElem?_inj hml' s'.nd).mp (hm'.trans hi.symm)
      have := k.ge _ (List.getElem_mem hil)
      omega
  · rcases Nat.lt_or_ge q S.length with z | z
    · rw [List.getElem?_append_left z] at k1
      rw [List.getElem?_append_left (by rw [hbl]; exact z)] at k2
      have h1 : OR K ca H' β' o b := s'.ob q o b (e.get k1) (g.pre q b k2)
      have h2 : OR K ca H' β o b := or_low g.pre h1 (s.ob q o b k1 k2)
      have gs : Gr K β H' (β ++ as) H' := ⟨gr.pre, fun _ _ z => z, fun _ _ _ z => z, fun _ _ z => z⟩
      exact h2.keep gs rfl
    · rw [List.getElem?_append_right z] at k1
      rw [List.getElem?_append_right (by rw [hbl]; exact z), hbl] at k2
      have hil : q - S.length < ρ.length := by
        rcases Nat.lt_or_ge (q - S.length) as.length with w | w
        · rw [← hal]; exact w
        · rw [List.getElem?_eq_none w] at k2; cases k2
      have h1 : ρ[q - S.length]? = some (ρ[q - S.length]) := List.getElem?_eq_getElem hil
      rw [hag _ _ h1] at k2
      exact or_unren p (s'.ob _ _ b (k.ob _ o _ k1 h1) k2) (hx o (List.mem_of_getElem? k1))
end
/-! ### the rule -/
def okO (n : Nat) : Out → Bool
  | .val d => refsLt n d
  | .new xs => refsLts n xs
  | .exc er => refsLts n (er.fs.map (·.2))
  | .nws L d => refsLt (n + L.length) d && L.all (soLt (n + L.length))
def excO (S : Store) (o : Out) : EQ := fun er S' => Ext S S' ∧ o = .exc er
/-- what the end of a pure def's body is to be -/
def outP (S : Store) (o : Out) : DQ := fun d S' => Ext S S' ∧ match o with
  | .val d0 => d = d0
  | .new xs => ∃ n, d = .ref n ∧ S.length ≤ n ∧ S'[n]? = some (.lst xs)
  | .exc _ => False
  | .nws L d0 => ∃ ρ, KeepN S S' L ρ ∧ d = renD S.length ρ d0
def retO (S : Store) (o : Out) : DEnds := rets (outP S o)
/-- the places in the lists lie below the store's end -/
def WfS (S : Store) : Prop := ∀ (n : Nat) (o : SO), S[n]? = some o → soLt S.length o = true
section
variable {M : Md} {ca : Nat → Addr} {P : Program} {w : World} {K : PySem.W.Frag} {mg : Str → Option Value} {base : Heap} {i : Nat}
theorem rfld_low {H : Hp} {β β' : List Addr} (p : ∀ (n : Nat) (a : Addr), β[n]? = some a → β'[n]? = some a) {fs : List (Str × D)} {fv : List (Str × V)} (h : RFld K ca H β' fs fv) (hl : refsLts β.length (fs.map (·.2)) = true) : RFld K ca H β fs fv := fun f => ⟨fun x hx => by
  obtain ⟨v, h1, h2⟩ := (h f).1 x hx
  refine ⟨v, h1, h2.low p ?_⟩
  have key : ∀ {l : List (Str × D)}, refsLts β.length (l.map (·.2)) = true → l.lookup f = some x → refsLt β.length x = true := by
    intro l
    induction l with
    | nil => intro _ h; cases h
    | cons q r ih =>
      obtain ⟨g, y⟩ := q
      intro h1 h2
      rw [List.map_cons] at h1
      unfold refsLts at h1
      obtain ⟨a, b⟩ := Bool.and_eq_true_iff.mp h1
      rw [List.lookup_cons] at h2
      cases e : f == g with
      | true =>
        rw [e] at h2
        cases h2
        exact a
      | false =>
        rw [e] at h2
        exact ih b h2
  exact key hl hx, (h f).2⟩
theorem body_gc (O : MdOk M ca P w K mg base) (D : Done M ca P w K mg base i) {N : List Str} {qual : Str} {scope : Scope} {f : Addr} {cdv : Value} {A : Around} {outer : List Env} {s : Shared} {H : Hp} {E : XK} {Q : VK} {vs : List V} {fs : List PD.D → Store → Out → Prop} {n : Nat} {b : List Stmt} {db : List DS}
    (nd : N.Nodup) (hc : compSs (compS n (mkCtx (M.gl i) N scope)) b = some db) (ok : ∀ ds S o, fs ds S o → refsLts S.length ds = true → WfS S → okO S.length o = true) (vc : ∀ ds S o, fs ds S o → wpSs (M.C (excO S o)) db (retO S o) (startD N ds) S)
    (hr : Room (2 * i + 2) (A.deeper (envOfC qual scope s.heap.objs.size f cdv))) (h : LSp K ca (FnS fs) vs H Q E) :
    ∃ t, PSs (cxOf (L2.CX P w) P w K mg base N qual scope f cdv A outer s H E) b t ∧ t { nx := fun _ H' => Q .non H', rt := Q } (L2.start N vs) H := by
  obtain ⟨S, β, ds, hs, r, h⟩ := h
  rw [callC_FnS] at h
  obtain ⟨o, ho, h⟩ := h
  have hok := ok ds S o ho (by rw [← hs.len]; exact r.lt) fun n ob hn => by
    obtain ⟨a, ha, ho⟩ := hs.at hn
    rw [← hs.len]
    cases ob with
    | lst xs => obtain ⟨vs', h1, h2⟩ := ho; exact h2.lt
    | ins c fs => obtain ⟨dx, fv, h1, _, h2⟩ := ho; exact h2.lt
    | dct kvs => obtain ⟨kv, h1, _, h2⟩ := ho; exact h2.lt
  have cx : XOk ca ⟨β, H, none⟩ (cxOf (L2.CX P w) P w K mg base N qual scope f cdv A outer s H E) (mkCtx (M.gl i) N scope) (M.C (excO S o)) := by
    refine ctx_ok O D nd hr fun er S' hq β' cls d H' s' g re => ?_
    obtain ⟨e, rfl⟩ := hq
    refine h β cls d H' (gc_sim hs s' g e) (gc_gr g) ⟨re.1, ?_⟩
    rcases re.2 with z | ⟨dd, fv, z1, z2, z3⟩
    · exact .inl z
    · exact .inr ⟨dd, fv, z1, z2, rfld_low g.pre z3 (by rw [hs.len]; exact hok)⟩
  have fin : ∀ (d : PD.D) (S' : Store) (β' : List Addr) (v : V) (H' : Hp), outP S o d S' → HSim K ca S' β' H' → Gr K β H β' H' → RD K ca H' β' d v → Q v H' := by
    intro d S' β' v H' hq s' g rv
    obtain ⟨e, hq⟩ := hq
    cases o with
    | val d0 =>
      have hq : d = d0 := hq
      subst hq
      exact h β v H' (gc_sim hs s' g e) (gc_gr g) (rv.low g.pre (by rw [hs.len]; exact hok))
    | new xs =>
      obtain ⟨n, rfl, hn, hx⟩ := hq
      cases rv with
      | ref hb =>
        obtain ⟨q1, q2, q3⟩ := gc_new hs s' g e hx hb hn hok
        exact h _ _ H' q1 q2 q3
    | exc er => exact hq.elim
    | nws L d0 =>
      obtain ⟨ρ, hk, rfl⟩ := hq
      obtain ⟨h1, h2⟩ := Bool.and_eq_true_iff.mp hok
      obtain ⟨βn, q1, q2, q3⟩ := gc_news hs s' g e hk (fun o ho => List.all_eq_true.mp h2 o ho)
      exact h βn v H' q1 q2 (q3 d0 v h1 rv)
  refine ⟨_, sB (ss n) cx b db hc, startD N ds, S, β, start_sim N hs r, wpSs_m _ db (DEnds.Le.mk ?_ ?_ ?_ ?_) (vc ds S o ho)⟩
  · intro e S' hq β' σ' H' s' g'
    exact fin .non S' β' .non H' hq s'.h g' .non
  · intro d S' hq β' v H' s' g' rv
    exact fin d S' β' v H' hq s' g' rv
  · intro e S h; exact h.elim
  · intro e S h; exact h.elim
/-- THE RULE for a pure def -/
theorem fn_gc (O : MdOk M ca P w K mg base) (D : Done M ca P w K mg base i) {x qual : Str} {st : Stmt} {f : Addr} {fd : FuncData} {N ps : List Str} {fs : List PD.D → Store → Out → Prop} {n : Nat} {db : List DS} (F : Fun K x qual st f fd) (S : FnScope N ps (defScope st))
    (hc : compSs (compS n (mkCtx (M.gl i) N (defScope st))) (defBody st) = some db) (len : ∀ ds S o, fs ds S o → ds.length = ps.length) (ok : ∀ ds S o, fs ds S o → refsLts S.length ds = true → WfS S → okO S.length o = true)
    (vc : ∀ ds S o, fs ds S o → wpSs (M.C (excO S o)) db (retO S o) (startD N ds) S) : FnOk P w K mg base (L2.CX P w) (2 * i + 3) f fd ps (LSp K ca (FnS fs)) := by
  refine F.okX S (fun vs H Q E h => ?_) (fun cdv A outer s H vs Q E hr h => body_gc O D S.nd hc ok vc hr h)
  obtain ⟨S, β, ds, hs, r, Q0, E0, h, hQ, hE⟩ := h
  obtain ⟨o, ho, _⟩ := h
  rw [← r.length]
  exact len _ _ _ ho
theorem fn_star_gc (O : MdOk M ca P w K mg base) (D : Done M ca P w K mg base i) {x qual pv : Str} {st : Stmt} {f : Addr} {fd : FuncData} {N ps : List Str} {fs : List PD.D → Store → Out → Prop} {n : Nat} {db : List DS} (F : Fun K x qual st f fd) (S : FnScope N (ps ++ [pv]) (defScope st))
    (hb : ∀ (kV doc pm : Value) (an : Option Addr) (cdv ct : Value) (us rest : List Value), us.length = ps.length → bindArgs (PySem.W.fnOf x qual (defArgs st) (defBody st) (defScope st) .none kV doc pm an cdv ct) ⟨us ++ rest, []⟩ = (newTuple rest >>= fun t => pure (ps.zip us ++ [(pv, t)])))
    (hc : compSs (compS n (mkCtx (M.gl i) N (defScope st))) (defBody st) = some db) (ok : ∀ ds S o, fs ds S o → refsLts S.length ds = true → WfS S → okO S.length o = true) (vc : ∀ ds S o, fs ds S o → wpSs (M.C (excO S o)) db (retO S o) (startD N ds) S) :
    FnR P w K mg base (L2.CX P w) (2 * i + 3) f (LSp K ca (FnS fun es S o => (ps.length ≤ es.length ∧ es.length ≤ sizeLine) ∧ fs (es.take ps.length ++ [.tup (es.drop ps.length)]) S o)) := by
  obtain ⟨oc, od, kV, doc, pm, an, cdv, ct, osl, rfl, lk, hcd⟩ := F.ex
  refine (StX.fn_star (sp := LSp K ca (FnS fs)) lk hcd S StX.cxUp (hb _ _ _ _ _ _) fun A outer s H vs Q E hr h => body_gc O D S.nd hc ok vc hr h).imp fun vs H Q E h => ?_
  obtain ⟨S, β, es, hs, r, Q0, E0, h, hQ, hE⟩ := h
  obtain ⟨o, ⟨hl, ho⟩, h⟩ := h
  have r' := r
  rw [← List.take_append_drop ps.length es] at r'
  obtain ⟨us, ws, rfl, h1, h2⟩ := rds_split r'
  have l1 := h1.length
  have l2 := h2.length
  rw [List.length_take] at l1
  rw [List.length_drop] at l2
  refine ⟨us, ws, rfl, by omega, by omega, fun p hp => ?_⟩
  have g : Gr K β H β (upd H p (.tup ws)) := Gr.fresh hp
  refine ⟨S, β, es.take ps.length ++ [.tup (es.drop ps.length)], hs.fresh hp, (h1.grow g).app (.cons (.tup upd_same (h2.grow g)) .nil), Q0, E0, ⟨o, ho, h⟩, fun d S' q => (hQ d S' q).step g, fun er S' q => ?_⟩
  intro β' cls d H' s' g' re
  exact hE er S' q β' cls d H' s' (g.trans g') re
end
end PD

set_option Elab.async false
set_option linter.all false
set_option maxRecDepth 100000
set_option maxHeartbeats 4000000
namespace PD
open PySem
/-! ### rules, from the end to the start -/
section
variable {C : SC} {env : DEnv} {S : Store} {Q : DQ} {B : DEnds} {a b c e : DE} {es : DEs} {s : DS} {r : List DS}
theorem r_nil (h : B.nx env S) : wpSs C [] B env S := by unfold wpSs; exact h
theorem r_seq (h : wpS C s { B with nx := fun e' S' => wpSs C r B e' S' } env S) : wpSs C (s :: r) B env S := by unfold wpSs; exact h
theorem r_asg {t : DT} (h : wpE C e env S fun d S1 => wpT C t d env S1 B.nx) : wpS C (.asg t e) B env S := by unfold wpS; exact h
theorem r_aug {i : Nat} {o : BO} {j : Int} (hv : env[i]? = some (some (.int j))) (h : wpE C e env S fun y S1 => wpBin S1 o (.int j) y fun d S2 => B.nx (env.set i (some d)) S2) : wpS C (.aug i o e) B env S := by
  unfold wpS
  rw [hv]
  exact h
theorem r_ex (h : wpE C e env S fun _ S1 => B.nx env S1) : wpS C (.ex e) B env S := by unfold wpS; exact h
theorem r_ret (h : wpE C e env S fun d S1 => B.rt d S1) : wpS C (.ret (.some e)) B env S := by unfold wpS wpO; exact h
theorem r_retN (h : B.rt .non S) : wpS C (.ret .none) B env S := by unfold wpS wpO; exact h
theorem r_ifs {p q : List DS} (h : wpE C c env S fun x S1 => ∃ k, truth S1 x = some k ∧ (k = true → wpSs C p B env S1) ∧ (k = false → wpSs C q B env S1)) : wpS C (.ifs c p q) B env S := by
  unfold wpS
  refine wpE_m _ _ _ _ _ _ (fun x S1 ⟨k, h1, h2, h3⟩ => ?_) h
  unfold onO
  rw [h1]
  cases k with
  | true => exact h2 rfl
  | false => exact h3 rfl
theorem r_pas (h : B.nx env S) : wpS C .pas B env S := by unfold wpS; exact h
theorem r_brk (h : B.bk env S) : wpS C .brk B env S := by unfold wpS; exact h
theorem r_cnt (h : B.ct env S) : wpS C .cnt B env S := by unfold wpS; exact h
theorem r_rse {k : Nat} {fs : List Str} (h : wpEs C es env S fun ds S1 => ds.length = fs.length ∧ C.xq ⟨k, fs.zip ds⟩ env S1) : wpS C (.rse k fs es) B env S := by unfold wpS; exact h
theorem r_tr {p q : List DS} {k : Nat} {n : Option Nat} (h : wpSs { C with xq := fun er env' S' => C.kn er.cls (er.fs.map (·.1)) = true ∧ inN n env' ∧ (C.sub er.cls k = true → wpSs { C with exn := some er, xq := fun _ _ _ => False } q (endsN n B) (setN n env') S') ∧
      (C.sub er.cls k = false → C.xq er env' S') } p B env S) : wpS C (.tr p k n q) B env S := by unfold wpS; exact h
/-! expressions -/
theorem r_var {i : Nat} {d : D} (hv : env[i]? = some (some d)) (h : Q d S) : wpE C (.var i) env S Q := by unfold wpE; rw [hv]; exact h
theorem r_cst {d : D} (h : Q d S) : wpE C (.cst d) env S Q := by unfold wpE; exact h
theorem r_bin {o : BO} (h : wpE C a env S fun x S1 => wpE C b env S1 fun y S2 => wpBin S2 o x y Q) : wpE C (.bin o a b) env S Q := by unfold wpE; exact h
def negC (S : Store) (x : D) (Q : DQ) : Prop := ∃ i, x = .int i ∧ Q (.int (-i)) S
def notC (S : Store) (x : D) (Q : DQ) : Prop := ∃ k, truth S x = some k ∧ Q (.bl (!k)) S
theorem r_neg (h : wpE C a env S fun x S1 => negC S1 x Q) : wpE C (.neg a) env S Q := by
  unfold wpE
  refine wpE_m _ _ _ _ _ _ (fun x S1 ⟨i, e, h⟩ => ?_) h
  subst e
  exact h
theorem r_cmp {o : CO} (h : wpE C a env S fun x S1 => wpE C b env S1 fun y S2 => onO (cmpD S2 o x y) fun k => Q (.bl k) S2) : wpE C (.cmp o a b) env S Q := by unfold wpE; exact h
theorem r_chn {o p : CO} (h : wpE C a env S fun x S1 => wpE C b env S1 fun y S2 => ∃ k, cmpD S2 o x y = some k ∧ (k = true → wpE C c env S2 fun z S3 => onO (cmpD S3 p y z) fun l => Q (.bl l) S3) ∧ (k = false → Q (.bl false) S2)) : wpE C (.chn o p a b c) env S Q := by
  unfold wpE
  refine wpE_m _ _ _ _ _ _ (fun x S1 h => wpE_m _ _ _ _ _ _ (fun y S2 ⟨k, h1, h2, h3⟩ => ?_) h) h
  unfold onO
  rw [h1]
  cases k with
  | true => exact h2 rfl
  | false => exact h3 rfl
theorem r_and (h : wpE C a env S fun x S1 => ∃ k, x = .bl k ∧ (k = true → wpE C b env S1 Q) ∧ (k = false → Q (.bl false) S1)) : wpE C (.and a b) env S Q := by
  unfold wpE
  refine wpE_m _ _ _ _ _ _ (fun x S1 ⟨k, h1, h2, h3⟩ => ?_) h
  subst h1
  cases k with
  | true => exact h2 rfl
  | false => exact h3 rfl
theorem r_or (h : wpE C a env S fun x S1 => ∃ k, x = .bl k ∧ (k = true → Q (.bl true) S1) ∧ (k = false → wpE C b env S1 Q)) : wpE C (.or a b) env S Q := by
  unfold wpE
  refine wpE_m _ _ _ _ _ _ (fun x S1 ⟨k, h1, h2, h3⟩ => ?_) h
  subst h1
  cases k with
  | true => exact h2 rfl
  | false => exact h3 rfl
theorem r_not (h : wpE C a env S fun x S1 => notC S1 x Q) : wpE C (.not a) env S Q := by
  unfold wpE
  refine wpE_m _ _ _ _ _ _ (fun x S1 ⟨k, h1, h2⟩ => ?_) h
  unfold onO
  rw [h1]
  exact h2
theorem r_ife (h : wpE C c env S fun x S1 => ∃ k, truth S1 x = some k ∧ (k = true → wpE C a env S1 Q) ∧ (k = false → wpE C b env S1 Q)) : wpE C (.ife c a b) env S Q := by
  unfold wpE
  refine wpE_m _ _ _ _ _ _ (fun x S1 ⟨k, h1, h2, h3⟩ => ?_) h
  unfold onO
  rw [h1]
  cases k with
  | true => exact h2 rfl
  | false => exact h3 rfl
theorem r_call {f : Nat} {g : List D → Store → Out → Prop} (hf : C.sp f = FnS g) (h : wpEs C es env S fun ds S1 => FnS g ds S1 Q fun er S' => C.xq er env S') : wpE C (.call f es) env S Q := by
  unfold wpE
  rw [hf, callC_FnS]
  exact h
theorem r_bi {k : BI} (h : wpEs C es env S fun ds S1 => wpBi S1 k ds Q) : wpE C (.bi k es) env S Q := by unfold wpE; exact h
theorem r_bm {m : BM} (h : wpE C a env S fun x S1 => ∃ n xs, x = .ref n ∧ S1[n]? = some (.lst xs) ∧ wpEs C es env S1 fun ds S2 => wpBm S2 m x ds Q) (hm : isGet m = false) : wpE C (.bm m a es) env S Q := by
  unfold wpE
  refine wpE_m _ _ _ _ _ _ (fun x S1 h => ?_) h
  obtain ⟨n, xs, rfl, h1, h2⟩ := h
  refine ⟨?_, h2⟩
  have : (lstOf S1 (.ref n)).isSome = true := by
    unfold lstOf seqOf
    dsimp only
    rw [h1]
    rfl
  cases m <;> first | exact this | cases hm
theorem r_get (h : wpE C a env S fun x S1 => ∃ n kvs, x = .ref n ∧ S1[n]? = some (.dct kvs) ∧ wpEs C es env S1 fun ds S2 => wpBm S2 .get x ds Q) : wpE C (.bm .get a es) env S Q := by
  unfold wpE
  refine wpE_m _ _ _ _ _ _ (fun x S1 h => ?_) h
  obtain ⟨n, xs, rfl, h1, h2⟩ := h
  refine ⟨?_, h2⟩
  show (dctOf S1 (.ref n)).isSome = true
  unfold dctOf
  dsimp only
  rw [h1]
  rfl
theorem r_ix (h : wpE C a env S fun x S1 => wpE C b env S1 fun y S2 => onO (ixD S2 x y) fun d => Q d S2) : wpE C (.ix a b) env S Q := by unfold wpE; exact h
theorem r_sl {l u : DO} (h : wpE C a env S fun x S1 => wpO C l env S1 fun l S2 => onO (partD l) fun l => wpO C u env S2 fun u S3 => onO (partD u) fun u => wpSl S3 x l u Q) : wpE C (.sl a l u) env S Q := by unfold wpE; exact h
/-- a display's end -/
def mkT (ds : List D) (S : Store) (Q : DQ) : Prop := ds.length ≤ sizeLine ∧ Q (.tup ds) S
def mkL (ds : List D) (S : Store) (Q : DQ) : Prop := ds.length ≤ sizeLine ∧ Q (.ref S.length) (S ++ [.lst ds])
theorem r_tup (h : wpEs C es env S fun ds S1 => mkT ds S1 Q) : wpE C (.tup es) env S Q := by unfold wpE; exact h
theorem r_lst (h : wpEs C es env S fun ds S1 => mkL ds S1 Q) : wpE C (.lst es) env S Q := by unfold wpE; exact h
/-- a comprehension's turn -/
def lcStep (C : SC) (own : List Nat) (t : DT) (c : DO) (e : DE) (env : DEnv) : D → Store → (Option D → Store → Prop) → Prop := fun d S2 K => wpT C t d (wipeD env own) S2 fun env1 S3 =>
  wpO C c env1 S3 fun o S4 => match o with
    | none => wpE C e env1 S4 fun y S5 => K (some y) S5
    | some x => onO (truth S4 x) fun k => if k = true then wpE C e env1 S4 fun y S5 => K (some y) S5 else K none S4
theorem r_lc {own : List Nat} {t : DT} {it : DI} {o : DO} (h : wpI C it env S fun src items S1 => still src S1 ∧ lcGo src S1.length (lcStep C.mute own t o e env) items (S1 ++ [.lst []]) fun S2 => Q (.ref S1.length) S2) : wpE C (.lc own t it o e) env S Q := by
  unfold wpE
  refine wpI_m _ _ _ _ _ _ (fun s l S1 h => ?_) h
  exact h
theorem r_eisi {cs : List Nat} {er : Err} (hx : C.exn = some er) (h : Q (.bl (cs.any fun c => C.sub er.cls c)) S) : wpE C (.eisi cs) env S Q := by unfold wpE; rw [hx]; exact h
theorem r_efld {f : Str} {er : Err} {d : D} (hx : C.exn = some er) (hf : er.fs.lookup f = some d) (h : Q d S) : wpE C (.efld f) env S Q := by unfold wpE; rw [hx]; dsimp only; rw [hf]; exact h
theorem r_oN {K : Option D → Store → Prop} (h : K none S) : wpO C .none env S K := by unfold wpO; exact h
theorem r_oS {K : Option D → Store → Prop} (h : wpE C e env S fun d S1 => K (some d) S1) : wpO C (.some e) env S K := by unfold wpO; exact h
theorem r_esN {K : List D → Store → Prop} (h : K [] S) : wpEs C .nil env S K := by unfold wpEs; exact h
theorem r_esC {K : List D → Store → Prop} (h : wpE C e env S fun d S1 => wpEs C es env S1 fun ds S2 => K (d :: ds) S2) : wpEs C (.cons e es) env S K := by unfold wpEs; exact h
theorem r_nm {i : Nat} {d : D} {K : DEnv → Store → Prop} (h : K (env.set i (some d)) S) : wpT C (.nm i) d env S K := by unfold wpT; exact h
theorem r_sub {d : D} {K : DEnv → Store → Prop} (h : wpE C a env S fun x S1 => wpE C b env S1 fun y S2 => wpSet S2 x y d fun S3 => K env S3) : wpT C (.sub a b) d env S K := by unfold wpT; exact h
theorem r_tp {ts : DTs} {d : D} {xs : List D} {K : DEnv → Store → Prop} (hs : seqOf S d = some xs) (hl : xs.length = ts.len) (h : wpTs C ts xs env S K) : wpT C (.tp ts) d env S K := by
  unfold wpT onO
  rw [hs]
  exact ⟨hl, h⟩
theorem r_tsN {K : DEnv → Store → Prop} (h : K env S) : wpTs C .nil [] env S K := by unfold wpTs; exact h
theorem r_tsC {t : DT} {ts : DTs} {d : D} {ds : List D} {K : DEnv → Store → Prop} (h : wpT C t d env S fun e1 S1 => wpTs C ts ds e1 S1 K) : wpTs C (.cons t ts) (d :: ds) env S K := by unfold wpTs; exact h
theorem r_iSeq {K : Src → List D → Store → Prop} (h : wpE C e env S fun d S1 => onO (seqOf S1 d) fun xs => K (some (d, xs)) xs S1) : wpI C (.seq e) env S K := by unfold wpI; exact h
theorem r_iRng {K : Src → List D → Store → Prop} (h : wpEs C es env S fun ds S1 => onO (rngD ds) fun xs => K none xs S1) : wpI C (.rng es) env S K := by unfold wpI; exact h
theorem r_iEnum {K : Src → List D → Store → Prop} (h : wpE C e env S fun d S1 => onO (seqOf S1 d) fun xs => K (some (d, xs)) (enumL 0 xs) S1) : wpI C (.enum e) env S K := by unfold wpI; exact h
theorem r_on {α : Type} {o : Option α} {k : α → Prop} {x : α} (ho : o = some x) (h : k x) : onO o k := by rw [ho]; exact h
/-! operators -/
theorem r_addI {i j : Int} (h : Q (.int (i + j)) S) : wpBin S .add (.int i) (.int j) Q := h
theorem r_subI {i j : Int} (h : Q (.int (i - j)) S) : wpBin S .sub (.int i) (.int j) Q := h
theorem r_mulI {i j : Int} (hb : i.natAbs.log2 + j.natAbs.log2 < 1000000) (h : Q (.int (i * j)) S) : wpBin S .mul (.int i) (.int j) Q := ⟨hb, h⟩
theorem r_fdivI {i j : Int} (h1 : 0 < j) (h2 : j.natAbs.log2 < 9000) (h : Q (.int (i / j)) S) : wpBin S .fdiv (.int i) (.int j) Q := ⟨h1, h2, h⟩
theorem r_modI {i j : Int} (h1 : 0 < j) (h : Q (.int (i % j)) S) : wpBin S .mod (.int i) (.int j) Q := ⟨h1, h⟩
theorem r_powI {i j : Int} (h1 : 0 ≤ j) (h2 : j ≤ 1000000) (h3 : i.natAbs < 2 ^ 64) (h : Q (.int (i ^ j.toNat)) S) : wpBin S .pow (.int i) (.int j) Q := ⟨h1, h2, h3, h⟩
theorem r_addT {xs ys : List D} (hl : xs.length + ys.length ≤ sizeLine) (h : Q (.tup (xs ++ ys)) S) : wpBin S .add (.tup xs) (.tup ys) Q := ⟨hl, h⟩
theorem r_addL {a b : Nat} {xs ys : List D} (ha : S[a]? = some (.lst xs)) (hb : S[b]? = some (.lst ys)) (hl : xs.length + ys.length ≤ sizeLine) (h : Q (.ref S.length) (S ++ [.lst (xs ++ ys)])) : wpBin S .add (.ref a) (.ref b) Q := by
  unfold wpBin
  dsimp only
  rw [ha, hb]
  exact ⟨hl, h⟩
theorem r_mulT {xs : List D} {k : Int} (h1 : -(2 ^ 63) ≤ k) (h2 : k ≤ 1000) (h3 : xs.length ≤ 1000) (h : Q (.tup (List.replicate k.toNat xs).flatten) S) : wpBin S .mul (.tup xs) (.int k) Q := ⟨⟨h1, h2⟩, h3, h⟩
theorem r_mulL {a : Nat} {xs : List D} {k : Int} (ha : S[a]? = some (.lst xs)) (h1 : -(2 ^ 63) ≤ k) (h2 : k < 2 ^ 63) (h3 : xs.length * k.toNat ≤ sizeLine) (h : Q (.ref S.length) (S ++ [.lst (List.replicate k.toNat xs).flatten])) : wpBin S .mul (.ref a) (.int k) Q := by
  unfold wpBin
  dsimp only
  rw [ha]
  exact ⟨h1, h2, h3, h⟩
theorem r_setL {n : Nat} {k : Int} {d : D} {xs : List D} {j : Nat} {K : Store → Prop} (ha : S[n]? = some (.lst xs)) (hj : L2.ixN xs.length k = some j) (h : K (S.set n (.lst (xs.set j d)))) : wpSet S (.ref n) (.int k) d K := by
  unfold wpSet
  dsimp only
  rw [ha]
  dsimp only
  rw [hj]
  exact h
theorem r_app {n : Nat} {d : D} {xs : List D} (ha : S[n]? = some (.lst xs)) (hl : xs.length < sizeLine) (h : Q .non (S.set n (.lst (xs ++ [d])))) : wpBm S .append (.ref n) [d] Q := by
  unfold wpBm
  dsimp only
  rw [ha]
  exact ⟨hl, h⟩
theorem r_slT {xs : List D} {l h : Option Int} (q : Q (.tup (cutL xs l h)) S) : wpSl S (.tup xs) l h Q := q
theorem r_slK {xs : List D} {l h : Option Int} (q : Q (.ref S.length) (S ++ [.lst (cutL xs l h)])) : wpSl S (.kl xs) l h Q := q
theorem r_slL {n : Nat} {xs : List D} {l h : Option Int} (ha : S[n]? = some (.lst xs)) (q : Q (.ref S.length) (S ++ [.lst (cutL xs l h)])) : wpSl S (.ref n) l h Q := by
  unfold wpSl seqOf
  dsimp only
  rw [ha]
  exact q
theorem seq_ref {n : Nat} {xs : List D} (ha : S[n]? = some (.lst xs)) : seqOf S (.ref n) = some xs := by
  unfold seqOf
  dsimp only
  rw [ha]
end
/-! ### loops -/
/-- the turns of a for -/
def FR (C : SC) (t : DT) (b : List DS) (src : Src) (items : List D) (B : DEnds) (env : DEnv) (S : Store) : Prop := frGo src (fun d B' e S' => wpT C t d e S' fun e2 S2 => wpSs C b B' e2 S2) B items env S
theorem r_fr {C : SC} {t : DT} {it : DI} {b : List DS} {B : DEnds} {env : DEnv} {S : Store} (h : wpI C it env S fun src items S1 => still src S1 ∧ FR C t b src items B env S1) : wpS C (.fr t it b) B env S := by
  unfold wpS
  exact h
/-- by an invariant: behind k turns -/
theorem FR_ind {C : SC} {t : DT} {b : List DS} {src : Src} {items : List D} {B : DEnds} {env : DEnv} {S : Store} (I : Nat → DEnv → Store → Prop) (h0 : I 0 env S)
    (hs : ∀ (k : Nat) (d : D) (env : DEnv) (S : Store), items[k]? = some d → I k env S → wpT C t d env S fun e2 S2 => wpSs C b { nx := fun e' S' => still src S' ∧ I (k + 1) e' S', ct := fun e' S' => still src S' ∧ I (k + 1) e' S', bk := B.nx, rt := B.rt } e2 S2)
    (he : ∀ env S, I items.length env S → B.nx env S) : FR C t b src items B env S := by
  have key : ∀ (l : List D) (k : Nat) (env : DEnv) (S : Store), items.drop k = l → k ≤ items.length → I k env S → frGo src (fun d B' e S' => wpT C t d e S' fun e2 S2 => wpSs C b B' e2 S2) B l env S := by
    intro l
    induction l with
    | nil =>
      intro k env S hl hk hi
      have : items.length ≤ k := List.drop_eq_nil_iff.mp hl
      have e : k = items.length := by omega
      subst e
      unfold frGo
      exact he _ _ hi
    | cons d r ih =>
      intro k env S hl hk hi
      have hlt : k < items.length := by
        rcases Nat.lt_or_ge k items.length with z | z
        · exact z
        · rw [List.drop_eq_nil_iff.mpr z] at hl; cases hl
      have hd := List.drop_eq_getElem_cons hlt
      rw [hl] at hd
      injection hd with hd1 hd2
      unfold frGo
      refine wpT_m _ _ _ _ _ _ _ (fun e2 S2 q => wpSs_m _ _ (DEnds.Le.mk ?_ ?_ ?_ ?_) q) (hs k d env S (by rw [hd1]; exact List.getElem?_eq_getElem hlt) hi)
      · intro e3 S3 z
        exact ⟨z.1, ih (k + 1) _ _ hd2.symm hlt z.2⟩
      · intro _ _ z; exact z
      · intro _ _ z; exact z
      · intro e3 S3 z
        exact ⟨z.1, ih (k + 1) _ _ hd2.symm hlt z.2⟩
  exact key items 0 env S rfl (Nat.zero_le _) h0
theorem r_wh {C : SC} {c : DE} {b : List DS} {B : DEnds} {env : DEnv} {S : Store} (W : Nat → DEnv → Store → Prop) (m : Nat) (h0 : W m env S) (hs : ∀ m env S, W m env S → wpE C c env S fun x S1 => ∃ k, truth S1 x = some k ∧
    (k = true → wpSs C b { nx := fun e' S' => ∃ m', m' < m ∧ W m' e' S', ct := fun e' S' => ∃ m', m' < m ∧ W m' e' S', bk := B.nx, rt := B.rt } env S1) ∧ (k = false → B.nx env S1)) : wpS C (.wh c b) B env S := by
  unfold wpS
  refine ⟨W, ⟨m, h0⟩, fun m env S hW => wpE_m _ _ _ _ _ _ (fun x S1 ⟨k, h1, h2, h3⟩ => ?_) (hs m env S hW)⟩
  unfold onO
  rw [h1]
  cases k with
  | true => exact h2 rfl
  | false => exact h3 rfl
theorem still_none {S : Store} : still none S := fun _ h => by cases h
theorem still_tup {S : Store} {xs : List D} : still (some (.tup xs, xs)) S := fun p h => by cases h; rfl
theorem still_kl {S : Store} {xs : List D} : still (some (.kl xs, xs)) S := fun p h => by cases h; rfl
theorem still_ref {S : Store} {n : Nat} {xs : List D} (h : S[n]? = some (.lst xs)) : still (some (.ref n, xs)) S := fun p e => by
  cases e
  exact seq_ref h
theorem still_app {src : Src} {S : Store} (h : still src S) (L : Store) : still src (S ++ L) := fun p e => by
  have q := h p e
  obtain ⟨d, xs⟩ := p
  cases d with
  | ref k =>
    have q' : seqOf S (.ref k) = some xs := q
    show seqOf (S ++ L) (.ref k) = some xs
    unfold seqOf at q' ⊢
    dsimp only at q' ⊢
    have hk : k < S.length := by
      rcases Nat.lt_or_ge k S.length with z | z
      · exact z
      · rw [List.getElem?_eq_none z] at q'; cases q'
    rw [List.getElem?_append_left hk]
    exact q'
  | _ => exact q
theorem lcStep_mono {C : SC} {own : List Nat} {t : DT} {c : DO} {e : DE} {env : DEnv} {d : D} {S : Store} {K K' : Option D → Store → Prop} (h : ∀ o S, K o S → K' o S) (q : lcStep C own t c e env d S K) : lcStep C own t c e env d S K' := by
  unfold lcStep at q ⊢
  refine wpT_m _ _ _ _ _ _ _ (fun e2 S2 q => wpO_m _ _ _ _ _ _ (fun o S3 q => ?_) q) q
  cases o with
  | none => exact wpE_m _ _ _ _ _ _ (fun y S5 z => h _ _ z) q
  | some x =>
    refine onO_mono (fun k q => ?_) q
    by_cases hk : k = true
    · rw [if_pos hk] at q ⊢
      exact wpE_m _ _ _ _ _ _ (fun y S5 z => h _ _ z) q
    · rw [if_neg hk] at q ⊢
      exact h _ _ q
theorem get_last (S : Store) (o : SO) : (S ++ [o])[S.length]? = some o := by
  rw [List.getElem?_append_right (Nat.le_refl _), Nat.sub_self]
  rfl
theorem set_last (S : Store) (a b : SO) : (S ++ [a]).set S.length b = S ++ [b] := by
  rw [List.set_append_right _ _ (Nat.le_refl _), Nat.sub_self]
  rfl
/-- a comprehension whose items leave the store as it is -/
theorem lc_fm {C : SC} {own : List Nat} {t : DT} {c : DO} {e : DE} {env : DEnv} {src : Src} {items : List D} {S : Store} {Kn : Store → Prop} (f : D → Option D) (hst : still src S) (hl : items.length ≤ sizeLine)
    (hs : ∀ (k : Nat) (d : D) (acc : List D), items[k]? = some d → lcStep C own t c e env d (S ++ [.lst acc]) fun o S' => o = f d ∧ S' = S ++ [.lst acc]) (hK : Kn (S ++ [.lst (items.filterMap f)])) : lcGo src S.length (lcStep C own t c e env) items (S ++ [.lst []]) Kn := by
  have key : ∀ (l : List D) (k : Nat), items.drop k = l → lcGo src S.length (lcStep C own t c e env) l (S ++ [.lst ((items.take k).filterMap f)]) Kn := by
    intro l
    induction l with
    | nil =>
      intro k hk
      have : items.length ≤ k := List.drop_eq_nil_iff.mp hk
      unfold lcGo
      rw [List.take_of_length_le this]
      exact hK
    | cons d r ih =>
      intro k hk
      have hlt : k < items.length := by
        rcases Nat.lt_or_ge k items.length with z | z
        · exact z
        · rw [List.drop_eq_nil_iff.mpr z] at hk; cases hk
      have hd := List.drop_eq_getElem_cons hlt
      rw [hk] at hd
      injection hd with hd1 hd2
      have hi : (items[k]? : Option D) = some d := by rw [hd1]; exact List.getElem?_eq_getElem hlt
      have ht : items.take (k + 1) = items.take k ++ [d] := by rw [List.take_add_one, hi]; rfl
      unfold lcGo
      refine lcStep_mono (fun o S' ⟨h1, h2⟩ => ?_) (hs k d _ hi)
      subst h2
      refine ⟨still_app hst _, ?_⟩
      have := ih (k + 1) hd2.symm
      rw [ht, List.filterMap_append, List.filterMap_cons, List.filterMap_nil] at this
      cases o with
      | none =>
        rw [← h1] at this
        dsimp only at this ⊢
        rw [List.append_nil] at this
        exact this
      | some y =>
        rw [← h1] at this
        dsimp only at this ⊢
        rw [List.getElem?_append_right (Nat.le_refl _), Nat.sub_self]
        dsimp only [List.getElem?_cons_zero]
        refine ⟨?_, ?_⟩
        · have h1 := List.length_filterMap_le f (items.take k)
          rw [List.length_take] at h1
          omega
        · rw [set_last]
          exact this
  have := key items 0 rfl
  rw [List.take_zero] at this
  exact this
/-- the end of a turn -/
def LcEnd (S S' : Store) (o p : Option D) : Prop := S' = S ∧ o = p
/-- .. by the turn -/
theorem lc_ix {C : SC} {own : List Nat} {t : DT} {c : DO} {e : DE} {env : DEnv} {src : Src} {items : List D} {S : Store} {Kn : Store → Prop} (f : Nat → Option D) (hst : still src S) (hl : items.length ≤ sizeLine)
    (hs : ∀ (k : Nat) (d : D) (acc : List D), items[k]? = some d → lcStep C own t c e env d (S ++ [.lst acc]) fun o S' => LcEnd (S ++ [.lst acc]) S' o (f k)) (hK : Kn (S ++ [.lst ((List.range items.length).filterMap f)])) : lcGo src S.length (lcStep C own t c e env) items (S ++ [.lst []]) Kn := by
  have key : ∀ (l : List D) (k : Nat), items.drop k = l → k ≤ items.length → lcGo src S.length (lcStep C own t c e env) l (S ++ [.lst ((List.range k).filterMap f)]) Kn := by
    intro l
    induction l with
    | nil =>
      intro k hk hk2
      have : items.length ≤ k := List.drop_eq_nil_iff.mp hk
      have e : k = items.length := by omega
      subst e
      unfold lcGo
      exact hK
    | cons d r ih =>
      intro k hk hk2
      have hlt : k < items.length := by
        rcases Nat.lt_or_ge k items.length with z | z
        · exact z
        · rw [List.drop_eq_nil_iff.mpr z] at hk; cases hk
      have hd := List.drop_eq_getElem_cons hlt
      rw [hk] at hd
      injection hd with hd1 hd2
      have hi : (items[k]? : Option D) = some d := by rw [hd1]; exact List.getElem?_eq_getElem hlt
      unfold lcGo
      refine lcStep_mono (fun o S' ⟨h2, h1⟩ => ?_) (hs k d _ hi)
      subst h2
      refine ⟨still_app hst _, ?_⟩
      have := ih (k + 1) hd2.symm hlt
      rw [List.range_succ, List.filterMap_append, List.filterMap_cons, List.filterMap_nil] at this
      cases o with
      | none =>
        rw [← h1] at this
        dsimp only at this ⊢
        rw [List.append_nil] at this
        exact this
      | some y =>
        rw [← h1] at this
        dsimp only at this ⊢
        rw [List.getElem?_append_right (Nat.le_refl _), Nat.sub_self]
        dsimp only [List.getElem?_cons_zero]
        refine ⟨?_, ?_⟩
        · have h1 := List.length_filterMap_le f (List.range k)
          rw [List.length_range] at h1
          omega
        · rw [set_last]
          exact this
  exact key items 0 rfl (Nat.zero_le _)
theorem lc_end {S S' : Store} {o p : Option D} (h : S' = S) (q : o = p) : LcEnd S S' o p := ⟨h, q⟩
/-- a test -/
theorem on_if {S : Store} {x : D} {A B : Prop} (h : ∃ k, truth S x = some k ∧ (k = true → A) ∧ (k = false → B)) : onO (truth S x) fun k => if k = true then A else B := by
  obtain ⟨k, h1, h2, h3⟩ := h
  unfold onO
  rw [h1]
  cases k with
  | true => exact h2 rfl
  | false => exact h3 rfl
theorem filterMap_ints {n : Nat} {g : Nat → Int} : (List.range n).filterMap (fun k => some (D.int (g k))) = ((List.range n).map g).map D.int := by
  rw [List.map_map, ← List.filterMap_eq_map]
  rfl
theorem filterMap_ifs {p : Nat → Bool} {g : Nat → Int} : ∀ l : List Nat, l.filterMap (fun k => if p k = true then some (D.int (g k)) else none) = ((l.filter p).map g).map D.int
  | [] => rfl
  | x :: l => by
    have ih := filterMap_ifs (p := p) (g := g) l
    rw [List.filterMap_cons, List.filter_cons, ih]
    cases p x with
    | true => rfl
    | false => rfl
end PD

set_option Elab.async false
set_option linter.all false
set_option maxRecDepth 100000
set_option maxHeartbeats 4000000
namespace PD
open PySem
/-! ### whole numbers in lists -/
def tupI (l : List Int) : D := .tup (l.map .int)
def lstI (l : List Int) : SO := .lst (l.map .int)
/-- the i-th, 0 behind the end -/
def cf (l : List Int) (i : Nat) : Int := l.getD i 0
theorem big (n : Nat) (h : n ≤ 16000000) : n ≤ sizeLine := Nat.le_trans h (by decide)
theorem big' (n : Nat) (h : n ≤ 16000000) : n < sizeLine := Nat.lt_of_le_of_lt h (by decide)
section
variable {C : SC} {env : DEnv} {S : Store} {Q : DQ} {B : DEnds} {f g : List Int} {n m : Nat} {i j k : Int}
theorem ml (l : List Int) : (l.map D.int).length = l.length := List.length_map ..
/-! displays -/
theorem m_t0 (h : Q (tupI []) S) : mkT [] S Q := ⟨Nat.zero_le _, h⟩
theorem m_t1 (h : Q (tupI [i]) S) : mkT [.int i] S Q := ⟨by show 1 ≤ sizeLine; decide, h⟩
theorem m_t2 (h : Q (tupI [i, j]) S) : mkT [.int i, .int j] S Q := ⟨by show 2 ≤ sizeLine; decide, h⟩
theorem m_tg {ds : List D} (hl : ds.length ≤ 1000) (h : Q (.tup ds) S) : mkT ds S Q := ⟨big _ (by omega), h⟩
theorem m_l0 (h : Q (.ref S.length) (S ++ [lstI []])) : mkL [] S Q := ⟨Nat.zero_le _, h⟩
theorem m_l1 (h : Q (.ref S.length) (S ++ [lstI [i]])) : mkL [.int i] S Q := ⟨by show 1 ≤ sizeLine; decide, h⟩
theorem m_l3 (h : Q (.ref S.length) (S ++ [lstI [i, j, k]])) : mkL [.int i, .int j, .int k] S Q := ⟨by show 3 ≤ sizeLine; decide, h⟩
theorem m_lg {ds : List D} (hl : ds.length ≤ 1000) (h : Q (.ref S.length) (S ++ [.lst ds])) : mkL ds S Q := ⟨big _ (by omega), h⟩
/-! operators -/
theorem a_tt (hl : f.length + g.length ≤ 16000000) (h : Q (tupI (f ++ g)) S) : wpBin S .add (tupI f) (tupI g) Q := by
  refine r_addT (by rw [ml, ml]; exact big _ hl) ?_
  rw [← List.map_append]
  exact h
theorem a_ll (ha : S[n]? = some (lstI f)) (hb : S[m]? = some (lstI g)) (hl : f.length + g.length ≤ 16000000) (h : Q (.ref S.length) (S ++ [lstI (f ++ g)])) : wpBin S .add (.ref n) (.ref m) Q := by
  refine r_addL ha hb (by rw [ml, ml]; exact big _ hl) ?_
  rw [← List.map_append]
  exact h
theorem rep1 (m : Nat) (i : Int) : (List.replicate m [D.int i]).flatten = (List.replicate m i).map D.int := by
  induction m with
  | zero => rfl
  | succ m ih => rw [List.replicate_succ, List.replicate_succ, List.flatten_cons, ih]; rfl
theorem x_t1 (h1 : -(2 ^ 63) ≤ k) (h2 : k ≤ 1000) (h : Q (tupI (List.replicate k.toNat i)) S) : wpBin S .mul (tupI [i]) (.int k) Q := by
  refine r_mulT h1 h2 (by show 1 ≤ 1000; decide) ?_
  have e : (List.replicate k.toNat (List.map D.int [i])).flatten = (List.replicate k.toNat i).map D.int := rep1 _ _
  rw [e]
  exact h
theorem x_l1 (ha : S[n]? = some (lstI [i])) (h1 : -(2 ^ 63) ≤ k) (h2 : k ≤ 1000000) (h : Q (.ref S.length) (S ++ [lstI (List.replicate k.toNat i)])) : wpBin S .mul (.ref n) (.int k) Q := by
  have hh : (List.map D.int [i]).length * k.toNat ≤ 16000000 := by
    show 1 * k.toNat ≤ 16000000
    omega
  refine r_mulL ha h1 (by omega) (big _ hh) ?_
  have e : (List.replicate k.toNat (List.map D.int [i])).flatten = (List.replicate k.toNat i).map D.int := rep1 _ _
  rw [e]
  exact h
/-! slices -/
theorem cut_map {α β : Type} (f : α → β) (l : List α) (lo hi : Option Int) : cutL (l.map f) lo hi = (cutL l lo hi).map f := by
  unfold cutL
  rw [List.length_map, ← List.map_drop, ← List.map_take]
theorem cut_to {α : Type} (l : List α) (k : Int) (h : 0 ≤ k) : cutL l none (some k) = l.take k.toNat := by
  unfold cutL
  have e1 : HT.sIx l.length 0 none = 0 := rfl
  have e2 : HT.sIx l.length l.length (some k) = min k.toNat l.length := by
    show (if k < 0 then (k + (l.length : Int)).toNat else min k.toNat l.length) = min k.toNat l.length
    rw [if_neg (by omega)]
  rw [e1, e2, List.drop_zero, Nat.sub_zero, Nat.min_def]
  split
  · rfl
  · rw [List.take_of_length_le (Nat.le_refl _), List.take_of_length_le (by omega)]
theorem cut_from {α : Type} (l : List α) (k : Int) (h : 0 ≤ k) : cutL l (some k) none = l.drop k.toNat := by
  unfold cutL
  have e1 : HT.sIx l.length l.length none = l.length := rfl
  have e2 : HT.sIx l.length 0 (some k) = min k.toNat l.length := by
    show (if k < 0 then (k + (l.length : Int)).toNat else min k.toNat l.length) = min k.toNat l.length
    rw [if_neg (by omega)]
  rw [e1, e2, Nat.min_def]
  split
  · rw [List.take_of_length_le (by rw [List.length_drop]; omega)]
  · rw [List.drop_eq_nil_of_le (Nat.le_refl _), List.drop_eq_nil_of_le (by omega), List.take_nil]
theorem s_tt (hk : 0 ≤ k) (h : Q (tupI (f.take k.toNat)) S) : wpSl S (tupI f) none (some k) Q := by
  refine r_slT ?_
  rw [cut_map, cut_to _ _ hk]
  exact h
theorem s_tf (hk : 0 ≤ k) (h : Q (tupI (f.drop k.toNat)) S) : wpSl S (tupI f) (some k) none Q := by
  refine r_slT ?_
  rw [cut_map, cut_from _ _ hk]
  exact h
theorem s_lt (ha : S[n]? = some (lstI f)) (hk : 0 ≤ k) (h : Q (.ref S.length) (S ++ [lstI (f.take k.toNat)])) : wpSl S (.ref n) none (some k) Q := by
  refine r_slL ha ?_
  rw [cut_map, cut_to _ _ hk]
  exact h
theorem s_lf (ha : S[n]? = some (lstI f)) (hk : 0 ≤ k) (h : Q (.ref S.length) (S ++ [lstI (f.drop k.toNat)])) : wpSl S (.ref n) (some k) none Q := by
  refine r_slL ha ?_
  rw [cut_map, cut_from _ _ hk]
  exact h
/-! built-ins -/
theorem n_t (h : Q (.int f.length) S) : wpBi S .len [tupI f] Q := by
  show Q (.int (f.map D.int).length) S
  rw [ml]
  exact h
theorem n_l (ha : S[n]? = some (lstI f)) (h : Q (.int f.length) S) : wpBi S .len [.ref n] Q := by
  show onO (seqOf S (.ref n)) _
  rw [seq_ref ha]
  show Q (.int (f.map D.int).length) S
  rw [ml]
  exact h
theorem n_lg {xs : List D} (ha : S[n]? = some (.lst xs)) (h : Q (.int xs.length) S) : wpBi S .len [.ref n] Q := by
  show onO (seqOf S (.ref n)) _
  rw [seq_ref ha]
  exact h
theorem n_tg {xs : List D} (h : Q (.int xs.length) S) : wpBi S .len [.tup xs] Q := h
theorem l_t (h : Q (.ref S.length) (S ++ [lstI f])) : wpBi S .list [tupI f] Q := h
theorem l_l (ha : S[n]? = some (lstI f)) (h : Q (.ref S.length) (S ++ [lstI f])) : wpBi S .list [.ref n] Q := by
  show onO (seqOf S (.ref n)) _
  rw [seq_ref ha]
  exact h
theorem l_lg {xs : List D} (ha : S[n]? = some (.lst xs)) (h : Q (.ref S.length) (S ++ [.lst xs])) : wpBi S .list [.ref n] Q := by
  show onO (seqOf S (.ref n)) _
  rw [seq_ref ha]
  exact h
theorem t_t (h : Q (tupI f) S) : wpBi S .tuple [tupI f] Q := h
theorem t_l (ha : S[n]? = some (lstI f)) (h : Q (tupI f) S) : wpBi S .tuple [.ref n] Q := by
  show onO (seqOf S (.ref n)) _
  rw [seq_ref ha]
  exact h
theorem b_abs (h : Q (.int i.natAbs) S) : wpBi S .abs [.int i] Q := by
  have e : (i.natAbs : Int) = if i < 0 then -i else i := by
    split <;> omega
  show Q (.int (if i < 0 then -i else i)) S
  rw [← e]
  exact h
theorem b_int (h : Q (.int i) S) : wpBi S .int [.int i] Q := h
theorem b_intb {b : Bool} (h : Q (.int (if b then 1 else 0)) S) : wpBi S .int [.bl b] Q := h
theorem b_max (h : Q (.int (max i j)) S) : wpBi S .max [.int i, .int j] Q := by
  have e : max i j = if j > i then j else i := by
    rw [Int.max_def]
    split <;> split <;> omega
  show Q (.int (if j > i then j else i)) S
  rw [← e]
  exact h
theorem b_min (h : Q (.int (min i j)) S) : wpBi S .min [.int i, .int j] Q := by
  have e : min i j = if j < i then j else i := by
    rw [Int.min_def]
    split <;> split <;> omega
  show Q (.int (if j < i then j else i)) S
  rw [← e]
  exact h
theorem b_isi {x c : D} {k : Bool} (hk : isiD S x c = some k) (h : Q (.bl k) S) : wpBi S .isinstance [x, c] Q := by
  show onO (isiD S x c) _
  rw [hk]
  exact h
/-! places -/
theorem atI_nat {α : Type} {xs : List α} {k : Int} (h0 : 0 ≤ k) (h1 : k < xs.length) : L2.atI xs k = xs[k.toNat]? := by
  unfold L2.atI L2.ixN
  rw [if_pos h0, if_pos h1]
  rfl
theorem atI_neg {α : Type} {xs : List α} (h1 : 0 < xs.length) : L2.atI xs (-1) = xs[xs.length - 1]? := by
  unfold L2.atI L2.ixN
  rw [if_neg (by omega), if_pos (by omega)]
  show xs[((-1 : Int) + xs.length).toNat]? = _
  congr 1
  omega
theorem get_cf {l : List Int} {i : Nat} (h : i < l.length) : (l.map D.int)[i]? = some (.int (cf l i)) := by
  unfold cf
  rw [List.getElem?_map, List.getD_eq_getElem?_getD, List.getElem?_eq_getElem h]
  rfl
theorem i_t {Kk : D → Prop} (h0 : 0 ≤ k) (h1 : k < f.length) (h : Kk (.int (cf f k.toNat))) : onO (ixD S (tupI f) (.int k)) Kk := by
  have e : ixD S (tupI f) (.int k) = some (.int (cf f k.toNat)) := by
    show L2.atI (f.map D.int) k = _
    rw [atI_nat h0 (by rw [ml]; exact h1), get_cf (by omega)]
  rw [e]
  exact h
theorem i_tn {Kk : D → Prop} (h1 : 0 < f.length) (h : Kk (.int (cf f (f.length - 1)))) : onO (ixD S (tupI f) (.int (-1))) Kk := by
  have e : ixD S (tupI f) (.int (-1)) = some (.int (cf f (f.length - 1))) := by
    show L2.atI (f.map D.int) (-1) = _
    rw [atI_neg (by rw [ml]; exact h1), ml, get_cf (by omega)]
  rw [e]
  exact h
theorem dct_no {n : Nat} {xs : List D} (ha : S[n]? = some (.lst xs)) : dctOf S (.ref n) = none := by
  unfold dctOf
  dsimp only
  rw [ha]
theorem ixD_l {n : Nat} {xs : List D} {y : D} (ha : S[n]? = some (.lst xs)) : ixD S (.ref n) y = ixS S (.ref n) y := by
  unfold ixD
  rw [dct_no ha]
theorem i_l {Kk : D → Prop} (ha : S[n]? = some (lstI f)) (h0 : 0 ≤ k) (h1 : k < f.length) (h : Kk (.int (cf f k.toNat))) : onO (ixD S (.ref n) (.int k)) Kk := by
  have e : ixD S (.ref n) (.int k) = some (.int (cf f k.toNat)) := by
    rw [ixD_l ha]
    show (match seqOf S (.ref n) with
      | some xs => L2.atI xs k
      | none => none) = _
    rw [seq_ref ha]
    show L2.atI (f.map D.int) k = _
    rw [atI_nat h0 (by rw [ml]; exact h1), get_cf (by omega)]
  rw [e]
  exact h
theorem i_tg {Kk : D → Prop} {xs : List D} {d : D} (hd : L2.atI xs k = some d) (h : Kk d) : onO (ixD S (.tup xs) (.int k)) Kk := by
  have e : ixD S (.tup xs) (.int k) = some d := hd
  rw [e]
  exact h
theorem i_lg {Kk : D → Prop} {xs : List D} {d : D} (ha : S[n]? = some (.lst xs)) (hd : L2.atI xs k = some d) (h : Kk d) : onO (ixD S (.ref n) (.int k)) Kk := by
  have e : ixD S (.ref n) (.int k) = some d := by
    rw [ixD_l ha]
    show (match seqOf S (.ref n) with
      | some xs => L2.atI xs k
      | none => none) = _
    rw [seq_ref ha]
    exact hd
  rw [e]
  exact h
theorem w_l {Kk : Store → Prop} (ha : S[n]? = some (lstI f)) (h0 : 0 ≤ k) (h1 : k < f.length) (h : Kk (S.set n (lstI (f.set k.toNat i)))) : wpSet S (.ref n) (.int k) (.int i) Kk := by
  have e : L2.ixN (f.map D.int).length k = some k.toNat := by
    unfold L2.ixN
    rw [ml, if_pos h0, if_pos h1]
  refine r_setL ha e ?_
  rw [← List.map_set]
  exact h
/-- the list that was laid last -/
theorem w_e {Kk : Store → Prop} (h0 : 0 ≤ k) (h1 : k < f.length) (h : Kk (S ++ [lstI (f.set k.toNat i)])) : wpSet (S ++ [lstI f]) (.ref S.length) (.int k) (.int i) Kk := by
  refine w_l (get_last S _) h0 h1 ?_
  rw [set_last]
  exact h
theorem p_l (ha : S[n]? = some (lstI f)) (hl : f.length ≤ 16000000) (h : Q .non (S.set n (lstI (f ++ [i])))) : wpBm S .append (.ref n) [.int i] Q := by
  refine r_app ha (by rw [ml]; exact big' _ hl) ?_
  have e : f.map D.int ++ [D.int i] = (f ++ [i]).map D.int := by rw [List.map_append]; rfl
  rw [e]
  exact h
theorem p_e (hl : f.length ≤ 16000000) (h : Q .non (S ++ [lstI (f ++ [i])])) : wpBm (S ++ [lstI f]) .append (.ref S.length) [.int i] Q := by
  refine p_l (get_last S _) hl ?_
  rw [set_last]
  exact h
/-! comparisons -/
theorem c_lt {Kk : Bool → Prop} (h : Kk (decide (i < j))) : onO (cmpD S .lt (.int i) (.int j)) Kk := h
theorem c_le {Kk : Bool → Prop} (h : Kk (decide (i ≤ j))) : onO (cmpD S .le (.int i) (.int j)) Kk := h
theorem c_gt {Kk : Bool → Prop} (h : Kk (decide (j < i))) : onO (cmpD S .gt (.int i) (.int j)) Kk := h
theorem c_ge {Kk : Bool → Prop} (h : Kk (decide (j ≤ i))) : onO (cmpD S .ge (.int i) (.int j)) Kk := h
theorem c_eq {Kk : Bool → Prop} (h : Kk (decide (i = j))) : onO (cmpD S .eq (.int i) (.int j)) Kk := by
  have e : cmpD S .eq (.int i) (.int j) = some (decide (i = j)) := by
    show some (PyData.eqv (.int i) (.int j)) = _
    unfold PyData.eqv
    rw [Bool.beq_eq_decide_eq]
  rw [e]
  exact h
theorem c_ne {Kk : Bool → Prop} (h : Kk (!decide (i = j))) : onO (cmpD S .ne (.int i) (.int j)) Kk := by
  have e : cmpD S .ne (.int i) (.int j) = some (!decide (i = j)) := by
    show some (!PyData.eqv (.int i) (.int j)) = _
    unfold PyData.eqv
    rw [Bool.beq_eq_decide_eq]
  rw [e]
  exact h
theorem c_is {Kk : Bool → Prop} {a b : Bool} (h : Kk (a == b)) : onO (cmpD S .is (.bl a) (.bl b)) Kk := h
theorem c_isn {Kk : Bool → Prop} {a b : Bool} (h : Kk (!(a == b))) : onO (cmpD S .isn (.bl a) (.bl b)) Kk := h
theorem c_gen {Kk : Bool → Prop} {o : CO} {x y : D} {b : Bool} (hb : cmpD S o x y = some b) (h : Kk b) : onO (cmpD S o x y) Kk := by
  rw [hb]
  exact h
/-! tests -/
theorem t_bl {b : Bool} {P1 P2 : Prop} (h1 : b = true → P1) (h2 : b = false → P2) : ∃ k, truth S (.bl b) = some k ∧ (k = true → P1) ∧ (k = false → P2) := ⟨b, rfl, h1, h2⟩
theorem t_and {b : Bool} {P1 P2 : Prop} (h1 : b = true → P1) (h2 : b = false → P2) : ∃ k, (D.bl b) = .bl k ∧ (k = true → P1) ∧ (k = false → P2) := ⟨b, rfl, h1, h2⟩
theorem t_nb {b : Bool} (h : Q (.bl (!b)) S) : notC S (.bl b) Q := ⟨b, rfl, h⟩
theorem t_neg (h : Q (.int (-i)) S) : negC S (.int i) Q := ⟨i, rfl, h⟩
/-! what a loop walks -/
theorem g_r1 {Kk : List D → Prop} (h0 : -(2 ^ 62) ≤ j) (h1 : j < 2 ^ 62) (h : Kk (rngL 0 j.toNat)) : onO (rngD [.int j]) Kk := by
  have e : rngD [.int j] = some (rngL 0 j.toNat) := if_pos ⟨h0, h1⟩
  rw [e]
  exact h
theorem g_r2 {Kk : List D → Prop} (h0 : -(2 ^ 62) ≤ i) (h1 : i < 2 ^ 62) (h2 : -(2 ^ 62) ≤ j) (h3 : j < 2 ^ 62) (h : Kk (rngL i (j - i).toNat)) : onO (rngD [.int i, .int j]) Kk := by
  have e : rngD [.int i, .int j] = some (rngL i (j - i).toNat) := if_pos ⟨h0, h1, h2, h3⟩
  rw [e]
  exact h
theorem g_t {Kk : List D → Prop} (h : Kk (f.map D.int)) : onO (seqOf S (tupI f)) Kk := h
theorem g_l {Kk : List D → Prop} (ha : S[n]? = some (lstI f)) (h : Kk (f.map D.int)) : onO (seqOf S (.ref n)) Kk := by
  rw [seq_ref ha]
  exact h
theorem g_lg {Kk : List D → Prop} {xs : List D} (ha : S[n]? = some (.lst xs)) (h : Kk xs) : onO (seqOf S (.ref n)) Kk := by
  rw [seq_ref ha]
  exact h
theorem rngL_get {lo : Int} {n k : Nat} {d : D} (h : (rngL lo n)[k]? = some d) : k < n ∧ d = .int (lo + k) := by
  unfold rngL at h
  rw [List.getElem?_map] at h
  obtain ⟨a, ha, e⟩ := Option.map_eq_some_iff.mp h
  have hl : k < n := by
    rcases Nat.lt_or_ge k n with z | z
    · exact z
    · rw [List.getElem?_eq_none (by rw [List.length_range]; exact z)] at ha; cases ha
  rw [List.getElem?_range hl] at ha
  cases ha
  exact ⟨hl, e.symm⟩
theorem map_get {l : List Int} {k : Nat} {d : D} (h : (l.map D.int)[k]? = some d) : k < l.length ∧ d = .int (cf l k) := by
  have hl : k < l.length := by
    rcases Nat.lt_or_ge k l.length with z | z
    · exact z
    · rw [List.getElem?_eq_none (by rw [ml]; exact z)] at h; cases h
  rw [get_cf hl] at h
  cases h
  exact ⟨hl, rfl⟩
theorem enumL_get' : ∀ {xs : List D} {j k : Nat} {d : D}, (enumL j xs)[k]? = some d → ∃ e, xs[k]? = some e ∧ d = .tup [.int ((j + k : Nat) : Int), e]
  | [], j, k, d, h => by cases h
  | x :: r, j, 0, d, h => by
    cases h
    exact ⟨x, rfl, rfl⟩
  | x :: r, j, k + 1, d, h => by
    unfold enumL at h
    rw [List.getElem?_cons_succ] at h
    obtain ⟨e, h1, h2⟩ := enumL_get' h
    refine ⟨e, h1, ?_⟩
    rw [h2]
    congr 4
    omega
theorem get_last' (S : Store) (o : SO) : (S ++ [o])[S.length]? = some o := get_last S o
theorem get_app {S : Store} {n : Nat} {o : SO} {L : Store} (h : S[n]? = some o) : (S ++ L)[n]? = some o := (Ext.app S L).get h
/-! the end -/
theorem o_val {d d0 : D} {S S' : Store} (e : Ext S S') (h : d = d0) : (retO S (.val d0)).rt d S' := ⟨e, h⟩
theorem o_new {n : Nat} {xs : List D} {S S' : Store} (e : Ext S S') (hn : S.length ≤ n) (h : S'[n]? = some (.lst xs)) : (retO S (.new xs)).rt (.ref n) S' := ⟨e, n, rfl, hn, h⟩
theorem o_exc {M : Md} {S S' : Store} {o : Out} {er : Err} {P : Prop} (e : Ext S S') (h : o = .exc er) (hl : P) : P ∧ (M.C (excO S o)).xq er env S' := ⟨hl, e, h⟩
theorem o_nws {d d0 : D} {L : List SO} {ρ : List Nat} {S S' : Store} (e : Ext S S') (k : KeepN S S' L ρ) (h : d = renD S.length ρ d0) : (retO S (.nws L d0)).rt d S' := ⟨e, ρ, k, h⟩
/-- whole numbers, in a tuple or a list -/
def isSq (S : Store) (d : D) (l : List Int) : Prop := d = tupI l ∨ ∃ n, d = .ref n ∧ S[n]? = some (lstI l)
theorem isSq.app {d : D} (h : isSq S d f) (L : Store) : isSq (S ++ L) d f := h.elim .inl fun ⟨n, h1, h2⟩ => .inr ⟨n, h1, get_app h2⟩
theorem isSq.seq {d : D} (h : isSq S d f) : seqOf S d = some (f.map D.int) := by
  rcases h with rfl | ⟨n, rfl, h⟩
  · rfl
  · exact seq_ref h
theorem n_q {d : D} (hq : isSq S d f) (h : Q (.int f.length) S) : wpBi S .len [d] Q := by
  rcases hq with rfl | ⟨n, rfl, hq⟩
  · exact n_t h
  · exact n_l hq h
theorem l_q {d : D} (hq : isSq S d f) (h : Q (.ref S.length) (S ++ [lstI f])) : wpBi S .list [d] Q := by
  rcases hq with rfl | ⟨n, rfl, hq⟩
  · exact l_t h
  · exact l_l hq h
theorem t_q {d : D} (hq : isSq S d f) (h : Q (tupI f) S) : wpBi S .tuple [d] Q := by
  rcases hq with rfl | ⟨n, rfl, hq⟩
  · exact t_t h
  · exact t_l hq h
theorem i_q {d : D} {Kk : D → Prop} (hq : isSq S d f) (h0 : 0 ≤ k) (h1 : k < f.length) (h : Kk (.int (cf f k.toNat))) : onO (ixD S d (.int k)) Kk := by
  rcases hq with rfl | ⟨n, rfl, hq⟩
  · exact i_t h0 h1 h
  · exact i_l hq h0 h1 h
theorem g_q {d : D} {Kk : List D → Prop} (hq : isSq S d f) (h : Kk (f.map D.int)) : onO (seqOf S d) Kk := by
  rw [hq.seq]
  exact h
theorem st_and {src : Src} {P : Prop} (h : still src S) (q : P) : still src S ∧ P := ⟨h, q⟩
theorem still_q {d : D} (hq : isSq S d f) : still (some (d, f.map D.int)) S := fun p e => by
  cases e
  exact hq.seq
end
end PD

set_option Elab.async false
set_option linter.all false
set_option maxRecDepth 100000
set_option maxHeartbeats 1000000
namespace PD
open PySem

theorem isi_ty1 {S : Store} {d : D} {a b : String} {k : Bool} (h : tyName S d = some a) (hb : b ∈ tyOk) (hk : isTy a b = k) : isiD S d (.ty b) = some k := by
  unfold isiD
  rw [h]
  show (if b ∈ tyOk then some (isTy a b) else none) = some k
  rw [if_pos hb, hk]
theorem isi_ty0 {S : Store} {d : D} {a b : String} {Q : DQ} (h : tyName S d = some a) (hb : b ∈ tyOk) (q : Q (.bl (isTy a b)) S) : wpBi S .isinstance [d, .ty b] Q := b_isi (isi_ty1 h hb rfl) q
theorem isi_ty2 {S : Store} {d : D} {a : String} {k : Bool} (h : tyName S d = some a) (hk : (a == "tuple" || (a == "list" || false)) = k) : isiD S d (.tup [.ty "tuple", .ty "list"]) = some k := by
  unfold isiD
  rw [h]
  have e1 : isi1 a (.ty "tuple") = some (a == "tuple") := by
    show (if "tuple" ∈ tyOk then some (isTy a "tuple") else none) = _
    rw [if_pos (by decide)]
    unfold isTy
    have : ("tuple" == "int") = false := by decide
    rw [this, Bool.and_false, Bool.or_false]
  have e2 : isi1 a (.ty "list") = some (a == "list") := by
    show (if "list" ∈ tyOk then some (isTy a "list") else none) = _
    rw [if_pos (by decide)]
    unfold isTy
    have : ("list" == "int") = false := by decide
    rw [this, Bool.and_false, Bool.or_false]
  dsimp only [mapO]
  rw [e1, e2]
  dsimp only [Option.map_some, List.any_cons, List.any_nil, id]
  rw [hk]
theorem ty_i {S : Store} {i : Int} : tyName S (D.int i) = some "int" := rfl
theorem isi_i_int {S : Store} {Q : DQ} {i : Int} (q : Q (.bl true) S) : wpBi S .isinstance [(D.int i), .ty "int"] Q := b_isi (isi_ty1 (ty_i) (by decide) (by decide)) q
theorem isi_i_bool {S : Store} {Q : DQ} {i : Int} (q : Q (.bl false) S) : wpBi S .isinstance [(D.int i), .ty "bool"] Q := b_isi (isi_ty1 (ty_i) (by decide) (by decide)) q
theorem isi_i_tup {S : Store} {Q : DQ} {i : Int} (q : Q (.bl false) S) : wpBi S .isinstance [(D.int i), .ty "tuple"] Q := b_isi (isi_ty1 (ty_i) (by decide) (by decide)) q
theorem isi_i_tl {S : Store} {Q : DQ} {i : Int} (q : Q (.bl false) S) : wpBi S .isinstance [(D.int i), .tup [.ty "tuple", .ty "list"]] Q := b_isi (isi_ty2 (ty_i) (by decide)) q
theorem ty_b {S : Store} {b : Bool} : tyName S (D.bl b) = some "bool" := rfl
theorem isi_b_int {S : Store} {Q : DQ} {b : Bool} (q : Q (.bl true) S) : wpBi S .isinstance [(D.bl b), .ty "int"] Q := b_isi (isi_ty1 (ty_b) (by decide) (by decide)) q
theorem isi_b_bool {S : Store} {Q : DQ} {b : Bool} (q : Q (.bl true) S) : wpBi S .isinstance [(D.bl b), .ty "bool"] Q := b_isi (isi_ty1 (ty_b) (by decide) (by decide)) q
theorem isi_b_tup {S : Store} {Q : DQ} {b : Bool} (q : Q (.bl false) S) : wpBi S .isinstance [(D.bl b), .ty "tuple"] Q := b_isi (isi_ty1 (ty_b) (by decide) (by decide)) q
theorem isi_b_tl {S : Store} {Q : DQ} {b : Bool} (q : Q (.bl false) S) : wpBi S .isinstance [(D.bl b), .tup [.ty "tuple", .ty "list"]] Q := b_isi (isi_ty2 (ty_b) (by decide)) q
theorem ty_s {S : Store} {x : Str} : tyName S (D.str x) = some "str" := rfl
theorem isi_s_int {S : Store} {Q : DQ} {x : Str} (q : Q (.bl false) S) : wpBi S .isinstance [(D.str x), .ty "int"] Q := b_isi (isi_ty1 (ty_s) (by decide) (by decide)) q
theorem isi_s_bool {S : Store} {Q : DQ} {x : Str} (q : Q (.bl false) S) : wpBi S .isinstance [(D.str x), .ty "bool"] Q := b_isi (isi_ty1 (ty_s) (by decide) (by decide)) q
theorem isi_s_tup {S : Store} {Q : DQ} {x : Str} (q : Q (.bl false) S) : wpBi S .isinstance [(D.str x), .ty "tuple"] Q := b_isi (isi_ty1 (ty_s) (by decide) (by decide)) q
theorem isi_s_tl {S : Store} {Q : DQ} {x : Str} (q : Q (.bl false) S) : wpBi S .isinstance [(D.str x), .tup [.ty "tuple", .ty "list"]] Q := b_isi (isi_ty2 (ty_s) (by decide)) q
theorem ty_n {S : Store}  : tyName S D.non = some "NoneType" := rfl
theorem isi_n_int {S : Store} {Q : DQ}  (q : Q (.bl false) S) : wpBi S .isinstance [D.non, .ty "int"] Q := b_isi (isi_ty1 (ty_n) (by decide) (by decide)) q
theorem isi_n_bool {S : Store} {Q : DQ}  (q : Q (.bl false) S) : wpBi S .isinstance [D.non, .ty "bool"] Q := b_isi (isi_ty1 (ty_n) (by decide) (by decide)) q
theorem isi_n_tup {S : Store} {Q : DQ}  (q : Q (.bl false) S) : wpBi S .isinstance [D.non, .ty "tuple"] Q := b_isi (isi_ty1 (ty_n) (by decide) (by decide)) q
theorem isi_n_tl {S : Store} {Q : DQ}  (q : Q (.bl false) S) : wpBi S .isinstance [D.non, .tup [.ty "tuple", .ty "list"]] Q := b_isi (isi_ty2 (ty_n) (by decide)) q
theorem ty_t {S : Store} {xs : List D} : tyName S (D.tup xs) = some "tuple" := rfl
theorem isi_t_int {S : Store} {Q : DQ} {xs : List D} (q : Q (.bl false) S) : wpBi S .isinstance [(D.tup xs), .ty "int"] Q := b_isi (isi_ty1 (ty_t) (by decide) (by decide)) q
theorem isi_t_bool {S : Store} {Q : DQ} {xs : List D} (q : Q (.bl false) S) : wpBi S .isinstance [(D.tup xs), .ty "bool"] Q := b_isi (isi_ty1 (ty_t) (by decide) (by decide)) q
theorem isi_t_tup {S : Store} {Q : DQ} {xs : List D} (q : Q (.bl true) S) : wpBi S .isinstance [(D.tup xs), .ty "tuple"] Q := b_isi (isi_ty1 (ty_t) (by decide) (by decide)) q
theorem isi_t_tl {S : Store} {Q : DQ} {xs : List D} (q : Q (.bl true) S) : wpBi S .isinstance [(D.tup xs), .tup [.ty "tuple", .ty "list"]] Q := b_isi (isi_ty2 (ty_t) (by decide)) q
theorem ty_u {S : Store} {f : List Int} : tyName S (tupI f) = some "tuple" := rfl
theorem isi_u_int {S : Store} {Q : DQ} {f : List Int} (q : Q (.bl false) S) : wpBi S .isinstance [(tupI f), .ty "int"] Q := b_isi (isi_ty1 (ty_u) (by decide) (by decide)) q
theorem isi_u_bool {S : Store} {Q : DQ} {f : List Int} (q : Q (.bl false) S) : wpBi S .isinstance [(tupI f), .ty "bool"] Q := b_isi (isi_ty1 (ty_u) (by decide) (by decide)) q
theorem isi_u_tup {S : Store} {Q : DQ} {f : List Int} (q : Q (.bl true) S) : wpBi S .isinstance [(tupI f), .ty "tuple"] Q := b_isi (isi_ty1 (ty_u) (by decide) (by decide)) q
theorem isi_u_tl {S : Store} {Q : DQ} {f : List Int} (q : Q (.bl true) S) : wpBi S .isinstance [(tupI f), .tup [.ty "tuple", .ty "list"]] Q := b_isi (isi_ty2 (ty_u) (by decide)) q
theorem ty_l {S : Store} {n : Nat} {xs : List D} (h : S[n]? = some (.lst xs)) : tyName S (D.ref n) = some "list" := by
  show (match seqOf S (.ref n) with
    | some _ => some "list"
    | none => none) = some "list"
  rw [seq_ref h]
theorem isi_l_int {S : Store} {Q : DQ} {n : Nat} {xs : List D} (h : S[n]? = some (.lst xs)) (q : Q (.bl false) S) : wpBi S .isinstance [(D.ref n), .ty "int"] Q := b_isi (isi_ty1 (ty_l h) (by decide) (by decide)) q
theorem isi_l_bool {S : Store} {Q : DQ} {n : Nat} {xs : List D} (h : S[n]? = some (.lst xs)) (q : Q (.bl false) S) : wpBi S .isinstance [(D.ref n), .ty "bool"] Q := b_isi (isi_ty1 (ty_l h) (by decide) (by decide)) q
theorem isi_l_tup {S : Store} {Q : DQ} {n : Nat} {xs : List D} (h : S[n]? = some (.lst xs)) (q : Q (.bl false) S) : wpBi S .isinstance [(D.ref n), .ty "tuple"] Q := b_isi (isi_ty1 (ty_l h) (by decide) (by decide)) q
theorem isi_l_tl {S : Store} {Q : DQ} {n : Nat} {xs : List D} (h : S[n]? = some (.lst xs)) (q : Q (.bl true) S) : wpBi S .isinstance [(D.ref n), .tup [.ty "tuple", .ty "list"]] Q := b_isi (isi_ty2 (ty_l h) (by decide)) q
theorem isi_q_tl {S : Store} {Q : DQ} {d : D} {f : List Int} (hq : isSq S d f) (q : Q (.bl true) S) : wpBi S .isinstance [d, .tup [.ty "tuple", .ty "list"]] Q := by
  rcases hq with rfl | ⟨n, rfl, h⟩
  · exact isi_u_tl q
  · exact isi_l_tl h q
theorem n_seq {S : Store} {Q : DQ} {d : D} {a : String} {xs : List D} (ht : tyName S d = some a) (ha : a = "tuple" ∨ a = "list") (hs : seqOf S d = some xs) (h : Q (.int xs.length) S) : wpBi S .len [d] Q := by
  cases d with
  | tup ys => cases hs; exact h
  | kl ys => cases hs; exact h
  | kt ys => cases hs; exact h
  | ref n =>
    show onO (seqOf S (.ref n)) _
    rw [hs]
    exact h
  | _ => cases hs
theorem g_seq {S : Store} {d : D} {xs : List D} {Kk : List D → Prop} (hs : seqOf S d = some xs) (h : Kk xs) : onO (seqOf S d) Kk := by
  rw [hs]
  exact h
theorem still_seq {S : Store} {d : D} {xs : List D} (hs : seqOf S d = some xs) : still (some (d, xs)) S := fun p e => by
  cases e
  exact hs
/-! ### refs in answers -/
theorem lt_ints (n : Nat) : ∀ l : List Int, refsLts n (l.map D.int) = true
  | [] => rfl
  | i :: l => by
    rw [List.map_cons]
    unfold refsLts refsLt
    rw [lt_ints n l]
    rfl
theorem ok_t (n : Nat) (l : List Int) : okO n (.val (tupI l)) = true := by
  show refsLt n (tupI l) = true
  unfold tupI refsLt
  exact lt_ints n l
theorem ok_l (n : Nat) (l : List Int) : okO n (.new (l.map .int)) = true := lt_ints n l
theorem ok_i (n : Nat) (i : Int) : okO n (.val (.int i)) = true := rfl
theorem ok_b (n : Nat) (i : Bool) : okO n (.val (.bl i)) = true := rfl

end PD

set_option Elab.async false
set_option linter.all false
set_option maxRecDepth 100000
set_option maxHeartbeats 4000000
namespace PD
open PySem PySem.Spec PyProof.Rows L2
/-! ### what the head tells of a def, of an error's class -/
structure DefF (K : PySem.W.Frag) (x : Str) (st : Stmt) (f : Addr) : Prop where
  ns : PySem.W.nsIn K mainGlobals x = some (some (.ref f))
  fn : ∃ fd, L2.Fun K x x st f fd ∧ fd.defaults = .none
theorem defF_mk {K : PySem.W.Frag} {x : Str} {st : Stmt} {f : Addr} {oc : Value} {od an : Option Addr} {osl : Array (Option Value)} {kV doc pm cdv ct : Value} (a : PySem.W.nsIn K mainGlobals x = some (some (.ref f)))
    (l : K.lookup f = some ⟨oc, od, .func (PySem.W.fnOf x x (defArgs st) (defBody st) (defScope st) .none kV doc pm an cdv ct), osl⟩) (c : PySem.W.codeIn K cdv x = true) (k : PySem.W.keepIn K (.ref f) = true) : DefF K x st f :=
  ⟨a, _, fun_mk l c k, rfl⟩
/-- .. of a def with defaults -/
structure DefD (K : PySem.W.Frag) (x : Str) (st : Stmt) (dvs : List V) (f : Addr) : Prop where
  ns : PySem.W.nsIn K mainGlobals x = some (some (.ref f))
  fn : ∃ fd, FunD K x x (defArgs st) (defBody st) (defScope st) dvs [] f fd
theorem defD_mk {K : PySem.W.Frag} {x : Str} {st : Stmt} {f T : Addr} {dvs : List V} {oc : Value} {od an : Option Addr} {osl : Array (Option Value)} {kV doc pm cdv ct : Value} {o : Obj} {its : List Value} {n : Nat} (a : PySem.W.nsIn K mainGlobals x = some (some (.ref f)))
    (l : K.lookup f = some ⟨oc, od, .func (PySem.W.fnOf x x (defArgs st) (defBody st) (defScope st) (.ref T) kV doc pm an cdv ct), osl⟩) (c : PySem.W.codeIn K cdv x = true) (k : PySem.W.keepIn K (.ref f) = true) (t : K.lookup T = some o) (d : o.data = .seq its.toArray n) (v : Vals dvs its) (hne : dvs ≠ []) : DefD K x st dvs f :=
  ⟨a, _, ⟨⟨oc, od, .ref T, kV, doc, pm, an, cdv, ct, osl, rfl, l, c, .inr ⟨hne, T, o, its, n, rfl, t, d, v⟩, .inl rfl⟩, k⟩⟩
/-- the class x of errors at C, its __init__ at fI -/
structure ExcF (K : PySem.W.Frag) (x qual : Str) (st : Stmt) (fs : List Str) (C fI : Addr) : Prop where
  ns : PySem.W.nsIn K mainGlobals x = some (some (.ref C))
  T : OexC K C
  xf : XfC K C
  kx : KXC K C
  no : ∀ f ∈ fs, PySem.W.findIn K (.ref C) f = some none
  iC : PySem.W.findIn K (.ref C) "__init__" = some (some (.ref fI))
  tI : PySem.W.typeIn K (.ref fI) = some (.type "function")
  fn : ∃ fd, L2.Fun K "__init__" qual st fI fd ∧ fd.defaults = .none
  isC : PySem.W.isClsIn K C = true
theorem excF_mk {K : PySem.W.Frag} {x qual : Str} {st : Stmt} {fs : List Str} {C fI N : Addr} {nm q : Str} {bs bm : List Value} {sn : List Str} {sub : List Value} {ab : Bool} {col : Option Bool} {dd : Option Addr} {k0 k1 k2 k3 k5 : Option Value}
    {oc : Value} {od an : Option Addr} {osl : Array (Option Value)} {kV doc pm cdv ct : Value}
    (h1 : PySem.W.nsIn K mainGlobals x = some (some (.ref C))) (h2 : K.lookup C = some (excClassObj nm q C N bs bm true sn sub ab col dd k0 k1 k2 k3 k5 "ValueError.__new__")) (hbm : PySem.HandSPX.refsVE bm = true) (h3 : PySem.W.findIn K (.ref C) "__setattr__" = some (some (.builtin "object.__setattr__"))) (h4 : PySem.W.subIn K (.ref C) (.type "BaseException") = some true)
    (h5 : PySem.W.typeIn K (.ref C) = some (.type "type")) (h6 : PySem.W.keepIn K (.ref C) = true) (h7 : PySem.W.findIn K (.ref C) "__getattribute__" = some (some (.builtin "BaseException.__getattribute__"))) (h8 : PySem.W.findIn K (.ref C) "__getattr__" = some none) (h9 : PySem.W.hasDictIn K C = true)
    (ha : PySem.W.findIn K (.ref C) "__class__" = some (some (.builtin "object.__class__"))) (hn : PySem.W.specialIn K (.builtin "object.__class__") "__get__" = some (some (.builtin "getset_descriptor.__get__"))) (ht : PySem.W.takesIn K (.builtin "object.__class__") = some true) (hm : PySem.W.mroIn K C (.type "object") = some true)
    (no : ∀ f ∈ fs, PySem.W.findIn K (.ref C) f = some none) (iC : PySem.W.findIn K (.ref C) "__init__" = some (some (.ref fI))) (tI : PySem.W.typeIn K (.ref fI) = some (.type "function"))
    (l : K.lookup fI = some ⟨oc, od, .func (PySem.W.fnOf "__init__" qual (defArgs st) (defBody st) (defScope st) .none kV doc pm an cdv ct), osl⟩) (c : PySem.W.codeIn K cdv qual = true) (k : PySem.W.keepIn K (.ref fI) = true) (isC : PySem.W.isClsIn K C = true) : ExcF K x qual st fs C fI :=
  ⟨h1, ⟨⟨nm, q, N, bs, bm, sn, sub, ab, col, dd, k0, k1, k2, k3, k5, h2, hbm⟩, h3, h4, h5, h6⟩, ⟨h7, h8, h4, h9⟩, ⟨ha, hn, ht, hm⟩, no, iC, tI, ⟨_, fun_mk l c k, rfl⟩, isC⟩
/-- a class of errors that is only named -/
structure ClsF (K : PySem.W.Frag) (x : Str) (C : Addr) : Prop where
  ns : PySem.W.nsIn K mainGlobals x = some (some (.ref C))
  exC : PySem.W.subIn K (.ref C) (.type "BaseException") = some true
  hd : PySem.W.hasDictIn K C = true
  ty : PySem.W.typeIn K (.ref C) = some (.type "type")
/-- a tuple of the module -/
structure TupF (K : PySem.W.Frag) (x : Str) (a : Addr) (vs : List V) : Prop where
  ns : PySem.W.nsIn K mainGlobals x = some (some (.ref a))
  sq : SqM K a vs
theorem tupF_mk {K : PySem.W.Frag} {x : Str} {T : Addr} {vs : List V} {o : Obj} {its : List Value} {n : Nat} (a : PySem.W.nsIn K mainGlobals x = some (some (.ref T))) (t : K.lookup T = some o) (c : o.cls = .type "tuple") (d : o.data = .seq its.toArray n) (hs : its.toArray.size ≤ sizeLine) (v : Vals vs its) : TupF K x T vs :=
  ⟨a, o, its.toArray, n, t, c, d, hs, v⟩
theorem kit_own {K : PySem.W.Frag} {t : Value} {C : Addr} {b : Bool} (hc : (PySem.W.clsIn K C).isSome = true) (ht : PySem.W.typeIn K (.ref C) = some (.type "type")) (hs : PySem.W.subIn K t (.ref C) = some b) (hr0 : PySem.W.subIn K (.ref C) (.ref C) = some true) : PySem.W.kitOne K t (.ref C) = some b := by
  have hr : t = .ref C → b = true := fun z => by
    subst z
    rw [hs] at hr0
    cases hr0
    rfl
  unfold PySem.W.kitOne
  by_cases e : (t == Value.ref C) = true
  · rw [if_pos e, hr (eq_of_beq e)]
  · rw [if_neg e]
    unfold PySem.W.kitCls
    dsimp only
    rw [hc, ht]
    exact hs
theorem kit_ty {K : PySem.W.Frag} {C : Addr} {T : String} {b : Bool} (hk : PySem.W.kitMeta T = true) (hs : PySem.W.subIn K (.ref C) (.type T) = some b) : PySem.W.kitOne K (.ref C) (.type T) = some b := by
  unfold PySem.W.kitOne
  rw [if_neg (by simp)]
  unfold PySem.W.kitCls
  dsimp only
  rw [hk]
  exact hs
theorem _root_.L2.FunD.bindsF {K : PySem.W.Frag} {x qual : Str} {params : Arguments} {body : List Stmt} {scope : Scope} {dvs : List V} {kws : List (Str × V)} {f : Addr} {fd : FuncData} {ps : List Str} (F : FunD K x qual params body scope dvs kws f fd)
    (h : ∀ (dV kV doc pm : Value) (an : Option Addr) (cdv ct : Value) (us : List Value), us.length = ps.length → bindArgs (PySem.W.fnOf x qual params body scope dV kV doc pm an cdv ct) ⟨us, []⟩ = pure (ps.zip us)) : Binds K fd ps [] := by
  obtain ⟨oc, od, dV, kV, doc, pm, an, cdv, ct, osl, rfl, lk, hcd, hD, hK⟩ := F.ex
  exact .all (h dV kV doc pm an cdv ct)
theorem fn_gcD {M : Md} {ca : Nat → Addr} {P : Program} {w : World} {K : PySem.W.Frag} {mg : Str → Option Value} {base : Heap} {i : Nat} (O : MdOk M ca P w K mg base) (D : Done M ca P w K mg base i) {x qual : Str} {st : Stmt} {f : Addr} {fd : FuncData} {N ps : List Str} {fs : List PD.D → Store → Out → Prop} {n : Nat} {db : List DS} {dvs : List V} (F : FunD K x qual (defArgs st) (defBody st) (defScope st) dvs [] f fd) (S : FnScope N ps (defScope st))
    (hc : compSs (compS n (mkCtx (M.gl i) N (defScope st))) (defBody st) = some db) (len : ∀ ds S o, fs ds S o → ds.length = ps.length) (ok : ∀ ds S o, fs ds S o → refsLts S.length ds = true → WfS S → okO S.length o = true)
    (vc : ∀ ds S o, fs ds S o → wpSs (M.C (excO S o)) db (retO S o) (startD N ds) S) : FnOk P w K mg base (L2.CX P w) (2 * i + 3) f fd ps (LSp K ca (FnS fs)) := by
  refine F.ok S (fun vs H Q E h => ?_) (fun cdv A outer s H vs Q E hr h => body_gc O D S.nd hc ok vc hr h)
  obtain ⟨S, β, ds, hs, r, Q0, E0, h, hQ, hE⟩ := h
  obtain ⟨o, ho, _⟩ := h
  rw [← r.length]
  exact len _ _ _ ho
theorem fun_df {K : PySem.W.Frag} {x qual : Str} {st : Stmt} {f : Addr} {fd : FuncData} (F : L2.Fun K x qual st f fd) {ps : List Str}
    (h : ∀ (kV doc pm : Value) (an : Option Addr) (cdv ct : Value) (us : List Value), us.length = ps.length → bindArgs (PySem.W.fnOf x qual (defArgs st) (defBody st) (defScope st) .none kV doc pm an cdv ct) ⟨us, []⟩ = pure (ps.zip us)) : Binds K fd ps [] := F.binds h
end PD
namespace PD
open PySem PySem.Spec PyProof.Rows L2
def pTodo : List D → Store → Out → Prop := fun _ _ _ => False
def starP (n : Nat) (p : List D → Store → Out → Prop) : List D → Store → Out → Prop := fun es S o => (n ≤ es.length ∧ es.length ≤ sizeLine) ∧ p (es.take n ++ [.tup (es.drop n)]) S o
def dflP (dds : List D) (p : List D → Store → Out → Prop) : List D → Store → Out → Prop := fun es S o => p es S o ∨ p (es ++ dds) S o
def caOf (l : List Addr) : Nat → Addr := fun i => l.getD i 0
theorem lsp_imp {K : PySem.W.Frag} {ca : Nat → Addr} {sp sp' : DSp} (h : ∀ es S Q E, sp' es S Q E → sp es S Q E) (vs : List V) (H : Hp) (Q : VK) (E : XK) (q : LSp K ca sp' vs H Q E) : LSp K ca sp vs H Q E := by
  obtain ⟨S, β, ds, hs, r, Q0, E0, q, hQ, hE⟩ := q
  exact ⟨S, β, ds, hs, r, Q0, E0, h _ _ _ _ q, hQ, hE⟩
theorem fn_dflP {P : Program} {w : World} {K : PySem.W.Frag} {mg : Str → Option Value} {base : Heap} {ca : Nat → Addr} {f : Addr} {k : Nat} {p : List PD.D → Store → Out → Prop} {dds : List PD.D} (F : FnR P w K mg base (L2.CX P w) k f (LSp K ca fun es S Q E => FnS p (es ++ []) S Q E)) (F' : FnR P w K mg base (L2.CX P w) k f (LSp K ca fun es S Q E => FnS p (es ++ dds) S Q E)) :
    FnR P w K mg base (L2.CX P w) k f (LSp K ca (FnS (dflP dds p))) := (fn_or F F').imp fun vs H Q E => lsp_imp (fun es S Q E ⟨o, h, q⟩ => h.elim (fun h => .inl ⟨o, by rw [List.append_nil]; exact h, q⟩) fun h => .inr ⟨o, h, q⟩) vs H Q E
/-- the law's promise -/
def spLawR (K : PySem.W.Frag) : Sp := fun vs H Q _ => ∃ (a : Addr) (ns : List Int), vs = [.ref a] ∧ SqR K H a (ns.map V.int) ∧ ns.length ≤ 63 ∧ ∀ H', Q (.bl true) H'
def pLaw : List D → Store → Out → Prop := fun ds _ o => ∃ ns : List Int, ds = [.kl (ns.map .int)] ∧ ns.length ≤ 63 ∧ o = .val (.bl true)
theorem rds_ints {K : PySem.W.Frag} {ca : Nat → Addr} {H : Hp} {β : List Addr} : ∀ l : List Int, RDs K ca H β (l.map D.int) (l.map V.int)
  | [] => .nil
  | i :: l => .cons (.int i) (rds_ints l)
theorem law_sp {K : PySem.W.Frag} (ca : Nat → Addr) (vs : List V) (H : Hp) (Q : VK) (E : XK) (h : spLawR K vs H Q E) : LSp K ca (FnS pLaw) vs H Q E := by
  obtain ⟨a, ns, rfl, hq, hl, k⟩ := h
  refine ⟨[], [], [.kl (ns.map .int)], ⟨rfl, List.nodup_nil, fun n o a h => by simp at h⟩, .cons (.kl hq (rds_ints ns)) .nil, ?_⟩
  rw [callC_FnS]
  refine ⟨_, ⟨ns, rfl, hl, rfl⟩, fun β' v H' s g r => ?_⟩
  cases r
  exact k H'
theorem law_only {K : PySem.W.Frag} {H : Hp} {a : Addr} {ns : List Int} (hO : Only H) (h : SqL K H a (ns.map V.int)) (hl : ns.length ≤ 63) : spLawR K [.ref a] H (fun v _ => v = .bl true) fun _ _ _ => False := by
  refine ⟨a, ns, rfl, ?_, hl, fun _ => rfl⟩
  rcases h with (h | ⟨o, h⟩) | h
  · rcases hO a with z | ⟨o, xs, z⟩
    · rw [z] at h; cases h
    · rw [z] at h; cases h
  · exact .inl ⟨o, h⟩
  · exact .inr h
theorem cx_false {P : Program} {w : World} {H : Hp} {s : Shared} {e : Value} {s' : Shared} (h : L2.CX P w [] H s (fun _ _ _ => False) e s') : False := by
  obtain ⟨_, _, _, _, _, _, _, _, _, _, _, _, z⟩ := h
  exact z
theorem exm_own {K : PySem.W.Frag} {cls : Value} {C : Addr} {b : Bool} (h1 : PySem.W.subIn K (.ref C) (.type "BaseException") = some true) (hd : PySem.W.hasDictIn K C = true) (ht : PySem.W.typeIn K (.ref C) = some (.type "type")) (h4 : PySem.W.subIn K cls (.ref C) = some b) : PySem.W.exmOne K cls (.ref C) = some b := by
  have hc : (PySem.W.clsIn K C).isSome = true := by
    obtain ⟨cd, hc, _⟩ := PySem.W.any_some hd
    rw [hc]
    rfl
  unfold PySem.W.exmOne PySem.W.kitCls
  rw [h1]
  dsimp only
  rw [hc, ht]
  exact h4
theorem exm_ty {K : PySem.W.Frag} {cls : Value} {T : String} {b : Bool} (h1 : PySem.W.subIn K (.type T) (.type "BaseException") = some true) (hk : PySem.W.kitMeta T = true) (h4 : PySem.W.subIn K cls (.type T) = some b) : PySem.W.exmOne K cls (.type T) = some b := by
  unfold PySem.W.exmOne PySem.W.kitCls
  rw [h1]
  dsimp only
  rw [hk]
  exact h4
theorem cls_some {K : PySem.W.Frag} {C : Addr} (h : PySem.W.hasDictIn K C = true) : (PySem.W.clsIn K C).isSome = true := by
  obtain ⟨cd, hc, _⟩ := PySem.W.any_some h
  rw [hc]
  rfl
end PD

set_option Elab.async false
set_option linter.all false
set_option maxRecDepth 100000
set_option maxHeartbeats 1000000
namespace PD
open PySem
/-! ### data: ==, in -/
mutual
theorem eqv_refl : ∀ d : PyData, PyData.plain d = true → PyData.eqv d d = true
  | .none, _ => by unfold PyData.eqv; rfl
  | .bool b, _ => by unfold PyData.eqv; exact beq_self_eq_true b
  | .int b, _ => by unfold PyData.eqv; exact beq_self_eq_true b
  | .str b, _ => by unfold PyData.eqv; exact beq_self_eq_true b
  | .list xs, h => by
    unfold PyData.eqv
    unfold PyData.plain at h
    exact eqvAll_refl xs h
  | .tuple xs, h => by
    unfold PyData.eqv
    unfold PyData.plain at h
    exact eqvAll_refl xs h
  | .dict _, h => by unfold PyData.plain at h; cases h
theorem eqvAll_refl : ∀ ds : List PyData, PyData.plainAll ds = true → PyData.eqvAll ds ds = true
  | [], _ => by unfold PyData.eqvAll; rfl
  | x :: xs, h => by
    unfold PyData.plainAll at h
    obtain ⟨h1, h2⟩ := Bool.and_eq_true_iff.mp h
    unfold PyData.eqvAll
    rw [eqv_refl x h1, eqvAll_refl xs h2]
    rfl
end
theorem eqD_same {S : Store} {a b : D} {x : PyData} (ha : toPy S pyF a = some x) (hb : toPy S pyF b = some x) (hp : PyData.plain x = true) : eqD S a b = some true := by
  unfold eqD
  rw [ha, hb]
  dsimp only
  rw [eqv_refl x hp]
/-- a value without places, as data -/
inductive Flat : D → PyData → Prop
  | non : Flat .non .none
  | bl (b : Bool) : Flat (.bl b) (.bool b)
  | int (i : Int) : Flat (.int i) (.int i)
  | str (x : Str) : Flat (.str x) (.str x)
theorem Flat.py {d : D} {p : PyData} (h : Flat d p) (S : Store) (k : Nat) : toPy S (k + 1) d = some p := by cases h <;> rfl
theorem Flat.pl {d : D} {p : PyData} (h : Flat d p) : PyData.plain p = true := by cases h <;> rfl
theorem py_map {S : Store} {k : Nat} {α : Type} (f : α → D) (g : α → PyData) (h : ∀ a, toPy S k (f a) = some (g a)) : ∀ l : List α, mapO (toPy S k) (l.map f) = some (l.map g)
  | [] => rfl
  | a :: l => by
    have ih := py_map f g h l
    rw [List.map_cons]
    unfold mapO
    rw [ih, h a]
    rfl
theorem plain_map {α : Type} (g : α → PyData) (h : ∀ a, PyData.plain (g a) = true) : ∀ l : List α, PyData.plainAll (l.map g) = true
  | [] => rfl
  | a :: l => by
    rw [List.map_cons]
    unfold PyData.plainAll
    rw [plain_map g h l, h a]
    rfl
theorem py_ints (S : Store) (k : Nat) (l : List Int) : mapO (toPy S (k + 1)) (l.map D.int) = some (l.map PyData.int) := py_map _ _ (fun _ => rfl) l
theorem plain_ints (l : List Int) : PyData.plainAll (l.map PyData.int) = true := plain_map _ (fun _ => rfl) l
def pyT (f : List Int) : PyData := .tuple (f.map PyData.int)
theorem py_tupI (S : Store) (k : Nat) (f : List Int) : toPy S (k + 2) (tupI f) = some (pyT f) := by
  show (mapO (toPy S (k + 1)) (f.map D.int)).map PyData.tuple = _
  rw [py_ints]
  rfl
theorem plain_pyT (f : List Int) : PyData.plain (pyT f) = true := by
  unfold pyT PyData.plain
  exact plain_ints f
theorem py_fs (S : Store) (k : Nat) (l : List (List Int)) : mapO (toPy S (k + 2)) (l.map tupI) = some (l.map pyT) := py_map _ _ (fun f => py_tupI S k f) l
theorem plain_fs (l : List (List Int)) : PyData.plainAll (l.map pyT) = true := plain_map _ plain_pyT l
theorem py_ref {S : Store} {n k : Nat} {xs : List D} {ys : List PyData} (h : S[n]? = some (.lst xs)) (hy : mapO (toPy S k) xs = some ys) : toPy S (k + 1) (.ref n) = some (.list ys) := by
  show (match seqOf S (.ref n) with
    | some xs => (mapO (toPy S k) xs).map PyData.list
    | none => none) = _
  rw [seq_ref h]
  dsimp only
  rw [hy]
  rfl
theorem eqvAll_ints : ∀ f g : List Int, PyData.eqvAll (f.map PyData.int) (g.map PyData.int) = decide (f = g)
  | [], [] => by unfold PyData.eqvAll; simp
  | [], y :: g => by simp only [List.map_nil, List.map_cons]; unfold PyData.eqvAll; simp
  | x :: f, [] => by simp only [List.map_nil, List.map_cons]; unfold PyData.eqvAll; simp
  | x :: f, y :: g => by
    simp only [List.map_cons]
    unfold PyData.eqvAll
    rw [eqvAll_ints f g]
    unfold PyData.eqv
    simp only [List.cons.injEq, Bool.decide_and]
    congr 1
theorem eqv_pyT (f g : List Int) : PyData.eqv (pyT f) (pyT g) = decide (f = g) := by
  unfold pyT PyData.eqv
  exact eqvAll_ints f g
section
variable {S : Store} {Q : DQ} {Kk : Bool → Prop} {a b : Bool} {x y : Str} {f g l : List Int} {n m : Nat} {xs ys : List D} {fs : List (List Int)} {d : D}
theorem c_eqb (h : Kk (a == b)) : onO (cmpD S .eq (.bl a) (.bl b)) Kk := by
  have e : cmpD S .eq (.bl a) (.bl b) = some (a == b) := by
    show some (PyData.eqv (.bool a) (.bool b)) = _
    unfold PyData.eqv
    rfl
  rw [e]
  exact h
theorem c_neb (h : Kk (!(a == b))) : onO (cmpD S .ne (.bl a) (.bl b)) Kk := by
  have e : cmpD S .ne (.bl a) (.bl b) = some (!(a == b)) := by
    show some (!PyData.eqv (.bool a) (.bool b)) = _
    unfold PyData.eqv
    rfl
  rw [e]
  exact h
theorem c_eqs (h : Kk (decide (x = y))) : onO (cmpD S .eq (.str x) (.str y)) Kk := by
  have e : cmpD S .eq (.str x) (.str y) = some (decide (x = y)) := by
    show some (PyData.eqv (.str x) (.str y)) = _
    unfold PyData.eqv
    rw [Bool.beq_eq_decide_eq]
  rw [e]
  exact h
theorem c_nes (h : Kk (!decide (x = y))) : onO (cmpD S .ne (.str x) (.str y)) Kk := by
  have e : cmpD S .ne (.str x) (.str y) = some (!decide (x = y)) := by
    show some (!PyData.eqv (.str x) (.str y)) = _
    unfold PyData.eqv
    rw [Bool.beq_eq_decide_eq]
  rw [e]
  exact h
theorem c_eqt (h : Kk (decide (f = g))) : onO (cmpD S .eq (tupI f) (tupI g)) Kk := by
  have e : cmpD S .eq (tupI f) (tupI g) = some (decide (f = g)) := by
    show eqD S (tupI f) (tupI g) = _
    unfold eqD
    have h1 : toPy S pyF (tupI f) = some (pyT f) := py_tupI S 38 f
    have h2 : toPy S pyF (tupI g) = some (pyT g) := py_tupI S 38 g
    rw [h1, h2]
    dsimp only
    rw [eqv_pyT]
  rw [e]
  exact h
theorem c_net (h : Kk (!decide (f = g))) : onO (cmpD S .ne (tupI f) (tupI g)) Kk := by
  have e : cmpD S .ne (tupI f) (tupI g) = some (!decide (f = g)) := by
    show (eqD S (tupI f) (tupI g)).map (!·) = _
    unfold eqD
    have h1 : toPy S pyF (tupI f) = some (pyT f) := py_tupI S 38 f
    have h2 : toPy S pyF (tupI g) = some (pyT g) := py_tupI S 38 g
    rw [h1, h2]
    dsimp only
    rw [eqv_pyT]
    rfl
  rw [e]
  exact h
theorem c_isN (h : Kk (isNon d)) : onO (cmpD S .is d .non) Kk := by
  have e : cmpD S .is d .non = some (isNon d) := by
    show isD d .non = _
    cases d <;> rfl
  rw [e]
  exact h
theorem c_isnN (h : Kk (!isNon d)) : onO (cmpD S .isn d .non) Kk := by
  have e : cmpD S .isn d .non = some (!isNon d) := by
    show (isD d .non).map (!·) = _
    cases d <;> rfl
  rw [e]
  exact h
theorem c_ne_ll (hn : S[n]? = some (lstI l)) (hm : S[m]? = some (lstI l)) (h : Kk false) : onO (cmpD S .ne (.ref n) (.ref m)) Kk := by
  have e : cmpD S .ne (.ref n) (.ref m) = some false := by
    show (eqD S (.ref n) (.ref m)).map (!·) = _
    have h1 := py_ref hn (py_ints S 38 l)
    have h2 := py_ref hm (py_ints S 38 l)
    rw [eqD_same h1 h2 (plain_ints l)]
    rfl
  rw [e]
  exact h
theorem c_ne_fs (hn : S[n]? = some (.lst (fs.map tupI))) (hm : S[m]? = some (.lst (fs.map tupI))) (h : Kk false) : onO (cmpD S .ne (.ref n) (.ref m)) Kk := by
  have e : cmpD S .ne (.ref n) (.ref m) = some false := by
    show (eqD S (.ref n) (.ref m)).map (!·) = _
    have h1 := py_ref hn (py_fs S 37 fs)
    have h2 := py_ref hm (py_fs S 37 fs)
    rw [eqD_same h1 h2 (plain_fs fs)]
    rfl
  rw [e]
  exact h
/-- two values that read as the same data -/
theorem c_ne_same {e : D} {p : PyData} (hd : toPy S pyF d = some p) (he : toPy S pyF e = some p) (hp : PyData.plain p = true) (h : Kk false) : onO (cmpD S .ne d e) Kk := by
  have e : cmpD S .ne d e = some false := by
    show (eqD S d e).map (!·) = _
    rw [eqD_same hd he hp]
    rfl
  rw [e]
  exact h
theorem c_eq_same {e : D} {p : PyData} (hd : toPy S pyF d = some p) (he : toPy S pyF e = some p) (hp : PyData.plain p = true) (h : Kk true) : onO (cmpD S .eq d e) Kk := by
  have e : cmpD S .eq d e = some true := by
    show eqD S d e = _
    rw [eqD_same hd he hp]
  rw [e]
  exact h
/-! lists of anything -/
theorem m_l2 {i j : Int} (h : Q (.ref S.length) (S ++ [lstI [i, j]])) : mkL [.int i, .int j] S Q := ⟨by show 2 ≤ sizeLine; decide, h⟩

theorem x_bm {P : Prop} (h : S[n]? = some (.lst xs)) (k : P) : ∃ (n' : Nat) (xs' : List D), D.ref n = .ref n' ∧ S[n']? = some (.lst xs') ∧ P := ⟨n, xs, rfl, h, k⟩

theorem p_lg (ha : S[n]? = some (.lst xs)) (hl : xs.length ≤ 16000000) (h : Q .non (S.set n (.lst (xs ++ [d])))) : wpBm S .append (.ref n) [d] Q := r_app ha (big' _ hl) h
theorem p_eg (hl : xs.length ≤ 16000000) (h : Q .non (S ++ [.lst (xs ++ [d])])) : wpBm (S ++ [.lst xs]) .append (.ref S.length) [d] Q := by
  refine p_lg (get_last S _) hl ?_
  rw [set_last]
  exact h
theorem t_lg (ha : S[n]? = some (.lst xs)) (h : Q (.tup xs) S) : wpBi S .tuple [.ref n] Q := by
  show onO (seqOf S (.ref n)) _
  rw [seq_ref ha]
  exact h
theorem t_tg (h : Q (.tup xs) S) : wpBi S .tuple [.tup xs] Q := h
theorem l_tg (h : Q (.ref S.length) (S ++ [.lst xs])) : wpBi S .list [.tup xs] Q := h
theorem g_tg {K : List D → Prop} (h : K xs) : onO (seqOf S (.tup xs)) K := h
theorem x_ends {n : Option Nat} {B : DEnds} {e : DEnv} {S : Store} (h : B.nx (setN n e) S) : (endsN n B).nx e S := h
/-- what a try's body raises is caught -/
theorem x_tr {C : SC} {k : Nat} {n : Option Nat} {B : DEnds} {q : List DS} {er : Err} {env : DEnv} {S : Store} (hk : C.kn er.cls (er.fs.map (·.1)) = true) (hs : C.sub er.cls k = true) (hn : inN n env) (h : wpSs { C with exn := some er, xq := fun _ _ _ => False } q (endsN n B) (setN n env) S) :
    C.kn er.cls (er.fs.map (·.1)) = true ∧ inN n env ∧ (C.sub er.cls k = true → wpSs { C with exn := some er, xq := fun _ _ _ => False } q (endsN n B) (setN n env) S) ∧ (C.sub er.cls k = false → C.xq er env S) :=
  ⟨hk, hn, fun _ => h, fun z => by rw [hs] at z; cases z⟩
end
end PD

set_option Elab.async false
set_option linter.all false
set_option maxRecDepth 100000
set_option maxHeartbeats 1000000
namespace PD
open PySem
/-! ### several new objects -/
/-- lists in a list -/
def listsS (n : Nat) (rows : List (List D)) : List SO := rows.map .lst ++ [.lst ((List.range rows.length).map fun k => .ref (n + k))]
theorem renD_int (n : Nat) (ρ : List Nat) : ∀ l : List Int, renDs n ρ (l.map D.int) = l.map D.int
  | [] => rfl
  | i :: l => by
    rw [List.map_cons]
    unfold renDs renD
    rw [renD_int n ρ l]
theorem renD_tupI (n : Nat) (ρ : List Nat) (l : List Int) : renD n ρ (tupI l) = tupI l := by
  unfold tupI renD
  rw [renD_int]
/-- a comprehension, by an invariant of the turns -/
theorem lc_ind {step : D → Store → (Option D → Store → Prop) → Prop} (hm : ∀ d S (K K' : Option D → Store → Prop), (∀ o S, K o S → K' o S) → step d S K → step d S K') {src : Src} {items : List D} {n : Nat} {S : Store} {Kn : Store → Prop} (I : Nat → Store → Prop) (h0 : I 0 S)
    (hs : ∀ (k : Nat) (d : D) (S2 : Store), items[k]? = some d → I k S2 → step d S2 fun o S3 => still src S3 ∧ match o with | some y => ∃ acc, S3[n]? = some (.lst acc) ∧ acc.length < sizeLine ∧ I (k + 1) (S3.set n (.lst (acc ++ [y]))) | none => I (k + 1) S3)
    (hK : ∀ S2, I items.length S2 → Kn S2) : lcGo src n step items S Kn := by
  have key : ∀ (l : List D) (k : Nat) (S2 : Store), items.drop k = l → k ≤ items.length → I k S2 → lcGo src n step l S2 Kn := by
    intro l
    induction l with
    | nil =>
      intro k S2 hk hk2 hi
      have : items.length ≤ k := List.drop_eq_nil_iff.mp hk
      have e : k = items.length := by omega
      subst e
      unfold lcGo
      exact hK _ hi
    | cons d r ih =>
      intro k S2 hk hk2 hi
      have hlt : k < items.length := by
        rcases Nat.lt_or_ge k items.length with z | z
        · exact z
        · rw [List.drop_eq_nil_iff.mpr z] at hk; cases hk
      have hd := List.drop_eq_getElem_cons hlt
      rw [hk] at hd
      injection hd with hd1 hd2
      have hi2 : (items[k]? : Option D) = some d := by rw [hd1]; exact List.getElem?_eq_getElem hlt
      unfold lcGo
      refine hm _ _ _ _ (fun o S' ⟨h1, h2⟩ => ⟨h1, ?_⟩) (hs k d S2 hi2 hi)
      cases o with
      | none => exact ih (k + 1) _ hd2.symm hlt h2
      | some y =>
        obtain ⟨acc, ha, hl, hI⟩ := h2
        dsimp only
        rw [ha]
        exact ⟨hl, ih (k + 1) _ hd2.symm hlt hI⟩
  exact key items 0 S rfl (Nat.zero_le _) h0
theorem lstep_m (C : SC) (own : List Nat) (t : DT) (c : DO) (e : DE) (env : DEnv) : ∀ d S (K K' : Option D → Store → Prop), (∀ o S, K o S → K' o S) → lcStep C own t c e env d S K → lcStep C own t c e env d S K' := fun d S K K' h q => lcStep_mono h q
theorem keep_id {S L : Store} (h : ∀ (i : Nat) (o : SO), L[i]? = some o → renS S.length ((List.range L.length).map fun k => S.length + k) o = o) : KeepN S (S ++ L) L ((List.range L.length).map fun k => S.length + k) where
  len := by rw [List.length_map, List.length_range]
  nd := by
    refine List.Pairwise.map _ (fun a b hab => ?_) List.nodup_range
    omega
  ge := fun j hj => by
    obtain ⟨a, _, rfl⟩ := List.mem_map.mp hj
    omega
  ob := fun i o j h1 h2 => by
    rw [List.getElem?_map] at h2
    obtain ⟨a, ha, rfl⟩ := Option.map_eq_some_iff.mp h2
    have hi : i < L.length := by
      rcases Nat.lt_or_ge i L.length with z | z
      · exact z
      · rw [List.getElem?_eq_none z] at h1; cases h1
    rw [List.getElem?_range hi] at ha
    cases ha
    rw [h i o h1, List.getElem?_append_right (by omega), Nat.add_sub_cancel_left]
    exact h1
theorem ren_self (n m k : Nat) (h : k < m) : renN n ((List.range m).map fun k => n + k) (n + k) = n + k := by
  unfold renN
  rw [if_neg (by omega), Nat.add_sub_cancel_left, List.getD_eq_getElem?_getD, List.getElem?_map, List.getElem?_range h]
  rfl
theorem listsS_len (n : Nat) (rows : List (List D)) : (listsS n rows).length = rows.length + 1 := by unfold listsS; rw [List.length_append, List.length_map]; rfl
theorem listsS_get {n : Nat} {rows : List (List D)} {k : Nat} {l : List D} (h : rows[k]? = some l) : (listsS n rows)[k]? = some (.lst l) := by
  have hk : k < rows.length := by
    rcases Nat.lt_or_ge k rows.length with z | z
    · exact z
    · rw [List.getElem?_eq_none z] at h; cases h
  unfold listsS
  rw [List.getElem?_append_left (by rw [List.length_map]; exact hk), List.getElem?_map, h]
  rfl
theorem listsS_last (n : Nat) (rows : List (List D)) : (listsS n rows)[rows.length]? = some (.lst ((List.range rows.length).map fun k => .ref (n + k))) := by
  unfold listsS
  rw [List.getElem?_append_right (by rw [List.length_map]; exact Nat.le_refl _), List.length_map, Nat.sub_self]
  rfl
theorem listsS_in {S : Store} {rows : List (List D)} {k : Nat} {l : List D} (h : rows[k]? = some l) : (S ++ listsS S.length rows)[S.length + k]? = some (.lst l) := by
  rw [List.getElem?_append_right (by omega), Nat.add_sub_cancel_left]
  exact listsS_get h
theorem listsS_out {S : Store} {rows : List (List D)} : (S ++ listsS S.length rows)[S.length + rows.length]? = some (.lst ((List.range rows.length).map fun k => .ref (S.length + k))) := by
  rw [List.getElem?_append_right (by omega), Nat.add_sub_cancel_left]
  exact listsS_last _ _
/-- what stands in S' at ρ are these lists -/
theorem keep_lists' {S S' : Store} {rows : List (List D)} {ρ : List Nat} (h : ∀ l ∈ rows, ∀ n ρ, renDs n ρ l = l) (hl : ρ.length = rows.length + 1) (hn : ρ.Nodup) (hg : ∀ j ∈ ρ, S.length ≤ j) (hi : ∀ (k : Nat) (l : List D), rows[k]? = some l → ∃ j, ρ[k]? = some j ∧ S'[j]? = some (.lst l)) (ho : ∃ j, ρ[rows.length]? = some j ∧ S'[j]? = some (.lst ((List.range rows.length).map fun k => .ref (ρ.getD k 0)))) : KeepN S S' (listsS S.length rows) ρ where
  len := by rw [hl, listsS_len]
  nd := hn
  ge := hg
  ob := fun i o j h1 h2 => by
    rcases Nat.lt_or_ge i rows.length with z | z
    · have hr := List.getElem?_eq_getElem z
      rw [listsS_get hr] at h1
      cases h1
      obtain ⟨j', e1, e2⟩ := hi i _ hr
      rw [e1] at h2
      cases h2
      show _ = some (SO.lst (renDs _ _ _))
      rw [h _ (List.getElem_mem z)]
      exact e2
    · have e : i = rows.length := by
        rcases Nat.lt_or_ge i (listsS S.length rows).length with w | w
        · rw [listsS_len] at w
          omega
        · rw [List.getElem?_eq_none w] at h1; cases h1
      rw [e, listsS_last] at h1
      cases h1
      obtain ⟨j', e1, e2⟩ := ho
      rw [e] at h2
      rw [e1] at h2
      cases h2
      rw [e2]
      show _ = some (SO.lst (renDs _ _ _))
      rw [renDs_map, List.map_map]
      congr 2
      refine List.map_congr_left fun k hk => ?_
      show _ = D.ref (renN _ _ _)
      unfold renN
      rw [if_neg (by omega), Nat.add_sub_cancel_left]
theorem keep_lists {S : Store} {rows : List (List D)} (h : ∀ l ∈ rows, ∀ n ρ, renDs n ρ l = l) : KeepN S (S ++ listsS S.length rows) (listsS S.length rows) ((List.range (listsS S.length rows).length).map fun k => S.length + k) := keep_id fun i o ho => by
  rcases Nat.lt_or_ge i rows.length with z | z
  · rw [listsS_get (List.getElem?_eq_getElem z)] at ho
    cases ho
    show SO.lst (renDs _ _ _) = _
    rw [h _ (List.getElem_mem z)]
  · have e : i = rows.length := by
      rcases Nat.lt_or_ge i (listsS S.length rows).length with w | w
      · rw [listsS_len] at w
        omega
      · rw [List.getElem?_eq_none w] at ho; cases ho
    rw [e, listsS_last] at ho
    cases ho
    show SO.lst (renDs _ _ _) = _
    rw [renDs_map, List.map_map]
    congr 1
    refine List.map_congr_left fun k hk => ?_
    have hk := List.mem_range.mp hk
    show D.ref (renN _ _ _) = _
    rw [ren_self _ _ _ (by rw [listsS_len]; omega)]
theorem o_lists {S : Store} {rows : List (List D)} {d : D} {m : Nat} (hm : m = rows.length) (h : ∀ l ∈ rows, ∀ n ρ, renDs n ρ l = l) (hd : d = .ref (S.length + m)) : (retO S (.nws (listsS S.length rows) (.ref (S.length + m)))).rt d (S ++ listsS S.length rows) := by
  subst hm hd
  refine o_nws (Ext.app _ _) (keep_lists h) ?_
  show _ = D.ref (renN _ _ _)
  rw [ren_self _ _ _ (by rw [listsS_len]; omega)]
end PD

set_option Elab.async false
set_option linter.all false
set_option maxRecDepth 100000
set_option maxHeartbeats 4000000
namespace PD
open PySem
/-! ### {}, bit_length, attributes, own methods, own classes -/
section
variable {C : SC} {B : DEnds} {env : DEnv} {S : Store} {Q : DQ} {a e : DE} {es : DEs}
def bitsC (S : Store) (x : D) (Q : DQ) : Prop := ∃ i, x = .int i ∧ Q (.int (Builtin.Int.intBits i : Nat)) S
theorem r_bits (h : wpE C a env S fun x S1 => bitsC S1 x Q) : wpE C (.bits a) env S Q := by
  unfold wpE
  refine wpE_m _ _ _ _ _ _ (fun x S1 h => ?_) h
  obtain ⟨i, rfl, h⟩ := h
  exact h
theorem b_bits {i : Int} (h : Q (.int (Builtin.Int.intBits i : Nat)) S) : bitsC S (.int i) Q := ⟨i, rfl, h⟩
theorem r_dnew (h : Q (.ref S.length) (S ++ [.dct []])) : wpE C .dnew env S Q := by unfold wpE; exact h
def fldC (C : SC) (S : Store) (x : D) (f : Str) (Q : DQ) : Prop := ∃ n c fs d, x = .ref n ∧ S[n]? = some (.ins c fs) ∧ ((fs.lookup f = some d ∧ C.noA c f = true) ∨ (fs.lookup f = none ∧ C.con c f = some d)) ∧ Q d S
theorem r_fld {f : Str} (h : wpE C a env S fun x S1 => fldC C S1 x f Q) : wpE C (.fld a f) env S Q := by
  unfold wpE
  refine wpE_m _ _ _ _ _ _ (fun x S1 h => ?_) h
  obtain ⟨n, c, fs, d, rfl, h1, h2, h3⟩ := h
  dsimp only
  rw [h1]
  dsimp only
  rcases h2 with ⟨h2, h4⟩ | ⟨h2, h4⟩
  · rw [h2]
    exact ⟨h4, h3⟩
  · rw [h2]
    dsimp only
    rw [h4]
    exact h3
theorem f_fld {n c : Nat} {fs : List (Str × D)} {d : D} {f : Str} (h1 : S[n]? = some (.ins c fs)) (h2 : fs.lookup f = some d) (h3 : C.noA c f = true) (h : Q d S) : fldC C S (.ref n) f Q := ⟨n, c, fs, d, rfl, h1, .inl ⟨h2, h3⟩, h⟩
theorem f_con {n c : Nat} {fs : List (Str × D)} {d : D} {f : Str} (h1 : S[n]? = some (.ins c fs)) (h2 : fs.lookup f = none) (h3 : C.con c f = some d) (h : Q d S) : fldC C S (.ref n) f Q := ⟨n, c, fs, d, rfl, h1, .inr ⟨h2, h3⟩, h⟩
/-- a call of a method -/
def mthC (C : SC) (m : Str) (tb : List (Nat × Nat)) (es : DEs) (env : DEnv) (S : Store) (x : D) (Q : DQ) : Prop := ∃ n c fs i g, x = .ref n ∧ S[n]? = some (.ins c fs) ∧ fs.lookup m = none ∧ tb.lookup c = some i ∧ C.sp i = FnS g ∧
  wpEs C es env S fun ds S2 => FnS g (x :: ds) S2 Q fun er S' => C.xq er env S'
theorem r_mth {m : Str} {tb : List (Nat × Nat)} (h : wpE C a env S fun x S1 => mthC C m tb es env S1 x Q) : wpE C (.mth m tb a es) env S Q := by
  unfold wpE
  refine wpE_m _ _ _ _ _ _ (fun x S1 h => ?_) h
  obtain ⟨n, c, fs, i, g, rfl, h1, h2, h3, h4, h5⟩ := h
  dsimp only
  rw [h1]
  refine ⟨h2, ?_⟩
  rw [h3]
  refine wpEs_m _ _ _ _ _ _ (fun ds S2 z => ?_) h5
  rw [h4, callC_FnS]
  exact z
theorem t_mth {m : Str} {tb : List (Nat × Nat)} {n c i : Nat} {fs : List (Str × D)} {g : List D → Store → Out → Prop} (h1 : S[n]? = some (.ins c fs)) (h2 : fs.lookup m = none) (h3 : tb.lookup c = some i) (h4 : C.sp i = FnS g)
    (h : wpEs C es env S fun ds S2 => FnS g (.ref n :: ds) S2 Q fun er S' => C.xq er env S') : mthC C m tb es env S (.ref n) Q := ⟨n, c, fs, i, g, rfl, h1, h2, h3, h4, h⟩
/-- what an __init__ leaves: the fields, or an error -/
inductive IOut where
  | ok (fs : List (Str × D)) | exc (er : Err)
/-- the promise of an __init__: of the arguments and the store ahead of the new instance -/
def IniS (c : Nat) (p : List D → Store → IOut → Prop) : DSp := fun ds S Q E => ∃ S0 args o, ds = .ref S0.length :: args ∧ S = S0 ++ [.ins c []] ∧ p args S0 o ∧ match o with
  | .ok fs => ∀ G : Store, Q .non (S0 ++ [.ins c fs] ++ G)
  | .exc er => ∀ S', Ext S0 S' → E er S'
def iniE (S0 : Store) (o : IOut) : EQ := fun er S' => Ext S0 S' ∧ o = .exc er
def iniQ (S0 : Store) (c : Nat) (o : IOut) : DQ := fun d S' => d = .non ∧ Ext S0 S' ∧ ∃ fs, o = .ok fs ∧ S'[S0.length]? = some (.ins c fs)
theorem ext_ins {S0 S' : Store} {o : SO} (h : Ext S0 S') (h2 : S'[S0.length]? = some o) : ∃ G, S' = S0 ++ [o] ++ G := by
  refine ⟨S'.drop (S0.length + 1), ?_⟩
  have hl : S0.length < S'.length := by
    rcases Nat.lt_or_ge S0.length S'.length with z | z
    · exact z
    · rw [List.getElem?_eq_none z] at h2; cases h2
  refine List.ext_getElem? fun i => ?_
  rcases Nat.lt_trichotomy i S0.length with z | z | z
  · rw [List.append_assoc, List.getElem?_append_left z, h.2 i z]
  · subst z
    rw [h2, List.append_assoc, List.getElem?_append_right (Nat.le_refl _), Nat.sub_self]
    rfl
  · rw [List.append_assoc, List.getElem?_append_right (by omega), List.getElem?_append_right (by show 1 ≤ i - S0.length; omega), List.getElem?_drop]
    congr 1
    show i = S0.length + 1 + (i - S0.length - 1)
    omega
/-- an __init__ keeps its promise -/
theorem vc_ini {M : Md} {c : Nat} {p : List D → Store → IOut → Prop} {db : List DS} {N : List Str} (h : ∀ args S0 o, p args S0 o → wpSs (M.C (iniE S0 o)) db (rets (iniQ S0 c o)) (startD N (.ref S0.length :: args)) (S0 ++ [.ins c []])) :
    ∀ ds S Q E, IniS c p ds S Q E → wpSs (M.C E) db (rets Q) (startD N ds) S := by
  rintro ds S Q E ⟨S0, args, o, rfl, rfl, hp, hq⟩
  have w := h args S0 o hp
  have w2 := wpSs_mono (M.C (iniE S0 o)) (fun er _ S => E er S) (fun er e S z => ?_) db (rets (iniQ S0 c o)) (rets Q) _ _ (DEnds.Le.mk ?_ ?_ ?_ ?_) w
  · exact w2
  · obtain ⟨z1, rfl⟩ := z
    exact hq S z1
  · rintro e S ⟨_, z1, fs, rfl, z2⟩
    obtain ⟨G, rfl⟩ := ext_ins z1 z2
    exact hq G
  · rintro d S ⟨rfl, z1, fs, rfl, z2⟩
    obtain ⟨G, rfl⟩ := ext_ins z1 z2
    exact hq G
  · intro e S z; exact z.elim
  · intro e S z; exact z.elim
/-- a class is made -/
def newC (c : Nat) (p : List D → Store → IOut → Prop) (ds : List D) (S : Store) (Q : DQ) (E : EQ) : Prop := ∃ o, p ds S o ∧ match o with
  | .ok fs => ∀ G : Store, Q (.ref S.length) (S ++ [.ins c fs] ++ G)
  | .exc er => ∀ S', Ext S S' → E er S'
theorem r_new {c i : Nat} {p : List D → Store → IOut → Prop} (hf : C.sp i = IniS c p) (h : wpEs C es env S fun ds S1 => newC c p ds S1 Q fun er S' => C.xq er env S') : wpE C (.new c i es) env S Q := by
  unfold wpE
  refine wpEs_m _ _ _ _ _ _ (fun ds S1 h => ?_) h
  rw [hf]
  obtain ⟨o, h1, h2⟩ := h
  refine ⟨_, _, ⟨S1, ds, o, rfl, rfl, h1, ?_⟩, fun d S' z => z, fun er S' z => z⟩
  cases o with
  | ok fs => exact fun G => ⟨rfl, h2 G⟩
  | exc er => exact h2
theorem n_ok {c : Nat} {p : List D → Store → IOut → Prop} {ds : List D} {E : EQ} {fs : List (Str × D)} (h : p ds S (.ok fs)) (q : ∀ G : Store, Q (.ref S.length) (S ++ [.ins c fs] ++ G)) : newC c p ds S Q E := ⟨_, h, q⟩
theorem n_exc {c : Nat} {p : List D → Store → IOut → Prop} {ds : List D} {E : EQ} {er : Err} (h : p ds S (.exc er)) (q : ∀ S', Ext S S' → E er S') : newC c p ds S Q E := ⟨_, h, q⟩
/-- an attribute is stored -/
def setC (C : SC) (S : Store) (x : D) (f : Str) (d : D) (K : Store → Prop) : Prop := ∃ n c fs, x = .ref n ∧ S[n]? = some (.ins c fs) ∧ C.noA c f = true ∧ fs.length < 1000 ∧ K (S.set n (.ins c (fPut f d fs)))
theorem r_setf {o : DE} {f : Str} (h : wpE C e env S fun d S1 => wpE C o env S1 fun x S2 => setC C S2 x f d fun S3 => B.nx env S3) : wpS C (.setf o f e) B env S := by
  unfold wpS
  refine wpE_m _ _ _ _ _ _ (fun d S1 h => ?_) h
  refine wpE_m _ _ _ _ _ _ (fun x S2 h => ?_) h
  obtain ⟨n, c, fs, rfl, h1, h2, h3, h4⟩ := h
  unfold wpFld
  dsimp only
  rw [h1]
  exact ⟨h2, h3, h4⟩
theorem t_setf {n c : Nat} {fs : List (Str × D)} {f : Str} {d : D} {K : Store → Prop} (h1 : S[n]? = some (.ins c fs)) (h2 : C.noA c f = true) (h3 : fs.length < 1000) (h : K (S.set n (.ins c (fPut f d fs)))) : setC C S (.ref n) f d K := ⟨n, c, fs, rfl, h1, h2, h3, h⟩
theorem r_iRev {K : Src → List D → Store → Prop} (h : wpE C e env S fun d S1 => onO (seqOf S1 d) fun xs => K (some (d, xs)) xs.reverse S1) : wpI C (.rev e) env S K := by unfold wpI; exact h
/-! dicts -/
theorem dct_ref {n : Nat} {kvs : List (List Int × D)} (h : S[n]? = some (.dct kvs)) : dctOf S (.ref n) = some kvs := by
  unfold dctOf
  dsimp only
  rw [h]
theorem key_tup {l : List Int} : keyOf (tupI l) = some l := by
  show intL (l.map D.int) = some l
  induction l with
  | nil => rfl
  | cons x r ih =>
    have e : ∀ d l m, intL l = some m → intL (D.int d :: l) = some (d :: m) := by
      intro d l m h
      unfold intL at h ⊢
      unfold mapO
      rw [h]
    exact e x _ _ ih
theorem m_get {n : Nat} {kvs : List (List Int × D)} {l : List Int} {d : D} (h : S[n]? = some (.dct kvs)) (q : Q ((dGet l kvs).getD d) S) : wpBm S .get (.ref n) [tupI l, d] Q := by
  unfold wpBm
  dsimp only
  rw [h]
  dsimp only
  rw [key_tup]
  exact q
theorem o_get {n : Nat} {kvs : List (List Int × D)} {es2 : DEs} {K : List D → Store → Prop} (h : S[n]? = some (.dct kvs)) (q : wpEs C es2 env S K) : ∃ k kvs, (D.ref n) = .ref k ∧ S[k]? = some (.dct kvs) ∧ wpEs C es2 env S K := ⟨n, kvs, rfl, h, q⟩
theorem c_dIn {n : Nat} {kvs : List (List Int × D)} {l : List Int} {Kk : Bool → Prop} (h : S[n]? = some (.dct kvs)) (q : Kk (dGet l kvs).isSome) : onO (cmpD S .inn (tupI l) (.ref n)) Kk := by
  have e : cmpD S .inn (tupI l) (.ref n) = some (dGet l kvs).isSome := by
    show inD S (tupI l) (.ref n) = _
    unfold inD
    rw [dct_ref h]
    dsimp only
    rw [key_tup]
  rw [e]
  exact q
theorem c_dNin {n : Nat} {kvs : List (List Int × D)} {l : List Int} {Kk : Bool → Prop} (h : S[n]? = some (.dct kvs)) (q : Kk (!(dGet l kvs).isSome)) : onO (cmpD S .nin (tupI l) (.ref n)) Kk := by
  have e : cmpD S .nin (tupI l) (.ref n) = some (!(dGet l kvs).isSome) := by
    show (inD S (tupI l) (.ref n)).map (!·) = _
    unfold inD
    rw [dct_ref h]
    dsimp only
    rw [key_tup]
    rfl
  rw [e]
  exact q
theorem i_d {n : Nat} {kvs : List (List Int × D)} {l : List Int} {d : D} {Kk : D → Prop} (h : S[n]? = some (.dct kvs)) (hd : dGet l kvs = some d) (q : Kk d) : onO (ixD S (.ref n) (tupI l)) Kk := by
  have e : ixD S (.ref n) (tupI l) = some d := by
    unfold ixD
    rw [dct_ref h]
    dsimp only
    rw [key_tup]
    exact hd
  rw [e]
  exact q
theorem w_d {n : Nat} {kvs : List (List Int × D)} {l : List Int} {d : D} {Kk : Store → Prop} (h : S[n]? = some (.dct kvs)) (hl : kvs.length < 1000000) (q : Kk (S.set n (.dct (dPut l d kvs)))) : wpSet S (.ref n) (tupI l) d Kk := by
  have e : keyOf (tupI l) = some l := key_tup
  have e : intL (l.map D.int) = some l := e
  unfold wpSet tupI
  dsimp only
  rw [h]
  dsimp only
  rw [e]
  exact ⟨Nat.lt_of_lt_of_le hl (by decide), q⟩
/-! sorted, lcm -/
theorem b_lcm {i j : Int} (h1 : i.natAbs < 2 ^ 64) (h2 : j.natAbs < 2 ^ 64) (q : Q (.int (Nat.lcm i.natAbs j.natAbs : Nat)) S) : wpBi S .lcm [.int i, .int j] Q := ⟨h1, h2, q⟩
theorem b_sorted {n : Nat} {xs : List D} {ps : List PyData} (h : S[n]? = some (.lst xs)) (h1 : mapO (toPy S pyF) xs = some ps) (h2 : PySem.W.AllAlike ps) (h3 : PySem.W.Sortable ps) (h4 : xs.length ≤ 1000000) (q : Q (.ref S.length) (S ++ [.lst (sortD S xs)])) : wpBi S .sorted [.ref n] Q := by
  show onO (seqOf S (.ref n)) _
  rw [seq_ref h]
  show onO (mapO (toPy S pyF) xs) _
  rw [h1]
  exact ⟨h2, h3, h4, q⟩
end
end PD
namespace PD
open PySem PySem.Spec PyProof.Rows L2
/-! ### what the head tells of a method, of a class -/
structure MthF (K : PySem.W.Frag) (x qual : Str) (st : Stmt) (f : Addr) : Prop where
  fn : ∃ fd, L2.Fun K x qual st f fd ∧ fd.defaults = .none
theorem mthF_mk {K : PySem.W.Frag} {x qual : Str} {st : Stmt} {f : Addr} {oc : Value} {od an : Option Addr} {osl : Array (Option Value)} {kV doc pm cdv ct : Value}
    (l : K.lookup f = some ⟨oc, od, .func (PySem.W.fnOf x qual (defArgs st) (defBody st) (defScope st) .none kV doc pm an cdv ct), osl⟩) (c : PySem.W.codeIn K cdv qual = true) (k : PySem.W.keepIn K (.ref f) = true) : MthF K x qual st f :=
  ⟨_, fun_mk l c k, rfl⟩
structure ObjF (K : PySem.W.Frag) (x : Str) (C : Addr) : Prop where
  ns : PySem.W.nsIn K mainGlobals x = some (some (.ref C))
  pg : PySem.W.plainGet K C Str.empty = true
  hd : PySem.W.hasDictIn K C = true
  po : PySem.W.plainOver K C = true
  sa : PySem.W.findIn K (.ref C) "__setattr__" = some (some (.builtin "object.__setattr__"))
theorem ObjF.cls {K : PySem.W.Frag} {x : Str} {C : Addr} (o : ObjF K x C) : Cls K C := ⟨o.pg, o.hd, o.po, o.sa⟩
theorem mts_of {l L : List (Str × Nat × Nat)} {j : Nat} {P : Str → Nat → Prop} (hf : l.filter (fun t => t.2.2 == j) = L) (h : ∀ t ∈ L, P t.1 t.2.1) : ∀ m k, (m, k, j) ∈ l → P m k := fun m k hm => by
  subst hf
  exact h (m, k, j) (List.mem_filter.mpr ⟨hm, by simp⟩)
theorem ini_len {c n : Nat} {p : List PD.D → Store → IOut → Prop} (h : ∀ ds S o, p ds S o → ds.length + 1 = n) : ∀ ds S Q E, IniS c p ds S Q E → ds.length = n := by
  rintro ds S Q E ⟨S0, args, o, rfl, rfl, hp, _⟩
  exact h _ _ _ hp
end PD

set_option Elab.async false
set_option linter.all false
set_option maxRecDepth 100000
set_option maxHeartbeats 4000000
namespace PD
open PySem
/-! ### more rules -/
theorem FR_same {C : SC} {t : DT} {b : List DS} {src : Src} {items : List D} {B : DEnds} {env : DEnv} {T : Store} (P : DEnv → Prop) (h0 : P env) (hst : still src T)
    (hs : ∀ (y : D) (env : DEnv), y ∈ items → P env → wpT C t y env T fun e2 S2 => wpSs C b { nx := fun e' S' => S' = T ∧ P e', ct := fun e' S' => S' = T ∧ P e', bk := B.nx, rt := B.rt } e2 S2) (he : ∀ env, P env → B.nx env T) : FR C t b src items B env T := by
  refine FR_ind (fun k e S' => S' = T ∧ P e) ⟨rfl, h0⟩ ?_ ?_
  · rintro k y e S' hy ⟨rfl, hp⟩
    refine wpT_m _ _ _ _ _ _ _ (fun e2 S2 q => wpSs_m _ _ (DEnds.Le.mk ?_ ?_ ?_ ?_) q) (hs y e (List.mem_of_getElem? hy) hp)
    · rintro e3 S3 ⟨rfl, z⟩
      exact ⟨hst, rfl, z⟩
    · exact fun _ _ z => z
    · exact fun _ _ z => z
    · rintro e3 S3 ⟨rfl, z⟩
      exact ⟨hst, rfl, z⟩
  · rintro e S' ⟨rfl, hp⟩
    exact he e hp
theorem dct_seq {S : Store} {t : D} {xs : List D} (hs : seqOf S t = some xs) : dctOf S t = none := by
  cases t with
  | ref n =>
    unfold dctOf
    unfold seqOf at hs
    dsimp only at hs ⊢
    split at hs
    · rename_i e; rw [e]
    · cases hs
  | _ => rfl
theorem i_sq {S : Store} {t : D} {xs : List D} {k : Int} {d : D} {Kk : D → Prop} (hs : seqOf S t = some xs) (hd : L2.atI xs k = some d) (h : Kk d) : onO (ixD S t (.int k)) Kk := by
  have e : ixD S t (.int k) = some d := by
    unfold ixD
    rw [dct_seq hs]
    unfold ixS
    dsimp only
    rw [hs]
    exact hd
  rw [e]
  exact h
theorem app_get {α : Type} {pre post : List α} {y : α} {k : Nat} {d : α} (h : (pre ++ y :: post)[k]? = some d) : (k < pre.length ∧ pre[k]? = some d) ∨ (k = pre.length ∧ d = y) ∨ pre.length < k := by
  rcases Nat.lt_trichotomy k pre.length with z | z | z
  · rw [List.getElem?_append_left z] at h
    exact .inl ⟨z, h⟩
  · subst z
    rw [List.getElem?_append_right (Nat.le_refl _), Nat.sub_self] at h
    cases h
    exact .inr (.inl ⟨rfl, rfl⟩)
  · exact .inr (.inr z)
/-- an instance of the store is written -/
theorem set_lastO (S : Store) (a b : SO) : (S ++ [a]).set S.length b = S ++ [b] := set_last S a b
section
variable {S : Store} {i j : Int} {A B : Prop}
theorem ch_le (h1 : i ≤ j → A) (h2 : ¬ i ≤ j → B) : ∃ k, cmpD S .le (.int i) (.int j) = some k ∧ (k = true → A) ∧ (k = false → B) := ⟨decide (i ≤ j), rfl, fun h => h1 (of_decide_eq_true h), fun h => h2 (of_decide_eq_false h)⟩
theorem ch_lt (h1 : i < j → A) (h2 : ¬ i < j → B) : ∃ k, cmpD S .lt (.int i) (.int j) = some k ∧ (k = true → A) ∧ (k = false → B) := ⟨decide (i < j), rfl, fun h => h1 (of_decide_eq_true h), fun h => h2 (of_decide_eq_false h)⟩
theorem c_isb {a b : Bool} {Kk : Bool → Prop} (h : Kk (a == b)) : onO (cmpD S .is (.bl a) (.bl b)) Kk := h
theorem c_isnb {a b : Bool} {Kk : Bool → Prop} (h : Kk (!(a == b))) : onO (cmpD S .isn (.bl a) (.bl b)) Kk := h
end
theorem intL_map (l : List Int) : intL (l.map D.int) = some l := key_tup (l := l)
theorem b_maxl {S : Store} {Q : DQ} {n : Nat} {l : List Int} {m : Int} (h : S[n]? = some (lstI l)) (hm : maxL l = some m) (q : Q (.int m) S) : wpBi S .max [.ref n] Q := by
  show onO (seqOf S (.ref n)) _
  rw [seq_ref h]
  show onO (intL (l.map D.int)) _
  rw [intL_map]
  show onO (maxL l) _
  rw [hm]
  exact q
theorem b_minl {S : Store} {Q : DQ} {n : Nat} {l : List Int} {m : Int} (h : S[n]? = some (lstI l)) (hm : minL l = some m) (q : Q (.int m) S) : wpBi S .min [.ref n] Q := by
  show onO (seqOf S (.ref n)) _
  rw [seq_ref h]
  show onO (intL (l.map D.int)) _
  rw [intL_map]
  show onO (minL l) _
  rw [hm]
  exact q
theorem b_suml {S : Store} {Q : DQ} {n : Nat} {l : List Int} (h : S[n]? = some (lstI l)) (q : Q (.int l.sum) S) : wpBi S .sum [.ref n] Q := by
  show onO (seqOf S (.ref n)) _
  rw [seq_ref h]
  show onO (intL (l.map D.int)) _
  rw [intL_map]
  exact q
theorem seq_tup {S : Store} {xs : List D} : seqOf S (.tup xs) = some xs := rfl
end PD

namespace PD
section
set_option Elab.async false
set_option linter.all false
set_option maxRecDepth 100000
set_option maxHeartbeats 1000000
/-! ### forms: lists of whole numbers without zeros behind (but the first) -/
def lastNZ (l : List Int) : Nat → Nat
  | 0 => 0
  | 1 => 1
  | n + 2 => if cf l (n + 1) = 0 then lastNZ l (n + 1) else n + 2
def trimL (l : List Int) : List Int := l.take (lastNZ l l.length)
def Norm (l : List Int) : Prop := l ≠ [] ∧ (l.length = 1 ∨ cf l (l.length - 1) ≠ 0)
theorem cf_nil (i : Nat) : cf [] i = 0 := by simp [cf]
theorem cf_out {l : List Int} {i : Nat} (h : l.length ≤ i) : cf l i = 0 := by
  unfold cf
  rw [List.getD_eq_getElem?_getD, List.getElem?_eq_none h]
  rfl
theorem cf_in {l : List Int} {i : Nat} (h : i < l.length) : cf l i = l[i] := by
  unfold cf
  rw [List.getD_eq_getElem?_getD, List.getElem?_eq_getElem h]
  rfl
theorem cf_take (l : List Int) (n i : Nat) : cf (l.take n) i = if i < n then cf l i else 0 := by
  unfold cf
  rw [List.getD_eq_getElem?_getD, List.getD_eq_getElem?_getD, List.getElem?_take]
  split <;> rfl
theorem cf_drop (l : List Int) (n i : Nat) : cf (l.drop n) i = cf l (n + i) := by
  unfold cf
  rw [List.getD_eq_getElem?_getD, List.getD_eq_getElem?_getD, List.getElem?_drop]
theorem cf_map0 (f : Int → Int) (h0 : f 0 = 0) (l : List Int) (i : Nat) : cf (l.map f) i = f (cf l i) := by
  unfold cf
  rw [List.getD_eq_getElem?_getD, List.getD_eq_getElem?_getD, List.getElem?_map]
  cases l[i]? with
  | none => exact h0.symm
  | some x => rfl
theorem cf_set (l : List Int) (n i : Nat) (x : Int) : cf (l.set n x) i = if n = i ∧ n < l.length then x else cf l i := by
  unfold cf
  rw [List.getD_eq_getElem?_getD, List.getD_eq_getElem?_getD, List.getElem?_set]
  by_cases h : n = i
  · subst h
    by_cases h2 : n < l.length
    · simp [h2]
    · simp [h2]
  · simp [h]
theorem cf_app (l m : List Int) (i : Nat) : cf (l ++ m) i = if i < l.length then cf l i else cf m (i - l.length) := by
  unfold cf
  rw [List.getD_eq_getElem?_getD, List.getD_eq_getElem?_getD, List.getD_eq_getElem?_getD, List.getElem?_append]
  split <;> rfl
theorem cf_rep (n i : Nat) (x : Int) : cf (List.replicate n x) i = if i < n then x else 0 := by
  unfold cf
  rw [List.getD_eq_getElem?_getD, List.getElem?_replicate]
  split <;> rfl
theorem cf_one (x : Int) (i : Nat) : cf [x] i = if i = 0 then x else 0 := by
  cases i with
  | zero => rfl
  | succ i => rfl
theorem cf_cons0 (x : Int) (l : List Int) : cf (x :: l) 0 = x := rfl
theorem cf_consS (x : Int) (l : List Int) (i : Nat) : cf (x :: l) (i + 1) = cf l i := rfl
theorem cf_range (n i : Nat) (f : Nat → Int) : cf ((List.range n).map f) i = if i < n then f i else 0 := by
  unfold cf
  rw [List.getD_eq_getElem?_getD, List.getElem?_map]
  by_cases h : i < n
  · rw [List.getElem?_range h, if_pos h]; rfl
  · rw [List.getElem?_eq_none (by rw [List.length_range]; omega), if_neg h]; rfl
theorem lastNZ_le (l : List Int) : ∀ n, lastNZ l n ≤ n
  | 0 => Nat.le_refl _
  | 1 => Nat.le_refl _
  | n + 2 => by
    unfold lastNZ
    split
    · exact Nat.le_trans (lastNZ_le l (n + 1)) (by omega)
    · exact Nat.le_refl _
theorem lastNZ_pos (l : List Int) : ∀ n, 0 < n → 0 < lastNZ l n
  | 0, h => by omega
  | 1, _ => by unfold lastNZ; omega
  | n + 2, _ => by
    unfold lastNZ
    split
    · exact lastNZ_pos l (n + 1) (by omega)
    · omega
theorem lastNZ_zero (l : List Int) : ∀ n i, lastNZ l n ≤ i → i < n → cf l i = 0
  | 0, i, _, h => by omega
  | 1, i, h, h2 => by unfold lastNZ at h; omega
  | n + 2, i, h, h2 => by
    unfold lastNZ at h
    split at h
    · rename_i hz
      by_cases e : i = n + 1
      · rw [e]; exact hz
      · exact lastNZ_zero l (n + 1) i h (by omega)
    · omega
theorem lastNZ_nz (l : List Int) : ∀ n, lastNZ l n ≤ 1 ∨ cf l (lastNZ l n - 1) ≠ 0
  | 0 => .inl (by unfold lastNZ; omega)
  | 1 => .inl (by unfold lastNZ; omega)
  | n + 2 => by
    unfold lastNZ
    split
    · exact lastNZ_nz l (n + 1)
    · rename_i h
      exact .inr h
theorem cf_trim (l : List Int) (i : Nat) : cf (trimL l) i = cf l i := by
  unfold trimL
  rw [cf_take]
  split
  · rfl
  · rename_i h
    by_cases h2 : i < l.length
    · exact (lastNZ_zero l _ i (by omega) h2).symm
    · exact (cf_out (by omega)).symm
theorem trim_len (l : List Int) : (trimL l).length = lastNZ l l.length := by
  unfold trimL
  rw [List.length_take]
  exact Nat.min_eq_left (lastNZ_le l _)
theorem trim_le (l : List Int) : (trimL l).length ≤ l.length := by
  rw [trim_len]
  exact lastNZ_le l _
theorem len_pos {l : List Int} (h : l ≠ []) : 0 < l.length := by
  cases l with
  | nil => exact absurd rfl h
  | cons _ _ => exact Nat.succ_pos _
theorem ne_of_len {l : List Int} (h : 0 < l.length) : l ≠ [] := by
  rintro rfl
  exact absurd h (Nat.lt_irrefl _)
theorem trim_ne {l : List Int} (h : l ≠ []) : trimL l ≠ [] := ne_of_len (by rw [trim_len]; exact lastNZ_pos l _ (len_pos h))
theorem norm_trim {l : List Int} (h : l ≠ []) : Norm (trimL l) := by
  refine ⟨trim_ne h, ?_⟩
  have h1 := lastNZ_pos l _ (len_pos h)
  rw [cf_trim, trim_len]
  rcases lastNZ_nz l l.length with q | q
  · exact .inl (by omega)
  · exact .inr q
theorem list_ext {f g : List Int} (hl : f.length = g.length) (h : ∀ i, cf f i = cf g i) : f = g := by
  refine List.ext_getElem hl fun i h1 h2 => ?_
  rw [← cf_in h1, ← cf_in h2]
  exact h i
theorem norm_len {f g : List Int} (hf : Norm f) (hg : Norm g) (h : ∀ i, cf f i = cf g i) : f.length ≤ g.length := by
  have h1 := len_pos hf.1
  have h2 := len_pos hg.1
  rcases Nat.lt_or_ge g.length f.length with z | z
  · rcases hf.2 with q | q
    · omega
    · rw [h, cf_out (by omega)] at q
      exact absurd rfl q
  · exact z
/-- a form is what its coefficients are -/
theorem norm_ext {f g : List Int} (hf : Norm f) (hg : Norm g) (h : ∀ i, cf f i = cf g i) : f = g :=
  list_ext (Nat.le_antisymm (norm_len hf hg h) (norm_len hg hf fun i => (h i).symm)) h
theorem trim_ext {f g : List Int} (hf : f ≠ []) (hg : g ≠ []) (h : ∀ i, cf f i = cf g i) : trimL f = trimL g :=
  norm_ext (norm_trim hf) (norm_trim hg) fun i => by rw [cf_trim, cf_trim, h i]
theorem trim_norm {f : List Int} (hf : Norm f) : trimL f = f := norm_ext (norm_trim hf.1) hf fun i => cf_trim f i
theorem trim_to {f g : List Int} (hf : f ≠ []) (hg : Norm g) (h : ∀ i, cf f i = cf g i) : trimL f = g := norm_ext (norm_trim hf) hg fun i => by rw [cf_trim, h i]
/-- sums -/
def addL (f g : List Int) : List Int := (List.range (max f.length g.length)).map fun i => cf f i + cf g i
theorem cf_addL (f g : List Int) (i : Nat) : cf (addL f g) i = cf f i + cf g i := by
  unfold addL
  rw [cf_range]
  split
  · rfl
  · rw [cf_out (l := f) (by omega), cf_out (l := g) (by omega)]
    rfl
theorem addL_len (f g : List Int) : (addL f g).length = max f.length g.length := by unfold addL; rw [List.length_map, List.length_range]
def mulL (n : Int) (f : List Int) : List Int := f.map fun x => n * x
theorem cf_mulL (n : Int) (f : List Int) (i : Nat) : cf (mulL n f) i = n * cf f i := cf_map0 _ (Int.mul_zero n) f i
theorem mulL_len (n : Int) (f : List Int) : (mulL n f).length = f.length := List.length_map ..
/-- a number within 2^k -/
structure Bz (k : Nat) (z : Int) : Prop where
  h : z.natAbs < 2 ^ k
/-- entries within 2^k -/
structure Bd (k : Nat) (l : List Int) : Prop where
  h : ∀ i, Bz k (cf l i)
instance (k : Nat) (l : List Int) : CoeFun (Bd k l) (fun _ => ∀ i, Bz k (cf l i)) := ⟨Bd.h⟩
theorem log_lt {x : Int} {k : Nat} (h : Bz k x) : x.natAbs.log2 ≤ k := by
  by_cases h0 : x.natAbs = 0
  · rw [h0]
    exact Nat.zero_le _
  · exact Nat.le_of_lt ((Nat.log2_lt h0).mpr h.h)
theorem Bz.up {k m : Nat} {z : Int} (h : Bz k z) (hk : k ≤ m) : Bz m z := ⟨Nat.lt_of_lt_of_le h.h (Nat.pow_le_pow_right (by decide) hk)⟩
theorem Bz.sm {k : Nat} {z : Int} (h : z.natAbs < 2 ^ 4) (hk : 4 ≤ k) : Bz k z := ⟨Nat.lt_of_lt_of_le h (Nat.pow_le_pow_right (by decide) hk)⟩
theorem Bd.mono {k m : Nat} {l : List Int} (h : Bd k l) (hk : k ≤ m) : Bd m l := ⟨fun i => (h.h i).up hk⟩
theorem Bd.of {k : Nat} {f g : List Int} (h : Bd k f) (e : ∀ i, cf g i = cf f i) : Bd k g := ⟨fun i => by rw [e]; exact h.h i⟩
theorem Bz.add {k : Nat} {x y : Int} (hx : Bz k x) (hy : Bz k y) : Bz (k + 1) (x + y) := ⟨by
  have h1 := hx.h
  have h2 := hy.h
  have := Int.natAbs_add_le x y
  rw [Nat.pow_succ]
  omega⟩
theorem Bz.mul {k m : Nat} {x y : Int} (hx : Bz m x) (hy : Bz k y) : Bz (m + k) (x * y) := ⟨by
  rw [Int.natAbs_mul, Nat.pow_add]
  exact Nat.mul_lt_mul'' hx.h hy.h⟩
theorem Bz.zero {k : Nat} : Bz k 0 := ⟨Nat.pow_pos (by decide)⟩
theorem Bd.add {k : Nat} {f g h : List Int} (hf : Bd k f) (hg : Bd k g) (e : ∀ i, cf h i = cf f i + cf g i) : Bd (k + 1) h := ⟨fun i => by
  rw [e]
  exact (hf.h i).add (hg.h i)⟩
theorem Bd.mul {k m : Nat} {n : Int} {f h : List Int} (hn : Bz m n) (hf : Bd k f) (e : ∀ i, cf h i = n * cf f i) : Bd (m + k) h := ⟨fun i => by
  rw [e]
  exact hn.mul (hf.h i)⟩
/-- values -/
def sumTo (u : Nat → Int) : Nat → Int
  | 0 => 0
  | n + 1 => sumTo u n + u n
theorem sumTo_succ (u : Nat → Int) (n : Nat) : sumTo u (n + 1) = sumTo u n + u n := rfl
theorem sumTo_congr {u v : Nat → Int} : ∀ {n : Nat}, (∀ i, i < n → u i = v i) → sumTo u n = sumTo v n
  | 0, _ => rfl
  | n + 1, h => by
    unfold sumTo
    rw [sumTo_congr (n := n) fun i hi => h i (by omega), h n (by omega)]
theorem sumTo_add (u v : Nat → Int) : ∀ n, sumTo (fun i => u i + v i) n = sumTo u n + sumTo v n
  | 0 => rfl
  | n + 1 => by
    unfold sumTo
    rw [sumTo_add u v n]
    omega
theorem sumTo_mul (a : Int) (u : Nat → Int) : ∀ n, sumTo (fun i => a * u i) n = a * sumTo u n
  | 0 => by unfold sumTo; omega
  | n + 1 => by
    unfold sumTo
    rw [sumTo_mul a u n, Int.mul_add]
theorem sumTo_ext {u : Nat → Int} {n : Nat} : ∀ {m : Nat}, n ≤ m → (∀ i, n ≤ i → i < m → u i = 0) → sumTo u m = sumTo u n
  | 0, h, _ => by
    have : n = 0 := by omega
    rw [this]
  | m + 1, h, hz => by
    by_cases e : n = m + 1
    · rw [e]
    · rw [sumTo_succ, sumTo_ext (n := n) (m := m) (by omega) fun i h1 h2 => hz i h1 (by omega), hz m (by omega) (by omega)]
      omega
/-- a form's value at v, by coefficients up to n -/
def evN (n : Nat) (c : Nat → Int) (v : List Int) : Int := c 0 + sumTo (fun i => c (i + 1) * cf v i) n
def evL (f v : List Int) : Int := evN (f.length - 1) (cf f) v
theorem evL_up {f v : List Int} {n : Nat} (h : f.length ≤ n + 1) : evL f v = evN n (cf f) v := by
  unfold evL evN
  rw [sumTo_ext (n := f.length - 1) (m := n) (by omega) fun i h1 h2 => by rw [cf_out (l := f) (by omega)]; omega]
/-- .. where the values end sooner -/
theorem evN_v {c : Nat → Int} {v : List Int} {n m : Nat} (h : n ≤ m) (hv : v.length ≤ n) : evN m c v = evN n c v := by
  unfold evN
  rw [sumTo_ext (n := n) (m := m) h fun i h1 h2 => by rw [cf_out (l := v) (by omega)]; omega]
theorem evN_congr {c c' : Nat → Int} {v v' : List Int} {n : Nat} (h0 : c 0 = c' 0) (h : ∀ i, i < n → c (i + 1) * cf v i = c' (i + 1) * cf v' i) : evN n c v = evN n c' v' := by
  unfold evN
  rw [h0, sumTo_congr h]
theorem evN_add (c c' : Nat → Int) (v : List Int) (n : Nat) : evN n (fun i => c i + c' i) v = evN n c v + evN n c' v := by
  unfold evN
  have := sumTo_add (fun i => c (i + 1) * cf v i) (fun i => c' (i + 1) * cf v i) n
  rw [show (fun i => (c (i + 1) + c' (i + 1)) * cf v i) = fun i => c (i + 1) * cf v i + c' (i + 1) * cf v i from funext fun i => Int.add_mul _ _ _]
  rw [this]
  dsimp only
  omega
theorem evN_mul (a : Int) (c : Nat → Int) (v : List Int) (n : Nat) : evN n (fun i => a * c i) v = a * evN n c v := by
  unfold evN
  have := sumTo_mul a (fun i => c (i + 1) * cf v i) n
  rw [show (fun i => a * c (i + 1) * cf v i) = fun i => a * (c (i + 1) * cf v i) from funext fun i => Int.mul_assoc _ _ _, this, Int.mul_add]

end
section
set_option Elab.async false
set_option linter.all false
set_option maxRecDepth 100000
open PySem
/-- 0 is_whole(thing): slots thing -/
def b_is_whole : List DS := [.ret (.some (.and (.bi .isinstance (.cons (.var 0) (.cons (.cst (.ty "int")) .nil))) (.not (.bi .isinstance (.cons (.var 0) (.cons (.cst (.ty "bool")) .nil))))))]
abbrev n_is_whole : List Str := ["thing"]
/-- 1 is_life(thing): slots thing, first, lengths, place, length -/
def b_is_life : List DS := [.ifs (.or (.not (.bi .isinstance (.cons (.var 0) (.cons (.tup (.cons (.cst (.ty "tuple")) (.cons (.cst (.ty "list")) .nil))) .nil)))) (.cmp .ne (.bi .len (.cons (.var 0) .nil)) (.cst (.int 2)))) [.ret (.some (.cst (.bl false)))] [], .asg (.tp (.cons (.nm 1) (.cons (.nm 2) (.nil)))) (.var 0), .ifs (.or (.not (.call 0 (.cons (.var 1) .nil))) (.cmp .lt (.var 1) (.cst (.int 0)))) [.ret (.some (.cst (.bl false)))] [], .ifs (.or (.not (.bi .isinstance (.cons (.var 2) (.cons (.tup (.cons (.cst (.ty "tuple")) (.cons (.cst (.ty "list")) .nil))) .nil)))) (.cmp .eq (.bi .len (.cons (.var 2) .nil)) (.cst (.int 0)))) [.ret (.some (.cst (.bl false)))] [], .fr (.tp (.cons (.nm 3) (.cons (.nm 4) (.nil)))) (.enum (.var 2)) [.ifs (.or (.not (.call 0 (.cons (.var 4) .nil))) (.cmp .lt (.var 4) (.cst (.int 0)))) [.ret (.some (.cst (.bl false)))] [], .ifs (.and (.cmp .gt (.var 3) (.cst (.int 0))) (.cmp .gt (.var 4) (.ix (.var 2) (.bin .sub (.var 3) (.cst (.int 1)))))) [.ret (.some (.cst (.bl false)))] []], .ret (.some (.cst (.bl true)))]
abbrev n_is_life : List Str := ["thing", "first", "lengths", "place", "length"]
/-- 2 ending(life): slots life -/
def b_ending : List DS := [.ret (.some (.bin .add (.ix (.var 0) (.cst (.int 0))) (.bi .len (.cons (.ix (.var 0) (.cst (.int 1))) .nil))))]
abbrev n_ending : List Str := ["life"]
/-- 3 first_meeting(lives, b, c): slots lives, b, c, moment -/
def b_first_meeting : List DS := [.asg (.nm 3) (.bi .max (.cons (.ix (.ix (.var 0) (.var 1)) (.cst (.int 0))) (.cons (.ix (.ix (.var 0) (.var 2)) (.cst (.int 0))) .nil))), .ifs (.or (.cmp .eq (.var 1) (.var 2)) (.cmp .ge (.var 3) (.bi .min (.cons (.call 2 (.cons (.ix (.var 0) (.var 1)) .nil)) (.cons (.call 2 (.cons (.ix (.var 0) (.var 2)) .nil)) .nil))))) [.ret (.some (.neg (.cst (.int 1))))] [], .ret (.some (.var 3))]
abbrev n_first_meeting : List Str := ["lives", "b", "c", "moment"]
/-- 4 meeting_length(lives, b, c): slots lives, b, c, first, lengths -/
def b_meeting_length : List DS := [.asg (.tp (.cons (.nm 3) (.cons (.nm 4) (.nil)))) (.ix (.var 0) (.var 1)), .ret (.some (.ix (.var 4) (.bin .sub (.call 3 (.cons (.var 0) (.cons (.var 1) (.cons (.var 2) .nil)))) (.var 3))))]
abbrev n_meeting_length : List Str := ["lives", "b", "c", "first", "lengths"]
/-- 5 meeting_pairs(lives): slots lives, found, b, c -/
def b_meeting_pairs : List DS := [.asg (.nm 1) (.lst (.nil)), .fr (.nm 2) (.rng (.cons (.bi .len (.cons (.var 0) .nil)) .nil)) [.fr (.nm 3) (.rng (.cons (.bin .add (.var 2) (.cst (.int 1))) (.cons (.bi .len (.cons (.var 0) .nil)) .nil))) [.ifs (.cmp .ge (.call 3 (.cons (.var 0) (.cons (.var 2) (.cons (.var 3) .nil)))) (.cst (.int 0))) [.ex (.bm .append (.var 1) (.cons (.tup (.cons (.var 2) (.cons (.var 3) .nil))) .nil))] []]], .ret (.some (.bi .tuple (.cons (.var 1) .nil)))]
abbrev n_meeting_pairs : List Str := ["lives", "found", "b", "c"]
/-- 6 lengths_then(lives, moment): slots lives, moment, found, first, lengths -/
def b_lengths_then : List DS := [.asg (.nm 2) (.lst (.nil)), .fr (.tp (.cons (.nm 3) (.cons (.nm 4) (.nil)))) (.seq (.var 0)) [.ifs (.chn .le .lt (.var 3) (.var 1) (.bin .add (.var 3) (.bi .len (.cons (.var 4) .nil)))) [.ex (.bm .append (.var 2) (.cons (.ix (.var 4) (.bin .sub (.var 1) (.var 3))) .nil))] []], .ret (.some (.var 2))]
abbrev n_lengths_then : List Str := ["lives", "moment", "found", "first", "lengths"]
/-- 7 wrong_start(blocks, starts): slots blocks, starts, place, start -/
def b_wrong_start : List DS := [.ifs (.not (.bi .isinstance (.cons (.var 1) (.cons (.tup (.cons (.cst (.ty "tuple")) (.cons (.cst (.ty "list")) .nil))) .nil)))) [.ret (.some (.cst (.int 0)))] [], .fr (.tp (.cons (.nm 2) (.cons (.nm 3) (.nil)))) (.enum (.var 1)) [.ifs (.or (.cmp .ge (.var 2) (.fld (.var 0) "many")) (.or (.not (.call 0 (.cons (.var 3) .nil))) (.cmp .lt (.var 3) (.cst (.int 0))))) [.ret (.some (.var 2))] []], .ret (.some (.ife (.cmp .eq (.bi .len (.cons (.var 1) .nil)) (.fld (.var 0) "many")) (.neg (.cst (.int 1))) (.bi .len (.cons (.var 1) .nil))))]
abbrev n_wrong_start : List Str := ["blocks", "starts", "place", "start"]
/-- 8 apart(start, length, other, taken): slots start, length, other, taken -/
def b_apart : List DS := [.ret (.some (.or (.cmp .le (.bin .add (.var 0) (.var 1)) (.var 2)) (.cmp .le (.bin .add (.var 2) (.var 3)) (.var 0))))]
abbrev n_apart : List Str := ["start", "length", "other", "taken"]
/-- 9 Blocks__pairs(self): slots self -/
def b_Blocks__pairs : List DS := [.ret (.some (.call 5 (.cons (.fld (.var 0) "lives") .nil)))]
abbrev n_Blocks__pairs : List Str := ["self"]
/-- 10 Blocks__check_block(self, name, number): slots self, name, number -/
def b_Blocks__check_block : List DS := [.ifs (.or (.not (.call 0 (.cons (.var 2) .nil))) (.not (.chn .le .lt (.cst (.int 0)) (.var 2) (.fld (.var 0) "many")))) [.rse 1 ["name"] (.cons (.var 1) .nil)] []]
abbrev n_Blocks__check_block : List Str := ["self", "name", "number"]
/-- 11 Blocks__meeting(self, b, c): slots self, b, c -/
def b_Blocks__meeting : List DS := [.ex (.mth "check_block" [(3, 10)] (.var 0) (.cons (.cst (.str "b")) (.cons (.var 1) .nil))), .ex (.mth "check_block" [(3, 10)] (.var 0) (.cons (.cst (.str "c")) (.cons (.var 2) .nil))), .ret (.some (.call 3 (.cons (.fld (.var 0) "lives") (.cons (.var 1) (.cons (.var 2) .nil)))))]
abbrev n_Blocks__meeting : List Str := ["self", "b", "c"]
/-- 12 Blocks__length_then(self, b, moment): slots self, b, moment, first, lengths -/
def b_Blocks__length_then : List DS := [.ex (.mth "check_block" [(3, 10)] (.var 0) (.cons (.cst (.str "b")) (.cons (.var 1) .nil))), .asg (.tp (.cons (.nm 3) (.cons (.nm 4) (.nil)))) (.ix (.fld (.var 0) "lives") (.var 1)), .ifs (.or (.not (.call 0 (.cons (.var 2) .nil))) (.not (.chn .le .lt (.var 3) (.var 2) (.bin .add (.var 3) (.bi .len (.cons (.var 4) .nil)))))) [.rse 1 ["name"] (.cons (.cst (.str "moment")) .nil)] [], .ret (.some (.ix (.var 4) (.bin .sub (.var 2) (.var 3))))]
abbrev n_Blocks__length_then : List Str := ["self", "b", "moment", "first", "lengths"]
/-- 13 is_placing(blocks, starts): slots blocks, starts, b, c, last, moment -/
def b_is_placing : List DS := [.ifs (.cmp .ne (.call 7 (.cons (.var 0) (.cons (.var 1) .nil))) (.neg (.cst (.int 1)))) [.ret (.some (.cst (.bl false)))] [], .fr (.tp (.cons (.nm 2) (.cons (.nm 3) (.nil)))) (.seq (.mth "pairs" [(3, 9)] (.var 0) (.nil))) [.asg (.nm 4) (.bi .min (.cons (.call 2 (.cons (.ix (.fld (.var 0) "lives") (.var 2)) .nil)) (.cons (.call 2 (.cons (.ix (.fld (.var 0) "lives") (.var 3)) .nil)) .nil))), .fr (.nm 5) (.rng (.cons (.mth "meeting" [(3, 11)] (.var 0) (.cons (.var 2) (.cons (.var 3) .nil))) (.cons (.var 4) .nil))) [.ifs (.not (.call 8 (.cons (.ix (.var 1) (.var 2)) (.cons (.mth "length_then" [(3, 12)] (.var 0) (.cons (.var 2) (.cons (.var 5) .nil))) (.cons (.ix (.var 1) (.var 3)) (.cons (.mth "length_then" [(3, 12)] (.var 0) (.cons (.var 3) (.cons (.var 5) .nil))) .nil)))))) [.ret (.some (.cst (.bl false)))] []]], .ret (.some (.cst (.bl true)))]
abbrev n_is_placing : List Str := ["blocks", "starts", "b", "c", "last", "moment"]
/-- 14 Blocks__len_pair(self, b, c): slots self, b, c -/
def b_Blocks__len_pair : List DS := [.ifs (.cmp .eq (.mth "meeting" [(3, 11)] (.var 0) (.cons (.var 1) (.cons (.var 2) .nil))) (.neg (.cst (.int 1)))) [.rse 2 ["place"] (.cons (.cst (.int 0)) .nil)] [], .ret (.some (.call 4 (.cons (.fld (.var 0) "lives") (.cons (.var 1) (.cons (.var 2) .nil)))))]
abbrev n_Blocks__len_pair : List Str := ["self", "b", "c"]
/-- 15 apart_pairs(blocks, starts): slots blocks, starts, b, c -/
def b_apart_pairs : List DS := [.ifs (.cmp .ne (.call 7 (.cons (.var 0) (.cons (.var 1) .nil))) (.neg (.cst (.int 1)))) [.ret (.some (.cst (.bl false)))] [], .fr (.tp (.cons (.nm 2) (.cons (.nm 3) (.nil)))) (.seq (.mth "pairs" [(3, 9)] (.var 0) (.nil))) [.ifs (.not (.call 8 (.cons (.ix (.var 1) (.var 2)) (.cons (.mth "len_pair" [(3, 14)] (.var 0) (.cons (.var 2) (.cons (.var 3) .nil))) (.cons (.ix (.var 1) (.var 3)) (.cons (.mth "len_pair" [(3, 14)] (.var 0) (.cons (.var 3) (.cons (.var 2) .nil))) .nil)))))) [.ret (.some (.cst (.bl false)))] []], .ret (.some (.cst (.bl true)))]
abbrev n_apart_pairs : List Str := ["blocks", "starts", "b", "c"]
/-- 16 end_of(blocks, starts): slots blocks, starts, place, b, start -/
def b_end_of : List DS := [.asg (.nm 2) (.call 7 (.cons (.var 0) (.cons (.var 1) .nil))), .ifs (.cmp .ne (.var 2) (.neg (.cst (.int 1)))) [.rse 2 ["place"] (.cons (.var 2) .nil)] [], .ret (.some (.bi .max (.cons (.lc [3, 4] (.tp (.cons (.nm 3) (.cons (.nm 4) (.nil)))) (.enum (.var 1)) .none (.bin .add (.var 4) (.ix (.ix (.ix (.fld (.var 0) "lives") (.var 3)) (.cst (.int 1))) (.cst (.int 0))))) .nil)))]
abbrev n_end_of : List Str := ["blocks", "starts", "place", "b", "start"]
/-- 17 _law_draws(script): slots script, drawn, cell, left, turn -/
def b__law_draws : List DS := [.asg (.nm 1) (.lst (.nil)), .fr (.nm 2) (.seq (.sl (.var 0) .none (.some (.cst (.int 63))))) [.asg (.nm 3) (.bi .abs (.cons (.bi .int (.cons (.var 2) .nil)) .nil)), .fr (.nm 4) (.rng (.cons (.cst (.int 18)) .nil)) [.ex (.bm .append (.var 1) (.cons (.bin .mod (.bi .int (.cons (.var 3) .nil)) (.cst (.int 10))) .nil)), .asg (.nm 3) (.bin .fdiv (.var 3) (.cst (.int 10))), .ifs (.cmp .eq (.var 3) (.cst (.int 0))) [.brk] []]], .ret (.some (.var 1))]
abbrev n__law_draws : List Str := ["script", "drawn", "cell", "left", "turn"]
/-- 18 _law_pick(drawn, at, many): slots drawn, at, many -/
def b__law_pick : List DS := [.ifs (.and (.cmp .lt (.bin .add (.var 1) (.cst (.int 1))) (.bi .len (.cons (.var 0) .nil))) (.cmp .gt (.var 2) (.cst (.int 10)))) [.ret (.some (.bin .mod (.bi .int (.cons (.bin .add (.bin .mul (.ix (.var 0) (.var 1)) (.cst (.int 10))) (.ix (.var 0) (.bin .add (.var 1) (.cst (.int 1))))) .nil)) (.var 2)))] [], .ifs (.cmp .lt (.var 1) (.bi .len (.cons (.var 0) .nil))) [.ret (.some (.bin .mod (.bi .int (.cons (.ix (.var 0) (.var 1)) .nil)) (.var 2)))] [], .ret (.some (.cst (.int 0)))]
abbrev n__law_pick : List Str := ["drawn", "at", "many"]
/-- 19 _law_far(drawn, at): slots drawn, at, number, step -/
def b__law_far : List DS := [.asg (.nm 2) (.cst (.int 0)), .fr (.nm 3) (.rng (.cons (.cst (.int 29)) .nil)) [.asg (.nm 2) (.bin .add (.bin .mul (.var 2) (.cst (.int 10))) (.call 18 (.cons (.var 0) (.cons (.bin .add (.var 1) (.var 3)) (.cons (.cst (.int 10)) .nil)))))], .ret (.some (.var 2))]
abbrev n__law_far : List Str := ["drawn", "at", "number", "step"]
/-- 20 _law_lives(drawn, many, unit): slots drawn, many, unit, lives, first, b, at, length, lengths, moment -/
def b__law_lives : List DS := [.asg (.nm 3) (.lst (.nil)), .asg (.nm 4) (.call 18 (.cons (.var 0) (.cons (.cst (.int 4)) (.cons (.cst (.int 3)) .nil)))), .fr (.nm 5) (.rng (.cons (.var 1) .nil)) [.asg (.nm 6) (.bin .add (.cst (.int 5)) (.bin .mul (.cst (.int 8)) (.var 5))), .asg (.nm 4) (.bin .add (.var 4) (.call 18 (.cons (.var 0) (.cons (.var 6) (.cons (.cst (.int 3)) .nil))))), .asg (.nm 7) (.call 18 (.cons (.var 0) (.cons (.bin .add (.var 6) (.cst (.int 1))) (.cons (.cst (.int 8)) .nil)))), .asg (.nm 8) (.lst (.nil)), .fr (.nm 9) (.rng (.cons (.bin .add (.cst (.int 1)) (.call 18 (.cons (.var 0) (.cons (.bin .add (.var 6) (.cst (.int 2))) (.cons (.cst (.int 5)) .nil))))) .nil)) [.ex (.bm .append (.var 8) (.cons (.bin .mul (.var 7) (.var 2)) .nil)), .asg (.nm 7) (.bi .max (.cons (.cst (.int 0)) (.cons (.bin .sub (.var 7) (.ix (.lst (.cons (.cst (.int 0)) (.cons (.cst (.int 0)) (.cons (.cst (.int 1)) (.cons (.cst (.int 3)) .nil))))) (.call 18 (.cons (.var 0) (.cons (.bin .add (.bin .add (.var 6) (.cst (.int 3))) (.var 9)) (.cons (.cst (.int 4)) .nil)))))) .nil)))], .ex (.bm .append (.var 3) (.cons (.tup (.cons (.var 4) (.cons (.bi .tuple (.cons (.var 8) .nil)) .nil))) .nil))], .ret (.some (.var 3))]
abbrev n__law_lives : List Str := ["drawn", "many", "unit", "lives", "first", "b", "at", "length", "lengths", "moment"]
/-- 21 _law_length(life, moment): slots life, moment -/
def b__law_length : List DS := [.ifs (.or (.cmp .lt (.var 1) (.ix (.var 0) (.cst (.int 0)))) (.cmp .ge (.var 1) (.bin .add (.ix (.var 0) (.cst (.int 0))) (.bi .len (.cons (.ix (.var 0) (.cst (.int 1))) .nil))))) [.ret (.some (.neg (.cst (.int 1))))] [], .ret (.some (.ix (.ix (.var 0) (.cst (.int 1))) (.bin .sub (.var 1) (.ix (.var 0) (.cst (.int 0))))))]
abbrev n__law_length : List Str := ["life", "moment"]
/-- 22 _law_meeting(lives, b, c): slots lives, b, c, moment -/
def b__law_meeting : List DS := [.ifs (.cmp .eq (.var 1) (.var 2)) [.ret (.some (.neg (.cst (.int 1))))] [], .fr (.nm 3) (.rng (.cons (.cst (.int 40)) .nil)) [.ifs (.and (.cmp .ge (.call 21 (.cons (.ix (.var 0) (.var 1)) (.cons (.var 3) .nil))) (.cst (.int 0))) (.cmp .ge (.call 21 (.cons (.ix (.var 0) (.var 2)) (.cons (.var 3) .nil))) (.cst (.int 0)))) [.ret (.some (.var 3))] []], .ret (.some (.neg (.cst (.int 1))))]
abbrev n__law_meeting : List Str := ["lives", "b", "c", "moment"]
/-- 23 _law_apart(lives, starts, moment): slots lives, starts, moment, b, c, one, two -/
def b__law_apart : List DS := [.fr (.nm 3) (.rng (.cons (.bi .len (.cons (.var 0) .nil)) .nil)) [.fr (.nm 4) (.rng (.cons (.var 3) .nil)) [.asg (.nm 5) (.call 21 (.cons (.ix (.var 0) (.var 3)) (.cons (.var 2) .nil))), .asg (.nm 6) (.call 21 (.cons (.ix (.var 0) (.var 4)) (.cons (.var 2) .nil))), .ifs (.and (.cmp .ge (.var 5) (.cst (.int 0))) (.and (.cmp .ge (.var 6) (.cst (.int 0))) (.and (.cmp .gt (.bin .add (.ix (.var 1) (.var 3)) (.var 5)) (.ix (.var 1) (.var 4))) (.cmp .gt (.bin .add (.ix (.var 1) (.var 4)) (.var 6)) (.ix (.var 1) (.var 3)))))) [.ret (.some (.cst (.bl false)))] []]], .ret (.some (.cst (.bl true)))]
abbrev n__law_apart : List Str := ["lives", "starts", "moment", "b", "c", "one", "two"]
/-- 24 _law_placed(lives, starts): slots lives, starts, moment -/
def b__law_placed : List DS := [.fr (.nm 2) (.rng (.cons (.cst (.int 40)) .nil)) [.ifs (.not (.call 23 (.cons (.var 0) (.cons (.var 1) (.cons (.var 2) .nil))))) [.ret (.some (.cst (.bl false)))] []], .ret (.some (.cst (.bl true)))]
abbrev n__law_placed : List Str := ["lives", "starts", "moment"]
/-- 25 _law_heaviest(lives): slots lives, best, moment, total, there, life -/
def b__law_heaviest : List DS := [.asg (.nm 1) (.tup (.cons (.cst (.int 0)) (.cons (.neg (.cst (.int 1))) .nil))), .fr (.nm 2) (.rng (.cons (.cst (.int 40)) .nil)) [.asg (.nm 3) (.cst (.int 0)), .asg (.nm 4) (.cst (.bl false)), .fr (.nm 5) (.seq (.var 0)) [.ifs (.cmp .ge (.call 21 (.cons (.var 5) (.cons (.var 2) .nil))) (.cst (.int 0))) [.asg (.nm 4) (.cst (.bl true)), .asg (.nm 3) (.bin .add (.var 3) (.call 21 (.cons (.var 5) (.cons (.var 2) .nil))))] []], .ifs (.and (.var 4) (.cmp .gt (.var 3) (.ix (.var 1) (.cst (.int 1))))) [.asg (.nm 1) (.tup (.cons (.var 2) (.cons (.var 3) .nil)))] []], .ret (.some (.var 1))]
abbrev n__law_heaviest : List Str := ["lives", "best", "moment", "total", "there", "life"]
/-- 26 _law_end(lives, starts): slots lives, starts, end, b -/
def b__law_end : List DS := [.asg (.nm 2) (.cst (.int 0)), .fr (.nm 3) (.rng (.cons (.bi .len (.cons (.var 0) .nil)) .nil)) [.asg (.nm 2) (.bi .max (.cons (.var 2) (.cons (.bin .add (.ix (.var 1) (.var 3)) (.ix (.ix (.ix (.var 0) (.var 3)) (.cst (.int 1))) (.cst (.int 0)))) .nil)))], .ret (.some (.var 2))]
abbrev n__law_end : List Str := ["lives", "starts", "end", "b"]
/-- 27 _law_number(blocks, asked, b, c): slots blocks, asked, b, c, name, e -/
def b__law_number : List DS := [.asg (.nm 4) (.cst (.str "")), .tr [.ifs (.cmp .eq (.var 1) (.cst (.int 0))) [.ex (.mth "meeting" [(3, 11)] (.var 0) (.cons (.var 2) (.cons (.var 3) .nil)))] [.ifs (.cmp .eq (.var 1) (.cst (.int 1))) [.ex (.mth "len_pair" [(3, 14)] (.var 0) (.cons (.var 2) (.cons (.var 3) .nil)))] [.ex (.mth "length_then" [(3, 12)] (.var 0) (.cons (.var 2) (.cons (.var 3) .nil)))]]] 1 (some 5) [.asg (.nm 4) (.efld "name")], .ret (.some (.var 4))]
abbrev n__law_number : List Str := ["blocks", "asked", "b", "c", "name", "e"]
/-- 28 Blocks____init__(self, lives): slots self, lives, kept, earlier, place, life -/
def b_Blocks____init__ : List DS := [.ifs (.or (.not (.bi .isinstance (.cons (.var 1) (.cons (.tup (.cons (.cst (.ty "tuple")) (.cons (.cst (.ty "list")) .nil))) .nil)))) (.cmp .eq (.bi .len (.cons (.var 1) .nil)) (.cst (.int 0)))) [.rse 2 ["place"] (.cons (.cst (.int 0)) .nil)] [], .asg (.nm 2) (.lst (.nil)), .asg (.nm 3) (.cst (.int 0)), .fr (.tp (.cons (.nm 4) (.cons (.nm 5) (.nil)))) (.enum (.var 1)) [.ifs (.or (.not (.call 1 (.cons (.var 5) .nil))) (.cmp .lt (.ix (.var 5) (.cst (.int 0))) (.var 3))) [.rse 2 ["place"] (.cons (.var 4) .nil)] [], .asg (.nm 3) (.ix (.var 5) (.cst (.int 0))), .ifs (.cmp .eq (.var 4) (.cst (.int 24))) [.rse 2 ["place"] (.cons (.var 4) .nil)] [], .ex (.bm .append (.var 2) (.cons (.tup (.cons (.ix (.var 5) (.cst (.int 0))) (.cons (.bi .tuple (.cons (.ix (.var 5) (.cst (.int 1))) .nil)) .nil))) .nil))], .setf (.var 0) "lives" (.bi .tuple (.cons (.var 2) .nil)), .setf (.var 0) "many" (.bi .len (.cons (.var 2) .nil))]
abbrev n_Blocks____init__ : List Str := ["self", "lives", "kept", "earlier", "place", "life"]
/-- 29 _law_value(lives): slots lives, place, e -/
def b__law_value : List DS := [.asg (.nm 1) (.neg (.cst (.int 1))), .tr [.ex (.new 3 28 (.cons (.var 0) .nil))] 2 (some 2) [.asg (.nm 1) (.efld "place")], .ret (.some (.var 1))]
abbrev n__law_value : List Str := ["lives", "place", "e"]
/-- 30 _law_no_pair(blocks, b, c): slots blocks, b, c, place, e -/
def b__law_no_pair : List DS := [.asg (.nm 3) (.neg (.cst (.int 1))), .tr [.ex (.mth "len_pair" [(3, 14)] (.var 0) (.cons (.var 1) (.cons (.var 2) .nil)))] 2 (some 4) [.asg (.nm 3) (.efld "place")], .ret (.some (.cmp .eq (.var 3) (.cst (.int 0))))]
abbrev n__law_no_pair : List Str := ["blocks", "b", "c", "place", "e"]
/-- 31 Blocks__heaviest(self): slots self, best, first, lengths, total -/
def b_Blocks__heaviest : List DS := [.asg (.nm 1) (.tup (.cons (.cst (.int 0)) (.cons (.neg (.cst (.int 1))) .nil))), .fr (.tp (.cons (.nm 2) (.cons (.nm 3) (.nil)))) (.seq (.fld (.var 0) "lives")) [.asg (.nm 4) (.bi .sum (.cons (.call 6 (.cons (.fld (.var 0) "lives") (.cons (.var 2) .nil))) .nil)), .ifs (.cmp .gt (.var 4) (.ix (.var 1) (.cst (.int 1)))) [.asg (.nm 1) (.tup (.cons (.var 2) (.cons (.var 4) .nil)))] []], .ret (.some (.var 1))]
abbrev n_Blocks__heaviest : List Str := ["self", "best", "first", "lengths", "total"]
/-- 32 _law_looked(blocks, lives): slots blocks, lives, many, pairs, b, c, moment, due -/
def b__law_looked : List DS := [.asg (.nm 2) (.bi .len (.cons (.var 1) .nil)), .ifs (.or (.cmp .ne (.fld (.var 0) "many") (.var 2)) (.or (.cmp .ne (.fld (.var 0) "lives") (.bi .tuple (.cons (.var 1) .nil))) (.cmp .ne (.mth "heaviest" [(3, 31)] (.var 0) (.nil)) (.call 25 (.cons (.var 1) .nil))))) [.ret (.some (.cst (.bl false)))] [], .asg (.nm 3) (.lst (.nil)), .fr (.nm 4) (.rng (.cons (.var 2) .nil)) [.fr (.nm 5) (.rng (.cons (.var 2) .nil)) [.asg (.nm 6) (.call 22 (.cons (.var 1) (.cons (.var 4) (.cons (.var 5) .nil)))), .ifs (.cmp .ne (.mth "meeting" [(3, 11)] (.var 0) (.cons (.var 4) (.cons (.var 5) .nil))) (.var 6)) [.ret (.some (.cst (.bl false)))] [], .ifs (.and (.cmp .ge (.var 6) (.cst (.int 0))) (.cmp .lt (.var 4) (.var 5))) [.ex (.bm .append (.var 3) (.cons (.tup (.cons (.var 4) (.cons (.var 5) .nil))) .nil))] [], .ifs (.and (.cmp .ge (.var 6) (.cst (.int 0))) (.cmp .ne (.mth "len_pair" [(3, 14)] (.var 0) (.cons (.var 4) (.cons (.var 5) .nil))) (.call 21 (.cons (.ix (.var 1) (.var 4)) (.cons (.var 6) .nil))))) [.ret (.some (.cst (.bl false)))] [], .ifs (.and (.cmp .lt (.var 6) (.cst (.int 0))) (.not (.call 30 (.cons (.var 0) (.cons (.var 4) (.cons (.var 5) .nil)))))) [.ret (.some (.cst (.bl false)))] []], .fr (.nm 6) (.rng (.cons (.bin .add (.bin .add (.ix (.ix (.var 1) (.var 4)) (.cst (.int 0))) (.bi .len (.cons (.ix (.ix (.var 1) (.var 4)) (.cst (.int 1))) .nil))) (.cst (.int 2))) .nil)) [.asg (.nm 7) (.call 21 (.cons (.ix (.var 1) (.var 4)) (.cons (.var 6) .nil))), .ifs (.and (.cmp .ge (.var 7) (.cst (.int 0))) (.cmp .ne (.mth "length_then" [(3, 12)] (.var 0) (.cons (.var 4) (.cons (.var 6) .nil))) (.var 7))) [.ret (.some (.cst (.bl false)))] [], .ifs (.and (.cmp .lt (.var 7) (.cst (.int 0))) (.cmp .ne (.call 27 (.cons (.var 0) (.cons (.cst (.int 2)) (.cons (.var 4) (.cons (.var 6) .nil))))) (.cst (.str "moment")))) [.ret (.some (.cst (.bl false)))] []]], .ret (.some (.and (.bi .isinstance (.cons (.mth "pairs" [(3, 9)] (.var 0) (.nil)) (.cons (.cst (.ty "tuple")) .nil))) (.cmp .eq (.mth "pairs" [(3, 9)] (.var 0) (.nil)) (.bi .tuple (.cons (.var 3) .nil)))))]
abbrev n__law_looked : List Str := ["blocks", "lives", "many", "pairs", "b", "c", "moment", "due"]
/-- 33 _law_started(blocks, lives, starts): slots blocks, lives, starts, due, turn, kept, told, pairs -/
def b__law_started : List DS := [.asg (.nm 3) (.call 24 (.cons (.var 1) (.cons (.var 2) .nil))), .fr (.nm 4) (.rng (.cons (.cst (.int 2)) .nil)) [.asg (.nm 5) (.ix (.lst (.cons (.bi .list (.cons (.var 2) .nil)) (.cons (.bi .tuple (.cons (.var 2) .nil)) .nil))) (.var 4)), .asg (.nm 6) (.call 13 (.cons (.var 0) (.cons (.var 5) .nil))), .asg (.nm 7) (.call 15 (.cons (.var 0) (.cons (.var 5) .nil))), .ifs (.or (.not (.bi .isinstance (.cons (.var 6) (.cons (.cst (.ty "bool")) .nil)))) (.or (.cmp .ne (.var 6) (.var 3)) (.or (.not (.bi .isinstance (.cons (.var 7) (.cons (.cst (.ty "bool")) .nil)))) (.cmp .ne (.var 7) (.var 3))))) [.ret (.some (.cst (.bl false)))] [], .ifs (.cmp .ne (.call 16 (.cons (.var 0) (.cons (.var 5) .nil))) (.call 26 (.cons (.var 1) (.cons (.var 2) .nil)))) [.ret (.some (.cst (.bl false)))] []], .ret (.some (.cst (.bl true)))]
abbrev n__law_started : List Str := ["blocks", "lives", "starts", "due", "turn", "kept", "told", "pairs"]
/-- 34 _law_wrong_starts(blocks, starts): slots blocks, starts, many, rows, row, place, e -/
def b__law_wrong_starts : List DS := [.asg (.nm 2) (.bi .len (.cons (.var 1) .nil)), .asg (.nm 3) (.lst (.cons (.tup (.cons (.cst (.int 7)) (.cons (.cst (.int 0)) .nil))) (.cons (.tup (.cons (.sl (.var 1) .none (.some (.neg (.cst (.int 1))))) (.cons (.bin .sub (.var 2) (.cst (.int 1))) .nil))) (.cons (.tup (.cons (.bin .add (.var 1) (.lst (.cons (.cst (.int 0)) .nil))) (.cons (.var 2) .nil))) (.cons (.tup (.cons (.bin .add (.lst (.cons (.neg (.cst (.int 1))) .nil)) (.sl (.var 1) (.some (.cst (.int 1))) .none)) (.cons (.cst (.int 0)) .nil))) (.cons (.tup (.cons (.bin .add (.lst (.cons (.cst (.bl true)) .nil)) (.sl (.var 1) (.some (.cst (.int 1))) .none)) (.cons (.cst (.int 0)) .nil))) .nil)))))), .ex (.bm .append (.var 3) (.cons (.tup (.cons (.bin .add (.sl (.var 1) .none (.some (.neg (.cst (.int 1))))) (.lst (.cons (.cst .non) .nil))) (.cons (.bin .sub (.var 2) (.cst (.int 1))) .nil))) .nil)), .fr (.nm 4) (.seq (.var 3)) [.asg (.nm 5) (.neg (.cst (.int 1))), .tr [.ex (.call 16 (.cons (.var 0) (.cons (.ix (.var 4) (.cst (.int 0))) .nil)))] 2 (some 6) [.asg (.nm 5) (.efld "place")], .ifs (.or (.cmp .ne (.var 5) (.ix (.var 4) (.cst (.int 1)))) (.or (.cmp .isn (.call 13 (.cons (.var 0) (.cons (.ix (.var 4) (.cst (.int 0))) .nil))) (.cst (.bl false))) (.cmp .isn (.call 15 (.cons (.var 0) (.cons (.ix (.var 4) (.cst (.int 0))) .nil))) (.cst (.bl false))))) [.ret (.some (.cst (.bl false)))] []], .ret (.some (.cst (.bl true)))]
abbrev n__law_wrong_starts : List Str := ["blocks", "starts", "many", "rows", "row", "place", "e"]
/-- 35 _law_refusals(lives): slots lives, last, many, rows, b, row, at -/
def b__law_refusals : List DS := [.asg (.nm 1) (.ix (.ix (.var 0) (.neg (.cst (.int 1)))) (.cst (.int 0))), .asg (.nm 2) (.bi .len (.cons (.var 0) .nil)), .asg (.nm 3) (.lst (.cons (.tup (.cons (.cst (.int 7)) (.cons (.cst (.int 0)) .nil))) (.cons (.tup (.cons (.lst (.nil)) (.cons (.cst (.int 0)) .nil))) (.cons (.tup (.cons (.bin .add (.var 0) (.lst (.cons (.tup (.cons (.bin .sub (.var 1) (.cst (.int 1))) (.cons (.tup (.cons (.cst (.int 1)) .nil)) .nil))) .nil))) (.cons (.var 2) .nil))) (.cons (.tup (.cons (.bin .add (.var 0) (.lst (.cons (.tup (.cons (.var 1) (.cons (.tup (.cons (.cst (.int 1)) (.cons (.cst (.int 2)) .nil))) .nil))) .nil))) (.cons (.var 2) .nil))) .nil))))), .asg (.nm 3) (.bin .add (.var 3) (.lst (.cons (.tup (.cons (.bin .add (.var 0) (.lst (.cons (.tup (.cons (.var 1) (.cons (.tup (.nil)) .nil))) .nil))) (.cons (.var 2) .nil))) (.cons (.tup (.cons (.bin .add (.var 0) (.lst (.cons (.tup (.cons (.var 1) (.cons (.tup (.cons (.neg (.cst (.int 1))) .nil)) .nil))) .nil))) (.cons (.var 2) .nil))) (.cons (.tup (.cons (.bin .add (.var 0) (.lst (.cons (.tup (.cons (.var 1) (.cons (.tup (.cons (.cst (.int 1)) (.cons (.cst (.bl true)) .nil))) .nil))) .nil))) (.cons (.var 2) .nil))) .nil))))), .asg (.nm 3) (.bin .add (.var 3) (.lst (.cons (.tup (.cons (.bin .add (.var 0) (.lst (.cons (.tup (.cons (.cst (.bl true)) (.cons (.tup (.cons (.cst (.int 1)) .nil)) .nil))) .nil))) (.cons (.var 2) .nil))) (.cons (.tup (.cons (.bin .add (.var 0) (.lst (.cons (.tup (.cons (.var 1) (.cons (.tup (.cons (.cst (.int 1)) .nil)) (.cons (.cst (.int 0)) .nil)))) .nil))) (.cons (.var 2) .nil))) (.cons (.tup (.cons (.bin .add (.lst (.cons (.tup (.cons (.neg (.cst (.int 1))) (.cons (.tup (.cons (.cst (.int 1)) .nil)) .nil))) .nil)) (.var 0)) (.cons (.cst (.int 0)) .nil))) .nil))))), .asg (.nm 3) (.bin .add (.var 3) (.lst (.cons (.tup (.cons (.bin .add (.var 0) (.lst (.cons (.cst (.int 5)) .nil))) (.cons (.var 2) .nil))) (.cons (.tup (.cons (.bin .add (.var 0) (.lst (.cons (.tup (.cons (.var 1) (.cons (.cst (.int 5)) .nil))) .nil))) (.cons (.var 2) .nil))) (.cons (.tup (.cons (.bin .add (.bin .add (.var 0) (.lst (.cons (.tup (.cons (.var 1) (.cons (.tup (.cons (.cst (.int 2)) (.cons (.cst (.int 1)) (.cons (.cst (.int 2)) .nil)))) .nil))) .nil))) (.lst (.cons (.cst (.int 5)) .nil))) (.cons (.var 2) .nil))) .nil))))), .asg (.nm 3) (.bin .add (.var 3) (.lst (.cons (.tup (.cons (.lc [4] (.nm 4) (.rng (.cons (.cst (.int 25)) .nil)) .none (.tup (.cons (.cst (.int 0)) (.cons (.tup (.cons (.cst (.int 1)) .nil)) .nil)))) (.cons (.cst (.int 24)) .nil))) (.cons (.tup (.cons (.bin .add (.lc [4] (.nm 4) (.rng (.cons (.cst (.int 24)) .nil)) .none (.tup (.cons (.var 4) (.cons (.tup (.cons (.var 4) .nil)) .nil)))) (.lst (.cons (.cst (.int 5)) .nil))) (.cons (.cst (.int 24)) .nil))) .nil)))), .fr (.nm 5) (.seq (.var 3)) [.ifs (.cmp .ne (.call 29 (.cons (.ix (.var 5) (.cst (.int 0))) .nil)) (.ix (.var 5) (.cst (.int 1)))) [.ret (.some (.cst (.bl false)))] []], .ret (.some (.cmp .eq (.fld (.new 3 28 (.cons (.lc [6] (.nm 6) (.rng (.cons (.cst (.int 24)) .nil)) .none (.lst (.cons (.var 6) (.cons (.lst (.cons (.cst (.int 2)) (.cons (.cst (.int 1)) .nil))) .nil)))) .nil)) "many") (.cst (.int 24))))]
abbrev n__law_refusals : List Str := ["lives", "last", "many", "rows", "b", "row", "at"]
/-- 36 law(script): slots script, drawn, many, unit, lives, handed, life, blocks, turn, stacked, total, starts, b, closer, asked -/
def b_law : List DS := [.asg (.nm 1) (.call 17 (.cons (.var 0) .nil)), .asg (.nm 2) (.bin .add (.cst (.int 1)) (.call 18 (.cons (.var 1) (.cons (.cst (.int 0)) (.cons (.cst (.int 6)) .nil))))), .asg (.nm 3) (.cst (.int 1)), .ifs (.cmp .eq (.call 18 (.cons (.var 1) (.cons (.cst (.int 1)) (.cons (.cst (.int 5)) .nil)))) (.cst (.int 1))) [.asg (.nm 3) (.bin .add (.cst (.int 1)) (.call 19 (.cons (.var 1) (.cons (.cst (.int 2)) .nil))))] [], .asg (.nm 4) (.call 20 (.cons (.var 1) (.cons (.var 2) (.cons (.var 3) .nil)))), .asg (.nm 5) (.lc [6] (.nm 6) (.seq (.var 4)) .none (.lst (.cons (.ix (.var 6) (.cst (.int 0))) (.cons (.bi .list (.cons (.ix (.var 6) (.cst (.int 1))) .nil)) .nil)))), .asg (.nm 7) (.new 3 28 (.cons (.var 5) .nil)), .ex (.bm .append (.ix (.ix (.var 5) (.cst (.int 0))) (.cst (.int 1))) (.cons (.cst (.int 0)) .nil)), .ex (.bm .append (.var 5) (.cons (.cst (.int 0)) .nil)), .fr (.nm 8) (.rng (.cons (.cst (.int 2)) .nil)) [.ifs (.not (.call 32 (.cons (.var 7) (.cons (.var 4) .nil)))) [.ret (.some (.cst (.bl false)))] []], .asg (.nm 9) (.lst (.nil)), .asg (.nm 10) (.cst (.int 0)), .fr (.nm 6) (.seq (.var 4)) [.ex (.bm .append (.var 9) (.cons (.var 10) .nil)), .asg (.nm 10) (.bin .add (.var 10) (.ix (.ix (.var 6) (.cst (.int 1))) (.cst (.int 0))))], .ifs (.or (.not (.call 33 (.cons (.var 7) (.cons (.var 4) (.cons (.var 9) .nil))))) (.not (.call 13 (.cons (.var 7) (.cons (.var 9) .nil))))) [.ret (.some (.cst (.bl false)))] [], .fr (.nm 8) (.rng (.cons (.cst (.int 3)) .nil)) [.asg (.nm 11) (.lc [12] (.nm 12) (.rng (.cons (.var 2) .nil)) .none (.bin .mul (.var 3) (.call 18 (.cons (.var 1) (.cons (.bin .add (.bin .add (.cst (.int 53)) (.bin .mul (.var 2) (.var 8))) (.var 12)) (.cons (.cst (.int 9)) .nil)))))), .ifs (.not (.call 33 (.cons (.var 7) (.cons (.var 4) (.cons (.var 11) .nil))))) [.ret (.some (.cst (.bl false)))] [], .asg (.nm 13) (.bi .list (.cons (.var 9) .nil)), .asg (.sub (.var 13) (.bin .mod (.bi .int (.cons (.bin .add (.var 8) (.var 2)) .nil)) (.var 2))) (.bi .max (.cons (.cst (.int 0)) (.cons (.bin .sub (.ix (.var 13) (.bin .mod (.bi .int (.cons (.bin .add (.var 8) (.var 2)) .nil)) (.var 2))) (.cst (.int 1))) .nil))), .ifs (.not (.call 33 (.cons (.var 7) (.cons (.var 4) (.cons (.var 13) .nil))))) [.ret (.some (.cst (.bl false)))] []], .ifs (.not (.call 34 (.cons (.var 7) (.cons (.var 9) .nil)))) [.ret (.some (.cst (.bl false)))] [], .fr (.nm 14) (.rng (.cons (.cst (.int 2)) .nil)) [.ifs (.or (.cmp .ne (.call 27 (.cons (.var 7) (.cons (.var 14) (.cons (.var 2) (.cons (.var 2) .nil))))) (.cst (.str "b"))) (.cmp .ne (.call 27 (.cons (.var 7) (.cons (.var 14) (.cons (.cst (.int 0)) (.cons (.neg (.cst (.int 1))) .nil))))) (.cst (.str "c")))) [.ret (.some (.cst (.bl false)))] [], .ifs (.or (.cmp .ne (.call 27 (.cons (.var 7) (.cons (.var 14) (.cons (.cst (.bl true)) (.cons (.cst (.int 0)) .nil))))) (.cst (.str "b"))) (.cmp .ne (.call 27 (.cons (.var 7) (.cons (.var 14) (.cons (.cst (.int 0)) (.cons (.var 2) .nil))))) (.cst (.str "c")))) [.ret (.some (.cst (.bl false)))] []], .ifs (.or (.cmp .ne (.call 27 (.cons (.var 7) (.cons (.cst (.int 2)) (.cons (.var 2) (.cons (.cst (.int 0)) .nil))))) (.cst (.str "b"))) (.cmp .ne (.call 27 (.cons (.var 7) (.cons (.cst (.int 2)) (.cons (.cst (.int 0)) (.cons (.cst (.bl true)) .nil))))) (.cst (.str "moment")))) [.ret (.some (.cst (.bl false)))] [], .ret (.some (.call 35 (.cons (.var 4) .nil)))]
abbrev n_law : List Str := ["script", "drawn", "many", "unit", "lives", "handed", "life", "blocks", "turn", "stacked", "total", "starts", "b", "closer", "asked"]

end
section
set_option Elab.async false
set_option linter.all false
set_option maxRecDepth 100000
open PySem PySem.Spec PyProof.Rows L2
def topK (i : Nat) : Stmt := PySem.Challenge.pw_shapestold_k70_first_meetings_are_enough.main.body.getD i (.Pass ⟨0, 0, 0, 0⟩)
def inK (i m : Nat) : Stmt := match topK i with
  | .ClassDef (body := b) .. => b.getD m (.Pass ⟨0, 0, 0, 0⟩)
  | s => s
def fnK : List Str := (["is_whole", "is_life", "ending", "first_meeting", "meeting_length", "meeting_pairs", "lengths_then", "wrong_start", "apart", "Blocks.pairs", "Blocks.check_block", "Blocks.meeting", "Blocks.length_then", "is_placing", "Blocks.len_pair", "apart_pairs", "end_of", "_law_draws", "_law_pick", "_law_far", "_law_lives", "_law_length", "_law_meeting", "_law_apart", "_law_placed", "_law_heaviest", "_law_end", "_law_number", "Blocks.__init__", "_law_value", "_law_no_pair", "Blocks.heaviest", "_law_looked", "_law_started", "_law_wrong_starts", "_law_refusals", "law"] : List String).map Str.ofString
def othK : List (Str × GK) := ([("isinstance", .bi .isinstance), ("int", .ty "int"), ("bool", .ty "bool"), ("enumerate", .enum), ("len", .bi .len), ("tuple", .ty "tuple"), ("list", .ty "list"), ("max", .bi .max), ("min", .bi .min), ("range", .rng), ("BadNumber", .exc 1 ["name"]), ("BadValue", .exc 2 ["place"]), ("abs", .bi .abs), ("MOST_LIVES", .cst (.int 24)), ("Blocks", .obj 3), ("sum", .bi .sum), ("ShapeError", .cls 0)] : List (String × GK)).map fun p => (Str.ofString p.1, p.2)
def mtsK : List (Str × Nat × Nat) := [(Str.ofString "pairs", 3, 9), (Str.ofString "check_block", 3, 10), (Str.ofString "meeting", 3, 11), (Str.ofString "length_then", 3, 12), (Str.ofString "len_pair", 3, 14), (Str.ofString "heaviest", 3, 31)]
def newsK : List (Str × Nat × Nat) := [(Str.ofString "Blocks", 3, 28)]
def glK (i : Nat) : List (Str × GK) := (".", .mts (mtsK.filter fun t => decide (t.2.2 < i))) :: ((newsK.filter fun t => decide (t.2.2 < i)).map (fun t => (t.1, .new t.2.1 t.2.2)) ++ (othK ++ fnGl (mtsK.map (·.2.2) ++ newsK.map (·.2.2)) fnK i))
theorem hc_0 : compSs (compS 24 (mkCtx (glK 0) n_is_whole (defScope (topK 5)))) (defBody (topK 5)) = some b_is_whole := by kernel_rfl
theorem sc_0 : FnScope n_is_whole ["thing"] (defScope (topK 5)) := ⟨by kernel_rfl, by kernel_rfl, by kernel_rfl, by decide +kernel, rfl, by decide +kernel, by decide +kernel⟩
theorem hc_1 : compSs (compS 24 (mkCtx (glK 1) n_is_life (defScope (topK 8)))) (defBody (topK 8)) = some b_is_life := by kernel_rfl
theorem sc_1 : FnScope n_is_life ["thing"] (defScope (topK 8)) := ⟨by kernel_rfl, by kernel_rfl, by kernel_rfl, by decide +kernel, rfl, by decide +kernel, by decide +kernel⟩
theorem hc_2 : compSs (compS 24 (mkCtx (glK 2) n_ending (defScope (topK 9)))) (defBody (topK 9)) = some b_ending := by kernel_rfl
theorem sc_2 : FnScope n_ending ["life"] (defScope (topK 9)) := ⟨by kernel_rfl, by kernel_rfl, by kernel_rfl, by decide +kernel, rfl, by decide +kernel, by decide +kernel⟩
theorem hc_3 : compSs (compS 24 (mkCtx (glK 3) n_first_meeting (defScope (topK 10)))) (defBody (topK 10)) = some b_first_meeting := by kernel_rfl
theorem sc_3 : FnScope n_first_meeting ["lives", "b", "c"] (defScope (topK 10)) := ⟨by kernel_rfl, by kernel_rfl, by kernel_rfl, by decide +kernel, rfl, by decide +kernel, by decide +kernel⟩
theorem hc_4 : compSs (compS 24 (mkCtx (glK 4) n_meeting_length (defScope (topK 11)))) (defBody (topK 11)) = some b_meeting_length := by kernel_rfl
theorem sc_4 : FnScope n_meeting_length ["lives", "b", "c"] (defScope (topK 11)) := ⟨by kernel_rfl, by kernel_rfl, by kernel_rfl, by decide +kernel, rfl, by decide +kernel, by decide +kernel⟩
theorem hc_5 : compSs (compS 24 (mkCtx (glK 5) n_meeting_pairs (defScope (topK 12)))) (defBody (topK 12)) = some b_meeting_pairs := by kernel_rfl
theorem sc_5 : FnScope n_meeting_pairs ["lives"] (defScope (topK 12)) := ⟨by kernel_rfl, by kernel_rfl, by kernel_rfl, by decide +kernel, rfl, by decide +kernel, by decide +kernel⟩
theorem hc_6 : compSs (compS 24 (mkCtx (glK 6) n_lengths_then (defScope (topK 13)))) (defBody (topK 13)) = some b_lengths_then := by kernel_rfl
theorem sc_6 : FnScope n_lengths_then ["lives", "moment"] (defScope (topK 13)) := ⟨by kernel_rfl, by kernel_rfl, by kernel_rfl, by decide +kernel, rfl, by decide +kernel, by decide +kernel⟩
theorem hc_7 : compSs (compS 24 (mkCtx (glK 7) n_wrong_start (defScope (topK 16)))) (defBody (topK 16)) = some b_wrong_start := by kernel_rfl
theorem sc_7 : FnScope n_wrong_start ["blocks", "starts"] (defScope (topK 16)) := ⟨by kernel_rfl, by kernel_rfl, by kernel_rfl, by decide +kernel, rfl, by decide +kernel, by decide +kernel⟩
theorem hc_8 : compSs (compS 24 (mkCtx (glK 8) n_apart (defScope (topK 17)))) (defBody (topK 17)) = some b_apart := by kernel_rfl
theorem sc_8 : FnScope n_apart ["start", "length", "other", "taken"] (defScope (topK 17)) := ⟨by kernel_rfl, by kernel_rfl, by kernel_rfl, by decide +kernel, rfl, by decide +kernel, by decide +kernel⟩
theorem hc_9 : compSs (compS 24 (mkCtx (glK 9) n_Blocks__pairs (defScope (inK 14 5)))) (defBody (inK 14 5)) = some b_Blocks__pairs := by kernel_rfl
theorem sc_9 : FnScope n_Blocks__pairs ["self"] (defScope (inK 14 5)) := ⟨by kernel_rfl, by kernel_rfl, by kernel_rfl, by decide +kernel, rfl, by decide +kernel, by decide +kernel⟩
theorem hc_10 : compSs (compS 24 (mkCtx (glK 10) n_Blocks__check_block (defScope (inK 14 1)))) (defBody (inK 14 1)) = some b_Blocks__check_block := by kernel_rfl
theorem sc_10 : FnScope n_Blocks__check_block ["self", "name", "number"] (defScope (inK 14 1)) := ⟨by kernel_rfl, by kernel_rfl, by kernel_rfl, by decide +kernel, rfl, by decide +kernel, by decide +kernel⟩
theorem hc_11 : compSs (compS 24 (mkCtx (glK 11) n_Blocks__meeting (defScope (inK 14 2)))) (defBody (inK 14 2)) = some b_Blocks__meeting := by kernel_rfl
theorem sc_11 : FnScope n_Blocks__meeting ["self", "b", "c"] (defScope (inK 14 2)) := ⟨by kernel_rfl, by kernel_rfl, by kernel_rfl, by decide +kernel, rfl, by decide +kernel, by decide +kernel⟩
theorem hc_12 : compSs (compS 24 (mkCtx (glK 12) n_Blocks__length_then (defScope (inK 14 3)))) (defBody (inK 14 3)) = some b_Blocks__length_then := by kernel_rfl
theorem sc_12 : FnScope n_Blocks__length_then ["self", "b", "moment"] (defScope (inK 14 3)) := ⟨by kernel_rfl, by kernel_rfl, by kernel_rfl, by decide +kernel, rfl, by decide +kernel, by decide +kernel⟩
theorem hc_13 : compSs (compS 24 (mkCtx (glK 13) n_is_placing (defScope (topK 18)))) (defBody (topK 18)) = some b_is_placing := by kernel_rfl
theorem sc_13 : FnScope n_is_placing ["blocks", "starts"] (defScope (topK 18)) := ⟨by kernel_rfl, by kernel_rfl, by kernel_rfl, by decide +kernel, rfl, by decide +kernel, by decide +kernel⟩
theorem hc_14 : compSs (compS 24 (mkCtx (glK 14) n_Blocks__len_pair (defScope (inK 14 4)))) (defBody (inK 14 4)) = some b_Blocks__len_pair := by kernel_rfl
theorem sc_14 : FnScope n_Blocks__len_pair ["self", "b", "c"] (defScope (inK 14 4)) := ⟨by kernel_rfl, by kernel_rfl, by kernel_rfl, by decide +kernel, rfl, by decide +kernel, by decide +kernel⟩
theorem hc_15 : compSs (compS 24 (mkCtx (glK 15) n_apart_pairs (defScope (topK 19)))) (defBody (topK 19)) = some b_apart_pairs := by kernel_rfl
theorem sc_15 : FnScope n_apart_pairs ["blocks", "starts"] (defScope (topK 19)) := ⟨by kernel_rfl, by kernel_rfl, by kernel_rfl, by decide +kernel, rfl, by decide +kernel, by decide +kernel⟩
theorem hc_16 : compSs (compS 24 (mkCtx (glK 16) n_end_of (defScope (topK 20)))) (defBody (topK 20)) = some b_end_of := by kernel_rfl
theorem sc_16 : FnScope n_end_of ["blocks", "starts"] (defScope (topK 20)) := ⟨by kernel_rfl, by kernel_rfl, by kernel_rfl, by decide +kernel, rfl, by decide +kernel, by decide +kernel⟩
theorem hc_17 : compSs (compS 24 (mkCtx (glK 17) n__law_draws (defScope (topK 22)))) (defBody (topK 22)) = some b__law_draws := by kernel_rfl
theorem sc_17 : FnScope n__law_draws ["script"] (defScope (topK 22)) := ⟨by kernel_rfl, by kernel_rfl, by kernel_rfl, by decide +kernel, rfl, by decide +kernel, by decide +kernel⟩
theorem hc_18 : compSs (compS 24 (mkCtx (glK 18) n__law_pick (defScope (topK 23)))) (defBody (topK 23)) = some b__law_pick := by kernel_rfl
theorem sc_18 : FnScope n__law_pick ["drawn", "at", "many"] (defScope (topK 23)) := ⟨by kernel_rfl, by kernel_rfl, by kernel_rfl, by decide +kernel, rfl, by decide +kernel, by decide +kernel⟩
theorem hc_19 : compSs (compS 24 (mkCtx (glK 19) n__law_far (defScope (topK 24)))) (defBody (topK 24)) = some b__law_far := by kernel_rfl
theorem sc_19 : FnScope n__law_far ["drawn", "at"] (defScope (topK 24)) := ⟨by kernel_rfl, by kernel_rfl, by kernel_rfl, by decide +kernel, rfl, by decide +kernel, by decide +kernel⟩
theorem hc_20 : compSs (compS 24 (mkCtx (glK 20) n__law_lives (defScope (topK 25)))) (defBody (topK 25)) = some b__law_lives := by kernel_rfl
theorem sc_20 : FnScope n__law_lives ["drawn", "many", "unit"] (defScope (topK 25)) := ⟨by kernel_rfl, by kernel_rfl, by kernel_rfl, by decide +kernel, rfl, by decide +kernel, by decide +kernel⟩
theorem hc_21 : compSs (compS 24 (mkCtx (glK 21) n__law_length (defScope (topK 26)))) (defBody (topK 26)) = some b__law_length := by kernel_rfl
theorem sc_21 : FnScope n__law_length ["life", "moment"] (defScope (topK 26)) := ⟨by kernel_rfl, by kernel_rfl, by kernel_rfl, by decide +kernel, rfl, by decide +kernel, by decide +kernel⟩
theorem hc_22 : compSs (compS 24 (mkCtx (glK 22) n__law_meeting (defScope (topK 27)))) (defBody (topK 27)) = some b__law_meeting := by kernel_rfl
theorem sc_22 : FnScope n__law_meeting ["lives", "b", "c"] (defScope (topK 27)) := ⟨by kernel_rfl, by kernel_rfl, by kernel_rfl, by decide +kernel, rfl, by decide +kernel, by decide +kernel⟩
theorem hc_23 : compSs (compS 24 (mkCtx (glK 23) n__law_apart (defScope (topK 28)))) (defBody (topK 28)) = some b__law_apart := by kernel_rfl
theorem sc_23 : FnScope n__law_apart ["lives", "starts", "moment"] (defScope (topK 28)) := ⟨by kernel_rfl, by kernel_rfl, by kernel_rfl, by decide +kernel, rfl, by decide +kernel, by decide +kernel⟩
theorem hc_24 : compSs (compS 24 (mkCtx (glK 24) n__law_placed (defScope (topK 29)))) (defBody (topK 29)) = some b__law_placed := by kernel_rfl
theorem sc_24 : FnScope n__law_placed ["lives", "starts"] (defScope (topK 29)) := ⟨by kernel_rfl, by kernel_rfl, by kernel_rfl, by decide +kernel, rfl, by decide +kernel, by decide +kernel⟩
theorem hc_25 : compSs (compS 24 (mkCtx (glK 25) n__law_heaviest (defScope (topK 30)))) (defBody (topK 30)) = some b__law_heaviest := by kernel_rfl
theorem sc_25 : FnScope n__law_heaviest ["lives"] (defScope (topK 30)) := ⟨by kernel_rfl, by kernel_rfl, by kernel_rfl, by decide +kernel, rfl, by decide +kernel, by decide +kernel⟩
theorem hc_26 : compSs (compS 24 (mkCtx (glK 26) n__law_end (defScope (topK 31)))) (defBody (topK 31)) = some b__law_end := by kernel_rfl
theorem sc_26 : FnScope n__law_end ["lives", "starts"] (defScope (topK 31)) := ⟨by kernel_rfl, by kernel_rfl, by kernel_rfl, by decide +kernel, rfl, by decide +kernel, by decide +kernel⟩
theorem hc_27 : compSs (compS 24 (mkCtx (glK 27) n__law_number (defScope (topK 32)))) (defBody (topK 32)) = some b__law_number := by kernel_rfl
theorem sc_27 : FnScope n__law_number ["blocks", "asked", "b", "c"] (defScope (topK 32)) := ⟨by kernel_rfl, by kernel_rfl, by kernel_rfl, by decide +kernel, rfl, by decide +kernel, by decide +kernel⟩
theorem hc_28 : compSs (compS 24 (mkCtx (glK 28) n_Blocks____init__ (defScope (inK 14 0)))) (defBody (inK 14 0)) = some b_Blocks____init__ := by kernel_rfl
theorem sc_28 : FnScope n_Blocks____init__ ["self", "lives"] (defScope (inK 14 0)) := ⟨by kernel_rfl, by kernel_rfl, by kernel_rfl, by decide +kernel, rfl, by decide +kernel, by decide +kernel⟩
theorem hc_29 : compSs (compS 24 (mkCtx (glK 29) n__law_value (defScope (topK 33)))) (defBody (topK 33)) = some b__law_value := by kernel_rfl
theorem sc_29 : FnScope n__law_value ["lives"] (defScope (topK 33)) := ⟨by kernel_rfl, by kernel_rfl, by kernel_rfl, by decide +kernel, rfl, by decide +kernel, by decide +kernel⟩
theorem hc_30 : compSs (compS 24 (mkCtx (glK 30) n__law_no_pair (defScope (topK 34)))) (defBody (topK 34)) = some b__law_no_pair := by kernel_rfl
theorem sc_30 : FnScope n__law_no_pair ["blocks", "b", "c"] (defScope (topK 34)) := ⟨by kernel_rfl, by kernel_rfl, by kernel_rfl, by decide +kernel, rfl, by decide +kernel, by decide +kernel⟩
theorem hc_31 : compSs (compS 24 (mkCtx (glK 31) n_Blocks__heaviest (defScope (inK 14 6)))) (defBody (inK 14 6)) = some b_Blocks__heaviest := by kernel_rfl
theorem sc_31 : FnScope n_Blocks__heaviest ["self"] (defScope (inK 14 6)) := ⟨by kernel_rfl, by kernel_rfl, by kernel_rfl, by decide +kernel, rfl, by decide +kernel, by decide +kernel⟩
theorem hc_32 : compSs (compS 24 (mkCtx (glK 32) n__law_looked (defScope (topK 35)))) (defBody (topK 35)) = some b__law_looked := by kernel_rfl
theorem sc_32 : FnScope n__law_looked ["blocks", "lives"] (defScope (topK 35)) := ⟨by kernel_rfl, by kernel_rfl, by kernel_rfl, by decide +kernel, rfl, by decide +kernel, by decide +kernel⟩
theorem hc_33 : compSs (compS 24 (mkCtx (glK 33) n__law_started (defScope (topK 36)))) (defBody (topK 36)) = some b__law_started := by kernel_rfl
theorem sc_33 : FnScope n__law_started ["blocks", "lives", "starts"] (defScope (topK 36)) := ⟨by kernel_rfl, by kernel_rfl, by kernel_rfl, by decide +kernel, rfl, by decide +kernel, by decide +kernel⟩
theorem hc_34 : compSs (compS 24 (mkCtx (glK 34) n__law_wrong_starts (defScope (topK 37)))) (defBody (topK 37)) = some b__law_wrong_starts := by kernel_rfl
theorem sc_34 : FnScope n__law_wrong_starts ["blocks", "starts"] (defScope (topK 37)) := ⟨by kernel_rfl, by kernel_rfl, by kernel_rfl, by decide +kernel, rfl, by decide +kernel, by decide +kernel⟩
theorem hc_35 : compSs (compS 24 (mkCtx (glK 35) n__law_refusals (defScope (topK 38)))) (defBody (topK 38)) = some b__law_refusals := by kernel_rfl
theorem sc_35 : FnScope n__law_refusals ["lives"] (defScope (topK 38)) := ⟨by kernel_rfl, by kernel_rfl, by kernel_rfl, by decide +kernel, rfl, by decide +kernel, by decide +kernel⟩
theorem hc_36 : compSs (compS 24 (mkCtx (glK 36) n_law (defScope (topK 39)))) (defBody (topK 39)) = some b_law := by kernel_rfl
theorem sc_36 : FnScope n_law ["script"] (defScope (topK 39)) := ⟨by kernel_rfl, by kernel_rfl, by kernel_rfl, by decide +kernel, rfl, by decide +kernel, by decide +kernel⟩

end
local macro_rules | `(tactic| walk_at "pg") => `(tactic| first | assumption | exact get_last' _ _ | (refine get_app ?_; walk_at "pg") | fail)
local macro_rules | `(tactic| walk_at "pq") => `(tactic| first | assumption | (refine isSq.app ?_ _; walk_at "pq") | fail)
local macro_rules | `(tactic| walk_at "pst") => `(tactic| first | exact still_none | exact still_tup | exact still_kl | exact still_ref (by walk_at "pg") | exact still_q (by walk_at "pq") | (refine still_seq ?_; assumption) | fail)
local macro_rules | `(tactic| walk_at "pe") => `(tactic| first | exact Ext.refl _ | assumption | (refine Ext.trans ?_ (Ext.app _ _); walk_at "pe") | fail)
local macro_rules | `(tactic| walk_at "ps2") => `(tactic| first | (((try simp only [decide_eq_true_eq, decide_eq_false_iff_not, Bool.not_eq_true', Bool.not_eq_false', Bool.not_true, Bool.not_false, List.length_append, List.length_replicate, List.length_cons, List.length_nil, List.length_set, List.length_map, List.length_take, List.length_drop, List.length_range] at *); first | omega | (exfalso; omega))) | fail)
local macro_rules | `(tactic| walk_at "ps2") => `(tactic| first | (with_reducible rfl) | fail)
local macro_rules | `(tactic| walk_at "ps2") => `(tactic| first | (walk_at "pe") | fail)
local macro_rules | `(tactic| walk_at "ps") => `(tactic| first | (((try simp only [decide_eq_true_eq, decide_eq_false_iff_not, Bool.not_eq_true', Bool.not_eq_false', Bool.not_true, Bool.not_false, List.length_append, List.length_replicate, List.length_cons, List.length_nil, List.length_set, List.length_map, List.length_take, List.length_drop, List.length_range] at *); first | omega | (exfalso; omega))) | fail)
local macro_rules | `(tactic| walk_at "ps") => `(tactic| first | (rfl) | fail)
local macro_rules | `(tactic| walk_at "ps") => `(tactic| first | (walk_at "pe") | fail)
section
set_option Elab.async false
set_option linter.all false
set_option maxRecDepth 100000
set_option maxHeartbeats 8000000
open PySem
local macro_rules | `(tactic| walk_at "pd1") => `(tactic| first | (((with_reducible refine r_tp (xs := ?xs) ?g0 ?g1 ?_); (case g0 => (refine seq_ref ?_; walk_at "pg")); (case g1 => exact rfl))) | fail)
local macro_rules | `(tactic| walk_at "pd1") => `(tactic| first | (((with_reducible refine r_eisi (er := ?er) ?g0 ?_); (case g0 => exact rfl))) | fail)
local macro_rules | `(tactic| walk_at "pd1") => `(tactic| first | (((with_reducible refine r_efld (er := ?er) (d := ?d) ?g0 ?g1 ?_); (case g0 => exact rfl); (case g1 => exact rfl))) | fail)
local macro_rules | `(tactic| walk_at "pd1") => `(tactic| first | (((with_reducible refine t_lg (xs := ?xs) ?g0 ?_); (case g0 => walk_at "pg"))) | fail)
local macro_rules | `(tactic| walk_at "pd1") => `(tactic| first | (((with_reducible refine p_lg (xs := ?xs) ?g0 ?_ ?_); (case g0 => walk_at "pg"))) | fail)
local macro_rules | `(tactic| walk_at "pd1") => `(tactic| first | (with_reducible refine p_eg ?_ ?_) | fail)
local macro_rules | `(tactic| walk_at "pd1") => `(tactic| first | (((with_reducible refine x_bm (xs := ?xs) ?g0 ?_); (case g0 => walk_at "pg"))) | fail)
local macro_rules | `(tactic| walk_at "pd1") => `(tactic| first | (((with_reducible refine c_ne_ll (l := ?l) ?g0 ?g1 ?_); (case g0 => walk_at "pg"); (case g1 => walk_at "pg"))) | fail)
local macro_rules | `(tactic| walk_at "pd1") => `(tactic| first | (with_reducible refine x_ends ?_) | fail)
local macro_rules | `(tactic| walk_at "pd1") => `(tactic| first | (with_reducible refine g_tg ?_) | fail)
local macro_rules | `(tactic| walk_at "pd1") => `(tactic| first | (with_reducible refine l_tg ?_) | fail)
local macro_rules | `(tactic| walk_at "pd1") => `(tactic| first | (with_reducible refine t_tg ?_) | fail)
local macro_rules | `(tactic| walk_at "pd1") => `(tactic| first | (with_reducible refine c_isnN ?_) | fail)
local macro_rules | `(tactic| walk_at "pd1") => `(tactic| first | (with_reducible refine c_isN ?_) | fail)
local macro_rules | `(tactic| walk_at "pd1") => `(tactic| first | (with_reducible refine c_net ?_) | fail)
local macro_rules | `(tactic| walk_at "pd1") => `(tactic| first | (with_reducible refine c_eqt ?_) | fail)
local macro_rules | `(tactic| walk_at "pd1") => `(tactic| first | (with_reducible refine c_nes ?_) | fail)
local macro_rules | `(tactic| walk_at "pd1") => `(tactic| first | (with_reducible refine c_eqs ?_) | fail)
local macro_rules | `(tactic| walk_at "pd1") => `(tactic| first | (with_reducible refine c_neb ?_) | fail)
local macro_rules | `(tactic| walk_at "pd1") => `(tactic| first | (with_reducible refine c_eqb ?_) | fail)
local macro_rules | `(tactic| walk_at "pd1") => `(tactic| first | (((with_reducible refine st_and ?g0 ?_); (case g0 => walk_at "pst"))) | fail)
local macro_rules | `(tactic| walk_at "pd1") => `(tactic| first | (((with_reducible refine isi_q_tl (f := ?f) ?g0 ?_); (case g0 => walk_at "pq"))) | fail)
local macro_rules | `(tactic| walk_at "pd1") => `(tactic| first | (((with_reducible refine g_q (f := ?f) ?g0 ?_); (case g0 => walk_at "pq"))) | fail)
local macro_rules | `(tactic| walk_at "pd1") => `(tactic| first | (((with_reducible refine i_q (f := ?f) ?g0 ?_ ?_ ?_); (case g0 => walk_at "pq"))) | fail)
local macro_rules | `(tactic| walk_at "pd1") => `(tactic| first | (((with_reducible refine t_q (f := ?f) ?g0 ?_); (case g0 => walk_at "pq"))) | fail)
local macro_rules | `(tactic| walk_at "pd1") => `(tactic| first | (((with_reducible refine l_q (f := ?f) ?g0 ?_); (case g0 => walk_at "pq"))) | fail)
local macro_rules | `(tactic| walk_at "pd1") => `(tactic| first | (((with_reducible refine n_q (f := ?f) ?g0 ?_); (case g0 => walk_at "pq"))) | fail)
local macro_rules | `(tactic| walk_at "pd1") => `(tactic| first | (((with_reducible refine m_lg ?g0 ?_); (case g0 => exact Nat.le_of_ble_eq_true rfl))) | fail)
local macro_rules | `(tactic| walk_at "pd1") => `(tactic| first | (((with_reducible refine m_tg ?g0 ?_); (case g0 => exact Nat.le_of_ble_eq_true rfl))) | fail)
local macro_rules | `(tactic| walk_at "pd1") => `(tactic| first | (((with_reducible refine g_lg (xs := ?xs) ?g0 ?_); (case g0 => walk_at "pg"))) | fail)
local macro_rules | `(tactic| walk_at "pd1") => `(tactic| first | (((with_reducible refine i_lg (xs := ?xs) (d := ?d) ?g0 ?g1 ?_); (case g0 => walk_at "pg"); (case g1 => exact rfl))) | fail)
local macro_rules | `(tactic| walk_at "pd1") => `(tactic| first | (((with_reducible refine i_tg (d := ?d) ?g0 ?_); (case g0 => exact rfl))) | fail)
local macro_rules | `(tactic| walk_at "pd1") => `(tactic| first | (((with_reducible refine l_lg (xs := ?xs) ?g0 ?_); (case g0 => walk_at "pg"))) | fail)
local macro_rules | `(tactic| walk_at "pd1") => `(tactic| first | (((with_reducible refine n_lg (xs := ?xs) ?g0 ?_); (case g0 => walk_at "pg"))) | fail)
local macro_rules | `(tactic| walk_at "pd1") => `(tactic| first | (with_reducible refine n_tg ?_) | fail)
local macro_rules | `(tactic| walk_at "pd1") => `(tactic| first | (((with_reducible refine isi_ty0 (a := ?a) ?g0 ?g1 ?_); (case g0 => assumption); (case g1 => decide))) | fail)
local macro_rules | `(tactic| walk_at "pd1") => `(tactic| first | (((with_reducible refine isi_l_tl (xs := ?xs) ?g0 ?_); (case g0 => walk_at "pg"))) | fail)
local macro_rules | `(tactic| walk_at "pd1") => `(tactic| first | (((with_reducible refine isi_l_tup (xs := ?xs) ?g0 ?_); (case g0 => walk_at "pg"))) | fail)
local macro_rules | `(tactic| walk_at "pd1") => `(tactic| first | (((with_reducible refine isi_l_bool (xs := ?xs) ?g0 ?_); (case g0 => walk_at "pg"))) | fail)
local macro_rules | `(tactic| walk_at "pd1") => `(tactic| first | (((with_reducible refine isi_l_int (xs := ?xs) ?g0 ?_); (case g0 => walk_at "pg"))) | fail)
local macro_rules | `(tactic| walk_at "pd1") => `(tactic| first | (with_reducible refine isi_u_tl ?_) | fail)
local macro_rules | `(tactic| walk_at "pd1") => `(tactic| first | (with_reducible refine isi_u_tup ?_) | fail)
local macro_rules | `(tactic| walk_at "pd1") => `(tactic| first | (with_reducible refine isi_u_bool ?_) | fail)
local macro_rules | `(tactic| walk_at "pd1") => `(tactic| first | (with_reducible refine isi_u_int ?_) | fail)
local macro_rules | `(tactic| walk_at "pd1") => `(tactic| first | (with_reducible refine isi_t_tl ?_) | fail)
local macro_rules | `(tactic| walk_at "pd1") => `(tactic| first | (with_reducible refine isi_t_tup ?_) | fail)
local macro_rules | `(tactic| walk_at "pd1") => `(tactic| first | (with_reducible refine isi_t_bool ?_) | fail)
local macro_rules | `(tactic| walk_at "pd1") => `(tactic| first | (with_reducible refine isi_t_int ?_) | fail)
local macro_rules | `(tactic| walk_at "pd1") => `(tactic| first | (with_reducible refine isi_n_tl ?_) | fail)
local macro_rules | `(tactic| walk_at "pd1") => `(tactic| first | (with_reducible refine isi_n_tup ?_) | fail)
local macro_rules | `(tactic| walk_at "pd1") => `(tactic| first | (with_reducible refine isi_n_bool ?_) | fail)
local macro_rules | `(tactic| walk_at "pd1") => `(tactic| first | (with_reducible refine isi_n_int ?_) | fail)
local macro_rules | `(tactic| walk_at "pd1") => `(tactic| first | (with_reducible refine isi_s_tl ?_) | fail)
local macro_rules | `(tactic| walk_at "pd1") => `(tactic| first | (with_reducible refine isi_s_tup ?_) | fail)
local macro_rules | `(tactic| walk_at "pd1") => `(tactic| first | (with_reducible refine isi_s_bool ?_) | fail)
local macro_rules | `(tactic| walk_at "pd1") => `(tactic| first | (with_reducible refine isi_s_int ?_) | fail)
local macro_rules | `(tactic| walk_at "pd1") => `(tactic| first | (with_reducible refine isi_b_tl ?_) | fail)
local macro_rules | `(tactic| walk_at "pd1") => `(tactic| first | (with_reducible refine isi_b_tup ?_) | fail)
local macro_rules | `(tactic| walk_at "pd1") => `(tactic| first | (with_reducible refine isi_b_bool ?_) | fail)
local macro_rules | `(tactic| walk_at "pd1") => `(tactic| first | (with_reducible refine isi_b_int ?_) | fail)
local macro_rules | `(tactic| walk_at "pd1") => `(tactic| first | (with_reducible refine isi_i_tl ?_) | fail)
local macro_rules | `(tactic| walk_at "pd1") => `(tactic| first | (with_reducible refine isi_i_tup ?_) | fail)
local macro_rules | `(tactic| walk_at "pd1") => `(tactic| first | (with_reducible refine isi_i_bool ?_) | fail)
local macro_rules | `(tactic| walk_at "pd1") => `(tactic| first | (with_reducible refine isi_i_int ?_) | fail)
local macro_rules | `(tactic| walk_at "pd1") => `(tactic| first | (with_reducible refine o_new ?_ ?_ ?_) | fail)
local macro_rules | `(tactic| walk_at "pd1") => `(tactic| first | (with_reducible refine o_exc ?_ ?_ ?_) | fail)
local macro_rules | `(tactic| walk_at "pd1") => `(tactic| first | (((with_reducible refine lc_end ?g0 ?_); (case g0 => first | exact rfl | skip))) | fail)
local macro_rules | `(tactic| walk_at "pd1") => `(tactic| first | (with_reducible refine o_val ?_ ?_) | fail)
local macro_rules | `(tactic| walk_at "pd1") => `(tactic| first | (((with_reducible refine g_l (f := ?f) ?g0 ?_); (case g0 => walk_at "pg"))) | fail)
local macro_rules | `(tactic| walk_at "pd1") => `(tactic| first | (with_reducible refine g_t ?_) | fail)
local macro_rules | `(tactic| walk_at "pd1") => `(tactic| first | (with_reducible refine g_r2 ?_ ?_ ?_ ?_ ?_) | fail)
local macro_rules | `(tactic| walk_at "pd1") => `(tactic| first | (with_reducible refine g_r1 ?_ ?_ ?_) | fail)
local macro_rules | `(tactic| walk_at "pd1") => `(tactic| first | (with_reducible refine on_if ?_) | fail)
local macro_rules | `(tactic| walk_at "pd1") => `(tactic| first | (with_reducible refine t_neg ?_) | fail)
local macro_rules | `(tactic| walk_at "pd1") => `(tactic| first | (with_reducible refine t_nb ?_) | fail)
local macro_rules | `(tactic| walk_at "pd1") => `(tactic| first | (((with_reducible refine t_and (fun hb => ?_) (fun hb => ?_)) <;> ((try (cases hb; done)); (try simp only [decide_eq_true_eq, decide_eq_false_iff_not, Bool.not_eq_true', Bool.not_eq_false'] at hb)))) | fail)
local macro_rules | `(tactic| walk_at "pd1") => `(tactic| first | (((with_reducible refine t_bl (fun hb => ?_) (fun hb => ?_)) <;> ((try (cases hb; done)); (try simp only [decide_eq_true_eq, decide_eq_false_iff_not, Bool.not_eq_true', Bool.not_eq_false'] at hb)))) | fail)
local macro_rules | `(tactic| walk_at "pd1") => `(tactic| first | (with_reducible refine c_isn ?_) | fail)
local macro_rules | `(tactic| walk_at "pd1") => `(tactic| first | (with_reducible refine c_is ?_) | fail)
local macro_rules | `(tactic| walk_at "pd1") => `(tactic| first | (with_reducible refine c_ne ?_) | fail)
local macro_rules | `(tactic| walk_at "pd1") => `(tactic| first | (with_reducible refine c_eq ?_) | fail)
local macro_rules | `(tactic| walk_at "pd1") => `(tactic| first | (with_reducible refine c_ge ?_) | fail)
local macro_rules | `(tactic| walk_at "pd1") => `(tactic| first | (with_reducible refine c_gt ?_) | fail)
local macro_rules | `(tactic| walk_at "pd1") => `(tactic| first | (with_reducible refine c_le ?_) | fail)
local macro_rules | `(tactic| walk_at "pd1") => `(tactic| first | (with_reducible refine c_lt ?_) | fail)
local macro_rules | `(tactic| walk_at "pd1") => `(tactic| first | (((with_reducible refine p_l (f := ?f) ?g0 ?_ ?_); (case g0 => walk_at "pg"))) | fail)
local macro_rules | `(tactic| walk_at "pd1") => `(tactic| first | (with_reducible refine p_e ?_ ?_) | fail)
local macro_rules | `(tactic| walk_at "pd1") => `(tactic| first | (((with_reducible refine w_l (f := ?f) ?g0 ?_ ?_ ?_); (case g0 => walk_at "pg"))) | fail)
local macro_rules | `(tactic| walk_at "pd1") => `(tactic| first | (with_reducible refine w_e ?_ ?_ ?_) | fail)
local macro_rules | `(tactic| walk_at "pd1") => `(tactic| first | (((with_reducible refine i_l (f := ?f) ?g0 ?_ ?_ ?_); (case g0 => walk_at "pg"))) | fail)
local macro_rules | `(tactic| walk_at "pd1") => `(tactic| first | (with_reducible refine i_t ?_ ?_ ?_) | fail)
local macro_rules | `(tactic| walk_at "pd1") => `(tactic| first | (with_reducible refine i_tn ?_ ?_) | fail)
local macro_rules | `(tactic| walk_at "pd1") => `(tactic| first | (((with_reducible refine t_l (f := ?f) ?g0 ?_); (case g0 => walk_at "pg"))) | fail)
local macro_rules | `(tactic| walk_at "pd1") => `(tactic| first | (((with_reducible refine l_l (f := ?f) ?g0 ?_); (case g0 => walk_at "pg"))) | fail)
local macro_rules | `(tactic| walk_at "pd1") => `(tactic| first | (((with_reducible refine n_l (f := ?f) ?g0 ?_); (case g0 => walk_at "pg"))) | fail)
local macro_rules | `(tactic| walk_at "pd1") => `(tactic| first | (with_reducible refine b_min ?_) | fail)
local macro_rules | `(tactic| walk_at "pd1") => `(tactic| first | (with_reducible refine b_max ?_) | fail)
local macro_rules | `(tactic| walk_at "pd1") => `(tactic| first | (with_reducible refine b_intb ?_) | fail)
local macro_rules | `(tactic| walk_at "pd1") => `(tactic| first | (with_reducible refine b_int ?_) | fail)
local macro_rules | `(tactic| walk_at "pd1") => `(tactic| first | (with_reducible refine b_abs ?_) | fail)
local macro_rules | `(tactic| walk_at "pd1") => `(tactic| first | (with_reducible refine t_t ?_) | fail)
local macro_rules | `(tactic| walk_at "pd1") => `(tactic| first | (with_reducible refine l_t ?_) | fail)
local macro_rules | `(tactic| walk_at "pd1") => `(tactic| first | (with_reducible refine n_t ?_) | fail)
local macro_rules | `(tactic| walk_at "pd1") => `(tactic| first | (((with_reducible refine s_lf (f := ?f) ?g0 ?_ ?_); (case g0 => walk_at "pg"))) | fail)
local macro_rules | `(tactic| walk_at "pd1") => `(tactic| first | (((with_reducible refine s_lt (f := ?f) ?g0 ?_ ?_); (case g0 => walk_at "pg"))) | fail)
local macro_rules | `(tactic| walk_at "pd1") => `(tactic| first | (with_reducible refine s_tf ?_ ?_) | fail)
local macro_rules | `(tactic| walk_at "pd1") => `(tactic| first | (with_reducible refine s_tt ?_ ?_) | fail)
local macro_rules | `(tactic| walk_at "pd1") => `(tactic| first | ((with_reducible refine r_on (show partD (some (D.int _)) = some (some _) from rfl) ?_)) | fail)
local macro_rules | `(tactic| walk_at "pd1") => `(tactic| first | ((with_reducible refine r_on (show partD none = some none from rfl) ?_)) | fail)
local macro_rules | `(tactic| walk_at "pd1") => `(tactic| first | (((with_reducible refine x_l1 (i := ?i) ?g0 ?_ ?_ ?_); (case g0 => walk_at "pg"))) | fail)
local macro_rules | `(tactic| walk_at "pd1") => `(tactic| first | (((with_reducible refine a_ll (f := ?f) (g := ?g) ?g0 ?g1 ?_ ?_); (case g0 => walk_at "pg"); (case g1 => walk_at "pg"))) | fail)
local macro_rules | `(tactic| walk_at "pd1") => `(tactic| first | (with_reducible refine r_powI ?_ ?_ ?_ ?_) | fail)
local macro_rules | `(tactic| walk_at "pd1") => `(tactic| first | (with_reducible refine x_t1 ?_ ?_ ?_) | fail)
local macro_rules | `(tactic| walk_at "pd1") => `(tactic| first | (with_reducible refine r_fdivI ?_ ?_ ?_) | fail)
local macro_rules | `(tactic| walk_at "pd1") => `(tactic| first | (with_reducible refine a_tt ?_ ?_) | fail)
local macro_rules | `(tactic| walk_at "pd1") => `(tactic| first | (with_reducible refine r_modI ?_ ?_) | fail)
local macro_rules | `(tactic| walk_at "pd1") => `(tactic| first | (with_reducible refine r_mulI ?_ ?_) | fail)
local macro_rules | `(tactic| walk_at "pd1") => `(tactic| first | (with_reducible refine r_subI ?_) | fail)
local macro_rules | `(tactic| walk_at "pd1") => `(tactic| first | (with_reducible refine r_addI ?_) | fail)
local macro_rules | `(tactic| walk_at "pd1") => `(tactic| first | (((with_reducible refine b_sorted (xs := ?xs) ?g0 ?_ ?_ ?_ ?_ ?_); (case g0 => walk_at "pg"))) | fail)
local macro_rules | `(tactic| walk_at "pd1") => `(tactic| first | (with_reducible refine b_lcm ?_ ?_ ?_) | fail)
local macro_rules | `(tactic| walk_at "pd1") => `(tactic| first | (((with_reducible refine w_d (kvs := ?kvs) ?g0 ?_ ?_); (case g0 => walk_at "pg"))) | fail)
local macro_rules | `(tactic| walk_at "pd1") => `(tactic| first | (((with_reducible refine i_d (kvs := ?kvs) ?g0 ?_ ?_); (case g0 => walk_at "pg"))) | fail)
local macro_rules | `(tactic| walk_at "pd1") => `(tactic| first | (((with_reducible refine c_dNin (kvs := ?kvs) ?g0 ?_); (case g0 => walk_at "pg"))) | fail)
local macro_rules | `(tactic| walk_at "pd1") => `(tactic| first | (((with_reducible refine c_dIn (kvs := ?kvs) ?g0 ?_); (case g0 => walk_at "pg"))) | fail)
local macro_rules | `(tactic| walk_at "pd1") => `(tactic| first | (((with_reducible refine m_get (kvs := ?kvs) ?g0 ?_); (case g0 => walk_at "pg"))) | fail)
local macro_rules | `(tactic| walk_at "pd1") => `(tactic| first | (((with_reducible refine o_get (kvs := ?kvs) ?g0 ?_); (case g0 => walk_at "pg"))) | fail)
local macro_rules | `(tactic| walk_at "pd1") => `(tactic| first | (with_reducible refine c_isnb ?_) | fail)
local macro_rules | `(tactic| walk_at "pd1") => `(tactic| first | (with_reducible refine c_isb ?_) | fail)
local macro_rules | `(tactic| walk_at "pd1") => `(tactic| first | ((with_reducible refine ch_lt (fun hb => ?_) (fun hb => ?_))) | fail)
local macro_rules | `(tactic| walk_at "pd1") => `(tactic| first | ((with_reducible refine ch_le (fun hb => ?_) (fun hb => ?_))) | fail)
local macro_rules | `(tactic| walk_at "pd1") => `(tactic| first | (((with_reducible refine t_setf (fs := ?fs) ?g0 ?g1 ?g2 ?_); (case g0 => walk_at "pg"); (case g1 => first | assumption | exact rfl); (case g2 => (show _ < 1000); decide))) | fail)
local macro_rules | `(tactic| walk_at "pd1") => `(tactic| first | (((with_reducible refine t_mth (fs := ?fs) (i := ?i) (g := ?gg) ?g0 ?g1 ?g2 ?g3 ?_); (case g0 => walk_at "pg"); (case g1 => exact rfl); (case g2 => exact rfl); (case g3 => first | assumption | exact rfl))) | fail)
local macro_rules | `(tactic| walk_at "pd1") => `(tactic| first | (((with_reducible refine f_fld (fs := ?fs) (d := ?d) ?g0 ?g1 ?g2 ?_); (case g0 => walk_at "pg"); (case g1 => exact rfl); (case g2 => first | assumption | exact rfl))) | fail)
local macro_rules | `(tactic| walk_at "pd1") => `(tactic| first | (((with_reducible refine r_new (p := ?p) ?g0 ?_); (case g0 => first | assumption | exact rfl))) | fail)
local macro_rules | `(tactic| walk_at "pd1") => `(tactic| first | (with_reducible refine b_bits ?_) | fail)
local macro_rules | `(tactic| walk_at "pd1") => `(tactic| first | (with_reducible refine r_get ?_) | fail)
local macro_rules | `(tactic| walk_at "pd1") => `(tactic| first | (with_reducible refine r_fld ?_) | fail)
local macro_rules | `(tactic| walk_at "pd1") => `(tactic| first | (with_reducible refine r_mth ?_) | fail)
local macro_rules | `(tactic| walk_at "pd1") => `(tactic| first | (with_reducible refine r_iRev ?_) | fail)
local macro_rules | `(tactic| walk_at "pd1") => `(tactic| first | (with_reducible refine r_dnew ?_) | fail)
local macro_rules | `(tactic| walk_at "pd1") => `(tactic| first | (with_reducible refine r_bits ?_) | fail)
local macro_rules | `(tactic| walk_at "pd1") => `(tactic| first | (with_reducible refine r_setf ?_) | fail)
local macro_rules | `(tactic| walk_at "pd1") => `(tactic| first | (with_reducible refine m_l2 ?_) | fail)
local macro_rules | `(tactic| walk_at "pd1") => `(tactic| first | (with_reducible refine m_l3 ?_) | fail)
local macro_rules | `(tactic| walk_at "pd1") => `(tactic| first | (with_reducible refine m_l1 ?_) | fail)
local macro_rules | `(tactic| walk_at "pd1") => `(tactic| first | (with_reducible refine m_l0 ?_) | fail)
local macro_rules | `(tactic| walk_at "pd1") => `(tactic| first | (with_reducible refine m_t2 ?_) | fail)
local macro_rules | `(tactic| walk_at "pd1") => `(tactic| first | (with_reducible refine m_t1 ?_) | fail)
local macro_rules | `(tactic| walk_at "pd1") => `(tactic| first | (with_reducible refine m_t0 ?_) | fail)
local macro_rules | `(tactic| walk_at "pd1") => `(tactic| first | (((with_reducible refine r_tp (xs := ?xs) ?g0 ?g1 ?_); (case g0 => exact rfl); (case g1 => exact rfl))) | fail)
local macro_rules | `(tactic| walk_at "pd1") => `(tactic| first | (with_reducible refine r_nm ?_) | fail)
local macro_rules | `(tactic| walk_at "pd1") => `(tactic| first | (with_reducible refine r_iEnum ?_) | fail)
local macro_rules | `(tactic| walk_at "pd1") => `(tactic| first | (with_reducible refine r_iRng ?_) | fail)
local macro_rules | `(tactic| walk_at "pd1") => `(tactic| first | (with_reducible refine r_iSeq ?_) | fail)
local macro_rules | `(tactic| walk_at "pd1") => `(tactic| first | (with_reducible refine r_tsN ?_) | fail)
local macro_rules | `(tactic| walk_at "pd1") => `(tactic| first | (with_reducible refine r_tsC ?_) | fail)
local macro_rules | `(tactic| walk_at "pd1") => `(tactic| first | (with_reducible refine r_sub ?_) | fail)
local macro_rules | `(tactic| walk_at "pd1") => `(tactic| first | (with_reducible refine r_esN ?_) | fail)
local macro_rules | `(tactic| walk_at "pd1") => `(tactic| first | (with_reducible refine r_esC ?_) | fail)
local macro_rules | `(tactic| walk_at "pd1") => `(tactic| first | (((with_reducible refine r_oS ?_); (try dsimp only))) | fail)
local macro_rules | `(tactic| walk_at "pd1") => `(tactic| first | (((with_reducible refine r_oN ?_); (try dsimp only))) | fail)
local macro_rules | `(tactic| walk_at "pd1") => `(tactic| first | (((with_reducible refine r_bm ?_ ?g0); (case g0 => exact rfl))) | fail)
local macro_rules | `(tactic| walk_at "pd1") => `(tactic| first | (with_reducible refine r_chn ?_) | fail)
local macro_rules | `(tactic| walk_at "pd1") => `(tactic| first | (with_reducible refine r_lc ?_) | fail)
local macro_rules | `(tactic| walk_at "pd1") => `(tactic| first | (with_reducible refine r_lst ?_) | fail)
local macro_rules | `(tactic| walk_at "pd1") => `(tactic| first | (with_reducible refine r_tup ?_) | fail)
local macro_rules | `(tactic| walk_at "pd1") => `(tactic| first | (with_reducible refine r_sl ?_) | fail)
local macro_rules | `(tactic| walk_at "pd1") => `(tactic| first | (with_reducible refine r_neg ?_) | fail)
local macro_rules | `(tactic| walk_at "pd1") => `(tactic| first | (with_reducible refine r_ife ?_) | fail)
local macro_rules | `(tactic| walk_at "pd1") => `(tactic| first | (with_reducible refine r_not ?_) | fail)
local macro_rules | `(tactic| walk_at "pd1") => `(tactic| first | (with_reducible refine r_or ?_) | fail)
local macro_rules | `(tactic| walk_at "pd1") => `(tactic| first | (with_reducible refine r_and ?_) | fail)
local macro_rules | `(tactic| walk_at "pd1") => `(tactic| first | (with_reducible refine r_ix ?_) | fail)
local macro_rules | `(tactic| walk_at "pd1") => `(tactic| first | (with_reducible refine r_bi ?_) | fail)
local macro_rules | `(tactic| walk_at "pd1") => `(tactic| first | (with_reducible refine r_bin ?_) | fail)
local macro_rules | `(tactic| walk_at "pd1") => `(tactic| first | (with_reducible refine r_cmp ?_) | fail)
local macro_rules | `(tactic| walk_at "pd1") => `(tactic| first | (with_reducible refine r_cst ?_) | fail)
local macro_rules | `(tactic| walk_at "pd1") => `(tactic| first | (((with_reducible refine r_call (g := ?g) ?g0 ?_); (case g0 => first | assumption | exact rfl))) | fail)
local macro_rules | `(tactic| walk_at "pd1") => `(tactic| first | (((with_reducible refine r_var (d := ?d) ?g0 ?_); (case g0 => exact rfl))) | fail)
local macro_rules | `(tactic| walk_at "pd1") => `(tactic| first | (((with_reducible refine r_aug (j := ?j) ?g0 ?_); (case g0 => exact rfl))) | fail)
local macro_rules | `(tactic| walk_at "pd1") => `(tactic| first | (with_reducible refine r_fr ?_) | fail)
local macro_rules | `(tactic| walk_at "pd1") => `(tactic| first | (with_reducible refine r_tr ?_) | fail)
local macro_rules | `(tactic| walk_at "pd1") => `(tactic| first | (with_reducible refine r_ifs ?_) | fail)
local macro_rules | `(tactic| walk_at "pd1") => `(tactic| first | (with_reducible refine r_asg ?_) | fail)
local macro_rules | `(tactic| walk_at "pd1") => `(tactic| first | (with_reducible refine r_seq ?_) | fail)
local macro_rules | `(tactic| walk_at "pd1") => `(tactic| first | (((with_reducible refine r_ex ?_); (try dsimp only))) | fail)
local macro_rules | `(tactic| walk_at "pd1") => `(tactic| first | (((with_reducible refine r_pas ?_); (try dsimp only))) | fail)
local macro_rules | `(tactic| walk_at "pd1") => `(tactic| first | (((with_reducible refine r_rse ?_); (try dsimp only))) | fail)
local macro_rules | `(tactic| walk_at "pd1") => `(tactic| first | (((with_reducible refine r_cnt ?_); (try dsimp only))) | fail)
local macro_rules | `(tactic| walk_at "pd1") => `(tactic| first | (((with_reducible refine r_brk ?_); (try dsimp only))) | fail)
local macro_rules | `(tactic| walk_at "pd1") => `(tactic| first | (((with_reducible refine r_retN ?_); (try dsimp only))) | fail)
local macro_rules | `(tactic| walk_at "pd1") => `(tactic| first | (((with_reducible refine r_ret ?_); (try dsimp only))) | fail)
local macro_rules | `(tactic| walk_at "pd1") => `(tactic| first | (((with_reducible refine r_nil ?_); (try dsimp only))) | fail)
/-! ### is_whole -/
def p_is_whole : List D → Store → Out → Prop := fun ds S o => ∃ d a, ds = [d] ∧ tyName S d = some a ∧ o = .val (.bl (a == "int"))
theorem whole_b (a : String) : (isTy a "int" = true → (!isTy a "bool") = (a == "int")) ∧ (isTy a "int" = false → false = (a == "int")) := by
  unfold isTy
  constructor
  · intro h
    simp at h ⊢
    rcases h with rfl | rfl <;> decide
  · intro h
    simp at h ⊢
    exact h.1
theorem vc_is_whole (M : Md) : ∀ ds S o, p_is_whole ds S o → wpSs (M.C (excO S o)) b_is_whole (retO S o) (startD n_is_whole ds) S := by
  rintro ds S o ⟨d, a, rfl, ht, rfl⟩
  simp only [b_is_whole, startD, List.map, List.length, List.replicate, Nat.reduceAdd, Nat.reduceSub, List.cons_append, List.nil_append]
  repeat' (walk_at "pd1")
  all_goals try (walk_at "ps")
  · rw [(whole_b a).1 (by assumption)]
  · rw [← (whole_b a).2 (by assumption)]
section
variable {S : Store} {Q : DQ} {E : EQ} {i : Int} {b : Bool} {x : Str} {xs : List D} {f : List Int} {n : Nat}
theorem u_w_i (h : Q (.bl true) S) : FnS p_is_whole [.int i] S Q E := ⟨_, ⟨_, _, rfl, rfl, rfl⟩, h⟩
theorem u_w_b (h : Q (.bl false) S) : FnS p_is_whole [.bl b] S Q E := ⟨_, ⟨_, _, rfl, rfl, rfl⟩, h⟩
theorem u_w_s (h : Q (.bl false) S) : FnS p_is_whole [.str x] S Q E := ⟨_, ⟨_, _, rfl, rfl, rfl⟩, h⟩
theorem u_w_n (h : Q (.bl false) S) : FnS p_is_whole [.non] S Q E := ⟨_, ⟨_, _, rfl, rfl, rfl⟩, h⟩
theorem u_w_t (h : Q (.bl false) S) : FnS p_is_whole [.tup xs] S Q E := ⟨_, ⟨_, _, rfl, rfl, rfl⟩, h⟩
theorem u_w_u (h : Q (.bl false) S) : FnS p_is_whole [tupI f] S Q E := ⟨_, ⟨_, _, rfl, rfl, rfl⟩, h⟩
theorem u_w_l (ha : S[n]? = some (.lst xs)) (h : Q (.bl false) S) : FnS p_is_whole [.ref n] S Q E := ⟨_, ⟨_, _, rfl, ty_l ha, rfl⟩, h⟩
theorem u_w_g {d : D} {a : String} (ha : tyName S d = some a) (h : Q (.bl (a == "int")) S) : FnS p_is_whole [d] S Q E := ⟨_, ⟨_, _, rfl, ha, rfl⟩, h⟩
end
/-! ### _law_draws -/
def digL : Nat → Nat → List Int
  | 0, _ => []
  | k + 1, n => ((n % 10 : Nat) : Int) :: if n / 10 = 0 then [] else digL k (n / 10)
def drawsL (ns : List Int) : List Int := ns.flatMap fun z => digL 18 z.natAbs
def Dig (l : List Int) : Prop := ∀ i, 0 ≤ cf l i ∧ cf l i ≤ 9
theorem dig_mem {l : List Int} (h : ∀ x ∈ l, 0 ≤ x ∧ x ≤ 9) : Dig l := fun i => by
  rcases Nat.lt_or_ge i l.length with z | z
  · rw [cf_in z]
    exact h _ (List.getElem_mem z)
  · rw [cf_out z]
    omega
theorem dig_digL : ∀ k n x, x ∈ digL k n → 0 ≤ x ∧ x ≤ 9
  | 0, n, x, h => by cases h
  | k + 1, n, x, h => by
    unfold digL at h
    rcases List.mem_cons.mp h with rfl | h
    · omega
    · split at h
      · cases h
      · exact dig_digL k _ x h
theorem dig_draws (ns : List Int) : Dig (drawsL ns) := dig_mem fun x h => by
  unfold drawsL at h
  obtain ⟨z, _, h⟩ := List.mem_flatMap.mp h
  exact dig_digL _ _ _ h
theorem len_digL : ∀ k n, (digL k n).length ≤ k
  | 0, n => Nat.le_refl _
  | k + 1, n => by
    unfold digL
    rw [List.length_cons]
    split
    · simp
    · have := len_digL k (n / 10)
      omega
theorem len_draws (ns : List Int) : (drawsL ns).length ≤ 18 * ns.length := by
  unfold drawsL
  induction ns with
  | nil => simp
  | cons z ns ih =>
    rw [List.flatMap_cons, List.length_append, List.length_cons]
    have := len_digL 18 z.natAbs
    omega
def p__law_draws : List D → Store → Out → Prop := fun ds S o => ∃ ns : List Int, ds = [.kl (ns.map .int)] ∧ ns.length ≤ 63 ∧ o = .new ((drawsL ns).map .int)
theorem digL_step {k n : Nat} : digL (k + 1) n = ((n % 10 : Nat) : Int) :: if n / 10 = 0 then [] else digL k (n / 10) := rfl
theorem vc__law_draws (M : Md) : ∀ ds S o, p__law_draws ds S o → wpSs (M.C (excO S o)) b__law_draws (retO S o) (startD n__law_draws ds) S := by
  rintro ds S o ⟨ns, rfl, hl, rfl⟩
  simp only [b__law_draws, startD, List.map, List.length, List.replicate, Nat.reduceAdd, Nat.reduceSub, List.cons_append, List.nil_append]
  repeat' (walk_at "pd1")
  refine r_slK ?_
  have ec : cutL (ns.map D.int) none (some 63) = ns.map D.int := by
    rw [cut_to _ _ (by decide), List.take_of_length_le (by rw [ml]; exact hl)]
  rw [ec]
  have hs : ((S ++ [lstI []] ++ [SO.lst (ns.map D.int)]) : Store) = S ++ [lstI []] ++ [lstI ns] := rfl
  rw [hs]
  repeat' (walk_at "pd1")
  have hA : ∀ L : List Int, ((S ++ [lstI L] ++ [lstI ns]) : Store)[S.length]? = some (lstI L) := fun L => get_app (get_last _ _)
  have hB : ∀ L : List Int, ((S ++ [lstI L] ++ [lstI ns]) : Store)[(S ++ [lstI []]).length]? = some (lstI ns) := fun L => by
    have e : (S ++ [lstI []]).length = (S ++ [lstI L]).length := by simp
    rw [e]
    exact get_last _ _
  have hC : ∀ (L : List Int) (x : SO), ((S ++ [lstI L] ++ [lstI ns]) : Store).set S.length x = S ++ [x] ++ [lstI ns] := fun L x => by
    rw [List.set_append_left _ _ (by simp), set_last]
  refine FR_ind (fun k e S' => S' = S ++ [lstI (drawsL (ns.take k))] ++ [lstI ns] ∧ ∃ u v w, e = [some (.kl (ns.map D.int)), some (.ref S.length), u, v, w]) ⟨rfl, _, _, _, rfl⟩ ?_ ?_
  · rintro k y e S' hy ⟨rfl, u, v, w, rfl⟩
    obtain ⟨hk, rfl⟩ := map_get hy
    have hk63 : (drawsL (ns.take k)).length ≤ 18 * 63 := by
      have := len_draws (ns.take k)
      rw [List.length_take] at this
      omega
    have htk : drawsL (ns.take (k + 1)) = drawsL (ns.take k) ++ digL 18 (cf ns k).natAbs := by
      unfold drawsL
      rw [List.take_add_one, List.getElem?_eq_getElem hk, List.flatMap_append, cf_in hk]
      simp
    repeat' (walk_at "pd1")
    all_goals try (walk_at "ps")
    refine FR_ind (fun j e S' => ∃ (L : List Int) (n : Nat) (w : Option D), S' = S ++ [lstI L] ++ [lstI ns] ∧ L.length ≤ 18 * 63 + j ∧ e = [some (.kl (ns.map D.int)), some (.ref S.length), some (.int (cf ns k)), some (.int n), w] ∧ L ++ digL (18 - j) n = drawsL (ns.take (k + 1)))
      ⟨_, _, _, rfl, by omega, rfl, by rw [htk]⟩ ?_ ?_
    · rintro j y e S' hy ⟨L, n, w2, rfl, hL, rfl, hd⟩
      obtain ⟨hj, rfl⟩ := rngL_get hy
      obtain ⟨m, hm⟩ : ∃ m, 18 - j = m + 1 := ⟨18 - j - 1, by omega⟩
      rw [hm, digL_step] at hd
      have hj18 : j < 18 := hj
      repeat' (walk_at "pd1")
      all_goals try (walk_at "ps")
      skip
      repeat' (walk_at "pd1")
      all_goals try (walk_at "ps")
      all_goals try (exact Nat.lt_of_le_of_lt (show Nat.log2 10 ≤ 3 by decide) (by decide))
      all_goals (try rw [hC])
      all_goals rename_i hb
      · have hz : n / 10 = 0 := by omega
        rw [if_pos hz] at hd
        refine st_and (still_ref (hB _)) ⟨?_, _, _, _, rfl⟩
        rw [← hd]
        rfl
      · have hz : ¬ n / 10 = 0 := by omega
        rw [if_neg hz] at hd
        refine ⟨L ++ [(n : Int) % 10], n / 10, _, rfl, by rw [List.length_append]; show _ + 1 ≤ _; omega, rfl, ?_⟩
        rw [show 18 - (j + 1) = m by omega, List.append_assoc]
        exact hd
    · rintro e S' ⟨L, n, w2, rfl, hL, rfl, hd⟩
      rw [rngL_len] at hd
      refine st_and (still_ref (hB _)) ⟨?_, _, _, _, rfl⟩
      rw [← hd]
      show _ = S ++ [lstI (L ++ [])] ++ [lstI ns]
      rw [List.append_nil]
  · rintro e S' ⟨rfl, u, v, w, rfl⟩
    rw [ml, List.take_length]
    repeat' (walk_at "pd1")
    all_goals try (walk_at "ps")
    · exact hA _

/-! ### _law_pick -/
def pickF (l : List Int) (a : Nat) (m : Int) : Int := if a + 1 < l.length ∧ 10 < m then (cf l a * 10 + cf l (a + 1)) % m else if a < l.length then cf l a % m else 0
theorem pickF_rng (l : List Int) (a : Nat) (m : Int) (h : 0 < m) : 0 ≤ pickF l a m ∧ pickF l a m < m := by
  unfold pickF
  split
  · exact ⟨Int.emod_nonneg _ (by omega), Int.emod_lt_of_pos _ h⟩
  · split
    · exact ⟨Int.emod_nonneg _ (by omega), Int.emod_lt_of_pos _ h⟩
    · omega
def p__law_pick : List D → Store → Out → Prop := fun ds S o => ∃ (n : Nat) (l : List Int) (a m : Int), ds = [.ref n, .int a, .int m] ∧ S[n]? = some (lstI l) ∧ Dig l ∧ 0 ≤ a ∧ 0 < m ∧ o = .val (.int (pickF l a.toNat m))
theorem vc__law_pick (M : Md) : ∀ ds S o, p__law_pick ds S o → wpSs (M.C (excO S o)) b__law_pick (retO S o) (startD n__law_pick ds) S := by
  rintro ds S o ⟨n, l, a, m, rfl, hn, hd, ha, hm, rfl⟩
  have e1 : (a + 1).toNat = a.toNat + 1 := by omega
  simp only [b__law_pick, startD, List.map, List.length, List.replicate, Nat.reduceAdd, Nat.reduceSub, List.cons_append, List.nil_append]
  repeat' (walk_at "pd1")
  all_goals try (walk_at "ps")
  · have := hd a.toNat
    have h1 : (cf l a.toNat).natAbs < 2 ^ 4 := by omega
    have h2 := log_lt ⟨h1⟩
    have h3 : Nat.log2 (Int.natAbs 10) ≤ 4 := by decide
    omega
  all_goals unfold pickF
  all_goals (try rw [e1])
  · rw [if_pos (by omega)]
  · rw [if_neg (by omega), if_pos (by omega)]
  · rw [if_neg (by omega), if_pos (by omega)]
  · rw [if_neg (by omega), if_neg (by omega)]
theorem u_law_pick {S : Store} {Q : DQ} {E : EQ} {n : Nat} {l : List Int} {a m : Int} (hn : S[n]? = some (lstI l)) (hd : Dig l) (ha : 0 ≤ a) (hm : 0 < m) (h : Q (.int (pickF l a.toNat m)) S) : FnS p__law_pick [.ref n, .int a, .int m] S Q E := ⟨_, ⟨n, l, a, m, rfl, hn, hd, ha, hm, rfl⟩, h⟩
theorem len_is_whole : ∀ ds S o, p_is_whole ds S o → ds.length = 1 := by rintro _ S o ⟨d, a, rfl, _⟩; rfl
theorem ok_is_whole : ∀ ds S o, p_is_whole ds S o → refsLts S.length ds = true → WfS S → okO S.length o = true := by rintro _ S o ⟨d, a, rfl, _, rfl⟩ _ _; rfl
theorem len__law_draws : ∀ ds S o, p__law_draws ds S o → ds.length = 1 := by rintro _ S o ⟨ns, rfl, _, rfl⟩; rfl
theorem ok__law_draws : ∀ ds S o, p__law_draws ds S o → refsLts S.length ds = true → WfS S → okO S.length o = true := by rintro _ S o ⟨ns, rfl, _, rfl⟩ _ _; exact ok_l _ _
theorem len__law_pick : ∀ ds S o, p__law_pick ds S o → ds.length = 3 := by rintro _ S o ⟨n, l, a, m, rfl, _, _, _, _, rfl⟩; rfl
theorem ok__law_pick : ∀ ds S o, p__law_pick ds S o → refsLts S.length ds = true → WfS S → okO S.length o = true := by rintro _ S o ⟨n, l, a, m, rfl, _, _, _, _, rfl⟩ _ _; rfl
theorem u_law_draws {S : Store} {Q : DQ} {E : EQ} {ns : List Int} (hl : ns.length ≤ 63) (h : Q (.ref S.length) (S ++ [lstI (drawsL ns)])) : FnS p__law_draws [.kl (ns.map .int)] S Q E := ⟨_, ⟨ns, rfl, hl, rfl⟩, h⟩


end
section
set_option Elab.async false
set_option linter.all false
set_option maxRecDepth 100000
set_option maxHeartbeats 8000000
open PySem
local macro_rules | `(tactic| walk_at "pd1") => `(tactic| first | (((with_reducible refine r_tp (xs := ?xs) ?g0 ?g1 ?_); (case g0 => (refine seq_ref ?_; walk_at "pg")); (case g1 => exact rfl))) | fail)
local macro_rules | `(tactic| walk_at "pd1") => `(tactic| first | (((with_reducible refine r_eisi (er := ?er) ?g0 ?_); (case g0 => exact rfl))) | fail)
local macro_rules | `(tactic| walk_at "pd1") => `(tactic| first | (((with_reducible refine r_efld (er := ?er) (d := ?d) ?g0 ?g1 ?_); (case g0 => exact rfl); (case g1 => exact rfl))) | fail)
local macro_rules | `(tactic| walk_at "pd1") => `(tactic| first | (((with_reducible refine t_lg (xs := ?xs) ?g0 ?_); (case g0 => walk_at "pg"))) | fail)
local macro_rules | `(tactic| walk_at "pd1") => `(tactic| first | (((with_reducible refine p_lg (xs := ?xs) ?g0 ?_ ?_); (case g0 => walk_at "pg"))) | fail)
local macro_rules | `(tactic| walk_at "pd1") => `(tactic| first | (with_reducible refine p_eg ?_ ?_) | fail)
local macro_rules | `(tactic| walk_at "pd1") => `(tactic| first | (((with_reducible refine x_bm (xs := ?xs) ?g0 ?_); (case g0 => walk_at "pg"))) | fail)
local macro_rules | `(tactic| walk_at "pd1") => `(tactic| first | (((with_reducible refine c_ne_ll (l := ?l) ?g0 ?g1 ?_); (case g0 => walk_at "pg"); (case g1 => walk_at "pg"))) | fail)
local macro_rules | `(tactic| walk_at "pd1") => `(tactic| first | (with_reducible refine x_ends ?_) | fail)
local macro_rules | `(tactic| walk_at "pd1") => `(tactic| first | (with_reducible refine g_tg ?_) | fail)
local macro_rules | `(tactic| walk_at "pd1") => `(tactic| first | (with_reducible refine l_tg ?_) | fail)
local macro_rules | `(tactic| walk_at "pd1") => `(tactic| first | (with_reducible refine t_tg ?_) | fail)
local macro_rules | `(tactic| walk_at "pd1") => `(tactic| first | (with_reducible refine c_isnN ?_) | fail)
local macro_rules | `(tactic| walk_at "pd1") => `(tactic| first | (with_reducible refine c_isN ?_) | fail)
local macro_rules | `(tactic| walk_at "pd1") => `(tactic| first | (with_reducible refine c_net ?_) | fail)
local macro_rules | `(tactic| walk_at "pd1") => `(tactic| first | (with_reducible refine c_eqt ?_) | fail)
local macro_rules | `(tactic| walk_at "pd1") => `(tactic| first | (with_reducible refine c_nes ?_) | fail)
local macro_rules | `(tactic| walk_at "pd1") => `(tactic| first | (with_reducible refine c_eqs ?_) | fail)
local macro_rules | `(tactic| walk_at "pd1") => `(tactic| first | (with_reducible refine c_neb ?_) | fail)
local macro_rules | `(tactic| walk_at "pd1") => `(tactic| first | (with_reducible refine c_eqb ?_) | fail)
local macro_rules | `(tactic| walk_at "pd1") => `(tactic| first | (((with_reducible refine st_and ?g0 ?_); (case g0 => walk_at "pst"))) | fail)
local macro_rules | `(tactic| walk_at "pd1") => `(tactic| first | (((with_reducible refine isi_q_tl (f := ?f) ?g0 ?_); (case g0 => walk_at "pq"))) | fail)
local macro_rules | `(tactic| walk_at "pd1") => `(tactic| first | (((with_reducible refine g_q (f := ?f) ?g0 ?_); (case g0 => walk_at "pq"))) | fail)
local macro_rules | `(tactic| walk_at "pd1") => `(tactic| first | (((with_reducible refine i_q (f := ?f) ?g0 ?_ ?_ ?_); (case g0 => walk_at "pq"))) | fail)
local macro_rules | `(tactic| walk_at "pd1") => `(tactic| first | (((with_reducible refine t_q (f := ?f) ?g0 ?_); (case g0 => walk_at "pq"))) | fail)
local macro_rules | `(tactic| walk_at "pd1") => `(tactic| first | (((with_reducible refine l_q (f := ?f) ?g0 ?_); (case g0 => walk_at "pq"))) | fail)
local macro_rules | `(tactic| walk_at "pd1") => `(tactic| first | (((with_reducible refine n_q (f := ?f) ?g0 ?_); (case g0 => walk_at "pq"))) | fail)
local macro_rules | `(tactic| walk_at "pd1") => `(tactic| first | (((with_reducible refine m_lg ?g0 ?_); (case g0 => exact Nat.le_of_ble_eq_true rfl))) | fail)
local macro_rules | `(tactic| walk_at "pd1") => `(tactic| first | (((with_reducible refine m_tg ?g0 ?_); (case g0 => exact Nat.le_of_ble_eq_true rfl))) | fail)
local macro_rules | `(tactic| walk_at "pd1") => `(tactic| first | (((with_reducible refine g_lg (xs := ?xs) ?g0 ?_); (case g0 => walk_at "pg"))) | fail)
local macro_rules | `(tactic| walk_at "pd1") => `(tactic| first | (((with_reducible refine i_lg (xs := ?xs) (d := ?d) ?g0 ?g1 ?_); (case g0 => walk_at "pg"); (case g1 => exact rfl))) | fail)
local macro_rules | `(tactic| walk_at "pd1") => `(tactic| first | (((with_reducible refine i_tg (d := ?d) ?g0 ?_); (case g0 => exact rfl))) | fail)
local macro_rules | `(tactic| walk_at "pd1") => `(tactic| first | (((with_reducible refine l_lg (xs := ?xs) ?g0 ?_); (case g0 => walk_at "pg"))) | fail)
local macro_rules | `(tactic| walk_at "pd1") => `(tactic| first | (((with_reducible refine n_lg (xs := ?xs) ?g0 ?_); (case g0 => walk_at "pg"))) | fail)
local macro_rules | `(tactic| walk_at "pd1") => `(tactic| first | (with_reducible refine n_tg ?_) | fail)
local macro_rules | `(tactic| walk_at "pd1") => `(tactic| first | (((with_reducible refine isi_ty0 (a := ?a) ?g0 ?g1 ?_); (case g0 => assumption); (case g1 => decide))) | fail)
local macro_rules | `(tactic| walk_at "pd1") => `(tactic| first | (((with_reducible refine isi_l_tl (xs := ?xs) ?g0 ?_); (case g0 => walk_at "pg"))) | fail)
local macro_rules | `(tactic| walk_at "pd1") => `(tactic| first | (((with_reducible refine isi_l_tup (xs := ?xs) ?g0 ?_); (case g0 => walk_at "pg"))) | fail)
local macro_rules | `(tactic| walk_at "pd1") => `(tactic| first | (((with_reducible refine isi_l_bool (xs := ?xs) ?g0 ?_); (case g0 => walk_at "pg"))) | fail)
local macro_rules | `(tactic| walk_at "pd1") => `(tactic| first | (((with_reducible refine isi_l_int (xs := ?xs) ?g0 ?_); (case g0 => walk_at "pg"))) | fail)
local macro_rules | `(tactic| walk_at "pd1") => `(tactic| first | (with_reducible refine isi_u_tl ?_) | fail)
local macro_rules | `(tactic| walk_at "pd1") => `(tactic| first | (with_reducible refine isi_u_tup ?_) | fail)
local macro_rules | `(tactic| walk_at "pd1") => `(tactic| first | (with_reducible refine isi_u_bool ?_) | fail)
local macro_rules | `(tactic| walk_at "pd1") => `(tactic| first | (with_reducible refine isi_u_int ?_) | fail)
local macro_rules | `(tactic| walk_at "pd1") => `(tactic| first | (with_reducible refine isi_t_tl ?_) | fail)
local macro_rules | `(tactic| walk_at "pd1") => `(tactic| first | (with_reducible refine isi_t_tup ?_) | fail)
local macro_rules | `(tactic| walk_at "pd1") => `(tactic| first | (with_reducible refine isi_t_bool ?_) | fail)
local macro_rules | `(tactic| walk_at "pd1") => `(tactic| first | (with_reducible refine isi_t_int ?_) | fail)
local macro_rules | `(tactic| walk_at "pd1") => `(tactic| first | (with_reducible refine isi_n_tl ?_) | fail)
local macro_rules | `(tactic| walk_at "pd1") => `(tactic| first | (with_reducible refine isi_n_tup ?_) | fail)
local macro_rules | `(tactic| walk_at "pd1") => `(tactic| first | (with_reducible refine isi_n_bool ?_) | fail)
local macro_rules | `(tactic| walk_at "pd1") => `(tactic| first | (with_reducible refine isi_n_int ?_) | fail)
local macro_rules | `(tactic| walk_at "pd1") => `(tactic| first | (with_reducible refine isi_s_tl ?_) | fail)
local macro_rules | `(tactic| walk_at "pd1") => `(tactic| first | (with_reducible refine isi_s_tup ?_) | fail)
local macro_rules | `(tactic| walk_at "pd1") => `(tactic| first | (with_reducible refine isi_s_bool ?_) | fail)
local macro_rules | `(tactic| walk_at "pd1") => `(tactic| first | (with_reducible refine isi_s_int ?_) | fail)
local macro_rules | `(tactic| walk_at "pd1") => `(tactic| first | (with_reducible refine isi_b_tl ?_) | fail)
local macro_rules | `(tactic| walk_at "pd1") => `(tactic| first | (with_reducible refine isi_b_tup ?_) | fail)
local macro_rules | `(tactic| walk_at "pd1") => `(tactic| first | (with_reducible refine isi_b_bool ?_) | fail)
local macro_rules | `(tactic| walk_at "pd1") => `(tactic| first | (with_reducible refine isi_b_int ?_) | fail)
local macro_rules | `(tactic| walk_at "pd1") => `(tactic| first | (with_reducible refine isi_i_tl ?_) | fail)
local macro_rules | `(tactic| walk_at "pd1") => `(tactic| first | (with_reducible refine isi_i_tup ?_) | fail)
local macro_rules | `(tactic| walk_at "pd1") => `(tactic| first | (with_reducible refine isi_i_bool ?_) | fail)
local macro_rules | `(tactic| walk_at "pd1") => `(tactic| first | (with_reducible refine isi_i_int ?_) | fail)
local macro_rules | `(tactic| walk_at "pd1") => `(tactic| first | (with_reducible refine o_new ?_ ?_ ?_) | fail)
local macro_rules | `(tactic| walk_at "pd1") => `(tactic| first | (with_reducible refine o_exc ?_ ?_ ?_) | fail)
local macro_rules | `(tactic| walk_at "pd1") => `(tactic| first | (((with_reducible refine lc_end ?g0 ?_); (case g0 => first | exact rfl | skip))) | fail)
local macro_rules | `(tactic| walk_at "pd1") => `(tactic| first | (with_reducible refine o_val ?_ ?_) | fail)
local macro_rules | `(tactic| walk_at "pd1") => `(tactic| first | (((with_reducible refine g_l (f := ?f) ?g0 ?_); (case g0 => walk_at "pg"))) | fail)
local macro_rules | `(tactic| walk_at "pd1") => `(tactic| first | (with_reducible refine g_t ?_) | fail)
local macro_rules | `(tactic| walk_at "pd1") => `(tactic| first | (with_reducible refine g_r2 ?_ ?_ ?_ ?_ ?_) | fail)
local macro_rules | `(tactic| walk_at "pd1") => `(tactic| first | (with_reducible refine g_r1 ?_ ?_ ?_) | fail)
local macro_rules | `(tactic| walk_at "pd1") => `(tactic| first | (with_reducible refine on_if ?_) | fail)
local macro_rules | `(tactic| walk_at "pd1") => `(tactic| first | (with_reducible refine t_neg ?_) | fail)
local macro_rules | `(tactic| walk_at "pd1") => `(tactic| first | (with_reducible refine t_nb ?_) | fail)
local macro_rules | `(tactic| walk_at "pd1") => `(tactic| first | (((with_reducible refine t_and (fun hb => ?_) (fun hb => ?_)) <;> ((try (cases hb; done)); (try simp only [decide_eq_true_eq, decide_eq_false_iff_not, Bool.not_eq_true', Bool.not_eq_false'] at hb)))) | fail)
local macro_rules | `(tactic| walk_at "pd1") => `(tactic| first | (((with_reducible refine t_bl (fun hb => ?_) (fun hb => ?_)) <;> ((try (cases hb; done)); (try simp only [decide_eq_true_eq, decide_eq_false_iff_not, Bool.not_eq_true', Bool.not_eq_false'] at hb)))) | fail)
local macro_rules | `(tactic| walk_at "pd1") => `(tactic| first | (with_reducible refine c_isn ?_) | fail)
local macro_rules | `(tactic| walk_at "pd1") => `(tactic| first | (with_reducible refine c_is ?_) | fail)
local macro_rules | `(tactic| walk_at "pd1") => `(tactic| first | (with_reducible refine c_ne ?_) | fail)
local macro_rules | `(tactic| walk_at "pd1") => `(tactic| first | (with_reducible refine c_eq ?_) | fail)
local macro_rules | `(tactic| walk_at "pd1") => `(tactic| first | (with_reducible refine c_ge ?_) | fail)
local macro_rules | `(tactic| walk_at "pd1") => `(tactic| first | (with_reducible refine c_gt ?_) | fail)
local macro_rules | `(tactic| walk_at "pd1") => `(tactic| first | (with_reducible refine c_le ?_) | fail)
local macro_rules | `(tactic| walk_at "pd1") => `(tactic| first | (with_reducible refine c_lt ?_) | fail)
local macro_rules | `(tactic| walk_at "pd1") => `(tactic| first | (((with_reducible refine p_l (f := ?f) ?g0 ?_ ?_); (case g0 => walk_at "pg"))) | fail)
local macro_rules | `(tactic| walk_at "pd1") => `(tactic| first | (with_reducible refine p_e ?_ ?_) | fail)
local macro_rules | `(tactic| walk_at "pd1") => `(tactic| first | (((with_reducible refine w_l (f := ?f) ?g0 ?_ ?_ ?_); (case g0 => walk_at "pg"))) | fail)
local macro_rules | `(tactic| walk_at "pd1") => `(tactic| first | (with_reducible refine w_e ?_ ?_ ?_) | fail)
local macro_rules | `(tactic| walk_at "pd1") => `(tactic| first | (((with_reducible refine i_l (f := ?f) ?g0 ?_ ?_ ?_); (case g0 => walk_at "pg"))) | fail)
local macro_rules | `(tactic| walk_at "pd1") => `(tactic| first | (with_reducible refine i_t ?_ ?_ ?_) | fail)
local macro_rules | `(tactic| walk_at "pd1") => `(tactic| first | (with_reducible refine i_tn ?_ ?_) | fail)
local macro_rules | `(tactic| walk_at "pd1") => `(tactic| first | (((with_reducible refine t_l (f := ?f) ?g0 ?_); (case g0 => walk_at "pg"))) | fail)
local macro_rules | `(tactic| walk_at "pd1") => `(tactic| first | (((with_reducible refine l_l (f := ?f) ?g0 ?_); (case g0 => walk_at "pg"))) | fail)
local macro_rules | `(tactic| walk_at "pd1") => `(tactic| first | (((with_reducible refine n_l (f := ?f) ?g0 ?_); (case g0 => walk_at "pg"))) | fail)
local macro_rules | `(tactic| walk_at "pd1") => `(tactic| first | (with_reducible refine b_min ?_) | fail)
local macro_rules | `(tactic| walk_at "pd1") => `(tactic| first | (with_reducible refine b_max ?_) | fail)
local macro_rules | `(tactic| walk_at "pd1") => `(tactic| first | (with_reducible refine b_intb ?_) | fail)
local macro_rules | `(tactic| walk_at "pd1") => `(tactic| first | (with_reducible refine b_int ?_) | fail)
local macro_rules | `(tactic| walk_at "pd1") => `(tactic| first | (with_reducible refine b_abs ?_) | fail)
local macro_rules | `(tactic| walk_at "pd1") => `(tactic| first | (with_reducible refine t_t ?_) | fail)
local macro_rules | `(tactic| walk_at "pd1") => `(tactic| first | (with_reducible refine l_t ?_) | fail)
local macro_rules | `(tactic| walk_at "pd1") => `(tactic| first | (with_reducible refine n_t ?_) | fail)
local macro_rules | `(tactic| walk_at "pd1") => `(tactic| first | (((with_reducible refine s_lf (f := ?f) ?g0 ?_ ?_); (case g0 => walk_at "pg"))) | fail)
local macro_rules | `(tactic| walk_at "pd1") => `(tactic| first | (((with_reducible refine s_lt (f := ?f) ?g0 ?_ ?_); (case g0 => walk_at "pg"))) | fail)
local macro_rules | `(tactic| walk_at "pd1") => `(tactic| first | (with_reducible refine s_tf ?_ ?_) | fail)
local macro_rules | `(tactic| walk_at "pd1") => `(tactic| first | (with_reducible refine s_tt ?_ ?_) | fail)
local macro_rules | `(tactic| walk_at "pd1") => `(tactic| first | ((with_reducible refine r_on (show partD (some (D.int _)) = some (some _) from rfl) ?_)) | fail)
local macro_rules | `(tactic| walk_at "pd1") => `(tactic| first | ((with_reducible refine r_on (show partD none = some none from rfl) ?_)) | fail)
local macro_rules | `(tactic| walk_at "pd1") => `(tactic| first | (((with_reducible refine x_l1 (i := ?i) ?g0 ?_ ?_ ?_); (case g0 => walk_at "pg"))) | fail)
local macro_rules | `(tactic| walk_at "pd1") => `(tactic| first | (((with_reducible refine a_ll (f := ?f) (g := ?g) ?g0 ?g1 ?_ ?_); (case g0 => walk_at "pg"); (case g1 => walk_at "pg"))) | fail)
local macro_rules | `(tactic| walk_at "pd1") => `(tactic| first | (with_reducible refine r_powI ?_ ?_ ?_ ?_) | fail)
local macro_rules | `(tactic| walk_at "pd1") => `(tactic| first | (with_reducible refine x_t1 ?_ ?_ ?_) | fail)
local macro_rules | `(tactic| walk_at "pd1") => `(tactic| first | (with_reducible refine r_fdivI ?_ ?_ ?_) | fail)
local macro_rules | `(tactic| walk_at "pd1") => `(tactic| first | (with_reducible refine a_tt ?_ ?_) | fail)
local macro_rules | `(tactic| walk_at "pd1") => `(tactic| first | (with_reducible refine r_modI ?_ ?_) | fail)
local macro_rules | `(tactic| walk_at "pd1") => `(tactic| first | (with_reducible refine r_mulI ?_ ?_) | fail)
local macro_rules | `(tactic| walk_at "pd1") => `(tactic| first | (with_reducible refine r_subI ?_) | fail)
local macro_rules | `(tactic| walk_at "pd1") => `(tactic| first | (with_reducible refine r_addI ?_) | fail)
local macro_rules | `(tactic| walk_at "pd1") => `(tactic| first | (((with_reducible refine b_sorted (xs := ?xs) ?g0 ?_ ?_ ?_ ?_ ?_); (case g0 => walk_at "pg"))) | fail)
local macro_rules | `(tactic| walk_at "pd1") => `(tactic| first | (with_reducible refine b_lcm ?_ ?_ ?_) | fail)
local macro_rules | `(tactic| walk_at "pd1") => `(tactic| first | (((with_reducible refine w_d (kvs := ?kvs) ?g0 ?_ ?_); (case g0 => walk_at "pg"))) | fail)
local macro_rules | `(tactic| walk_at "pd1") => `(tactic| first | (((with_reducible refine i_d (kvs := ?kvs) ?g0 ?_ ?_); (case g0 => walk_at "pg"))) | fail)
local macro_rules | `(tactic| walk_at "pd1") => `(tactic| first | (((with_reducible refine c_dNin (kvs := ?kvs) ?g0 ?_); (case g0 => walk_at "pg"))) | fail)
local macro_rules | `(tactic| walk_at "pd1") => `(tactic| first | (((with_reducible refine c_dIn (kvs := ?kvs) ?g0 ?_); (case g0 => walk_at "pg"))) | fail)
local macro_rules | `(tactic| walk_at "pd1") => `(tactic| first | (((with_reducible refine m_get (kvs := ?kvs) ?g0 ?_); (case g0 => walk_at "pg"))) | fail)
local macro_rules | `(tactic| walk_at "pd1") => `(tactic| first | (((with_reducible refine o_get (kvs := ?kvs) ?g0 ?_); (case g0 => walk_at "pg"))) | fail)
local macro_rules | `(tactic| walk_at "pd1") => `(tactic| first | (with_reducible refine c_isnb ?_) | fail)
local macro_rules | `(tactic| walk_at "pd1") => `(tactic| first | (with_reducible refine c_isb ?_) | fail)
local macro_rules | `(tactic| walk_at "pd1") => `(tactic| first | ((with_reducible refine ch_lt (fun hb => ?_) (fun hb => ?_))) | fail)
local macro_rules | `(tactic| walk_at "pd1") => `(tactic| first | ((with_reducible refine ch_le (fun hb => ?_) (fun hb => ?_))) | fail)
local macro_rules | `(tactic| walk_at "pd1") => `(tactic| first | (((with_reducible refine t_setf (fs := ?fs) ?g0 ?g1 ?g2 ?_); (case g0 => walk_at "pg"); (case g1 => first | assumption | exact rfl); (case g2 => (show _ < 1000); decide))) | fail)
local macro_rules | `(tactic| walk_at "pd1") => `(tactic| first | (((with_reducible refine t_mth (fs := ?fs) (i := ?i) (g := ?gg) ?g0 ?g1 ?g2 ?g3 ?_); (case g0 => walk_at "pg"); (case g1 => exact rfl); (case g2 => exact rfl); (case g3 => first | assumption | exact rfl))) | fail)
local macro_rules | `(tactic| walk_at "pd1") => `(tactic| first | (((with_reducible refine f_fld (fs := ?fs) (d := ?d) ?g0 ?g1 ?g2 ?_); (case g0 => walk_at "pg"); (case g1 => exact rfl); (case g2 => first | assumption | exact rfl))) | fail)
local macro_rules | `(tactic| walk_at "pd1") => `(tactic| first | (((with_reducible refine r_new (p := ?p) ?g0 ?_); (case g0 => first | assumption | exact rfl))) | fail)
local macro_rules | `(tactic| walk_at "pd1") => `(tactic| first | (with_reducible refine b_bits ?_) | fail)
local macro_rules | `(tactic| walk_at "pd1") => `(tactic| first | (with_reducible refine r_get ?_) | fail)
local macro_rules | `(tactic| walk_at "pd1") => `(tactic| first | (with_reducible refine r_fld ?_) | fail)
local macro_rules | `(tactic| walk_at "pd1") => `(tactic| first | (with_reducible refine r_mth ?_) | fail)
local macro_rules | `(tactic| walk_at "pd1") => `(tactic| first | (with_reducible refine r_iRev ?_) | fail)
local macro_rules | `(tactic| walk_at "pd1") => `(tactic| first | (with_reducible refine r_dnew ?_) | fail)
local macro_rules | `(tactic| walk_at "pd1") => `(tactic| first | (with_reducible refine r_bits ?_) | fail)
local macro_rules | `(tactic| walk_at "pd1") => `(tactic| first | (with_reducible refine r_setf ?_) | fail)
local macro_rules | `(tactic| walk_at "pd1") => `(tactic| first | (with_reducible refine m_l2 ?_) | fail)
local macro_rules | `(tactic| walk_at "pd1") => `(tactic| first | (with_reducible refine m_l3 ?_) | fail)
local macro_rules | `(tactic| walk_at "pd1") => `(tactic| first | (with_reducible refine m_l1 ?_) | fail)
local macro_rules | `(tactic| walk_at "pd1") => `(tactic| first | (with_reducible refine m_l0 ?_) | fail)
local macro_rules | `(tactic| walk_at "pd1") => `(tactic| first | (with_reducible refine m_t2 ?_) | fail)
local macro_rules | `(tactic| walk_at "pd1") => `(tactic| first | (with_reducible refine m_t1 ?_) | fail)
local macro_rules | `(tactic| walk_at "pd1") => `(tactic| first | (with_reducible refine m_t0 ?_) | fail)
local macro_rules | `(tactic| walk_at "pd1") => `(tactic| first | (((with_reducible refine r_tp (xs := ?xs) ?g0 ?g1 ?_); (case g0 => exact rfl); (case g1 => exact rfl))) | fail)
local macro_rules | `(tactic| walk_at "pd1") => `(tactic| first | (with_reducible refine r_nm ?_) | fail)
local macro_rules | `(tactic| walk_at "pd1") => `(tactic| first | (with_reducible refine r_iEnum ?_) | fail)
local macro_rules | `(tactic| walk_at "pd1") => `(tactic| first | (with_reducible refine r_iRng ?_) | fail)
local macro_rules | `(tactic| walk_at "pd1") => `(tactic| first | (with_reducible refine r_iSeq ?_) | fail)
local macro_rules | `(tactic| walk_at "pd1") => `(tactic| first | (with_reducible refine r_tsN ?_) | fail)
local macro_rules | `(tactic| walk_at "pd1") => `(tactic| first | (with_reducible refine r_tsC ?_) | fail)
local macro_rules | `(tactic| walk_at "pd1") => `(tactic| first | (with_reducible refine r_sub ?_) | fail)
local macro_rules | `(tactic| walk_at "pd1") => `(tactic| first | (with_reducible refine r_esN ?_) | fail)
local macro_rules | `(tactic| walk_at "pd1") => `(tactic| first | (with_reducible refine r_esC ?_) | fail)
local macro_rules | `(tactic| walk_at "pd1") => `(tactic| first | (((with_reducible refine r_oS ?_); (try dsimp only))) | fail)
local macro_rules | `(tactic| walk_at "pd1") => `(tactic| first | (((with_reducible refine r_oN ?_); (try dsimp only))) | fail)
local macro_rules | `(tactic| walk_at "pd1") => `(tactic| first | (((with_reducible refine r_bm ?_ ?g0); (case g0 => exact rfl))) | fail)
local macro_rules | `(tactic| walk_at "pd1") => `(tactic| first | (with_reducible refine r_chn ?_) | fail)
local macro_rules | `(tactic| walk_at "pd1") => `(tactic| first | (with_reducible refine r_lc ?_) | fail)
local macro_rules | `(tactic| walk_at "pd1") => `(tactic| first | (with_reducible refine r_lst ?_) | fail)
local macro_rules | `(tactic| walk_at "pd1") => `(tactic| first | (with_reducible refine r_tup ?_) | fail)
local macro_rules | `(tactic| walk_at "pd1") => `(tactic| first | (with_reducible refine r_sl ?_) | fail)
local macro_rules | `(tactic| walk_at "pd1") => `(tactic| first | (with_reducible refine r_neg ?_) | fail)
local macro_rules | `(tactic| walk_at "pd1") => `(tactic| first | (with_reducible refine r_ife ?_) | fail)
local macro_rules | `(tactic| walk_at "pd1") => `(tactic| first | (with_reducible refine r_not ?_) | fail)
local macro_rules | `(tactic| walk_at "pd1") => `(tactic| first | (with_reducible refine r_or ?_) | fail)
local macro_rules | `(tactic| walk_at "pd1") => `(tactic| first | (with_reducible refine r_and ?_) | fail)
local macro_rules | `(tactic| walk_at "pd1") => `(tactic| first | (with_reducible refine r_ix ?_) | fail)
local macro_rules | `(tactic| walk_at "pd1") => `(tactic| first | (with_reducible refine r_bi ?_) | fail)
local macro_rules | `(tactic| walk_at "pd1") => `(tactic| first | (with_reducible refine r_bin ?_) | fail)
local macro_rules | `(tactic| walk_at "pd1") => `(tactic| first | (with_reducible refine r_cmp ?_) | fail)
local macro_rules | `(tactic| walk_at "pd1") => `(tactic| first | (with_reducible refine r_cst ?_) | fail)
local macro_rules | `(tactic| walk_at "pd1") => `(tactic| first | (((with_reducible refine r_call (g := ?g) ?g0 ?_); (case g0 => first | assumption | exact rfl))) | fail)
local macro_rules | `(tactic| walk_at "pd1") => `(tactic| first | (((with_reducible refine r_var (d := ?d) ?g0 ?_); (case g0 => exact rfl))) | fail)
local macro_rules | `(tactic| walk_at "pd1") => `(tactic| first | (((with_reducible refine r_aug (j := ?j) ?g0 ?_); (case g0 => exact rfl))) | fail)
local macro_rules | `(tactic| walk_at "pd1") => `(tactic| first | (with_reducible refine r_fr ?_) | fail)
local macro_rules | `(tactic| walk_at "pd1") => `(tactic| first | (with_reducible refine r_tr ?_) | fail)
local macro_rules | `(tactic| walk_at "pd1") => `(tactic| first | (with_reducible refine r_ifs ?_) | fail)
local macro_rules | `(tactic| walk_at "pd1") => `(tactic| first | (with_reducible refine r_asg ?_) | fail)
local macro_rules | `(tactic| walk_at "pd1") => `(tactic| first | (with_reducible refine r_seq ?_) | fail)
local macro_rules | `(tactic| walk_at "pd1") => `(tactic| first | (((with_reducible refine r_ex ?_); (try dsimp only))) | fail)
local macro_rules | `(tactic| walk_at "pd1") => `(tactic| first | (((with_reducible refine r_pas ?_); (try dsimp only))) | fail)
local macro_rules | `(tactic| walk_at "pd1") => `(tactic| first | (((with_reducible refine r_rse ?_); (try dsimp only))) | fail)
local macro_rules | `(tactic| walk_at "pd1") => `(tactic| first | (((with_reducible refine r_cnt ?_); (try dsimp only))) | fail)
local macro_rules | `(tactic| walk_at "pd1") => `(tactic| first | (((with_reducible refine r_brk ?_); (try dsimp only))) | fail)
local macro_rules | `(tactic| walk_at "pd1") => `(tactic| first | (((with_reducible refine r_retN ?_); (try dsimp only))) | fail)
local macro_rules | `(tactic| walk_at "pd1") => `(tactic| first | (((with_reducible refine r_ret ?_); (try dsimp only))) | fail)
local macro_rules | `(tactic| walk_at "pd1") => `(tactic| first | (((with_reducible refine r_nil ?_); (try dsimp only))) | fail)

local macro_rules | `(tactic| walk_at "pd1") => `(tactic| first | (((with_reducible refine u_w_l (xs := ?xs) ?g0 ?_); (case g0 => walk_at "pg"))) | fail)
local macro_rules | `(tactic| walk_at "pd1") => `(tactic| first | (with_reducible refine u_w_u ?_) | fail)
local macro_rules | `(tactic| walk_at "pd1") => `(tactic| first | (with_reducible refine u_w_t ?_) | fail)
local macro_rules | `(tactic| walk_at "pd1") => `(tactic| first | (with_reducible refine u_w_n ?_) | fail)
local macro_rules | `(tactic| walk_at "pd1") => `(tactic| first | (with_reducible refine u_w_s ?_) | fail)
local macro_rules | `(tactic| walk_at "pd1") => `(tactic| first | (with_reducible refine u_w_b ?_) | fail)
local macro_rules | `(tactic| walk_at "pd1") => `(tactic| first | (with_reducible refine u_w_i ?_) | fail)
local macro_rules | `(tactic| walk_at "pd1") => `(tactic| first | (((with_reducible refine u_law_pick (l := ?l) ?g0 ?_ ?_ ?_ ?_); (case g0 => walk_at "pg"))) | fail)

/-! ### lives -/
abbrev Life := Int × List Int
abbrev lifeD (l : Life) : D := .tup [.int l.1, tupI l.2]
def livesD (ls : List Life) : D := .tup (ls.map lifeD)
def blkO (ls : List Life) : SO := .ins 3 [("lives", livesD ls), ("many", .int ls.length)]
def endL (l : Life) : Int := l.1 + l.2.length
def Falls (l : List Int) : Prop := ∀ i, i < l.length → 0 ≤ cf l i ∧ (0 < i → cf l i ≤ cf l (i - 1))
structure LifeOk (l : Life) : Prop where
  p0 : 0 ≤ l.1
  hi : l.1 ≤ 1000
  ne : l.2 ≠ []
  ln : l.2.length ≤ 1000
  fa : Falls l.2
def lf (ls : List Life) (b : Int) : Life := ls.getD b.toNat (0, [])
/-! ### is_life -/
def GoodLife (S : Store) (t : D) (l : Life) : Prop := ∃ a x, tyName S t = some a ∧ (a = "tuple" ∨ a = "list") ∧ seqOf S t = some [.int l.1, x] ∧ isSq S x l.2 ∧ LifeOk l
def BadLs (S : Store) (x : D) : Prop := (∃ a, tyName S x = some a ∧ a ≠ "tuple" ∧ a ≠ "list") ∨ ∃ a ys, tyName S x = some a ∧ (a = "tuple" ∨ a = "list") ∧ seqOf S x = some ys ∧
  (ys = [] ∨ ∃ pre y post, ys = pre.map .int ++ y :: post ∧ Falls pre ∧ ∃ b, tyName S y = some b ∧ (b ≠ "int" ∨ ∃ i, y = .int i ∧ (i < 0 ∨ (0 < pre.length ∧ cf pre (pre.length - 1) < i))))
def BadLife (S : Store) (t : D) : Prop := (∃ a, tyName S t = some a ∧ a ≠ "tuple" ∧ a ≠ "list") ∨ ∃ a xs, tyName S t = some a ∧ (a = "tuple" ∨ a = "list") ∧ seqOf S t = some xs ∧
  (xs.length ≠ 2 ∨ ∃ d x, xs = [d, x] ∧ ((∃ b, tyName S d = some b ∧ b ≠ "int") ∨ (∃ i, d = .int i ∧ i < 0) ∨ (∃ i, d = .int i ∧ 0 ≤ i ∧ BadLs S x)))
def p_is_life : List D → Store → Out → Prop := fun ds S o => ∃ t, ds = [t] ∧ (((∃ l, GoodLife S t l) ∧ o = .val (.bl true)) ∨ (BadLife S t ∧ o = .val (.bl false)))
theorem vc_is_life (M : Md) (h0 : M.sp 0 = FnS p_is_whole) : ∀ ds S o, p_is_life ds S o → wpSs (M.C (excO S o)) b_is_life (retO S o) (startD n_is_life ds) S := by
  rintro ds S o ⟨t, rfl, (⟨⟨l, a, x, ht, ha, hsq, hx, hl⟩, rfl⟩ | ⟨hbad, rfl⟩)⟩
  · simp only [b_is_life, startD, List.map, List.length, List.replicate, Nat.reduceAdd, Nat.reduceSub, List.cons_append, List.nil_append]
    repeat' (walk_at "pd1")
    refine b_isi (isi_ty2 (k := true) ht (by rcases ha with rfl | rfl <;> decide)) ?_
    repeat' (walk_at "pd1")
    refine n_seq ht ha hsq ?_
    repeat' (walk_at "pd1")
    all_goals first
      | (exfalso; omega)
      | skip
    · refine r_tp hsq rfl ?_
      repeat' (walk_at "pd1")
      all_goals first
        | (exfalso; have := hl.p0; omega)
        | skip
      · exact Ext.refl _
      · rename_i hb
        have := hl.ne
        exact absurd (List.eq_nil_of_length_eq_zero (by omega)) this
      · refine FR_same (fun e => ∃ a b, e = [some t, some (.int l.1), some x, a, b]) ⟨_, _, rfl⟩ (still_q hx) ?_ ?_
        · rintro y e hy ⟨a, b, rfl⟩
          obtain ⟨k, hk⟩ := List.getElem?_of_mem hy
          obtain ⟨e', he, rfl⟩ := enumL_get' hk
          obtain ⟨hk2, rfl⟩ := map_get he
          have f := hl.fa k hk2
          have e2 : (((0 + k : Nat) : Int) - 1).toNat = k - 1 := by omega
          repeat' (walk_at "pd1")
          all_goals first
            | (exfalso; omega)
            | (exfalso; rw [e2] at *; omega)
            | exact ⟨rfl, _, _, rfl⟩
            | omega
            | skip
        · rintro e ⟨a, b, rfl⟩
          repeat' (walk_at "pd1")
          all_goals first
            | exact Ext.refl _
            | with_reducible rfl
            | skip
  · rcases hbad with ⟨a, ht, h1, h2⟩ | ⟨a, xs, ht, ha, hsq, hx⟩
    · simp only [b_is_life, startD, List.map, List.length, List.replicate, Nat.reduceAdd, Nat.reduceSub, List.cons_append, List.nil_append]
      repeat' (walk_at "pd1")
      refine b_isi (isi_ty2 (k := false) ht (by simp [h1, h2])) ?_
      repeat' (walk_at "pd1")
      all_goals try (walk_at "ps")
    · simp only [b_is_life, startD, List.map, List.length, List.replicate, Nat.reduceAdd, Nat.reduceSub, List.cons_append, List.nil_append]
      repeat' (walk_at "pd1")
      refine b_isi (isi_ty2 (k := true) ht (by rcases ha with rfl | rfl <;> decide)) ?_
      repeat' (walk_at "pd1")
      refine n_seq ht ha hsq ?_
      rcases hx with hx | ⟨d, x, rfl, hx⟩
      · repeat' (walk_at "pd1")
        · exact Ext.refl _
        · with_reducible rfl
        · rename_i hb
          exact absurd (by simpa using hb : (xs.length : Int) = 2) (by omega)
      · repeat' (walk_at "pd1")
        all_goals first
          | (exfalso; (try simp only [List.length_cons, List.length_nil] at *); omega)
          | skip
        refine r_tp hsq rfl ?_
        rcases hx with ⟨b, hb, hb2⟩ | ⟨i, rfl, hi⟩ | ⟨i, rfl, hi, hx⟩
        · repeat' (walk_at "pd1")
          refine u_w_g hb ?_
          rw [show (b == "int") = false by simpa using hb2]
          repeat' (walk_at "pd1")
          all_goals try (walk_at "ps")
        · repeat' (walk_at "pd1")
          all_goals first
            | exact Ext.refl _
            | with_reducible rfl
            | (exfalso; omega)
        · rcases hx with ⟨a2, h1, h2, h3⟩ | ⟨a2, ys, h1, h2, h3, h4⟩
          · repeat' (walk_at "pd1")
            all_goals first
              | (exfalso; omega)
              | skip
            refine b_isi (isi_ty2 (k := false) h1 (by simp [h2, h3])) ?_
            repeat' (walk_at "pd1")
            all_goals try (walk_at "ps")
          · repeat' (walk_at "pd1")
            all_goals first
              | (exfalso; omega)
              | skip
            refine b_isi (isi_ty2 (k := true) h1 (by rcases h2 with rfl | rfl <;> decide)) ?_
            repeat' (walk_at "pd1")
            refine n_seq h1 h2 h3 ?_
            repeat' (walk_at "pd1")
            · exact Ext.refl _
            · with_reducible rfl
            · rename_i hb
              rcases h4 with rfl | ⟨pre, y, post, rfl, hp, b, hb1, hb2⟩
              · exact absurd (by simp : (([] : List D).length : Int) = 0) (by simpa using hb)
              refine g_seq h3 ?_
              repeat' (walk_at "pd1")
              refine FR_ind (fun k e S' => k ≤ pre.length ∧ S' = S ∧ ∃ a b, e = [some t, some (.int i), some x, a, b]) ⟨Nat.zero_le _, rfl, _, _, rfl⟩ ?_ ?_
              · rintro k z e S' hz ⟨hk, rfl, a, b', rfl⟩
                obtain ⟨e', he, rfl⟩ := enumL_get' hz
                have e2 : (((0 + k : Nat) : Int) - 1).toNat = k - 1 := by omega
                rcases app_get he with ⟨h5, h6⟩ | ⟨h5, rfl⟩ | h5
                · rw [ml] at h5
                  obtain ⟨_, rfl⟩ := map_get h6
                  have f := hp k h5
                  repeat' (walk_at "pd1")
                  all_goals first
                    | (exfalso; omega)
                    | exact ⟨by omega, rfl, _, _, rfl⟩
                    | exact ⟨by omega, rfl, _, _, rfl⟩
                    | skip
                  refine i_sq h3 (d := .int (cf pre (k - 1))) (by rw [atI_nat (by omega) (by rw [List.length_append, ml]; omega), e2, List.getElem?_append_left (by rw [ml]; omega), get_cf (by omega)]) ?_
                  repeat' (walk_at "pd1")
                  all_goals first
                    | (exfalso; omega)
                    | exact ⟨by omega, rfl, _, _, rfl⟩
                    | skip
                · rw [ml] at h5
                  subst h5
                  rcases hb2 with hb2 | ⟨i2, rfl, hb2⟩
                  · repeat' (walk_at "pd1")
                    refine u_w_g hb1 ?_
                    rw [show (b == "int") = false by simpa using hb2]
                    repeat' (walk_at "pd1")
                    all_goals try (walk_at "ps")
                  · repeat' (walk_at "pd1")
                    all_goals first
                      | exact Ext.refl _
                      | with_reducible rfl
                      | (exfalso; omega)
                      | skip
                    refine i_sq h3 (d := .int (cf pre (pre.length - 1))) (by rw [atI_nat (by omega) (by rw [List.length_append, ml]; omega), e2, List.getElem?_append_left (by rw [ml]; omega), get_cf (by omega)]) ?_
                    repeat' (walk_at "pd1")
                    all_goals first
                      | exact Ext.refl _
                      | with_reducible rfl
                      | (exfalso; omega)
                      | skip
                · rw [ml] at h5
                  omega
              · rintro e S' ⟨hk, _⟩
                rw [enumL_len, List.length_append, List.length_cons, ml] at hk
                omega
theorem u_life {S : Store} {Q : DQ} {E : EQ} {t : D} {l : Life} (h : GoodLife S t l) (q : Q (.bl true) S) : FnS p_is_life [t] S Q E := ⟨_, ⟨t, rfl, .inl ⟨⟨l, h⟩, rfl⟩⟩, q⟩
theorem u_life_x {S : Store} {Q : DQ} {E : EQ} {t : D} (h : BadLife S t) (q : Q (.bl false) S) : FnS p_is_life [t] S Q E := ⟨_, ⟨t, rfl, .inr ⟨h, rfl⟩⟩, q⟩
theorem len_is_life : ∀ ds S o, p_is_life ds S o → ds.length = 1 := by rintro _ S o ⟨t, rfl, _⟩; rfl
theorem ok_is_life : ∀ ds S o, p_is_life ds S o → refsLts S.length ds = true → WfS S → okO S.length o = true := by rintro _ S o ⟨t, rfl, (⟨_, rfl⟩ | ⟨_, rfl⟩)⟩ _ _ <;> rfl


end
section
set_option Elab.async false
set_option linter.all false
set_option maxRecDepth 100000
set_option maxHeartbeats 8000000
open PySem
local macro_rules | `(tactic| walk_at "pd1") => `(tactic| first | (((with_reducible refine r_tp (xs := ?xs) ?g0 ?g1 ?_); (case g0 => (refine seq_ref ?_; walk_at "pg")); (case g1 => exact rfl))) | fail)
local macro_rules | `(tactic| walk_at "pd1") => `(tactic| first | (((with_reducible refine r_eisi (er := ?er) ?g0 ?_); (case g0 => exact rfl))) | fail)
local macro_rules | `(tactic| walk_at "pd1") => `(tactic| first | (((with_reducible refine r_efld (er := ?er) (d := ?d) ?g0 ?g1 ?_); (case g0 => exact rfl); (case g1 => exact rfl))) | fail)
local macro_rules | `(tactic| walk_at "pd1") => `(tactic| first | (((with_reducible refine t_lg (xs := ?xs) ?g0 ?_); (case g0 => walk_at "pg"))) | fail)
local macro_rules | `(tactic| walk_at "pd1") => `(tactic| first | (((with_reducible refine p_lg (xs := ?xs) ?g0 ?_ ?_); (case g0 => walk_at "pg"))) | fail)
local macro_rules | `(tactic| walk_at "pd1") => `(tactic| first | (with_reducible refine p_eg ?_ ?_) | fail)
local macro_rules | `(tactic| walk_at "pd1") => `(tactic| first | (((with_reducible refine x_bm (xs := ?xs) ?g0 ?_); (case g0 => walk_at "pg"))) | fail)
local macro_rules | `(tactic| walk_at "pd1") => `(tactic| first | (((with_reducible refine c_ne_ll (l := ?l) ?g0 ?g1 ?_); (case g0 => walk_at "pg"); (case g1 => walk_at "pg"))) | fail)
local macro_rules | `(tactic| walk_at "pd1") => `(tactic| first | (with_reducible refine x_ends ?_) | fail)
local macro_rules | `(tactic| walk_at "pd1") => `(tactic| first | (with_reducible refine g_tg ?_) | fail)
local macro_rules | `(tactic| walk_at "pd1") => `(tactic| first | (with_reducible refine l_tg ?_) | fail)
local macro_rules | `(tactic| walk_at "pd1") => `(tactic| first | (with_reducible refine t_tg ?_) | fail)
local macro_rules | `(tactic| walk_at "pd1") => `(tactic| first | (with_reducible refine c_isnN ?_) | fail)
local macro_rules | `(tactic| walk_at "pd1") => `(tactic| first | (with_reducible refine c_isN ?_) | fail)
local macro_rules | `(tactic| walk_at "pd1") => `(tactic| first | (with_reducible refine c_net ?_) | fail)
local macro_rules | `(tactic| walk_at "pd1") => `(tactic| first | (with_reducible refine c_eqt ?_) | fail)
local macro_rules | `(tactic| walk_at "pd1") => `(tactic| first | (with_reducible refine c_nes ?_) | fail)
local macro_rules | `(tactic| walk_at "pd1") => `(tactic| first | (with_reducible refine c_eqs ?_) | fail)
local macro_rules | `(tactic| walk_at "pd1") => `(tactic| first | (with_reducible refine c_neb ?_) | fail)
local macro_rules | `(tactic| walk_at "pd1") => `(tactic| first | (with_reducible refine c_eqb ?_) | fail)
local macro_rules | `(tactic| walk_at "pd1") => `(tactic| first | (((with_reducible refine st_and ?g0 ?_); (case g0 => walk_at "pst"))) | fail)
local macro_rules | `(tactic| walk_at "pd1") => `(tactic| first | (((with_reducible refine isi_q_tl (f := ?f) ?g0 ?_); (case g0 => walk_at "pq"))) | fail)
local macro_rules | `(tactic| walk_at "pd1") => `(tactic| first | (((with_reducible refine g_q (f := ?f) ?g0 ?_); (case g0 => walk_at "pq"))) | fail)
local macro_rules | `(tactic| walk_at "pd1") => `(tactic| first | (((with_reducible refine i_q (f := ?f) ?g0 ?_ ?_ ?_); (case g0 => walk_at "pq"))) | fail)
local macro_rules | `(tactic| walk_at "pd1") => `(tactic| first | (((with_reducible refine t_q (f := ?f) ?g0 ?_); (case g0 => walk_at "pq"))) | fail)
local macro_rules | `(tactic| walk_at "pd1") => `(tactic| first | (((with_reducible refine l_q (f := ?f) ?g0 ?_); (case g0 => walk_at "pq"))) | fail)
local macro_rules | `(tactic| walk_at "pd1") => `(tactic| first | (((with_reducible refine n_q (f := ?f) ?g0 ?_); (case g0 => walk_at "pq"))) | fail)
local macro_rules | `(tactic| walk_at "pd1") => `(tactic| first | (((with_reducible refine m_lg ?g0 ?_); (case g0 => exact Nat.le_of_ble_eq_true rfl))) | fail)
local macro_rules | `(tactic| walk_at "pd1") => `(tactic| first | (((with_reducible refine m_tg ?g0 ?_); (case g0 => exact Nat.le_of_ble_eq_true rfl))) | fail)
local macro_rules | `(tactic| walk_at "pd1") => `(tactic| first | (((with_reducible refine g_lg (xs := ?xs) ?g0 ?_); (case g0 => walk_at "pg"))) | fail)
local macro_rules | `(tactic| walk_at "pd1") => `(tactic| first | (((with_reducible refine i_lg (xs := ?xs) (d := ?d) ?g0 ?g1 ?_); (case g0 => walk_at "pg"); (case g1 => exact rfl))) | fail)
local macro_rules | `(tactic| walk_at "pd1") => `(tactic| first | (((with_reducible refine i_tg (d := ?d) ?g0 ?_); (case g0 => exact rfl))) | fail)
local macro_rules | `(tactic| walk_at "pd1") => `(tactic| first | (((with_reducible refine l_lg (xs := ?xs) ?g0 ?_); (case g0 => walk_at "pg"))) | fail)
local macro_rules | `(tactic| walk_at "pd1") => `(tactic| first | (((with_reducible refine n_lg (xs := ?xs) ?g0 ?_); (case g0 => walk_at "pg"))) | fail)
local macro_rules | `(tactic| walk_at "pd1") => `(tactic| first | (with_reducible refine n_tg ?_) | fail)
local macro_rules | `(tactic| walk_at "pd1") => `(tactic| first | (((with_reducible refine isi_ty0 (a := ?a) ?g0 ?g1 ?_); (case g0 => assumption); (case g1 => decide))) | fail)
local macro_rules | `(tactic| walk_at "pd1") => `(tactic| first | (((with_reducible refine isi_l_tl (xs := ?xs) ?g0 ?_); (case g0 => walk_at "pg"))) | fail)
local macro_rules | `(tactic| walk_at "pd1") => `(tactic| first | (((with_reducible refine isi_l_tup (xs := ?xs) ?g0 ?_); (case g0 => walk_at "pg"))) | fail)
local macro_rules | `(tactic| walk_at "pd1") => `(tactic| first | (((with_reducible refine isi_l_bool (xs := ?xs) ?g0 ?_); (case g0 => walk_at "pg"))) | fail)
local macro_rules | `(tactic| walk_at "pd1") => `(tactic| first | (((with_reducible refine isi_l_int (xs := ?xs) ?g0 ?_); (case g0 => walk_at "pg"))) | fail)
local macro_rules | `(tactic| walk_at "pd1") => `(tactic| first | (with_reducible refine isi_u_tl ?_) | fail)
local macro_rules | `(tactic| walk_at "pd1") => `(tactic| first | (with_reducible refine isi_u_tup ?_) | fail)
local macro_rules | `(tactic| walk_at "pd1") => `(tactic| first | (with_reducible refine isi_u_bool ?_) | fail)
local macro_rules | `(tactic| walk_at "pd1") => `(tactic| first | (with_reducible refine isi_u_int ?_) | fail)
local macro_rules | `(tactic| walk_at "pd1") => `(tactic| first | (with_reducible refine isi_t_tl ?_) | fail)
local macro_rules | `(tactic| walk_at "pd1") => `(tactic| first | (with_reducible refine isi_t_tup ?_) | fail)
local macro_rules | `(tactic| walk_at "pd1") => `(tactic| first | (with_reducible refine isi_t_bool ?_) | fail)
local macro_rules | `(tactic| walk_at "pd1") => `(tactic| first | (with_reducible refine isi_t_int ?_) | fail)
local macro_rules | `(tactic| walk_at "pd1") => `(tactic| first | (with_reducible refine isi_n_tl ?_) | fail)
local macro_rules | `(tactic| walk_at "pd1") => `(tactic| first | (with_reducible refine isi_n_tup ?_) | fail)
local macro_rules | `(tactic| walk_at "pd1") => `(tactic| first | (with_reducible refine isi_n_bool ?_) | fail)
local macro_rules | `(tactic| walk_at "pd1") => `(tactic| first | (with_reducible refine isi_n_int ?_) | fail)
local macro_rules | `(tactic| walk_at "pd1") => `(tactic| first | (with_reducible refine isi_s_tl ?_) | fail)
local macro_rules | `(tactic| walk_at "pd1") => `(tactic| first | (with_reducible refine isi_s_tup ?_) | fail)
local macro_rules | `(tactic| walk_at "pd1") => `(tactic| first | (with_reducible refine isi_s_bool ?_) | fail)
local macro_rules | `(tactic| walk_at "pd1") => `(tactic| first | (with_reducible refine isi_s_int ?_) | fail)
local macro_rules | `(tactic| walk_at "pd1") => `(tactic| first | (with_reducible refine isi_b_tl ?_) | fail)
local macro_rules | `(tactic| walk_at "pd1") => `(tactic| first | (with_reducible refine isi_b_tup ?_) | fail)
local macro_rules | `(tactic| walk_at "pd1") => `(tactic| first | (with_reducible refine isi_b_bool ?_) | fail)
local macro_rules | `(tactic| walk_at "pd1") => `(tactic| first | (with_reducible refine isi_b_int ?_) | fail)
local macro_rules | `(tactic| walk_at "pd1") => `(tactic| first | (with_reducible refine isi_i_tl ?_) | fail)
local macro_rules | `(tactic| walk_at "pd1") => `(tactic| first | (with_reducible refine isi_i_tup ?_) | fail)
local macro_rules | `(tactic| walk_at "pd1") => `(tactic| first | (with_reducible refine isi_i_bool ?_) | fail)
local macro_rules | `(tactic| walk_at "pd1") => `(tactic| first | (with_reducible refine isi_i_int ?_) | fail)
local macro_rules | `(tactic| walk_at "pd1") => `(tactic| first | (with_reducible refine o_new ?_ ?_ ?_) | fail)
local macro_rules | `(tactic| walk_at "pd1") => `(tactic| first | (with_reducible refine o_exc ?_ ?_ ?_) | fail)
local macro_rules | `(tactic| walk_at "pd1") => `(tactic| first | (((with_reducible refine lc_end ?g0 ?_); (case g0 => first | exact rfl | skip))) | fail)
local macro_rules | `(tactic| walk_at "pd1") => `(tactic| first | (with_reducible refine o_val ?_ ?_) | fail)
local macro_rules | `(tactic| walk_at "pd1") => `(tactic| first | (((with_reducible refine g_l (f := ?f) ?g0 ?_); (case g0 => walk_at "pg"))) | fail)
local macro_rules | `(tactic| walk_at "pd1") => `(tactic| first | (with_reducible refine g_t ?_) | fail)
local macro_rules | `(tactic| walk_at "pd1") => `(tactic| first | (with_reducible refine g_r2 ?_ ?_ ?_ ?_ ?_) | fail)
local macro_rules | `(tactic| walk_at "pd1") => `(tactic| first | (with_reducible refine g_r1 ?_ ?_ ?_) | fail)
local macro_rules | `(tactic| walk_at "pd1") => `(tactic| first | (with_reducible refine on_if ?_) | fail)
local macro_rules | `(tactic| walk_at "pd1") => `(tactic| first | (with_reducible refine t_neg ?_) | fail)
local macro_rules | `(tactic| walk_at "pd1") => `(tactic| first | (with_reducible refine t_nb ?_) | fail)
local macro_rules | `(tactic| walk_at "pd1") => `(tactic| first | (((with_reducible refine t_and (fun hb => ?_) (fun hb => ?_)) <;> ((try (cases hb; done)); (try simp only [decide_eq_true_eq, decide_eq_false_iff_not, Bool.not_eq_true', Bool.not_eq_false'] at hb)))) | fail)
local macro_rules | `(tactic| walk_at "pd1") => `(tactic| first | (((with_reducible refine t_bl (fun hb => ?_) (fun hb => ?_)) <;> ((try (cases hb; done)); (try simp only [decide_eq_true_eq, decide_eq_false_iff_not, Bool.not_eq_true', Bool.not_eq_false'] at hb)))) | fail)
local macro_rules | `(tactic| walk_at "pd1") => `(tactic| first | (with_reducible refine c_isn ?_) | fail)
local macro_rules | `(tactic| walk_at "pd1") => `(tactic| first | (with_reducible refine c_is ?_) | fail)
local macro_rules | `(tactic| walk_at "pd1") => `(tactic| first | (with_reducible refine c_ne ?_) | fail)
local macro_rules | `(tactic| walk_at "pd1") => `(tactic| first | (with_reducible refine c_eq ?_) | fail)
local macro_rules | `(tactic| walk_at "pd1") => `(tactic| first | (with_reducible refine c_ge ?_) | fail)
local macro_rules | `(tactic| walk_at "pd1") => `(tactic| first | (with_reducible refine c_gt ?_) | fail)
local macro_rules | `(tactic| walk_at "pd1") => `(tactic| first | (with_reducible refine c_le ?_) | fail)
local macro_rules | `(tactic| walk_at "pd1") => `(tactic| first | (with_reducible refine c_lt ?_) | fail)
local macro_rules | `(tactic| walk_at "pd1") => `(tactic| first | (((with_reducible refine p_l (f := ?f) ?g0 ?_ ?_); (case g0 => walk_at "pg"))) | fail)
local macro_rules | `(tactic| walk_at "pd1") => `(tactic| first | (with_reducible refine p_e ?_ ?_) | fail)
local macro_rules | `(tactic| walk_at "pd1") => `(tactic| first | (((with_reducible refine w_l (f := ?f) ?g0 ?_ ?_ ?_); (case g0 => walk_at "pg"))) | fail)
local macro_rules | `(tactic| walk_at "pd1") => `(tactic| first | (with_reducible refine w_e ?_ ?_ ?_) | fail)
local macro_rules | `(tactic| walk_at "pd1") => `(tactic| first | (((with_reducible refine i_l (f := ?f) ?g0 ?_ ?_ ?_); (case g0 => walk_at "pg"))) | fail)
local macro_rules | `(tactic| walk_at "pd1") => `(tactic| first | (with_reducible refine i_t ?_ ?_ ?_) | fail)
local macro_rules | `(tactic| walk_at "pd1") => `(tactic| first | (with_reducible refine i_tn ?_ ?_) | fail)
local macro_rules | `(tactic| walk_at "pd1") => `(tactic| first | (((with_reducible refine t_l (f := ?f) ?g0 ?_); (case g0 => walk_at "pg"))) | fail)
local macro_rules | `(tactic| walk_at "pd1") => `(tactic| first | (((with_reducible refine l_l (f := ?f) ?g0 ?_); (case g0 => walk_at "pg"))) | fail)
local macro_rules | `(tactic| walk_at "pd1") => `(tactic| first | (((with_reducible refine n_l (f := ?f) ?g0 ?_); (case g0 => walk_at "pg"))) | fail)
local macro_rules | `(tactic| walk_at "pd1") => `(tactic| first | (with_reducible refine b_min ?_) | fail)
local macro_rules | `(tactic| walk_at "pd1") => `(tactic| first | (with_reducible refine b_max ?_) | fail)
local macro_rules | `(tactic| walk_at "pd1") => `(tactic| first | (with_reducible refine b_intb ?_) | fail)
local macro_rules | `(tactic| walk_at "pd1") => `(tactic| first | (with_reducible refine b_int ?_) | fail)
local macro_rules | `(tactic| walk_at "pd1") => `(tactic| first | (with_reducible refine b_abs ?_) | fail)
local macro_rules | `(tactic| walk_at "pd1") => `(tactic| first | (with_reducible refine t_t ?_) | fail)
local macro_rules | `(tactic| walk_at "pd1") => `(tactic| first | (with_reducible refine l_t ?_) | fail)
local macro_rules | `(tactic| walk_at "pd1") => `(tactic| first | (with_reducible refine n_t ?_) | fail)
local macro_rules | `(tactic| walk_at "pd1") => `(tactic| first | (((with_reducible refine s_lf (f := ?f) ?g0 ?_ ?_); (case g0 => walk_at "pg"))) | fail)
local macro_rules | `(tactic| walk_at "pd1") => `(tactic| first | (((with_reducible refine s_lt (f := ?f) ?g0 ?_ ?_); (case g0 => walk_at "pg"))) | fail)
local macro_rules | `(tactic| walk_at "pd1") => `(tactic| first | (with_reducible refine s_tf ?_ ?_) | fail)
local macro_rules | `(tactic| walk_at "pd1") => `(tactic| first | (with_reducible refine s_tt ?_ ?_) | fail)
local macro_rules | `(tactic| walk_at "pd1") => `(tactic| first | ((with_reducible refine r_on (show partD (some (D.int _)) = some (some _) from rfl) ?_)) | fail)
local macro_rules | `(tactic| walk_at "pd1") => `(tactic| first | ((with_reducible refine r_on (show partD none = some none from rfl) ?_)) | fail)
local macro_rules | `(tactic| walk_at "pd1") => `(tactic| first | (((with_reducible refine x_l1 (i := ?i) ?g0 ?_ ?_ ?_); (case g0 => walk_at "pg"))) | fail)
local macro_rules | `(tactic| walk_at "pd1") => `(tactic| first | (((with_reducible refine a_ll (f := ?f) (g := ?g) ?g0 ?g1 ?_ ?_); (case g0 => walk_at "pg"); (case g1 => walk_at "pg"))) | fail)
local macro_rules | `(tactic| walk_at "pd1") => `(tactic| first | (with_reducible refine r_powI ?_ ?_ ?_ ?_) | fail)
local macro_rules | `(tactic| walk_at "pd1") => `(tactic| first | (with_reducible refine x_t1 ?_ ?_ ?_) | fail)
local macro_rules | `(tactic| walk_at "pd1") => `(tactic| first | (with_reducible refine r_fdivI ?_ ?_ ?_) | fail)
local macro_rules | `(tactic| walk_at "pd1") => `(tactic| first | (with_reducible refine a_tt ?_ ?_) | fail)
local macro_rules | `(tactic| walk_at "pd1") => `(tactic| first | (with_reducible refine r_modI ?_ ?_) | fail)
local macro_rules | `(tactic| walk_at "pd1") => `(tactic| first | (with_reducible refine r_mulI ?_ ?_) | fail)
local macro_rules | `(tactic| walk_at "pd1") => `(tactic| first | (with_reducible refine r_subI ?_) | fail)
local macro_rules | `(tactic| walk_at "pd1") => `(tactic| first | (with_reducible refine r_addI ?_) | fail)
local macro_rules | `(tactic| walk_at "pd1") => `(tactic| first | (((with_reducible refine b_sorted (xs := ?xs) ?g0 ?_ ?_ ?_ ?_ ?_); (case g0 => walk_at "pg"))) | fail)
local macro_rules | `(tactic| walk_at "pd1") => `(tactic| first | (with_reducible refine b_lcm ?_ ?_ ?_) | fail)
local macro_rules | `(tactic| walk_at "pd1") => `(tactic| first | (((with_reducible refine w_d (kvs := ?kvs) ?g0 ?_ ?_); (case g0 => walk_at "pg"))) | fail)
local macro_rules | `(tactic| walk_at "pd1") => `(tactic| first | (((with_reducible refine i_d (kvs := ?kvs) ?g0 ?_ ?_); (case g0 => walk_at "pg"))) | fail)
local macro_rules | `(tactic| walk_at "pd1") => `(tactic| first | (((with_reducible refine c_dNin (kvs := ?kvs) ?g0 ?_); (case g0 => walk_at "pg"))) | fail)
local macro_rules | `(tactic| walk_at "pd1") => `(tactic| first | (((with_reducible refine c_dIn (kvs := ?kvs) ?g0 ?_); (case g0 => walk_at "pg"))) | fail)
local macro_rules | `(tactic| walk_at "pd1") => `(tactic| first | (((with_reducible refine m_get (kvs := ?kvs) ?g0 ?_); (case g0 => walk_at "pg"))) | fail)
local macro_rules | `(tactic| walk_at "pd1") => `(tactic| first | (((with_reducible refine o_get (kvs := ?kvs) ?g0 ?_); (case g0 => walk_at "pg"))) | fail)
local macro_rules | `(tactic| walk_at "pd1") => `(tactic| first | (with_reducible refine c_isnb ?_) | fail)
local macro_rules | `(tactic| walk_at "pd1") => `(tactic| first | (with_reducible refine c_isb ?_) | fail)
local macro_rules | `(tactic| walk_at "pd1") => `(tactic| first | ((with_reducible refine ch_lt (fun hb => ?_) (fun hb => ?_))) | fail)
local macro_rules | `(tactic| walk_at "pd1") => `(tactic| first | ((with_reducible refine ch_le (fun hb => ?_) (fun hb => ?_))) | fail)
local macro_rules | `(tactic| walk_at "pd1") => `(tactic| first | (((with_reducible refine t_setf (fs := ?fs) ?g0 ?g1 ?g2 ?_); (case g0 => walk_at "pg"); (case g1 => first | assumption | exact rfl); (case g2 => (show _ < 1000); decide))) | fail)
local macro_rules | `(tactic| walk_at "pd1") => `(tactic| first | (((with_reducible refine t_mth (fs := ?fs) (i := ?i) (g := ?gg) ?g0 ?g1 ?g2 ?g3 ?_); (case g0 => walk_at "pg"); (case g1 => exact rfl); (case g2 => exact rfl); (case g3 => first | assumption | exact rfl))) | fail)
local macro_rules | `(tactic| walk_at "pd1") => `(tactic| first | (((with_reducible refine f_fld (fs := ?fs) (d := ?d) ?g0 ?g1 ?g2 ?_); (case g0 => walk_at "pg"); (case g1 => exact rfl); (case g2 => first | assumption | exact rfl))) | fail)
local macro_rules | `(tactic| walk_at "pd1") => `(tactic| first | (((with_reducible refine r_new (p := ?p) ?g0 ?_); (case g0 => first | assumption | exact rfl))) | fail)
local macro_rules | `(tactic| walk_at "pd1") => `(tactic| first | (with_reducible refine b_bits ?_) | fail)
local macro_rules | `(tactic| walk_at "pd1") => `(tactic| first | (with_reducible refine r_get ?_) | fail)
local macro_rules | `(tactic| walk_at "pd1") => `(tactic| first | (with_reducible refine r_fld ?_) | fail)
local macro_rules | `(tactic| walk_at "pd1") => `(tactic| first | (with_reducible refine r_mth ?_) | fail)
local macro_rules | `(tactic| walk_at "pd1") => `(tactic| first | (with_reducible refine r_iRev ?_) | fail)
local macro_rules | `(tactic| walk_at "pd1") => `(tactic| first | (with_reducible refine r_dnew ?_) | fail)
local macro_rules | `(tactic| walk_at "pd1") => `(tactic| first | (with_reducible refine r_bits ?_) | fail)
local macro_rules | `(tactic| walk_at "pd1") => `(tactic| first | (with_reducible refine r_setf ?_) | fail)
local macro_rules | `(tactic| walk_at "pd1") => `(tactic| first | (with_reducible refine m_l2 ?_) | fail)
local macro_rules | `(tactic| walk_at "pd1") => `(tactic| first | (with_reducible refine m_l3 ?_) | fail)
local macro_rules | `(tactic| walk_at "pd1") => `(tactic| first | (with_reducible refine m_l1 ?_) | fail)
local macro_rules | `(tactic| walk_at "pd1") => `(tactic| first | (with_reducible refine m_l0 ?_) | fail)
local macro_rules | `(tactic| walk_at "pd1") => `(tactic| first | (with_reducible refine m_t2 ?_) | fail)
local macro_rules | `(tactic| walk_at "pd1") => `(tactic| first | (with_reducible refine m_t1 ?_) | fail)
local macro_rules | `(tactic| walk_at "pd1") => `(tactic| first | (with_reducible refine m_t0 ?_) | fail)
local macro_rules | `(tactic| walk_at "pd1") => `(tactic| first | (((with_reducible refine r_tp (xs := ?xs) ?g0 ?g1 ?_); (case g0 => exact rfl); (case g1 => exact rfl))) | fail)
local macro_rules | `(tactic| walk_at "pd1") => `(tactic| first | (with_reducible refine r_nm ?_) | fail)
local macro_rules | `(tactic| walk_at "pd1") => `(tactic| first | (with_reducible refine r_iEnum ?_) | fail)
local macro_rules | `(tactic| walk_at "pd1") => `(tactic| first | (with_reducible refine r_iRng ?_) | fail)
local macro_rules | `(tactic| walk_at "pd1") => `(tactic| first | (with_reducible refine r_iSeq ?_) | fail)
local macro_rules | `(tactic| walk_at "pd1") => `(tactic| first | (with_reducible refine r_tsN ?_) | fail)
local macro_rules | `(tactic| walk_at "pd1") => `(tactic| first | (with_reducible refine r_tsC ?_) | fail)
local macro_rules | `(tactic| walk_at "pd1") => `(tactic| first | (with_reducible refine r_sub ?_) | fail)
local macro_rules | `(tactic| walk_at "pd1") => `(tactic| first | (with_reducible refine r_esN ?_) | fail)
local macro_rules | `(tactic| walk_at "pd1") => `(tactic| first | (with_reducible refine r_esC ?_) | fail)
local macro_rules | `(tactic| walk_at "pd1") => `(tactic| first | (((with_reducible refine r_oS ?_); (try dsimp only))) | fail)
local macro_rules | `(tactic| walk_at "pd1") => `(tactic| first | (((with_reducible refine r_oN ?_); (try dsimp only))) | fail)
local macro_rules | `(tactic| walk_at "pd1") => `(tactic| first | (((with_reducible refine r_bm ?_ ?g0); (case g0 => exact rfl))) | fail)
local macro_rules | `(tactic| walk_at "pd1") => `(tactic| first | (with_reducible refine r_chn ?_) | fail)
local macro_rules | `(tactic| walk_at "pd1") => `(tactic| first | (with_reducible refine r_lc ?_) | fail)
local macro_rules | `(tactic| walk_at "pd1") => `(tactic| first | (with_reducible refine r_lst ?_) | fail)
local macro_rules | `(tactic| walk_at "pd1") => `(tactic| first | (with_reducible refine r_tup ?_) | fail)
local macro_rules | `(tactic| walk_at "pd1") => `(tactic| first | (with_reducible refine r_sl ?_) | fail)
local macro_rules | `(tactic| walk_at "pd1") => `(tactic| first | (with_reducible refine r_neg ?_) | fail)
local macro_rules | `(tactic| walk_at "pd1") => `(tactic| first | (with_reducible refine r_ife ?_) | fail)
local macro_rules | `(tactic| walk_at "pd1") => `(tactic| first | (with_reducible refine r_not ?_) | fail)
local macro_rules | `(tactic| walk_at "pd1") => `(tactic| first | (with_reducible refine r_or ?_) | fail)
local macro_rules | `(tactic| walk_at "pd1") => `(tactic| first | (with_reducible refine r_and ?_) | fail)
local macro_rules | `(tactic| walk_at "pd1") => `(tactic| first | (with_reducible refine r_ix ?_) | fail)
local macro_rules | `(tactic| walk_at "pd1") => `(tactic| first | (with_reducible refine r_bi ?_) | fail)
local macro_rules | `(tactic| walk_at "pd1") => `(tactic| first | (with_reducible refine r_bin ?_) | fail)
local macro_rules | `(tactic| walk_at "pd1") => `(tactic| first | (with_reducible refine r_cmp ?_) | fail)
local macro_rules | `(tactic| walk_at "pd1") => `(tactic| first | (with_reducible refine r_cst ?_) | fail)
local macro_rules | `(tactic| walk_at "pd1") => `(tactic| first | (((with_reducible refine r_call (g := ?g) ?g0 ?_); (case g0 => first | assumption | exact rfl))) | fail)
local macro_rules | `(tactic| walk_at "pd1") => `(tactic| first | (((with_reducible refine r_var (d := ?d) ?g0 ?_); (case g0 => exact rfl))) | fail)
local macro_rules | `(tactic| walk_at "pd1") => `(tactic| first | (((with_reducible refine r_aug (j := ?j) ?g0 ?_); (case g0 => exact rfl))) | fail)
local macro_rules | `(tactic| walk_at "pd1") => `(tactic| first | (with_reducible refine r_fr ?_) | fail)
local macro_rules | `(tactic| walk_at "pd1") => `(tactic| first | (with_reducible refine r_tr ?_) | fail)
local macro_rules | `(tactic| walk_at "pd1") => `(tactic| first | (with_reducible refine r_ifs ?_) | fail)
local macro_rules | `(tactic| walk_at "pd1") => `(tactic| first | (with_reducible refine r_asg ?_) | fail)
local macro_rules | `(tactic| walk_at "pd1") => `(tactic| first | (with_reducible refine r_seq ?_) | fail)
local macro_rules | `(tactic| walk_at "pd1") => `(tactic| first | (((with_reducible refine r_ex ?_); (try dsimp only))) | fail)
local macro_rules | `(tactic| walk_at "pd1") => `(tactic| first | (((with_reducible refine r_pas ?_); (try dsimp only))) | fail)
local macro_rules | `(tactic| walk_at "pd1") => `(tactic| first | (((with_reducible refine r_rse ?_); (try dsimp only))) | fail)
local macro_rules | `(tactic| walk_at "pd1") => `(tactic| first | (((with_reducible refine r_cnt ?_); (try dsimp only))) | fail)
local macro_rules | `(tactic| walk_at "pd1") => `(tactic| first | (((with_reducible refine r_brk ?_); (try dsimp only))) | fail)
local macro_rules | `(tactic| walk_at "pd1") => `(tactic| first | (((with_reducible refine r_retN ?_); (try dsimp only))) | fail)
local macro_rules | `(tactic| walk_at "pd1") => `(tactic| first | (((with_reducible refine r_ret ?_); (try dsimp only))) | fail)
local macro_rules | `(tactic| walk_at "pd1") => `(tactic| first | (((with_reducible refine r_nil ?_); (try dsimp only))) | fail)

local macro_rules | `(tactic| walk_at "pd1") => `(tactic| first | (((with_reducible refine u_w_l (xs := ?xs) ?g0 ?_); (case g0 => walk_at "pg"))) | fail)
local macro_rules | `(tactic| walk_at "pd1") => `(tactic| first | (with_reducible refine u_w_u ?_) | fail)
local macro_rules | `(tactic| walk_at "pd1") => `(tactic| first | (with_reducible refine u_w_t ?_) | fail)
local macro_rules | `(tactic| walk_at "pd1") => `(tactic| first | (with_reducible refine u_w_n ?_) | fail)
local macro_rules | `(tactic| walk_at "pd1") => `(tactic| first | (with_reducible refine u_w_s ?_) | fail)
local macro_rules | `(tactic| walk_at "pd1") => `(tactic| first | (with_reducible refine u_w_b ?_) | fail)
local macro_rules | `(tactic| walk_at "pd1") => `(tactic| first | (with_reducible refine u_w_i ?_) | fail)
local macro_rules | `(tactic| walk_at "pd1") => `(tactic| first | (((with_reducible refine u_law_pick (l := ?l) ?g0 ?_ ?_ ?_ ?_); (case g0 => walk_at "pg"))) | fail)

/-! ### lives, by place -/
theorem lives_seq (S : Store) (ls : List Life) : seqOf S (livesD ls) = some (ls.map lifeD) := rfl
theorem g_lv {S : Store} {ls : List Life} {K : List D → Prop} (h : K (ls.map lifeD)) : onO (seqOf S (livesD ls)) K := h
theorem lf_get {ls : List Life} {k : Nat} (h : k < ls.length) : ls[k]? = some (lf ls k) := by
  unfold lf
  rw [Int.toNat_natCast, List.getD_eq_getElem?_getD, List.getElem?_eq_getElem h]
  rfl
theorem lf_mem {ls : List Life} {b : Int} (h0 : 0 ≤ b) (h1 : b < ls.length) : lf ls b ∈ ls := by
  have h := lf_get (ls := ls) (k := b.toNat) (by omega)
  rw [show ((b.toNat : Nat) : Int) = b by omega] at h
  exact List.mem_of_getElem? h
theorem atI_life {ls : List Life} {b : Int} (h0 : 0 ≤ b) (h1 : b < ls.length) : L2.atI (ls.map lifeD) b = some (lifeD (lf ls b)) := by
  rw [atI_nat h0 (by rw [List.length_map]; exact h1), List.getElem?_map, lf_get (by omega), show ((b.toNat : Nat) : Int) = b by omega]
  rfl
theorem i_life {S : Store} {ls : List Life} {b : Int} {Kk : D → Prop} (h0 : 0 ≤ b) (h1 : b < ls.length) (h : Kk (lifeD (lf ls b))) : onO (ixD S (livesD ls) (.int b)) Kk := i_sq (lives_seq S ls) (atI_life h0 h1) h
theorem n_lives {S : Store} {Q : DQ} {ls : List Life} (h : Q (.int ls.length) S) : wpBi S .len [livesD ls] Q := by
  show Q (.int (ls.map lifeD).length) S
  rw [List.length_map]
  exact h
theorem map_life {ls : List Life} {k : Nat} {d : D} (h : (ls.map lifeD)[k]? = some d) : k < ls.length ∧ d = lifeD (lf ls k) := by
  have hk : k < ls.length := by
    rcases Nat.lt_or_ge k ls.length with z | z
    · exact z
    · rw [List.getElem?_eq_none (by rw [List.length_map]; exact z)] at h; cases h
  rw [List.getElem?_map, lf_get hk] at h
  cases h
  exact ⟨hk, rfl⟩
def LivesOk (ls : List Life) : Prop := ∀ l ∈ ls, LifeOk l
theorem LivesOk.at {ls : List Life} (h : LivesOk ls) {b : Int} (h0 : 0 ≤ b) (h1 : b < ls.length) : LifeOk (lf ls b) := h _ (lf_mem h0 h1)
local macro_rules | `(tactic| walk_at "pd1") => `(tactic| first | (with_reducible refine g_lv ?_) | fail)
local macro_rules | `(tactic| walk_at "pd1") => `(tactic| first | (with_reducible refine n_lives ?_) | fail)
local macro_rules | `(tactic| walk_at "pd1") => `(tactic| first | (with_reducible refine i_life ?_ ?_ ?_) | fail)
/-! ### ending -/
def p_ending : List D → Store → Out → Prop := fun ds S o => ∃ l : Life, ds = [lifeD l] ∧ o = .val (.int (endL l))
theorem vc_ending (M : Md) : ∀ ds S o, p_ending ds S o → wpSs (M.C (excO S o)) b_ending (retO S o) (startD n_ending ds) S := by
  rintro ds S o ⟨l, rfl, rfl⟩
  simp only [b_ending, startD, List.map, List.length, List.replicate, Nat.reduceAdd, Nat.reduceSub, List.cons_append, List.nil_append]
  repeat' (walk_at "pd1")
  all_goals try (walk_at "ps")
theorem u_ending {S : Store} {Q : DQ} {E : EQ} {l : Life} (q : Q (.int (endL l)) S) : FnS p_ending [lifeD l] S Q E := ⟨_, ⟨l, rfl, rfl⟩, q⟩
theorem len_ending : ∀ ds S o, p_ending ds S o → ds.length = 1 := by rintro _ S o ⟨t, rfl, _⟩; rfl
theorem ok_ending : ∀ ds S o, p_ending ds S o → refsLts S.length ds = true → WfS S → okO S.length o = true := by rintro _ S o ⟨t, rfl, rfl⟩ _ _; rfl
local macro_rules | `(tactic| walk_at "pd1") => `(tactic| first | (with_reducible refine u_ending ?_) | fail)
/-! ### first_meeting -/
def meetL (x y : Life) : Int := if max x.1 y.1 ≥ min (endL x) (endL y) then -1 else max x.1 y.1
def meetF (ls : List Life) (b c : Int) : Int := if b = c then -1 else meetL (lf ls b) (lf ls c)
def p_first_meeting : List D → Store → Out → Prop := fun ds S o => ∃ (ls : List Life) (b c : Int), ds = [livesD ls, .int b, .int c] ∧ 0 ≤ b ∧ b < ls.length ∧ 0 ≤ c ∧ c < ls.length ∧ o = .val (.int (meetF ls b c))
theorem vc_first_meeting (M : Md) (h2 : M.sp 2 = FnS p_ending) : ∀ ds S o, p_first_meeting ds S o → wpSs (M.C (excO S o)) b_first_meeting (retO S o) (startD n_first_meeting ds) S := by
  rintro ds S o ⟨ls, b, c, rfl, h0, h1, h3, h4, rfl⟩
  simp only [b_first_meeting, startD, List.map, List.length, List.replicate, Nat.reduceAdd, Nat.reduceSub, List.cons_append, List.nil_append]
  repeat' (walk_at "pd1")
  all_goals first
    | (walk_at "pe"; done)
    | omega
    | (unfold meetF meetL; (repeat' split) <;> first | rfl | omega | (congr 1; congr 1; omega))
    | skip
theorem u_meet {S : Store} {Q : DQ} {E : EQ} {ls : List Life} {b c : Int} (h0 : 0 ≤ b) (h1 : b < ls.length) (h2 : 0 ≤ c) (h3 : c < ls.length) (q : Q (.int (meetF ls b c)) S) : FnS p_first_meeting [livesD ls, .int b, .int c] S Q E := ⟨_, ⟨ls, b, c, rfl, h0, h1, h2, h3, rfl⟩, q⟩
theorem len_first_meeting : ∀ ds S o, p_first_meeting ds S o → ds.length = 3 := by rintro _ S o ⟨ls, b, c, rfl, _⟩; rfl
theorem ok_first_meeting : ∀ ds S o, p_first_meeting ds S o → refsLts S.length ds = true → WfS S → okO S.length o = true := by rintro _ S o ⟨ls, b, c, rfl, _, _, _, _, rfl⟩ _ _; rfl
local macro_rules | `(tactic| walk_at "pd1") => `(tactic| first | (with_reducible refine u_meet ?_ ?_ ?_ ?_ ?_) | fail)
/-! ### meeting_length -/
def lenAt (l : Life) (m : Int) : Int := cf l.2 (m - l.1).toNat
def meetLen (ls : List Life) (b c : Int) : Int := lenAt (lf ls b) (meetF ls b c)
theorem meet_in {x y : Life} (h : meetL x y ≠ -1) (hx : 0 ≤ x.1) (hy : 0 ≤ y.1) : x.1 ≤ meetL x y ∧ meetL x y < endL x ∧ y.1 ≤ meetL x y ∧ meetL x y < endL y := by
  unfold meetL at h ⊢
  split at h
  · exact absurd rfl h
  · rename_i z
    rw [if_neg z]
    omega
def p_meeting_length : List D → Store → Out → Prop := fun ds S o => ∃ (ls : List Life) (b c : Int), ds = [livesD ls, .int b, .int c] ∧ 0 ≤ b ∧ b < ls.length ∧ 0 ≤ c ∧ c < ls.length ∧ LivesOk ls ∧ meetF ls b c ≠ -1 ∧ o = .val (.int (meetLen ls b c))
theorem vc_meeting_length (M : Md) (h3 : M.sp 3 = FnS p_first_meeting) : ∀ ds S o, p_meeting_length ds S o → wpSs (M.C (excO S o)) b_meeting_length (retO S o) (startD n_meeting_length ds) S := by
  rintro ds S o ⟨ls, b, c, rfl, h0, h1, h2, h4, hl, hm, rfl⟩
  have hb := hl.at h0 h1
  have hc := hl.at h2 h4
  have hq : (lf ls b).1 ≤ meetF ls b c ∧ meetF ls b c < endL (lf ls b) := by
    unfold meetF at hm ⊢
    split at hm
    · exact absurd rfl hm
    · rename_i z
      rw [if_neg z]
      have := meet_in hm hb.p0 hc.p0
      omega
  unfold endL at hq
  simp only [b_meeting_length, startD, List.map, List.length, List.replicate, Nat.reduceAdd, Nat.reduceSub, List.cons_append, List.nil_append]
  repeat' (walk_at "pd1")
  all_goals first
    | (walk_at "pe"; done)
    | omega
    | with_reducible rfl
    | (unfold meetLen lenAt; rfl)
    | skip
theorem u_meetLen {S : Store} {Q : DQ} {E : EQ} {ls : List Life} {b c : Int} (h0 : 0 ≤ b) (h1 : b < ls.length) (h2 : 0 ≤ c) (h3 : c < ls.length) (hl : LivesOk ls) (hm : meetF ls b c ≠ -1) (q : Q (.int (meetLen ls b c)) S) : FnS p_meeting_length [livesD ls, .int b, .int c] S Q E := ⟨_, ⟨ls, b, c, rfl, h0, h1, h2, h3, hl, hm, rfl⟩, q⟩
theorem len_meeting_length : ∀ ds S o, p_meeting_length ds S o → ds.length = 3 := by rintro _ S o ⟨ls, b, c, rfl, _⟩; rfl
theorem ok_meeting_length : ∀ ds S o, p_meeting_length ds S o → refsLts S.length ds = true → WfS S → okO S.length o = true := by rintro _ S o ⟨ls, b, c, rfl, _, _, _, _, _, _, rfl⟩ _ _; rfl
/-! ### apart -/
def apartB (s l o t : Int) : Bool := decide (s + l ≤ o) || decide (o + t ≤ s)
def p_apart : List D → Store → Out → Prop := fun ds S o => ∃ s l p t : Int, ds = [.int s, .int l, .int p, .int t] ∧ o = .val (.bl (apartB s l p t))
theorem vc_apart (M : Md) : ∀ ds S o, p_apart ds S o → wpSs (M.C (excO S o)) b_apart (retO S o) (startD n_apart ds) S := by
  rintro ds S o ⟨s, l, p, t, rfl, rfl⟩
  simp only [b_apart, startD, List.map, List.length, List.replicate, Nat.reduceAdd, Nat.reduceSub, List.cons_append, List.nil_append]
  repeat' (walk_at "pd1")
  all_goals first
    | (walk_at "pe"; done)
    | (unfold apartB; simp [*]; done)
    | skip
theorem u_apart {S : Store} {Q : DQ} {E : EQ} {s l p t : Int} (q : Q (.bl (apartB s l p t)) S) : FnS p_apart [.int s, .int l, .int p, .int t] S Q E := ⟨_, ⟨s, l, p, t, rfl, rfl⟩, q⟩
theorem len_apart : ∀ ds S o, p_apart ds S o → ds.length = 4 := by rintro _ S o ⟨s, l, p, t, rfl, _⟩; rfl
theorem ok_apart : ∀ ds S o, p_apart ds S o → refsLts S.length ds = true → WfS S → okO S.length o = true := by rintro _ S o ⟨s, l, p, t, rfl, rfl⟩ _ _; rfl


end
section
set_option Elab.async false
set_option linter.all false
set_option maxRecDepth 100000
set_option maxHeartbeats 8000000
open PySem
local macro_rules | `(tactic| walk_at "pd1") => `(tactic| first | (((with_reducible refine r_tp (xs := ?xs) ?g0 ?g1 ?_); (case g0 => (refine seq_ref ?_; walk_at "pg")); (case g1 => exact rfl))) | fail)
local macro_rules | `(tactic| walk_at "pd1") => `(tactic| first | (((with_reducible refine r_eisi (er := ?er) ?g0 ?_); (case g0 => exact rfl))) | fail)
local macro_rules | `(tactic| walk_at "pd1") => `(tactic| first | (((with_reducible refine r_efld (er := ?er) (d := ?d) ?g0 ?g1 ?_); (case g0 => exact rfl); (case g1 => exact rfl))) | fail)
local macro_rules | `(tactic| walk_at "pd1") => `(tactic| first | (((with_reducible refine t_lg (xs := ?xs) ?g0 ?_); (case g0 => walk_at "pg"))) | fail)
local macro_rules | `(tactic| walk_at "pd1") => `(tactic| first | (((with_reducible refine p_lg (xs := ?xs) ?g0 ?_ ?_); (case g0 => walk_at "pg"))) | fail)
local macro_rules | `(tactic| walk_at "pd1") => `(tactic| first | (with_reducible refine p_eg ?_ ?_) | fail)
local macro_rules | `(tactic| walk_at "pd1") => `(tactic| first | (((with_reducible refine x_bm (xs := ?xs) ?g0 ?_); (case g0 => walk_at "pg"))) | fail)
local macro_rules | `(tactic| walk_at "pd1") => `(tactic| first | (((with_reducible refine c_ne_ll (l := ?l) ?g0 ?g1 ?_); (case g0 => walk_at "pg"); (case g1 => walk_at "pg"))) | fail)
local macro_rules | `(tactic| walk_at "pd1") => `(tactic| first | (with_reducible refine x_ends ?_) | fail)
local macro_rules | `(tactic| walk_at "pd1") => `(tactic| first | (with_reducible refine g_tg ?_) | fail)
local macro_rules | `(tactic| walk_at "pd1") => `(tactic| first | (with_reducible refine l_tg ?_) | fail)
local macro_rules | `(tactic| walk_at "pd1") => `(tactic| first | (with_reducible refine t_tg ?_) | fail)
local macro_rules | `(tactic| walk_at "pd1") => `(tactic| first | (with_reducible refine c_isnN ?_) | fail)
local macro_rules | `(tactic| walk_at "pd1") => `(tactic| first | (with_reducible refine c_isN ?_) | fail)
local macro_rules | `(tactic| walk_at "pd1") => `(tactic| first | (with_reducible refine c_net ?_) | fail)
local macro_rules | `(tactic| walk_at "pd1") => `(tactic| first | (with_reducible refine c_eqt ?_) | fail)
local macro_rules | `(tactic| walk_at "pd1") => `(tactic| first | (with_reducible refine c_nes ?_) | fail)
local macro_rules | `(tactic| walk_at "pd1") => `(tactic| first | (with_reducible refine c_eqs ?_) | fail)
local macro_rules | `(tactic| walk_at "pd1") => `(tactic| first | (with_reducible refine c_neb ?_) | fail)
local macro_rules | `(tactic| walk_at "pd1") => `(tactic| first | (with_reducible refine c_eqb ?_) | fail)
local macro_rules | `(tactic| walk_at "pd1") => `(tactic| first | (((with_reducible refine st_and ?g0 ?_); (case g0 => walk_at "pst"))) | fail)
local macro_rules | `(tactic| walk_at "pd1") => `(tactic| first | (((with_reducible refine isi_q_tl (f := ?f) ?g0 ?_); (case g0 => walk_at "pq"))) | fail)
local macro_rules | `(tactic| walk_at "pd1") => `(tactic| first | (((with_reducible refine g_q (f := ?f) ?g0 ?_); (case g0 => walk_at "pq"))) | fail)
local macro_rules | `(tactic| walk_at "pd1") => `(tactic| first | (((with_reducible refine i_q (f := ?f) ?g0 ?_ ?_ ?_); (case g0 => walk_at "pq"))) | fail)
local macro_rules | `(tactic| walk_at "pd1") => `(tactic| first | (((with_reducible refine t_q (f := ?f) ?g0 ?_); (case g0 => walk_at "pq"))) | fail)
local macro_rules | `(tactic| walk_at "pd1") => `(tactic| first | (((with_reducible refine l_q (f := ?f) ?g0 ?_); (case g0 => walk_at "pq"))) | fail)
local macro_rules | `(tactic| walk_at "pd1") => `(tactic| first | (((with_reducible refine n_q (f := ?f) ?g0 ?_); (case g0 => walk_at "pq"))) | fail)
local macro_rules | `(tactic| walk_at "pd1") => `(tactic| first | (((with_reducible refine m_lg ?g0 ?_); (case g0 => exact Nat.le_of_ble_eq_true rfl))) | fail)
local macro_rules | `(tactic| walk_at "pd1") => `(tactic| first | (((with_reducible refine m_tg ?g0 ?_); (case g0 => exact Nat.le_of_ble_eq_true rfl))) | fail)
local macro_rules | `(tactic| walk_at "pd1") => `(tactic| first | (((with_reducible refine g_lg (xs := ?xs) ?g0 ?_); (case g0 => walk_at "pg"))) | fail)
local macro_rules | `(tactic| walk_at "pd1") => `(tactic| first | (((with_reducible refine i_lg (xs := ?xs) (d := ?d) ?g0 ?g1 ?_); (case g0 => walk_at "pg"); (case g1 => exact rfl))) | fail)
local macro_rules | `(tactic| walk_at "pd1") => `(tactic| first | (((with_reducible refine i_tg (d := ?d) ?g0 ?_); (case g0 => exact rfl))) | fail)
local macro_rules | `(tactic| walk_at "pd1") => `(tactic| first | (((with_reducible refine l_lg (xs := ?xs) ?g0 ?_); (case g0 => walk_at "pg"))) | fail)
local macro_rules | `(tactic| walk_at "pd1") => `(tactic| first | (((with_reducible refine n_lg (xs := ?xs) ?g0 ?_); (case g0 => walk_at "pg"))) | fail)
local macro_rules | `(tactic| walk_at "pd1") => `(tactic| first | (with_reducible refine n_tg ?_) | fail)
local macro_rules | `(tactic| walk_at "pd1") => `(tactic| first | (((with_reducible refine isi_ty0 (a := ?a) ?g0 ?g1 ?_); (case g0 => assumption); (case g1 => decide))) | fail)
local macro_rules | `(tactic| walk_at "pd1") => `(tactic| first | (((with_reducible refine isi_l_tl (xs := ?xs) ?g0 ?_); (case g0 => walk_at "pg"))) | fail)
local macro_rules | `(tactic| walk_at "pd1") => `(tactic| first | (((with_reducible refine isi_l_tup (xs := ?xs) ?g0 ?_); (case g0 => walk_at "pg"))) | fail)
local macro_rules | `(tactic| walk_at "pd1") => `(tactic| first | (((with_reducible refine isi_l_bool (xs := ?xs) ?g0 ?_); (case g0 => walk_at "pg"))) | fail)
local macro_rules | `(tactic| walk_at "pd1") => `(tactic| first | (((with_reducible refine isi_l_int (xs := ?xs) ?g0 ?_); (case g0 => walk_at "pg"))) | fail)
local macro_rules | `(tactic| walk_at "pd1") => `(tactic| first | (with_reducible refine isi_u_tl ?_) | fail)
local macro_rules | `(tactic| walk_at "pd1") => `(tactic| first | (with_reducible refine isi_u_tup ?_) | fail)
local macro_rules | `(tactic| walk_at "pd1") => `(tactic| first | (with_reducible refine isi_u_bool ?_) | fail)
local macro_rules | `(tactic| walk_at "pd1") => `(tactic| first | (with_reducible refine isi_u_int ?_) | fail)
local macro_rules | `(tactic| walk_at "pd1") => `(tactic| first | (with_reducible refine isi_t_tl ?_) | fail)
local macro_rules | `(tactic| walk_at "pd1") => `(tactic| first | (with_reducible refine isi_t_tup ?_) | fail)
local macro_rules | `(tactic| walk_at "pd1") => `(tactic| first | (with_reducible refine isi_t_bool ?_) | fail)
local macro_rules | `(tactic| walk_at "pd1") => `(tactic| first | (with_reducible refine isi_t_int ?_) | fail)
local macro_rules | `(tactic| walk_at "pd1") => `(tactic| first | (with_reducible refine isi_n_tl ?_) | fail)
local macro_rules | `(tactic| walk_at "pd1") => `(tactic| first | (with_reducible refine isi_n_tup ?_) | fail)
local macro_rules | `(tactic| walk_at "pd1") => `(tactic| first | (with_reducible refine isi_n_bool ?_) | fail)
local macro_rules | `(tactic| walk_at "pd1") => `(tactic| first | (with_reducible refine isi_n_int ?_) | fail)
local macro_rules | `(tactic| walk_at "pd1") => `(tactic| first | (with_reducible refine isi_s_tl ?_) | fail)
local macro_rules | `(tactic| walk_at "pd1") => `(tactic| first | (with_reducible refine isi_s_tup ?_) | fail)
local macro_rules | `(tactic| walk_at "pd1") => `(tactic| first | (with_reducible refine isi_s_bool ?_) | fail)
local macro_rules | `(tactic| walk_at "pd1") => `(tactic| first | (with_reducible refine isi_s_int ?_) | fail)
local macro_rules | `(tactic| walk_at "pd1") => `(tactic| first | (with_reducible refine isi_b_tl ?_) | fail)
local macro_rules | `(tactic| walk_at "pd1") => `(tactic| first | (with_reducible refine isi_b_tup ?_) | fail)
local macro_rules | `(tactic| walk_at "pd1") => `(tactic| first | (with_reducible refine isi_b_bool ?_) | fail)
local macro_rules | `(tactic| walk_at "pd1") => `(tactic| first | (with_reducible refine isi_b_int ?_) | fail)
local macro_rules | `(tactic| walk_at "pd1") => `(tactic| first | (with_reducible refine isi_i_tl ?_) | fail)
local macro_rules | `(tactic| walk_at "pd1") => `(tactic| first | (with_reducible refine isi_i_tup ?_) | fail)
local macro_rules | `(tactic| walk_at "pd1") => `(tactic| first | (with_reducible refine isi_i_bool ?_) | fail)
local macro_rules | `(tactic| walk_at "pd1") => `(tactic| first | (with_reducible refine isi_i_int ?_) | fail)
local macro_rules | `(tactic| walk_at "pd1") => `(tactic| first | (with_reducible refine o_new ?_ ?_ ?_) | fail)
local macro_rules | `(tactic| walk_at "pd1") => `(tactic| first | (with_reducible refine o_exc ?_ ?_ ?_) | fail)
local macro_rules | `(tactic| walk_at "pd1") => `(tactic| first | (((with_reducible refine lc_end ?g0 ?_); (case g0 => first | exact rfl | skip))) | fail)
local macro_rules | `(tactic| walk_at "pd1") => `(tactic| first | (with_reducible refine o_val ?_ ?_) | fail)
local macro_rules | `(tactic| walk_at "pd1") => `(tactic| first | (((with_reducible refine g_l (f := ?f) ?g0 ?_); (case g0 => walk_at "pg"))) | fail)
local macro_rules | `(tactic| walk_at "pd1") => `(tactic| first | (with_reducible refine g_t ?_) | fail)
local macro_rules | `(tactic| walk_at "pd1") => `(tactic| first | (with_reducible refine g_r2 ?_ ?_ ?_ ?_ ?_) | fail)
local macro_rules | `(tactic| walk_at "pd1") => `(tactic| first | (with_reducible refine g_r1 ?_ ?_ ?_) | fail)
local macro_rules | `(tactic| walk_at "pd1") => `(tactic| first | (with_reducible refine on_if ?_) | fail)
local macro_rules | `(tactic| walk_at "pd1") => `(tactic| first | (with_reducible refine t_neg ?_) | fail)
local macro_rules | `(tactic| walk_at "pd1") => `(tactic| first | (with_reducible refine t_nb ?_) | fail)
local macro_rules | `(tactic| walk_at "pd1") => `(tactic| first | (((with_reducible refine t_and (fun hb => ?_) (fun hb => ?_)) <;> ((try (cases hb; done)); (try simp only [decide_eq_true_eq, decide_eq_false_iff_not, Bool.not_eq_true', Bool.not_eq_false'] at hb)))) | fail)
local macro_rules | `(tactic| walk_at "pd1") => `(tactic| first | (((with_reducible refine t_bl (fun hb => ?_) (fun hb => ?_)) <;> ((try (cases hb; done)); (try simp only [decide_eq_true_eq, decide_eq_false_iff_not, Bool.not_eq_true', Bool.not_eq_false'] at hb)))) | fail)
local macro_rules | `(tactic| walk_at "pd1") => `(tactic| first | (with_reducible refine c_isn ?_) | fail)
local macro_rules | `(tactic| walk_at "pd1") => `(tactic| first | (with_reducible refine c_is ?_) | fail)
local macro_rules | `(tactic| walk_at "pd1") => `(tactic| first | (with_reducible refine c_ne ?_) | fail)
local macro_rules | `(tactic| walk_at "pd1") => `(tactic| first | (with_reducible refine c_eq ?_) | fail)
local macro_rules | `(tactic| walk_at "pd1") => `(tactic| first | (with_reducible refine c_ge ?_) | fail)
local macro_rules | `(tactic| walk_at "pd1") => `(tactic| first | (with_reducible refine c_gt ?_) | fail)
local macro_rules | `(tactic| walk_at "pd1") => `(tactic| first | (with_reducible refine c_le ?_) | fail)
local macro_rules | `(tactic| walk_at "pd1") => `(tactic| first | (with_reducible refine c_lt ?_) | fail)
local macro_rules | `(tactic| walk_at "pd1") => `(tactic| first | (((with_reducible refine p_l (f := ?f) ?g0 ?_ ?_); (case g0 => walk_at "pg"))) | fail)
local macro_rules | `(tactic| walk_at "pd1") => `(tactic| first | (with_reducible refine p_e ?_ ?_) | fail)
local macro_rules | `(tactic| walk_at "pd1") => `(tactic| first | (((with_reducible refine w_l (f := ?f) ?g0 ?_ ?_ ?_); (case g0 => walk_at "pg"))) | fail)
local macro_rules | `(tactic| walk_at "pd1") => `(tactic| first | (with_reducible refine w_e ?_ ?_ ?_) | fail)
local macro_rules | `(tactic| walk_at "pd1") => `(tactic| first | (((with_reducible refine i_l (f := ?f) ?g0 ?_ ?_ ?_); (case g0 => walk_at "pg"))) | fail)
local macro_rules | `(tactic| walk_at "pd1") => `(tactic| first | (with_reducible refine i_t ?_ ?_ ?_) | fail)
local macro_rules | `(tactic| walk_at "pd1") => `(tactic| first | (with_reducible refine i_tn ?_ ?_) | fail)
local macro_rules | `(tactic| walk_at "pd1") => `(tactic| first | (((with_reducible refine t_l (f := ?f) ?g0 ?_); (case g0 => walk_at "pg"))) | fail)
local macro_rules | `(tactic| walk_at "pd1") => `(tactic| first | (((with_reducible refine l_l (f := ?f) ?g0 ?_); (case g0 => walk_at "pg"))) | fail)
local macro_rules | `(tactic| walk_at "pd1") => `(tactic| first | (((with_reducible refine n_l (f := ?f) ?g0 ?_); (case g0 => walk_at "pg"))) | fail)
local macro_rules | `(tactic| walk_at "pd1") => `(tactic| first | (with_reducible refine b_min ?_) | fail)
local macro_rules | `(tactic| walk_at "pd1") => `(tactic| first | (with_reducible refine b_max ?_) | fail)
local macro_rules | `(tactic| walk_at "pd1") => `(tactic| first | (with_reducible refine b_intb ?_) | fail)
local macro_rules | `(tactic| walk_at "pd1") => `(tactic| first | (with_reducible refine b_int ?_) | fail)
local macro_rules | `(tactic| walk_at "pd1") => `(tactic| first | (with_reducible refine b_abs ?_) | fail)
local macro_rules | `(tactic| walk_at "pd1") => `(tactic| first | (with_reducible refine t_t ?_) | fail)
local macro_rules | `(tactic| walk_at "pd1") => `(tactic| first | (with_reducible refine l_t ?_) | fail)
local macro_rules | `(tactic| walk_at "pd1") => `(tactic| first | (with_reducible refine n_t ?_) | fail)
local macro_rules | `(tactic| walk_at "pd1") => `(tactic| first | (((with_reducible refine s_lf (f := ?f) ?g0 ?_ ?_); (case g0 => walk_at "pg"))) | fail)
local macro_rules | `(tactic| walk_at "pd1") => `(tactic| first | (((with_reducible refine s_lt (f := ?f) ?g0 ?_ ?_); (case g0 => walk_at "pg"))) | fail)
local macro_rules | `(tactic| walk_at "pd1") => `(tactic| first | (with_reducible refine s_tf ?_ ?_) | fail)
local macro_rules | `(tactic| walk_at "pd1") => `(tactic| first | (with_reducible refine s_tt ?_ ?_) | fail)
local macro_rules | `(tactic| walk_at "pd1") => `(tactic| first | ((with_reducible refine r_on (show partD (some (D.int _)) = some (some _) from rfl) ?_)) | fail)
local macro_rules | `(tactic| walk_at "pd1") => `(tactic| first | ((with_reducible refine r_on (show partD none = some none from rfl) ?_)) | fail)
local macro_rules | `(tactic| walk_at "pd1") => `(tactic| first | (((with_reducible refine x_l1 (i := ?i) ?g0 ?_ ?_ ?_); (case g0 => walk_at "pg"))) | fail)
local macro_rules | `(tactic| walk_at "pd1") => `(tactic| first | (((with_reducible refine a_ll (f := ?f) (g := ?g) ?g0 ?g1 ?_ ?_); (case g0 => walk_at "pg"); (case g1 => walk_at "pg"))) | fail)
local macro_rules | `(tactic| walk_at "pd1") => `(tactic| first | (with_reducible refine r_powI ?_ ?_ ?_ ?_) | fail)
local macro_rules | `(tactic| walk_at "pd1") => `(tactic| first | (with_reducible refine x_t1 ?_ ?_ ?_) | fail)
local macro_rules | `(tactic| walk_at "pd1") => `(tactic| first | (with_reducible refine r_fdivI ?_ ?_ ?_) | fail)
local macro_rules | `(tactic| walk_at "pd1") => `(tactic| first | (with_reducible refine a_tt ?_ ?_) | fail)
local macro_rules | `(tactic| walk_at "pd1") => `(tactic| first | (with_reducible refine r_modI ?_ ?_) | fail)
local macro_rules | `(tactic| walk_at "pd1") => `(tactic| first | (with_reducible refine r_mulI ?_ ?_) | fail)
local macro_rules | `(tactic| walk_at "pd1") => `(tactic| first | (with_reducible refine r_subI ?_) | fail)
local macro_rules | `(tactic| walk_at "pd1") => `(tactic| first | (with_reducible refine r_addI ?_) | fail)
local macro_rules | `(tactic| walk_at "pd1") => `(tactic| first | (((with_reducible refine b_sorted (xs := ?xs) ?g0 ?_ ?_ ?_ ?_ ?_); (case g0 => walk_at "pg"))) | fail)
local macro_rules | `(tactic| walk_at "pd1") => `(tactic| first | (with_reducible refine b_lcm ?_ ?_ ?_) | fail)
local macro_rules | `(tactic| walk_at "pd1") => `(tactic| first | (((with_reducible refine w_d (kvs := ?kvs) ?g0 ?_ ?_); (case g0 => walk_at "pg"))) | fail)
local macro_rules | `(tactic| walk_at "pd1") => `(tactic| first | (((with_reducible refine i_d (kvs := ?kvs) ?g0 ?_ ?_); (case g0 => walk_at "pg"))) | fail)
local macro_rules | `(tactic| walk_at "pd1") => `(tactic| first | (((with_reducible refine c_dNin (kvs := ?kvs) ?g0 ?_); (case g0 => walk_at "pg"))) | fail)
local macro_rules | `(tactic| walk_at "pd1") => `(tactic| first | (((with_reducible refine c_dIn (kvs := ?kvs) ?g0 ?_); (case g0 => walk_at "pg"))) | fail)
local macro_rules | `(tactic| walk_at "pd1") => `(tactic| first | (((with_reducible refine m_get (kvs := ?kvs) ?g0 ?_); (case g0 => walk_at "pg"))) | fail)
local macro_rules | `(tactic| walk_at "pd1") => `(tactic| first | (((with_reducible refine o_get (kvs := ?kvs) ?g0 ?_); (case g0 => walk_at "pg"))) | fail)
local macro_rules | `(tactic| walk_at "pd1") => `(tactic| first | (with_reducible refine c_isnb ?_) | fail)
local macro_rules | `(tactic| walk_at "pd1") => `(tactic| first | (with_reducible refine c_isb ?_) | fail)
local macro_rules | `(tactic| walk_at "pd1") => `(tactic| first | ((with_reducible refine ch_lt (fun hb => ?_) (fun hb => ?_))) | fail)
local macro_rules | `(tactic| walk_at "pd1") => `(tactic| first | ((with_reducible refine ch_le (fun hb => ?_) (fun hb => ?_))) | fail)
local macro_rules | `(tactic| walk_at "pd1") => `(tactic| first | (((with_reducible refine t_setf (fs := ?fs) ?g0 ?g1 ?g2 ?_); (case g0 => walk_at "pg"); (case g1 => first | assumption | exact rfl); (case g2 => (show _ < 1000); decide))) | fail)
local macro_rules | `(tactic| walk_at "pd1") => `(tactic| first | (((with_reducible refine t_mth (fs := ?fs) (i := ?i) (g := ?gg) ?g0 ?g1 ?g2 ?g3 ?_); (case g0 => walk_at "pg"); (case g1 => exact rfl); (case g2 => exact rfl); (case g3 => first | assumption | exact rfl))) | fail)
local macro_rules | `(tactic| walk_at "pd1") => `(tactic| first | (((with_reducible refine f_fld (fs := ?fs) (d := ?d) ?g0 ?g1 ?g2 ?_); (case g0 => walk_at "pg"); (case g1 => exact rfl); (case g2 => first | assumption | exact rfl))) | fail)
local macro_rules | `(tactic| walk_at "pd1") => `(tactic| first | (((with_reducible refine r_new (p := ?p) ?g0 ?_); (case g0 => first | assumption | exact rfl))) | fail)
local macro_rules | `(tactic| walk_at "pd1") => `(tactic| first | (with_reducible refine b_bits ?_) | fail)
local macro_rules | `(tactic| walk_at "pd1") => `(tactic| first | (with_reducible refine r_get ?_) | fail)
local macro_rules | `(tactic| walk_at "pd1") => `(tactic| first | (with_reducible refine r_fld ?_) | fail)
local macro_rules | `(tactic| walk_at "pd1") => `(tactic| first | (with_reducible refine r_mth ?_) | fail)
local macro_rules | `(tactic| walk_at "pd1") => `(tactic| first | (with_reducible refine r_iRev ?_) | fail)
local macro_rules | `(tactic| walk_at "pd1") => `(tactic| first | (with_reducible refine r_dnew ?_) | fail)
local macro_rules | `(tactic| walk_at "pd1") => `(tactic| first | (with_reducible refine r_bits ?_) | fail)
local macro_rules | `(tactic| walk_at "pd1") => `(tactic| first | (with_reducible refine r_setf ?_) | fail)
local macro_rules | `(tactic| walk_at "pd1") => `(tactic| first | (with_reducible refine m_l2 ?_) | fail)
local macro_rules | `(tactic| walk_at "pd1") => `(tactic| first | (with_reducible refine m_l3 ?_) | fail)
local macro_rules | `(tactic| walk_at "pd1") => `(tactic| first | (with_reducible refine m_l1 ?_) | fail)
local macro_rules | `(tactic| walk_at "pd1") => `(tactic| first | (with_reducible refine m_l0 ?_) | fail)
local macro_rules | `(tactic| walk_at "pd1") => `(tactic| first | (with_reducible refine m_t2 ?_) | fail)
local macro_rules | `(tactic| walk_at "pd1") => `(tactic| first | (with_reducible refine m_t1 ?_) | fail)
local macro_rules | `(tactic| walk_at "pd1") => `(tactic| first | (with_reducible refine m_t0 ?_) | fail)
local macro_rules | `(tactic| walk_at "pd1") => `(tactic| first | (((with_reducible refine r_tp (xs := ?xs) ?g0 ?g1 ?_); (case g0 => exact rfl); (case g1 => exact rfl))) | fail)
local macro_rules | `(tactic| walk_at "pd1") => `(tactic| first | (with_reducible refine r_nm ?_) | fail)
local macro_rules | `(tactic| walk_at "pd1") => `(tactic| first | (with_reducible refine r_iEnum ?_) | fail)
local macro_rules | `(tactic| walk_at "pd1") => `(tactic| first | (with_reducible refine r_iRng ?_) | fail)
local macro_rules | `(tactic| walk_at "pd1") => `(tactic| first | (with_reducible refine r_iSeq ?_) | fail)
local macro_rules | `(tactic| walk_at "pd1") => `(tactic| first | (with_reducible refine r_tsN ?_) | fail)
local macro_rules | `(tactic| walk_at "pd1") => `(tactic| first | (with_reducible refine r_tsC ?_) | fail)
local macro_rules | `(tactic| walk_at "pd1") => `(tactic| first | (with_reducible refine r_sub ?_) | fail)
local macro_rules | `(tactic| walk_at "pd1") => `(tactic| first | (with_reducible refine r_esN ?_) | fail)
local macro_rules | `(tactic| walk_at "pd1") => `(tactic| first | (with_reducible refine r_esC ?_) | fail)
local macro_rules | `(tactic| walk_at "pd1") => `(tactic| first | (((with_reducible refine r_oS ?_); (try dsimp only))) | fail)
local macro_rules | `(tactic| walk_at "pd1") => `(tactic| first | (((with_reducible refine r_oN ?_); (try dsimp only))) | fail)
local macro_rules | `(tactic| walk_at "pd1") => `(tactic| first | (((with_reducible refine r_bm ?_ ?g0); (case g0 => exact rfl))) | fail)
local macro_rules | `(tactic| walk_at "pd1") => `(tactic| first | (with_reducible refine r_chn ?_) | fail)
local macro_rules | `(tactic| walk_at "pd1") => `(tactic| first | (with_reducible refine r_lc ?_) | fail)
local macro_rules | `(tactic| walk_at "pd1") => `(tactic| first | (with_reducible refine r_lst ?_) | fail)
local macro_rules | `(tactic| walk_at "pd1") => `(tactic| first | (with_reducible refine r_tup ?_) | fail)
local macro_rules | `(tactic| walk_at "pd1") => `(tactic| first | (with_reducible refine r_sl ?_) | fail)
local macro_rules | `(tactic| walk_at "pd1") => `(tactic| first | (with_reducible refine r_neg ?_) | fail)
local macro_rules | `(tactic| walk_at "pd1") => `(tactic| first | (with_reducible refine r_ife ?_) | fail)
local macro_rules | `(tactic| walk_at "pd1") => `(tactic| first | (with_reducible refine r_not ?_) | fail)
local macro_rules | `(tactic| walk_at "pd1") => `(tactic| first | (with_reducible refine r_or ?_) | fail)
local macro_rules | `(tactic| walk_at "pd1") => `(tactic| first | (with_reducible refine r_and ?_) | fail)
local macro_rules | `(tactic| walk_at "pd1") => `(tactic| first | (with_reducible refine r_ix ?_) | fail)
local macro_rules | `(tactic| walk_at "pd1") => `(tactic| first | (with_reducible refine r_bi ?_) | fail)
local macro_rules | `(tactic| walk_at "pd1") => `(tactic| first | (with_reducible refine r_bin ?_) | fail)
local macro_rules | `(tactic| walk_at "pd1") => `(tactic| first | (with_reducible refine r_cmp ?_) | fail)
local macro_rules | `(tactic| walk_at "pd1") => `(tactic| first | (with_reducible refine r_cst ?_) | fail)
local macro_rules | `(tactic| walk_at "pd1") => `(tactic| first | (((with_reducible refine r_call (g := ?g) ?g0 ?_); (case g0 => first | assumption | exact rfl))) | fail)
local macro_rules | `(tactic| walk_at "pd1") => `(tactic| first | (((with_reducible refine r_var (d := ?d) ?g0 ?_); (case g0 => exact rfl))) | fail)
local macro_rules | `(tactic| walk_at "pd1") => `(tactic| first | (((with_reducible refine r_aug (j := ?j) ?g0 ?_); (case g0 => exact rfl))) | fail)
local macro_rules | `(tactic| walk_at "pd1") => `(tactic| first | (with_reducible refine r_fr ?_) | fail)
local macro_rules | `(tactic| walk_at "pd1") => `(tactic| first | (with_reducible refine r_tr ?_) | fail)
local macro_rules | `(tactic| walk_at "pd1") => `(tactic| first | (with_reducible refine r_ifs ?_) | fail)
local macro_rules | `(tactic| walk_at "pd1") => `(tactic| first | (with_reducible refine r_asg ?_) | fail)
local macro_rules | `(tactic| walk_at "pd1") => `(tactic| first | (with_reducible refine r_seq ?_) | fail)
local macro_rules | `(tactic| walk_at "pd1") => `(tactic| first | (((with_reducible refine r_ex ?_); (try dsimp only))) | fail)
local macro_rules | `(tactic| walk_at "pd1") => `(tactic| first | (((with_reducible refine r_pas ?_); (try dsimp only))) | fail)
local macro_rules | `(tactic| walk_at "pd1") => `(tactic| first | (((with_reducible refine r_rse ?_); (try dsimp only))) | fail)
local macro_rules | `(tactic| walk_at "pd1") => `(tactic| first | (((with_reducible refine r_cnt ?_); (try dsimp only))) | fail)
local macro_rules | `(tactic| walk_at "pd1") => `(tactic| first | (((with_reducible refine r_brk ?_); (try dsimp only))) | fail)
local macro_rules | `(tactic| walk_at "pd1") => `(tactic| first | (((with_reducible refine r_retN ?_); (try dsimp only))) | fail)
local macro_rules | `(tactic| walk_at "pd1") => `(tactic| first | (((with_reducible refine r_ret ?_); (try dsimp only))) | fail)
local macro_rules | `(tactic| walk_at "pd1") => `(tactic| first | (((with_reducible refine r_nil ?_); (try dsimp only))) | fail)

local macro_rules | `(tactic| walk_at "pd1") => `(tactic| first | (((with_reducible refine u_w_l (xs := ?xs) ?g0 ?_); (case g0 => walk_at "pg"))) | fail)
local macro_rules | `(tactic| walk_at "pd1") => `(tactic| first | (with_reducible refine u_w_u ?_) | fail)
local macro_rules | `(tactic| walk_at "pd1") => `(tactic| first | (with_reducible refine u_w_t ?_) | fail)
local macro_rules | `(tactic| walk_at "pd1") => `(tactic| first | (with_reducible refine u_w_n ?_) | fail)
local macro_rules | `(tactic| walk_at "pd1") => `(tactic| first | (with_reducible refine u_w_s ?_) | fail)
local macro_rules | `(tactic| walk_at "pd1") => `(tactic| first | (with_reducible refine u_w_b ?_) | fail)
local macro_rules | `(tactic| walk_at "pd1") => `(tactic| first | (with_reducible refine u_w_i ?_) | fail)
local macro_rules | `(tactic| walk_at "pd1") => `(tactic| first | (((with_reducible refine u_law_pick (l := ?l) ?g0 ?_ ?_ ?_ ?_); (case g0 => walk_at "pg"))) | fail)

local macro_rules | `(tactic| walk_at "pd1") => `(tactic| first | (with_reducible refine u_meet ?_ ?_ ?_ ?_ ?_) | fail)
local macro_rules | `(tactic| walk_at "pd1") => `(tactic| first | (with_reducible refine u_ending ?_) | fail)
local macro_rules | `(tactic| walk_at "pd1") => `(tactic| first | (with_reducible refine g_lv ?_) | fail)
local macro_rules | `(tactic| walk_at "pd1") => `(tactic| first | (with_reducible refine n_lives ?_) | fail)
local macro_rules | `(tactic| walk_at "pd1") => `(tactic| first | (with_reducible refine i_life ?_ ?_ ?_) | fail)

/-! ### meeting_pairs -/
abbrev pairD (p : Nat × Nat) : D := tupI [(p.1 : Int), (p.2 : Int)]
def innP (ls : List Life) (b k : Nat) : List (Nat × Nat) := (List.range k).filterMap fun j => if 0 ≤ meetF ls b (b + 1 + j : Nat) then some (b, b + 1 + j) else none
def pairsL (ls : List Life) (m : Nat) : List (Nat × Nat) := (List.range m).flatMap fun b => innP ls b (ls.length - (b + 1))
theorem innP_succ (ls : List Life) (b k : Nat) : innP ls b (k + 1) = innP ls b k ++ (if 0 ≤ meetF ls b (b + 1 + k : Nat) then [(b, b + 1 + k)] else []) := by
  unfold innP
  rw [List.range_succ, List.filterMap_append]
  congr 1
  by_cases h : 0 ≤ meetF ls b (b + 1 + k : Nat)
  · simp only [List.filterMap_cons, List.filterMap_nil, if_pos h]
  · simp only [List.filterMap_cons, List.filterMap_nil, if_neg h]
theorem pairs_succ (ls : List Life) (m : Nat) : pairsL ls (m + 1) = pairsL ls m ++ innP ls m (ls.length - (m + 1)) := by
  unfold pairsL
  rw [List.range_succ, List.flatMap_append]
  simp
theorem innP_len (ls : List Life) (b k : Nat) : (innP ls b k).length ≤ k := by
  have := List.length_filterMap_le (fun j => if 0 ≤ meetF ls b (b + 1 + j : Nat) then some (b, b + 1 + j) else none) (List.range k)
  rw [List.length_range] at this
  exact this
theorem pairs_len (ls : List Life) : ∀ m, m ≤ ls.length → (pairsL ls m).length ≤ m * ls.length
  | 0, _ => Nat.zero_le _
  | m + 1, h => by
    rw [pairs_succ, List.length_append, Nat.succ_mul]
    have := pairs_len ls m (by omega)
    have := innP_len ls m (ls.length - (m + 1))
    omega
theorem mem_pairs {ls : List Life} {b c : Nat} : (b, c) ∈ pairsL ls ls.length ↔ b < c ∧ c < ls.length ∧ 0 ≤ meetF ls b c := by
  unfold pairsL innP
  simp only [List.mem_flatMap, List.mem_range, List.mem_filterMap]
  constructor
  · rintro ⟨x, hx, j, hj, h⟩
    split at h
    · rename_i z
      cases h
      exact ⟨by omega, by omega, z⟩
    · cases h
  · rintro ⟨h1, h2, h3⟩
    refine ⟨b, by omega, c - (b + 1), by omega, ?_⟩
    have e : b + 1 + (c - (b + 1)) = c := by omega
    rw [e, if_pos h3]
def p_meeting_pairs : List D → Store → Out → Prop := fun ds S o => ∃ ls : List Life, ds = [livesD ls] ∧ ls.length ≤ 1000 ∧ o = .val (.tup ((pairsL ls ls.length).map pairD))
theorem vc_meeting_pairs (M : Md) (h3 : M.sp 3 = FnS p_first_meeting) : ∀ ds S o, p_meeting_pairs ds S o → wpSs (M.C (excO S o)) b_meeting_pairs (retO S o) (startD n_meeting_pairs ds) S := by
  rintro ds S o ⟨ls, rfl, hl, rfl⟩
  simp only [b_meeting_pairs, startD, List.map, List.length, List.replicate, Nat.reduceAdd, Nat.reduceSub, List.cons_append, List.nil_append]
  repeat' (walk_at "pd1")
  all_goals try (walk_at "ps")
  refine FR_ind (fun k e S' => S' = S ++ [.lst ((pairsL ls k).map pairD)] ∧ ∃ x y, e = [some (livesD ls), some (.ref S.length), x, y]) ⟨rfl, _, _, rfl⟩ ?_ ?_
  · rintro k y e S' hy ⟨rfl, x, z, rfl⟩
    obtain ⟨hk, rfl⟩ := rngL_get hy
    have hk2 : k < ls.length := by omega
    have e1 : (0 + (k : Int)) = (k : Int) := by omega
    rw [e1]
    repeat' (walk_at "pd1")
    all_goals try (walk_at "ps")
    refine FR_ind (fun j e S' => S' = S ++ [.lst ((pairsL ls k ++ innP ls k j).map pairD)] ∧ ∃ y, e = [some (livesD ls), some (.ref S.length), some (.int k), y]) ⟨by rw [show innP ls k 0 = [] from rfl, List.append_nil], _, rfl⟩ ?_ ?_
    · rintro j y e S' hy ⟨rfl, z, rfl⟩
      obtain ⟨hj, rfl⟩ := rngL_get hy
      have hj2 : k + 1 + j < ls.length := by omega
      have e2 : ((k : Int) + 1 + (j : Int)) = ((k + 1 + j : Nat) : Int) := by omega
      rw [e2]
      have q1 := pairs_len ls k (by omega)
      have q2 := innP_len ls k j
      have q3 : k * ls.length ≤ 1000 * 1000 := Nat.mul_le_mul (by omega) hl
      repeat' (walk_at "pd1")
      all_goals first
        | omega
        | (rw [List.length_map, List.length_append]; omega)
        | skip
      · rename_i hb
        refine ⟨?_, _, rfl⟩
        rw [innP_succ, if_pos (by omega)]
        simp only [List.map_append, List.map_cons, List.map_nil, List.append_assoc]
      · rename_i hb
        refine ⟨?_, _, rfl⟩
        rw [innP_succ, if_neg (by omega), List.append_nil]
    · rintro e S' ⟨rfl, z, rfl⟩
      rw [rngL_len]
      have e3 : ((ls.length : Int) - ((k : Int) + 1)).toNat = ls.length - (k + 1) := by omega
      rw [e3]
      repeat' (walk_at "pd1")
      refine ⟨?_, _, _, rfl⟩
      rw [pairs_succ]
  · rintro e S' ⟨rfl, x, z, rfl⟩
    rw [rngL_len, Int.toNat_natCast]
    repeat' (walk_at "pd1")
    all_goals try (walk_at "ps")
theorem u_pairs {S : Store} {Q : DQ} {E : EQ} {ls : List Life} (hl : ls.length ≤ 1000) (q : Q (.tup ((pairsL ls ls.length).map pairD)) S) : FnS p_meeting_pairs [livesD ls] S Q E := ⟨_, ⟨ls, rfl, hl, rfl⟩, q⟩
theorem len_meeting_pairs : ∀ ds S o, p_meeting_pairs ds S o → ds.length = 1 := by rintro _ S o ⟨ls, rfl, _⟩; rfl
theorem lt_pairs (n : Nat) : ∀ l : List (Nat × Nat), refsLts n (l.map pairD) = true
  | [] => rfl
  | p :: l => by
    rw [List.map_cons]
    unfold refsLts
    rw [lt_pairs n l]
    rfl
theorem ok_meeting_pairs : ∀ ds S o, p_meeting_pairs ds S o → refsLts S.length ds = true → WfS S → okO S.length o = true := by rintro _ S o ⟨ls, rfl, _, rfl⟩ _ _; exact lt_pairs _ _
/-! ### lengths_then -/
def thenL (ls : List Life) (m : Int) : List Int := ls.filterMap fun l => if l.1 ≤ m ∧ m < endL l then some (lenAt l m) else none
theorem take_lf {ls : List Life} {k : Nat} (h : k < ls.length) : ls.take (k + 1) = ls.take k ++ [lf ls k] := by
  rw [List.take_add_one, lf_get h]
  rfl
theorem then_succ {ls : List Life} {k : Nat} (h : k < ls.length) (m : Int) : thenL (ls.take (k + 1)) m = thenL (ls.take k) m ++ (if (lf ls k).1 ≤ m ∧ m < endL (lf ls k) then [lenAt (lf ls k) m] else []) := by
  rw [take_lf h]
  unfold thenL
  rw [List.filterMap_append]
  congr 1
  split <;> rename_i z <;> simp [z]
theorem then_len (ls : List Life) (m : Int) : (thenL ls m).length ≤ ls.length := List.length_filterMap_le _ _
def p_lengths_then : List D → Store → Out → Prop := fun ds S o => ∃ (ls : List Life) (m : Int), ds = [livesD ls, .int m] ∧ ls.length ≤ 1000 ∧ o = .new ((thenL ls m).map .int)
theorem vc_lengths_then (M : Md) : ∀ ds S o, p_lengths_then ds S o → wpSs (M.C (excO S o)) b_lengths_then (retO S o) (startD n_lengths_then ds) S := by
  rintro ds S o ⟨ls, m, rfl, hl, rfl⟩
  simp only [b_lengths_then, startD, List.map, List.length, List.replicate, Nat.reduceAdd, Nat.reduceSub, List.cons_append, List.nil_append]
  repeat' (walk_at "pd1")
  all_goals try (walk_at "ps")
  refine FR_ind (fun k e S' => S' = S ++ [lstI (thenL (ls.take k) m)] ∧ ∃ x y, e = [some (livesD ls), some (.int m), some (.ref S.length), x, y]) ⟨rfl, _, _, rfl⟩ ?_ ?_
  · rintro k y e S' hy ⟨rfl, x, z, rfl⟩
    obtain ⟨hk, rfl⟩ := map_life hy
    have q := then_len (ls.take k) m
    rw [List.length_take] at q
    repeat' (walk_at "pd1")
    all_goals first
      | omega
      | skip
    all_goals first
      | (refine ⟨?_, _, _, rfl⟩; rw [then_succ hk, if_pos (by unfold endL; omega)]; rfl)
      | (refine ⟨?_, _, _, rfl⟩; rw [then_succ hk, if_neg (by unfold endL; omega), List.append_nil]; done)
      | skip
  · rintro e S' ⟨rfl, x, z, rfl⟩
    rw [List.length_map, List.take_length]
    repeat' (walk_at "pd1")
    all_goals try (walk_at "ps")
    all_goals first
      | exact get_last _ _
      | skip
theorem u_then {S : Store} {Q : DQ} {E : EQ} {ls : List Life} {m : Int} (hl : ls.length ≤ 1000) (q : Q (.ref S.length) (S ++ [lstI (thenL ls m)])) : FnS p_lengths_then [livesD ls, .int m] S Q E := ⟨_, ⟨ls, m, rfl, hl, rfl⟩, q⟩
theorem len_lengths_then : ∀ ds S o, p_lengths_then ds S o → ds.length = 2 := by rintro _ S o ⟨ls, m, rfl, _⟩; rfl
theorem ok_lengths_then : ∀ ds S o, p_lengths_then ds S o → refsLts S.length ds = true → WfS S → okO S.length o = true := by rintro _ S o ⟨ls, m, rfl, _, rfl⟩ _ _; exact ok_l _ _


end
local macro_rules | `(tactic| walk_at "pd1") => `(tactic| first | (((with_reducible refine r_tp (xs := ?xs) ?g0 ?g1 ?_); (case g0 => (refine seq_ref ?_; walk_at "pg")); (case g1 => exact rfl))) | fail)
local macro_rules | `(tactic| walk_at "pd1") => `(tactic| first | (((with_reducible refine r_eisi (er := ?er) ?g0 ?_); (case g0 => exact rfl))) | fail)
local macro_rules | `(tactic| walk_at "pd1") => `(tactic| first | (((with_reducible refine r_efld (er := ?er) (d := ?d) ?g0 ?g1 ?_); (case g0 => exact rfl); (case g1 => exact rfl))) | fail)
local macro_rules | `(tactic| walk_at "pd1") => `(tactic| first | (((with_reducible refine t_lg (xs := ?xs) ?g0 ?_); (case g0 => walk_at "pg"))) | fail)
local macro_rules | `(tactic| walk_at "pd1") => `(tactic| first | (((with_reducible refine p_lg (xs := ?xs) ?g0 ?_ ?_); (case g0 => walk_at "pg"))) | fail)
local macro_rules | `(tactic| walk_at "pd1") => `(tactic| first | (with_reducible refine p_eg ?_ ?_) | fail)
local macro_rules | `(tactic| walk_at "pd1") => `(tactic| first | (((with_reducible refine x_bm (xs := ?xs) ?g0 ?_); (case g0 => walk_at "pg"))) | fail)
local macro_rules | `(tactic| walk_at "pd1") => `(tactic| first | (((with_reducible refine c_ne_ll (l := ?l) ?g0 ?g1 ?_); (case g0 => walk_at "pg"); (case g1 => walk_at "pg"))) | fail)
local macro_rules | `(tactic| walk_at "pd1") => `(tactic| first | (with_reducible refine x_ends ?_) | fail)
local macro_rules | `(tactic| walk_at "pd1") => `(tactic| first | (with_reducible refine g_tg ?_) | fail)
local macro_rules | `(tactic| walk_at "pd1") => `(tactic| first | (with_reducible refine l_tg ?_) | fail)
local macro_rules | `(tactic| walk_at "pd1") => `(tactic| first | (with_reducible refine t_tg ?_) | fail)
local macro_rules | `(tactic| walk_at "pd1") => `(tactic| first | (with_reducible refine c_isnN ?_) | fail)
local macro_rules | `(tactic| walk_at "pd1") => `(tactic| first | (with_reducible refine c_isN ?_) | fail)
local macro_rules | `(tactic| walk_at "pd1") => `(tactic| first | (with_reducible refine c_net ?_) | fail)
local macro_rules | `(tactic| walk_at "pd1") => `(tactic| first | (with_reducible refine c_eqt ?_) | fail)
local macro_rules | `(tactic| walk_at "pd1") => `(tactic| first | (with_reducible refine c_nes ?_) | fail)
local macro_rules | `(tactic| walk_at "pd1") => `(tactic| first | (with_reducible refine c_eqs ?_) | fail)
local macro_rules | `(tactic| walk_at "pd1") => `(tactic| first | (with_reducible refine c_neb ?_) | fail)
local macro_rules | `(tactic| walk_at "pd1") => `(tactic| first | (with_reducible refine c_eqb ?_) | fail)
local macro_rules | `(tactic| walk_at "pd1") => `(tactic| first | (((with_reducible refine st_and ?g0 ?_); (case g0 => walk_at "pst"))) | fail)
local macro_rules | `(tactic| walk_at "pd1") => `(tactic| first | (((with_reducible refine isi_q_tl (f := ?f) ?g0 ?_); (case g0 => walk_at "pq"))) | fail)
local macro_rules | `(tactic| walk_at "pd1") => `(tactic| first | (((with_reducible refine g_q (f := ?f) ?g0 ?_); (case g0 => walk_at "pq"))) | fail)
local macro_rules | `(tactic| walk_at "pd1") => `(tactic| first | (((with_reducible refine i_q (f := ?f) ?g0 ?_ ?_ ?_); (case g0 => walk_at "pq"))) | fail)
local macro_rules | `(tactic| walk_at "pd1") => `(tactic| first | (((with_reducible refine t_q (f := ?f) ?g0 ?_); (case g0 => walk_at "pq"))) | fail)
local macro_rules | `(tactic| walk_at "pd1") => `(tactic| first | (((with_reducible refine l_q (f := ?f) ?g0 ?_); (case g0 => walk_at "pq"))) | fail)
local macro_rules | `(tactic| walk_at "pd1") => `(tactic| first | (((with_reducible refine n_q (f := ?f) ?g0 ?_); (case g0 => walk_at "pq"))) | fail)
local macro_rules | `(tactic| walk_at "pd1") => `(tactic| first | (((with_reducible refine m_lg ?g0 ?_); (case g0 => exact Nat.le_of_ble_eq_true rfl))) | fail)
local macro_rules | `(tactic| walk_at "pd1") => `(tactic| first | (((with_reducible refine m_tg ?g0 ?_); (case g0 => exact Nat.le_of_ble_eq_true rfl))) | fail)
local macro_rules | `(tactic| walk_at "pd1") => `(tactic| first | (((with_reducible refine g_lg (xs := ?xs) ?g0 ?_); (case g0 => walk_at "pg"))) | fail)
local macro_rules | `(tactic| walk_at "pd1") => `(tactic| first | (((with_reducible refine i_lg (xs := ?xs) (d := ?d) ?g0 ?g1 ?_); (case g0 => walk_at "pg"); (case g1 => exact rfl))) | fail)
local macro_rules | `(tactic| walk_at "pd1") => `(tactic| first | (((with_reducible refine i_tg (d := ?d) ?g0 ?_); (case g0 => exact rfl))) | fail)
local macro_rules | `(tactic| walk_at "pd1") => `(tactic| first | (((with_reducible refine l_lg (xs := ?xs) ?g0 ?_); (case g0 => walk_at "pg"))) | fail)
local macro_rules | `(tactic| walk_at "pd1") => `(tactic| first | (((with_reducible refine n_lg (xs := ?xs) ?g0 ?_); (case g0 => walk_at "pg"))) | fail)
local macro_rules | `(tactic| walk_at "pd1") => `(tactic| first | (with_reducible refine n_tg ?_) | fail)
local macro_rules | `(tactic| walk_at "pd1") => `(tactic| first | (((with_reducible refine isi_ty0 (a := ?a) ?g0 ?g1 ?_); (case g0 => assumption); (case g1 => decide))) | fail)
local macro_rules | `(tactic| walk_at "pd1") => `(tactic| first | (((with_reducible refine isi_l_tl (xs := ?xs) ?g0 ?_); (case g0 => walk_at "pg"))) | fail)
local macro_rules | `(tactic| walk_at "pd1") => `(tactic| first | (((with_reducible refine isi_l_tup (xs := ?xs) ?g0 ?_); (case g0 => walk_at "pg"))) | fail)
local macro_rules | `(tactic| walk_at "pd1") => `(tactic| first | (((with_reducible refine isi_l_bool (xs := ?xs) ?g0 ?_); (case g0 => walk_at "pg"))) | fail)
local macro_rules | `(tactic| walk_at "pd1") => `(tactic| first | (((with_reducible refine isi_l_int (xs := ?xs) ?g0 ?_); (case g0 => walk_at "pg"))) | fail)
local macro_rules | `(tactic| walk_at "pd1") => `(tactic| first | (with_reducible refine isi_u_tl ?_) | fail)
local macro_rules | `(tactic| walk_at "pd1") => `(tactic| first | (with_reducible refine isi_u_tup ?_) | fail)
local macro_rules | `(tactic| walk_at "pd1") => `(tactic| first | (with_reducible refine isi_u_bool ?_) | fail)
local macro_rules | `(tactic| walk_at "pd1") => `(tactic| first | (with_reducible refine isi_u_int ?_) | fail)
local macro_rules | `(tactic| walk_at "pd1") => `(tactic| first | (with_reducible refine isi_t_tl ?_) | fail)
local macro_rules | `(tactic| walk_at "pd1") => `(tactic| first | (with_reducible refine isi_t_tup ?_) | fail)
local macro_rules | `(tactic| walk_at "pd1") => `(tactic| first | (with_reducible refine isi_t_bool ?_) | fail)
local macro_rules | `(tactic| walk_at "pd1") => `(tactic| first | (with_reducible refine isi_t_int ?_) | fail)
local macro_rules | `(tactic| walk_at "pd1") => `(tactic| first | (with_reducible refine isi_n_tl ?_) | fail)
local macro_rules | `(tactic| walk_at "pd1") => `(tactic| first | (with_reducible refine isi_n_tup ?_) | fail)
local macro_rules | `(tactic| walk_at "pd1") => `(tactic| first | (with_reducible refine isi_n_bool ?_) | fail)
local macro_rules | `(tactic| walk_at "pd1") => `(tactic| first | (with_reducible refine isi_n_int ?_) | fail)
local macro_rules | `(tactic| walk_at "pd1") => `(tactic| first | (with_reducible refine isi_s_tl ?_) | fail)
local macro_rules | `(tactic| walk_at "pd1") => `(tactic| first | (with_reducible refine isi_s_tup ?_) | fail)
local macro_rules | `(tactic| walk_at "pd1") => `(tactic| first | (with_reducible refine isi_s_bool ?_) | fail)
local macro_rules | `(tactic| walk_at "pd1") => `(tactic| first | (with_reducible refine isi_s_int ?_) | fail)
local macro_rules | `(tactic| walk_at "pd1") => `(tactic| first | (with_reducible refine isi_b_tl ?_) | fail)
local macro_rules | `(tactic| walk_at "pd1") => `(tactic| first | (with_reducible refine isi_b_tup ?_) | fail)
local macro_rules | `(tactic| walk_at "pd1") => `(tactic| first | (with_reducible refine isi_b_bool ?_) | fail)
local macro_rules | `(tactic| walk_at "pd1") => `(tactic| first | (with_reducible refine isi_b_int ?_) | fail)
local macro_rules | `(tactic| walk_at "pd1") => `(tactic| first | (with_reducible refine isi_i_tl ?_) | fail)
local macro_rules | `(tactic| walk_at "pd1") => `(tactic| first | (with_reducible refine isi_i_tup ?_) | fail)
local macro_rules | `(tactic| walk_at "pd1") => `(tactic| first | (with_reducible refine isi_i_bool ?_) | fail)
local macro_rules | `(tactic| walk_at "pd1") => `(tactic| first | (with_reducible refine isi_i_int ?_) | fail)
local macro_rules | `(tactic| walk_at "pd1") => `(tactic| first | (with_reducible refine o_new ?_ ?_ ?_) | fail)
local macro_rules | `(tactic| walk_at "pd1") => `(tactic| first | (with_reducible refine o_exc ?_ ?_ ?_) | fail)
local macro_rules | `(tactic| walk_at "pd1") => `(tactic| first | (((with_reducible refine lc_end ?g0 ?_); (case g0 => first | exact rfl | skip))) | fail)
local macro_rules | `(tactic| walk_at "pd1") => `(tactic| first | (with_reducible refine o_val ?_ ?_) | fail)
local macro_rules | `(tactic| walk_at "pd1") => `(tactic| first | (((with_reducible refine g_l (f := ?f) ?g0 ?_); (case g0 => walk_at "pg"))) | fail)
local macro_rules | `(tactic| walk_at "pd1") => `(tactic| first | (with_reducible refine g_t ?_) | fail)
local macro_rules | `(tactic| walk_at "pd1") => `(tactic| first | (with_reducible refine g_r2 ?_ ?_ ?_ ?_ ?_) | fail)
local macro_rules | `(tactic| walk_at "pd1") => `(tactic| first | (with_reducible refine g_r1 ?_ ?_ ?_) | fail)
local macro_rules | `(tactic| walk_at "pd1") => `(tactic| first | (with_reducible refine on_if ?_) | fail)
local macro_rules | `(tactic| walk_at "pd1") => `(tactic| first | (with_reducible refine t_neg ?_) | fail)
local macro_rules | `(tactic| walk_at "pd1") => `(tactic| first | (with_reducible refine t_nb ?_) | fail)
local macro_rules | `(tactic| walk_at "pd1") => `(tactic| first | (((with_reducible refine t_and (fun hb => ?_) (fun hb => ?_)) <;> ((try (cases hb; done)); (try simp only [decide_eq_true_eq, decide_eq_false_iff_not, Bool.not_eq_true', Bool.not_eq_false'] at hb)))) | fail)
local macro_rules | `(tactic| walk_at "pd1") => `(tactic| first | (((with_reducible refine t_bl (fun hb => ?_) (fun hb => ?_)) <;> ((try (cases hb; done)); (try simp only [decide_eq_true_eq, decide_eq_false_iff_not, Bool.not_eq_true', Bool.not_eq_false'] at hb)))) | fail)
local macro_rules | `(tactic| walk_at "pd1") => `(tactic| first | (with_reducible refine c_isn ?_) | fail)
local macro_rules | `(tactic| walk_at "pd1") => `(tactic| first | (with_reducible refine c_is ?_) | fail)
local macro_rules | `(tactic| walk_at "pd1") => `(tactic| first | (with_reducible refine c_ne ?_) | fail)
local macro_rules | `(tactic| walk_at "pd1") => `(tactic| first | (with_reducible refine c_eq ?_) | fail)
local macro_rules | `(tactic| walk_at "pd1") => `(tactic| first | (with_reducible refine c_ge ?_) | fail)
local macro_rules | `(tactic| walk_at "pd1") => `(tactic| first | (with_reducible refine c_gt ?_) | fail)
local macro_rules | `(tactic| walk_at "pd1") => `(tactic| first | (with_reducible refine c_le ?_) | fail)
local macro_rules | `(tactic| walk_at "pd1") => `(tactic| first | (with_reducible refine c_lt ?_) | fail)
local macro_rules | `(tactic| walk_at "pd1") => `(tactic| first | (((with_reducible refine p_l (f := ?f) ?g0 ?_ ?_); (case g0 => walk_at "pg"))) | fail)
local macro_rules | `(tactic| walk_at "pd1") => `(tactic| first | (with_reducible refine p_e ?_ ?_) | fail)
local macro_rules | `(tactic| walk_at "pd1") => `(tactic| first | (((with_reducible refine w_l (f := ?f) ?g0 ?_ ?_ ?_); (case g0 => walk_at "pg"))) | fail)
local macro_rules | `(tactic| walk_at "pd1") => `(tactic| first | (with_reducible refine w_e ?_ ?_ ?_) | fail)
local macro_rules | `(tactic| walk_at "pd1") => `(tactic| first | (((with_reducible refine i_l (f := ?f) ?g0 ?_ ?_ ?_); (case g0 => walk_at "pg"))) | fail)
local macro_rules | `(tactic| walk_at "pd1") => `(tactic| first | (with_reducible refine i_t ?_ ?_ ?_) | fail)
local macro_rules | `(tactic| walk_at "pd1") => `(tactic| first | (with_reducible refine i_tn ?_ ?_) | fail)
local macro_rules | `(tactic| walk_at "pd1") => `(tactic| first | (((with_reducible refine t_l (f := ?f) ?g0 ?_); (case g0 => walk_at "pg"))) | fail)
local macro_rules | `(tactic| walk_at "pd1") => `(tactic| first | (((with_reducible refine l_l (f := ?f) ?g0 ?_); (case g0 => walk_at "pg"))) | fail)
local macro_rules | `(tactic| walk_at "pd1") => `(tactic| first | (((with_reducible refine n_l (f := ?f) ?g0 ?_); (case g0 => walk_at "pg"))) | fail)
local macro_rules | `(tactic| walk_at "pd1") => `(tactic| first | (with_reducible refine b_min ?_) | fail)
local macro_rules | `(tactic| walk_at "pd1") => `(tactic| first | (with_reducible refine b_max ?_) | fail)
local macro_rules | `(tactic| walk_at "pd1") => `(tactic| first | (with_reducible refine b_intb ?_) | fail)
local macro_rules | `(tactic| walk_at "pd1") => `(tactic| first | (with_reducible refine b_int ?_) | fail)
local macro_rules | `(tactic| walk_at "pd1") => `(tactic| first | (with_reducible refine b_abs ?_) | fail)
local macro_rules | `(tactic| walk_at "pd1") => `(tactic| first | (with_reducible refine t_t ?_) | fail)
local macro_rules | `(tactic| walk_at "pd1") => `(tactic| first | (with_reducible refine l_t ?_) | fail)
local macro_rules | `(tactic| walk_at "pd1") => `(tactic| first | (with_reducible refine n_t ?_) | fail)
local macro_rules | `(tactic| walk_at "pd1") => `(tactic| first | (((with_reducible refine s_lf (f := ?f) ?g0 ?_ ?_); (case g0 => walk_at "pg"))) | fail)
local macro_rules | `(tactic| walk_at "pd1") => `(tactic| first | (((with_reducible refine s_lt (f := ?f) ?g0 ?_ ?_); (case g0 => walk_at "pg"))) | fail)
local macro_rules | `(tactic| walk_at "pd1") => `(tactic| first | (with_reducible refine s_tf ?_ ?_) | fail)
local macro_rules | `(tactic| walk_at "pd1") => `(tactic| first | (with_reducible refine s_tt ?_ ?_) | fail)
local macro_rules | `(tactic| walk_at "pd1") => `(tactic| first | ((with_reducible refine r_on (show partD (some (D.int _)) = some (some _) from rfl) ?_)) | fail)
local macro_rules | `(tactic| walk_at "pd1") => `(tactic| first | ((with_reducible refine r_on (show partD none = some none from rfl) ?_)) | fail)
local macro_rules | `(tactic| walk_at "pd1") => `(tactic| first | (((with_reducible refine x_l1 (i := ?i) ?g0 ?_ ?_ ?_); (case g0 => walk_at "pg"))) | fail)
local macro_rules | `(tactic| walk_at "pd1") => `(tactic| first | (((with_reducible refine a_ll (f := ?f) (g := ?g) ?g0 ?g1 ?_ ?_); (case g0 => walk_at "pg"); (case g1 => walk_at "pg"))) | fail)
local macro_rules | `(tactic| walk_at "pd1") => `(tactic| first | (with_reducible refine r_powI ?_ ?_ ?_ ?_) | fail)
local macro_rules | `(tactic| walk_at "pd1") => `(tactic| first | (with_reducible refine x_t1 ?_ ?_ ?_) | fail)
local macro_rules | `(tactic| walk_at "pd1") => `(tactic| first | (with_reducible refine r_fdivI ?_ ?_ ?_) | fail)
local macro_rules | `(tactic| walk_at "pd1") => `(tactic| first | (with_reducible refine a_tt ?_ ?_) | fail)
local macro_rules | `(tactic| walk_at "pd1") => `(tactic| first | (with_reducible refine r_modI ?_ ?_) | fail)
local macro_rules | `(tactic| walk_at "pd1") => `(tactic| first | (with_reducible refine r_mulI ?_ ?_) | fail)
local macro_rules | `(tactic| walk_at "pd1") => `(tactic| first | (with_reducible refine r_subI ?_) | fail)
local macro_rules | `(tactic| walk_at "pd1") => `(tactic| first | (with_reducible refine r_addI ?_) | fail)
local macro_rules | `(tactic| walk_at "pd1") => `(tactic| first | (((with_reducible refine b_sorted (xs := ?xs) ?g0 ?_ ?_ ?_ ?_ ?_); (case g0 => walk_at "pg"))) | fail)
local macro_rules | `(tactic| walk_at "pd1") => `(tactic| first | (with_reducible refine b_lcm ?_ ?_ ?_) | fail)
local macro_rules | `(tactic| walk_at "pd1") => `(tactic| first | (((with_reducible refine w_d (kvs := ?kvs) ?g0 ?_ ?_); (case g0 => walk_at "pg"))) | fail)
local macro_rules | `(tactic| walk_at "pd1") => `(tactic| first | (((with_reducible refine i_d (kvs := ?kvs) ?g0 ?_ ?_); (case g0 => walk_at "pg"))) | fail)
local macro_rules | `(tactic| walk_at "pd1") => `(tactic| first | (((with_reducible refine c_dNin (kvs := ?kvs) ?g0 ?_); (case g0 => walk_at "pg"))) | fail)
local macro_rules | `(tactic| walk_at "pd1") => `(tactic| first | (((with_reducible refine c_dIn (kvs := ?kvs) ?g0 ?_); (case g0 => walk_at "pg"))) | fail)
local macro_rules | `(tactic| walk_at "pd1") => `(tactic| first | (((with_reducible refine m_get (kvs := ?kvs) ?g0 ?_); (case g0 => walk_at "pg"))) | fail)
local macro_rules | `(tactic| walk_at "pd1") => `(tactic| first | (((with_reducible refine o_get (kvs := ?kvs) ?g0 ?_); (case g0 => walk_at "pg"))) | fail)
local macro_rules | `(tactic| walk_at "pd1") => `(tactic| first | (with_reducible refine c_isnb ?_) | fail)
local macro_rules | `(tactic| walk_at "pd1") => `(tactic| first | (with_reducible refine c_isb ?_) | fail)
local macro_rules | `(tactic| walk_at "pd1") => `(tactic| first | ((with_reducible refine ch_lt (fun hb => ?_) (fun hb => ?_))) | fail)
local macro_rules | `(tactic| walk_at "pd1") => `(tactic| first | ((with_reducible refine ch_le (fun hb => ?_) (fun hb => ?_))) | fail)
local macro_rules | `(tactic| walk_at "pd1") => `(tactic| first | (((with_reducible refine t_setf (c := ?c) (fs := ?fs) ?g0 ?g1 ?g2 ?_); (case g0 => walk_at "pg"); (case g1 => first | assumption | exact rfl); (case g2 => (show _ < 1000); decide))) | fail)
local macro_rules | `(tactic| walk_at "pd1") => `(tactic| first | (((with_reducible refine t_mth (c := ?c) (fs := ?fs) (i := ?i) (g := ?gg) ?g0 ?g1 ?g2 ?g3 ?_); (case g0 => walk_at "pg"); (case g1 => exact rfl); (case g2 => exact rfl); (case g3 => first | assumption | exact rfl))) | fail)
local macro_rules | `(tactic| walk_at "pd1") => `(tactic| first | (((with_reducible refine f_fld (c := ?c) (fs := ?fs) (d := ?d) ?g0 ?g1 ?g2 ?_); (case g0 => walk_at "pg"); (case g1 => exact rfl); (case g2 => first | assumption | exact rfl))) | fail)
local macro_rules | `(tactic| walk_at "pd1") => `(tactic| first | (((with_reducible refine r_new (p := ?p) ?g0 ?_); (case g0 => first | assumption | exact rfl))) | fail)
local macro_rules | `(tactic| walk_at "pd1") => `(tactic| first | (with_reducible refine b_bits ?_) | fail)
local macro_rules | `(tactic| walk_at "pd1") => `(tactic| first | (with_reducible refine r_get ?_) | fail)
local macro_rules | `(tactic| walk_at "pd1") => `(tactic| first | (with_reducible refine r_fld ?_) | fail)
local macro_rules | `(tactic| walk_at "pd1") => `(tactic| first | (with_reducible refine r_mth ?_) | fail)
local macro_rules | `(tactic| walk_at "pd1") => `(tactic| first | (with_reducible refine r_iRev ?_) | fail)
local macro_rules | `(tactic| walk_at "pd1") => `(tactic| first | (with_reducible refine r_dnew ?_) | fail)
local macro_rules | `(tactic| walk_at "pd1") => `(tactic| first | (with_reducible refine r_bits ?_) | fail)
local macro_rules | `(tactic| walk_at "pd1") => `(tactic| first | (with_reducible refine r_setf ?_) | fail)
local macro_rules | `(tactic| walk_at "pd1") => `(tactic| first | (with_reducible refine m_l2 ?_) | fail)
local macro_rules | `(tactic| walk_at "pd1") => `(tactic| first | (with_reducible refine m_l3 ?_) | fail)
local macro_rules | `(tactic| walk_at "pd1") => `(tactic| first | (with_reducible refine m_l1 ?_) | fail)
local macro_rules | `(tactic| walk_at "pd1") => `(tactic| first | (with_reducible refine m_l0 ?_) | fail)
local macro_rules | `(tactic| walk_at "pd1") => `(tactic| first | (with_reducible refine m_t2 ?_) | fail)
local macro_rules | `(tactic| walk_at "pd1") => `(tactic| first | (with_reducible refine m_t1 ?_) | fail)
local macro_rules | `(tactic| walk_at "pd1") => `(tactic| first | (with_reducible refine m_t0 ?_) | fail)
local macro_rules | `(tactic| walk_at "pd1") => `(tactic| first | (((with_reducible refine r_tp (xs := ?xs) ?g0 ?g1 ?_); (case g0 => exact rfl); (case g1 => exact rfl))) | fail)
local macro_rules | `(tactic| walk_at "pd1") => `(tactic| first | (with_reducible refine r_nm ?_) | fail)
local macro_rules | `(tactic| walk_at "pd1") => `(tactic| first | (with_reducible refine r_iEnum ?_) | fail)
local macro_rules | `(tactic| walk_at "pd1") => `(tactic| first | (with_reducible refine r_iRng ?_) | fail)
local macro_rules | `(tactic| walk_at "pd1") => `(tactic| first | (with_reducible refine r_iSeq ?_) | fail)
local macro_rules | `(tactic| walk_at "pd1") => `(tactic| first | (with_reducible refine r_tsN ?_) | fail)
local macro_rules | `(tactic| walk_at "pd1") => `(tactic| first | (with_reducible refine r_tsC ?_) | fail)
local macro_rules | `(tactic| walk_at "pd1") => `(tactic| first | (with_reducible refine r_sub ?_) | fail)
local macro_rules | `(tactic| walk_at "pd1") => `(tactic| first | (with_reducible refine r_esN ?_) | fail)
local macro_rules | `(tactic| walk_at "pd1") => `(tactic| first | (with_reducible refine r_esC ?_) | fail)
local macro_rules | `(tactic| walk_at "pd1") => `(tactic| first | (((with_reducible refine r_oS ?_); (try dsimp only))) | fail)
local macro_rules | `(tactic| walk_at "pd1") => `(tactic| first | (((with_reducible refine r_oN ?_); (try dsimp only))) | fail)
local macro_rules | `(tactic| walk_at "pd1") => `(tactic| first | (((with_reducible refine r_bm ?_ ?g0); (case g0 => exact rfl))) | fail)
local macro_rules | `(tactic| walk_at "pd1") => `(tactic| first | (with_reducible refine r_chn ?_) | fail)
local macro_rules | `(tactic| walk_at "pd1") => `(tactic| first | (with_reducible refine r_lc ?_) | fail)
local macro_rules | `(tactic| walk_at "pd1") => `(tactic| first | (with_reducible refine r_lst ?_) | fail)
local macro_rules | `(tactic| walk_at "pd1") => `(tactic| first | (with_reducible refine r_tup ?_) | fail)
local macro_rules | `(tactic| walk_at "pd1") => `(tactic| first | (with_reducible refine r_sl ?_) | fail)
local macro_rules | `(tactic| walk_at "pd1") => `(tactic| first | (with_reducible refine r_neg ?_) | fail)
local macro_rules | `(tactic| walk_at "pd1") => `(tactic| first | (with_reducible refine r_ife ?_) | fail)
local macro_rules | `(tactic| walk_at "pd1") => `(tactic| first | (with_reducible refine r_not ?_) | fail)
local macro_rules | `(tactic| walk_at "pd1") => `(tactic| first | (with_reducible refine r_or ?_) | fail)
local macro_rules | `(tactic| walk_at "pd1") => `(tactic| first | (with_reducible refine r_and ?_) | fail)
local macro_rules | `(tactic| walk_at "pd1") => `(tactic| first | (with_reducible refine r_ix ?_) | fail)
local macro_rules | `(tactic| walk_at "pd1") => `(tactic| first | (with_reducible refine r_bi ?_) | fail)
local macro_rules | `(tactic| walk_at "pd1") => `(tactic| first | (with_reducible refine r_bin ?_) | fail)
local macro_rules | `(tactic| walk_at "pd1") => `(tactic| first | (with_reducible refine r_cmp ?_) | fail)
local macro_rules | `(tactic| walk_at "pd1") => `(tactic| first | (with_reducible refine r_cst ?_) | fail)
local macro_rules | `(tactic| walk_at "pd1") => `(tactic| first | (((with_reducible refine r_call (g := ?g) ?g0 ?_); (case g0 => first | assumption | exact rfl))) | fail)
local macro_rules | `(tactic| walk_at "pd1") => `(tactic| first | (((with_reducible refine r_var (d := ?d) ?g0 ?_); (case g0 => exact rfl))) | fail)
local macro_rules | `(tactic| walk_at "pd1") => `(tactic| first | (((with_reducible refine r_aug (j := ?j) ?g0 ?_); (case g0 => exact rfl))) | fail)
local macro_rules | `(tactic| walk_at "pd1") => `(tactic| first | (with_reducible refine r_fr ?_) | fail)
local macro_rules | `(tactic| walk_at "pd1") => `(tactic| first | (with_reducible refine r_tr ?_) | fail)
local macro_rules | `(tactic| walk_at "pd1") => `(tactic| first | (with_reducible refine r_ifs ?_) | fail)
local macro_rules | `(tactic| walk_at "pd1") => `(tactic| first | (with_reducible refine r_asg ?_) | fail)
local macro_rules | `(tactic| walk_at "pd1") => `(tactic| first | (with_reducible refine r_seq ?_) | fail)
local macro_rules | `(tactic| walk_at "pd1") => `(tactic| first | (((with_reducible refine r_ex ?_); (try dsimp only))) | fail)
local macro_rules | `(tactic| walk_at "pd1") => `(tactic| first | (((with_reducible refine r_pas ?_); (try dsimp only))) | fail)
local macro_rules | `(tactic| walk_at "pd1") => `(tactic| first | (((with_reducible refine r_rse ?_); (try dsimp only))) | fail)
local macro_rules | `(tactic| walk_at "pd1") => `(tactic| first | (((with_reducible refine r_cnt ?_); (try dsimp only))) | fail)
local macro_rules | `(tactic| walk_at "pd1") => `(tactic| first | (((with_reducible refine r_brk ?_); (try dsimp only))) | fail)
local macro_rules | `(tactic| walk_at "pd1") => `(tactic| first | (((with_reducible refine r_retN ?_); (try dsimp only))) | fail)
local macro_rules | `(tactic| walk_at "pd1") => `(tactic| first | (((with_reducible refine r_ret ?_); (try dsimp only))) | fail)
local macro_rules | `(tactic| walk_at "pd1") => `(tactic| first | (((with_reducible refine r_nil ?_); (try dsimp only))) | fail)
section
set_option Elab.async false
set_option linter.all false
set_option maxRecDepth 100000
set_option maxHeartbeats 8000000
open PySem

local macro_rules | `(tactic| walk_at "pd1") => `(tactic| first | (((with_reducible refine u_w_l (xs := ?xs) ?g0 ?_); (case g0 => walk_at "pg"))) | fail)
local macro_rules | `(tactic| walk_at "pd1") => `(tactic| first | (with_reducible refine u_w_u ?_) | fail)
local macro_rules | `(tactic| walk_at "pd1") => `(tactic| first | (with_reducible refine u_w_t ?_) | fail)
local macro_rules | `(tactic| walk_at "pd1") => `(tactic| first | (with_reducible refine u_w_n ?_) | fail)
local macro_rules | `(tactic| walk_at "pd1") => `(tactic| first | (with_reducible refine u_w_s ?_) | fail)
local macro_rules | `(tactic| walk_at "pd1") => `(tactic| first | (with_reducible refine u_w_b ?_) | fail)
local macro_rules | `(tactic| walk_at "pd1") => `(tactic| first | (with_reducible refine u_w_i ?_) | fail)
local macro_rules | `(tactic| walk_at "pd1") => `(tactic| first | (((with_reducible refine u_law_pick (l := ?l) ?g0 ?_ ?_ ?_ ?_); (case g0 => walk_at "pg"))) | fail)

local macro_rules | `(tactic| walk_at "pd1") => `(tactic| first | (with_reducible refine u_meet ?_ ?_ ?_ ?_ ?_) | fail)
local macro_rules | `(tactic| walk_at "pd1") => `(tactic| first | (with_reducible refine u_ending ?_) | fail)
local macro_rules | `(tactic| walk_at "pd1") => `(tactic| first | (with_reducible refine g_lv ?_) | fail)
local macro_rules | `(tactic| walk_at "pd1") => `(tactic| first | (with_reducible refine n_lives ?_) | fail)
local macro_rules | `(tactic| walk_at "pd1") => `(tactic| first | (with_reducible refine i_life ?_ ?_ ?_) | fail)

def eName (x : String) : Err := ⟨1, [("name", .str (Str.ofString x))]⟩
def ePlace (i : Int) : Err := ⟨2, [("place", .int i)]⟩
/-! ### Blocks.pairs -/
def p_Blocks__pairs : List D → Store → Out → Prop := fun ds S o => ∃ (n : Nat) (ls : List Life), ds = [.ref n] ∧ S[n]? = some (blkO ls) ∧ ls.length ≤ 1000 ∧ o = .val (.tup ((pairsL ls ls.length).map pairD))
theorem vc_Blocks__pairs (M : Md) (h5 : M.sp 5 = FnS p_meeting_pairs) (hv : M.noA 3 "lives" = true) : ∀ ds S o, p_Blocks__pairs ds S o → wpSs (M.C (excO S o)) b_Blocks__pairs (retO S o) (startD n_Blocks__pairs ds) S := by
  rintro ds S o ⟨n, ls, rfl, hn, hl, rfl⟩
  simp only [b_Blocks__pairs, startD, List.map, List.length, List.replicate, Nat.reduceAdd, Nat.reduceSub, List.cons_append, List.nil_append]
  repeat' (walk_at "pd1")
  refine u_pairs hl ?_
  repeat' (walk_at "pd1")
  all_goals try (walk_at "ps")
theorem u_bpairs {S : Store} {Q : DQ} {E : EQ} {n : Nat} {ls : List Life} (hn : S[n]? = some (blkO ls)) (hl : ls.length ≤ 1000) (q : Q (.tup ((pairsL ls ls.length).map pairD)) S) : FnS p_Blocks__pairs [.ref n] S Q E := ⟨_, ⟨n, ls, rfl, hn, hl, rfl⟩, q⟩
theorem len_Blocks__pairs : ∀ ds S o, p_Blocks__pairs ds S o → ds.length = 1 := by rintro _ S o ⟨n, ls, rfl, _⟩; rfl
theorem ok_Blocks__pairs : ∀ ds S o, p_Blocks__pairs ds S o → refsLts S.length ds = true → WfS S → okO S.length o = true := by rintro _ S o ⟨n, ls, rfl, _, _, rfl⟩ _ _; exact lt_pairs _ _
/-! ### Blocks.check_block -/
def NotIn (S : Store) (d : D) (n : Nat) : Prop := ∃ a, tyName S d = some a ∧ (a ≠ "int" ∨ ∃ i : Int, d = .int i ∧ (i < 0 ∨ (n : Int) ≤ i))
def p_Blocks__check_block : List D → Store → Out → Prop := fun ds S o => ∃ (n : Nat) (ls : List Life) (x : String) (d : D), ds = [.ref n, .str (Str.ofString x), d] ∧ S[n]? = some (blkO ls) ∧ (((∃ i : Int, d = .int i ∧ 0 ≤ i ∧ i < ls.length) ∧ o = .val .non) ∨ (NotIn S d ls.length ∧ o = .exc (eName x)))
theorem vc_Blocks__check_block (M : Md) (h0 : M.sp 0 = FnS p_is_whole) (hv : M.noA 3 "many" = true) : ∀ ds S o, p_Blocks__check_block ds S o → wpSs (M.C (excO S o)) b_Blocks__check_block (retO S o) (startD n_Blocks__check_block ds) S := by
  rintro ds S o ⟨n, ls, x, d, rfl, hn, (⟨⟨i, rfl, h1, h2⟩, rfl⟩ | ⟨⟨a, ha, hx⟩, rfl⟩)⟩
  · simp only [b_Blocks__check_block, startD, List.map, List.length, List.replicate, Nat.reduceAdd, Nat.reduceSub, List.cons_append, List.nil_append]
    repeat' (walk_at "pd1")
    all_goals first
      | (exfalso; omega)
      | exact Ext.refl _
      | with_reducible rfl
      | exact ⟨Ext.refl _, rfl⟩
      | skip
  · rcases hx with hx | ⟨i, rfl, hx⟩
    · simp only [b_Blocks__check_block, startD, List.map, List.length, List.replicate, Nat.reduceAdd, Nat.reduceSub, List.cons_append, List.nil_append]
      repeat' (walk_at "pd1")
      refine u_w_g ha ?_
      rw [show (a == "int") = false by simpa using hx]
      repeat' (walk_at "pd1")
      all_goals try (walk_at "ps")
    · simp only [b_Blocks__check_block, startD, List.map, List.length, List.replicate, Nat.reduceAdd, Nat.reduceSub, List.cons_append, List.nil_append]
      repeat' (walk_at "pd1")
      all_goals first
        | exact Ext.refl _
        | (exfalso; omega)
        | rfl
        | skip
theorem u_chk {S : Store} {Q : DQ} {E : EQ} {n : Nat} {ls : List Life} {x : String} {i : Int} (hn : S[n]? = some (blkO ls)) (h0 : 0 ≤ i) (h1 : i < ls.length) (q : Q .non S) : FnS p_Blocks__check_block [.ref n, .str (Str.ofString x), .int i] S Q E := ⟨_, ⟨n, ls, x, _, rfl, hn, .inl ⟨⟨i, rfl, h0, h1⟩, rfl⟩⟩, q⟩
theorem u_chk_x {S : Store} {Q : DQ} {E : EQ} {n : Nat} {ls : List Life} {x : String} {d : D} (hn : S[n]? = some (blkO ls)) (h : NotIn S d ls.length) (q : E (eName x) S) : FnS p_Blocks__check_block [.ref n, .str (Str.ofString x), d] S Q E := ⟨_, ⟨n, ls, x, _, rfl, hn, .inr ⟨h, rfl⟩⟩, q⟩
theorem len_Blocks__check_block : ∀ ds S o, p_Blocks__check_block ds S o → ds.length = 3 := by rintro _ S o ⟨n, ls, x, d, rfl, _⟩; rfl
theorem ok_Blocks__check_block : ∀ ds S o, p_Blocks__check_block ds S o → refsLts S.length ds = true → WfS S → okO S.length o = true := by rintro _ S o ⟨n, ls, x, d, rfl, _, (⟨_, rfl⟩ | ⟨_, rfl⟩)⟩ _ _ <;> rfl
local macro_rules | `(tactic| walk_at "pd1") => `(tactic| first | (((with_reducible refine u_chk (ls := ?ls) ?g0 ?_ ?_ ?_); (case g0 => walk_at "pg"))) | fail)
/-! ### Blocks.meeting -/
def p_Blocks__meeting : List D → Store → Out → Prop := fun ds S o => ∃ (n : Nat) (ls : List Life) (b c : D), ds = [.ref n, b, c] ∧ S[n]? = some (blkO ls) ∧
  ((∃ i j : Int, b = .int i ∧ c = .int j ∧ 0 ≤ i ∧ i < ls.length ∧ 0 ≤ j ∧ j < ls.length ∧ o = .val (.int (meetF ls i j))) ∨ (NotIn S b ls.length ∧ o = .exc (eName "b")) ∨ (∃ i : Int, b = .int i ∧ 0 ≤ i ∧ i < ls.length ∧ NotIn S c ls.length ∧ o = .exc (eName "c")))
theorem vc_Blocks__meeting (M : Md) (h3 : M.sp 3 = FnS p_first_meeting) (h10 : M.sp 10 = FnS p_Blocks__check_block) (hv : M.noA 3 "lives" = true) : ∀ ds S o, p_Blocks__meeting ds S o → wpSs (M.C (excO S o)) b_Blocks__meeting (retO S o) (startD n_Blocks__meeting ds) S := by
  rintro ds S o ⟨n, ls, b, c, rfl, hn, (⟨i, j, rfl, rfl, h1, h2, h4, h5, rfl⟩ | ⟨hb, rfl⟩ | ⟨i, rfl, h1, h2, hc, rfl⟩)⟩
  · simp only [b_Blocks__meeting, startD, List.map, List.length, List.replicate, Nat.reduceAdd, Nat.reduceSub, List.cons_append, List.nil_append]
    repeat' (walk_at "pd1")
    all_goals first
      | omega
      | exact Ext.refl _
      | with_reducible rfl
      | skip
  · simp only [b_Blocks__meeting, startD, List.map, List.length, List.replicate, Nat.reduceAdd, Nat.reduceSub, List.cons_append, List.nil_append]
    repeat' (walk_at "pd1")
    refine u_chk_x (x := "b") hn hb ?_
    exact ⟨Ext.refl _, rfl⟩
  · simp only [b_Blocks__meeting, startD, List.map, List.length, List.replicate, Nat.reduceAdd, Nat.reduceSub, List.cons_append, List.nil_append]
    repeat' (walk_at "pd1")
    all_goals first
      | omega
      | skip
    refine u_chk_x (x := "c") hn hc ?_
    exact ⟨Ext.refl _, rfl⟩
theorem u_bmeet {S : Store} {Q : DQ} {E : EQ} {n : Nat} {ls : List Life} {i j : Int} (hn : S[n]? = some (blkO ls)) (h1 : 0 ≤ i) (h2 : i < ls.length) (h3 : 0 ≤ j) (h4 : j < ls.length) (q : Q (.int (meetF ls i j)) S) : FnS p_Blocks__meeting [.ref n, .int i, .int j] S Q E := ⟨_, ⟨n, ls, _, _, rfl, hn, .inl ⟨i, j, rfl, rfl, h1, h2, h3, h4, rfl⟩⟩, q⟩
theorem u_bmeet_b {S : Store} {Q : DQ} {E : EQ} {n : Nat} {ls : List Life} {b c : D} (hn : S[n]? = some (blkO ls)) (h : NotIn S b ls.length) (q : E (eName "b") S) : FnS p_Blocks__meeting [.ref n, b, c] S Q E := ⟨_, ⟨n, ls, _, _, rfl, hn, .inr (.inl ⟨h, rfl⟩)⟩, q⟩
theorem u_bmeet_c {S : Store} {Q : DQ} {E : EQ} {n : Nat} {ls : List Life} {i : Int} {c : D} (hn : S[n]? = some (blkO ls)) (h1 : 0 ≤ i) (h2 : i < ls.length) (h : NotIn S c ls.length) (q : E (eName "c") S) : FnS p_Blocks__meeting [.ref n, .int i, c] S Q E := ⟨_, ⟨n, ls, _, _, rfl, hn, .inr (.inr ⟨i, rfl, h1, h2, h, rfl⟩)⟩, q⟩
theorem len_Blocks__meeting : ∀ ds S o, p_Blocks__meeting ds S o → ds.length = 3 := by rintro _ S o ⟨n, ls, b, c, rfl, _⟩; rfl
theorem ok_Blocks__meeting : ∀ ds S o, p_Blocks__meeting ds S o → refsLts S.length ds = true → WfS S → okO S.length o = true := by rintro _ S o ⟨n, ls, b, c, rfl, _, (⟨_, _, _, _, _, _, _, _, rfl⟩ | ⟨_, rfl⟩ | ⟨_, _, _, _, _, rfl⟩)⟩ _ _ <;> rfl
/-! ### Blocks.length_then -/
def p_Blocks__length_then : List D → Store → Out → Prop := fun ds S o => ∃ (n : Nat) (ls : List Life) (b c : D), ds = [.ref n, b, c] ∧ S[n]? = some (blkO ls) ∧
  ((∃ i j : Int, b = .int i ∧ c = .int j ∧ 0 ≤ i ∧ i < ls.length ∧ (lf ls i).1 ≤ j ∧ j < endL (lf ls i) ∧ o = .val (.int (lenAt (lf ls i) j))) ∨ (NotIn S b ls.length ∧ o = .exc (eName "b")) ∨
    (∃ i : Int, b = .int i ∧ 0 ≤ i ∧ i < ls.length ∧ (∃ a, tyName S c = some a ∧ (a ≠ "int" ∨ ∃ j : Int, c = .int j ∧ (j < (lf ls i).1 ∨ endL (lf ls i) ≤ j))) ∧ o = .exc (eName "moment")))
theorem vc_Blocks__length_then (M : Md) (h0 : M.sp 0 = FnS p_is_whole) (h10 : M.sp 10 = FnS p_Blocks__check_block) (hv : M.noA 3 "lives" = true) : ∀ ds S o, p_Blocks__length_then ds S o → wpSs (M.C (excO S o)) b_Blocks__length_then (retO S o) (startD n_Blocks__length_then ds) S := by
  rintro ds S o ⟨n, ls, b, c, rfl, hn, (⟨i, j, rfl, rfl, h1, h2, h4, h5, rfl⟩ | ⟨hb, rfl⟩ | ⟨i, rfl, h1, h2, ⟨a, ha, hx⟩, rfl⟩)⟩
  · unfold endL at h5
    simp only [b_Blocks__length_then, startD, List.map, List.length, List.replicate, Nat.reduceAdd, Nat.reduceSub, List.cons_append, List.nil_append]
    repeat' (walk_at "pd1")
    all_goals first
      | omega
      | (exfalso; omega)
      | exact Ext.refl _
      | with_reducible rfl
      | (unfold lenAt; rfl)
      | skip
  · simp only [b_Blocks__length_then, startD, List.map, List.length, List.replicate, Nat.reduceAdd, Nat.reduceSub, List.cons_append, List.nil_append]
    repeat' (walk_at "pd1")
    refine u_chk_x (x := "b") hn hb ?_
    exact ⟨Ext.refl _, rfl⟩
  · rcases hx with hx | ⟨j, rfl, hx⟩
    · simp only [b_Blocks__length_then, startD, List.map, List.length, List.replicate, Nat.reduceAdd, Nat.reduceSub, List.cons_append, List.nil_append]
      repeat' (walk_at "pd1")
      all_goals first
        | omega
        | skip
      refine u_w_g ha ?_
      rw [show (a == "int") = false by simpa using hx]
      repeat' (walk_at "pd1")
      all_goals try (walk_at "ps")
    · unfold endL at hx
      simp only [b_Blocks__length_then, startD, List.map, List.length, List.replicate, Nat.reduceAdd, Nat.reduceSub, List.cons_append, List.nil_append]
      repeat' (walk_at "pd1")
      all_goals first
        | omega
        | (exfalso; omega)
        | exact Ext.refl _
        | rfl
        | skip
theorem u_blen {S : Store} {Q : DQ} {E : EQ} {n : Nat} {ls : List Life} {i j : Int} (hn : S[n]? = some (blkO ls)) (h1 : 0 ≤ i) (h2 : i < ls.length) (h3 : (lf ls i).1 ≤ j) (h4 : j < endL (lf ls i)) (q : Q (.int (lenAt (lf ls i) j)) S) : FnS p_Blocks__length_then [.ref n, .int i, .int j] S Q E := ⟨_, ⟨n, ls, _, _, rfl, hn, .inl ⟨i, j, rfl, rfl, h1, h2, h3, h4, rfl⟩⟩, q⟩
theorem u_blen_b {S : Store} {Q : DQ} {E : EQ} {n : Nat} {ls : List Life} {b c : D} (hn : S[n]? = some (blkO ls)) (h : NotIn S b ls.length) (q : E (eName "b") S) : FnS p_Blocks__length_then [.ref n, b, c] S Q E := ⟨_, ⟨n, ls, _, _, rfl, hn, .inr (.inl ⟨h, rfl⟩)⟩, q⟩
theorem u_blen_m {S : Store} {Q : DQ} {E : EQ} {n : Nat} {ls : List Life} {i : Int} {c : D} {a : String} (hn : S[n]? = some (blkO ls)) (h1 : 0 ≤ i) (h2 : i < ls.length) (ha : tyName S c = some a) (h : a ≠ "int" ∨ ∃ j : Int, c = .int j ∧ (j < (lf ls i).1 ∨ endL (lf ls i) ≤ j)) (q : E (eName "moment") S) : FnS p_Blocks__length_then [.ref n, .int i, c] S Q E := ⟨_, ⟨n, ls, _, _, rfl, hn, .inr (.inr ⟨i, rfl, h1, h2, ⟨a, ha, h⟩, rfl⟩)⟩, q⟩
theorem len_Blocks__length_then : ∀ ds S o, p_Blocks__length_then ds S o → ds.length = 3 := by rintro _ S o ⟨n, ls, b, c, rfl, _⟩; rfl
theorem ok_Blocks__length_then : ∀ ds S o, p_Blocks__length_then ds S o → refsLts S.length ds = true → WfS S → okO S.length o = true := by rintro _ S o ⟨n, ls, b, c, rfl, _, (⟨_, _, _, _, _, _, _, _, rfl⟩ | ⟨_, rfl⟩ | ⟨_, _, _, _, _, rfl⟩)⟩ _ _ <;> rfl
/-! ### Blocks.len_pair -/
def p_Blocks__len_pair : List D → Store → Out → Prop := fun ds S o => ∃ (n : Nat) (ls : List Life) (b c : D), ds = [.ref n, b, c] ∧ S[n]? = some (blkO ls) ∧ LivesOk ls ∧
  ((∃ i j : Int, b = .int i ∧ c = .int j ∧ 0 ≤ i ∧ i < ls.length ∧ 0 ≤ j ∧ j < ls.length ∧ ((meetF ls i j ≠ -1 ∧ o = .val (.int (meetLen ls i j))) ∨ (meetF ls i j = -1 ∧ o = .exc (ePlace 0)))) ∨ (NotIn S b ls.length ∧ o = .exc (eName "b")) ∨ (∃ i : Int, b = .int i ∧ 0 ≤ i ∧ i < ls.length ∧ NotIn S c ls.length ∧ o = .exc (eName "c")))
theorem vc_Blocks__len_pair (M : Md) (h4 : M.sp 4 = FnS p_meeting_length) (h11 : M.sp 11 = FnS p_Blocks__meeting) (hv : M.noA 3 "lives" = true) : ∀ ds S o, p_Blocks__len_pair ds S o → wpSs (M.C (excO S o)) b_Blocks__len_pair (retO S o) (startD n_Blocks__len_pair ds) S := by
  rintro ds S o ⟨n, ls, b, c, rfl, hn, hl, (⟨i, j, rfl, rfl, h1, h2, h4', h5, (⟨hm, rfl⟩ | ⟨hm, rfl⟩)⟩ | ⟨hb, rfl⟩ | ⟨i, rfl, h1, h2, hc, rfl⟩)⟩
  · simp only [b_Blocks__len_pair, startD, List.map, List.length, List.replicate, Nat.reduceAdd, Nat.reduceSub, List.cons_append, List.nil_append]
    repeat' (walk_at "pd1")
    refine u_bmeet hn h1 h2 h4' h5 ?_
    repeat' (walk_at "pd1")
    all_goals first
      | (exfalso; omega)
      | skip
    refine u_meetLen h1 h2 h4' h5 hl hm ?_
    repeat' (walk_at "pd1")
    all_goals try (walk_at "ps")
  · simp only [b_Blocks__len_pair, startD, List.map, List.length, List.replicate, Nat.reduceAdd, Nat.reduceSub, List.cons_append, List.nil_append]
    repeat' (walk_at "pd1")
    refine u_bmeet hn h1 h2 h4' h5 ?_
    repeat' (walk_at "pd1")
    all_goals first
      | (exfalso; omega)
      | exact Ext.refl _
      | rfl
      | skip
  · simp only [b_Blocks__len_pair, startD, List.map, List.length, List.replicate, Nat.reduceAdd, Nat.reduceSub, List.cons_append, List.nil_append]
    repeat' (walk_at "pd1")
    refine u_bmeet_b hn hb ?_
    exact ⟨Ext.refl _, rfl⟩
  · simp only [b_Blocks__len_pair, startD, List.map, List.length, List.replicate, Nat.reduceAdd, Nat.reduceSub, List.cons_append, List.nil_append]
    repeat' (walk_at "pd1")
    refine u_bmeet_c hn h1 h2 hc ?_
    exact ⟨Ext.refl _, rfl⟩
theorem u_bpair {S : Store} {Q : DQ} {E : EQ} {n : Nat} {ls : List Life} {i j : Int} (hn : S[n]? = some (blkO ls)) (hl : LivesOk ls) (h1 : 0 ≤ i) (h2 : i < ls.length) (h3 : 0 ≤ j) (h4 : j < ls.length) (hm : meetF ls i j ≠ -1) (q : Q (.int (meetLen ls i j)) S) : FnS p_Blocks__len_pair [.ref n, .int i, .int j] S Q E := ⟨_, ⟨n, ls, _, _, rfl, hn, hl, .inl ⟨i, j, rfl, rfl, h1, h2, h3, h4, .inl ⟨hm, rfl⟩⟩⟩, q⟩
theorem u_bpair_x {S : Store} {Q : DQ} {E : EQ} {n : Nat} {ls : List Life} {i j : Int} (hn : S[n]? = some (blkO ls)) (hl : LivesOk ls) (h1 : 0 ≤ i) (h2 : i < ls.length) (h3 : 0 ≤ j) (h4 : j < ls.length) (hm : meetF ls i j = -1) (q : E (ePlace 0) S) : FnS p_Blocks__len_pair [.ref n, .int i, .int j] S Q E := ⟨_, ⟨n, ls, _, _, rfl, hn, hl, .inl ⟨i, j, rfl, rfl, h1, h2, h3, h4, .inr ⟨hm, rfl⟩⟩⟩, q⟩
theorem u_bpair_b {S : Store} {Q : DQ} {E : EQ} {n : Nat} {ls : List Life} {b c : D} (hn : S[n]? = some (blkO ls)) (hl : LivesOk ls) (h : NotIn S b ls.length) (q : E (eName "b") S) : FnS p_Blocks__len_pair [.ref n, b, c] S Q E := ⟨_, ⟨n, ls, _, _, rfl, hn, hl, .inr (.inl ⟨h, rfl⟩)⟩, q⟩
theorem u_bpair_c {S : Store} {Q : DQ} {E : EQ} {n : Nat} {ls : List Life} {i : Int} {c : D} (hn : S[n]? = some (blkO ls)) (hl : LivesOk ls) (h1 : 0 ≤ i) (h2 : i < ls.length) (h : NotIn S c ls.length) (q : E (eName "c") S) : FnS p_Blocks__len_pair [.ref n, .int i, c] S Q E := ⟨_, ⟨n, ls, _, _, rfl, hn, hl, .inr (.inr ⟨i, rfl, h1, h2, h, rfl⟩)⟩, q⟩
theorem len_Blocks__len_pair : ∀ ds S o, p_Blocks__len_pair ds S o → ds.length = 3 := by rintro _ S o ⟨n, ls, b, c, rfl, _⟩; rfl
theorem ok_Blocks__len_pair : ∀ ds S o, p_Blocks__len_pair ds S o → refsLts S.length ds = true → WfS S → okO S.length o = true := by rintro _ S o ⟨n, ls, b, c, rfl, _, _, (⟨_, _, _, _, _, _, _, _, (⟨_, rfl⟩ | ⟨_, rfl⟩)⟩ | ⟨_, rfl⟩ | ⟨_, _, _, _, _, rfl⟩)⟩ _ _ <;> rfl


end
section
set_option Elab.async false
set_option linter.all false
set_option maxRecDepth 100000
set_option maxHeartbeats 8000000
open PySem

local macro_rules | `(tactic| walk_at "pd1") => `(tactic| first | (((with_reducible refine u_w_l (xs := ?xs) ?g0 ?_); (case g0 => walk_at "pg"))) | fail)
local macro_rules | `(tactic| walk_at "pd1") => `(tactic| first | (with_reducible refine u_w_u ?_) | fail)
local macro_rules | `(tactic| walk_at "pd1") => `(tactic| first | (with_reducible refine u_w_t ?_) | fail)
local macro_rules | `(tactic| walk_at "pd1") => `(tactic| first | (with_reducible refine u_w_n ?_) | fail)
local macro_rules | `(tactic| walk_at "pd1") => `(tactic| first | (with_reducible refine u_w_s ?_) | fail)
local macro_rules | `(tactic| walk_at "pd1") => `(tactic| first | (with_reducible refine u_w_b ?_) | fail)
local macro_rules | `(tactic| walk_at "pd1") => `(tactic| first | (with_reducible refine u_w_i ?_) | fail)
local macro_rules | `(tactic| walk_at "pd1") => `(tactic| first | (((with_reducible refine u_law_pick (l := ?l) ?g0 ?_ ?_ ?_ ?_); (case g0 => walk_at "pg"))) | fail)

local macro_rules | `(tactic| walk_at "pd1") => `(tactic| first | (((with_reducible refine u_bmeet (ls := ?ls) ?g0 ?_ ?_ ?_ ?_ ?_); (case g0 => walk_at "pg"))) | fail)
local macro_rules | `(tactic| walk_at "pd1") => `(tactic| first | (((with_reducible refine u_chk (ls := ?ls) ?g0 ?_ ?_ ?_); (case g0 => walk_at "pg"))) | fail)
local macro_rules | `(tactic| walk_at "pd1") => `(tactic| first | (with_reducible refine u_apart ?_) | fail)
local macro_rules | `(tactic| walk_at "pd1") => `(tactic| first | (with_reducible refine u_meet ?_ ?_ ?_ ?_ ?_) | fail)
local macro_rules | `(tactic| walk_at "pd1") => `(tactic| first | (with_reducible refine u_ending ?_) | fail)
local macro_rules | `(tactic| walk_at "pd1") => `(tactic| first | (with_reducible refine g_lv ?_) | fail)
local macro_rules | `(tactic| walk_at "pd1") => `(tactic| first | (with_reducible refine n_lives ?_) | fail)
local macro_rules | `(tactic| walk_at "pd1") => `(tactic| first | (with_reducible refine i_life ?_ ?_ ?_) | fail)

/-! ### wrong_start -/
def NotNat (S : Store) (d : D) : Prop := ∃ a, tyName S d = some a ∧ (a ≠ "int" ∨ ∃ i : Int, d = .int i ∧ i < 0)
def WS (S : Store) (d : D) (n : Nat) (r : Int) : Prop := (∃ a, tyName S d = some a ∧ a ≠ "tuple" ∧ a ≠ "list" ∧ r = 0) ∨ ∃ a, tyName S d = some a ∧ (a = "tuple" ∨ a = "list") ∧ ∃ ss : List Int, (∀ s ∈ ss, 0 ≤ s) ∧ ss.length ≤ n ∧
  ((seqOf S d = some (ss.map .int) ∧ r = if ss.length = n then -1 else (ss.length : Int)) ∨ ∃ y post, seqOf S d = some (ss.map .int ++ y :: post) ∧ (ss.length = n ∨ NotNat S y) ∧ r = ss.length)
def p_wrong_start : List D → Store → Out → Prop := fun ds S o => ∃ (n : Nat) (ls : List Life) (d : D) (r : Int), ds = [.ref n, d] ∧ S[n]? = some (blkO ls) ∧ WS S d ls.length r ∧ o = .val (.int r)
theorem cf_mem {l : List Int} {k : Nat} (h : k < l.length) : cf l k ∈ l := by
  rw [cf_in h]
  exact List.getElem_mem h
theorem vc_wrong_start (M : Md) (h0 : M.sp 0 = FnS p_is_whole) (hv : M.noA 3 "many" = true) : ∀ ds S o, p_wrong_start ds S o → wpSs (M.C (excO S o)) b_wrong_start (retO S o) (startD n_wrong_start ds) S := by
  rintro ds S o ⟨n, ls, d, r, rfl, hn, (⟨a, ha, h1, h2, rfl⟩ | ⟨a, ha, h1, ss, hs, hl, (⟨hq, rfl⟩ | ⟨y, post, hq, hy, rfl⟩)⟩), rfl⟩
  · simp only [b_wrong_start, startD, List.map, List.length, List.replicate, Nat.reduceAdd, Nat.reduceSub, List.cons_append, List.nil_append]
    repeat' (walk_at "pd1")
    refine b_isi (isi_ty2 (k := false) ha (by simp [h1, h2])) ?_
    repeat' (walk_at "pd1")
    all_goals try (walk_at "ps")
  · simp only [b_wrong_start, startD, List.map, List.length, List.replicate, Nat.reduceAdd, Nat.reduceSub, List.cons_append, List.nil_append]
    repeat' (walk_at "pd1")
    refine b_isi (isi_ty2 (k := true) ha (by rcases h1 with rfl | rfl <;> decide)) ?_
    repeat' (walk_at "pd1")
    all_goals try (refine g_seq hq ?_)
    repeat' (walk_at "pd1")
    · refine FR_same (fun e => ∃ x z, e = [some (.ref n), some d, x, z]) ⟨_, _, rfl⟩ (still_seq hq) ?_ ?_
      · rintro y e hy ⟨x, z, rfl⟩
        obtain ⟨k, hk⟩ := List.getElem?_of_mem hy
        obtain ⟨e', he, rfl⟩ := enumL_get' hk
        obtain ⟨hk2, rfl⟩ := map_get he
        have f := hs _ (cf_mem hk2)
        repeat' (walk_at "pd1")
        all_goals first
          | (exfalso; omega)
          | exact ⟨rfl, _, _, rfl⟩
          | skip
      · rintro e ⟨x, z, rfl⟩
        repeat' (walk_at "pd1")
        all_goals try (refine n_seq ha h1 hq ?_)
        repeat' (walk_at "pd1")
        all_goals first
          | exact Ext.refl _
          | (rename_i hb; rw [ml] at hb; rw [if_pos (by omega)]; done)
          | (rename_i hb; rw [ml] at hb; rw [if_neg (by omega)]; done)
          | skip
        all_goals try (refine n_seq ha h1 hq ?_)
        repeat' (walk_at "pd1")
        all_goals first
          | exact Ext.refl _
          | (rename_i hb; rw [ml] at hb ⊢; rw [if_neg (by omega)]; done)
          | skip
  · simp only [b_wrong_start, startD, List.map, List.length, List.replicate, Nat.reduceAdd, Nat.reduceSub, List.cons_append, List.nil_append]
    repeat' (walk_at "pd1")
    refine b_isi (isi_ty2 (k := true) ha (by rcases h1 with rfl | rfl <;> decide)) ?_
    repeat' (walk_at "pd1")
    all_goals try (refine g_seq hq ?_)
    repeat' (walk_at "pd1")
    · refine FR_ind (fun k e S' => k ≤ ss.length ∧ S' = S ∧ ∃ x z, e = [some (.ref n), some d, x, z]) ⟨Nat.zero_le _, rfl, _, _, rfl⟩ ?_ ?_
      · rintro k w e S' hw ⟨hk, rfl, x, z, rfl⟩
        obtain ⟨e', he, rfl⟩ := enumL_get' hw
        rcases app_get he with ⟨h5, h6⟩ | ⟨h5, rfl⟩ | h5
        · rw [ml] at h5
          obtain ⟨_, rfl⟩ := map_get h6
          have f := hs _ (cf_mem h5)
          repeat' (walk_at "pd1")
          all_goals first
            | (exfalso; omega)
            | exact ⟨by omega, rfl, _, _, rfl⟩
            | exact ⟨still_seq hq, by omega, rfl, _, _, rfl⟩
            | skip
        · rw [ml] at h5
          subst h5
          rcases hy with hy | ⟨b, hb, hy⟩
          · repeat' (walk_at "pd1")
            all_goals first
              | (exfalso; omega)
              | exact Ext.refl _
              | (congr 1; omega)
              | skip
          · rcases hy with hy | ⟨i, rfl, hy⟩
            · repeat' (walk_at "pd1")
              all_goals first
                | (exfalso; omega)
                | exact Ext.refl _
                | (congr 1; omega)
                | skip
              all_goals try (refine u_w_g hb ?_; rw [show (b == "int") = false by simpa using hy])
              repeat' (walk_at "pd1")
              all_goals first
                | exact Ext.refl _
                | (congr 1; omega)
                | skip
            · repeat' (walk_at "pd1")
              all_goals first
                | (exfalso; omega)
                | exact Ext.refl _
                | (congr 1; omega)
                | skip
        · rw [ml] at h5
          omega
      · rintro e S' ⟨hk, _⟩
        rw [enumL_len, List.length_append, List.length_cons, ml] at hk
        omega
theorem u_ws {S : Store} {Q : DQ} {E : EQ} {n : Nat} {ls : List Life} {d : D} {r : Int} (hn : S[n]? = some (blkO ls)) (h : WS S d ls.length r) (q : Q (.int r) S) : FnS p_wrong_start [.ref n, d] S Q E := ⟨_, ⟨n, ls, d, r, rfl, hn, h, rfl⟩, q⟩
theorem len_wrong_start : ∀ ds S o, p_wrong_start ds S o → ds.length = 2 := by rintro _ S o ⟨n, ls, d, r, rfl, _⟩; rfl
theorem ok_wrong_start : ∀ ds S o, p_wrong_start ds S o → refsLts S.length ds = true → WfS S → okO S.length o = true := by rintro _ S o ⟨n, ls, d, r, rfl, _, _, rfl⟩ _ _; rfl
/-- starts that are right -/
def StartsOk (S : Store) (d : D) (ss : List Int) (n : Nat) : Prop := isSq S d ss ∧ (∀ s ∈ ss, 0 ≤ s) ∧ ss.length = n
theorem StartsOk.ws {S : Store} {d : D} {ss : List Int} {n : Nat} (h : StartsOk S d ss n) : WS S d n (-1) := by
  obtain ⟨h1, h2, h3⟩ := h
  have ht : ∃ a, tyName S d = some a ∧ (a = "tuple" ∨ a = "list") := by
    rcases h1 with rfl | ⟨k, rfl, hk⟩
    · exact ⟨"tuple", rfl, .inl rfl⟩
    · exact ⟨"list", ty_l hk, .inr rfl⟩
  obtain ⟨a, ha, hb⟩ := ht
  exact .inr ⟨a, ha, hb, ss, h2, by omega, .inl ⟨h1.seq, by rw [if_pos h3]⟩⟩
/-! ### end_of -/
def endF (ls : List Life) (ss : List Int) : List Int := (List.range ls.length).map fun (b : Nat) => cf ss b + cf (lf ls b).2 0
def p_end_of : List D → Store → Out → Prop := fun ds S o => ∃ (n : Nat) (ls : List Life) (d : D), ds = [.ref n, d] ∧ S[n]? = some (blkO ls) ∧ LivesOk ls ∧ 0 < ls.length ∧ ls.length ≤ 1000 ∧
  ((∃ ss m, StartsOk S d ss ls.length ∧ maxL (endF ls ss) = some m ∧ o = .val (.int m)) ∨ (∃ r, WS S d ls.length r ∧ r ≠ -1 ∧ o = .exc (ePlace r)))
theorem vc_end_of (M : Md) (h7 : M.sp 7 = FnS p_wrong_start) (hv : M.noA 3 "lives" = true) : ∀ ds S o, p_end_of ds S o → wpSs (M.C (excO S o)) b_end_of (retO S o) (startD n_end_of ds) S := by
  rintro ds S o ⟨n, ls, d, rfl, hn, hl, hl0, hl1, (⟨ss, m, hs, hm, rfl⟩ | ⟨r, hr, hr1, rfl⟩)⟩
  · simp only [b_end_of, startD, List.map, List.length, List.replicate, Nat.reduceAdd, Nat.reduceSub, List.cons_append, List.nil_append]
    repeat' (walk_at "pd1")
    refine u_ws hn hs.ws ?_
    repeat' (walk_at "pd1")
    all_goals first
      | (exfalso; omega)
      | skip
    all_goals try (refine g_seq hs.1.seq ?_)
    repeat' (walk_at "pd1")
    refine ⟨still_q hs.1, ?_⟩
    have hsl : ss.length = ls.length := hs.2.2
    refine lc_ind (lstep_m _ _ _ _ _ _) (fun k S2 => S2 = S ++ [lstI ((List.range k).map fun (b : Nat) => cf ss b + cf (lf ls b).2 0)]) rfl ?_ ?_
    · rintro k y S2 hy rfl
      obtain ⟨e', he, rfl⟩ := enumL_get' hy
      obtain ⟨hk2, rfl⟩ := map_get he
      have ok := hl.at (b := (k : Int)) (by omega) (by omega)
      have hp : 0 < (lf ls k).2.length := len_pos ok.ne
      have e1 : ((0 + k : Nat) : Int) = (k : Int) := by omega
      unfold lcStep
      rw [e1]
      repeat' (walk_at "pd1")
      all_goals first
        | omega
        | skip
      refine ⟨still_seq (hs.1.app _).seq, _, get_last _ _, ?_, ?_⟩
      · rw [List.length_map, List.length_map, List.length_range]
        exact big' _ (by omega)
      · rw [set_last, List.range_succ, List.map_append]
        unfold lstI
        rw [List.map_append]
        rfl
    · rintro S2 rfl
      rw [enumL_len, ml, hsl]
      repeat' (walk_at "pd1")
      refine b_maxl (get_last _ _) hm ?_
      repeat' (walk_at "pd1")
      all_goals first
        | exact Ext.app _ _
        | with_reducible rfl
        | skip
  · simp only [b_end_of, startD, List.map, List.length, List.replicate, Nat.reduceAdd, Nat.reduceSub, List.cons_append, List.nil_append]
    repeat' (walk_at "pd1")
    refine u_ws hn hr ?_
    repeat' (walk_at "pd1")
    all_goals first
      | (exfalso; omega)
      | exact Ext.refl _
      | rfl
      | skip
theorem u_end {S : Store} {Q : DQ} {E : EQ} {n : Nat} {ls : List Life} {d : D} {ss : List Int} {m : Int} (hn : S[n]? = some (blkO ls)) (hl : LivesOk ls) (h0 : 0 < ls.length) (h1 : ls.length ≤ 1000) (hs : StartsOk S d ss ls.length) (hm : maxL (endF ls ss) = some m) (q : Q (.int m) S) : FnS p_end_of [.ref n, d] S Q E := ⟨_, ⟨n, ls, d, rfl, hn, hl, h0, h1, .inl ⟨ss, m, hs, hm, rfl⟩⟩, q⟩
theorem u_end_x {S : Store} {Q : DQ} {E : EQ} {n : Nat} {ls : List Life} {d : D} {r : Int} (hn : S[n]? = some (blkO ls)) (hl : LivesOk ls) (h0 : 0 < ls.length) (h1 : ls.length ≤ 1000) (hr : WS S d ls.length r) (hm : r ≠ -1) (q : E (ePlace r) S) : FnS p_end_of [.ref n, d] S Q E := ⟨_, ⟨n, ls, d, rfl, hn, hl, h0, h1, .inr ⟨r, hr, hm, rfl⟩⟩, q⟩
theorem len_end_of : ∀ ds S o, p_end_of ds S o → ds.length = 2 := by rintro _ S o ⟨n, ls, d, rfl, _⟩; rfl
theorem ok_end_of : ∀ ds S o, p_end_of ds S o → refsLts S.length ds = true → WfS S → okO S.length o = true := by rintro _ S o ⟨n, ls, d, rfl, _, _, _, _, (⟨_, _, _, _, rfl⟩ | ⟨_, _, _, rfl⟩)⟩ _ _ <;> rfl


end
section
set_option Elab.async false
set_option linter.all false
set_option maxRecDepth 100000
set_option maxHeartbeats 8000000
open PySem

local macro_rules | `(tactic| walk_at "pd1") => `(tactic| first | (((with_reducible refine u_w_l (xs := ?xs) ?g0 ?_); (case g0 => walk_at "pg"))) | fail)
local macro_rules | `(tactic| walk_at "pd1") => `(tactic| first | (with_reducible refine u_w_u ?_) | fail)
local macro_rules | `(tactic| walk_at "pd1") => `(tactic| first | (with_reducible refine u_w_t ?_) | fail)
local macro_rules | `(tactic| walk_at "pd1") => `(tactic| first | (with_reducible refine u_w_n ?_) | fail)
local macro_rules | `(tactic| walk_at "pd1") => `(tactic| first | (with_reducible refine u_w_s ?_) | fail)
local macro_rules | `(tactic| walk_at "pd1") => `(tactic| first | (with_reducible refine u_w_b ?_) | fail)
local macro_rules | `(tactic| walk_at "pd1") => `(tactic| first | (with_reducible refine u_w_i ?_) | fail)
local macro_rules | `(tactic| walk_at "pd1") => `(tactic| first | (((with_reducible refine u_law_pick (l := ?l) ?g0 ?_ ?_ ?_ ?_); (case g0 => walk_at "pg"))) | fail)

local macro_rules | `(tactic| walk_at "pd1") => `(tactic| first | (((with_reducible refine u_bpair (ls := ?ls) ?g0 ?_ ?_ ?_ ?_ ?_ ?_ ?_); (case g0 => walk_at "pg"))) | fail)
local macro_rules | `(tactic| walk_at "pd1") => `(tactic| first | (((with_reducible refine u_bpairs (ls := ?ls) ?g0 ?_ ?_); (case g0 => walk_at "pg"))) | fail)
local macro_rules | `(tactic| walk_at "pd1") => `(tactic| first | (((with_reducible refine u_blen (ls := ?ls) ?g0 ?_ ?_ ?_ ?_ ?_); (case g0 => walk_at "pg"))) | fail)
local macro_rules | `(tactic| walk_at "pd1") => `(tactic| first | (((with_reducible refine u_bmeet (ls := ?ls) ?g0 ?_ ?_ ?_ ?_ ?_); (case g0 => walk_at "pg"))) | fail)
local macro_rules | `(tactic| walk_at "pd1") => `(tactic| first | (((with_reducible refine u_chk (ls := ?ls) ?g0 ?_ ?_ ?_); (case g0 => walk_at "pg"))) | fail)
local macro_rules | `(tactic| walk_at "pd1") => `(tactic| first | (with_reducible refine u_apart ?_) | fail)
local macro_rules | `(tactic| walk_at "pd1") => `(tactic| first | (with_reducible refine u_meet ?_ ?_ ?_ ?_ ?_) | fail)
local macro_rules | `(tactic| walk_at "pd1") => `(tactic| first | (with_reducible refine u_ending ?_) | fail)
local macro_rules | `(tactic| walk_at "pd1") => `(tactic| first | (with_reducible refine g_lv ?_) | fail)
local macro_rules | `(tactic| walk_at "pd1") => `(tactic| first | (with_reducible refine n_lives ?_) | fail)
local macro_rules | `(tactic| walk_at "pd1") => `(tactic| first | (with_reducible refine i_life ?_ ?_ ?_) | fail)

/-! ### lengths fall: the first meeting is enough -/
theorem falls_le {l : List Int} (h : Falls l) : ∀ (d i : Nat), i + d < l.length → cf l (i + d) ≤ cf l i
  | 0, _, _ => Int.le_refl _
  | d + 1, i, hl => by
    have h1 := (h (i + (d + 1)) hl).2 (by omega)
    have h2 := falls_le h d i (by omega)
    rw [show i + (d + 1) - 1 = i + d by omega] at h1
    omega
theorem LifeOk.mono {l : Life} (h : LifeOk l) {m m2 : Int} (h0 : l.1 ≤ m) (h1 : m ≤ m2) (h2 : m2 < endL l) : lenAt l m2 ≤ lenAt l m := by
  unfold endL at h2
  unfold lenAt
  have := falls_le h.fa ((m2 - l.1).toNat - (m - l.1).toNat) (m - l.1).toNat (by omega)
  rwa [show (m - l.1).toNat + ((m2 - l.1).toNat - (m - l.1).toNat) = (m2 - l.1).toNat by omega] at this
theorem LifeOk.end_le {l : Life} (h : LifeOk l) : endL l ≤ 2000 := by
  have := h.hi
  have := h.ln
  unfold endL
  omega
theorem LifeOk.nn {l : Life} (h : LifeOk l) {m : Int} (h0 : l.1 ≤ m) (h2 : m < endL l) : 0 ≤ lenAt l m := by
  unfold endL at h2
  exact (h.fa _ (by omega)).1
theorem meet_sym (ls : List Life) (b c : Int) : meetF ls b c = meetF ls c b := by
  unfold meetF meetL
  by_cases h : b = c
  · subst h; rfl
  · have h2 : ¬ c = b := fun z => h z.symm
    rw [if_neg h, if_neg h2, Int.max_comm, Int.min_comm]
theorem meetF_in {ls : List Life} (hl : LivesOk ls) {b c : Int} (h0 : 0 ≤ b) (h1 : b < ls.length) (h2 : 0 ≤ c) (h3 : c < ls.length) (h : meetF ls b c ≠ -1) :
    0 ≤ meetF ls b c ∧ (lf ls b).1 ≤ meetF ls b c ∧ meetF ls b c < endL (lf ls b) ∧ (lf ls c).1 ≤ meetF ls b c ∧ meetF ls b c < endL (lf ls c) := by
  have p := (hl.at h0 h1).p0
  have q := (hl.at h2 h3).p0
  unfold meetF at h ⊢
  split at h
  · exact absurd rfl h
  · rename_i z
    rw [if_neg z]
    have := meet_in h p q
    omega
theorem meetF_neg {ls : List Life} (hl : LivesOk ls) {b c : Int} (h0 : 0 ≤ b) (h1 : b < ls.length) (h2 : 0 ≤ c) (h3 : c < ls.length) : meetF ls b c = -1 ∨ 0 ≤ meetF ls b c := by
  by_cases h : meetF ls b c = -1
  · exact .inl h
  · exact .inr (meetF_in hl h0 h1 h2 h3 h).1
theorem meetF_least {ls : List Life} {b c : Int} (hbc : b ≠ c) {m : Int} (h1 : (lf ls b).1 ≤ m) (h2 : m < endL (lf ls b)) (h3 : (lf ls c).1 ≤ m) (h4 : m < endL (lf ls c)) : meetF ls b c ≤ m ∧ meetF ls b c = max (lf ls b).1 (lf ls c).1 := by
  unfold meetF meetL
  rw [if_neg hbc, if_neg (by omega)]
  omega
def Placed (ls : List Life) (ss : List Int) : Prop := ∀ b c : Nat, b < c → c < ls.length → ∀ m : Int, (lf ls b).1 ≤ m → m < endL (lf ls b) → (lf ls c).1 ≤ m → m < endL (lf ls c) → apartB (cf ss b) (lenAt (lf ls b) m) (cf ss c) (lenAt (lf ls c) m) = true
def PairOk (ls : List Life) (ss : List Int) (b c : Nat) : Prop := ∀ i : Nat, meetF ls b c + i < min (endL (lf ls b)) (endL (lf ls c)) → apartB (cf ss b) (lenAt (lf ls b) (meetF ls b c + i)) (cf ss c) (lenAt (lf ls c) (meetF ls b c + i)) = true
def PairOk1 (ls : List Life) (ss : List Int) (b c : Nat) : Prop := apartB (cf ss b) (meetLen ls b c) (cf ss c) (meetLen ls c b) = true
theorem apartB_iff {s l o t : Int} : apartB s l o t = true ↔ (s + l ≤ o ∨ o + t ≤ s) := by
  unfold apartB
  simp
theorem pair_iff {ls : List Life} (hl : LivesOk ls) (ss : List Int) {b c : Nat} (hb : b < ls.length) (hc : c < ls.length) (h : 0 ≤ meetF ls b c) : PairOk ls ss b c ↔ PairOk1 ls ss b c := by
  obtain ⟨_, h1, h2, h3, h4⟩ := meetF_in hl (b := b) (c := c) (by omega) (by omega) (by omega) (by omega) (by omega)
  unfold PairOk PairOk1 meetLen
  rw [← meet_sym ls b c]
  constructor
  · intro z
    have := z 0 (by omega)
    rwa [show meetF ls b c + ((0 : Nat) : Int) = meetF ls b c by omega] at this
  · intro z i hi
    rw [apartB_iff] at z ⊢
    have e1 := (hl.at (b := (b : Int)) (by omega) (by omega)).mono (m := meetF ls b c) (m2 := meetF ls b c + i) h1 (by omega) (by omega)
    have e2 := (hl.at (b := (c : Int)) (by omega) (by omega)).mono (m := meetF ls b c) (m2 := meetF ls b c + i) h3 (by omega) (by omega)
    omega
theorem placed_iff {ls : List Life} (hl : LivesOk ls) (ss : List Int) : Placed ls ss ↔ ∀ p ∈ pairsL ls ls.length, PairOk ls ss p.1 p.2 := by
  constructor
  · rintro z ⟨b, c⟩ hp i hi
    obtain ⟨h1, h2, h3⟩ := mem_pairs.1 hp
    obtain ⟨_, h4, h5, h6, h7⟩ := meetF_in hl (b := b) (c := c) (by omega) (by omega) (by omega) (by omega) (by omega)
    dsimp only at hi
    exact z b c h1 h2 (meetF ls b c + i) (by omega) (by omega) (by omega) (by omega)
  · intro z b c h1 h2 m h3 h4 h5 h6
    obtain ⟨q1, q2⟩ := meetF_least (ls := ls) (b := b) (c := c) (by omega) h3 h4 h5 h6
    have p := (hl.at (b := (b : Int)) (by omega) (by omega)).p0
    have := z (b, c) (mem_pairs.2 ⟨h1, h2, by omega⟩) (m - meetF ls b c).toNat (by dsimp only; omega)
    dsimp only at this
    rwa [show meetF ls b c + (((m - meetF ls b c).toNat : Nat) : Int) = m by omega] at this
theorem placed_iff1 {ls : List Life} (hl : LivesOk ls) (ss : List Int) : Placed ls ss ↔ ∀ p ∈ pairsL ls ls.length, PairOk1 ls ss p.1 p.2 := by
  rw [placed_iff hl]
  constructor
  · rintro z ⟨b, c⟩ hp
    obtain ⟨h1, h2, h3⟩ := mem_pairs.1 hp
    exact (pair_iff hl ss (by omega) h2 h3).1 (z _ hp)
  · rintro z ⟨b, c⟩ hp
    obtain ⟨h1, h2, h3⟩ := mem_pairs.1 hp
    exact (pair_iff hl ss (by omega) h2 h3).2 (z _ hp)
theorem pair_get {ls : List Life} {m k : Nat} {d : D} (h : ((pairsL ls m).map pairD)[k]? = some d) : ∃ p, (pairsL ls m)[k]? = some p ∧ d = pairD p := by
  rw [List.getElem?_map] at h
  cases e : (pairsL ls m)[k]? with
  | none => rw [e] at h; cases h
  | some p => rw [e] at h; cases h; exact ⟨p, rfl, rfl⟩
theorem take_all {α : Type} {l : List α} {P : α → Prop} (h : ∀ i, i < l.length → ∀ p, l[i]? = some p → P p) : ∀ p ∈ l, P p := by
  intro p hp
  obtain ⟨k, hk⟩ := List.getElem?_of_mem hp
  have : k < l.length := by
    rcases Nat.lt_or_ge k l.length with z | z
    · exact z
    · rw [List.getElem?_eq_none z] at hk; cases hk
  exact h k this p hk
/-! ### is_placing -/
def PlaceO (S : Store) (ls : List Life) (d : D) (o : Out) : Prop := (∃ ss b, StartsOk S d ss ls.length ∧ (b = true ↔ Placed ls ss) ∧ o = .val (.bl b)) ∨ (∃ r, WS S d ls.length r ∧ r ≠ -1 ∧ o = .val (.bl false))
def p_is_placing : List D → Store → Out → Prop := fun ds S o => ∃ (n : Nat) (ls : List Life) (d : D), ds = [.ref n, d] ∧ S[n]? = some (blkO ls) ∧ LivesOk ls ∧ ls.length ≤ 1000 ∧ PlaceO S ls d o
theorem vc_is_placing (M : Md) (h2 : M.sp 2 = FnS p_ending) (h7 : M.sp 7 = FnS p_wrong_start) (h8 : M.sp 8 = FnS p_apart) (h9 : M.sp 9 = FnS p_Blocks__pairs) (h11 : M.sp 11 = FnS p_Blocks__meeting) (h12 : M.sp 12 = FnS p_Blocks__length_then) (hv : M.noA 3 "lives" = true) : ∀ ds S o, p_is_placing ds S o → wpSs (M.C (excO S o)) b_is_placing (retO S o) (startD n_is_placing ds) S := by
  rintro ds S o ⟨n, ls, d, rfl, hn, hl, hl1, (⟨ss, bb, hs, hbb, rfl⟩ | ⟨r, hr, hr1, rfl⟩)⟩
  · simp only [b_is_placing, startD, List.map, List.length, List.replicate, Nat.reduceAdd, Nat.reduceSub, List.cons_append, List.nil_append]
    repeat' (walk_at "pd1")
    refine u_ws hn hs.ws ?_
    repeat' (walk_at "pd1")
    all_goals first
      | omega
      | (exfalso; omega)
      | skip
    have hsl : ss.length = ls.length := hs.2.2
    have hsq := hs.1
    rw [placed_iff hl] at hbb
    all_goals first
      | omega
      | skip
    refine FR_ind (fun k e S' => S' = S ∧ (∃ x y u v, e = [some (.ref n), some d, x, y, u, v]) ∧ ∀ i, i < k → ∀ p, (pairsL ls ls.length)[i]? = some p → PairOk ls ss p.1 p.2) ⟨rfl, ⟨_, _, _, _, rfl⟩, by intro i hi; omega⟩ ?_ ?_
    · rintro k y e S' hy ⟨rfl, ⟨x, z, u, v, rfl⟩, hk⟩
      obtain ⟨⟨b, c⟩, hp, rfl⟩ := pair_get hy
      have hpm := List.mem_of_getElem? hp
      obtain ⟨h1, h3, h4⟩ := mem_pairs.1 hpm
      obtain ⟨_, h5, h6, h10, h13⟩ := meetF_in hl (b := b) (c := c) (by omega) (by omega) (by omega) (by omega) (by omega)
      have e7 := (hl.at (b := (b : Int)) (by omega) (by omega)).end_le
      have e8 := (hl.at (b := (c : Int)) (by omega) (by omega)).end_le
      refine r_tp (xs := [.int (b : Int), .int (c : Int)]) rfl rfl ?_
      repeat' (walk_at "pd1")
      all_goals first
        | omega
        | skip
      refine FR_ind (fun j e S'' => S'' = S' ∧ (∃ x, e = [some (.ref n), some d, some (.int b), some (.int c), some (.int (min (endL (lf ls b)) (endL (lf ls c)))), x]) ∧ ∀ i : Nat, i < j → apartB (cf ss b) (lenAt (lf ls b) (meetF ls b c + i)) (cf ss c) (lenAt (lf ls c) (meetF ls b c + i)) = true) ⟨rfl, ⟨_, rfl⟩, by intro i hi; omega⟩ ?_ ?_
      · rintro j w e S'' hw ⟨rfl, ⟨x, rfl⟩, hj⟩
        obtain ⟨hk1, rfl⟩ := rngL_get hw
        repeat' (walk_at "pd1")
        all_goals first
          | omega
          | exact Ext.refl _
          | skip
        · rename_i hb
          simp only [Int.toNat_natCast] at hb
          cases bb with
          | false => rfl
          | true =>
            have q := hbb.1 rfl _ hpm j (by dsimp only; omega)
            dsimp only at q
            rw [q] at hb
            cases hb
        · rename_i hb
          simp only [Int.toNat_natCast] at hb
          refine ⟨rfl, ⟨_, rfl⟩, ?_⟩
          intro i hi
          by_cases e : i = j
          · subst e; exact hb
          · exact hj i (by omega)
      · rintro e S'' ⟨rfl, ⟨x, rfl⟩, hj⟩
        rw [rngL_len] at hj
        repeat' (walk_at "pd1")
        refine ⟨rfl, ⟨_, _, _, _, rfl⟩, ?_⟩
        intro i hi p hp'
        by_cases e : i = k
        · subst e
          rw [hp] at hp'
          cases hp'
          intro i hi
          dsimp only at hi ⊢
          exact hj i (by omega)
        · exact hk i (by omega) p hp'
    · rintro e S' ⟨rfl, ⟨x, z, u, v, rfl⟩, hk⟩
      rw [List.length_map] at hk
      repeat' (walk_at "pd1")
      all_goals first
        | exact Ext.refl _
        | (rw [hbb.2 (take_all hk)]; done)
        | skip
  · simp only [b_is_placing, startD, List.map, List.length, List.replicate, Nat.reduceAdd, Nat.reduceSub, List.cons_append, List.nil_append]
    repeat' (walk_at "pd1")
    refine u_ws hn hr ?_
    repeat' (walk_at "pd1")
    all_goals first
      | (exfalso; omega)
      | exact Ext.refl _
      | rfl
      | skip
theorem u_placing {S : Store} {Q : DQ} {E : EQ} {n : Nat} {ls : List Life} {d : D} {ss : List Int} {b : Bool} (hn : S[n]? = some (blkO ls)) (hl : LivesOk ls) (h1 : ls.length ≤ 1000) (hs : StartsOk S d ss ls.length) (hb : b = true ↔ Placed ls ss) (q : Q (.bl b) S) : FnS p_is_placing [.ref n, d] S Q E := ⟨_, ⟨n, ls, d, rfl, hn, hl, h1, .inl ⟨ss, b, hs, hb, rfl⟩⟩, q⟩
theorem u_placing_x {S : Store} {Q : DQ} {E : EQ} {n : Nat} {ls : List Life} {d : D} {r : Int} (hn : S[n]? = some (blkO ls)) (hl : LivesOk ls) (h1 : ls.length ≤ 1000) (hr : WS S d ls.length r) (hm : r ≠ -1) (q : Q (.bl false) S) : FnS p_is_placing [.ref n, d] S Q E := ⟨_, ⟨n, ls, d, rfl, hn, hl, h1, .inr ⟨r, hr, hm, rfl⟩⟩, q⟩
theorem len_is_placing : ∀ ds S o, p_is_placing ds S o → ds.length = 2 := by rintro _ S o ⟨n, ls, d, rfl, _⟩; rfl
theorem ok_is_placing : ∀ ds S o, p_is_placing ds S o → refsLts S.length ds = true → WfS S → okO S.length o = true := by rintro _ S o ⟨n, ls, d, rfl, _, _, _, (⟨_, _, _, _, rfl⟩ | ⟨_, _, _, rfl⟩)⟩ _ _ <;> rfl
/-! ### apart_pairs -/
def p_apart_pairs : List D → Store → Out → Prop := fun ds S o => ∃ (n : Nat) (ls : List Life) (d : D), ds = [.ref n, d] ∧ S[n]? = some (blkO ls) ∧ LivesOk ls ∧ ls.length ≤ 1000 ∧ PlaceO S ls d o
theorem vc_apart_pairs (M : Md) (h7 : M.sp 7 = FnS p_wrong_start) (h8 : M.sp 8 = FnS p_apart) (h9 : M.sp 9 = FnS p_Blocks__pairs) (h14 : M.sp 14 = FnS p_Blocks__len_pair) (hv : M.noA 3 "lives" = true) : ∀ ds S o, p_apart_pairs ds S o → wpSs (M.C (excO S o)) b_apart_pairs (retO S o) (startD n_apart_pairs ds) S := by
  rintro ds S o ⟨n, ls, d, rfl, hn, hl, hl1, (⟨ss, bb, hs, hbb, rfl⟩ | ⟨r, hr, hr1, rfl⟩)⟩
  · simp only [b_apart_pairs, startD, List.map, List.length, List.replicate, Nat.reduceAdd, Nat.reduceSub, List.cons_append, List.nil_append]
    repeat' (walk_at "pd1")
    refine u_ws hn hs.ws ?_
    repeat' (walk_at "pd1")
    all_goals first
      | omega
      | (exfalso; omega)
      | skip
    have hsl : ss.length = ls.length := hs.2.2
    have hsq := hs.1
    rw [placed_iff1 hl] at hbb
    refine FR_ind (fun k e S' => S' = S ∧ (∃ x y, e = [some (.ref n), some d, x, y]) ∧ ∀ i, i < k → ∀ p, (pairsL ls ls.length)[i]? = some p → PairOk1 ls ss p.1 p.2) ⟨rfl, ⟨_, _, rfl⟩, by intro i hi; omega⟩ ?_ ?_
    · rintro k y e S' hy ⟨rfl, ⟨x, z, rfl⟩, hk⟩
      obtain ⟨⟨b, c⟩, hp, rfl⟩ := pair_get hy
      have hpm := List.mem_of_getElem? hp
      obtain ⟨h1, h3, h4⟩ := mem_pairs.1 hpm
      have h4' : 0 ≤ meetF ls c b := by rw [meet_sym]; exact h4
      refine r_tp (xs := [.int (b : Int), .int (c : Int)]) rfl rfl ?_
      repeat' (walk_at "pd1")
      all_goals first
        | omega
        | exact Ext.refl _
        | skip
      · rename_i hb
        simp only [Int.toNat_natCast] at hb
        cases bb with
        | false => rfl
        | true =>
          have q := hbb.1 rfl _ hpm
          unfold PairOk1 at q
          dsimp only at q
          rw [q] at hb
          cases hb
      · rename_i hb
        simp only [Int.toNat_natCast] at hb
        refine ⟨rfl, ⟨_, _, rfl⟩, ?_⟩
        intro i hi p hp'
        by_cases e : i = k
        · subst e
          rw [hp] at hp'
          cases hp'
          exact hb
        · exact hk i (by omega) p hp'
    · rintro e S' ⟨rfl, ⟨x, z, rfl⟩, hk⟩
      rw [List.length_map] at hk
      repeat' (walk_at "pd1")
      all_goals first
        | exact Ext.refl _
        | (rw [hbb.2 (take_all hk)]; done)
        | skip
  · simp only [b_apart_pairs, startD, List.map, List.length, List.replicate, Nat.reduceAdd, Nat.reduceSub, List.cons_append, List.nil_append]
    repeat' (walk_at "pd1")
    refine u_ws hn hr ?_
    repeat' (walk_at "pd1")
    all_goals first
      | (exfalso; omega)
      | exact Ext.refl _
      | rfl
      | skip
theorem u_aprs {S : Store} {Q : DQ} {E : EQ} {n : Nat} {ls : List Life} {d : D} {ss : List Int} {b : Bool} (hn : S[n]? = some (blkO ls)) (hl : LivesOk ls) (h1 : ls.length ≤ 1000) (hs : StartsOk S d ss ls.length) (hb : b = true ↔ Placed ls ss) (q : Q (.bl b) S) : FnS p_apart_pairs [.ref n, d] S Q E := ⟨_, ⟨n, ls, d, rfl, hn, hl, h1, .inl ⟨ss, b, hs, hb, rfl⟩⟩, q⟩
theorem u_aprs_x {S : Store} {Q : DQ} {E : EQ} {n : Nat} {ls : List Life} {d : D} {r : Int} (hn : S[n]? = some (blkO ls)) (hl : LivesOk ls) (h1 : ls.length ≤ 1000) (hr : WS S d ls.length r) (hm : r ≠ -1) (q : Q (.bl false) S) : FnS p_apart_pairs [.ref n, d] S Q E := ⟨_, ⟨n, ls, d, rfl, hn, hl, h1, .inr ⟨r, hr, hm, rfl⟩⟩, q⟩
theorem len_apart_pairs : ∀ ds S o, p_apart_pairs ds S o → ds.length = 2 := by rintro _ S o ⟨n, ls, d, rfl, _⟩; rfl
theorem ok_apart_pairs : ∀ ds S o, p_apart_pairs ds S o → refsLts S.length ds = true → WfS S → okO S.length o = true := by rintro _ S o ⟨n, ls, d, rfl, _, _, _, (⟨_, _, _, _, rfl⟩ | ⟨_, _, _, rfl⟩)⟩ _ _ <;> rfl


end
section
set_option Elab.async false
set_option linter.all false
set_option maxRecDepth 100000
set_option maxHeartbeats 8000000
open PySem

local macro_rules | `(tactic| walk_at "pd1") => `(tactic| first | (((with_reducible refine u_w_l (xs := ?xs) ?g0 ?_); (case g0 => walk_at "pg"))) | fail)
local macro_rules | `(tactic| walk_at "pd1") => `(tactic| first | (with_reducible refine u_w_u ?_) | fail)
local macro_rules | `(tactic| walk_at "pd1") => `(tactic| first | (with_reducible refine u_w_t ?_) | fail)
local macro_rules | `(tactic| walk_at "pd1") => `(tactic| first | (with_reducible refine u_w_n ?_) | fail)
local macro_rules | `(tactic| walk_at "pd1") => `(tactic| first | (with_reducible refine u_w_s ?_) | fail)
local macro_rules | `(tactic| walk_at "pd1") => `(tactic| first | (with_reducible refine u_w_b ?_) | fail)
local macro_rules | `(tactic| walk_at "pd1") => `(tactic| first | (with_reducible refine u_w_i ?_) | fail)
local macro_rules | `(tactic| walk_at "pd1") => `(tactic| first | (((with_reducible refine u_law_pick (l := ?l) ?g0 ?_ ?_ ?_ ?_); (case g0 => walk_at "pg"))) | fail)

local macro_rules | `(tactic| walk_at "pd1") => `(tactic| first | (((with_reducible refine b_suml (l := ?l) ?g0 ?_); (case g0 => walk_at "pg"))) | fail)
local macro_rules | `(tactic| walk_at "pd1") => `(tactic| first | (with_reducible refine u_then ?_ ?_) | fail)
local macro_rules | `(tactic| walk_at "pd1") => `(tactic| first | (with_reducible refine u_apart ?_) | fail)
local macro_rules | `(tactic| walk_at "pd1") => `(tactic| first | (with_reducible refine u_meet ?_ ?_ ?_ ?_ ?_) | fail)
local macro_rules | `(tactic| walk_at "pd1") => `(tactic| first | (with_reducible refine u_ending ?_) | fail)
local macro_rules | `(tactic| walk_at "pd1") => `(tactic| first | (with_reducible refine g_lv ?_) | fail)
local macro_rules | `(tactic| walk_at "pd1") => `(tactic| first | (with_reducible refine n_lives ?_) | fail)
local macro_rules | `(tactic| walk_at "pd1") => `(tactic| first | (with_reducible refine i_life ?_ ?_ ?_) | fail)

/-! ### heaviest -/
def heavF (ls : List Life) : Nat → Int × Int
  | 0 => (0, -1)
  | k + 1 => if (thenL ls (lf ls k).1).sum > (heavF ls k).2 then ((lf ls k).1, (thenL ls (lf ls k).1).sum) else heavF ls k
def hvD (p : Int × Int) : D := tupI [p.1, p.2]
def p_Blocks__heaviest : List D → Store → Out → Prop := fun ds S o => ∃ (n : Nat) (ls : List Life), ds = [.ref n] ∧ S[n]? = some (blkO ls) ∧ ls.length ≤ 1000 ∧ o = .val (hvD (heavF ls ls.length))
theorem vc_Blocks__heaviest (M : Md) (h6 : M.sp 6 = FnS p_lengths_then) (hv : M.noA 3 "lives" = true) : ∀ ds S o, p_Blocks__heaviest ds S o → wpSs (M.C (excO S o)) b_Blocks__heaviest (retO S o) (startD n_Blocks__heaviest ds) S := by
  rintro ds S o ⟨n, ls, rfl, hn, hl, rfl⟩
  simp only [b_Blocks__heaviest, startD, List.map, List.length, List.replicate, Nat.reduceAdd, Nat.reduceSub, List.cons_append, List.nil_append]
  repeat' (walk_at "pd1")
  refine FR_ind (fun k e S' => (∃ T, S' = S ++ T) ∧ ∃ x y z, e = [some (.ref n), some (hvD (heavF ls k)), x, y, z]) ⟨⟨[], (List.append_nil _).symm⟩, _, _, _, rfl⟩ ?_ ?_
  · rintro k y e S' hy ⟨⟨T, rfl⟩, x, z, u, rfl⟩
    obtain ⟨hk, rfl⟩ := map_life hy
    unfold hvD
    repeat' (walk_at "pd1")
    all_goals first
      | omega
      | exact get_last _ _
      | (show (1 : Int) < 2; decide)
      | skip
    · refine ⟨⟨T ++ [lstI (thenL ls (lf ls k).1)], by rw [List.append_assoc]⟩, some (.int (lf ls k).1), some (tupI (lf ls k).2), some (.int (thenL ls (lf ls k).1).sum), ?_⟩
      rename_i hb
      have q : (heavF ls (k + 1)) = ((lf ls k).1, (thenL ls (lf ls k).1).sum) := if_pos (by simpa [cf] using hb)
      rw [q]
      rfl
    · refine ⟨⟨T ++ [lstI (thenL ls (lf ls k).1)], by rw [List.append_assoc]⟩, some (.int (lf ls k).1), some (tupI (lf ls k).2), some (.int (thenL ls (lf ls k).1).sum), ?_⟩
      rename_i hb
      have q : (heavF ls (k + 1)) = heavF ls k := if_neg (by simpa [cf] using hb)
      rw [q]
      rfl
  · rintro e S' ⟨⟨T, rfl⟩, x, z, u, rfl⟩
    rw [List.length_map]
    repeat' (walk_at "pd1")
    all_goals try (walk_at "ps")
    all_goals first
      | exact Ext.app _ _
      | skip
theorem u_heav {S : Store} {Q : DQ} {E : EQ} {n : Nat} {ls : List Life} (hn : S[n]? = some (blkO ls)) (hl : ls.length ≤ 1000) (q : Q (hvD (heavF ls ls.length)) S) : FnS p_Blocks__heaviest [.ref n] S Q E := ⟨_, ⟨n, ls, rfl, hn, hl, rfl⟩, q⟩
theorem len_Blocks__heaviest : ∀ ds S o, p_Blocks__heaviest ds S o → ds.length = 1 := by rintro _ S o ⟨n, ls, rfl, _⟩; rfl
theorem ok_Blocks__heaviest : ∀ ds S o, p_Blocks__heaviest ds S o → refsLts S.length ds = true → WfS S → okO S.length o = true := by rintro _ S o ⟨n, ls, rfl, _, _, rfl⟩ _ _; rfl
/-! ### the law's lives: a list -/
def lvO (ls : List Life) : SO := .lst (ls.map lifeD)
theorem n_ll {S : Store} {Q : DQ} {n : Nat} {ls : List Life} (hn : S[n]? = some (lvO ls)) (h : Q (.int ls.length) S) : wpBi S .len [.ref n] Q := by
  refine n_lg hn ?_
  rw [List.length_map]
  exact h
theorem g_ll {S : Store} {n : Nat} {ls : List Life} {K : List D → Prop} (hn : S[n]? = some (lvO ls)) (h : K (ls.map lifeD)) : onO (seqOf S (.ref n)) K := g_lg hn h
theorem i_ll {S : Store} {n : Nat} {ls : List Life} {b : Int} {Kk : D → Prop} (hn : S[n]? = some (lvO ls)) (h0 : 0 ≤ b) (h1 : b < ls.length) (h : Kk (lifeD (lf ls b))) : onO (ixD S (.ref n) (.int b)) Kk := i_lg hn (atI_life h0 h1) h
theorem t_ll {S : Store} {Q : DQ} {n : Nat} {ls : List Life} (hn : S[n]? = some (lvO ls)) (h : Q (livesD ls) S) : wpBi S .tuple [.ref n] Q := t_lg hn h
theorem still_ll {S : Store} {n : Nat} {ls : List Life} (hn : S[n]? = some (lvO ls)) : still (some (.ref n, ls.map lifeD)) S := still_seq (seq_ref hn)
local macro_rules | `(tactic| walk_at "pd1") => `(tactic| first | (((with_reducible refine t_ll (ls := ?ls) ?g0 ?_); (case g0 => walk_at "pg"))) | fail)
local macro_rules | `(tactic| walk_at "pd1") => `(tactic| first | (((with_reducible refine i_ll (ls := ?ls) ?g0 ?_ ?_ ?_); (case g0 => walk_at "pg"))) | fail)
local macro_rules | `(tactic| walk_at "pd1") => `(tactic| first | (((with_reducible refine g_ll (ls := ?ls) ?g0 ?_); (case g0 => walk_at "pg"))) | fail)
local macro_rules | `(tactic| walk_at "pd1") => `(tactic| first | (((with_reducible refine n_ll (ls := ?ls) ?g0 ?_); (case g0 => walk_at "pg"))) | fail)
/-! ### _law_length -/
def llen (l : Life) (m : Int) : Int := if m < l.1 ∨ m ≥ endL l then -1 else lenAt l m
def p__law_length : List D → Store → Out → Prop := fun ds S o => ∃ (l : Life) (m : Int), ds = [lifeD l, .int m] ∧ o = .val (.int (llen l m))
theorem vc__law_length (M : Md) : ∀ ds S o, p__law_length ds S o → wpSs (M.C (excO S o)) b__law_length (retO S o) (startD n__law_length ds) S := by
  rintro ds S o ⟨l, m, rfl, rfl⟩
  simp only [b__law_length, startD, List.map, List.length, List.replicate, Nat.reduceAdd, Nat.reduceSub, List.cons_append, List.nil_append]
  repeat' (walk_at "pd1")
  all_goals first
    | exact Ext.refl _
    | omega
    | (unfold llen endL; rw [if_pos (by omega)]; done)
    | (unfold llen endL; rw [if_neg (by omega)]; rfl)
    | skip
theorem u_llen {S : Store} {Q : DQ} {E : EQ} {l : Life} {m : Int} (q : Q (.int (llen l m)) S) : FnS p__law_length [lifeD l, .int m] S Q E := ⟨_, ⟨l, m, rfl, rfl⟩, q⟩
theorem len__law_length : ∀ ds S o, p__law_length ds S o → ds.length = 2 := by rintro _ S o ⟨l, m, rfl, _⟩; rfl
theorem ok__law_length : ∀ ds S o, p__law_length ds S o → refsLts S.length ds = true → WfS S → okO S.length o = true := by rintro _ S o ⟨l, m, rfl, rfl⟩ _ _; rfl
local macro_rules | `(tactic| walk_at "pd1") => `(tactic| first | (with_reducible refine u_llen ?_) | fail)
theorem llen_nn {l : Life} (h : LifeOk l) (m : Int) : (0 ≤ llen l m ∧ l.1 ≤ m ∧ m < endL l ∧ llen l m = lenAt l m) ∨ (llen l m = -1 ∧ ¬ (l.1 ≤ m ∧ m < endL l)) := by
  unfold llen
  by_cases z : m < l.1 ∨ m ≥ endL l
  · rw [if_pos z]; exact .inr ⟨rfl, by omega⟩
  · rw [if_neg z]; exact .inl ⟨h.nn (by omega) (by omega), by omega, by omega, rfl⟩
def Short (ls : List Life) : Prop := ∀ l ∈ ls, endL l ≤ 40
theorem Short.at {ls : List Life} (h : Short ls) {b : Int} (h0 : 0 ≤ b) (h1 : b < ls.length) : endL (lf ls b) ≤ 40 := h _ (lf_mem h0 h1)
/-! ### _law_meeting -/
def p__law_meeting : List D → Store → Out → Prop := fun ds S o => ∃ (n : Nat) (ls : List Life) (b c : Int), ds = [.ref n, .int b, .int c] ∧ S[n]? = some (lvO ls) ∧ LivesOk ls ∧ Short ls ∧ 0 ≤ b ∧ b < ls.length ∧ 0 ≤ c ∧ c < ls.length ∧ o = .val (.int (meetF ls b c))
theorem vc__law_meeting (M : Md) (h21 : M.sp 21 = FnS p__law_length) : ∀ ds S o, p__law_meeting ds S o → wpSs (M.C (excO S o)) b__law_meeting (retO S o) (startD n__law_meeting ds) S := by
  rintro ds S o ⟨n, ls, b, c, rfl, hn, hl, hsh, h1, h2, h3, h4, rfl⟩
  have okb := hl.at h1 h2
  have okc := hl.at h3 h4
  have sb := hsh.at h1 h2
  simp only [b__law_meeting, startD, List.map, List.length, List.replicate, Nat.reduceAdd, Nat.reduceSub, List.cons_append, List.nil_append]
  repeat' (walk_at "pd1")
  · exact Ext.refl _
  · unfold meetF; rw [if_pos (by omega)]
  · omega
  · omega
  · rename_i hb
    refine FR_ind (fun k e S' => S' = S ∧ (∃ x, e = [some (.ref n), some (.int b), some (.int c), x]) ∧ ∀ i : Nat, i < k → ¬ ((lf ls b).1 ≤ i ∧ i < endL (lf ls b) ∧ (lf ls c).1 ≤ i ∧ i < endL (lf ls c))) ⟨rfl, ⟨_, rfl⟩, by intro i hi; omega⟩ ?_ ?_
    · rintro k y e S' hy ⟨rfl, ⟨x, rfl⟩, hk⟩
      obtain ⟨hk1, rfl⟩ := rngL_get hy
      have e1 : (0 + (k : Int)) = (k : Int) := by omega
      rw [e1]
      have q1 := llen_nn okb k
      have q2 := llen_nn okc k
      repeat' (walk_at "pd1")
      all_goals first
        | omega
        | exact Ext.refl _
        | skip
      · obtain ⟨m1, m2⟩ := meetF_least (ls := ls) (b := b) (c := c) (by omega) (m := k) (by omega) (by omega) (by omega) (by omega)
        congr 1
        rcases Int.lt_or_eq_of_le m1 with z | z
        · have p1 := okb.p0
          exfalso
          refine hk (meetF ls b c).toNat (by omega) ?_
          omega
        · exact z.symm
      all_goals
        refine ⟨rfl, ⟨_, rfl⟩, ?_⟩
        intro i hi
        by_cases e : i = k
        · subst e; omega
        · exact hk i (by omega)
    · rintro e S' ⟨rfl, ⟨x, rfl⟩, hk⟩
      rw [rngL_len] at hk
      repeat' (walk_at "pd1")
      · exact Ext.refl _
      · rcases meetF_neg hl h1 h2 h3 h4 with z | z
        · rw [z]
        · obtain ⟨_, m1, m2, m3, m4⟩ := meetF_in hl h1 h2 h3 h4 (by omega)
          exfalso
          refine hk (meetF ls b c).toNat (by omega) ?_
          omega
theorem u_lmeet {S : Store} {Q : DQ} {E : EQ} {n : Nat} {ls : List Life} {b c : Int} (hn : S[n]? = some (lvO ls)) (hl : LivesOk ls) (hs : Short ls) (h0 : 0 ≤ b) (h1 : b < ls.length) (h2 : 0 ≤ c) (h3 : c < ls.length) (q : Q (.int (meetF ls b c)) S) : FnS p__law_meeting [.ref n, .int b, .int c] S Q E := ⟨_, ⟨n, ls, b, c, rfl, hn, hl, hs, h0, h1, h2, h3, rfl⟩, q⟩
theorem len__law_meeting : ∀ ds S o, p__law_meeting ds S o → ds.length = 3 := by rintro _ S o ⟨n, ls, b, c, rfl, _⟩; rfl
theorem ok__law_meeting : ∀ ds S o, p__law_meeting ds S o → refsLts S.length ds = true → WfS S → okO S.length o = true := by rintro _ S o ⟨n, ls, b, c, rfl, _, _, _, _, _, _, _, rfl⟩ _ _; rfl
local macro_rules | `(tactic| walk_at "pd1") => `(tactic| first | (((with_reducible refine u_lmeet (ls := ?ls) ?g0 ?_ ?_ ?_ ?_ ?_ ?_ ?_); (case g0 => walk_at "pg"))) | fail)
/-! ### _law_apart -/
def MomOk (ls : List Life) (ss : List Int) (m : Int) (b c : Nat) : Prop := ¬ (0 ≤ llen (lf ls b) m ∧ 0 ≤ llen (lf ls c) m ∧ cf ss b + llen (lf ls b) m > cf ss c ∧ cf ss c + llen (lf ls c) m > cf ss b)
def MomAll (ls : List Life) (ss : List Int) (m : Int) : Prop := ∀ b c : Nat, c < b → b < ls.length → MomOk ls ss m b c
def p__law_apart : List D → Store → Out → Prop := fun ds S o => ∃ (n k : Nat) (ls : List Life) (ss : List Int) (m : Int) (r : Bool), ds = [.ref n, .ref k, .int m] ∧ S[n]? = some (lvO ls) ∧ S[k]? = some (lstI ss) ∧ ls.length ≤ 1000 ∧ ss.length = ls.length ∧ (r = true ↔ MomAll ls ss m) ∧ o = .val (.bl r)
theorem vc__law_apart (M : Md) (h21 : M.sp 21 = FnS p__law_length) : ∀ ds S o, p__law_apart ds S o → wpSs (M.C (excO S o)) b__law_apart (retO S o) (startD n__law_apart ds) S := by
  rintro ds S o ⟨n, kk, ls, ss, m, r, rfl, hn, hs, hl, hsl, hr, rfl⟩
  simp only [b__law_apart, startD, List.map, List.length, List.replicate, Nat.reduceAdd, Nat.reduceSub, List.cons_append, List.nil_append]
  repeat' (walk_at "pd1")
  all_goals try (walk_at "ps")
  refine FR_ind (fun k e S' => S' = S ∧ (∃ x y z u, e = [some (.ref n), some (.ref kk), some (.int m), x, y, z, u]) ∧ ∀ b c : Nat, c < b → b < k → MomOk ls ss m b c) ⟨rfl, ⟨_, _, _, _, rfl⟩, by intro b c h1 h2; omega⟩ ?_ ?_
  · rintro k y e S' hy ⟨rfl, ⟨x, z, u, v, rfl⟩, hk⟩
    obtain ⟨hk1, rfl⟩ := rngL_get hy
    have e1 : (0 + (k : Int)) = (k : Int) := by omega
    rw [e1]
    have hk2 : k < ls.length := by omega
    repeat' (walk_at "pd1")
    all_goals try (walk_at "ps")
    refine FR_ind (fun j e S'' => S'' = S' ∧ (∃ y z u, e = [some (.ref n), some (.ref kk), some (.int m), some (.int k), y, z, u]) ∧ ∀ c : Nat, c < j → MomOk ls ss m k c) ⟨rfl, ⟨_, _, _, rfl⟩, by intro c h1; omega⟩ ?_ ?_
    · rintro j w e S'' hw ⟨rfl, ⟨x, z, u, rfl⟩, hj⟩
      obtain ⟨hj1, rfl⟩ := rngL_get hw
      have e2 : (0 + (j : Int)) = (j : Int) := by omega
      rw [e2]
      have hj2 : j < k := by omega
      repeat' (walk_at "pd1")
      all_goals first
        | omega
        | exact Ext.refl _
        | skip
      · simp only [Int.toNat_natCast] at *
        cases r with
        | false => rfl
        | true =>
          exfalso
          refine hr.1 rfl k j hj2 hk2 ?_
          omega
      all_goals
        simp only [Int.toNat_natCast] at *
        refine ⟨by first | rfl | trivial, ⟨_, _, _, rfl⟩, ?_⟩
        intro c hc
        by_cases e : c = j
        · subst e
          unfold MomOk
          omega
        · exact hj c (by omega)
    · rintro e S'' ⟨rfl, ⟨x, z, u, rfl⟩, hj⟩
      rw [rngL_len] at hj
      repeat' (walk_at "pd1")
      refine ⟨rfl, ⟨_, _, _, _, rfl⟩, ?_⟩
      intro b c h1 h2
      by_cases e : b = k
      · subst e; exact hj c (by omega)
      · exact hk b c h1 (by omega)
  · rintro e S' ⟨rfl, ⟨x, z, u, v, rfl⟩, hk⟩
    rw [rngL_len, Int.toNat_natCast] at hk
    repeat' (walk_at "pd1")
    all_goals first
      | exact Ext.refl _
      | (rw [hr.2 hk]; done)
      | skip
theorem u_lapart {S : Store} {Q : DQ} {E : EQ} {n k : Nat} {ls : List Life} {ss : List Int} {m : Int} {r : Bool} (hn : S[n]? = some (lvO ls)) (hk : S[k]? = some (lstI ss)) (hl : ls.length ≤ 1000) (hs : ss.length = ls.length) (hr : r = true ↔ MomAll ls ss m) (q : Q (.bl r) S) : FnS p__law_apart [.ref n, .ref k, .int m] S Q E := ⟨_, ⟨n, k, ls, ss, m, r, rfl, hn, hk, hl, hs, hr, rfl⟩, q⟩
theorem len__law_apart : ∀ ds S o, p__law_apart ds S o → ds.length = 3 := by rintro _ S o ⟨n, k, ls, ss, m, r, rfl, _⟩; rfl
theorem ok__law_apart : ∀ ds S o, p__law_apart ds S o → refsLts S.length ds = true → WfS S → okO S.length o = true := by rintro _ S o ⟨n, k, ls, ss, m, r, rfl, _, _, _, _, _, rfl⟩ _ _; rfl
/-! ### _law_placed -/
theorem placed_mom {ls : List Life} (hl : LivesOk ls) (hs : Short ls) (ss : List Int) : Placed ls ss ↔ ∀ i : Nat, i < 40 → MomAll ls ss i := by
  constructor
  · intro z i _ b c h1 h2
    have q1 := llen_nn (hl.at (b := (b : Int)) (by omega) (by omega)) i
    have q2 := llen_nn (hl.at (b := (c : Int)) (by omega) (by omega)) i
    rintro ⟨h3, h4, h5, h6⟩
    have := z c b h1 h2 i (by omega) (by omega) (by omega) (by omega)
    rw [apartB_iff] at this
    omega
  · intro z b c h1 h2 m h3 h4 h5 h6
    have p1 := (hl.at (b := (b : Int)) (by omega) (by omega)).p0
    have p2 := hs.at (b := (b : Int)) (by omega) (by omega)
    have q1 := llen_nn (hl.at (b := (b : Int)) (by omega) (by omega)) m
    have q2 := llen_nn (hl.at (b := (c : Int)) (by omega) (by omega)) m
    have := z m.toNat (by omega) c b h1 h2
    rw [show ((m.toNat : Nat) : Int) = m by omega] at this
    unfold MomOk at this
    rw [apartB_iff]
    omega
def p__law_placed : List D → Store → Out → Prop := fun ds S o => ∃ (n k : Nat) (ls : List Life) (ss : List Int) (r : Bool), ds = [.ref n, .ref k] ∧ S[n]? = some (lvO ls) ∧ S[k]? = some (lstI ss) ∧ LivesOk ls ∧ Short ls ∧ ls.length ≤ 1000 ∧ ss.length = ls.length ∧ (r = true ↔ Placed ls ss) ∧ o = .val (.bl r)
theorem vc__law_placed (M : Md) (h23 : M.sp 23 = FnS p__law_apart) : ∀ ds S o, p__law_placed ds S o → wpSs (M.C (excO S o)) b__law_placed (retO S o) (startD n__law_placed ds) S := by
  rintro ds S o ⟨n, kk, ls, ss, r, rfl, hn, hs, hok, hsh, hl, hsl, hr, rfl⟩
  rw [placed_mom hok hsh] at hr
  simp only [b__law_placed, startD, List.map, List.length, List.replicate, Nat.reduceAdd, Nat.reduceSub, List.cons_append, List.nil_append]
  repeat' (walk_at "pd1")
  all_goals try (walk_at "ps")
  refine FR_ind (fun k e S' => S' = S ∧ (∃ x, e = [some (.ref n), some (.ref kk), x]) ∧ ∀ i : Nat, i < k → MomAll ls ss i) ⟨rfl, ⟨_, rfl⟩, by intro i h; omega⟩ ?_ ?_
  · rintro k y e S' hy ⟨rfl, ⟨x, rfl⟩, hk⟩
    obtain ⟨hk1, rfl⟩ := rngL_get hy
    have e1 : (0 + (k : Int)) = (k : Int) := by omega
    rw [e1]
    repeat' (walk_at "pd1")
    have q : ∃ r2 : Bool, r2 = true ↔ MomAll ls ss k := ⟨@decide _ (Classical.propDecidable _), @decide_eq_true_iff _ (Classical.propDecidable _)⟩
    obtain ⟨r2, hr2⟩ := q
    refine u_lapart hn hs hl hsl hr2 ?_
    repeat' (walk_at "pd1")
    all_goals first
      | exact Ext.refl _
      | skip
    · rename_i hb
      cases r with
      | false => rfl
      | true =>
        have := hr2.2 (hr.1 rfl k (by omega))
        rw [this] at hb
        cases hb
    · rename_i hb
      refine ⟨rfl, ⟨_, rfl⟩, ?_⟩
      intro i hi
      by_cases e : i = k
      · subst e; exact hr2.1 hb
      · exact hk i (by omega)
  · rintro e S' ⟨rfl, ⟨x, rfl⟩, hk⟩
    rw [rngL_len] at hk
    repeat' (walk_at "pd1")
    all_goals first
      | exact Ext.refl _
      | (rw [hr.2 hk]; done)
      | skip
theorem u_lplaced {S : Store} {Q : DQ} {E : EQ} {n k : Nat} {ls : List Life} {ss : List Int} {r : Bool} (hn : S[n]? = some (lvO ls)) (hk : S[k]? = some (lstI ss)) (h1 : LivesOk ls) (h2 : Short ls) (hl : ls.length ≤ 1000) (hs : ss.length = ls.length) (hr : r = true ↔ Placed ls ss) (q : Q (.bl r) S) : FnS p__law_placed [.ref n, .ref k] S Q E := ⟨_, ⟨n, k, ls, ss, r, rfl, hn, hk, h1, h2, hl, hs, hr, rfl⟩, q⟩
theorem len__law_placed : ∀ ds S o, p__law_placed ds S o → ds.length = 2 := by rintro _ S o ⟨n, k, ls, ss, r, rfl, _⟩; rfl
theorem ok__law_placed : ∀ ds S o, p__law_placed ds S o → refsLts S.length ds = true → WfS S → okO S.length o = true := by rintro _ S o ⟨n, k, ls, ss, r, rfl, _, _, _, _, _, _, _, rfl⟩ _ _; rfl


end
section
set_option Elab.async false
set_option linter.all false
set_option maxRecDepth 100000
set_option maxHeartbeats 8000000
open PySem

local macro_rules | `(tactic| walk_at "pd1") => `(tactic| first | (((with_reducible refine u_w_l (xs := ?xs) ?g0 ?_); (case g0 => walk_at "pg"))) | fail)
local macro_rules | `(tactic| walk_at "pd1") => `(tactic| first | (with_reducible refine u_w_u ?_) | fail)
local macro_rules | `(tactic| walk_at "pd1") => `(tactic| first | (with_reducible refine u_w_t ?_) | fail)
local macro_rules | `(tactic| walk_at "pd1") => `(tactic| first | (with_reducible refine u_w_n ?_) | fail)
local macro_rules | `(tactic| walk_at "pd1") => `(tactic| first | (with_reducible refine u_w_s ?_) | fail)
local macro_rules | `(tactic| walk_at "pd1") => `(tactic| first | (with_reducible refine u_w_b ?_) | fail)
local macro_rules | `(tactic| walk_at "pd1") => `(tactic| first | (with_reducible refine u_w_i ?_) | fail)
local macro_rules | `(tactic| walk_at "pd1") => `(tactic| first | (((with_reducible refine u_law_pick (l := ?l) ?g0 ?_ ?_ ?_ ?_); (case g0 => walk_at "pg"))) | fail)

local macro_rules | `(tactic| walk_at "pd1") => `(tactic| first | (with_reducible refine u_llen ?_) | fail)
local macro_rules | `(tactic| walk_at "pd1") => `(tactic| first | (((with_reducible refine t_ll (ls := ?ls) ?g0 ?_); (case g0 => walk_at "pg"))) | fail)
local macro_rules | `(tactic| walk_at "pd1") => `(tactic| first | (((with_reducible refine i_ll (ls := ?ls) ?g0 ?_ ?_ ?_); (case g0 => walk_at "pg"))) | fail)
local macro_rules | `(tactic| walk_at "pd1") => `(tactic| first | (((with_reducible refine g_ll (ls := ?ls) ?g0 ?_); (case g0 => walk_at "pg"))) | fail)
local macro_rules | `(tactic| walk_at "pd1") => `(tactic| first | (((with_reducible refine n_ll (ls := ?ls) ?g0 ?_); (case g0 => walk_at "pg"))) | fail)
local macro_rules | `(tactic| walk_at "pd1") => `(tactic| first | (with_reducible refine u_apart ?_) | fail)
local macro_rules | `(tactic| walk_at "pd1") => `(tactic| first | (with_reducible refine u_meet ?_ ?_ ?_ ?_ ?_) | fail)
local macro_rules | `(tactic| walk_at "pd1") => `(tactic| first | (with_reducible refine u_ending ?_) | fail)
local macro_rules | `(tactic| walk_at "pd1") => `(tactic| first | (with_reducible refine g_lv ?_) | fail)
local macro_rules | `(tactic| walk_at "pd1") => `(tactic| first | (with_reducible refine n_lives ?_) | fail)
local macro_rules | `(tactic| walk_at "pd1") => `(tactic| first | (with_reducible refine i_life ?_ ?_ ?_) | fail)

/-! ### the greatest sum of lengths -/
def Best (P : Int → Prop) (W : Int → Int) (r : Int × Int) : Prop := P r.1 ∧ W r.1 = r.2 ∧ (∀ m, P m → W m ≤ r.2) ∧ ∀ m, P m → m < r.1 → W m < r.2
theorem Best.uniq {P : Int → Prop} {W : Int → Int} {r s : Int × Int} (h : Best P W r) (k : Best P W s) : r = s := by
  obtain ⟨a, b⟩ := r
  obtain ⟨c, d⟩ := s
  obtain ⟨h1, h2, h3, h4⟩ := h
  obtain ⟨k1, k2, k3, k4⟩ := k
  dsimp only at *
  have e1 := h3 c k1
  have e2 := k3 a h1
  rcases Int.lt_trichotomy a c with z | z | z
  · have := k4 a h1 z; omega
  · subst z
    rw [show b = d by omega]
  · have := h4 c k1 z; omega
def bstN (W : Int → Int) (g : Nat → Option Int) : Nat → Int × Int
  | 0 => (0, -1)
  | k + 1 => match g k with
    | some m => if W m > (bstN W g k).2 then (m, W m) else bstN W g k
    | none => bstN W g k
theorem bst_best {W : Int → Int} {g : Nat → Option Int} (hW : ∀ m, 0 ≤ W m) : ∀ n, (∀ i j a b, i < j → j < n → g i = some a → g j = some b → a ≤ b) →
    ((∀ i, i < n → g i = none) ∧ bstN W g n = (0, -1)) ∨ Best (fun m => ∃ i, i < n ∧ g i = some m) W (bstN W g n)
  | 0, _ => .inl ⟨by intro i h; omega, rfl⟩
  | n + 1, hm => by
    have ih := bst_best hW n (fun i j a b h1 h2 => hm i j a b h1 (by omega))
    unfold bstN
    cases e : g n with
    | none =>
      dsimp only
      rcases ih with ⟨h1, h2⟩ | ⟨⟨i0, h0, h1⟩, h2, h3, h4⟩
      · refine .inl ⟨fun i hi => ?_, h2⟩
        by_cases q : i = n
        · rw [q]; exact e
        · exact h1 i (by omega)
      · refine .inr ⟨⟨i0, by omega, h1⟩, h2, ?_, ?_⟩
        · rintro m ⟨i, hi, hg⟩
          refine h3 m ⟨i, ?_, hg⟩
          rcases Nat.lt_or_ge i n with z | z
          · exact z
          · rw [show i = n by omega, e] at hg; cases hg
        · rintro m ⟨i, hi, hg⟩ hl
          refine h4 m ⟨i, ?_, hg⟩ hl
          rcases Nat.lt_or_ge i n with z | z
          · exact z
          · rw [show i = n by omega, e] at hg; cases hg
    | some m0 =>
      dsimp only
      rcases ih with ⟨h1, h2⟩ | ⟨⟨i0, h0, h1⟩, h2, h3, h4⟩
      · rw [h2, if_pos (by have := hW m0; dsimp only; omega)]
        have key : ∀ m, (∃ i, i < n + 1 ∧ g i = some m) → m = m0 := by
          rintro m ⟨i, hi, hg⟩
          by_cases q : i = n
          · rw [q, e] at hg; cases hg; rfl
          · rw [h1 i (by omega)] at hg; cases hg
        refine .inr ⟨⟨n, by omega, e⟩, rfl, ?_, ?_⟩
        · intro m hm2
          rw [key m hm2]
          exact Int.le_refl _
        · intro m hm2 hl
          rw [key m hm2] at hl
          dsimp only at hl
          omega
      · by_cases hc : W m0 > (bstN W g n).2
        · rw [if_pos hc]
          refine .inr ⟨⟨n, by omega, e⟩, rfl, ?_, ?_⟩
          · rintro m ⟨i, hi, hg⟩
            dsimp only
            by_cases q : i = n
            · rw [q, e] at hg; cases hg; exact Int.le_refl _
            · have := h3 m ⟨i, by omega, hg⟩
              omega
          · rintro m ⟨i, hi, hg⟩ hl
            dsimp only at hl ⊢
            by_cases q : i = n
            · rw [q, e] at hg; cases hg; omega
            · have := h3 m ⟨i, by omega, hg⟩
              omega
        · rw [if_neg hc]
          refine .inr ⟨⟨i0, by omega, h1⟩, h2, ?_, ?_⟩
          · rintro m ⟨i, hi, hg⟩
            by_cases q : i = n
            · rw [q, e] at hg; cases hg; omega
            · exact h3 m ⟨i, by omega, hg⟩
          · rintro m ⟨i, hi, hg⟩ hl
            by_cases q : i = n
            · rw [q, e] at hg; cases hg
              have := hm i0 n _ _ h0 (by omega) h1 e
              omega
            · exact h4 m ⟨i, by omega, hg⟩ hl
theorem then_cons (l : Life) (ls : List Life) (m : Int) : thenL (l :: ls) m = (if l.1 ≤ m ∧ m < endL l then [lenAt l m] else []) ++ thenL ls m := by
  unfold thenL
  rw [List.filterMap_cons]
  by_cases h : l.1 ≤ m ∧ m < endL l
  · rw [if_pos h, if_pos h]; rfl
  · rw [if_neg h, if_neg h]; rfl
theorem then_nn : ∀ {ls : List Life}, LivesOk ls → ∀ m, 0 ≤ (thenL ls m).sum
  | [], _, _ => Int.le_refl _
  | l :: ls, h, m => by
    have ih := then_nn (ls := ls) (fun x hx => h x (List.mem_cons_of_mem _ hx)) m
    rw [then_cons, List.sum_append]
    by_cases z : l.1 ≤ m ∧ m < endL l
    · rw [if_pos z]
      have := (h l (List.mem_cons_self ..)).nn z.1 z.2
      simp only [List.sum_cons, List.sum_nil]
      omega
    · rw [if_neg z]
      simp only [List.sum_nil]
      omega
theorem then_le {a b : Int} : ∀ {ls : List Life}, LivesOk ls → (∀ l ∈ ls, l.1 ≤ a ∧ a < endL l → l.1 ≤ b ∧ b < endL l ∧ lenAt l a ≤ lenAt l b) → (thenL ls a).sum ≤ (thenL ls b).sum
  | [], _, _ => Int.le_refl _
  | l :: ls, h, hr => by
    have ih := then_le (ls := ls) (fun x hx => h x (List.mem_cons_of_mem _ hx)) (fun x hx => hr x (List.mem_cons_of_mem _ hx))
    have hl := hr l (List.mem_cons_self ..)
    rw [then_cons, then_cons, List.sum_append, List.sum_append]
    by_cases z : l.1 ≤ a ∧ a < endL l
    · obtain ⟨h1, h2, h3⟩ := hl z
      rw [if_pos z, if_pos ⟨h1, h2⟩]
      simp only [List.sum_cons, List.sum_nil]
      omega
    · rw [if_neg z]
      by_cases y : l.1 ≤ b ∧ b < endL l
      · rw [if_pos y]
        have := (h l (List.mem_cons_self ..)).nn y.1 y.2
        simp only [List.sum_cons, List.sum_nil]
        omega
      · rw [if_neg y]
        simp only [List.sum_nil]
        omega
theorem then_ne {ls : List Life} {m : Int} : thenL ls m ≠ [] ↔ ∃ l ∈ ls, l.1 ≤ m ∧ m < endL l := by
  induction ls with
  | nil => simp [thenL]
  | cons l ls ih =>
    rw [then_cons]
    by_cases z : l.1 ≤ m ∧ m < endL l
    · rw [if_pos z]
      refine ⟨fun _ => ⟨l, List.mem_cons_self .., z⟩, fun _ => by simp⟩
    · rw [if_neg z, List.nil_append, ih]
      constructor
      · rintro ⟨x, hx, h⟩
        exact ⟨x, List.mem_cons_of_mem _ hx, h⟩
      · rintro ⟨x, hx, h⟩
        rcases List.mem_cons.1 hx with rfl | hx
        · exact absurd h z
        · exact ⟨x, hx, h⟩
theorem latest (m : Int) : ∀ ls : List Life, (∃ l ∈ ls, l.1 ≤ m) → ∃ l ∈ ls, l.1 ≤ m ∧ ∀ l2 ∈ ls, l2.1 ≤ m → l2.1 ≤ l.1
  | [], ⟨_, h, _⟩ => by cases h
  | x :: ls, h => by
    by_cases q : ∃ l ∈ ls, l.1 ≤ m
    · obtain ⟨l, h1, h2, h3⟩ := latest m ls q
      by_cases z : x.1 ≤ m ∧ l.1 ≤ x.1
      · refine ⟨x, List.mem_cons_self .., z.1, ?_⟩
        intro l2 hl hm
        rcases List.mem_cons.1 hl with rfl | hl
        · exact Int.le_refl _
        · have := h3 l2 hl hm; omega
      · refine ⟨l, List.mem_cons_of_mem _ h1, h2, ?_⟩
        intro l2 hl hm
        rcases List.mem_cons.1 hl with rfl | hl
        · omega
        · exact h3 l2 hl hm
    · obtain ⟨l, h1, h2⟩ := h
      rcases List.mem_cons.1 h1 with rfl | h1
      · refine ⟨l, List.mem_cons_self .., h2, ?_⟩
        intro l2 hl hm
        rcases List.mem_cons.1 hl with rfl | hl
        · exact Int.le_refl _
        · exact absurd ⟨l2, hl, hm⟩ q
      · exact absurd ⟨l, h1, h2⟩ q
def Sorted (ls : List Life) : Prop := ∀ k : Nat, k + 1 < ls.length → (lf ls k).1 ≤ (lf ls (k + 1 : Nat)).1
theorem Sorted.le {ls : List Life} (h : Sorted ls) : ∀ (d i : Nat), i + d < ls.length → (lf ls i).1 ≤ (lf ls (i + d : Nat)).1
  | 0, _, _ => Int.le_refl _
  | d + 1, i, hl => by
    have h1 := h (i + d) hl
    have h2 := Sorted.le h d i (by omega)
    rw [show i + (d + 1) = i + d + 1 by omega]
    omega
def lawG (ls : List Life) : Nat → Int × Int
  | 0 => (0, -1)
  | k + 1 => if thenL ls k ≠ [] ∧ (thenL ls k).sum > (lawG ls k).2 then ((k : Int), (thenL ls k).sum) else lawG ls k
theorem heav_bst (ls : List Life) : ∀ k, heavF ls k = bstN (fun m => (thenL ls m).sum) (fun i => some (lf ls i).1) k
  | 0 => rfl
  | k + 1 => by
    unfold heavF bstN
    dsimp only
    rw [heav_bst ls k]
theorem lawG_bst (ls : List Life) : ∀ k, lawG ls k = bstN (fun m => (thenL ls m).sum) (fun i => if thenL ls i ≠ [] then some (i : Int) else none) k
  | 0 => rfl
  | k + 1 => by
    unfold lawG bstN
    rw [lawG_bst ls k]
    by_cases h : thenL ls k ≠ []
    · rw [if_pos h]
      dsimp only
      by_cases h2 : (thenL ls k).sum > (bstN (fun m => (thenL ls m).sum) (fun i => if thenL ls i ≠ [] then some (i : Int) else none) k).2
      · rw [if_pos h2, if_pos ⟨h, h2⟩]
      · rw [if_neg h2, if_neg (fun z => h2 z.2)]
    · rw [if_neg h, if_neg (fun z => h z.1)]
theorem heav_same {ls : List Life} (hl : LivesOk ls) (hs : Short ls) (ho : Sorted ls) (h0 : 0 < ls.length) : heavF ls ls.length = lawG ls 40 := by
  rw [heav_bst, lawG_bst]
  have nn := fun m => then_nn hl m
  have a := bst_best (W := fun m => (thenL ls m).sum) (g := fun i => some (lf ls i).1) nn ls.length (fun i j a b h1 h2 h3 h4 => by
    cases h3; cases h4
    have := ho.le (j - i) i (by omega)
    rwa [show i + (j - i) = j by omega] at this)
  have b := bst_best (W := fun m => (thenL ls m).sum) (g := fun i => if thenL ls i ≠ [] then some (i : Int) else none) nn 40 (fun i j a b h1 h2 h3 h4 => by
    try dsimp only at h3 h4
    split at h3
    · split at h4
      · cases h3; cases h4; omega
      · cases h4
    · cases h3)
  have self : ∀ l ∈ ls, thenL ls l.1 ≠ [] := fun l hm => then_ne.2 ⟨l, hm, Int.le_refl _, by
    have := (hl l hm).ne
    have := len_pos this
    unfold endL
    omega⟩
  have m0 := lf_mem (ls := ls) (b := ((0 : Nat) : Int)) (by omega) (by omega)
  rcases a with ⟨h1, _⟩ | a
  · have := h1 0 h0
    cases this
  rcases b with ⟨h1, _⟩ | b
  · have z1 := self _ m0
    have z2 := (hl _ m0).p0
    have z3 := hs _ m0
    have z4 := len_pos (hl _ m0).ne
    have := h1 (lf ls ((0 : Nat) : Int)).1.toNat (by unfold endL at z3; omega)
    try dsimp only at this
    rw [show (((lf ls ((0 : Nat) : Int)).1.toNat : Nat) : Int) = (lf ls ((0 : Nat) : Int)).1 by omega, if_pos z1] at this
    cases this
  have mem : ∀ m : Int, (∃ i : Nat, i < 40 ∧ (if thenL ls i ≠ [] then some (i : Int) else none) = some m) ↔ (0 ≤ m ∧ m < 40 ∧ thenL ls m ≠ []) := by
    intro m
    constructor
    · rintro ⟨i, hi, hg⟩
      split at hg
      · rename_i z
        cases hg
        exact ⟨by omega, by omega, z⟩
      · cases hg
    · rintro ⟨h1, h2, h3⟩
      refine ⟨m.toNat, by omega, ?_⟩
      rw [show ((m.toNat : Nat) : Int) = m by omega, if_pos h3]
  refine Best.uniq (P := fun m => 0 ≤ m ∧ m < 40 ∧ thenL ls m ≠ []) (W := fun m => (thenL ls m).sum) ?_ ?_
  · obtain ⟨⟨i, hi, hg⟩, a2, a3, a4⟩ := a
    have hm : lf ls i ∈ ls := lf_mem (by omega) (by omega)
    have dom : ∀ m, thenL ls m ≠ [] → ∃ k : Nat, k < ls.length ∧ (lf ls k).1 ≤ m ∧ (thenL ls m).sum ≤ (thenL ls (lf ls k).1).sum := by
      intro m hm
      obtain ⟨l0, h1, h2, _⟩ := then_ne.1 hm
      obtain ⟨l, h3, h4, h5⟩ := latest m ls ⟨l0, h1, h2⟩
      obtain ⟨k, hk⟩ := List.getElem?_of_mem h3
      have hk2 : k < ls.length := by
        rcases Nat.lt_or_ge k ls.length with z | z
        · exact z
        · rw [List.getElem?_eq_none z] at hk; cases hk
      rw [lf_get hk2] at hk
      cases hk
      refine ⟨k, hk2, h4, then_le hl ?_⟩
      intro l2 hl2 ⟨g1, g2⟩
      have g3 := h5 l2 hl2 g1
      exact ⟨g3, by omega, (hl l2 hl2).mono g3 h4 g2⟩
    refine ⟨?_, a2, ?_, ?_⟩
    · have e2 : (lf ls i).1 = (bstN (fun m => (thenL ls m).sum) (fun i => some (lf ls i).1) ls.length).1 := Option.some.inj hg
      have z3 := hs _ hm
      have z4 := len_pos (hl _ hm).ne
      unfold endL at z3
      have z5 := (hl _ hm).p0
      have z6 := self _ hm
      rw [← e2]
      exact ⟨z5, by omega, z6⟩
    · rintro m ⟨h1, h2, h3⟩
      obtain ⟨k, k1, k2, k3⟩ := dom m h3
      have := a3 _ ⟨k, k1, rfl⟩
      dsimp only at this ⊢
      omega
    · rintro m ⟨h1, h2, h3⟩ hl
      obtain ⟨k, k1, k2, k3⟩ := dom m h3
      have := a4 _ ⟨k, k1, rfl⟩ (by omega)
      dsimp only at this ⊢
      omega
  · obtain ⟨b1, b2, b3, b4⟩ := b
    exact ⟨(mem _).1 b1, b2, fun m h => b3 m ((mem m).2 h), fun m h => b4 m ((mem m).2 h)⟩


end
section
set_option Elab.async false
set_option linter.all false
set_option maxRecDepth 100000
set_option maxHeartbeats 8000000
open PySem

local macro_rules | `(tactic| walk_at "pd1") => `(tactic| first | (((with_reducible refine u_w_l (xs := ?xs) ?g0 ?_); (case g0 => walk_at "pg"))) | fail)
local macro_rules | `(tactic| walk_at "pd1") => `(tactic| first | (with_reducible refine u_w_u ?_) | fail)
local macro_rules | `(tactic| walk_at "pd1") => `(tactic| first | (with_reducible refine u_w_t ?_) | fail)
local macro_rules | `(tactic| walk_at "pd1") => `(tactic| first | (with_reducible refine u_w_n ?_) | fail)
local macro_rules | `(tactic| walk_at "pd1") => `(tactic| first | (with_reducible refine u_w_s ?_) | fail)
local macro_rules | `(tactic| walk_at "pd1") => `(tactic| first | (with_reducible refine u_w_b ?_) | fail)
local macro_rules | `(tactic| walk_at "pd1") => `(tactic| first | (with_reducible refine u_w_i ?_) | fail)
local macro_rules | `(tactic| walk_at "pd1") => `(tactic| first | (((with_reducible refine u_law_pick (l := ?l) ?g0 ?_ ?_ ?_ ?_); (case g0 => walk_at "pg"))) | fail)

local macro_rules | `(tactic| walk_at "pd1") => `(tactic| first | (with_reducible refine u_llen ?_) | fail)
local macro_rules | `(tactic| walk_at "pd1") => `(tactic| first | (((with_reducible refine t_ll (ls := ?ls) ?g0 ?_); (case g0 => walk_at "pg"))) | fail)
local macro_rules | `(tactic| walk_at "pd1") => `(tactic| first | (((with_reducible refine i_ll (ls := ?ls) ?g0 ?_ ?_ ?_); (case g0 => walk_at "pg"))) | fail)
local macro_rules | `(tactic| walk_at "pd1") => `(tactic| first | (((with_reducible refine g_ll (ls := ?ls) ?g0 ?_); (case g0 => walk_at "pg"))) | fail)
local macro_rules | `(tactic| walk_at "pd1") => `(tactic| first | (((with_reducible refine n_ll (ls := ?ls) ?g0 ?_); (case g0 => walk_at "pg"))) | fail)
local macro_rules | `(tactic| walk_at "pd1") => `(tactic| first | (with_reducible refine u_apart ?_) | fail)
local macro_rules | `(tactic| walk_at "pd1") => `(tactic| first | (with_reducible refine u_meet ?_ ?_ ?_ ?_ ?_) | fail)
local macro_rules | `(tactic| walk_at "pd1") => `(tactic| first | (with_reducible refine u_ending ?_) | fail)
local macro_rules | `(tactic| walk_at "pd1") => `(tactic| first | (with_reducible refine g_lv ?_) | fail)
local macro_rules | `(tactic| walk_at "pd1") => `(tactic| first | (with_reducible refine n_lives ?_) | fail)
local macro_rules | `(tactic| walk_at "pd1") => `(tactic| first | (with_reducible refine i_life ?_ ?_ ?_) | fail)

/-! ### _law_heaviest -/
def p__law_heaviest : List D → Store → Out → Prop := fun ds S o => ∃ (n : Nat) (ls : List Life), ds = [.ref n] ∧ S[n]? = some (lvO ls) ∧ LivesOk ls ∧ o = .val (hvD (lawG ls 40))
theorem vc__law_heaviest (M : Md) (h21 : M.sp 21 = FnS p__law_length) : ∀ ds S o, p__law_heaviest ds S o → wpSs (M.C (excO S o)) b__law_heaviest (retO S o) (startD n__law_heaviest ds) S := by
  rintro ds S o ⟨n, ls, rfl, hn, hl, rfl⟩
  simp only [b__law_heaviest, startD, List.map, List.length, List.replicate, Nat.reduceAdd, Nat.reduceSub, List.cons_append, List.nil_append]
  repeat' (walk_at "pd1")
  all_goals try (walk_at "ps")
  refine FR_ind (fun k e S' => S' = S ∧ ∃ x y z u, e = [some (.ref n), some (hvD (lawG ls k)), x, y, z, u]) ⟨rfl, _, _, _, _, rfl⟩ ?_ ?_
  · rintro k y e S' hy ⟨rfl, x, z, u, v, rfl⟩
    obtain ⟨hk1, rfl⟩ := rngL_get hy
    have e1 : (0 + (k : Int)) = (k : Int) := by omega
    rw [e1]
    repeat' (walk_at "pd1")
    refine FR_ind (fun j e S'' => S'' = S' ∧ ∃ x, e = [some (.ref n), some (hvD (lawG ls k)), some (.int k), some (.int (thenL (ls.take j) k).sum), some (.bl (decide (thenL (ls.take j) k ≠ []))), x]) ⟨rfl, _, rfl⟩ ?_ ?_
    · rintro j w e S'' hw ⟨rfl, x, rfl⟩
      obtain ⟨hj, rfl⟩ := map_life hw
      have q := llen_nn (hl _ (lf_mem (ls := ls) (b := (j : Int)) (by omega) (by omega))) k
      repeat' (walk_at "pd1")
      all_goals first
        | omega
        | skip
      · rename_i hb
        refine ⟨rfl, some (lifeD (lf ls j)), ?_⟩
        rw [then_succ hj, if_pos (by omega)]
        rcases q with ⟨_, _, _, q⟩ | q
        · rw [q, List.sum_append]
          simp only [List.sum_cons, List.sum_nil, Int.add_zero, ne_eq, List.append_eq_nil_iff, List.cons_ne_nil, and_false, not_false_eq_true, decide_true]
          rfl
        · omega
      · rename_i hb
        refine ⟨rfl, some (lifeD (lf ls j)), ?_⟩
        rw [then_succ hj, if_neg (by omega), List.append_nil]
        rfl
    · rintro e S'' ⟨rfl, x, rfl⟩
      rw [List.length_map, List.take_length]
      unfold hvD
      repeat' (walk_at "pd1")
      all_goals first
        | (show (1 : Int) < 2; decide)
        | skip
      · decide
      · rename_i h1 h2
        refine ⟨rfl, some (.int k), some (.int (thenL ls k).sum), some (.bl (decide (thenL ls k ≠ []))), x, ?_⟩
        have q : lawG ls (k + 1) = ((k : Int), (thenL ls k).sum) := if_pos ⟨h1, by simpa [cf] using h2⟩
        rw [q]
        rfl
      · rename_i h1 h2
        refine ⟨rfl, some (.int k), some (.int (thenL ls k).sum), some (.bl (decide (thenL ls k ≠ []))), x, ?_⟩
        have q : lawG ls (k + 1) = lawG ls k := if_neg (fun z => h2 (by simpa [cf] using z.2))
        rw [q]
      · rename_i h1 _h2
        refine ⟨rfl, some (.int k), some (.int (thenL ls k).sum), some (.bl (decide (thenL ls k ≠ []))), x, ?_⟩
        have q : lawG ls (k + 1) = lawG ls k := if_neg (fun z => h1 z.1)
        rw [q]
  · rintro e S' ⟨rfl, x, z, u, v, rfl⟩
    rw [rngL_len]
    repeat' (walk_at "pd1")
    all_goals first
      | exact Ext.refl _
      | rfl
      | skip
theorem u_lheav {S : Store} {Q : DQ} {E : EQ} {n : Nat} {ls : List Life} (hn : S[n]? = some (lvO ls)) (hl : LivesOk ls) (q : Q (hvD (lawG ls 40)) S) : FnS p__law_heaviest [.ref n] S Q E := ⟨_, ⟨n, ls, rfl, hn, hl, rfl⟩, q⟩
theorem len__law_heaviest : ∀ ds S o, p__law_heaviest ds S o → ds.length = 1 := by rintro _ S o ⟨n, ls, rfl, _⟩; rfl
theorem ok__law_heaviest : ∀ ds S o, p__law_heaviest ds S o → refsLts S.length ds = true → WfS S → okO S.length o = true := by rintro _ S o ⟨n, ls, rfl, _, _, rfl⟩ _ _; rfl
/-! ### _law_end -/
def endG (ls : List Life) (ss : List Int) : Nat → Int
  | 0 => 0
  | k + 1 => max (endG ls ss k) (cf ss k + cf (lf ls k).2 0)
def p__law_end : List D → Store → Out → Prop := fun ds S o => ∃ (n k : Nat) (ls : List Life) (ss : List Int), ds = [.ref n, .ref k] ∧ S[n]? = some (lvO ls) ∧ S[k]? = some (lstI ss) ∧ LivesOk ls ∧ ls.length ≤ 1000 ∧ ss.length = ls.length ∧ o = .val (.int (endG ls ss ls.length))
theorem vc__law_end (M : Md) : ∀ ds S o, p__law_end ds S o → wpSs (M.C (excO S o)) b__law_end (retO S o) (startD n__law_end ds) S := by
  rintro ds S o ⟨n, kk, ls, ss, rfl, hn, hs, hok, hl, hsl, rfl⟩
  simp only [b__law_end, startD, List.map, List.length, List.replicate, Nat.reduceAdd, Nat.reduceSub, List.cons_append, List.nil_append]
  repeat' (walk_at "pd1")
  all_goals try (walk_at "ps")
  refine FR_ind (fun k e S' => S' = S ∧ ∃ x, e = [some (.ref n), some (.ref kk), some (.int (endG ls ss k)), x]) ⟨rfl, _, rfl⟩ ?_ ?_
  · rintro k y e S' hy ⟨rfl, x, rfl⟩
    obtain ⟨hk1, rfl⟩ := rngL_get hy
    have e1 : (0 + (k : Int)) = (k : Int) := by omega
    rw [e1]
    have hk2 : k < ls.length := by omega
    have hp := len_pos (hok.at (b := (k : Int)) (by omega) (by omega)).ne
    repeat' (walk_at "pd1")
    all_goals first
      | omega
      | exact ⟨rfl, _, rfl⟩
      | skip
  · rintro e S' ⟨rfl, x, rfl⟩
    rw [rngL_len, Int.toNat_natCast]
    repeat' (walk_at "pd1")
    all_goals first
      | exact Ext.refl _
      | rfl
      | skip
theorem u_lend {S : Store} {Q : DQ} {E : EQ} {n k : Nat} {ls : List Life} {ss : List Int} (hn : S[n]? = some (lvO ls)) (hk : S[k]? = some (lstI ss)) (h1 : LivesOk ls) (hl : ls.length ≤ 1000) (hs : ss.length = ls.length) (q : Q (.int (endG ls ss ls.length)) S) : FnS p__law_end [.ref n, .ref k] S Q E := ⟨_, ⟨n, k, ls, ss, rfl, hn, hk, h1, hl, hs, rfl⟩, q⟩
theorem len__law_end : ∀ ds S o, p__law_end ds S o → ds.length = 2 := by rintro _ S o ⟨n, k, ls, ss, rfl, _⟩; rfl
theorem ok__law_end : ∀ ds S o, p__law_end ds S o → refsLts S.length ds = true → WfS S → okO S.length o = true := by rintro _ S o ⟨n, k, ls, ss, rfl, _, _, _, _, _, rfl⟩ _ _; rfl
theorem endF_get {ls : List Life} {ss : List Int} {k : Nat} (h : k < ls.length) : cf ss k + cf (lf ls k).2 0 ∈ endF ls ss := List.mem_map.2 ⟨k, List.mem_range.2 h, rfl⟩
theorem endG_ge {ls : List Life} {ss : List Int} : ∀ k j : Nat, j < k → cf ss j + cf (lf ls j).2 0 ≤ endG ls ss k
  | 0, _, h => by omega
  | k + 1, j, h => by
    unfold endG
    by_cases e : j = k
    · subst e; omega
    · have := endG_ge k j (by omega) (ls := ls) (ss := ss); omega
theorem endG_in {ls : List Life} {ss : List Int} : ∀ k : Nat, endG ls ss k = 0 ∨ ∃ j : Nat, j < k ∧ endG ls ss k = cf ss j + cf (lf ls j).2 0
  | 0 => .inl rfl
  | k + 1 => by
    unfold endG
    rcases Int.le_total (endG ls ss k) (cf ss k + cf (lf ls k).2 0) with z | z
    · exact .inr ⟨k, by omega, by omega⟩
    · rcases endG_in k (ls := ls) (ss := ss) with h | ⟨j, h1, h2⟩
      · exact .inl (by omega)
      · exact .inr ⟨j, by omega, by omega⟩
theorem end_max {ls : List Life} {ss : List Int} (hl : LivesOk ls) (hs : ∀ s ∈ ss, 0 ≤ s) (hn : ss.length = ls.length) (h0 : 0 < ls.length) : maxL (endF ls ss) = some (endG ls ss ls.length) := by
  have hin : endG ls ss ls.length ∈ endF ls ss := by
    rcases endG_in (ls := ls) (ss := ss) ls.length with h | ⟨j, h1, h2⟩
    · have ok := hl.at (b := ((0 : Nat) : Int)) (by omega) (by omega)
      have e1 := (ok.fa 0 (len_pos ok.ne)).1
      have e2 := hs _ (cf_mem (l := ss) (k := 0) (by omega))
      have e3 := endG_ge (ls := ls) (ss := ss) ls.length 0 h0
      have e4 := endF_get (ss := ss) h0
      rwa [show cf ss 0 + cf (lf ls ((0 : Nat) : Int)).2 0 = endG ls ss ls.length by omega] at e4
    · rw [h2]
      exact endF_get h1
  have hle : ∀ y ∈ endF ls ss, y ≤ endG ls ss ls.length := by
    intro y hy
    obtain ⟨k, hk, rfl⟩ := List.mem_map.1 hy
    exact endG_ge _ _ (List.mem_range.1 hk)
  cases e : maxL (endF ls ss) with
  | none =>
    cases h : endF ls ss with
    | nil => rw [h] at hin; cases hin
    | cons x r => rw [h] at e; cases e
  | some m => rw [maxL_is e hin hle]


end
section
set_option Elab.async false
set_option linter.all false
set_option maxRecDepth 100000
set_option maxHeartbeats 8000000
open PySem

theorem seq_ext {S T : Store} {d : D} {xs : List D} (h : seqOf S d = some xs) : seqOf (S ++ T) d = some xs := by
  cases d with
  | ref n =>
    unfold seqOf at h ⊢
    dsimp only at h ⊢
    split at h
    · rename_i e
      rw [get_app e]
      exact h
    · cases h
  | _ => exact h
theorem ty_ext {S T : Store} {d : D} {a : String} (h : tyName S d = some a) : tyName (S ++ T) d = some a := by
  cases d with
  | ref n =>
    unfold tyName at h ⊢
    dsimp only at h ⊢
    split at h
    · rename_i e
      rw [seq_ext e]
      exact h
    · cases h
  | _ => exact h
theorem GoodLife.app {S T : Store} {t : D} {l : Life} (h : GoodLife S t l) : GoodLife (S ++ T) t l := by
  obtain ⟨a, x, h1, h2, h3, h4, h5⟩ := h
  exact ⟨a, x, ty_ext h1, h2, seq_ext h3, h4.app _, h5⟩
theorem BadLs.app {S T : Store} {x : D} (h : BadLs S x) : BadLs (S ++ T) x := by
  rcases h with ⟨a, h1, h2, h3⟩ | ⟨a, ys, h1, h2, h3, h4⟩
  · exact .inl ⟨a, ty_ext h1, h2, h3⟩
  · refine .inr ⟨a, ys, ty_ext h1, h2, seq_ext h3, ?_⟩
    rcases h4 with h4 | ⟨pre, y, post, h5, h6, b, h7, h8⟩
    · exact .inl h4
    · exact .inr ⟨pre, y, post, h5, h6, b, ty_ext h7, h8⟩
theorem BadLife.app {S T : Store} {t : D} (h : BadLife S t) : BadLife (S ++ T) t := by
  rcases h with ⟨a, h1, h2, h3⟩ | ⟨a, xs, h1, h2, h3, h4⟩
  · exact .inl ⟨a, ty_ext h1, h2, h3⟩
  · refine .inr ⟨a, xs, ty_ext h1, h2, seq_ext h3, ?_⟩
    rcases h4 with h4 | ⟨d, x, h5, ⟨b, h6, h7⟩ | h6 | ⟨i, h6, h7, h8⟩⟩
    · exact .inl h4
    · exact .inr ⟨d, x, h5, .inl ⟨b, ty_ext h6, h7⟩⟩
    · exact .inr ⟨d, x, h5, .inr (.inl h6)⟩
    · exact .inr ⟨d, x, h5, .inr (.inr ⟨i, h6, h7, h8.app⟩)⟩
theorem i_p0 {S : Store} {t a b : D} {Kk : D → Prop} (hs : seqOf S t = some [a, b]) (h : Kk a) : onO (ixD S t (.int 0)) Kk := i_sq hs rfl h
theorem i_p1 {S : Store} {t a b : D} {Kk : D → Prop} (hs : seqOf S t = some [a, b]) (h : Kk b) : onO (ixD S t (.int 1)) Kk := i_sq hs rfl h
theorem set_midL {α : Type} (l : List α) (a b o : α) : (l ++ [a] ++ [b]).set l.length o = l ++ [o] ++ [b] := by
  induction l with
  | nil => rfl
  | cons x l ih => exact congrArg (x :: ·) ih
theorem set_ins (S0 : Store) (a b o : SO) : (S0 ++ [a] ++ [b]).set S0.length o = S0 ++ [o] ++ [b] := set_midL S0 a b o

local macro_rules | `(tactic| walk_at "pd1") => `(tactic| first | (((with_reducible refine u_w_l (xs := ?xs) ?g0 ?_); (case g0 => walk_at "pg"))) | fail)
local macro_rules | `(tactic| walk_at "pd1") => `(tactic| first | (with_reducible refine u_w_u ?_) | fail)
local macro_rules | `(tactic| walk_at "pd1") => `(tactic| first | (with_reducible refine u_w_t ?_) | fail)
local macro_rules | `(tactic| walk_at "pd1") => `(tactic| first | (with_reducible refine u_w_n ?_) | fail)
local macro_rules | `(tactic| walk_at "pd1") => `(tactic| first | (with_reducible refine u_w_s ?_) | fail)
local macro_rules | `(tactic| walk_at "pd1") => `(tactic| first | (with_reducible refine u_w_b ?_) | fail)
local macro_rules | `(tactic| walk_at "pd1") => `(tactic| first | (with_reducible refine u_w_i ?_) | fail)
local macro_rules | `(tactic| walk_at "pd1") => `(tactic| first | (((with_reducible refine u_law_pick (l := ?l) ?g0 ?_ ?_ ?_ ?_); (case g0 => walk_at "pg"))) | fail)

local macro_rules | `(tactic| walk_at "pd1") => `(tactic| first | (((with_reducible refine i_p1 (a := ?a) (b := ?b) ?g0 ?_); (case g0 => walk_at "pg"))) | fail)
local macro_rules | `(tactic| walk_at "pd1") => `(tactic| first | (((with_reducible refine i_p0 (a := ?a) (b := ?b) ?g0 ?_); (case g0 => walk_at "pg"))) | fail)
local macro_rules | `(tactic| walk_at "pd1") => `(tactic| first | (with_reducible refine g_lv ?_) | fail)
local macro_rules | `(tactic| walk_at "pd1") => `(tactic| first | (with_reducible refine n_lives ?_) | fail)

theorem get_l2 (S : Store) (a b c : SO) : (S ++ [a] ++ [b])[(S ++ [c]).length]? = some b := by
  have e : (S ++ [c]).length = (S ++ [a]).length := by simp
  rw [e]
  exact get_last _ _
theorem get_l1 (S : Store) (a b : SO) : (S ++ [a] ++ [b])[S.length]? = some a := get_app (get_last S a)
/-! ### Blocks.__init__ -/
def earl (ls : List Life) : Nat → Int
  | 0 => 0
  | k + 1 => (lf ls k).1
def Pre (S : Store) (xs : List D) (ls : List Life) : Prop := xs.length = ls.length ∧ ∀ k : Nat, k < ls.length → ∃ t, xs[k]? = some t ∧ GoodLife S t (lf ls k)
def blkF (ls : List Life) : List (Str × D) := [("lives", livesD ls), ("many", .int ls.length)]
def p_init : List D → Store → IOut → Prop := fun ds S o => ∃ d a, ds = [d] ∧ tyName S d = some a ∧ ((a ≠ "tuple" ∧ a ≠ "list" ∧ o = .exc (ePlace 0)) ∨ ((a = "tuple" ∨ a = "list") ∧ ∃ xs, seqOf S d = some xs ∧
  ((xs = [] ∧ o = .exc (ePlace 0)) ∨ (∃ ls, Pre S xs ls ∧ 0 < ls.length ∧ ls.length ≤ 24 ∧ Sorted ls ∧ o = .ok (blkF ls)) ∨
   ∃ pre y post ls, xs = pre ++ y :: post ∧ Pre S pre ls ∧ ls.length ≤ 24 ∧ Sorted ls ∧ (BadLife S y ∨ ∃ l, GoodLife S y l ∧ (l.1 < earl ls ls.length ∨ ls.length = 24)) ∧ o = .exc (ePlace ls.length))))
theorem vi_init (M : Md) (h1 : M.sp 1 = FnS p_is_life) (hv : M.noA 3 "lives" = true) (hm : M.noA 3 "many" = true) : ∀ args S0 o, p_init args S0 o → wpSs (M.C (iniE S0 o)) b_Blocks____init__ (rets (iniQ S0 3 o)) (startD n_Blocks____init__ (.ref S0.length :: args)) (S0 ++ [.ins 3 []]) := by
  rintro args S o ⟨d, a, rfl, ht, (⟨q1, q2, rfl⟩ | ⟨q1, xs, hx, (⟨rfl, rfl⟩ | ⟨ls, hp, h0, h24, ho, rfl⟩ | ⟨pre, y, post, ls, rfl, hp, h24, ho, hb, rfl⟩)⟩)⟩
  · simp only [b_Blocks____init__, startD, List.map, List.length, List.replicate, Nat.reduceAdd, Nat.reduceSub, List.cons_append, List.nil_append]
    repeat' (walk_at "pd1")
    refine b_isi (isi_ty2 (k := false) (ty_ext ht) (by simp [q1, q2])) ?_
    repeat' (walk_at "pd1")
    exact ⟨rfl, Ext.app _ _, rfl⟩
  · simp only [b_Blocks____init__, startD, List.map, List.length, List.replicate, Nat.reduceAdd, Nat.reduceSub, List.cons_append, List.nil_append]
    repeat' (walk_at "pd1")
    refine b_isi (isi_ty2 (k := true) (ty_ext ht) (by rcases q1 with rfl | rfl <;> decide)) ?_
    repeat' (walk_at "pd1")
    refine n_seq (ty_ext ht) q1 (seq_ext hx) ?_
    repeat' (walk_at "pd1")
    all_goals first
      | (rename_i hb; exact absurd rfl hb)
      | exact ⟨rfl, Ext.app _ _, rfl⟩
      | skip
  · simp only [b_Blocks____init__, startD, List.map, List.length, List.replicate, Nat.reduceAdd, Nat.reduceSub, List.cons_append, List.nil_append]
    repeat' (walk_at "pd1")
    refine b_isi (isi_ty2 (k := true) (ty_ext ht) (by rcases q1 with rfl | rfl <;> decide)) ?_
    repeat' (walk_at "pd1")
    refine n_seq (ty_ext ht) q1 (seq_ext hx) ?_
    have hxl := hp.1
    repeat' (walk_at "pd1")
    all_goals first
      | (exfalso; omega)
      | skip
    all_goals try (refine g_seq (seq_ext (seq_ext hx)) ?_)
    repeat' (walk_at "pd1")
    refine ⟨still_seq (seq_ext (seq_ext hx)), ?_⟩
    refine FR_ind (fun k e S' => S' = S ++ [.ins 3 []] ++ [.lst ((ls.take k).map lifeD)] ∧ ∃ x z, e = [some (.ref S.length), some d, some (.ref (S ++ [SO.ins 3 []]).length), some (.int (earl ls k)), x, z]) ⟨rfl, _, _, rfl⟩ ?_ ?_
    · rintro k w e S' hw ⟨rfl, x, z, rfl⟩
      obtain ⟨t', ht', rfl⟩ := enumL_get' hw
      have hk : k < ls.length := by
        rcases Nat.lt_or_ge k ls.length with z | z
        · exact z
        · rw [List.getElem?_eq_none (by omega)] at ht'; cases ht'
      obtain ⟨t, ht2, hg⟩ := hp.2 k hk
      rw [ht2] at ht'
      cases ht'
      have hg' := (hg.app (T := [SO.ins 3 []])).app (T := [SO.lst ((ls.take k).map lifeD)])
      obtain ⟨a', x', g1, g2, g3, g4, g5⟩ := hg'
      have hge : earl ls k ≤ (lf ls k).1 := by
        cases k with
        | zero => exact g5.p0
        | succ k => exact ho k hk
      repeat' (walk_at "pd1")
      refine u_life ⟨a', x', g1, g2, g3, g4, g5⟩ ?_
      repeat' (walk_at "pd1")
      all_goals first
        | (exfalso; omega)
        | (rw [List.length_map, List.length_take]; omega)
        | skip
      refine ⟨still_seq (seq_ext (seq_ext hx)), ?_, some (.int ((0 + k : Nat) : Int)), some t', rfl⟩
      rw [take_lf hk, List.map_append]
      rfl
    · rintro e S' ⟨rfl, x, z, rfl⟩
      rw [enumL_len, hxl, List.take_length]
      repeat' (walk_at "pd1")
      rw [set_ins]
      repeat' (walk_at "pd1")
      refine n_lg (get_l2 _ _ _ _) ?_
      repeat' (walk_at "pd1")
      refine t_setf (get_l1 _ _ _) hm (by show (1 : Nat) < 1000; decide) ?_
      dsimp only
      rw [set_ins]
      repeat' (walk_at "pd1")
      refine ⟨rfl, ?_, blkF ls, rfl, ?_⟩
      · rw [List.append_assoc]
        exact Ext.app _ _
      · rw [List.length_map]
        exact get_l1 _ _ _
  · have hp1 := hp.1
    simp only [b_Blocks____init__, startD, List.map, List.length, List.replicate, Nat.reduceAdd, Nat.reduceSub, List.cons_append, List.nil_append]
    repeat' (walk_at "pd1")
    refine b_isi (isi_ty2 (k := true) (ty_ext ht) (by rcases q1 with rfl | rfl <;> decide)) ?_
    repeat' (walk_at "pd1")
    refine n_seq (ty_ext ht) q1 (seq_ext hx) ?_
    repeat' (walk_at "pd1")
    all_goals first
      | (exfalso; simp only [List.length_append, List.length_cons] at *; omega)
      | skip
    all_goals try (refine g_seq (seq_ext (seq_ext hx)) ?_)
    repeat' (walk_at "pd1")
    refine ⟨still_seq (seq_ext (seq_ext hx)), ?_⟩
    refine FR_ind (fun k e S' => k ≤ ls.length ∧ S' = S ++ [.ins 3 []] ++ [.lst ((ls.take k).map lifeD)] ∧ ∃ x z, e = [some (.ref S.length), some d, some (.ref (S ++ [SO.ins 3 []]).length), some (.int (earl ls k)), x, z]) ⟨Nat.zero_le _, rfl, _, _, rfl⟩ ?_ ?_
    · rintro k w e S' hw ⟨hkl, rfl, x, z, rfl⟩
      obtain ⟨t', ht', rfl⟩ := enumL_get' hw
      rcases app_get ht' with ⟨h5, h6⟩ | ⟨h5, rfl⟩ | h5
      · have hk : k < ls.length := by omega
        obtain ⟨t, ht2, hg⟩ := hp.2 k hk
        rw [ht2] at h6
        cases h6
        have hg' := (hg.app (T := [SO.ins 3 []])).app (T := [SO.lst ((ls.take k).map lifeD)])
        obtain ⟨a', x', g1, g2, g3, g4, g5⟩ := hg'
        have hge : earl ls k ≤ (lf ls k).1 := by
          cases k with
          | zero => exact g5.p0
          | succ k => exact ho k hk
        repeat' (walk_at "pd1")
        refine u_life ⟨a', x', g1, g2, g3, g4, g5⟩ ?_
        repeat' (walk_at "pd1")
        all_goals first
          | (exfalso; omega)
          | (rw [List.length_map, List.length_take]; omega)
          | skip
        refine ⟨still_seq (seq_ext (seq_ext hx)), by omega, ?_, some (.int ((0 + k : Nat) : Int)), some t', rfl⟩
        rw [take_lf hk, List.map_append]
        rfl
      · have hk : k = ls.length := by omega
        subst hk
        have e1 : ((0 + ls.length : Nat) : Int) = (ls.length : Int) := by omega
        rcases hb with hb | ⟨l, hg, hb⟩
        · repeat' (walk_at "pd1")
          refine u_life_x hb.app.app ?_
          repeat' (walk_at "pd1")
          exact ⟨rfl, Ext.trans (Ext.app _ _) (Ext.app _ _), by rw [e1]; rfl⟩
        · have hg' := (hg.app (T := [SO.ins 3 []])).app (T := [SO.lst ((ls.take ls.length).map lifeD)])
          obtain ⟨a', x', g1, g2, g3, g4, g5⟩ := hg'
          repeat' (walk_at "pd1")
          refine u_life ⟨a', x', g1, g2, g3, g4, g5⟩ ?_
          repeat' (walk_at "pd1")
          all_goals first
            | (exfalso; omega)
            | exact ⟨rfl, Ext.trans (Ext.app _ _) (Ext.app _ _), by rw [e1]; rfl⟩
            | skip
      · omega
    · rintro e S' ⟨hk, _⟩
      rw [enumL_len, List.length_append, List.length_cons] at hk
      omega
theorem len_Blocks____init__ : ∀ ds S o, p_init ds S o → ds.length + 1 = 2 := by rintro _ S o ⟨d, a, rfl, _⟩; rfl
theorem vc_Blocks____init__ (M : Md) (h1 : M.sp 1 = FnS p_is_life) (hv : M.noA 3 "lives" = true) (hm : M.noA 3 "many" = true) : ∀ args S0 o, p_init args S0 o → wpSs (M.C (iniE S0 o)) b_Blocks____init__ (rets (iniQ S0 3 o)) (startD n_Blocks____init__ (.ref S0.length :: args)) (S0 ++ [.ins 3 []]) := vi_init M h1 hv hm
abbrev p_Blocks____init__ := p_init
/-! ### _law_value -/
def p__law_value : List D → Store → Out → Prop := fun ds S o => ∃ d r, ds = [d] ∧ p_init [d] S r ∧ ((∃ ls, r = .ok (blkF ls) ∧ o = .val (.int (-1))) ∨ ∃ i, r = .exc (ePlace i) ∧ o = .val (.int i))
theorem vc__law_value (M : Md) (h28 : M.sp 28 = IniS 3 p_init) (hk : M.kn 2 ["place"] = true) (hs : M.sub 2 2 = true) : ∀ ds S o, p__law_value ds S o → wpSs (M.C (excO S o)) b__law_value (retO S o) (startD n__law_value ds) S := by
  rintro ds S o ⟨d, r, rfl, hp, (⟨ls, rfl, rfl⟩ | ⟨i, rfl, rfl⟩)⟩
  · simp only [b__law_value, startD, List.map, List.length, List.replicate, Nat.reduceAdd, Nat.reduceSub, List.cons_append, List.nil_append]
    repeat' (walk_at "pd1")
    refine n_ok hp ?_
    intro G
    repeat' (walk_at "pd1")
    · rw [List.append_assoc]; exact Ext.app _ _
    · rfl
  · simp only [b__law_value, startD, List.map, List.length, List.replicate, Nat.reduceAdd, Nat.reduceSub, List.cons_append, List.nil_append]
    repeat' (walk_at "pd1")
    refine n_exc hp ?_
    intro S' hS
    refine x_tr hk hs (by show (2 : Nat) < 3; decide) ?_
    repeat' (walk_at "pd1")
    all_goals try (walk_at "ps")
theorem u_value {S : Store} {Q : DQ} {E : EQ} {d : D} {i : Int} (h : p_init [d] S (.exc (ePlace i))) (q : Q (.int i) S) : FnS p__law_value [d] S Q E := ⟨_, ⟨d, _, rfl, h, .inr ⟨i, rfl, rfl⟩⟩, q⟩
theorem len__law_value : ∀ ds S o, p__law_value ds S o → ds.length = 1 := by rintro _ S o ⟨d, r, rfl, _⟩; rfl
theorem ok__law_value : ∀ ds S o, p__law_value ds S o → refsLts S.length ds = true → WfS S → okO S.length o = true := by rintro _ S o ⟨d, r, rfl, _, (⟨_, _, rfl⟩ | ⟨_, _, rfl⟩)⟩ _ _ <;> rfl
/-! ### _law_no_pair -/
def p__law_no_pair : List D → Store → Out → Prop := fun ds S o => ∃ (n : Nat) (ls : List Life) (b c : Int), ds = [.ref n, .int b, .int c] ∧ S[n]? = some (blkO ls) ∧ LivesOk ls ∧ 0 ≤ b ∧ b < ls.length ∧ 0 ≤ c ∧ c < ls.length ∧ meetF ls b c = -1 ∧ o = .val (.bl true)
theorem vc__law_no_pair (M : Md) (h14 : M.sp 14 = FnS p_Blocks__len_pair) (hk : M.kn 2 ["place"] = true) (hs : M.sub 2 2 = true) : ∀ ds S o, p__law_no_pair ds S o → wpSs (M.C (excO S o)) b__law_no_pair (retO S o) (startD n__law_no_pair ds) S := by
  rintro ds S o ⟨n, ls, b, c, rfl, hn, hl, h1, h2, h3, h4, hm, rfl⟩
  simp only [b__law_no_pair, startD, List.map, List.length, List.replicate, Nat.reduceAdd, Nat.reduceSub, List.cons_append, List.nil_append]
  repeat' (walk_at "pd1")
  refine u_bpair_x hn hl h1 h2 h3 h4 hm (x_tr hk hs (by show (4 : Nat) < 5; decide) ?_)
  repeat' (walk_at "pd1")
  all_goals try (walk_at "ps")
theorem u_nopair {S : Store} {Q : DQ} {E : EQ} {n : Nat} {ls : List Life} {b c : Int} (hn : S[n]? = some (blkO ls)) (hl : LivesOk ls) (h1 : 0 ≤ b) (h2 : b < ls.length) (h3 : 0 ≤ c) (h4 : c < ls.length) (hm : meetF ls b c = -1) (q : Q (.bl true) S) : FnS p__law_no_pair [.ref n, .int b, .int c] S Q E := ⟨_, ⟨n, ls, b, c, rfl, hn, hl, h1, h2, h3, h4, hm, rfl⟩, q⟩
theorem len__law_no_pair : ∀ ds S o, p__law_no_pair ds S o → ds.length = 3 := by rintro _ S o ⟨n, ls, b, c, rfl, _⟩; rfl
theorem ok__law_no_pair : ∀ ds S o, p__law_no_pair ds S o → refsLts S.length ds = true → WfS S → okO S.length o = true := by rintro _ S o ⟨n, ls, b, c, rfl, _, _, _, _, _, _, _, rfl⟩ _ _; rfl
/-! ### _law_number -/
def BadMom (S : Store) (l : Life) (c : D) : Prop := ∃ a, tyName S c = some a ∧ (a ≠ "int" ∨ ∃ j : Int, c = .int j ∧ (j < l.1 ∨ endL l ≤ j))
def p__law_number : List D → Store → Out → Prop := fun ds S o => ∃ (n : Nat) (ls : List Life) (k : Int) (b c : D), ds = [.ref n, .int k, b, c] ∧ S[n]? = some (blkO ls) ∧ LivesOk ls ∧ (k = 0 ∨ k = 1 ∨ k = 2) ∧
  ((NotIn S b ls.length ∧ o = .val (.str "b")) ∨ (∃ i : Int, b = .int i ∧ 0 ≤ i ∧ i < ls.length ∧ ((k ≠ 2 ∧ NotIn S c ls.length ∧ o = .val (.str "c")) ∨ (k = 2 ∧ BadMom S (lf ls i) c ∧ o = .val (.str "moment")))))
theorem vc__law_number (M : Md) (h11 : M.sp 11 = FnS p_Blocks__meeting) (h12 : M.sp 12 = FnS p_Blocks__length_then) (h14 : M.sp 14 = FnS p_Blocks__len_pair) (hk : M.kn 1 ["name"] = true) (hs : M.sub 1 1 = true) : ∀ ds S o, p__law_number ds S o → wpSs (M.C (excO S o)) b__law_number (retO S o) (startD n__law_number ds) S := by
  rintro ds S o ⟨n, ls, k, b, c, rfl, hn, hl, hk3, (⟨hb, rfl⟩ | ⟨i, rfl, h1, h2, (⟨k2, hc, rfl⟩ | ⟨rfl, ⟨a, ha, hc⟩, rfl⟩)⟩)⟩
  · simp only [b__law_number, startD, List.map, List.length, List.replicate, Nat.reduceAdd, Nat.reduceSub, List.cons_append, List.nil_append]
    repeat' (walk_at "pd1")
    · refine u_bmeet_b hn hb (x_tr hk hs (by show (5 : Nat) < 6; decide) ?_)
      repeat' (walk_at "pd1")
      all_goals try (walk_at "ps")
    · refine u_bpair_b hn hl hb (x_tr hk hs (by show (5 : Nat) < 6; decide) ?_)
      repeat' (walk_at "pd1")
      all_goals try (walk_at "ps")
    · refine u_blen_b hn hb (x_tr hk hs (by show (5 : Nat) < 6; decide) ?_)
      repeat' (walk_at "pd1")
      all_goals try (walk_at "ps")
  · simp only [b__law_number, startD, List.map, List.length, List.replicate, Nat.reduceAdd, Nat.reduceSub, List.cons_append, List.nil_append]
    repeat' (walk_at "pd1")
    · refine u_bmeet_c hn h1 h2 hc (x_tr hk hs (by show (5 : Nat) < 6; decide) ?_)
      repeat' (walk_at "pd1")
      all_goals try (walk_at "ps")
    · refine u_bpair_c hn hl h1 h2 hc (x_tr hk hs (by show (5 : Nat) < 6; decide) ?_)
      repeat' (walk_at "pd1")
      all_goals try (walk_at "ps")
    · exfalso; omega
  · simp only [b__law_number, startD, List.map, List.length, List.replicate, Nat.reduceAdd, Nat.reduceSub, List.cons_append, List.nil_append]
    repeat' (walk_at "pd1")
    all_goals first
      | (exfalso; omega)
      | skip
    refine u_blen_m hn h1 h2 ha hc (x_tr hk hs (by show (5 : Nat) < 6; decide) ?_)
    repeat' (walk_at "pd1")
    all_goals try (walk_at "ps")
theorem u_num_b {S : Store} {Q : DQ} {E : EQ} {n : Nat} {ls : List Life} {k : Int} {b c : D} (hn : S[n]? = some (blkO ls)) (hl : LivesOk ls) (hk : k = 0 ∨ k = 1 ∨ k = 2) (hb : NotIn S b ls.length) (q : Q (.str "b") S) : FnS p__law_number [.ref n, .int k, b, c] S Q E := ⟨_, ⟨n, ls, k, b, c, rfl, hn, hl, hk, .inl ⟨hb, rfl⟩⟩, q⟩
theorem u_num_c {S : Store} {Q : DQ} {E : EQ} {n : Nat} {ls : List Life} {k i : Int} {c : D} (hn : S[n]? = some (blkO ls)) (hl : LivesOk ls) (hk : k = 0 ∨ k = 1) (h0 : 0 ≤ i) (h1 : i < ls.length) (hc : NotIn S c ls.length) (q : Q (.str "c") S) : FnS p__law_number [.ref n, .int k, .int i, c] S Q E := ⟨_, ⟨n, ls, k, _, c, rfl, hn, hl, by omega, .inr ⟨i, rfl, h0, h1, .inl ⟨by omega, hc, rfl⟩⟩⟩, q⟩
theorem u_num_m {S : Store} {Q : DQ} {E : EQ} {n : Nat} {ls : List Life} {i : Int} {c : D} (hn : S[n]? = some (blkO ls)) (hl : LivesOk ls) (h0 : 0 ≤ i) (h1 : i < ls.length) (hc : BadMom S (lf ls i) c) (q : Q (.str "moment") S) : FnS p__law_number [.ref n, .int 2, .int i, c] S Q E := ⟨_, ⟨n, ls, 2, _, c, rfl, hn, hl, .inr (.inr rfl), .inr ⟨i, rfl, h0, h1, .inr ⟨rfl, hc, rfl⟩⟩⟩, q⟩
theorem len__law_number : ∀ ds S o, p__law_number ds S o → ds.length = 4 := by rintro _ S o ⟨n, ls, k, b, c, rfl, _⟩; rfl
theorem ok__law_number : ∀ ds S o, p__law_number ds S o → refsLts S.length ds = true → WfS S → okO S.length o = true := by rintro _ S o ⟨n, ls, k, b, c, rfl, _, _, _, (⟨_, rfl⟩ | ⟨_, _, _, _, (⟨_, _, rfl⟩ | ⟨_, _, rfl⟩)⟩)⟩ _ _ <;> rfl


end
section
set_option Elab.async false
set_option linter.all false
set_option maxRecDepth 100000
set_option maxHeartbeats 8000000
open PySem

theorem eqvAll_same : ∀ l : List PyData, (∀ x ∈ l, PyData.eqv x x = true) → PyData.eqvAll l l = true
  | [], _ => by unfold PyData.eqvAll; rfl
  | x :: l, h => by
    unfold PyData.eqvAll
    rw [h x (List.mem_cons_self ..), eqvAll_same l (fun y hy => h y (List.mem_cons_of_mem _ hy))]
    rfl
theorem eqv_tup {l : List PyData} (h : ∀ x ∈ l, PyData.eqv x x = true) : PyData.eqv (.tuple l) (.tuple l) = true := by
  unfold PyData.eqv
  exact eqvAll_same l h
theorem eqv_pyT' (f : List Int) : PyData.eqv (pyT f) (pyT f) = true := by rw [eqv_pyT]; exact decide_eq_true rfl
def pyLife (l : Life) : PyData := .tuple [.int l.1, pyT l.2]
theorem py_life (S : Store) (k : Nat) (l : Life) : toPy S (k + 3) (lifeD l) = some (pyLife l) := by
  show (mapO (toPy S (k + 2)) [.int l.1, tupI l.2]).map PyData.tuple = _
  have e : toPy S (k + 2) (tupI l.2) = some (pyT l.2) := py_tupI S k l.2
  unfold mapO mapO mapO
  rw [e]
  rfl
theorem py_livesD (S : Store) (ls : List Life) : toPy S pyF (livesD ls) = some (.tuple (ls.map pyLife)) := by
  show (mapO (toPy S 39) (ls.map lifeD)).map PyData.tuple = _
  rw [py_map (S := S) (k := 39) lifeD pyLife (fun l => py_life S 36 l) ls]
  rfl
theorem eqv_life (l : Life) : PyData.eqv (pyLife l) (pyLife l) = true := eqv_tup (by
  intro x hx
  rcases List.mem_cons.1 hx with rfl | hx
  · unfold PyData.eqv; exact decide_eq_true rfl
  · rcases List.mem_cons.1 hx with rfl | hx
    · exact eqv_pyT' _
    · cases hx)
theorem c_same {S : Store} {d : D} {p : PyData} {Kk : Bool → Prop} (h1 : toPy S pyF d = some p) (h2 : PyData.eqv p p = true) (h : Kk true) : onO (cmpD S .eq d d) Kk := by
  have e : cmpD S .eq d d = some true := by
    show eqD S d d = _
    unfold eqD
    rw [h1]
    dsimp only
    rw [h2]
  rw [e]
  exact h
theorem c_samen {S : Store} {d : D} {p : PyData} {Kk : Bool → Prop} (h1 : toPy S pyF d = some p) (h2 : PyData.eqv p p = true) (h : Kk false) : onO (cmpD S .ne d d) Kk := by
  have e : cmpD S .ne d d = some false := by
    show (eqD S d d).map (!·) = _
    unfold eqD
    rw [h1]
    dsimp only
    rw [h2]
    rfl
  rw [e]
  exact h
theorem c_nelv {S : Store} {ls : List Life} {Kk : Bool → Prop} (h : Kk false) : onO (cmpD S .ne (livesD ls) (livesD ls)) Kk := c_samen (py_livesD S ls) (eqv_tup (by
  intro x hx
  obtain ⟨l, _, rfl⟩ := List.mem_map.1 hx
  exact eqv_life l)) h
theorem py_pairs (S : Store) (l : List (Nat × Nat)) : toPy S pyF (.tup (l.map pairD)) = some (.tuple (l.map fun p => pyT [(p.1 : Int), (p.2 : Int)])) := by
  show (mapO (toPy S 39) (l.map pairD)).map PyData.tuple = _
  rw [py_map (S := S) (k := 39) pairD (fun p : Nat × Nat => pyT [(p.1 : Int), (p.2 : Int)]) (fun p => py_tupI S 37 _) l]
  rfl
theorem c_eqpr {S : Store} {l : List (Nat × Nat)} {Kk : Bool → Prop} (h : Kk true) : onO (cmpD S .eq (.tup (l.map pairD)) (.tup (l.map pairD))) Kk := c_same (py_pairs S l) (eqv_tup (by
  intro x hx
  obtain ⟨p, _, rfl⟩ := List.mem_map.1 hx
  exact eqv_pyT' _)) h

local macro_rules | `(tactic| walk_at "pd1") => `(tactic| first | (((with_reducible refine u_w_l (xs := ?xs) ?g0 ?_); (case g0 => walk_at "pg"))) | fail)
local macro_rules | `(tactic| walk_at "pd1") => `(tactic| first | (with_reducible refine u_w_u ?_) | fail)
local macro_rules | `(tactic| walk_at "pd1") => `(tactic| first | (with_reducible refine u_w_t ?_) | fail)
local macro_rules | `(tactic| walk_at "pd1") => `(tactic| first | (with_reducible refine u_w_n ?_) | fail)
local macro_rules | `(tactic| walk_at "pd1") => `(tactic| first | (with_reducible refine u_w_s ?_) | fail)
local macro_rules | `(tactic| walk_at "pd1") => `(tactic| first | (with_reducible refine u_w_b ?_) | fail)
local macro_rules | `(tactic| walk_at "pd1") => `(tactic| first | (with_reducible refine u_w_i ?_) | fail)
local macro_rules | `(tactic| walk_at "pd1") => `(tactic| first | (((with_reducible refine u_law_pick (l := ?l) ?g0 ?_ ?_ ?_ ?_); (case g0 => walk_at "pg"))) | fail)

local macro_rules | `(tactic| walk_at "pd1") => `(tactic| first | (with_reducible refine c_eqpr ?_) | fail)
local macro_rules | `(tactic| walk_at "pd1") => `(tactic| first | (with_reducible refine c_nelv ?_) | fail)
local macro_rules | `(tactic| walk_at "pd1") => `(tactic| first | (((with_reducible refine u_blen (ls := ?ls) ?g0 ?_ ?_ ?_ ?_ ?_); (case g0 => walk_at "pg"))) | fail)
local macro_rules | `(tactic| walk_at "pd1") => `(tactic| first | (((with_reducible refine u_nopair (ls := ?ls) ?g0 ?_ ?_ ?_ ?_ ?_ ?_ ?_); (case g0 => walk_at "pg"))) | fail)
local macro_rules | `(tactic| walk_at "pd1") => `(tactic| first | (((with_reducible refine u_bpair (ls := ?ls) ?g0 ?_ ?_ ?_ ?_ ?_ ?_ ?_); (case g0 => walk_at "pg"))) | fail)
local macro_rules | `(tactic| walk_at "pd1") => `(tactic| first | (((with_reducible refine u_bpairs (ls := ?ls) ?g0 ?_ ?_); (case g0 => walk_at "pg"))) | fail)
local macro_rules | `(tactic| walk_at "pd1") => `(tactic| first | (((with_reducible refine u_bmeet (ls := ?ls) ?g0 ?_ ?_ ?_ ?_ ?_); (case g0 => walk_at "pg"))) | fail)
local macro_rules | `(tactic| walk_at "pd1") => `(tactic| first | (((with_reducible refine u_lmeet (ls := ?ls) ?g0 ?_ ?_ ?_ ?_ ?_ ?_ ?_); (case g0 => walk_at "pg"))) | fail)
local macro_rules | `(tactic| walk_at "pd1") => `(tactic| first | (with_reducible refine u_llen ?_) | fail)
local macro_rules | `(tactic| walk_at "pd1") => `(tactic| first | (((with_reducible refine t_ll (ls := ?ls) ?g0 ?_); (case g0 => walk_at "pg"))) | fail)
local macro_rules | `(tactic| walk_at "pd1") => `(tactic| first | (((with_reducible refine i_ll (ls := ?ls) ?g0 ?_ ?_ ?_); (case g0 => walk_at "pg"))) | fail)
local macro_rules | `(tactic| walk_at "pd1") => `(tactic| first | (((with_reducible refine g_ll (ls := ?ls) ?g0 ?_); (case g0 => walk_at "pg"))) | fail)
local macro_rules | `(tactic| walk_at "pd1") => `(tactic| first | (((with_reducible refine n_ll (ls := ?ls) ?g0 ?_); (case g0 => walk_at "pg"))) | fail)
local macro_rules | `(tactic| walk_at "pd1") => `(tactic| first | (with_reducible refine u_apart ?_) | fail)
local macro_rules | `(tactic| walk_at "pd1") => `(tactic| first | (with_reducible refine u_meet ?_ ?_ ?_ ?_ ?_) | fail)
local macro_rules | `(tactic| walk_at "pd1") => `(tactic| first | (with_reducible refine u_ending ?_) | fail)
local macro_rules | `(tactic| walk_at "pd1") => `(tactic| first | (with_reducible refine g_lv ?_) | fail)
local macro_rules | `(tactic| walk_at "pd1") => `(tactic| first | (with_reducible refine n_lives ?_) | fail)
local macro_rules | `(tactic| walk_at "pd1") => `(tactic| first | (with_reducible refine i_life ?_ ?_ ?_) | fail)

/-! ### _law_looked -/
theorem inn_step (ls : List Life) (k j : Nat) : innP ls k (j + 1 - (k + 1)) = innP ls k (j - (k + 1)) ++ (if k < j ∧ 0 ≤ meetF ls k j then [(k, j)] else []) := by
  by_cases h : k < j
  · rw [show j + 1 - (k + 1) = (j - (k + 1)) + 1 by omega, innP_succ, show k + 1 + (j - (k + 1)) = j by omega]
    by_cases h2 : 0 ≤ meetF ls k j
    · rw [if_pos h2, if_pos ⟨h, h2⟩]
    · rw [if_neg h2, if_neg (fun z => h2 z.2)]
  · rw [if_neg (fun z => h z.1), show j + 1 - (k + 1) = j - (k + 1) by omega, List.append_nil]
def p__law_looked : List D → Store → Out → Prop := fun ds S o => ∃ (n k : Nat) (ls : List Life), ds = [.ref n, .ref k] ∧ S[n]? = some (blkO ls) ∧ S[k]? = some (lvO ls) ∧ LivesOk ls ∧ Short ls ∧ Sorted ls ∧ 0 < ls.length ∧ ls.length ≤ 1000 ∧ o = .val (.bl true)
theorem vc__law_looked (M : Md) (h9 : M.sp 9 = FnS p_Blocks__pairs) (h11 : M.sp 11 = FnS p_Blocks__meeting) (h12 : M.sp 12 = FnS p_Blocks__length_then) (h14 : M.sp 14 = FnS p_Blocks__len_pair) (h21 : M.sp 21 = FnS p__law_length) (h22 : M.sp 22 = FnS p__law_meeting) (h25 : M.sp 25 = FnS p__law_heaviest) (h27 : M.sp 27 = FnS p__law_number) (h30 : M.sp 30 = FnS p__law_no_pair) (h31 : M.sp 31 = FnS p_Blocks__heaviest) (hv : M.noA 3 "lives" = true) (hm : M.noA 3 "many" = true) :
    ∀ ds S o, p__law_looked ds S o → wpSs (M.C (excO S o)) b__law_looked (retO S o) (startD n__law_looked ds) S := by
  rintro ds S o ⟨n, kk, ls, rfl, hn, hk, hl, hsh, ho, h0, h1, rfl⟩
  simp only [b__law_looked, startD, List.map, List.length, List.replicate, Nat.reduceAdd, Nat.reduceSub, List.cons_append, List.nil_append]
  have meq : ∀ b c : Nat, b < ls.length → c < ls.length → 0 ≤ meetF ls b c → llen (lf ls b) (meetF ls b c) = meetLen ls b c := by
    intro b c hb hc hm
    obtain ⟨_, q1, q2, _, _⟩ := meetF_in hl (b := b) (c := c) (by omega) (by omega) (by omega) (by omega) (by omega)
    unfold llen
    rw [if_neg (by omega)]
    rfl
  repeat' (walk_at "pd1")
  all_goals first
    | omega
    | (exfalso; omega)
    | (exfalso; rename_i hb _ _; exact hb trivial)
    | (exfalso; rename_i hb _; exact hb trivial)
    | (exfalso; rename_i hb; exact hb trivial)
    | (exfalso; rename_i hb _ _; exact hb rfl)
    | (exfalso; rename_i hb _; exact hb rfl)
    | (exfalso; rename_i hb; exact hb rfl)
    | skip
  refine u_heav hn h1 ?_
  repeat' (walk_at "pd1")
  refine u_lheav hk hl ?_
  rw [← heav_same hl hsh ho h0]
  unfold hvD
  repeat' (walk_at "pd1")
  all_goals first
    | omega
    | (exfalso; omega)
    | (exfalso; rename_i hb _ _; exact hb trivial)
    | (exfalso; rename_i hb _; exact hb trivial)
    | (exfalso; rename_i hb; exact hb trivial)
    | (exfalso; rename_i hb _ _; exact hb rfl)
    | (exfalso; rename_i hb _; exact hb rfl)
    | (exfalso; rename_i hb; exact hb rfl)
    | skip
  refine FR_ind (fun k e S' => S' = S ++ [.lst ((pairsL ls k).map pairD)] ∧ ∃ x y z u, e = [some (.ref n), some (.ref kk), some (.int ls.length), some (.ref S.length), x, y, z, u]) ⟨rfl, _, _, _, _, rfl⟩ ?_ ?_
  · rintro k y e S' hy ⟨rfl, x, z, u, v, rfl⟩
    rw [Int.toNat_natCast] at hy
    have hz := rngL_get hy
    have hk1 := hz.1
    rw [hz.2]
    have e1 : (0 + (k : Int)) = (k : Int) := by omega
    rw [e1]
    have hk2 : k < ls.length := by omega
    have okb := hl.at (b := (k : Int)) (by omega) (by omega)
    repeat' (walk_at "pd1")
    all_goals first
      | omega
      | (exfalso; omega)
      | (exfalso; rename_i hb _ _; exact hb trivial)
      | (exfalso; rename_i hb _; exact hb trivial)
      | (exfalso; rename_i hb; exact hb trivial)
      | (exfalso; rename_i hb _ _; exact hb rfl)
      | (exfalso; rename_i hb _; exact hb rfl)
      | (exfalso; rename_i hb; exact hb rfl)
      | skip
    refine FR_ind (fun j e S'' => S'' = S ++ [.lst ((pairsL ls k ++ innP ls k (j - (k + 1))).map pairD)] ∧ ∃ y z u, e = [some (.ref n), some (.ref kk), some (.int ls.length), some (.ref S.length), some (.int k), y, z, u]) ⟨by rw [show 0 - (k + 1) = 0 by omega, show innP ls k 0 = [] from rfl, List.append_nil], _, _, _, rfl⟩ ?_ ?_
    · rintro j w e S'' hw ⟨rfl, y, z, u, rfl⟩
      obtain ⟨hj1, rfl⟩ := rngL_get hw
      have e2 : (0 + (j : Int)) = (j : Int) := by omega
      rw [e2]
      have hj2 : j < ls.length := by omega
      have q1 := pairs_len ls k (by omega)
      have q2 := innP_len ls k (j - (k + 1))
      have q3 : k * ls.length ≤ 1000 * 1000 := Nat.mul_le_mul (by omega) h1
      have q4 := meetF_neg hl (b := (k : Int)) (c := (j : Int)) (by omega) (by omega) (by omega) (by omega)
      have q5 := meq k j hk2 hj2
      repeat' (walk_at "pd1")
      all_goals first
        | omega
        | (exfalso; omega)
        | (exfalso; rename_i hb _ _; exact hb trivial)
        | (exfalso; rename_i hb _; exact hb trivial)
        | (exfalso; rename_i hb; exact hb trivial)
        | (exfalso; rename_i hb _ _; exact hb rfl)
        | (exfalso; rename_i hb _; exact hb rfl)
        | (exfalso; rename_i hb; exact hb rfl)
        | skip
      · rw [List.length_map, List.length_append]; omega
      · refine ⟨?_, some (.int (j : Int)), some (.int (meetF ls k j)), u, rfl⟩
        rw [inn_step, if_pos (by omega)]
        simp only [List.map_append, List.map_cons, List.map_nil, List.append_assoc]
      · refine ⟨?_, some (.int (j : Int)), some (.int (meetF ls k j)), u, rfl⟩
        rw [inn_step, if_neg (by omega), List.append_nil]
      · refine ⟨?_, some (.int (j : Int)), some (.int (meetF ls k j)), u, rfl⟩
        rw [inn_step, if_neg (by omega), List.append_nil]
    · rintro e S'' ⟨rfl, y, z, u, rfl⟩
      rw [rngL_len, Int.toNat_natCast, ← pairs_succ]
      have sk := hsh.at (b := (k : Int)) (by omega) (by omega)
      have p0 := okb.p0
      unfold endL at sk
      repeat' (walk_at "pd1")
      all_goals first
        | omega
        | skip
      refine FR_same (fun e => ∃ y z u, e = [some (.ref n), some (.ref kk), some (.int ls.length), some (.ref S.length), some (.int k), y, z, u]) ⟨_, _, _, rfl⟩ still_none ?_ ?_
      · rintro w e hw ⟨y, z, u, rfl⟩
        obtain ⟨j, hw2⟩ := List.getElem?_of_mem hw
        have hw3 := (rngL_get hw2).2
        have e2 : (0 + (j : Int)) = (j : Int) := by omega
        rw [e2] at hw3
        rw [hw3]
        have q1 := llen_nn okb j
        repeat' (walk_at "pd1")
        all_goals first
          | omega
          | (exfalso; omega)
          | exact ⟨rfl, _, some (.int (j : Int)), some (.int (llen (lf ls k) j)), rfl⟩
          | skip
        all_goals try (refine u_num_m (get_app hn) hl (by omega) (by omega) ⟨"int", rfl, .inr ⟨j, rfl, by omega⟩⟩ ?_)
        repeat' (walk_at "pd1")
        all_goals first
          | exact ⟨rfl, _, some (.int (j : Int)), some (.int (llen (lf ls k) j)), rfl⟩
          | (exfalso; rename_i hb _ _; exact hb rfl)
          | (exfalso; rename_i hb _; exact hb rfl)
          | (exfalso; rename_i hb; exact hb rfl)
          | skip
      · rintro e ⟨y, z, u, rfl⟩
        repeat' (walk_at "pd1")
        exact ⟨rfl, some (.int (k : Int)), y, z, u, rfl⟩
  · rintro e S' ⟨rfl, x, z, u, v, rfl⟩
    rw [rngL_len, Int.toNat_natCast]
    repeat' (walk_at "pd1")
    all_goals first
      | omega
      | exact Ext.app _ _
      | rfl
theorem u_looked {S : Store} {Q : DQ} {E : EQ} {n k : Nat} {ls : List Life} (hn : S[n]? = some (blkO ls)) (hk : S[k]? = some (lvO ls)) (h1 : LivesOk ls) (h2 : Short ls) (h3 : Sorted ls) (h4 : 0 < ls.length) (h5 : ls.length ≤ 1000) (q : Q (.bl true) S) : FnS p__law_looked [.ref n, .ref k] S Q E := ⟨_, ⟨n, k, ls, rfl, hn, hk, h1, h2, h3, h4, h5, rfl⟩, q⟩
theorem len__law_looked : ∀ ds S o, p__law_looked ds S o → ds.length = 2 := by rintro _ S o ⟨n, k, ls, rfl, _⟩; rfl
theorem ok__law_looked : ∀ ds S o, p__law_looked ds S o → refsLts S.length ds = true → WfS S → okO S.length o = true := by rintro _ S o ⟨n, k, ls, rfl, _, _, _, _, _, _, _, rfl⟩ _ _; rfl


end
section
set_option Elab.async false
set_option linter.all false
set_option maxRecDepth 100000
set_option maxHeartbeats 8000000
open PySem

local macro_rules | `(tactic| walk_at "pd1") => `(tactic| first | (((with_reducible refine u_w_l (xs := ?xs) ?g0 ?_); (case g0 => walk_at "pg"))) | fail)
local macro_rules | `(tactic| walk_at "pd1") => `(tactic| first | (with_reducible refine u_w_u ?_) | fail)
local macro_rules | `(tactic| walk_at "pd1") => `(tactic| first | (with_reducible refine u_w_t ?_) | fail)
local macro_rules | `(tactic| walk_at "pd1") => `(tactic| first | (with_reducible refine u_w_n ?_) | fail)
local macro_rules | `(tactic| walk_at "pd1") => `(tactic| first | (with_reducible refine u_w_s ?_) | fail)
local macro_rules | `(tactic| walk_at "pd1") => `(tactic| first | (with_reducible refine u_w_b ?_) | fail)
local macro_rules | `(tactic| walk_at "pd1") => `(tactic| first | (with_reducible refine u_w_i ?_) | fail)
local macro_rules | `(tactic| walk_at "pd1") => `(tactic| first | (((with_reducible refine u_law_pick (l := ?l) ?g0 ?_ ?_ ?_ ?_); (case g0 => walk_at "pg"))) | fail)

local macro_rules | `(tactic| walk_at "pd1") => `(tactic| first | (((with_reducible refine t_ll (ls := ?ls) ?g0 ?_); (case g0 => walk_at "pg"))) | fail)
local macro_rules | `(tactic| walk_at "pd1") => `(tactic| first | (((with_reducible refine i_ll (ls := ?ls) ?g0 ?_ ?_ ?_); (case g0 => walk_at "pg"))) | fail)
local macro_rules | `(tactic| walk_at "pd1") => `(tactic| first | (((with_reducible refine g_ll (ls := ?ls) ?g0 ?_); (case g0 => walk_at "pg"))) | fail)
local macro_rules | `(tactic| walk_at "pd1") => `(tactic| first | (((with_reducible refine n_ll (ls := ?ls) ?g0 ?_); (case g0 => walk_at "pg"))) | fail)
local macro_rules | `(tactic| walk_at "pd1") => `(tactic| first | (with_reducible refine g_lv ?_) | fail)
local macro_rules | `(tactic| walk_at "pd1") => `(tactic| first | (with_reducible refine n_lives ?_) | fail)
local macro_rules | `(tactic| walk_at "pd1") => `(tactic| first | (with_reducible refine i_life ?_ ?_ ?_) | fail)

/-! ### _law_started -/
def p__law_started : List D → Store → Out → Prop := fun ds S o => ∃ (n k m : Nat) (ls : List Life) (ss : List Int), ds = [.ref n, .ref k, .ref m] ∧ S[n]? = some (blkO ls) ∧ S[k]? = some (lvO ls) ∧ S[m]? = some (lstI ss) ∧ LivesOk ls ∧ Short ls ∧ 0 < ls.length ∧ ls.length ≤ 1000 ∧ ss.length = ls.length ∧ (∀ s ∈ ss, 0 ≤ s) ∧ o = .val (.bl true)
theorem vc__law_started (M : Md) (h13 : M.sp 13 = FnS p_is_placing) (h15 : M.sp 15 = FnS p_apart_pairs) (h16 : M.sp 16 = FnS p_end_of) (h24 : M.sp 24 = FnS p__law_placed) (h26 : M.sp 26 = FnS p__law_end) :
    ∀ ds S o, p__law_started ds S o → wpSs (M.C (excO S o)) b__law_started (retO S o) (startD n__law_started ds) S := by
  rintro ds S o ⟨n, kk, m, ls, ss, rfl, hn, hk, hm, hl, hsh, h0, h1, hsl, hnn, rfl⟩
  have q : ∃ r2 : Bool, r2 = true ↔ Placed ls ss := ⟨@decide _ (Classical.propDecidable _), @decide_eq_true_iff _ (Classical.propDecidable _)⟩
  obtain ⟨r, hr⟩ := q
  have hmx := end_max hl hnn hsl h0
  simp only [b__law_started, startD, List.map, List.length, List.replicate, Nat.reduceAdd, Nat.reduceSub, List.cons_append, List.nil_append]
  repeat' (walk_at "pd1")
  refine u_lplaced hk hm hl hsh h1 hsl hr ?_
  repeat' (walk_at "pd1")
  all_goals first
    | omega
    | (exfalso; omega)
    | (exfalso; rename_i hb _ _; exact hb trivial)
    | (exfalso; rename_i hb _; exact hb trivial)
    | (exfalso; rename_i hb; exact hb trivial)
    | (exfalso; rename_i hb _ _; exact hb rfl)
    | (exfalso; rename_i hb _; exact hb rfl)
    | (exfalso; rename_i hb; exact hb rfl)
    | skip
  refine FR_ind (fun k e S' => (∃ T, S' = S ++ T) ∧ ∃ x y z u, e = [some (.ref n), some (.ref kk), some (.ref m), some (.bl r), x, y, z, u]) ⟨⟨[], (List.append_nil _).symm⟩, _, _, _, _, rfl⟩ ?_ ?_
  · rintro k w e S' hw ⟨⟨T, rfl⟩, x, y, z, u, rfl⟩
    have hw2 := (rngL_get hw).2
    have hw1 := (rngL_get hw).1
    have hk2 : k = 0 ∨ k = 1 := by omega
    rcases hk2 with rfl | rfl
    · rw [hw2, show (0 : Int) + ((0 : Nat) : Int) = 0 from rfl]
      repeat' (walk_at "pd1")
      all_goals first
        | omega
        | (exfalso; omega)
        | (exfalso; rename_i hb _ _; exact hb trivial)
        | (exfalso; rename_i hb _; exact hb trivial)
        | (exfalso; rename_i hb; exact hb trivial)
        | (exfalso; rename_i hb _ _; exact hb rfl)
        | (exfalso; rename_i hb _; exact hb rfl)
        | (exfalso; rename_i hb; exact hb rfl)
        | skip
      have hs1 : StartsOk (S ++ T ++ [lstI ss] ++ [SO.lst [D.ref (S ++ T).length, tupI ss]]) (.ref (S ++ T).length) ss ls.length := ⟨.inr ⟨_, rfl, get_app (get_last _ _)⟩, hnn, hsl⟩
      have hn1 : (S ++ T ++ [lstI ss] ++ [SO.lst [D.ref (S ++ T).length, tupI ss]])[n]? = some (blkO ls) := get_app (get_app (get_app hn))
      have hk1 : (S ++ T ++ [lstI ss] ++ [SO.lst [D.ref (S ++ T).length, tupI ss]])[kk]? = some (lvO ls) := get_app (get_app (get_app hk))
      have hm1 : (S ++ T ++ [lstI ss] ++ [SO.lst [D.ref (S ++ T).length, tupI ss]])[m]? = some (lstI ss) := get_app (get_app (get_app hm))
      refine u_placing hn1 hl h1 hs1 hr ?_
      repeat' (walk_at "pd1")
      refine u_aprs hn1 hl h1 hs1 hr ?_
      repeat' (walk_at "pd1")
      all_goals first
        | (exfalso; cases r <;> contradiction)
        | (exfalso; cases r <;> simp_all; done)
        | skip
      refine u_end hn1 hl h0 h1 hs1 hmx ?_
      repeat' (walk_at "pd1")
      refine u_lend hk1 hm1 hl h1 hsl ?_
      repeat' (walk_at "pd1")
      all_goals first
        | omega
        | (exfalso; omega)
        | (exfalso; rename_i hb _ _; exact hb trivial)
        | (exfalso; rename_i hb _; exact hb trivial)
        | (exfalso; rename_i hb; exact hb trivial)
        | (exfalso; rename_i hb _ _; exact hb rfl)
        | (exfalso; rename_i hb _; exact hb rfl)
        | (exfalso; rename_i hb; exact hb rfl)
        | skip
      exact ⟨⟨T ++ ([lstI ss] ++ [SO.lst [D.ref (S ++ T).length, tupI ss]]), by simp only [List.append_assoc]⟩, some (.int 0), some (.ref (S ++ T).length), some (.bl r), some (.bl r), rfl⟩
    · rw [hw2, show (0 : Int) + ((1 : Nat) : Int) = 1 from rfl]
      repeat' (walk_at "pd1")
      all_goals first
        | omega
        | (exfalso; omega)
        | (exfalso; rename_i hb _ _; exact hb trivial)
        | (exfalso; rename_i hb _; exact hb trivial)
        | (exfalso; rename_i hb; exact hb trivial)
        | (exfalso; rename_i hb _ _; exact hb rfl)
        | (exfalso; rename_i hb _; exact hb rfl)
        | (exfalso; rename_i hb; exact hb rfl)
        | skip
      have hs1 : StartsOk (S ++ T ++ [lstI ss] ++ [SO.lst [D.ref (S ++ T).length, tupI ss]]) (tupI ss) ss ls.length := ⟨.inl rfl, hnn, hsl⟩
      have hn1 : (S ++ T ++ [lstI ss] ++ [SO.lst [D.ref (S ++ T).length, tupI ss]])[n]? = some (blkO ls) := get_app (get_app (get_app hn))
      have hk1 : (S ++ T ++ [lstI ss] ++ [SO.lst [D.ref (S ++ T).length, tupI ss]])[kk]? = some (lvO ls) := get_app (get_app (get_app hk))
      have hm1 : (S ++ T ++ [lstI ss] ++ [SO.lst [D.ref (S ++ T).length, tupI ss]])[m]? = some (lstI ss) := get_app (get_app (get_app hm))
      refine u_placing hn1 hl h1 hs1 hr ?_
      repeat' (walk_at "pd1")
      refine u_aprs hn1 hl h1 hs1 hr ?_
      repeat' (walk_at "pd1")
      all_goals first
        | (exfalso; cases r <;> contradiction)
        | (exfalso; cases r <;> simp_all; done)
        | skip
      refine u_end hn1 hl h0 h1 hs1 hmx ?_
      repeat' (walk_at "pd1")
      refine u_lend hk1 hm1 hl h1 hsl ?_
      repeat' (walk_at "pd1")
      all_goals first
        | omega
        | (exfalso; omega)
        | (exfalso; rename_i hb _ _; exact hb trivial)
        | (exfalso; rename_i hb _; exact hb trivial)
        | (exfalso; rename_i hb; exact hb trivial)
        | (exfalso; rename_i hb _ _; exact hb rfl)
        | (exfalso; rename_i hb _; exact hb rfl)
        | (exfalso; rename_i hb; exact hb rfl)
        | skip
      exact ⟨⟨T ++ ([lstI ss] ++ [SO.lst [D.ref (S ++ T).length, tupI ss]]), by simp only [List.append_assoc]⟩, some (.int 1), some (tupI ss), some (.bl r), some (.bl r), rfl⟩
  · rintro e S' ⟨⟨T, rfl⟩, x, y, z, u, rfl⟩
    repeat' (walk_at "pd1")
    all_goals first
      | exact Ext.app _ _
      | rfl
theorem u_started {S : Store} {Q : DQ} {E : EQ} {n k m : Nat} {ls : List Life} {ss : List Int} (hn : S[n]? = some (blkO ls)) (hk : S[k]? = some (lvO ls)) (hm : S[m]? = some (lstI ss)) (h1 : LivesOk ls) (h2 : Short ls) (h4 : 0 < ls.length) (h5 : ls.length ≤ 1000) (h6 : ss.length = ls.length) (h7 : ∀ s ∈ ss, 0 ≤ s) (q : Q (.bl true) S) : FnS p__law_started [.ref n, .ref k, .ref m] S Q E := ⟨_, ⟨n, k, m, ls, ss, rfl, hn, hk, hm, h1, h2, h4, h5, h6, h7, rfl⟩, q⟩
theorem len__law_started : ∀ ds S o, p__law_started ds S o → ds.length = 3 := by rintro _ S o ⟨n, k, m, ls, ss, rfl, _⟩; rfl
theorem ok__law_started : ∀ ds S o, p__law_started ds S o → refsLts S.length ds = true → WfS S → okO S.length o = true := by rintro _ S o ⟨n, k, m, ls, ss, rfl, _, _, _, _, _, _, _, _, _, rfl⟩ _ _; rfl


end
section
set_option Elab.async false
set_option linter.all false
set_option maxRecDepth 100000
set_option maxHeartbeats 8000000
open PySem

theorem cut_neg (f : List Int) (h : 0 < f.length) : cutL (f.map D.int) none (some (-1)) = (f.take (f.length - 1)).map D.int := by
  unfold cutL
  have e1 : HT.sIx (f.map D.int).length 0 none = 0 := rfl
  have e2 : HT.sIx (f.map D.int).length (f.map D.int).length (some (-1)) = f.length - 1 := by
    rw [ml]
    unfold HT.sIx
    dsimp only
    rw [if_pos (by decide)]
    omega
  rw [e1, e2, List.drop_zero, Nat.sub_zero, List.map_take]
theorem s_ln {S : Store} {Q : DQ} {n : Nat} {f : List Int} (ha : S[n]? = some (lstI f)) (h0 : 0 < f.length) (h : Q (.ref S.length) (S ++ [lstI (f.take (f.length - 1))])) : wpSl S (.ref n) none (some (-1)) Q := by
  refine r_slL ha ?_
  rw [cut_neg f h0]
  exact h
theorem a_lg2 {S : Store} {Q : DQ} {n m : Nat} {xs ys : List D} (ha : S[n]? = some (.lst xs)) (hb : S[m]? = some (.lst ys)) (hl : xs.length + ys.length ≤ 16000000) (h : Q (.ref S.length) (S ++ [.lst (xs ++ ys)])) : wpBin S .add (.ref n) (.ref m) Q := r_addL ha hb (big _ hl) h

local macro_rules | `(tactic| walk_at "pd1") => `(tactic| first | (((with_reducible refine u_w_l (xs := ?xs) ?g0 ?_); (case g0 => walk_at "pg"))) | fail)
local macro_rules | `(tactic| walk_at "pd1") => `(tactic| first | (with_reducible refine u_w_u ?_) | fail)
local macro_rules | `(tactic| walk_at "pd1") => `(tactic| first | (with_reducible refine u_w_t ?_) | fail)
local macro_rules | `(tactic| walk_at "pd1") => `(tactic| first | (with_reducible refine u_w_n ?_) | fail)
local macro_rules | `(tactic| walk_at "pd1") => `(tactic| first | (with_reducible refine u_w_s ?_) | fail)
local macro_rules | `(tactic| walk_at "pd1") => `(tactic| first | (with_reducible refine u_w_b ?_) | fail)
local macro_rules | `(tactic| walk_at "pd1") => `(tactic| first | (with_reducible refine u_w_i ?_) | fail)
local macro_rules | `(tactic| walk_at "pd1") => `(tactic| first | (((with_reducible refine u_law_pick (l := ?l) ?g0 ?_ ?_ ?_ ?_); (case g0 => walk_at "pg"))) | fail)

local macro_rules | `(tactic| walk_at "pd1") => `(tactic| first | (((with_reducible refine a_lg2 (xs := ?xs) (ys := ?ys) ?g0 ?g1 ?_ ?_); (case g0 => walk_at "pg"); (case g1 => walk_at "pg"))) | fail)
local macro_rules | `(tactic| walk_at "pd1") => `(tactic| first | (((with_reducible refine s_ln (f := ?f) ?g0 ?_ ?_); (case g0 => walk_at "pg"))) | fail)
local macro_rules | `(tactic| walk_at "pd1") => `(tactic| first | (((with_reducible refine t_ll (ls := ?ls) ?g0 ?_); (case g0 => walk_at "pg"))) | fail)
local macro_rules | `(tactic| walk_at "pd1") => `(tactic| first | (((with_reducible refine i_ll (ls := ?ls) ?g0 ?_ ?_ ?_); (case g0 => walk_at "pg"))) | fail)
local macro_rules | `(tactic| walk_at "pd1") => `(tactic| first | (((with_reducible refine g_ll (ls := ?ls) ?g0 ?_); (case g0 => walk_at "pg"))) | fail)
local macro_rules | `(tactic| walk_at "pd1") => `(tactic| first | (((with_reducible refine n_ll (ls := ?ls) ?g0 ?_); (case g0 => walk_at "pg"))) | fail)
local macro_rules | `(tactic| walk_at "pd1") => `(tactic| first | (with_reducible refine g_lv ?_) | fail)
local macro_rules | `(tactic| walk_at "pd1") => `(tactic| first | (with_reducible refine n_lives ?_) | fail)
local macro_rules | `(tactic| walk_at "pd1") => `(tactic| first | (with_reducible refine i_life ?_ ?_ ?_) | fail)

theorem set_midR {α : Type} (l r : List α) (a o : α) : (l ++ a :: r).set l.length o = l ++ o :: r := by
  induction l with
  | nil => rfl
  | cons x l ih => exact congrArg (x :: ·) ih
theorem set_mid3 (X : Store) (a b c d o : SO) : (X ++ [a] ++ [b] ++ [c] ++ [d]).set X.length o = X ++ [o] ++ [b] ++ [c] ++ [d] := by
  have := set_midR (α := SO) X [b, c, d] a o
  simp only [List.append_assoc, List.cons_append, List.nil_append]
  exact this
def RowBad (S : Store) (n : Nat) (y : D) : Prop := ∃ d r, y = .tup [d, .int r] ∧ WS S d n r ∧ r ≠ -1
/-! ### _law_wrong_starts -/
def ws_body : List DS := [.asg (.nm 5) (.neg (.cst (.int 1))), .tr [.ex (.call 16 (.cons (.var 0) (.cons (.ix (.var 4) (.cst (.int 0))) .nil)))] 2 (some 6) [.asg (.nm 5) (.efld "place")], .ifs (.or (.cmp .ne (.var 5) (.ix (.var 4) (.cst (.int 1)))) (.or (.cmp .isn (.call 13 (.cons (.var 0) (.cons (.ix (.var 4) (.cst (.int 0))) .nil))) (.cst (.bl false))) (.cmp .isn (.call 15 (.cons (.var 0) (.cons (.ix (.var 4) (.cst (.int 0))) .nil))) (.cst (.bl false))))) [.ret (.some (.cst (.bl false)))] []]
theorem ws_loop (M : Md) (h13 : M.sp 13 = FnS p_is_placing) (h15 : M.sp 15 = FnS p_apart_pairs) (h16 : M.sp 16 = FnS p_end_of) (hk : M.kn 2 ["place"] = true) (hs : M.sub 2 2 = true) {S S1 : Store} {n m : Nat} {ls : List Life} {src : Src} {items : List D} {a1 a2 a3 a4 a5 : Option D}
    (he : Ext S S1) (hn : S1[n]? = some (blkO ls)) (hl : LivesOk ls) (h0 : 0 < ls.length) (h1 : ls.length ≤ 1000) (hi : ∀ y ∈ items, RowBad S1 ls.length y) (hst : still src S1) :
    FR (M.C (excO S (.val (.bl true)))) (.nm 4) ws_body src items { nx := fun e' S' => wpSs (M.C (excO S (.val (.bl true)))) [.ret (.some (.cst (.bl true)))] (retO S (.val (.bl true))) e' S', rt := (retO S (.val (.bl true))).rt, bk := (retO S (.val (.bl true))).bk, ct := (retO S (.val (.bl true))).ct } [some (.ref n), some (.ref m), a1, a2, a3, a4, a5] S1 := by
  refine FR_same (fun e => ∃ a1 a2 a3 a4 a5, e = [some (.ref n), some (.ref m), a1, a2, a3, a4, a5]) ⟨_, _, _, _, _, rfl⟩ hst ?_ ?_
  · rintro y e hy ⟨a1, a2, a3, a4, a5, rfl⟩
    obtain ⟨d, r, rfl, hw, hr⟩ := hi y hy
    have hsq : seqOf S1 (.tup [d, .int r]) = some [d, .int r] := rfl
    unfold ws_body
    repeat' (walk_at "pd1")
    refine u_end_x hn hl h0 h1 hw hr (x_tr hk hs (by show (6 : Nat) < 7; decide) ?_)
    repeat' (walk_at "pd1")
    all_goals first
      | omega
      | (exfalso; omega)
      | (exfalso; rename_i hb _ _; exact hb trivial)
      | (exfalso; rename_i hb _; exact hb trivial)
      | (exfalso; rename_i hb; exact hb trivial)
      | (exfalso; rename_i hb _ _; exact hb rfl)
      | (exfalso; rename_i hb _; exact hb rfl)
      | (exfalso; rename_i hb; exact hb rfl)
      | skip
    refine u_placing_x hn hl h1 hw hr ?_
    repeat' (walk_at "pd1")
    all_goals first
      | omega
      | (exfalso; omega)
      | (exfalso; rename_i hb _ _; exact hb trivial)
      | (exfalso; rename_i hb _; exact hb trivial)
      | (exfalso; rename_i hb; exact hb trivial)
      | (exfalso; rename_i hb _ _; exact hb rfl)
      | (exfalso; rename_i hb _; exact hb rfl)
      | (exfalso; rename_i hb; exact hb rfl)
      | skip
    refine u_aprs_x hn hl h1 hw hr ?_
    repeat' (walk_at "pd1")
    all_goals first
      | omega
      | (exfalso; omega)
      | (exfalso; rename_i hb _ _; exact hb trivial)
      | (exfalso; rename_i hb _; exact hb trivial)
      | (exfalso; rename_i hb; exact hb trivial)
      | (exfalso; rename_i hb _ _; exact hb rfl)
      | (exfalso; rename_i hb _; exact hb rfl)
      | (exfalso; rename_i hb; exact hb rfl)
      | skip
    all_goals first
      | exact ⟨rfl, _, _, _, _, _, rfl⟩
      | skip
  · rintro e ⟨a1, a2, a3, a4, a5, rfl⟩
    repeat' (walk_at "pd1")
    all_goals first
      | exact he
      | rfl
def p__law_wrong_starts : List D → Store → Out → Prop := fun ds S o => ∃ (n m : Nat) (ls : List Life) (ss : List Int), ds = [.ref n, .ref m] ∧ S[n]? = some (blkO ls) ∧ S[m]? = some (lstI ss) ∧ LivesOk ls ∧ 0 < ls.length ∧ ls.length ≤ 1000 ∧ ss.length = ls.length ∧ (∀ s ∈ ss, 0 ≤ s) ∧ o = .val (.bl true)



end
section
set_option Elab.async false
set_option linter.all false
set_option maxRecDepth 100000
set_option maxHeartbeats 8000000
open PySem

local macro_rules | `(tactic| walk_at "pd1") => `(tactic| first | (((with_reducible refine u_w_l (xs := ?xs) ?g0 ?_); (case g0 => walk_at "pg"))) | fail)
local macro_rules | `(tactic| walk_at "pd1") => `(tactic| first | (with_reducible refine u_w_u ?_) | fail)
local macro_rules | `(tactic| walk_at "pd1") => `(tactic| first | (with_reducible refine u_w_t ?_) | fail)
local macro_rules | `(tactic| walk_at "pd1") => `(tactic| first | (with_reducible refine u_w_n ?_) | fail)
local macro_rules | `(tactic| walk_at "pd1") => `(tactic| first | (with_reducible refine u_w_s ?_) | fail)
local macro_rules | `(tactic| walk_at "pd1") => `(tactic| first | (with_reducible refine u_w_b ?_) | fail)
local macro_rules | `(tactic| walk_at "pd1") => `(tactic| first | (with_reducible refine u_w_i ?_) | fail)
local macro_rules | `(tactic| walk_at "pd1") => `(tactic| first | (((with_reducible refine u_law_pick (l := ?l) ?g0 ?_ ?_ ?_ ?_); (case g0 => walk_at "pg"))) | fail)

local macro_rules | `(tactic| walk_at "pd1") => `(tactic| first | (((with_reducible refine a_lg2 (xs := ?xs) (ys := ?ys) ?g0 ?g1 ?_ ?_); (case g0 => walk_at "pg"); (case g1 => walk_at "pg"))) | fail)
local macro_rules | `(tactic| walk_at "pd1") => `(tactic| first | (((with_reducible refine s_ln (f := ?f) ?g0 ?_ ?_); (case g0 => walk_at "pg"))) | fail)

theorem rb_short {S : Store} {k n : Nat} {f : List Int} {r : Int} (h : S[k]? = some (lstI f)) (hn : ∀ s ∈ f, 0 ≤ s) (hl : f.length + 1 ≤ n) (hr : r = f.length) : RowBad S n (.tup [.ref k, .int r]) := by
  refine ⟨_, _, rfl, .inr ⟨"list", ty_l h, .inr rfl, f, hn, by omega, .inl ⟨seq_ref h, ?_⟩⟩, by omega⟩
  rw [if_neg (by omega)]
  exact hr
theorem rb_more {S : Store} {k n : Nat} {xs : List D} {r : Int} (h : S[k]? = some (.lst xs)) (f : List Int) (y : D) (post : List D) (hx : xs = f.map .int ++ y :: post) (hn : ∀ s ∈ f, 0 ≤ s) (hl : f.length ≤ n) (hy : f.length = n ∨ NotNat S y) (hr : r = f.length) : RowBad S n (.tup [.ref k, .int r]) := by
  subst hx
  exact ⟨_, _, rfl, .inr ⟨"list", ty_l h, .inr rfl, f, hn, hl, .inr ⟨y, post, seq_ref h, hy, hr⟩⟩, by omega⟩
theorem get_x4 (X : Store) (a o b c d : SO) : (X ++ [o] ++ [b] ++ [c] ++ [d])[(X ++ [a] ++ [b] ++ [c]).length]? = some d := by
  have e : (X ++ [a] ++ [b] ++ [c]).length = (X ++ [o] ++ [b] ++ [c]).length := by simp
  rw [e]
  exact get_last _ _
def ws1 : DS := .asg (.nm 3) (.lst (.cons (.tup (.cons (.cst (.int 7)) (.cons (.cst (.int 0)) .nil))) (.cons (.tup (.cons (.sl (.var 1) .none (.some (.neg (.cst (.int 1))))) (.cons (.bin .sub (.var 2) (.cst (.int 1))) .nil))) (.cons (.tup (.cons (.bin .add (.var 1) (.lst (.cons (.cst (.int 0)) .nil))) (.cons (.var 2) .nil))) (.cons (.tup (.cons (.bin .add (.lst (.cons (.neg (.cst (.int 1))) .nil)) (.sl (.var 1) (.some (.cst (.int 1))) .none)) (.cons (.cst (.int 0)) .nil))) (.cons (.tup (.cons (.bin .add (.lst (.cons (.cst (.bl true)) .nil)) (.sl (.var 1) (.some (.cst (.int 1))) .none)) (.cons (.cst (.int 0)) .nil))) .nil))))))
def ws2 : DS := .ex (.bm .append (.var 3) (.cons (.tup (.cons (.bin .add (.sl (.var 1) .none (.some (.neg (.cst (.int 1))))) (.lst (.cons (.cst .non) .nil))) (.cons (.bin .sub (.var 2) (.cst (.int 1))) .nil))) .nil))
theorem ws12 {C : SC} {B : DEnds} {rest : List DS} {S : Store} {n m : Nat} {ls : List Life} {ss : List Int} {x3 x4 x5 x6 : Option D} (hn : S[n]? = some (blkO ls)) (hm : S[m]? = some (lstI ss)) (h0 : 0 < ls.length) (h1 : ls.length ≤ 1000) (hsl : ss.length = ls.length) (hnn : ∀ s ∈ ss, 0 ≤ s)
    (h : ∀ S' r items, Ext S S' → S'[n]? = some (blkO ls) → S'[r]? = some (.lst items) → (∀ y ∈ items, RowBad S' ls.length y) → wpSs C rest B [some (.ref n), some (.ref m), some (.int ls.length), some (.ref r), x4, x5, x6] S') : wpSs C (ws1 :: ws2 :: rest) B [some (.ref n), some (.ref m), some (.int ls.length), x3, x4, x5, x6] S := by
  have tn : ∀ s ∈ ss.take (ss.length - 1), 0 ≤ s := fun s z => hnn s (List.mem_of_mem_take z)
  have tl : (ss.take (ss.length - 1)).length = ss.length - 1 := by rw [List.length_take]; omega
  unfold ws1 ws2
  repeat' (walk_at "pd1")
  all_goals first
    | (simp only [List.length_map, List.length_cons, List.length_nil, List.length_take, List.length_drop]; omega)
    | omega
    | (show (5 : Nat) ≤ 16000000; decide)
    | skip
  rw [set_mid3]
  refine h _ _ _ (by repeat (first | exact Ext.refl _ | refine Ext.trans ?_ (Ext.app _ _))) (by walk_at "pg") (by walk_at "pg") ?_
  intro y hy
  simp only [List.cons_append, List.nil_append, List.mem_cons, List.not_mem_nil, or_false] at hy
  rcases hy with rfl | rfl | rfl | rfl | rfl | rfl
  · exact ⟨.int 7, 0, rfl, .inl ⟨"int", rfl, by decide, by decide, rfl⟩, by decide⟩
  · exact rb_short (by walk_at "pg") tn (by omega) (by omega)
  · exact rb_more (by walk_at "pg") (ss) (.int 0) ([]) rfl hnn (by omega) (.inl hsl) (by omega)
  · exact rb_more (by walk_at "pg") ([]) (.int (-1)) ((ss.drop 1).map D.int) rfl (fun _ z => by cases z) (Nat.zero_le _) (.inr ⟨"int", rfl, .inr ⟨-1, rfl, by decide⟩⟩) rfl
  · exact rb_more (by walk_at "pg") ([]) (.bl true) ((ss.drop 1).map D.int) rfl (fun _ z => by cases z) (Nat.zero_le _) (.inr ⟨"bool", rfl, .inl (by decide)⟩) rfl
  · exact rb_more (get_x4 _ _ _ _ _ _) (ss.take (ss.length - 1)) (.non) ([]) rfl tn (by omega) (.inr ⟨"NoneType", rfl, .inl (by decide)⟩) (by omega)
theorem vc__law_wrong_starts (M : Md) (h13 : M.sp 13 = FnS p_is_placing) (h15 : M.sp 15 = FnS p_apart_pairs) (h16 : M.sp 16 = FnS p_end_of) (hk : M.kn 2 ["place"] = true) (hs : M.sub 2 2 = true) :
    ∀ ds S o, p__law_wrong_starts ds S o → wpSs (M.C (excO S o)) b__law_wrong_starts (retO S o) (startD n__law_wrong_starts ds) S := by
  rintro ds S o ⟨n, m, ls, ss, rfl, hn, hm, hl, h0, h1, hsl, hnn, rfl⟩
  simp only [b__law_wrong_starts, startD, List.map, List.length, List.replicate, Nat.reduceAdd, Nat.reduceSub, List.cons_append, List.nil_append]
  refine r_seq (r_asg (r_bi (r_esC (r_var rfl (r_esN (n_l hm (r_nm ?_)))))))
  rw [hsl]
  refine ws12 hn hm h0 h1 hsl hnn ?_
  intro S' r items he hn' hr hi
  refine r_seq (r_fr (r_iSeq (r_var rfl (g_lg hr ?_))))
  refine ⟨still_seq (seq_ref hr), ?_⟩
  exact ws_loop M h13 h15 h16 hk hs he hn' hl h0 h1 hi (still_seq (seq_ref hr))
theorem u_wstarts {S : Store} {Q : DQ} {E : EQ} {n m : Nat} {ls : List Life} {ss : List Int} (hn : S[n]? = some (blkO ls)) (hm : S[m]? = some (lstI ss)) (h1 : LivesOk ls) (h4 : 0 < ls.length) (h5 : ls.length ≤ 1000) (h6 : ss.length = ls.length) (h7 : ∀ s ∈ ss, 0 ≤ s) (q : Q (.bl true) S) : FnS p__law_wrong_starts [.ref n, .ref m] S Q E := ⟨_, ⟨n, m, ls, ss, rfl, hn, hm, h1, h4, h5, h6, h7, rfl⟩, q⟩
theorem len__law_wrong_starts : ∀ ds S o, p__law_wrong_starts ds S o → ds.length = 2 := by rintro _ S o ⟨n, m, ls, ss, rfl, _⟩; rfl
theorem ok__law_wrong_starts : ∀ ds S o, p__law_wrong_starts ds S o → refsLts S.length ds = true → WfS S → okO S.length o = true := by rintro _ S o ⟨n, m, ls, ss, rfl, _, _, _, _, _, _, _, rfl⟩ _ _; rfl


end
section
set_option Elab.async false
set_option linter.all false
set_option maxRecDepth 100000
set_option maxHeartbeats 8000000
open PySem

theorem falls1 {a : Int} (h : 0 ≤ a) : Falls [a] := by
  intro i hi
  cases i with
  | zero => exact ⟨h, fun z => absurd z (Nat.lt_irrefl 0)⟩
  | succ i => exact absurd hi (by show ¬ (i + 1 < 1); omega)
theorem falls21 : Falls [2, 1] := by
  intro i hi
  match i, hi with
  | 0, _ => exact ⟨by decide, fun z => absurd z (Nat.lt_irrefl 0)⟩
  | 1, _ => exact ⟨by decide, fun _ => by decide⟩
  | i + 2, hi => exact absurd hi (by show ¬ (i + 2 < 2); omega)
def Ap (S S' : Store) : Prop := ∃ T, S' = S ++ T
theorem Ap.refl (S : Store) : Ap S S := ⟨[], (List.append_nil _).symm⟩
theorem Ap.app {S S' L : Store} (h : Ap S S') : Ap S (S' ++ L) := by
  obtain ⟨T, rfl⟩ := h
  exact ⟨T ++ L, List.append_assoc ..⟩
theorem Ap.trans {S S' S2 : Store} (h : Ap S S') (k : Ap S' S2) : Ap S S2 := by
  obtain ⟨T, rfl⟩ := k
  exact h.app
theorem Ap.get {S S' : Store} (h : Ap S S') {n : Nat} {o : SO} (k : S[n]? = some o) : S'[n]? = some o := by
  obtain ⟨T, rfl⟩ := h
  exact get_app k
theorem Ap.ext {S S' : Store} (h : Ap S S') : Ext S S' := by
  obtain ⟨T, rfl⟩ := h
  exact Ext.app _ _
def RowR (S : Store) (y : D) : Prop := ∃ d r, y = .tup [d, .int r] ∧ p_init [d] S (.exc (ePlace r))
theorem Pre.app {S T : Store} {xs : List D} {ls : List Life} (h : Pre S xs ls) : Pre (S ++ T) xs ls := ⟨h.1, fun k hk => by
  obtain ⟨t, h1, h2⟩ := h.2 k hk
  exact ⟨t, h1, h2.app⟩⟩
theorem init_app {S T : Store} {ds : List D} {o : IOut} (h : p_init ds S o) : p_init ds (S ++ T) o := by
  obtain ⟨d, a, rfl, ht, (⟨q1, q2, rfl⟩ | ⟨q1, xs, hx, (⟨rfl, rfl⟩ | ⟨ls, hp, h0, h24, ho, rfl⟩ | ⟨pre, y, post, ls, rfl, hp, h24, ho, hb, rfl⟩)⟩)⟩ := h
  · exact ⟨d, a, rfl, ty_ext ht, .inl ⟨q1, q2, rfl⟩⟩
  · exact ⟨d, a, rfl, ty_ext ht, .inr ⟨q1, _, seq_ext hx, .inl ⟨rfl, rfl⟩⟩⟩
  · exact ⟨d, a, rfl, ty_ext ht, .inr ⟨q1, _, seq_ext hx, .inr (.inl ⟨ls, hp.app, h0, h24, ho, rfl⟩)⟩⟩
  · refine ⟨d, a, rfl, ty_ext ht, .inr ⟨q1, _, seq_ext hx, .inr (.inr ⟨pre, y, post, ls, rfl, hp.app, h24, ho, ?_, rfl⟩)⟩⟩
    rcases hb with hb | ⟨l, hb, hc⟩
    · exact .inl hb.app
    · exact .inr ⟨l, hb.app, hc⟩
theorem RowR.ap {S S' : Store} (k : Ap S S') {y : D} (h : RowR S y) : RowR S' y := by
  obtain ⟨T, rfl⟩ := k
  obtain ⟨d, r, rfl, hp⟩ := h
  exact ⟨d, r, rfl, init_app hp⟩
theorem good_life {S : Store} {l : Life} (h : LifeOk l) : GoodLife S (lifeD l) l := ⟨"tuple", tupI l.2, rfl, .inl rfl, rfl, .inl rfl, h⟩
theorem pre_lives {S : Store} {ls : List Life} (hl : LivesOk ls) : Pre S (ls.map lifeD) ls := ⟨by rw [List.length_map], fun k hk => ⟨lifeD (lf ls k), by rw [List.getElem?_map, lf_get hk]; rfl, good_life (hl.at (by omega) (by omega))⟩⟩
theorem rr_more {S : Store} {k : Nat} {xs : List D} {r : Int} (h : S[k]? = some (.lst xs)) {pre : List D} {ls : List Life} (y : D) (post : List D) (hx : xs = pre ++ y :: post) (hp : Pre S pre ls) (h24 : ls.length ≤ 24) (ho : Sorted ls) (hb : BadLife S y ∨ ∃ l, GoodLife S y l ∧ (l.1 < earl ls ls.length ∨ ls.length = 24)) (hr : r = ls.length) : RowR S (.tup [.ref k, .int r]) := by
  subst hx
  subst hr
  exact ⟨_, _, rfl, _, "list", rfl, ty_l h, .inr ⟨.inr rfl, _, seq_ref h, .inr (.inr ⟨pre, y, post, ls, rfl, hp, h24, ho, hb, rfl⟩)⟩⟩
theorem bad_pair {S : Store} {i : Int} {x : D} (h0 : 0 ≤ i) (h : BadLs S x) : BadLife S (.tup [.int i, x]) := .inr ⟨"tuple", _, rfl, .inl rfl, rfl, .inr ⟨_, _, rfl, .inr (.inr ⟨i, rfl, h0, h⟩)⟩⟩
theorem bad_neg {S : Store} {i : Int} {x : D} (h0 : i < 0) : BadLife S (.tup [.int i, x]) := .inr ⟨"tuple", _, rfl, .inl rfl, rfl, .inr ⟨_, _, rfl, .inr (.inl ⟨i, rfl, h0⟩)⟩⟩
theorem bad_int {S : Store} {i : Int} : BadLife S (.int i) := .inl ⟨"int", rfl, by decide, by decide⟩
theorem earl_nn {ls : List Life} (hl : LivesOk ls) : 0 ≤ earl ls ls.length := by
  cases h : ls.length with
  | zero => exact Int.le_refl _
  | succ k => exact (hl.at (b := (k : Int)) (by omega) (by omega)).p0
theorem earl_hi {ls : List Life} (hl : LivesOk ls) : earl ls ls.length ≤ 1000 := by
  cases h : ls.length with
  | zero => show (0 : Int) ≤ 1000; decide
  | succ k => exact (hl.at (b := (k : Int)) (by omega) (by omega)).hi

local macro_rules | `(tactic| walk_at "pd1") => `(tactic| first | (((with_reducible refine u_w_l (xs := ?xs) ?g0 ?_); (case g0 => walk_at "pg"))) | fail)
local macro_rules | `(tactic| walk_at "pd1") => `(tactic| first | (with_reducible refine u_w_u ?_) | fail)
local macro_rules | `(tactic| walk_at "pd1") => `(tactic| first | (with_reducible refine u_w_t ?_) | fail)
local macro_rules | `(tactic| walk_at "pd1") => `(tactic| first | (with_reducible refine u_w_n ?_) | fail)
local macro_rules | `(tactic| walk_at "pd1") => `(tactic| first | (with_reducible refine u_w_s ?_) | fail)
local macro_rules | `(tactic| walk_at "pd1") => `(tactic| first | (with_reducible refine u_w_b ?_) | fail)
local macro_rules | `(tactic| walk_at "pd1") => `(tactic| first | (with_reducible refine u_w_i ?_) | fail)
local macro_rules | `(tactic| walk_at "pd1") => `(tactic| first | (((with_reducible refine u_law_pick (l := ?l) ?g0 ?_ ?_ ?_ ?_); (case g0 => walk_at "pg"))) | fail)

local macro_rules | `(tactic| walk_at "pd1") => `(tactic| first | (((with_reducible refine a_lg2 (xs := ?xs) (ys := ?ys) ?g0 ?g1 ?_ ?_); (case g0 => walk_at "pg"); (case g1 => walk_at "pg"))) | fail)
local macro_rules | `(tactic| walk_at "pd1") => `(tactic| first | (((with_reducible refine n_ll (ls := ?ls) ?g0 ?_); (case g0 => walk_at "pg"))) | fail)
local macro_rules | `(tactic| walk_at "pd1") => `(tactic| first | (with_reducible refine g_lv ?_) | fail)
local macro_rules | `(tactic| walk_at "pd1") => `(tactic| first | (with_reducible refine n_lives ?_) | fail)
local macro_rules | `(tactic| walk_at "pd1") => `(tactic| first | (with_reducible refine i_life ?_ ?_ ?_) | fail)

def rf2 : DS := .asg (.nm 3) (.lst (.cons (.tup (.cons (.cst (.int 7)) (.cons (.cst (.int 0)) .nil))) (.cons (.tup (.cons (.lst (.nil)) (.cons (.cst (.int 0)) .nil))) (.cons (.tup (.cons (.bin .add (.var 0) (.lst (.cons (.tup (.cons (.bin .sub (.var 1) (.cst (.int 1))) (.cons (.tup (.cons (.cst (.int 1)) .nil)) .nil))) .nil))) (.cons (.var 2) .nil))) (.cons (.tup (.cons (.bin .add (.var 0) (.lst (.cons (.tup (.cons (.var 1) (.cons (.tup (.cons (.cst (.int 1)) (.cons (.cst (.int 2)) .nil))) .nil))) .nil))) (.cons (.var 2) .nil))) .nil)))))
def rf3 : DS := .asg (.nm 3) (.bin .add (.var 3) (.lst (.cons (.tup (.cons (.bin .add (.var 0) (.lst (.cons (.tup (.cons (.var 1) (.cons (.tup (.nil)) .nil))) .nil))) (.cons (.var 2) .nil))) (.cons (.tup (.cons (.bin .add (.var 0) (.lst (.cons (.tup (.cons (.var 1) (.cons (.tup (.cons (.neg (.cst (.int 1))) .nil)) .nil))) .nil))) (.cons (.var 2) .nil))) (.cons (.tup (.cons (.bin .add (.var 0) (.lst (.cons (.tup (.cons (.var 1) (.cons (.tup (.cons (.cst (.int 1)) (.cons (.cst (.bl true)) .nil))) .nil))) .nil))) (.cons (.var 2) .nil))) .nil)))))
def rf4 : DS := .asg (.nm 3) (.bin .add (.var 3) (.lst (.cons (.tup (.cons (.bin .add (.var 0) (.lst (.cons (.tup (.cons (.cst (.bl true)) (.cons (.tup (.cons (.cst (.int 1)) .nil)) .nil))) .nil))) (.cons (.var 2) .nil))) (.cons (.tup (.cons (.bin .add (.var 0) (.lst (.cons (.tup (.cons (.var 1) (.cons (.tup (.cons (.cst (.int 1)) .nil)) (.cons (.cst (.int 0)) .nil)))) .nil))) (.cons (.var 2) .nil))) (.cons (.tup (.cons (.bin .add (.lst (.cons (.tup (.cons (.neg (.cst (.int 1))) (.cons (.tup (.cons (.cst (.int 1)) .nil)) .nil))) .nil)) (.var 0)) (.cons (.cst (.int 0)) .nil))) .nil)))))
def rf5 : DS := .asg (.nm 3) (.bin .add (.var 3) (.lst (.cons (.tup (.cons (.bin .add (.var 0) (.lst (.cons (.cst (.int 5)) .nil))) (.cons (.var 2) .nil))) (.cons (.tup (.cons (.bin .add (.var 0) (.lst (.cons (.tup (.cons (.var 1) (.cons (.cst (.int 5)) .nil))) .nil))) (.cons (.var 2) .nil))) (.cons (.tup (.cons (.bin .add (.bin .add (.var 0) (.lst (.cons (.tup (.cons (.var 1) (.cons (.tup (.cons (.cst (.int 2)) (.cons (.cst (.int 1)) (.cons (.cst (.int 2)) .nil)))) .nil))) .nil))) (.lst (.cons (.cst (.int 5)) .nil))) (.cons (.var 2) .nil))) .nil)))))
theorem rf2_ok {C : SC} {B : DEnds} {S : Store} {kk : Nat} {ls : List Life} {last : Int} {x3 x4 x5 x6 : Option D} (hk : S[kk]? = some (lvO ls)) (hl : LivesOk ls) (ho : Sorted ls) (h0 : 0 < ls.length) (h24 : ls.length ≤ 24) (hla : last = earl ls ls.length)
    (h : ∀ S' r' items', Ap S S' → S'[r']? = some (.lst items') → items'.length ≤ 4 → (∀ y ∈ items', RowR S' y) → B.nx [some (.ref kk), some (.int last), some (.int ls.length), some (.ref r'), x4, x5, x6] S') : wpS C rf2 B [some (.ref kk), some (.int last), some (.int ls.length), x3, x4, x5, x6] S := by
  have n1 := earl_nn hl
  have n2 := earl_hi hl
  unfold rf2
  repeat' (walk_at "pd1")
  all_goals first
    | (simp only [List.length_map, List.length_cons, List.length_nil, List.length_append]; omega)
    | omega
    | skip

  refine h _ _ _ (by repeat (first | exact Ap.refl _ | refine Ap.app ?_)) (by walk_at "pg") (by show (4 : Nat) ≤ 4; decide) ?_
  intro y hy
  simp only [List.mem_cons, List.not_mem_nil, or_false] at hy
  rcases hy with rfl | rfl | rfl | rfl
  · exact ⟨.int 7, 0, rfl, _, "int", rfl, rfl, .inl ⟨by decide, by decide, rfl⟩⟩
  · exact ⟨_, 0, rfl, _, "list", rfl, ty_l (by walk_at "pg"), .inr ⟨.inr rfl, [], seq_ref (by walk_at "pg"), .inl ⟨rfl, rfl⟩⟩⟩
  · refine rr_more (by walk_at "pg") (.tup [.int (last - 1), tupI [1]]) [] rfl (pre_lives hl) h24 ho ?_ rfl
    by_cases z : last - 1 < 0
    · exact .inl (bad_neg z)
    · have hg : LifeOk (last - 1, [1]) := ⟨by show 0 ≤ last - 1; omega, by show last - 1 ≤ 1000; omega, by simp, by show (1 : Nat) ≤ 1000; decide, falls1 (by decide)⟩
      exact .inr ⟨(last - 1, [1]), good_life hg, .inl (by show last - 1 < earl ls ls.length; omega)⟩
  · refine rr_more (by walk_at "pg") (.tup [.int last, tupI [1, 2]]) [] rfl (pre_lives hl) h24 ho (.inl (bad_pair (by omega) ?_)) rfl
    exact .inr ⟨"tuple", _, rfl, .inl rfl, rfl, .inr ⟨[1], .int 2, [], rfl, falls1 (by decide), "int", rfl, .inr ⟨2, rfl, .inr ⟨by decide, by decide⟩⟩⟩⟩
theorem rf3_ok {C : SC} {B : DEnds} {S : Store} {kk r : Nat} {ls : List Life} {items : List D} {last : Int} {x4 x5 x6 : Option D} (hk : S[kk]? = some (lvO ls)) (hr : S[r]? = some (.lst items)) (hn : items.length ≤ 100) (hl : LivesOk ls) (ho : Sorted ls) (h0 : 0 < ls.length) (h24 : ls.length ≤ 24) (hla : last = earl ls ls.length) (hi : ∀ y ∈ items, RowR S y)
    (h : ∀ S' r' items', Ap S S' → S'[r']? = some (.lst items') → items'.length ≤ items.length + 4 → (∀ y ∈ items', RowR S' y) → B.nx [some (.ref kk), some (.int last), some (.int ls.length), some (.ref r'), x4, x5, x6] S') : wpS C rf3 B [some (.ref kk), some (.int last), some (.int ls.length), some (.ref r), x4, x5, x6] S := by
  have n1 := earl_nn hl
  unfold rf3
  repeat' (walk_at "pd1")
  all_goals first
    | (simp only [List.length_map, List.length_cons, List.length_nil, List.length_append]; omega)
    | omega
    | skip
  refine h _ _ _ (by repeat (first | exact Ap.refl _ | refine Ap.app ?_)) (by walk_at "pg") (by simp only [List.length_append, List.length_cons, List.length_nil]; omega) ?_
  intro y hy
  simp only [List.cons_append, List.nil_append, List.mem_append, List.mem_cons, List.not_mem_nil, or_false] at hy
  rcases hy with hy | rfl | rfl | rfl
  · exact (hi y hy).ap (by repeat (first | exact Ap.refl _ | refine Ap.app ?_))
  · exact rr_more (by walk_at "pg") (.tup [.int last, tupI []]) [] rfl (pre_lives hl) h24 ho (.inl (bad_pair (by omega) (.inr ⟨"tuple", _, rfl, .inl rfl, rfl, .inl rfl⟩))) rfl
  · exact rr_more (by walk_at "pg") (.tup [.int last, tupI [-1]]) [] rfl (pre_lives hl) h24 ho (.inl (bad_pair (by omega) (.inr ⟨"tuple", _, rfl, .inl rfl, rfl, .inr ⟨[], .int (-1), [], rfl, fun i z => absurd z (Nat.not_lt_zero i), "int", rfl, .inr ⟨-1, rfl, .inl (by decide)⟩⟩⟩))) rfl
  · exact rr_more (by walk_at "pg") (.tup [.int last, .tup [.int 1, .bl true]]) [] rfl (pre_lives hl) h24 ho (.inl (bad_pair (by omega) (.inr ⟨"tuple", _, rfl, .inl rfl, rfl, .inr ⟨[1], .bl true, [], rfl, falls1 (by decide), "bool", rfl, .inl (by decide)⟩⟩))) rfl
theorem rf4_ok {C : SC} {B : DEnds} {S : Store} {kk r : Nat} {ls : List Life} {items : List D} {last : Int} {x4 x5 x6 : Option D} (hk : S[kk]? = some (lvO ls)) (hr : S[r]? = some (.lst items)) (hn : items.length ≤ 100) (hl : LivesOk ls) (ho : Sorted ls) (h0 : 0 < ls.length) (h24 : ls.length ≤ 24) (hla : last = earl ls ls.length) (hi : ∀ y ∈ items, RowR S y)
    (h : ∀ S' r' items', Ap S S' → S'[r']? = some (.lst items') → items'.length ≤ items.length + 4 → (∀ y ∈ items', RowR S' y) → B.nx [some (.ref kk), some (.int last), some (.int ls.length), some (.ref r'), x4, x5, x6] S') : wpS C rf4 B [some (.ref kk), some (.int last), some (.int ls.length), some (.ref r), x4, x5, x6] S := by
  have n1 := earl_nn hl
  unfold rf4
  repeat' (walk_at "pd1")
  all_goals first
    | (simp only [List.length_map, List.length_cons, List.length_nil, List.length_append]; omega)
    | omega
    | skip
  refine h _ _ _ (by repeat (first | exact Ap.refl _ | refine Ap.app ?_)) (by walk_at "pg") (by simp only [List.length_append, List.length_cons, List.length_nil]; omega) ?_
  intro y hy
  simp only [List.cons_append, List.nil_append, List.mem_append, List.mem_cons, List.not_mem_nil, or_false] at hy
  rcases hy with hy | rfl | rfl | rfl
  · exact (hi y hy).ap (by repeat (first | exact Ap.refl _ | refine Ap.app ?_))
  · exact rr_more (by walk_at "pg") (.tup [.bl true, tupI [1]]) [] rfl (pre_lives hl) h24 ho (.inl (.inr ⟨"tuple", _, rfl, .inl rfl, rfl, .inr ⟨_, _, rfl, .inl ⟨"bool", rfl, by decide⟩⟩⟩)) rfl
  · exact rr_more (by walk_at "pg") (.tup [.int last, tupI [1], .int 0]) [] rfl (pre_lives hl) h24 ho (.inl (.inr ⟨"tuple", _, rfl, .inl rfl, rfl, .inl (by show (3 : Nat) ≠ 2; decide)⟩)) rfl
  · exact rr_more (by walk_at "pg") (pre := []) (ls := []) (.tup [.int (-1), tupI [1]]) (ls.map lifeD) rfl (pre_lives (ls := []) (fun l z => by cases z)) (Nat.zero_le _) (fun k z => absurd z (Nat.not_lt_zero _)) (.inl (bad_neg (by decide))) rfl
theorem rf5_ok {C : SC} {B : DEnds} {S : Store} {kk r : Nat} {ls : List Life} {items : List D} {last : Int} {x4 x5 x6 : Option D} (hk : S[kk]? = some (lvO ls)) (hr : S[r]? = some (.lst items)) (hn : items.length ≤ 100) (hl : LivesOk ls) (ho : Sorted ls) (h0 : 0 < ls.length) (h24 : ls.length ≤ 24) (hla : last = earl ls ls.length) (hi : ∀ y ∈ items, RowR S y)
    (h : ∀ S' r' items', Ap S S' → S'[r']? = some (.lst items') → items'.length ≤ items.length + 4 → (∀ y ∈ items', RowR S' y) → B.nx [some (.ref kk), some (.int last), some (.int ls.length), some (.ref r'), x4, x5, x6] S') : wpS C rf5 B [some (.ref kk), some (.int last), some (.int ls.length), some (.ref r), x4, x5, x6] S := by
  have n1 := earl_nn hl
  unfold rf5
  repeat' (walk_at "pd1")
  all_goals first
    | (simp only [List.length_map, List.length_cons, List.length_nil, List.length_append]; omega)
    | omega
    | skip
  refine h _ _ _ (by repeat (first | exact Ap.refl _ | refine Ap.app ?_)) (by walk_at "pg") (by simp only [List.length_append, List.length_cons, List.length_nil]; omega) ?_
  intro y hy
  simp only [List.cons_append, List.nil_append, List.mem_append, List.mem_cons, List.not_mem_nil, or_false] at hy
  rcases hy with hy | rfl | rfl | rfl
  · exact (hi y hy).ap (by repeat (first | exact Ap.refl _ | refine Ap.app ?_))
  · exact rr_more (by walk_at "pg") (.int 5) [] rfl (pre_lives hl) h24 ho (.inl bad_int) rfl
  · exact rr_more (by walk_at "pg") (.tup [.int last, .int 5]) [] rfl (pre_lives hl) h24 ho (.inl (bad_pair (by omega) (.inl ⟨"int", rfl, by decide, by decide⟩))) rfl
  · exact rr_more (by walk_at "pg") (.tup [.int last, tupI [2, 1, 2]]) [.int 5] (by rw [List.append_assoc]; rfl) (pre_lives hl) h24 ho (.inl (bad_pair (by omega) (.inr ⟨"tuple", _, rfl, .inl rfl, rfl, .inr ⟨[2, 1], .int 2, [], rfl, falls21, "int", rfl, .inr ⟨2, rfl, .inr ⟨by decide, by decide⟩⟩⟩⟩))) rfl
def rf6 : DS := .asg (.nm 3) (.bin .add (.var 3) (.lst (.cons (.tup (.cons (.lc [4] (.nm 4) (.rng (.cons (.cst (.int 25)) .nil)) .none (.tup (.cons (.cst (.int 0)) (.cons (.tup (.cons (.cst (.int 1)) .nil)) .nil)))) (.cons (.cst (.int 24)) .nil))) (.cons (.tup (.cons (.bin .add (.lc [4] (.nm 4) (.rng (.cons (.cst (.int 24)) .nil)) .none (.tup (.cons (.var 4) (.cons (.tup (.cons (.var 4) .nil)) .nil)))) (.lst (.cons (.cst (.int 5)) .nil))) (.cons (.cst (.int 24)) .nil))) .nil))))
def lvA (_ : Nat) : Life := (0, [1])
def lvB (b : Nat) : Life := (b, [(b : Int)])
theorem lvA_ok (n : Nat) : LivesOk ((List.range n).map lvA) := by
  intro l hl
  obtain ⟨i, hi, rfl⟩ := List.mem_map.1 hl
  exact ⟨by show (0 : Int) ≤ 0; decide, by show (0 : Int) ≤ 1000; decide, by simp [lvA], by show (1 : Nat) ≤ 1000; decide, falls1 (by decide)⟩
theorem lvB_ok (n : Nat) (h : n ≤ 1000) : LivesOk ((List.range n).map lvB) := by
  intro l hl
  obtain ⟨i, hi, rfl⟩ := List.mem_map.1 hl
  have := List.mem_range.1 hi
  exact ⟨by show (0 : Int) ≤ (i : Int); omega, by show (i : Int) ≤ 1000; omega, by simp [lvB], by show (1 : Nat) ≤ 1000; decide, falls1 (by omega)⟩
theorem lf_map (f : Nat → Life) {n k : Nat} (h : k < n) : lf ((List.range n).map f) k = f k := by
  have := lf_get (ls := (List.range n).map f) (k := k) (by rw [List.length_map, List.length_range]; exact h)
  rw [List.getElem?_map, List.getElem?_range h] at this
  exact (Option.some.inj this).symm
theorem lvA_so (n : Nat) : Sorted ((List.range n).map lvA) := by
  intro k hk
  rw [List.length_map, List.length_range] at hk
  rw [lf_map lvA (by omega), lf_map lvA hk]
  exact Int.le_refl _
theorem lvB_so (n : Nat) : Sorted ((List.range n).map lvB) := by
  intro k hk
  rw [List.length_map, List.length_range] at hk
  rw [lf_map lvB (by omega), lf_map lvB hk]
  show (k : Int) ≤ ((k + 1 : Nat) : Int)
  omega
theorem rng_map (f : Nat → Life) (n : Nat) : (List.range (n + 1)).map (fun b => lifeD (f b)) = (List.range n).map (fun b => lifeD (f b)) ++ [lifeD (f n)] := by
  rw [List.range_succ, List.map_append]
  rfl
theorem rf6_ok {C : SC} {B : DEnds} {S : Store} {kk r : Nat} {ls : List Life} {items : List D} {last : Int} {x4 x5 x6 : Option D} (hk : S[kk]? = some (lvO ls)) (hr : S[r]? = some (.lst items)) (hn : items.length ≤ 100) (hl : LivesOk ls) (ho : Sorted ls) (h0 : 0 < ls.length) (h24 : ls.length ≤ 24) (hla : last = earl ls ls.length) (hi : ∀ y ∈ items, RowR S y)
    (h : ∀ S' r' items', Ap S S' → S'[r']? = some (.lst items') → items'.length ≤ items.length + 4 → (∀ y ∈ items', RowR S' y) → B.nx [some (.ref kk), some (.int last), some (.int ls.length), some (.ref r'), x4, x5, x6] S') : wpS C rf6 B [some (.ref kk), some (.int last), some (.int ls.length), some (.ref r), x4, x5, x6] S := by
  unfold rf6
  repeat' (walk_at "pd1")
  all_goals first
    | omega
    | skip
  refine lc_ind (lstep_m _ _ _ _ _ _) (fun k S2 => S2 = S ++ [.lst ((List.range k).map fun b => lifeD (lvA b))]) rfl ?_ ?_
  · rintro k y S2 hy rfl
    have hy1 := (rngL_get hy).1
    unfold lcStep
    repeat' (walk_at "pd1")
    refine ⟨_, get_last _ _, ?_, ?_⟩
    · rw [List.length_map, List.length_range]
      exact big' _ (by omega)
    · rw [set_last, rng_map]
      rfl
  · rintro S2 rfl
    rw [rngL_len]
    repeat' (walk_at "pd1")
    all_goals first
      | omega
      | skip
    refine lc_ind (lstep_m _ _ _ _ _ _) (fun k S2 => S2 = S ++ [SO.lst ((List.range (Int.toNat 25)).map fun b => lifeD (lvA b))] ++ [SO.lst ((List.range k).map fun b => lifeD (lvB b))]) rfl ?_ ?_
    · rintro k y S2 hy rfl
      have hy1 := (rngL_get hy).1
      have hy2 := (rngL_get hy).2
      have e1 : (0 + (k : Int)) = (k : Int) := by omega
      rw [hy2, e1]
      unfold lcStep
      repeat' (walk_at "pd1")
      refine ⟨_, get_last _ _, ?_, ?_⟩
      · rw [List.length_map, List.length_range]
        exact big' _ (by omega)
      · rw [set_last, rng_map]
        rfl
    · rintro S2 rfl
      rw [rngL_len]
      repeat' (walk_at "pd1")
      all_goals first
        | (simp only [List.length_map, List.length_range, List.length_cons, List.length_nil, List.length_append]; omega)
        | omega
        | skip
      refine h _ _ _ (by repeat (first | exact Ap.refl _ | refine Ap.app ?_)) (by walk_at "pg") (by simp only [List.length_append, List.length_cons, List.length_nil]; omega) ?_
      intro y hy
      simp only [List.cons_append, List.nil_append, List.mem_append, List.mem_cons, List.not_mem_nil, or_false] at hy
      have e24 : ((List.range 24).map lvA).length = 24 := by rw [List.length_map, List.length_range]
      have f24 : ((List.range 24).map lvB).length = 24 := by rw [List.length_map, List.length_range]
      rcases hy with hy | rfl | rfl
      · exact (hi y hy).ap (by repeat (first | exact Ap.refl _ | refine Ap.app ?_))
      · refine rr_more (by walk_at "pg") (ls := (List.range 24).map lvA) (lifeD (lvA 24)) [] (rng_map lvA 24) (by have q := fun S0 => pre_lives (S := S0) (lvA_ok 24); simp only [List.map_map] at q; exact q _) (by omega) (lvA_so 24) (.inr ⟨lvA 24, good_life ?_, .inr e24⟩) (by rw [e24]; rfl)
        exact ⟨by show (0 : Int) ≤ 0; decide, by show (0 : Int) ≤ 1000; decide, by simp [lvA], by show (1 : Nat) ≤ 1000; decide, falls1 (by decide)⟩
      · refine rr_more (by walk_at "pg") (ls := (List.range 24).map lvB) (.int 5) [] rfl (by have q := fun S0 => pre_lives (S := S0) (lvB_ok 24 (by decide)); simp only [List.map_map] at q; exact q _) (by omega) (lvB_so 24) (.inl bad_int) (by rw [f24]; rfl)


end
section
set_option Elab.async false
set_option linter.all false
set_option maxRecDepth 100000
set_option maxHeartbeats 8000000
open PySem

/-! ### lists made anew, each with a list -/
def HandI (S : Store) (f : Nat → Life) (k : Nat) (S2 : Store) : Prop := ∃ (acc : List D) (G : Store), S2 = S ++ [SO.lst acc] ++ G ∧ acc.length = k ∧ ∀ i, i < k → ∃ p q : Nat, acc[i]? = some (.ref (S.length + 1 + p)) ∧ G[p]? = some (.lst [.int (f i).1, .ref (S.length + 1 + q)]) ∧ G[q]? = some (lstI (f i).2)
theorem hand_zero (S : Store) (f : Nat → Life) : HandI S f 0 (S ++ [SO.lst []]) := ⟨[], [], (List.append_nil _).symm, rfl, fun i h => absurd h (Nat.not_lt_zero i)⟩
theorem get_off (S : Store) (o : SO) (G : Store) (p : Nat) : (S ++ [o] ++ G)[S.length + 1 + p]? = G[p]? := by
  rw [List.getElem?_append_right (by simp)]
  congr 1
  simp
theorem set_offs (S : Store) (o a : SO) (G : Store) : (S ++ [a] ++ G).set S.length o = S ++ [o] ++ G := by
  have := set_midR (α := SO) S G a o
  simp only [List.append_assoc, List.cons_append, List.nil_append]
  exact this
theorem hand_step {S S2 : Store} {f : Nat → Life} {k : Nat} (h : HandI S f k S2) : ∃ acc, (S2 ++ [lstI (f k).2] ++ [SO.lst [.int (f k).1, .ref S2.length]])[S.length]? = some (.lst acc) ∧ acc.length = k ∧
    HandI S f (k + 1) ((S2 ++ [lstI (f k).2] ++ [SO.lst [.int (f k).1, .ref S2.length]]).set S.length (.lst (acc ++ [.ref (S2 ++ [lstI (f k).2]).length]))) := by
  obtain ⟨acc, G, rfl, hl, hi⟩ := h
  have el : (S ++ [SO.lst acc] ++ G).length = S.length + 1 + G.length := by simp; omega
  refine ⟨acc, get_app (get_app (get_app (get_last _ _))), hl, acc ++ [.ref (S.length + 1 + (G.length + 1))], G ++ [lstI (f k).2] ++ [SO.lst [.int (f k).1, .ref (S.length + 1 + G.length)]], ?_, by rw [List.length_append, hl]; rfl, ?_⟩
  · rw [el, show (S ++ [SO.lst acc] ++ G ++ [lstI (f k).2]).length = S.length + 1 + (G.length + 1) by rw [List.length_append, el]; rfl]
    rw [List.append_assoc (S ++ [SO.lst acc]) G, List.append_assoc (S ++ [SO.lst acc]), set_offs]
  · intro i hi2
    by_cases e : i = k
    · subst e
      refine ⟨G.length + 1, G.length, ?_, ?_, ?_⟩
      · rw [List.getElem?_append_right (by omega), hl, Nat.sub_self]
        rfl
      · rw [List.getElem?_append_right (by simp)]
        simp
      · rw [List.append_assoc, List.getElem?_append_right (Nat.le_refl _), Nat.sub_self]
        rfl
    · obtain ⟨p, q, h1, h2, h3⟩ := hi i (by omega)
      refine ⟨p, q, ?_, ?_, ?_⟩
      · rw [List.getElem?_append_left (by omega)]
        exact h1
      · exact get_app (get_app h2)
      · exact get_app (get_app h3)
theorem hand_pre {S S2 : Store} {f : Nat → Life} {n : Nat} {ls : List Life} (h : HandI S f n S2) (hn : ls.length = n) (hf : ∀ k : Nat, k < n → f k = lf ls k) (hl : LivesOk ls) : ∃ acc, S2[S.length]? = some (.lst acc) ∧ Pre S2 acc ls := by
  obtain ⟨acc, G, rfl, hla, hi⟩ := h
  refine ⟨acc, get_app (get_last _ _), by omega, fun k hk => ?_⟩
  obtain ⟨p, q, h1, h2, h3⟩ := hi k (by omega)
  rw [hf k (by omega)] at h2 h3
  have g2 : (S ++ [SO.lst acc] ++ G)[S.length + 1 + p]? = some (.lst [.int (lf ls k).1, .ref (S.length + 1 + q)]) := by rw [get_off]; exact h2
  have g3 : (S ++ [SO.lst acc] ++ G)[S.length + 1 + q]? = some (lstI (lf ls k).2) := by rw [get_off]; exact h3
  exact ⟨_, h1, "list", _, ty_l g2, .inr rfl, seq_ref g2, .inr ⟨_, rfl, g3⟩, hl.at (by omega) (by omega)⟩
theorem hand_ext {S S2 : Store} {f : Nat → Life} {n : Nat} (h : HandI S f n S2) : Ap S S2 := by
  obtain ⟨acc, G, rfl, _, _⟩ := h
  exact (Ap.refl S).app.app
def lvC (b : Nat) : Life := (b, [2, 1])
theorem lvC_ok (n : Nat) (h : n ≤ 1000) : LivesOk ((List.range n).map lvC) := by
  intro l hl
  obtain ⟨i, hi, rfl⟩ := List.mem_map.1 hl
  have := List.mem_range.1 hi
  exact ⟨by show (0 : Int) ≤ (i : Int); omega, by show (i : Int) ≤ 1000; omega, by simp [lvC], by show (2 : Nat) ≤ 1000; decide, falls21⟩
theorem lvC_so (n : Nat) : Sorted ((List.range n).map lvC) := by
  intro k hk
  rw [List.length_map, List.length_range] at hk
  rw [lf_map lvC (by omega), lf_map lvC hk]
  show (k : Int) ≤ ((k + 1 : Nat) : Int)
  omega
theorem init_ref {S : Store} {n : Nat} {acc : List D} {ls : List Life} (h : S[n]? = some (.lst acc)) (hp : Pre S acc ls) (h0 : 0 < ls.length) (h24 : ls.length ≤ 24) (ho : Sorted ls) : p_init [.ref n] S (.ok (blkF ls)) := ⟨_, "list", rfl, ty_l h, .inr ⟨.inr rfl, acc, seq_ref h, .inr (.inl ⟨ls, hp, h0, h24, ho, rfl⟩)⟩⟩

local macro_rules | `(tactic| walk_at "pd1") => `(tactic| first | (((with_reducible refine u_w_l (xs := ?xs) ?g0 ?_); (case g0 => walk_at "pg"))) | fail)
local macro_rules | `(tactic| walk_at "pd1") => `(tactic| first | (with_reducible refine u_w_u ?_) | fail)
local macro_rules | `(tactic| walk_at "pd1") => `(tactic| first | (with_reducible refine u_w_t ?_) | fail)
local macro_rules | `(tactic| walk_at "pd1") => `(tactic| first | (with_reducible refine u_w_n ?_) | fail)
local macro_rules | `(tactic| walk_at "pd1") => `(tactic| first | (with_reducible refine u_w_s ?_) | fail)
local macro_rules | `(tactic| walk_at "pd1") => `(tactic| first | (with_reducible refine u_w_b ?_) | fail)
local macro_rules | `(tactic| walk_at "pd1") => `(tactic| first | (with_reducible refine u_w_i ?_) | fail)
local macro_rules | `(tactic| walk_at "pd1") => `(tactic| first | (((with_reducible refine u_law_pick (l := ?l) ?g0 ?_ ?_ ?_ ?_); (case g0 => walk_at "pg"))) | fail)

local macro_rules | `(tactic| walk_at "pd1") => `(tactic| first | (((with_reducible refine a_lg2 (xs := ?xs) (ys := ?ys) ?g0 ?g1 ?_ ?_); (case g0 => walk_at "pg"); (case g1 => walk_at "pg"))) | fail)
local macro_rules | `(tactic| walk_at "pd1") => `(tactic| first | (((with_reducible refine n_ll (ls := ?ls) ?g0 ?_); (case g0 => walk_at "pg"))) | fail)
local macro_rules | `(tactic| walk_at "pd1") => `(tactic| first | (with_reducible refine g_lv ?_) | fail)
local macro_rules | `(tactic| walk_at "pd1") => `(tactic| first | (with_reducible refine n_lives ?_) | fail)
local macro_rules | `(tactic| walk_at "pd1") => `(tactic| first | (with_reducible refine i_life ?_ ?_ ?_) | fail)

/-! ### _law_refusals -/
def p__law_refusals : List D → Store → Out → Prop := fun ds S o => ∃ (k : Nat) (ls : List Life), ds = [.ref k] ∧ S[k]? = some (lvO ls) ∧ LivesOk ls ∧ Sorted ls ∧ 0 < ls.length ∧ ls.length ≤ 24 ∧ o = .val (.bl true)
theorem vc__law_refusals (M : Md) (h28 : M.sp 28 = IniS 3 p_init) (h29 : M.sp 29 = FnS p__law_value) (hm : M.noA 3 "many" = true) :
    ∀ ds S o, p__law_refusals ds S o → wpSs (M.C (excO S o)) b__law_refusals (retO S o) (startD n__law_refusals ds) S := by
  rintro ds S o ⟨kk, ls, rfl, hk, hl, ho, h0, h24, rfl⟩
  simp only [b__law_refusals, startD, List.map, List.length, List.replicate, Nat.reduceAdd, Nat.reduceSub, List.cons_append, List.nil_append]
  have hla : ∃ la, la = earl ls ls.length := ⟨_, rfl⟩
  obtain ⟨la, hla⟩ := hla
  have hlast : (lf ls ((ls.length - 1 : Nat) : Int)).1 = la := by
    rw [hla]
    cases h : ls.length with
    | zero => omega
    | succ k => rfl
  refine r_seq (r_asg (r_ix (r_ix (r_var rfl (r_neg (r_cst (t_neg ?_)))))))
  refine i_lg (k := -1) hk (d := lifeD (lf ls ((ls.length - 1 : Nat) : Int))) ?_ (r_cst (i_tg (d := .int (lf ls ((ls.length - 1 : Nat) : Int)).1) rfl (r_nm ?_)))
  · rw [atI_neg (by rw [List.length_map]; exact h0), List.length_map, List.getElem?_map, lf_get (by omega)]
    rfl
  rw [hlast]
  refine r_seq (r_asg (r_bi (r_esC (r_var rfl (r_esN (n_ll hk (r_nm ?_)))))))
  refine r_seq (rf2_ok hk hl ho h0 h24 hla ?_)
  intro S1 r1 i1 a1 g1 l1 m1
  refine r_seq (rf3_ok (a1.get hk) g1 (by omega) hl ho h0 h24 hla m1 ?_)
  intro S2 r2 i2 a2 g2 l2 m2
  refine r_seq (rf4_ok ((a1.trans a2).get hk) g2 (by omega) hl ho h0 h24 hla m2 ?_)
  intro S3 r3 i3 a3 g3 l3 m3
  refine r_seq (rf5_ok (((a1.trans a2).trans a3).get hk) g3 (by omega) hl ho h0 h24 hla m3 ?_)
  intro S4 r4 i4 a4 g4 l4 m4
  refine r_seq (rf6_ok ((((a1.trans a2).trans a3).trans a4).get hk) g4 (by omega) hl ho h0 h24 hla m4 ?_)
  intro S5 r5 i5 a5 g5 l5 m5
  have ap := (((a1.trans a2).trans a3).trans a4).trans a5
  refine r_seq (r_fr (r_iSeq (r_var rfl (g_lg g5 ⟨still_seq (seq_ref g5), ?_⟩))))
  refine FR_same (fun e => ∃ x4 x5 x6, e = [some (.ref kk), some (.int la), some (.int ls.length), some (.ref r5), x4, x5, x6]) ⟨_, _, _, rfl⟩ (still_seq (seq_ref g5)) ?_ ?_
  · rintro y e hy ⟨x4, x5, x6, rfl⟩
    obtain ⟨d, r, rfl, hp⟩ := m5 y hy
    repeat' (walk_at "pd1")
    refine u_value hp ?_
    repeat' (walk_at "pd1")
    all_goals first
      | omega
      | (exfalso; omega)
      | (exfalso; rename_i hb _ _; exact hb trivial)
      | (exfalso; rename_i hb _; exact hb trivial)
      | (exfalso; rename_i hb; exact hb trivial)
      | (exfalso; rename_i hb _ _; exact hb rfl)
      | (exfalso; rename_i hb _; exact hb rfl)
      | (exfalso; rename_i hb; exact hb rfl)
      | skip
    all_goals first
      | exact ⟨rfl, _, _, _, rfl⟩
      | skip
  · rintro e ⟨x4, x5, x6, rfl⟩
    repeat' (walk_at "pd1")
    all_goals first
      | omega
      | (exfalso; omega)
      | (exfalso; rename_i hb _ _; exact hb trivial)
      | (exfalso; rename_i hb _; exact hb trivial)
      | (exfalso; rename_i hb; exact hb trivial)
      | (exfalso; rename_i hb _ _; exact hb rfl)
      | (exfalso; rename_i hb _; exact hb rfl)
      | (exfalso; rename_i hb; exact hb rfl)
      | skip
    refine lc_ind (lstep_m _ _ _ _ _ _) (fun k S2 => HandI S5 lvC k S2) (hand_zero _ _) ?_ ?_
    · intro k y S2 hy hh
      have hy1 := (rngL_get hy).1
      have hy2 := (rngL_get hy).2
      have e1 : (0 + (k : Int)) = (k : Int) := by omega
      rw [hy2, e1]
      unfold lcStep
      repeat' (walk_at "pd1")
      obtain ⟨acc, h1, h2, h3⟩ := hand_step hh
      exact ⟨acc, h1, big' _ (by omega), h3⟩
    · intro S2 hh
      rw [rngL_len] at hh
      obtain ⟨acc, h1, h2⟩ := hand_pre (ls := (List.range 24).map lvC) hh (by rw [List.length_map, List.length_range]; rfl) (fun k hk => (lf_map lvC hk).symm) (lvC_ok 24 (by decide))
      have e24 : ((List.range 24).map lvC).length = 24 := by rw [List.length_map, List.length_range]
      have h5 := ap.trans (hand_ext hh)
      repeat' (walk_at "pd1")
      refine n_ok (init_ref h1 h2 (by omega) (by omega) (lvC_so 24)) ?_
      intro G
      repeat' (walk_at "pd1")
      · rw [List.append_assoc]
        exact Ext.trans h5.ext (Ext.app _ _)
      · rw [e24]
        rfl
theorem u_refuse {S : Store} {Q : DQ} {E : EQ} {k : Nat} {ls : List Life} (hk : S[k]? = some (lvO ls)) (h1 : LivesOk ls) (h3 : Sorted ls) (h4 : 0 < ls.length) (h5 : ls.length ≤ 24) (q : Q (.bl true) S) : FnS p__law_refusals [.ref k] S Q E := ⟨_, ⟨k, ls, rfl, hk, h1, h3, h4, h5, rfl⟩, q⟩
theorem len__law_refusals : ∀ ds S o, p__law_refusals ds S o → ds.length = 1 := by rintro _ S o ⟨k, ls, rfl, _⟩; rfl
theorem ok__law_refusals : ∀ ds S o, p__law_refusals ds S o → refsLts S.length ds = true → WfS S → okO S.length o = true := by rintro _ S o ⟨k, ls, rfl, _, _, _, _, _, rfl⟩ _ _; rfl


end
section
set_option Elab.async false
set_option linter.all false
set_option maxRecDepth 100000
set_option maxHeartbeats 8000000
open PySem

local macro_rules | `(tactic| walk_at "pd1") => `(tactic| first | (((with_reducible refine u_w_l (xs := ?xs) ?g0 ?_); (case g0 => walk_at "pg"))) | fail)
local macro_rules | `(tactic| walk_at "pd1") => `(tactic| first | (with_reducible refine u_w_u ?_) | fail)
local macro_rules | `(tactic| walk_at "pd1") => `(tactic| first | (with_reducible refine u_w_t ?_) | fail)
local macro_rules | `(tactic| walk_at "pd1") => `(tactic| first | (with_reducible refine u_w_n ?_) | fail)
local macro_rules | `(tactic| walk_at "pd1") => `(tactic| first | (with_reducible refine u_w_s ?_) | fail)
local macro_rules | `(tactic| walk_at "pd1") => `(tactic| first | (with_reducible refine u_w_b ?_) | fail)
local macro_rules | `(tactic| walk_at "pd1") => `(tactic| first | (with_reducible refine u_w_i ?_) | fail)
local macro_rules | `(tactic| walk_at "pd1") => `(tactic| first | (((with_reducible refine u_law_pick (l := ?l) ?g0 ?_ ?_ ?_ ?_); (case g0 => walk_at "pg"))) | fail)

local macro_rules | `(tactic| walk_at "pd1") => `(tactic| first | (with_reducible refine g_lv ?_) | fail)
local macro_rules | `(tactic| walk_at "pd1") => `(tactic| first | (with_reducible refine n_lives ?_) | fail)
local macro_rules | `(tactic| walk_at "pd1") => `(tactic| first | (with_reducible refine i_life ?_ ?_ ?_) | fail)

/-! ### _law_far -/
def farF (l : List Int) (a : Nat) : Nat → Int
  | 0 => 0
  | k + 1 => farF l a k * 10 + pickF l (a + k) 10
theorem farF_rng (l : List Int) (a : Nat) : ∀ k, 0 ≤ farF l a k ∧ farF l a k < ((10 ^ k : Nat) : Int)
  | 0 => ⟨Int.le_refl _, by show (0 : Int) < ((1 : Nat) : Int); decide⟩
  | k + 1 => by
    have ih := farF_rng l a k
    have p := pickF_rng l (a + k) 10 (by decide)
    unfold farF
    rw [Nat.pow_succ]
    omega
theorem far_succ (l : List Int) (a k : Nat) : farF l a (k + 1) = farF l a k * 10 + pickF l (a + k) 10 := rfl
theorem far_max (l : List Int) (a : Nat) {k : Nat} (h : k ≤ 29) : 0 ≤ farF l a k ∧ farF l a k < 10 ^ 29 := by
  have b1 := farF_rng l a k
  have b2 : (10 : Nat) ^ k ≤ 10 ^ 29 := Nat.pow_le_pow_right (by decide) h
  omega
def p__law_far : List D → Store → Out → Prop := fun ds S o => ∃ (n : Nat) (l : List Int) (a : Int), ds = [.ref n, .int a] ∧ S[n]? = some (lstI l) ∧ Dig l ∧ 0 ≤ a ∧ o = .val (.int (farF l a.toNat 29))
theorem vc__law_far (M : Md) (h18 : M.sp 18 = FnS p__law_pick) : ∀ ds S o, p__law_far ds S o → wpSs (M.C (excO S o)) b__law_far (retO S o) (startD n__law_far ds) S := by
  rintro ds S o ⟨n, l, a, rfl, hn, hd, ha, rfl⟩
  simp only [b__law_far, startD, List.map, List.length, List.replicate, Nat.reduceAdd, Nat.reduceSub, List.cons_append, List.nil_append]
  repeat' (walk_at "pd1")
  all_goals try (walk_at "ps")
  refine FR_ind (fun k e S' => S' = S ∧ ∃ x, e = [some (.ref n), some (.int a), some (.int (farF l a.toNat k)), x]) ⟨rfl, _, rfl⟩ ?_ ?_
  · rintro k y e S' hy ⟨rfl, x, rfl⟩
    have hy1 := (rngL_get hy).1
    have hy2 := (rngL_get hy).2
    have e1 : (0 + (k : Int)) = (k : Int) := by omega
    rw [hy2, e1]
    have b1 := far_max l a.toNat (k := k) (by omega)
    have b3 : (farF l a.toNat k).natAbs.log2 < 100 := by
      rcases Nat.eq_zero_or_pos (farF l a.toNat k).natAbs with z | z
      · rw [z]; decide
      · exact (Nat.log2_lt (by omega)).2 (by omega)
    repeat' (walk_at "pd1")
    all_goals first
      | omega
      | (have b4 : (10 : Int).natAbs.log2 = 3 := rfl; omega)
      | skip
    refine ⟨rfl, some (.int k), ?_⟩
    rw [far_succ, show (a + (k : Int)).toNat = a.toNat + k by omega]
    rfl
  · rintro e S' ⟨rfl, x, rfl⟩
    rw [rngL_len]
    repeat' (walk_at "pd1")
    all_goals try (walk_at "ps")
theorem u_far {S : Store} {Q : DQ} {E : EQ} {n : Nat} {l : List Int} {a : Int} (hn : S[n]? = some (lstI l)) (hd : Dig l) (ha : 0 ≤ a) (q : Q (.int (farF l a.toNat 29)) S) : FnS p__law_far [.ref n, .int a] S Q E := ⟨_, ⟨n, l, a, rfl, hn, hd, ha, rfl⟩, q⟩
theorem len__law_far : ∀ ds S o, p__law_far ds S o → ds.length = 2 := by rintro _ S o ⟨n, l, a, rfl, _⟩; rfl
theorem ok__law_far : ∀ ds S o, p__law_far ds S o → refsLts S.length ds = true → WfS S → okO S.length o = true := by rintro _ S o ⟨n, l, a, rfl, _, _, _, rfl⟩ _ _; rfl
/-! ### _law_lives -/
def lenS (l : List Int) (a : Nat) : Nat → Int
  | 0 => pickF l (a + 1) 8
  | k + 1 => max 0 (lenS l a k - cf [0, 0, 1, 3] (pickF l (a + 3 + k) 4).toNat)
def fstS (l : List Int) : Nat → Int
  | 0 => pickF l 4 3
  | b + 1 => fstS l b + pickF l (5 + 8 * b) 3
def lifeF (l : List Int) (u : Int) (b : Nat) : Life := (fstS l (b + 1), (List.range (1 + (pickF l (5 + 8 * b + 2) 5).toNat)).map fun (k : Nat) => lenS l (5 + 8 * b) k * u)
def livesF (l : List Int) (m : Nat) (u : Int) : List Life := (List.range m).map (lifeF l u)
theorem lenS_rng (l : List Int) (a : Nat) : ∀ k, 0 ≤ lenS l a k ∧ lenS l a k ≤ 7
  | 0 => by
    have := pickF_rng l (a + 1) 8 (by decide)
    unfold lenS
    omega
  | k + 1 => by
    have ih := lenS_rng l a k
    have p := pickF_rng l (a + 3 + k) 4 (by decide)
    have c : 0 ≤ cf [0, 0, 1, 3] (pickF l (a + 3 + k) 4).toNat := by
      have : (pickF l (a + 3 + k) 4).toNat < 4 := by omega
      match h : (pickF l (a + 3 + k) 4).toNat, this with
      | 0, _ => decide
      | 1, _ => decide
      | 2, _ => decide
      | 3, _ => decide
      | n + 4, z => omega
    unfold lenS
    omega
theorem lenS_le (l : List Int) (a k : Nat) : lenS l a (k + 1) ≤ lenS l a k := by
  have ih := lenS_rng l a k
  have p := pickF_rng l (a + 3 + k) 4 (by decide)
  have c : 0 ≤ cf [0, 0, 1, 3] (pickF l (a + 3 + k) 4).toNat := by
    have : (pickF l (a + 3 + k) 4).toNat < 4 := by omega
    match h : (pickF l (a + 3 + k) 4).toNat, this with
    | 0, _ => decide
    | 1, _ => decide
    | 2, _ => decide
    | 3, _ => decide
    | n + 4, z => omega
  show max 0 (lenS l a k - cf [0, 0, 1, 3] (pickF l (a + 3 + k) 4).toNat) ≤ lenS l a k
  omega
theorem fstS_rng (l : List Int) : ∀ b : Nat, 0 ≤ fstS l b ∧ fstS l b ≤ 2 + 2 * b
  | 0 => by
    have := pickF_rng l 4 3 (by decide)
    unfold fstS
    omega
  | b + 1 => by
    have ih := fstS_rng l b
    have := pickF_rng l (5 + 8 * b) 3 (by decide)
    unfold fstS
    omega
theorem livesF_len (l : List Int) (m : Nat) (u : Int) : (livesF l m u).length = m := by
  unfold livesF
  rw [List.length_map, List.length_range]
theorem livesF_ok (l : List Int) {m : Nat} {u : Int} (hm : m ≤ 6) (hu : 1 ≤ u) : LivesOk (livesF l m u) := by
  intro x hx
  obtain ⟨b, hb, rfl⟩ := List.mem_map.1 hx
  have hb2 := List.mem_range.1 hb
  have f := fstS_rng l (b + 1)
  have p := pickF_rng l (5 + 8 * b + 2) 5 (by decide)
  refine ⟨f.1, ?_, ?_, ?_, ?_⟩
  · show fstS l (b + 1) ≤ 1000
    omega
  · intro z
    have := congrArg List.length z
    unfold lifeF at this
    rw [List.length_map, List.length_range] at this
    cases h : (1 + (pickF l (5 + 8 * b + 2) 5).toNat) with
    | zero => omega
    | succ n => rw [h] at this; cases this
  · unfold lifeF
    rw [List.length_map, List.length_range]
    omega
  · intro i hi
    unfold lifeF at hi ⊢
    dsimp only at hi ⊢
    rw [List.length_map, List.length_range] at hi
    have g := lenS_rng l (5 + 8 * b) i
    rw [cf_range, if_pos hi]
    refine ⟨Int.mul_nonneg g.1 (by omega), fun h0 => ?_⟩
    rw [cf_range, if_pos (by omega)]
    refine Int.mul_le_mul_of_nonneg_right ?_ (by omega)
    have := lenS_le l (5 + 8 * b) (i - 1)
    rwa [show i - 1 + 1 = i by omega] at this
theorem livesF_short (l : List Int) {m : Nat} {u : Int} (hm : m ≤ 6) : Short (livesF l m u) := by
  intro x hx
  obtain ⟨b, hb, rfl⟩ := List.mem_map.1 hx
  have hb2 := List.mem_range.1 hb
  have f := fstS_rng l (b + 1)
  have p := pickF_rng l (5 + 8 * b + 2) 5 (by decide)
  unfold endL lifeF
  dsimp only
  rw [List.length_map, List.length_range]
  omega
theorem livesF_lf (l : List Int) {m k : Nat} {u : Int} (h : k < m) : lf (livesF l m u) k = lifeF l u k := lf_map _ h
theorem livesF_so (l : List Int) (m : Nat) (u : Int) : Sorted (livesF l m u) := by
  intro k hk
  rw [livesF_len] at hk
  rw [livesF_lf l (by omega), livesF_lf l hk]
  show fstS l (k + 1) ≤ fstS l (k + 1 + 1)
  have := pickF_rng l (5 + 8 * (k + 1)) 3 (by decide)
  show fstS l (k + 1) ≤ fstS l (k + 1) + pickF l (5 + 8 * (k + 1)) 3
  omega
def p__law_lives : List D → Store → Out → Prop := fun ds S o => ∃ (n : Nat) (l : List Int) (m : Nat) (u : Int), ds = [.ref n, .int m, .int u] ∧ S[n]? = some (lstI l) ∧ Dig l ∧ m ≤ 6 ∧ 1 ≤ u ∧ u ≤ 10 ^ 29 ∧ o = .new ((livesF l m u).map lifeD)
theorem vc__law_lives (M : Md) (h18 : M.sp 18 = FnS p__law_pick) : ∀ ds S o, p__law_lives ds S o → wpSs (M.C (excO S o)) b__law_lives (retO S o) (startD n__law_lives ds) S := by
  rintro ds S o ⟨n, l, m, u, rfl, hn, hd, hm, hu, hu2, rfl⟩
  have lu : u.natAbs.log2 < 100 := (Nat.log2_lt (by omega)).2 (by omega)
  simp only [b__law_lives, startD, List.map, List.length, List.replicate, Nat.reduceAdd, Nat.reduceSub, List.cons_append, List.nil_append]
  repeat' (walk_at "pd1")
  all_goals first
    | omega
    | skip
  refine FR_ind (fun k e S' => (∃ T, S' = S ++ [lvO (livesF l k u)] ++ T) ∧ ∃ a1 a2 a3 a4 a5, e = [some (.ref n), some (.int m), some (.int u), some (.ref S.length), some (.int (fstS l k)), a1, a2, a3, a4, a5]) ⟨⟨[], by rw [List.append_nil]; rfl⟩, _, _, _, _, _, rfl⟩ ?_ ?_
  · rintro k y e S' hy ⟨⟨T, rfl⟩, a1, a2, a3, a4, a5, rfl⟩
    have hy1 := (rngL_get hy).1
    have hy2 := (rngL_get hy).2
    have e1 : (0 + (k : Int)) = (k : Int) := by omega
    rw [hy2, e1]
    repeat' (walk_at "pd1")
    all_goals first
      | exact hd
      | omega
      | (have b4 : (8 : Int).natAbs.log2 = 3 := rfl
         have b5 : ((k : Int)).natAbs.log2 < 3 := by
           rcases Nat.eq_zero_or_pos ((k : Int)).natAbs with z | z
           · rw [z]; decide
           · exact (Nat.log2_lt (by omega)).2 (by omega)
         omega)
      | (have := pickF_rng l (5 + 8 * (k : Int) + 2).toNat 5 (by decide); omega)
      | skip
    have t1 : (5 + 8 * (k : Int)).toNat = 5 + 8 * k := by omega
    have t2 : (5 + 8 * (k : Int) + 2).toNat = 5 + 8 * k + 2 := by omega
    have t3 : (5 + 8 * (k : Int) + 1).toNat = 5 + 8 * k + 1 := by omega
    have t4 : fstS l k + pickF l (5 + 8 * (k : Int)).toNat 3 = fstS l (k + 1) := by rw [t1]; rfl
    have t5 : pickF l (5 + 8 * (k : Int) + 1).toNat 8 = lenS l (5 + 8 * k) 0 := by rw [t3]; rfl
    have p5 := pickF_rng l (5 + 8 * k + 2) 5 (by decide)
    rw [t2]
    refine FR_ind (fun j e S'' => (∃ G, S'' = S ++ [lvO (livesF l k u)] ++ T ++ [lstI ((List.range j).map fun (i : Nat) => lenS l (5 + 8 * k) i * u)] ++ G) ∧ ∃ x, e = [some (.ref n), some (.int m), some (.int u), some (.ref S.length), some (.int (fstS l (k + 1))), some (.int k), some (.int (5 + 8 * (k : Int))), some (.int (lenS l (5 + 8 * k) j)), some (.ref (S ++ [lvO (livesF l k u)] ++ T).length), x]) ⟨⟨[], by rw [List.append_nil]; rfl⟩, a5, by rw [t4, t5]; rfl⟩ ?_ ?_
    · rintro j w e S'' hw ⟨⟨G, rfl⟩, x, rfl⟩
      have hj1 := (rngL_get hw).1
      have hj2 := (rngL_get hw).2
      have e2 : (0 + (j : Int)) = (j : Int) := by omega
      rw [hj2, e2]
      have g := lenS_rng l (5 + 8 * k) j
      have g1 : (lenS l (5 + 8 * k) j).natAbs.log2 < 100 := by
        rcases Nat.eq_zero_or_pos (lenS l (5 + 8 * k) j).natAbs with z | z
        · rw [z]; decide
        · exact (Nat.log2_lt (by omega)).2 (by omega)
      repeat' (walk_at "pd1")
      all_goals first
        | omega
        | (rw [List.length_map, List.length_range]; omega)
        | skip
      rw [set_offs]
      repeat' (walk_at "pd1")
      all_goals first
        | exact hd
        | omega
        | skip
      have t6 : (5 + 8 * (k : Int) + 3 + (j : Int)).toNat = 5 + 8 * k + 3 + j := by omega
      rw [t6]
      have p4 := pickF_rng l (5 + 8 * k + 3 + j) 4 (by decide)
      refine i_l (f := [0, 0, 1, 3]) (get_last _ _) (by omega) (by show _ < (4 : Int); omega) ?_
      repeat' (walk_at "pd1")
      refine ⟨⟨G ++ [SO.lst [D.int 0, D.int 0, D.int 1, D.int 3]], ?_⟩, some (.int (j : Int)), rfl⟩
      rw [List.range_succ, List.map_append, List.append_assoc _ G]
      rfl
    · rintro e S'' ⟨⟨G, rfl⟩, x, rfl⟩
      rw [rngL_len, show (1 + pickF l (5 + 8 * k + 2) 5).toNat = 1 + (pickF l (5 + 8 * k + 2) 5).toNat by omega]
      repeat' (walk_at "pd1")
      · rw [List.length_map, livesF_len]; omega
      · refine ⟨⟨T ++ [lstI ((List.range (1 + (pickF l (5 + 8 * k + 2) 5).toNat)).map fun (i : Nat) => lenS l (5 + 8 * k) i * u)] ++ G, ?_⟩, some (.int (k : Int)), some (.int (5 + 8 * (k : Int))), some (.int (lenS l (5 + 8 * k) (1 + (pickF l (5 + 8 * k + 2) 5).toNat))), some (.ref (S ++ [lvO (livesF l k u)] ++ T).length), x, rfl⟩
        rw [List.append_assoc (S ++ [lvO (livesF l k u)]) T, List.append_assoc (S ++ [lvO (livesF l k u)]), set_offs]
        have e9 : livesF l (k + 1) u = livesF l k u ++ [lifeF l u k] := by
          unfold livesF
          rw [List.range_succ, List.map_append]
          rfl
        rw [e9]
        unfold lvO
        rw [List.map_append]
        rfl
  · rintro e S' ⟨⟨T, rfl⟩, a1, a2, a3, a4, a5, rfl⟩
    rw [rngL_len, Int.toNat_natCast]
    repeat' (walk_at "pd1")
    · rw [List.append_assoc]; exact Ext.app _ _
    · omega
    · exact get_app (get_last _ _)
theorem u_lives {S : Store} {Q : DQ} {E : EQ} {n : Nat} {l : List Int} {m : Nat} {u : Int} (hn : S[n]? = some (lstI l)) (hd : Dig l) (hm : m ≤ 6) (h1 : 1 ≤ u) (h2 : u ≤ 10 ^ 29) (q : Q (.ref S.length) (S ++ [lvO (livesF l m u)])) : FnS p__law_lives [.ref n, .int m, .int u] S Q E := ⟨_, ⟨n, l, m, u, rfl, hn, hd, hm, h1, h2, rfl⟩, q⟩
theorem len__law_lives : ∀ ds S o, p__law_lives ds S o → ds.length = 3 := by rintro _ S o ⟨n, l, m, u, rfl, _⟩; rfl
theorem lt_lives (n : Nat) : ∀ ls : List Life, refsLts n (ls.map lifeD) = true
  | [] => rfl
  | l :: ls => by
    rw [List.map_cons]
    unfold refsLts
    rw [lt_lives n ls]
    have : refsLt n (lifeD l) = true := by
      show refsLts n [.int l.1, tupI l.2] = true
      unfold refsLts refsLts refsLts refsLt
      show (true && (refsLts n (l.2.map D.int) && true)) = true
      rw [lt_ints]
      rfl
    rw [this]
    rfl
theorem ok__law_lives : ∀ ds S o, p__law_lives ds S o → refsLts S.length ds = true → WfS S → okO S.length o = true := by rintro _ S o ⟨n, l, m, u, rfl, _, _, _, _, _, rfl⟩ _ _; exact lt_lives _ _


end
section
set_option Elab.async false
set_option linter.all false
set_option maxRecDepth 100000
set_option maxHeartbeats 8000000
open PySem

local macro_rules | `(tactic| walk_at "pd1") => `(tactic| first | (((with_reducible refine u_w_l (xs := ?xs) ?g0 ?_); (case g0 => walk_at "pg"))) | fail)
local macro_rules | `(tactic| walk_at "pd1") => `(tactic| first | (with_reducible refine u_w_u ?_) | fail)
local macro_rules | `(tactic| walk_at "pd1") => `(tactic| first | (with_reducible refine u_w_t ?_) | fail)
local macro_rules | `(tactic| walk_at "pd1") => `(tactic| first | (with_reducible refine u_w_n ?_) | fail)
local macro_rules | `(tactic| walk_at "pd1") => `(tactic| first | (with_reducible refine u_w_s ?_) | fail)
local macro_rules | `(tactic| walk_at "pd1") => `(tactic| first | (with_reducible refine u_w_b ?_) | fail)
local macro_rules | `(tactic| walk_at "pd1") => `(tactic| first | (with_reducible refine u_w_i ?_) | fail)
local macro_rules | `(tactic| walk_at "pd1") => `(tactic| first | (((with_reducible refine u_law_pick (l := ?l) ?g0 ?_ ?_ ?_ ?_); (case g0 => walk_at "pg"))) | fail)

local macro_rules | `(tactic| walk_at "pd1") => `(tactic| first | (((with_reducible refine u_lives (l := ?l) ?g0 ?_ ?_ ?_ ?_ ?_); (case g0 => walk_at "pg"))) | fail)
local macro_rules | `(tactic| walk_at "pd1") => `(tactic| first | (((with_reducible refine u_far (l := ?l) ?g0 ?_ ?_ ?_); (case g0 => walk_at "pg"))) | fail)
local macro_rules | `(tactic| walk_at "pd1") => `(tactic| first | (((with_reducible refine t_ll (ls := ?ls) ?g0 ?_); (case g0 => walk_at "pg"))) | fail)
local macro_rules | `(tactic| walk_at "pd1") => `(tactic| first | (((with_reducible refine i_ll (ls := ?ls) ?g0 ?_ ?_ ?_); (case g0 => walk_at "pg"))) | fail)
local macro_rules | `(tactic| walk_at "pd1") => `(tactic| first | (((with_reducible refine g_ll (ls := ?ls) ?g0 ?_); (case g0 => walk_at "pg"))) | fail)
local macro_rules | `(tactic| walk_at "pd1") => `(tactic| first | (((with_reducible refine n_ll (ls := ?ls) ?g0 ?_); (case g0 => walk_at "pg"))) | fail)
local macro_rules | `(tactic| walk_at "pd1") => `(tactic| first | (with_reducible refine g_lv ?_) | fail)
local macro_rules | `(tactic| walk_at "pd1") => `(tactic| first | (with_reducible refine n_lives ?_) | fail)
local macro_rules | `(tactic| walk_at "pd1") => `(tactic| first | (with_reducible refine i_life ?_ ?_ ?_) | fail)

def ls_0 : DS := .asg (.nm 1) (.call 17 (.cons (.var 0) .nil))
def ls_1 : DS := .asg (.nm 2) (.bin .add (.cst (.int 1)) (.call 18 (.cons (.var 1) (.cons (.cst (.int 0)) (.cons (.cst (.int 6)) .nil)))))
def ls_2 : DS := .asg (.nm 3) (.cst (.int 1))
def ls_3 : DS := .ifs (.cmp .eq (.call 18 (.cons (.var 1) (.cons (.cst (.int 1)) (.cons (.cst (.int 5)) .nil)))) (.cst (.int 1))) [.asg (.nm 3) (.bin .add (.cst (.int 1)) (.call 19 (.cons (.var 1) (.cons (.cst (.int 2)) .nil))))] []
def ls_4 : DS := .asg (.nm 4) (.call 20 (.cons (.var 1) (.cons (.var 2) (.cons (.var 3) .nil))))
def ls_5 : DS := .asg (.nm 5) (.lc [6] (.nm 6) (.seq (.var 4)) .none (.lst (.cons (.ix (.var 6) (.cst (.int 0))) (.cons (.bi .list (.cons (.ix (.var 6) (.cst (.int 1))) .nil)) .nil))))
def ls_6 : DS := .asg (.nm 7) (.new 3 28 (.cons (.var 5) .nil))
def ls_7 : DS := .ex (.bm .append (.ix (.ix (.var 5) (.cst (.int 0))) (.cst (.int 1))) (.cons (.cst (.int 0)) .nil))
def ls_8 : DS := .ex (.bm .append (.var 5) (.cons (.cst (.int 0)) .nil))
def ls_9 : DS := .fr (.nm 8) (.rng (.cons (.cst (.int 2)) .nil)) [.ifs (.not (.call 32 (.cons (.var 7) (.cons (.var 4) .nil)))) [.ret (.some (.cst (.bl false)))] []]
def ls_10 : DS := .asg (.nm 9) (.lst (.nil))
def ls_11 : DS := .asg (.nm 10) (.cst (.int 0))
def ls_12 : DS := .fr (.nm 6) (.seq (.var 4)) [.ex (.bm .append (.var 9) (.cons (.var 10) .nil)), .asg (.nm 10) (.bin .add (.var 10) (.ix (.ix (.var 6) (.cst (.int 1))) (.cst (.int 0))))]
def ls_13 : DS := .ifs (.or (.not (.call 33 (.cons (.var 7) (.cons (.var 4) (.cons (.var 9) .nil))))) (.not (.call 13 (.cons (.var 7) (.cons (.var 9) .nil))))) [.ret (.some (.cst (.bl false)))] []
def ls_14 : DS := .fr (.nm 8) (.rng (.cons (.cst (.int 3)) .nil)) [.asg (.nm 11) (.lc [12] (.nm 12) (.rng (.cons (.var 2) .nil)) .none (.bin .mul (.var 3) (.call 18 (.cons (.var 1) (.cons (.bin .add (.bin .add (.cst (.int 53)) (.bin .mul (.var 2) (.var 8))) (.var 12)) (.cons (.cst (.int 9)) .nil)))))), .ifs (.not (.call 33 (.cons (.var 7) (.cons (.var 4) (.cons (.var 11) .nil))))) [.ret (.some (.cst (.bl false)))] [], .asg (.nm 13) (.bi .list (.cons (.var 9) .nil)), .asg (.sub (.var 13) (.bin .mod (.bi .int (.cons (.bin .add (.var 8) (.var 2)) .nil)) (.var 2))) (.bi .max (.cons (.cst (.int 0)) (.cons (.bin .sub (.ix (.var 13) (.bin .mod (.bi .int (.cons (.bin .add (.var 8) (.var 2)) .nil)) (.var 2))) (.cst (.int 1))) .nil))), .ifs (.not (.call 33 (.cons (.var 7) (.cons (.var 4) (.cons (.var 13) .nil))))) [.ret (.some (.cst (.bl false)))] []]
def ls_15 : DS := .ifs (.not (.call 34 (.cons (.var 7) (.cons (.var 9) .nil)))) [.ret (.some (.cst (.bl false)))] []
def ls_16 : DS := .fr (.nm 14) (.rng (.cons (.cst (.int 2)) .nil)) [.ifs (.or (.cmp .ne (.call 27 (.cons (.var 7) (.cons (.var 14) (.cons (.var 2) (.cons (.var 2) .nil))))) (.cst (.str "b"))) (.cmp .ne (.call 27 (.cons (.var 7) (.cons (.var 14) (.cons (.cst (.int 0)) (.cons (.neg (.cst (.int 1))) .nil))))) (.cst (.str "c")))) [.ret (.some (.cst (.bl false)))] [], .ifs (.or (.cmp .ne (.call 27 (.cons (.var 7) (.cons (.var 14) (.cons (.cst (.bl true)) (.cons (.cst (.int 0)) .nil))))) (.cst (.str "b"))) (.cmp .ne (.call 27 (.cons (.var 7) (.cons (.var 14) (.cons (.cst (.int 0)) (.cons (.var 2) .nil))))) (.cst (.str "c")))) [.ret (.some (.cst (.bl false)))] []]
def ls_17 : DS := .ifs (.or (.cmp .ne (.call 27 (.cons (.var 7) (.cons (.cst (.int 2)) (.cons (.var 2) (.cons (.cst (.int 0)) .nil))))) (.cst (.str "b"))) (.cmp .ne (.call 27 (.cons (.var 7) (.cons (.cst (.int 2)) (.cons (.cst (.int 0)) (.cons (.cst (.bl true)) .nil))))) (.cst (.str "moment")))) [.ret (.some (.cst (.bl false)))] []
def ls_18 : DS := .ret (.some (.call 35 (.cons (.var 4) .nil)))

theorem law_a {C : SC} {B : DEnds} {rest : List DS} {S : Store} {ns : List Int} {x5 x6 x7 x8 x9 x10 x11 x12 x13 x14 : Option D} {x1 x2 x3 x4 : Option D} (h17 : C.sp 17 = FnS p__law_draws) (h18 : C.sp 18 = FnS p__law_pick) (h19 : C.sp 19 = FnS p__law_far) (h20 : C.sp 20 = FnS p__law_lives) (hl : ns.length ≤ 63)
    (h : ∀ (u : Int) (m : Nat) (l : List Int) (S' : Store) (d k : Nat), Ext S S' → Dig l → 1 ≤ m → m ≤ 6 → 1 ≤ u → u ≤ 10 ^ 29 → S'[d]? = some (lstI l) → S'[k]? = some (lvO (livesF l m u)) → wpSs C rest B [some (.kl (ns.map .int)), some (.ref d), some (.int m), some (.int u), some (.ref k), x5, x6, x7, x8, x9, x10, x11, x12, x13, x14] S') :
    wpSs C (ls_0 :: ls_1 :: ls_2 :: ls_3 :: ls_4 :: rest) B [some (.kl (ns.map .int)), x1, x2, x3, x4, x5, x6, x7, x8, x9, x10, x11, x12, x13, x14] S := by
  have hd := dig_draws ns
  have p1 := pickF_rng (drawsL ns) 0 6 (by decide)
  have p2 := far_max (drawsL ns) 2 (k := 29) (by decide)
  have hmm : ∃ m : Nat, 1 + pickF (drawsL ns) 0 6 = (m : Int) := ⟨(1 + pickF (drawsL ns) 0 6).toNat, by omega⟩
  obtain ⟨m, hm⟩ := hmm
  unfold ls_0 ls_1 ls_2 ls_3 ls_4
  repeat' (walk_at "pd1")
  refine u_law_draws hl ?_
  repeat' (walk_at "pd1")
  all_goals first
    | exact hd
    | omega
    | skip
  · rw [show (1 + pickF (drawsL ns) (Int.toNat 0) 6) = (m : Int) from hm]
    refine u_lives (get_last _ _) hd (by omega) (by have : (Int.toNat 2) = 2 := rfl; rw [this]; omega) (by have : (Int.toNat 2) = 2 := rfl; rw [this]; omega) ?_
    repeat' (walk_at "pd1")
    exact h _ m _ _ _ _ (Ext.trans (Ext.app _ _) (Ext.app _ _)) hd (by omega) (by omega) (by have : (Int.toNat 2) = 2 := rfl; rw [this]; omega) (by have : (Int.toNat 2) = 2 := rfl; rw [this]; omega) (get_app (get_last _ _)) (get_last _ _)
  · rw [show (1 + pickF (drawsL ns) (Int.toNat 0) 6) = (m : Int) from hm]
    refine u_lives (get_last _ _) hd (by omega) (by decide) (by decide) ?_
    repeat' (walk_at "pd1")
    exact h _ m _ _ _ _ (Ext.trans (Ext.app _ _) (Ext.app _ _)) hd (by omega) (by omega) (by decide) (by decide) (get_app (get_last _ _)) (get_last _ _)
def lfn (ls : List Life) (k : Nat) : Life := lf ls k
theorem hand_pre' {S : Store} {acc : List D} {G : Store} {f : Nat → Life} {n : Nat} {ls : List Life} (hla : acc.length = n) (hi : ∀ i, i < n → ∃ p q : Nat, acc[i]? = some (.ref (S.length + 1 + p)) ∧ G[p]? = some (.lst [.int (f i).1, .ref (S.length + 1 + q)]) ∧ G[q]? = some (lstI (f i).2)) (hn : ls.length = n) (hf : ∀ k : Nat, k < n → f k = lf ls k) (hl : LivesOk ls) : Pre (S ++ [SO.lst acc] ++ G) acc ls := by
  refine ⟨by omega, fun k hk => ?_⟩
  obtain ⟨p, q, h1, h2, h3⟩ := hi k (by omega)
  rw [hf k (by omega)] at h2 h3
  have g2 : (S ++ [SO.lst acc] ++ G)[S.length + 1 + p]? = some (.lst [.int (lf ls k).1, .ref (S.length + 1 + q)]) := by rw [get_off]; exact h2
  have g3 : (S ++ [SO.lst acc] ++ G)[S.length + 1 + q]? = some (lstI (lf ls k).2) := by rw [get_off]; exact h3
  exact ⟨_, h1, "list", _, ty_l g2, .inr rfl, seq_ref g2, .inr ⟨_, rfl, g3⟩, hl.at (by omega) (by omega)⟩
theorem law_b {C : SC} {B : DEnds} {rest : List DS} {S : Store} {k : Nat} {ls : List Life} {x0 x1 x2 x3 x5 x6 x7 x8 x9 x10 x11 x12 x13 x14 : Option D} (h28 : C.sp 28 = IniS 3 p_init) (hk : S[k]? = some (lvO ls)) (hl : LivesOk ls) (ho : Sorted ls) (h0 : 0 < ls.length) (h24 : ls.length ≤ 24)
    (h : ∀ (S' : Store) (n : Nat) (y5 y6 : Option D), Ext S S' → S'[n]? = some (blkO ls) → wpSs C rest B [x0, x1, x2, x3, some (.ref k), y5, y6, some (.ref n), x8, x9, x10, x11, x12, x13, x14] S') :
    wpSs C (ls_5 :: ls_6 :: ls_7 :: ls_8 :: rest) B [x0, x1, x2, x3, some (.ref k), x5, x6, x7, x8, x9, x10, x11, x12, x13, x14] S := by
  unfold ls_5 ls_6 ls_7 ls_8
  repeat' (walk_at "pd1")
  all_goals try (exact still_seq (seq_ref hk))
  refine lc_ind (lstep_m _ _ _ _ _ _) (fun j S2 => HandI S (lfn ls) j S2) (hand_zero _ _) ?_ ?_
  · intro j y S2 hy hh
    obtain ⟨hj, rfl⟩ := map_life hy
    have hap := hand_ext hh
    unfold lcStep
    repeat' (walk_at "pd1")
    refine ⟨still_seq (seq_ref (get_app (get_app (hap.get hk)))), ?_⟩
    obtain ⟨acc, h1, h2, h3⟩ := hand_step hh
    exact ⟨acc, h1, big' _ (by omega), h3⟩
  · intro S2 hh
    rw [List.length_map] at hh
    obtain ⟨acc, G, rfl, hla, hi⟩ := hh
    have hp := hand_pre' hla hi rfl (fun k _ => rfl) hl
    obtain ⟨p, q, e1, e2, e3⟩ := hi 0 h0
    repeat' (walk_at "pd1")
    refine n_ok (init_ref (get_app (get_last _ _)) hp h0 h24 ho) ?_
    intro G2
    have g1 : (S ++ [SO.lst acc] ++ G ++ [SO.ins 3 (blkF ls)] ++ G2)[S.length]? = some (.lst acc) := get_app (get_app (get_app (get_last _ _)))
    have g2 : (S ++ [SO.lst acc] ++ G ++ [SO.ins 3 (blkF ls)] ++ G2)[S.length + 1 + p]? = some (.lst [.int (lf ls (0 : Nat)).1, .ref (S.length + 1 + q)]) := get_app (get_app (by rw [get_off]; exact e2))
    have g3 : (S ++ [SO.lst acc] ++ G ++ [SO.ins 3 (blkF ls)] ++ G2)[S.length + 1 + q]? = some (lstI (lf ls (0 : Nat)).2) := get_app (get_app (by rw [get_off]; exact e3))
    have g4 : (S ++ [SO.lst acc] ++ G ++ [SO.ins 3 (blkF ls)] ++ G2)[(S ++ [SO.lst acc] ++ G).length]? = some (blkO ls) := get_app (get_last _ _)
    have hE : Ext S (S ++ [SO.lst acc] ++ G ++ [SO.ins 3 (blkF ls)] ++ G2) := ((((Ext.app _ _).trans (Ext.app _ _)).trans (Ext.app _ _)).trans (Ext.app _ _))
    have hq : q < G.length := by
      rcases Nat.lt_or_ge q G.length with z | z
      · exact z
      · rw [List.getElem?_eq_none z] at e3; cases e3
    have hlen : (S ++ [SO.lst acc] ++ G).length = S.length + 1 + G.length := by simp; omega
    generalize (S ++ [SO.lst acc] ++ G ++ [SO.ins 3 (blkF ls)] ++ G2) = S3 at g1 g2 g3 g4 hE ⊢
    generalize (S ++ [SO.lst acc] ++ G).length = nn at g4 hlen ⊢
    repeat' (walk_at "pd1")
    refine i_lg (k := 0) g1 (d := .ref (S.length + 1 + p)) (by rw [atI_nat (by decide) (by omega)]; exact e1) ?_
    repeat' (walk_at "pd1")
    · have := (hl.at (b := ((0 : Nat) : Int)) (by omega) (by omega)).ln
      omega
    have g5 : (S3.set (S.length + 1 + q) (lstI ((lf ls (0 : Nat)).2 ++ [0])))[S.length]? = some (.lst acc) := by rw [List.getElem?_set_ne (by omega)]; exact g1
    refine x_bm g5 ?_
    repeat' (walk_at "pd1")
    all_goals first
      | omega
      | skip
    refine h _ nn _ _ (Ext.set (Ext.set hE _ (by omega)) _ (by omega)) ?_
    rw [List.getElem?_set_ne (by omega), List.getElem?_set_ne (by omega)]
    exact g4
/-! ### one above another -/
def stkF (ls : List Life) : Nat → Int
  | 0 => 0
  | k + 1 => stkF ls k + cf (lf ls k).2 0
def stkL (ls : List Life) : List Int := (List.range ls.length).map fun (b : Nat) => stkF ls b
theorem stkL_len (ls : List Life) : (stkL ls).length = ls.length := by
  unfold stkL
  rw [List.length_map, List.length_range]
theorem stkL_cf {ls : List Life} {b : Nat} (h : b < ls.length) : cf (stkL ls) b = stkF ls b := by
  unfold stkL
  rw [cf_range, if_pos h]
theorem len0_nn {ls : List Life} (hl : LivesOk ls) {b : Nat} (h : b < ls.length) : 0 ≤ cf (lf ls b).2 0 := by
  have ok := hl.at (b := (b : Int)) (by omega) (by omega)
  exact (ok.fa 0 (len_pos ok.ne)).1
theorem stkF_mono {ls : List Life} (hl : LivesOk ls) : ∀ (d b : Nat), b + d ≤ ls.length → stkF ls b ≤ stkF ls (b + d)
  | 0, _, _ => Int.le_refl _
  | d + 1, b, h => by
    have ih := stkF_mono hl d b (by omega)
    have := len0_nn hl (b := b + d) (by omega)
    show stkF ls b ≤ stkF ls (b + d) + cf (lf ls (b + d : Nat)).2 0
    omega
theorem stkF_nn {ls : List Life} (hl : LivesOk ls) (b : Nat) (h : b ≤ ls.length) : 0 ≤ stkF ls b := by
  have := stkF_mono hl b 0 (by omega)
  rw [Nat.zero_add] at this
  exact this
theorem stkL_nn {ls : List Life} (hl : LivesOk ls) : ∀ s ∈ stkL ls, 0 ≤ s := by
  intro s hs
  obtain ⟨b, hb, rfl⟩ := List.mem_map.1 hs
  exact stkF_nn hl b (Nat.le_of_lt (List.mem_range.1 hb))
theorem stk_placed {ls : List Life} (hl : LivesOk ls) : Placed ls (stkL ls) := by
  intro b c hbc hc m h1 h2 h3 h4
  rw [apartB_iff, stkL_cf (by omega), stkL_cf hc]
  left
  have ok := hl.at (b := (b : Int)) (by omega) (by omega)
  have e1 := ok.mono (m := (lf ls b).1) (m2 := m) (Int.le_refl _) h1 h2
  have e2 : lenAt (lf ls b) (lf ls b).1 = cf (lf ls b).2 0 := by unfold lenAt; rw [Int.sub_self]; rfl
  have e3 := stkF_mono hl (c - (b + 1)) (b + 1) (by omega)
  rw [show b + 1 + (c - (b + 1)) = c by omega] at e3
  have e4 : stkF ls (b + 1) = stkF ls b + cf (lf ls b).2 0 := rfl
  omega
theorem law_c {C : SC} {B : DEnds} {rest : List DS} {S : Store} {n k : Nat} {ls : List Life} {x0 x1 x2 x3 x5 x6 x8 x9 x10 x11 x12 x13 x14 : Option D} (h32 : C.sp 32 = FnS p__law_looked) (hn : S[n]? = some (blkO ls)) (hk : S[k]? = some (lvO ls)) (hl : LivesOk ls) (hsh : Short ls) (ho : Sorted ls) (h0 : 0 < ls.length) (h24 : ls.length ≤ 24)
    (h : ∀ (S' : Store) (r : Nat) (y6 y8 y10 : Option D), Ext S S' → S'[r]? = some (lstI (stkL ls)) → wpSs C rest B [x0, x1, x2, x3, some (.ref k), x5, y6, some (.ref n), y8, some (.ref r), y10, x11, x12, x13, x14] S') :
    wpSs C (ls_9 :: ls_10 :: ls_11 :: ls_12 :: rest) B [x0, x1, x2, x3, some (.ref k), x5, x6, some (.ref n), x8, x9, x10, x11, x12, x13, x14] S := by
  unfold ls_9 ls_10 ls_11 ls_12
  repeat' (walk_at "pd1")
  all_goals first
    | omega
    | skip
  refine FR_same (fun e => ∃ x8, e = [x0, x1, x2, x3, some (.ref k), x5, x6, some (.ref n), x8, x9, x10, x11, x12, x13, x14]) ⟨_, rfl⟩ still_none ?_ ?_
  · rintro y e hy ⟨x8, rfl⟩
    repeat' (walk_at "pd1")
    refine u_looked hn hk hl hsh ho h0 (by omega) ?_
    repeat' (walk_at "pd1")
    exact ⟨rfl, _, rfl⟩
  · rintro e ⟨x8, rfl⟩
    repeat' (walk_at "pd1")
    all_goals try (exact still_seq (seq_ref (get_app hk)))
    refine FR_ind (fun j e S' => S' = S ++ [lstI ((List.range j).map fun (b : Nat) => stkF ls b)] ∧ ∃ y6, e = [x0, x1, x2, x3, some (.ref k), x5, y6, some (.ref n), x8, some (.ref S.length), some (.int (stkF ls j)), x11, x12, x13, x14]) ⟨rfl, _, rfl⟩ ?_ ?_
    · rintro j y e S' hy ⟨rfl, y6, rfl⟩
      obtain ⟨hj, rfl⟩ := map_life hy
      have hp := len_pos (hl.at (b := (j : Int)) (by omega) (by omega)).ne
      repeat' (walk_at "pd1")
      all_goals first
        | omega
        | (rw [List.length_map, List.length_range]; omega)
        | exact still_seq (seq_ref (get_app hk))
        | skip
      refine ⟨?_, some (lifeD (lf ls j)), rfl⟩
      rw [List.range_succ, List.map_append]
      rfl
    · rintro e S' ⟨rfl, y6, rfl⟩
      rw [List.length_map]
      repeat' (walk_at "pd1")
      exact h _ _ _ _ _ (Ext.app _ _) (get_last _ _)
theorem law_d {C : SC} {B : DEnds} {rest : List DS} {S : Store} {n k r : Nat} {ls : List Life} {x0 x1 x2 x3 x5 x6 x8 x10 x11 x12 x13 x14 : Option D} (h33 : C.sp 33 = FnS p__law_started) (h13 : C.sp 13 = FnS p_is_placing) (hn : S[n]? = some (blkO ls)) (hk : S[k]? = some (lvO ls)) (hr : S[r]? = some (lstI (stkL ls))) (hl : LivesOk ls) (hsh : Short ls) (ho : Sorted ls) (h0 : 0 < ls.length) (h24 : ls.length ≤ 24)
    (h : wpSs C rest B [x0, x1, x2, x3, some (.ref k), x5, x6, some (.ref n), x8, some (.ref r), x10, x11, x12, x13, x14] S) :
    wpSs C (ls_13 :: rest) B [x0, x1, x2, x3, some (.ref k), x5, x6, some (.ref n), x8, some (.ref r), x10, x11, x12, x13, x14] S := by
  unfold ls_13
  repeat' (walk_at "pd1")
  refine u_started hn hk hr hl hsh h0 (by omega) (stkL_len ls) (stkL_nn hl) ?_
  repeat' (walk_at "pd1")
  refine u_placing hn hl (by omega) ⟨.inr ⟨_, rfl, hr⟩, stkL_nn hl, stkL_len ls⟩ (b := true) ⟨fun _ => stk_placed hl, fun _ => rfl⟩ ?_
  repeat' (walk_at "pd1")
  exact h


end
section
set_option Elab.async false
set_option linter.all false
set_option maxRecDepth 100000
set_option maxHeartbeats 8000000
open PySem

local macro_rules | `(tactic| walk_at "pd1") => `(tactic| first | (((with_reducible refine u_w_l (xs := ?xs) ?g0 ?_); (case g0 => walk_at "pg"))) | fail)
local macro_rules | `(tactic| walk_at "pd1") => `(tactic| first | (with_reducible refine u_w_u ?_) | fail)
local macro_rules | `(tactic| walk_at "pd1") => `(tactic| first | (with_reducible refine u_w_t ?_) | fail)
local macro_rules | `(tactic| walk_at "pd1") => `(tactic| first | (with_reducible refine u_w_n ?_) | fail)
local macro_rules | `(tactic| walk_at "pd1") => `(tactic| first | (with_reducible refine u_w_s ?_) | fail)
local macro_rules | `(tactic| walk_at "pd1") => `(tactic| first | (with_reducible refine u_w_b ?_) | fail)
local macro_rules | `(tactic| walk_at "pd1") => `(tactic| first | (with_reducible refine u_w_i ?_) | fail)
local macro_rules | `(tactic| walk_at "pd1") => `(tactic| first | (((with_reducible refine u_law_pick (l := ?l) ?g0 ?_ ?_ ?_ ?_); (case g0 => walk_at "pg"))) | fail)

local macro_rules | `(tactic| walk_at "pd1") => `(tactic| first | (((with_reducible refine u_lives (l := ?l) ?g0 ?_ ?_ ?_ ?_ ?_); (case g0 => walk_at "pg"))) | fail)
local macro_rules | `(tactic| walk_at "pd1") => `(tactic| first | (((with_reducible refine u_far (l := ?l) ?g0 ?_ ?_ ?_); (case g0 => walk_at "pg"))) | fail)
local macro_rules | `(tactic| walk_at "pd1") => `(tactic| first | (((with_reducible refine t_ll (ls := ?ls) ?g0 ?_); (case g0 => walk_at "pg"))) | fail)
local macro_rules | `(tactic| walk_at "pd1") => `(tactic| first | (((with_reducible refine i_ll (ls := ?ls) ?g0 ?_ ?_ ?_); (case g0 => walk_at "pg"))) | fail)
local macro_rules | `(tactic| walk_at "pd1") => `(tactic| first | (((with_reducible refine g_ll (ls := ?ls) ?g0 ?_); (case g0 => walk_at "pg"))) | fail)
local macro_rules | `(tactic| walk_at "pd1") => `(tactic| first | (((with_reducible refine n_ll (ls := ?ls) ?g0 ?_); (case g0 => walk_at "pg"))) | fail)
local macro_rules | `(tactic| walk_at "pd1") => `(tactic| first | (with_reducible refine g_lv ?_) | fail)
local macro_rules | `(tactic| walk_at "pd1") => `(tactic| first | (with_reducible refine n_lives ?_) | fail)
local macro_rules | `(tactic| walk_at "pd1") => `(tactic| first | (with_reducible refine i_life ?_ ?_ ?_) | fail)


def le_body : List DS := [.asg (.nm 11) (.lc [12] (.nm 12) (.rng (.cons (.var 2) .nil)) .none (.bin .mul (.var 3) (.call 18 (.cons (.var 1) (.cons (.bin .add (.bin .add (.cst (.int 53)) (.bin .mul (.var 2) (.var 8))) (.var 12)) (.cons (.cst (.int 9)) .nil)))))), .ifs (.not (.call 33 (.cons (.var 7) (.cons (.var 4) (.cons (.var 11) .nil))))) [.ret (.some (.cst (.bl false)))] [], .asg (.nm 13) (.bi .list (.cons (.var 9) .nil)), .asg (.sub (.var 13) (.bin .mod (.bi .int (.cons (.bin .add (.var 8) (.var 2)) .nil)) (.var 2))) (.bi .max (.cons (.cst (.int 0)) (.cons (.bin .sub (.ix (.var 13) (.bin .mod (.bi .int (.cons (.bin .add (.var 8) (.var 2)) .nil)) (.var 2))) (.cst (.int 1))) .nil))), .ifs (.not (.call 33 (.cons (.var 7) (.cons (.var 4) (.cons (.var 13) .nil))))) [.ret (.some (.cst (.bl false)))] []]
theorem law_e_loop {C : SC} {B : DEnds} {S : Store} {n k r d : Nat} {l : List Int} {m : Nat} {u : Int} {ls : List Life} {x0 x5 x6 x8 x10 x11 x12 x13 x14 : Option D} (h18 : C.sp 18 = FnS p__law_pick) (h33 : C.sp 33 = FnS p__law_started) (hd : S[d]? = some (lstI l)) (hdg : Dig l) (hm : ls.length = m) (hu : 1 ≤ u) (lu : u.natAbs.log2 < 100) (hn : S[n]? = some (blkO ls)) (hk : S[k]? = some (lvO ls)) (hr : S[r]? = some (lstI (stkL ls))) (hl : LivesOk ls) (hsh : Short ls) (h0 : 0 < ls.length) (h24 : ls.length ≤ 24)
    (h : ∀ (S' : Store) (y8 y11 y12 y13 : Option D), Ext S S' → B.nx [x0, some (.ref d), some (.int m), some (.int u), some (.ref k), x5, x6, some (.ref n), y8, some (.ref r), x10, y11, y12, y13, x14] S') {E0 : DEnv} (hE0 : E0 = [x0, some (.ref d), some (.int m), some (.int u), some (.ref k), x5, x6, some (.ref n), x8, some (.ref r), x10, x11, x12, x13, x14]) : FR C (.nm 8) le_body none (rngL 0 (Int.toNat 3)) B E0 S := by
  refine FR_ind (fun j e S' => (∃ T, S' = S ++ T) ∧ ∃ y8 y11 y12 y13, e = [x0, some (.ref d), some (.int m), some (.int u), some (.ref k), x5, x6, some (.ref n), y8, some (.ref r), x10, y11, y12, y13, x14]) ?_ ?_ ?_
  · exact ⟨⟨[], (List.append_nil _).symm⟩, x8, x11, x12, x13, hE0⟩
  · rintro j y e S' hy ⟨⟨T, rfl⟩, y8, y11, y12, y13, rfl⟩
    have hj1 := (rngL_get hy).1
    have hj2 := (rngL_get hy).2
    have e1 : (0 + (j : Int)) = (j : Int) := by omega
    rw [hj2, e1]
    unfold le_body
    repeat' (walk_at "pd1")
    all_goals first
      | omega
      | skip
    refine lc_ind (lstep_m _ _ _ _ _ _) (fun i S2 => S2 = S ++ T ++ [lstI ((List.range i).map fun (b : Nat) => u * pickF l (53 + (m : Int) * j + b).toNat 9)]) rfl ?_ ?_
    · intro i w S2 hw hh
      subst hh
      have hw1 := (rngL_get hw).1
      have hw2 := (rngL_get hw).2
      have e2 : (0 + (i : Int)) = (i : Int) := by omega
      rw [hw2, e2]
      unfold lcStep
      have nn : 0 ≤ (m : Int) * j := Int.mul_nonneg (by omega) (by omega)
      have p9 := pickF_rng l (53 + (m : Int) * j + i).toNat 9 (by decide)
      have p9b : (pickF l (53 + (m : Int) * j + i).toNat 9).natAbs.log2 < 100 := by
        rcases Nat.eq_zero_or_pos (pickF l (53 + (m : Int) * j + i).toNat 9).natAbs with z | z
        · rw [z]; decide
        · exact (Nat.log2_lt (by omega)).2 (by omega)
      have nn1 : ((m : Int)).natAbs.log2 < 100 := by
        rcases Nat.eq_zero_or_pos ((m : Int)).natAbs with z | z
        · rw [z]; decide
        · exact (Nat.log2_lt (by omega)).2 (by omega)
      have nn2 : ((j : Int)).natAbs.log2 < 100 := by
        rcases Nat.eq_zero_or_pos ((j : Int)).natAbs with z | z
        · rw [z]; decide
        · exact (Nat.log2_lt (by omega)).2 (by omega)
      repeat' (walk_at "pd1")
      · omega
      · exact hdg
      · omega
      · decide
      · omega
      · refine ⟨_, get_last _ _, ?_, ?_⟩
        · rw [List.length_map, List.length_map, List.length_range]
          exact big' _ (by omega)
        · rw [set_last, List.range_succ, List.map_append]
          unfold lstI
          rw [List.map_append]
          rfl
    · intro S2 hh
      subst hh
      rw [rngL_len, Int.toNat_natCast]
      have sl : ((List.range m).map fun (b : Nat) => u * pickF l (53 + (m : Int) * j + b).toNat 9).length = ls.length := by rw [List.length_map, List.length_range, hm]
      have sn : ∀ s ∈ ((List.range m).map fun (b : Nat) => u * pickF l (53 + (m : Int) * j + b).toNat 9), 0 ≤ s := by
        intro s hs
        obtain ⟨b, hb, rfl⟩ := List.mem_map.1 hs
        exact Int.mul_nonneg (by omega) (pickF_rng _ _ _ (by decide)).1
      generalize ((List.range m).map fun (b : Nat) => u * pickF l (53 + (m : Int) * j + b).toNat 9) = sv at sl sn ⊢
      repeat' (walk_at "pd1")
      refine u_started (get_app (get_app hn)) (get_app (get_app hk)) (get_last _ _) hl hsh h0 (by omega) sl sn ?_
      have m1 : 0 ≤ ((j : Int) + m) % m := Int.emod_nonneg _ (by omega)
      have m2 : ((j : Int) + m) % m < m := Int.emod_lt_of_pos _ (by omega)
      have m3 := stkL_len ls
      repeat' (walk_at "pd1")
      all_goals first
        | omega
        | skip
      refine u_started (get_app (get_app (get_app hn))) (get_app (get_app (get_app hk))) (get_last _ _) hl hsh h0 (by omega) (by rw [List.length_set]; exact m3) ?_ ?_
      · intro s hs
        rcases List.mem_or_eq_of_mem_set hs with z | z
        · exact stkL_nn hl s z
        · omega
      repeat' (walk_at "pd1")
      exact ⟨⟨T ++ ([lstI sv] ++ [lstI ((stkL ls).set (((j : Int) + m) % m).toNat (max 0 (cf (stkL ls) (((j : Int) + m) % m).toNat - 1)))]), by simp only [List.append_assoc]⟩, _, _, _, _, rfl⟩
  · rintro e S' ⟨⟨T, rfl⟩, y8, y11, y12, y13, rfl⟩
    repeat' (walk_at "pd1")
    exact h _ _ _ _ _ (Ext.app _ _)
theorem law_e {C : SC} {B : DEnds} {rest : List DS} {S : Store} {n k r d : Nat} {l : List Int} {m : Nat} {u : Int} {ls : List Life} {x0 x5 x6 x8 x10 x11 x12 x13 x14 : Option D} (h18 : C.sp 18 = FnS p__law_pick) (h33 : C.sp 33 = FnS p__law_started) (hd : S[d]? = some (lstI l)) (hdg : Dig l) (hm : ls.length = m) (hu : 1 ≤ u) (lu : u.natAbs.log2 < 100) (hn : S[n]? = some (blkO ls)) (hk : S[k]? = some (lvO ls)) (hr : S[r]? = some (lstI (stkL ls))) (hl : LivesOk ls) (hsh : Short ls) (h0 : 0 < ls.length) (h24 : ls.length ≤ 24)
    (h : ∀ (S' : Store) (y8 y11 y12 y13 : Option D), Ext S S' → wpSs C rest B [x0, some (.ref d), some (.int m), some (.int u), some (.ref k), x5, x6, some (.ref n), y8, some (.ref r), x10, y11, y12, y13, x14] S') {E0 : DEnv} (hE0 : E0 = [x0, some (.ref d), some (.int m), some (.int u), some (.ref k), x5, x6, some (.ref n), x8, some (.ref r), x10, x11, x12, x13, x14]) : wpSs C (ls_14 :: rest) B E0 S := by
  unfold ls_14
  repeat' (walk_at "pd1")
  · decide
  · decide
  exact law_e_loop h18 h33 hd hdg hm hu lu hn hk hr hl hsh h0 h24 h hE0



end
section
set_option Elab.async false
set_option linter.all false
set_option maxRecDepth 100000
set_option maxHeartbeats 8000000
open PySem

local macro_rules | `(tactic| walk_at "pd1") => `(tactic| first | (((with_reducible refine u_w_l (xs := ?xs) ?g0 ?_); (case g0 => walk_at "pg"))) | fail)
local macro_rules | `(tactic| walk_at "pd1") => `(tactic| first | (with_reducible refine u_w_u ?_) | fail)
local macro_rules | `(tactic| walk_at "pd1") => `(tactic| first | (with_reducible refine u_w_t ?_) | fail)
local macro_rules | `(tactic| walk_at "pd1") => `(tactic| first | (with_reducible refine u_w_n ?_) | fail)
local macro_rules | `(tactic| walk_at "pd1") => `(tactic| first | (with_reducible refine u_w_s ?_) | fail)
local macro_rules | `(tactic| walk_at "pd1") => `(tactic| first | (with_reducible refine u_w_b ?_) | fail)
local macro_rules | `(tactic| walk_at "pd1") => `(tactic| first | (with_reducible refine u_w_i ?_) | fail)
local macro_rules | `(tactic| walk_at "pd1") => `(tactic| first | (((with_reducible refine u_law_pick (l := ?l) ?g0 ?_ ?_ ?_ ?_); (case g0 => walk_at "pg"))) | fail)


theorem notin_hi {S : Store} {n : Nat} {i : Int} (h : (n : Int) ≤ i) : NotIn S (.int i) n := ⟨"int", rfl, .inr ⟨i, rfl, .inr h⟩⟩
theorem notin_neg {S : Store} {n : Nat} {i : Int} (h : i < 0) : NotIn S (.int i) n := ⟨"int", rfl, .inr ⟨i, rfl, .inl h⟩⟩
theorem notin_b {S : Store} {n : Nat} {b : Bool} : NotIn S (.bl b) n := ⟨"bool", rfl, .inl (by decide)⟩
theorem law_f {C : SC} {B : DEnds} {rest : List DS} {S : Store} {n k r : Nat} {m : Nat} {ls : List Life} {x0 x1 x3 x5 x6 x8 x10 x11 x12 x13 x14 : Option D} (h34 : C.sp 34 = FnS p__law_wrong_starts) (h27 : C.sp 27 = FnS p__law_number) (hm : ls.length = m) (hn : S[n]? = some (blkO ls)) (hr : S[r]? = some (lstI (stkL ls))) (hl : LivesOk ls) (h0 : 0 < ls.length) (h24 : ls.length ≤ 24)
    (h : ∀ (y14 : Option D), wpSs C rest B [x0, x1, some (.int m), x3, some (.ref k), x5, x6, some (.ref n), x8, some (.ref r), x10, x11, x12, x13, y14] S) :
    wpSs C (ls_15 :: ls_16 :: ls_17 :: rest) B [x0, x1, some (.int m), x3, some (.ref k), x5, x6, some (.ref n), x8, some (.ref r), x10, x11, x12, x13, x14] S := by
  unfold ls_15 ls_16 ls_17
  repeat' (walk_at "pd1")
  refine u_wstarts hn hr hl h0 (by omega) (stkL_len ls) (stkL_nn hl) ?_
  repeat' (walk_at "pd1")
  all_goals first
    | omega
    | skip
  refine FR_ind (fun j e S' => S' = S ∧ ∃ y14, e = [x0, x1, some (.int m), x3, some (.ref k), x5, x6, some (.ref n), x8, some (.ref r), x10, x11, x12, x13, y14]) ⟨rfl, _, rfl⟩ ?_ ?_
  · rintro j y e S' hy ⟨rfl, y14, rfl⟩
    have hj1 := (rngL_get hy).1
    have hj2 := (rngL_get hy).2
    have e1 : (0 + (j : Int)) = (j : Int) := by omega
    rw [hj2, e1]
    have hj3 : ((j : Nat) : Int) = 0 ∨ ((j : Nat) : Int) = 1 := by omega
    repeat' (walk_at "pd1")
    refine u_num_b hn hl (by omega) (notin_hi (by omega)) ?_
    repeat' (walk_at "pd1")
    all_goals first
      | omega
      | (exfalso; omega)
      | (exfalso; rename_i hb _ _; exact hb trivial)
      | (exfalso; rename_i hb _; exact hb trivial)
      | (exfalso; rename_i hb; exact hb trivial)
      | (exfalso; rename_i hb _ _; exact hb rfl)
      | (exfalso; rename_i hb _; exact hb rfl)
      | (exfalso; rename_i hb; exact hb rfl)
      | skip
    refine u_num_c hn hl hj3 (Int.le_refl _) (by omega) (notin_neg (by decide)) ?_
    repeat' (walk_at "pd1")
    all_goals first
      | omega
      | (exfalso; omega)
      | (exfalso; rename_i hb _ _; exact hb trivial)
      | (exfalso; rename_i hb _; exact hb trivial)
      | (exfalso; rename_i hb; exact hb trivial)
      | (exfalso; rename_i hb _ _; exact hb rfl)
      | (exfalso; rename_i hb _; exact hb rfl)
      | (exfalso; rename_i hb; exact hb rfl)
      | skip
    refine u_num_b hn hl (by omega) notin_b ?_
    repeat' (walk_at "pd1")
    all_goals first
      | omega
      | (exfalso; omega)
      | (exfalso; rename_i hb _ _; exact hb trivial)
      | (exfalso; rename_i hb _; exact hb trivial)
      | (exfalso; rename_i hb; exact hb trivial)
      | (exfalso; rename_i hb _ _; exact hb rfl)
      | (exfalso; rename_i hb _; exact hb rfl)
      | (exfalso; rename_i hb; exact hb rfl)
      | skip
    refine u_num_c hn hl hj3 (Int.le_refl _) (by omega) (notin_hi (by omega)) ?_
    repeat' (walk_at "pd1")
    all_goals first
      | omega
      | (exfalso; omega)
      | (exfalso; rename_i hb _ _; exact hb trivial)
      | (exfalso; rename_i hb _; exact hb trivial)
      | (exfalso; rename_i hb; exact hb trivial)
      | (exfalso; rename_i hb _ _; exact hb rfl)
      | (exfalso; rename_i hb _; exact hb rfl)
      | (exfalso; rename_i hb; exact hb rfl)
      | skip
    exact ⟨rfl, _, rfl⟩
  · rintro e S' ⟨rfl, y14, rfl⟩
    repeat' (walk_at "pd1")
    refine u_num_b hn hl (by omega) (notin_hi (by omega)) ?_
    repeat' (walk_at "pd1")
    all_goals first
      | omega
      | (exfalso; omega)
      | (exfalso; rename_i hb _ _; exact hb trivial)
      | (exfalso; rename_i hb _; exact hb trivial)
      | (exfalso; rename_i hb; exact hb trivial)
      | (exfalso; rename_i hb _ _; exact hb rfl)
      | (exfalso; rename_i hb _; exact hb rfl)
      | (exfalso; rename_i hb; exact hb rfl)
      | skip
    refine u_num_m hn hl (Int.le_refl _) (by omega) ⟨"bool", rfl, .inl (by decide)⟩ ?_
    repeat' (walk_at "pd1")
    all_goals first
      | omega
      | (exfalso; omega)
      | (exfalso; rename_i hb _ _; exact hb trivial)
      | (exfalso; rename_i hb _; exact hb trivial)
      | (exfalso; rename_i hb; exact hb trivial)
      | (exfalso; rename_i hb _ _; exact hb rfl)
      | (exfalso; rename_i hb _; exact hb rfl)
      | (exfalso; rename_i hb; exact hb rfl)
      | skip
    exact h _
/-! ### law -/
def p_law : List D → Store → Out → Prop := fun ds S o => ∃ ns : List Int, ds = [.kl (ns.map .int)] ∧ ns.length ≤ 63 ∧ o = .val (.bl true)
theorem vc_law (M : Md) (h13 : M.sp 13 = FnS p_is_placing) (h17 : M.sp 17 = FnS p__law_draws) (h18 : M.sp 18 = FnS p__law_pick) (h19 : M.sp 19 = FnS p__law_far) (h20 : M.sp 20 = FnS p__law_lives) (h27 : M.sp 27 = FnS p__law_number) (h28 : M.sp 28 = IniS 3 p_init) (h32 : M.sp 32 = FnS p__law_looked) (h33 : M.sp 33 = FnS p__law_started) (h34 : M.sp 34 = FnS p__law_wrong_starts) (h35 : M.sp 35 = FnS p__law_refusals) :
    ∀ ds S o, p_law ds S o → wpSs (M.C (excO S o)) b_law (retO S o) (startD n_law ds) S := by
  rintro ds S o ⟨ns, rfl, hl, rfl⟩
  show wpSs (M.C (excO S (.val (.bl true)))) (ls_0 :: ls_1 :: ls_2 :: ls_3 :: ls_4 :: ls_5 :: ls_6 :: ls_7 :: ls_8 :: ls_9 :: ls_10 :: ls_11 :: ls_12 :: ls_13 :: ls_14 :: ls_15 :: ls_16 :: ls_17 :: [ls_18]) (retO S (.val (.bl true))) [some (.kl (ns.map .int)), none, none, none, none, none, none, none, none, none, none, none, none, none, none] S
  refine law_a h17 h18 h19 h20 hl ?_
  intro u m l S1 d k e1 hd hm1 hm2 hu1 hu2 gd gk
  have hlv := livesF_ok l hm2 hu1
  have hsh := livesF_short l hm2 (u := u)
  have hso := livesF_so l m u
  have hln := livesF_len l m u
  have lu : u.natAbs.log2 < 100 := (Nat.log2_lt (by omega)).2 (by omega)
  clear hu2
  generalize livesF l m u = ls at gk hlv hsh hso hln
  refine law_b h28 gk hlv hso (by omega) (by omega) ?_
  intro S2 n y5 y6 e2 gn
  refine law_c h32 gn (e2.get gk) hlv hsh hso (by omega) (by omega) ?_
  intro S3 r z6 z8 z10 e3 gr
  refine law_d h33 h13 (e3.get gn) (e3.get (e2.get gk)) gr hlv hsh hso (by omega) (by omega) ?_
  refine law_e (l := l) (m := m) (u := u) h18 h33 (e3.get (e2.get gd)) hd hln hu1 lu (e3.get gn) (e3.get (e2.get gk)) gr hlv hsh (by omega) (by omega) ?_ rfl
  intro S4 w8 w11 w12 w13 e4
  refine law_f h34 h27 hln (e4.get (e3.get gn)) (e4.get gr) hlv (by omega) (by omega) ?_
  intro y14
  unfold ls_18
  repeat' (walk_at "pd1")
  refine u_refuse (e4.get (e3.get (e2.get gk))) hlv hso (by omega) (by omega) ?_
  repeat' (walk_at "pd1")
  · exact e1.trans (e2.trans (e3.trans e4))
  · rfl
theorem len_law : ∀ ds S o, p_law ds S o → ds.length = 1 := by rintro _ S o ⟨ns, rfl, _⟩; rfl
theorem ok_law : ∀ ds S o, p_law ds S o → refsLts S.length ds = true → WfS S → okO S.length o = true := by rintro _ S o ⟨ns, rfl, _, rfl⟩ _ _; rfl


end
section
set_option Elab.async false
set_option linter.all false
set_option maxRecDepth 100000
set_option maxHeartbeats 4000000
open PySem PySem.Spec PyProof.Rows L2
def spK : Nat → DSp := fun i => match i with
  | 0 => FnS p_is_whole
  | 1 => FnS p_is_life
  | 2 => FnS p_ending
  | 3 => FnS p_first_meeting
  | 4 => FnS p_meeting_length
  | 5 => FnS p_meeting_pairs
  | 6 => FnS p_lengths_then
  | 7 => FnS p_wrong_start
  | 8 => FnS p_apart
  | 9 => FnS p_Blocks__pairs
  | 10 => FnS p_Blocks__check_block
  | 11 => FnS p_Blocks__meeting
  | 12 => FnS p_Blocks__length_then
  | 13 => FnS p_is_placing
  | 14 => FnS p_Blocks__len_pair
  | 15 => FnS p_apart_pairs
  | 16 => FnS p_end_of
  | 17 => FnS p__law_draws
  | 18 => FnS p__law_pick
  | 19 => FnS p__law_far
  | 20 => FnS p__law_lives
  | 21 => FnS p__law_length
  | 22 => FnS p__law_meeting
  | 23 => FnS p__law_apart
  | 24 => FnS p__law_placed
  | 25 => FnS p__law_heaviest
  | 26 => FnS p__law_end
  | 27 => FnS p__law_number
  | 28 => IniS 3 p_Blocks____init__
  | 29 => FnS p__law_value
  | 30 => FnS p__law_no_pair
  | 31 => FnS p_Blocks__heaviest
  | 32 => FnS p__law_looked
  | 33 => FnS p__law_started
  | 34 => FnS p__law_wrong_starts
  | 35 => FnS p__law_refusals
  | 36 => FnS pLaw
  | _ => fun _ _ _ _ => False
def subK (a b : Nat) : Bool := [(0, 0), (0, 90), (0, 91), (1, 0), (1, 1), (1, 90), (1, 91), (2, 0), (2, 2), (2, 90), (2, 91)].contains (a, b)
def knL : List (Nat × List Str) := [(1, ["name"]), (2, ["place"])]
def noAL : List (Nat × Str) := [(3, Str.ofString "lives"), (3, Str.ofString "many")]
def MK : Md := ⟨fnK, othK, spK, subK, fun k fs => decide ((k, fs) ∈ knL), mtsK, newsK, fun _ _ => none, fun k f => decide ((k, f) ∈ noAL)⟩
theorem isc_1 : FnScope ["self", "name"] ["self", "name"] (defScope (inK 2 0)) := ⟨by kernel_rfl, by kernel_rfl, by kernel_rfl, by decide +kernel, rfl, by decide +kernel, by decide +kernel⟩
theorem ihc_1 : initL ["self", "name"] (defScope (inK 2 0)) (defBody (inK 2 0)) = some [(Str.ofString "name", 1)] := by kernel_rfl
theorem isc_2 : FnScope ["self", "place"] ["self", "place"] (defScope (inK 3 0)) := ⟨by kernel_rfl, by kernel_rfl, by kernel_rfl, by decide +kernel, rfl, by decide +kernel, by decide +kernel⟩
theorem ihc_2 : initL ["self", "place"] (defScope (inK 3 0)) (defBody (inK 3 0)) = some [(Str.ofString "place", 1)] := by kernel_rfl
theorem all_mk {P : Program} {w : World} {K : PySem.W.Frag} {h : Heap} {mg : Str → Option Value} {fa : Addr} (X : K.In h) (G0 : h.Ns mainGlobals mg) (hfa : mg "law" = some (.ref fa)) {f0 f1 f2 f3 f4 f5 f6 f7 f8 f9 f10 f11 f12 f13 f14 f15 f16 f17 f18 f19 f20 f21 f22 f23 f24 f25 f26 f27 f28 f29 f30 f31 f32 f33 f34 f35 f36 C0 C1 I1 C2 I2 C3 : Addr} {tk_MOST_LIVES : Tok}
    (d0 : DefF K "is_whole" (topK 5) f0)
    (d1 : DefF K "is_life" (topK 8) f1)
    (d2 : DefF K "ending" (topK 9) f2)
    (d3 : DefF K "first_meeting" (topK 10) f3)
    (d4 : DefF K "meeting_length" (topK 11) f4)
    (d5 : DefF K "meeting_pairs" (topK 12) f5)
    (d6 : DefF K "lengths_then" (topK 13) f6)
    (d7 : DefF K "wrong_start" (topK 16) f7)
    (d8 : DefF K "apart" (topK 17) f8)
    (d9 : MthF K "pairs" "Blocks.pairs" (inK 14 5) f9)
    (d10 : MthF K "check_block" "Blocks.check_block" (inK 14 1) f10)
    (d11 : MthF K "meeting" "Blocks.meeting" (inK 14 2) f11)
    (d12 : MthF K "length_then" "Blocks.length_then" (inK 14 3) f12)
    (d13 : DefF K "is_placing" (topK 18) f13)
    (d14 : MthF K "len_pair" "Blocks.len_pair" (inK 14 4) f14)
    (d15 : DefF K "apart_pairs" (topK 19) f15)
    (d16 : DefF K "end_of" (topK 20) f16)
    (d17 : DefF K "_law_draws" (topK 22) f17)
    (d18 : DefF K "_law_pick" (topK 23) f18)
    (d19 : DefF K "_law_far" (topK 24) f19)
    (d20 : DefF K "_law_lives" (topK 25) f20)
    (d21 : DefF K "_law_length" (topK 26) f21)
    (d22 : DefF K "_law_meeting" (topK 27) f22)
    (d23 : DefF K "_law_apart" (topK 28) f23)
    (d24 : DefF K "_law_placed" (topK 29) f24)
    (d25 : DefF K "_law_heaviest" (topK 30) f25)
    (d26 : DefF K "_law_end" (topK 31) f26)
    (d27 : DefF K "_law_number" (topK 32) f27)
    (d28 : MthF K "__init__" "Blocks.__init__" (inK 14 0) f28)
    (n28 : L2.Mk K C3 f28)
    (d29 : DefF K "_law_value" (topK 33) f29)
    (d30 : DefF K "_law_no_pair" (topK 34) f30)
    (d31 : MthF K "heaviest" "Blocks.heaviest" (inK 14 6) f31)
    (d32 : DefF K "_law_looked" (topK 35) f32)
    (d33 : DefF K "_law_started" (topK 36) f33)
    (d34 : DefF K "_law_wrong_starts" (topK 37) f34)
    (d35 : DefF K "_law_refusals" (topK 38) f35)
    (d36 : DefF K "law" (topK 39) f36)
    (e0 : ClsF K "ShapeError" C0)
    (e1 : ExcF K "BadNumber" "BadNumber.__init__" (inK 2 0) ["name"] C1 I1)
    (e2 : ExcF K "BadValue" "BadValue.__init__" (inK 3 0) ["place"] C2 I2)
    (o3 : ObjF K "Blocks" C3)
    (m3_9 : L2.Meth K C3 "pairs" f9)
    (m3_10 : L2.Meth K C3 "check_block" f10)
    (m3_11 : L2.Meth K C3 "meeting" f11)
    (m3_12 : L2.Meth K C3 "length_then" f12)
    (m3_14 : L2.Meth K C3 "len_pair" f14)
    (m3_31 : L2.Meth K C3 "heaviest" f31)
    (a3_lives : L2.NoAttr K C3 "lives")
    (a3_many : L2.NoAttr K C3 "many")
    (z_isinstance : PySem.W.nsIn K mainGlobals "isinstance" = some none)
    (z_int : PySem.W.nsIn K mainGlobals "int" = some none)
    (z_bool : PySem.W.nsIn K mainGlobals "bool" = some none)
    (z_enumerate : PySem.W.nsIn K mainGlobals "enumerate" = some none)
    (z_len : PySem.W.nsIn K mainGlobals "len" = some none)
    (z_tuple : PySem.W.nsIn K mainGlobals "tuple" = some none)
    (z_list : PySem.W.nsIn K mainGlobals "list" = some none)
    (z_max : PySem.W.nsIn K mainGlobals "max" = some none)
    (z_min : PySem.W.nsIn K mainGlobals "min" = some none)
    (z_range : PySem.W.nsIn K mainGlobals "range" = some none)
    (z_abs : PySem.W.nsIn K mainGlobals "abs" = some none)
    (z_MOST_LIVES : PySem.W.nsIn K mainGlobals "MOST_LIVES" = some (some (.int 24 tk_MOST_LIVES)))
    (z_sum : PySem.W.nsIn K mainGlobals "sum" = some none)
    (s_1_1 : PySem.W.subIn K (.ref C1) (.ref C1) = some true)
    (s_1_2 : PySem.W.subIn K (.ref C1) (.ref C2) = some false)
    (s_1_0 : PySem.W.subIn K (.ref C1) (.ref C0) = some true)
    (s_2_1 : PySem.W.subIn K (.ref C2) (.ref C1) = some false)
    (s_2_2 : PySem.W.subIn K (.ref C2) (.ref C2) = some true)
    (s_2_0 : PySem.W.subIn K (.ref C2) (.ref C0) = some true)
    (r_0 : PySem.W.subIn K (.ref C0) (.ref C0) = some true)
    (r_1 : PySem.W.subIn K (.ref C1) (.ref C1) = some true)
    (r_2 : PySem.W.subIn K (.ref C2) (.ref C2) = some true)
    : ∃ fd : FuncData, (∀ (s : Shared) (v : Value), BindsTo s fd ⟨[v], []⟩ [("script", v)]) ∧ ∀ base : Heap, K.In base → base.Ns mainGlobals mg → FnOk P w K mg base (L2.CX P w) 75 fa fd ["script"] (spLawR K) := by
  obtain rfl : fa = f36 := by
    have e := hfa.symm.trans (PySem.W.mg_of X G0 d36.ns)
    cases e
    rfl
  obtain ⟨fdL, FL, dfL⟩ := d36.fn
  obtain ⟨oc, od, kV, doc, pm, an, cdv, ct, osl, eL, lkL, cdL⟩ := FL.ex
  refine ⟨fdL, fun s v => ?_, fun base KX G => ?_⟩
  · subst eL
    exact .of_eq rfl
  · have O : MdOk MK (caOf [C0, C1, C2, C3]) P w K mg base := by
      refine ⟨?_, ?_, ?_, ?_, ?_, ?_, ?_, ?_⟩
      · rintro Y rfl rfl x g hx
        simp only [MK, othK, List.map, List.mem_cons, List.not_mem_nil, or_false, Prod.mk.injEq] at hx
        rcases hx with ⟨rfl, rfl⟩ | ⟨rfl, rfl⟩ | ⟨rfl, rfl⟩ | ⟨rfl, rfl⟩ | ⟨rfl, rfl⟩ | ⟨rfl, rfl⟩ | ⟨rfl, rfl⟩ | ⟨rfl, rfl⟩ | ⟨rfl, rfl⟩ | ⟨rfl, rfl⟩ | ⟨rfl, rfl⟩ | ⟨rfl, rfl⟩ | ⟨rfl, rfl⟩ | ⟨rfl, rfl⟩ | ⟨rfl, rfl⟩ | ⟨rfl, rfl⟩ | ⟨rfl, rfl⟩
        · exact ⟨PySem.W.mg_none_of KX G z_isinstance, by kernel_rfl⟩
        · exact ⟨PySem.W.mg_none_of KX G z_int, by kernel_rfl⟩
        · exact ⟨PySem.W.mg_none_of KX G z_bool, by kernel_rfl⟩
        · exact ⟨PySem.W.mg_none_of KX G z_enumerate, rfl⟩
        · exact ⟨PySem.W.mg_none_of KX G z_len, by kernel_rfl⟩
        · exact ⟨PySem.W.mg_none_of KX G z_tuple, by kernel_rfl⟩
        · exact ⟨PySem.W.mg_none_of KX G z_list, by kernel_rfl⟩
        · exact ⟨PySem.W.mg_none_of KX G z_max, by kernel_rfl⟩
        · exact ⟨PySem.W.mg_none_of KX G z_min, by kernel_rfl⟩
        · exact ⟨PySem.W.mg_none_of KX G z_range, rfl⟩
        · exact PySem.W.mg_of KX G e1.ns
        · exact PySem.W.mg_of KX G e2.ns
        · exact ⟨PySem.W.mg_none_of KX G z_abs, by kernel_rfl⟩
        · exact ⟨_, .int 24, PySem.W.mg_of KX G z_MOST_LIVES, ⟨_, rfl⟩, fun H β => .int _⟩
        · exact PySem.W.mg_of KX G o3.ns
        · exact ⟨PySem.W.mg_none_of KX G z_sum, by kernel_rfl⟩
        · exact PySem.W.mg_of KX G e0.ns
      · intro x g hx
        simp only [MK, othK, List.map, List.mem_cons, List.not_mem_nil, or_false, Prod.mk.injEq] at hx
        rcases hx with ⟨rfl, rfl⟩ | ⟨rfl, rfl⟩ | ⟨rfl, rfl⟩ | ⟨rfl, rfl⟩ | ⟨rfl, rfl⟩ | ⟨rfl, rfl⟩ | ⟨rfl, rfl⟩ | ⟨rfl, rfl⟩ | ⟨rfl, rfl⟩ | ⟨rfl, rfl⟩ | ⟨rfl, rfl⟩ | ⟨rfl, rfl⟩ | ⟨rfl, rfl⟩ | ⟨rfl, rfl⟩ | ⟨rfl, rfl⟩ | ⟨rfl, rfl⟩ | ⟨rfl, rfl⟩ <;> rfl
      · rintro Y rfl rfl rfl rfl rfl hr x k fs hx
        simp only [MK, othK, List.map, List.mem_cons, List.not_mem_nil, or_false, Prod.mk.injEq] at hx
        rcases hx with ⟨rfl, hx⟩ | ⟨rfl, hx⟩ | ⟨rfl, hx⟩ | ⟨rfl, hx⟩ | ⟨rfl, hx⟩ | ⟨rfl, hx⟩ | ⟨rfl, hx⟩ | ⟨rfl, hx⟩ | ⟨rfl, hx⟩ | ⟨rfl, hx⟩ | ⟨rfl, hx⟩ | ⟨rfl, hx⟩ | ⟨rfl, hx⟩ | ⟨rfl, hx⟩ | ⟨rfl, hx⟩ | ⟨rfl, hx⟩ | ⟨rfl, hx⟩
        · cases hx
        · cases hx
        · cases hx
        · cases hx
        · cases hx
        · cases hx
        · cases hx
        · cases hx
        · cases hx
        · cases hx
        · cases hx
          obtain ⟨fd, F, df⟩ := e1.fn
          exact rok_of e1.T (PySem.W.mg_of KX G e1.ns) (by decide +kernel) e1.iC e1.tI (init_fn e1.T F isc_1 ihc_1 rfl rfl rfl (List.cons_ne_nil _ _) (by decide) e1.no) (F.binds fun _ _ _ _ _ _ us hl => match us, hl with | [_, _], _ => rfl) (by decide +kernel) (by decide) hr
        · cases hx
          obtain ⟨fd, F, df⟩ := e2.fn
          exact rok_of e2.T (PySem.W.mg_of KX G e2.ns) (by decide +kernel) e2.iC e2.tI (init_fn e2.T F isc_2 ihc_2 rfl rfl rfl (List.cons_ne_nil _ _) (by decide) e2.no) (F.binds fun _ _ _ _ _ _ us hl => match us, hl with | [_, _], _ => rfl) (by decide +kernel) (by decide) hr
        · cases hx
        · cases hx
        · cases hx
        · cases hx
        · cases hx
      · intro k fs hk
        have hk := of_decide_eq_true hk
        simp only [knL, List.mem_cons, List.not_mem_nil, or_false, Prod.mk.injEq] at hk
        rcases hk with ⟨rfl, rfl⟩ | ⟨rfl, rfl⟩
        · refine ⟨e1.xf, e1.kx, e1.no, fun x g j hx hj => ?_⟩
          simp only [MK, othK, List.map, List.mem_cons, List.not_mem_nil, or_false, Prod.mk.injEq] at hx
          rcases hx with ⟨rfl, rfl⟩ | ⟨rfl, rfl⟩ | ⟨rfl, rfl⟩ | ⟨rfl, rfl⟩ | ⟨rfl, rfl⟩ | ⟨rfl, rfl⟩ | ⟨rfl, rfl⟩ | ⟨rfl, rfl⟩ | ⟨rfl, rfl⟩ | ⟨rfl, rfl⟩ | ⟨rfl, rfl⟩ | ⟨rfl, rfl⟩ | ⟨rfl, rfl⟩ | ⟨rfl, rfl⟩ | ⟨rfl, rfl⟩ | ⟨rfl, rfl⟩ | ⟨rfl, rfl⟩
          · cases hj
          · cases hj
          · cases hj
          · cases hj
          · cases hj
          · cases hj
          · cases hj
          · cases hj
          · cases hj
          · cases hj
          · cases hj; exact ⟨exm_own e1.T.exC e1.xf.hdC e1.T.tyC s_1_1, kit_own (cls_some e1.xf.hdC) e1.T.tyC s_1_1 r_1⟩
          · cases hj; exact ⟨exm_own e2.T.exC e2.xf.hdC e2.T.tyC s_1_2, kit_own (cls_some e2.xf.hdC) e2.T.tyC s_1_2 r_2⟩
          · cases hj
          · cases hj
          · cases hj
          · cases hj
          · cases hj; exact ⟨exm_own e0.exC e0.hd e0.ty s_1_0, kit_own (cls_some e0.hd) e0.ty s_1_0 r_0⟩
        · refine ⟨e2.xf, e2.kx, e2.no, fun x g j hx hj => ?_⟩
          simp only [MK, othK, List.map, List.mem_cons, List.not_mem_nil, or_false, Prod.mk.injEq] at hx
          rcases hx with ⟨rfl, rfl⟩ | ⟨rfl, rfl⟩ | ⟨rfl, rfl⟩ | ⟨rfl, rfl⟩ | ⟨rfl, rfl⟩ | ⟨rfl, rfl⟩ | ⟨rfl, rfl⟩ | ⟨rfl, rfl⟩ | ⟨rfl, rfl⟩ | ⟨rfl, rfl⟩ | ⟨rfl, rfl⟩ | ⟨rfl, rfl⟩ | ⟨rfl, rfl⟩ | ⟨rfl, rfl⟩ | ⟨rfl, rfl⟩ | ⟨rfl, rfl⟩ | ⟨rfl, rfl⟩
          · cases hj
          · cases hj
          · cases hj
          · cases hj
          · cases hj
          · cases hj
          · cases hj
          · cases hj
          · cases hj
          · cases hj
          · cases hj; exact ⟨exm_own e1.T.exC e1.xf.hdC e1.T.tyC s_2_1, kit_own (cls_some e1.xf.hdC) e1.T.tyC s_2_1 r_1⟩
          · cases hj; exact ⟨exm_own e2.T.exC e2.xf.hdC e2.T.tyC s_2_2, kit_own (cls_some e2.xf.hdC) e2.T.tyC s_2_2 r_2⟩
          · cases hj
          · cases hj
          · cases hj
          · cases hj
          · cases hj; exact ⟨exm_own e0.exC e0.hd e0.ty s_2_0, kit_own (cls_some e0.hd) e0.ty s_2_0 r_0⟩
      · intro m k j h
        have q := List.all_eq_true.mp (show mtsK.all (fun t => [3].contains t.2.1) = true from by rfl) _ h
        have q := List.contains_iff_mem.mp q
        simp only [List.mem_cons, List.not_mem_nil, or_false] at q
        rcases q with rfl
        · exact o3.cls
      · intro x k j h
        simp only [MK, newsK, List.mem_cons, List.not_mem_nil, or_false, Prod.mk.injEq] at h
        rcases h with ⟨rfl, rfl, rfl⟩
        · exact PySem.W.mg_of KX G o3.ns
      · exact fun k f d h => nomatch (show (none : Option PD.D) = some d from h)
      · intro k f h
        have h := of_decide_eq_true h
        simp only [noAL, List.mem_cons, List.not_mem_nil, or_false, Prod.mk.injEq] at h
        rcases h with ⟨rfl, rfl⟩ | ⟨rfl, rfl⟩
        · exact ⟨o3.cls, a3_lives⟩
        · exact ⟨o3.cls, a3_many⟩
    have D0 : Done MK (caOf [C0, C1, C2, C3]) P w K mg base 0 := Done.zero
    obtain ⟨fd0, F0, df0⟩ := d0.fn
    have G0 := fn_gc (fs := p_is_whole) (i := 0) O D0 F0 sc_0 hc_0 (len_is_whole) (ok_is_whole) (vc_is_whole MK )
    have D1 := D0.succ (PySem.W.mg_of KX G d0.ns) F0.kp (fn_all G0 (F0.binds (ps := ["thing"]) fun _ _ _ _ _ _ us hl => match us, hl with | [_], _ => rfl)) (by decide)
    obtain ⟨fd1, F1, df1⟩ := d1.fn
    have G1 := fn_gc (fs := p_is_life) (i := 1) O D1 F1 sc_1 hc_1 (len_is_life) (ok_is_life) (vc_is_life MK rfl)
    have D2 := D1.succ (PySem.W.mg_of KX G d1.ns) F1.kp (fn_all G1 (F1.binds (ps := ["thing"]) fun _ _ _ _ _ _ us hl => match us, hl with | [_], _ => rfl)) (by decide)
    obtain ⟨fd2, F2, df2⟩ := d2.fn
    have G2 := fn_gc (fs := p_ending) (i := 2) O D2 F2 sc_2 hc_2 (len_ending) (ok_ending) (vc_ending MK )
    have D3 := D2.succ (PySem.W.mg_of KX G d2.ns) F2.kp (fn_all G2 (F2.binds (ps := ["life"]) fun _ _ _ _ _ _ us hl => match us, hl with | [_], _ => rfl)) (by decide)
    obtain ⟨fd3, F3, df3⟩ := d3.fn
    have G3 := fn_gc (fs := p_first_meeting) (i := 3) O D3 F3 sc_3 hc_3 (len_first_meeting) (ok_first_meeting) (vc_first_meeting MK rfl)
    have D4 := D3.succ (PySem.W.mg_of KX G d3.ns) F3.kp (fn_all G3 (F3.binds (ps := ["lives", "b", "c"]) fun _ _ _ _ _ _ us hl => match us, hl with | [_, _, _], _ => rfl)) (by decide)
    obtain ⟨fd4, F4, df4⟩ := d4.fn
    have G4 := fn_gc (fs := p_meeting_length) (i := 4) O D4 F4 sc_4 hc_4 (len_meeting_length) (ok_meeting_length) (vc_meeting_length MK rfl)
    have D5 := D4.succ (PySem.W.mg_of KX G d4.ns) F4.kp (fn_all G4 (F4.binds (ps := ["lives", "b", "c"]) fun _ _ _ _ _ _ us hl => match us, hl with | [_, _, _], _ => rfl)) (by decide)
    obtain ⟨fd5, F5, df5⟩ := d5.fn
    have G5 := fn_gc (fs := p_meeting_pairs) (i := 5) O D5 F5 sc_5 hc_5 (len_meeting_pairs) (ok_meeting_pairs) (vc_meeting_pairs MK rfl)
    have D6 := D5.succ (PySem.W.mg_of KX G d5.ns) F5.kp (fn_all G5 (F5.binds (ps := ["lives"]) fun _ _ _ _ _ _ us hl => match us, hl with | [_], _ => rfl)) (by decide)
    obtain ⟨fd6, F6, df6⟩ := d6.fn
    have G6 := fn_gc (fs := p_lengths_then) (i := 6) O D6 F6 sc_6 hc_6 (len_lengths_then) (ok_lengths_then) (vc_lengths_then MK )
    have D7 := D6.succ (PySem.W.mg_of KX G d6.ns) F6.kp (fn_all G6 (F6.binds (ps := ["lives", "moment"]) fun _ _ _ _ _ _ us hl => match us, hl with | [_, _], _ => rfl)) (by decide)
    obtain ⟨fd7, F7, df7⟩ := d7.fn
    have G7 := fn_gc (fs := p_wrong_start) (i := 7) O D7 F7 sc_7 hc_7 (len_wrong_start) (ok_wrong_start) (vc_wrong_start MK rfl (by decide +kernel))
    have D8 := D7.succ (PySem.W.mg_of KX G d7.ns) F7.kp (fn_all G7 (F7.binds (ps := ["blocks", "starts"]) fun _ _ _ _ _ _ us hl => match us, hl with | [_, _], _ => rfl)) (by decide)
    obtain ⟨fd8, F8, df8⟩ := d8.fn
    have G8 := fn_gc (fs := p_apart) (i := 8) O D8 F8 sc_8 hc_8 (len_apart) (ok_apart) (vc_apart MK )
    have D9 := D8.succ (PySem.W.mg_of KX G d8.ns) F8.kp (fn_all G8 (F8.binds (ps := ["start", "length", "other", "taken"]) fun _ _ _ _ _ _ us hl => match us, hl with | [_, _, _, _], _ => rfl)) (by decide)
    obtain ⟨fd9, F9, df9⟩ := d9.fn
    have G9 := fn_gc (fs := p_Blocks__pairs) (i := 9) O D9 F9 sc_9 hc_9 (len_Blocks__pairs) (ok_Blocks__pairs) (vc_Blocks__pairs MK rfl (by decide +kernel))
    have D10 := D9.put (fun h => absurd h (by decide)) (fn_all G9 (F9.binds (ps := ["self"]) fun _ _ _ _ _ _ us hl => match us, hl with | [_], _ => rfl)) (mts_of (L := [(Str.ofString "pairs", 3, 9)]) (by rfl) (by simp only [List.forall_mem_cons]; exact ⟨m3_9, fun _ h => absurd h List.not_mem_nil⟩)) (mts_of (L := []) (by rfl) (fun _ h => absurd h List.not_mem_nil))
    obtain ⟨fd10, F10, df10⟩ := d10.fn
    have G10 := fn_gc (fs := p_Blocks__check_block) (i := 10) O D10 F10 sc_10 hc_10 (len_Blocks__check_block) (ok_Blocks__check_block) (vc_Blocks__check_block MK rfl (by decide +kernel))
    have D11 := D10.put (fun h => absurd h (by decide)) (fn_all G10 (F10.binds (ps := ["self", "name", "number"]) fun _ _ _ _ _ _ us hl => match us, hl with | [_, _, _], _ => rfl)) (mts_of (L := [(Str.ofString "check_block", 3, 10)]) (by rfl) (by simp only [List.forall_mem_cons]; exact ⟨m3_10, fun _ h => absurd h List.not_mem_nil⟩)) (mts_of (L := []) (by rfl) (fun _ h => absurd h List.not_mem_nil))
    obtain ⟨fd11, F11, df11⟩ := d11.fn
    have G11 := fn_gc (fs := p_Blocks__meeting) (i := 11) O D11 F11 sc_11 hc_11 (len_Blocks__meeting) (ok_Blocks__meeting) (vc_Blocks__meeting MK rfl rfl (by decide +kernel))
    have D12 := D11.put (fun h => absurd h (by decide)) (fn_all G11 (F11.binds (ps := ["self", "b", "c"]) fun _ _ _ _ _ _ us hl => match us, hl with | [_, _, _], _ => rfl)) (mts_of (L := [(Str.ofString "meeting", 3, 11)]) (by rfl) (by simp only [List.forall_mem_cons]; exact ⟨m3_11, fun _ h => absurd h List.not_mem_nil⟩)) (mts_of (L := []) (by rfl) (fun _ h => absurd h List.not_mem_nil))
    obtain ⟨fd12, F12, df12⟩ := d12.fn
    have G12 := fn_gc (fs := p_Blocks__length_then) (i := 12) O D12 F12 sc_12 hc_12 (len_Blocks__length_then) (ok_Blocks__length_then) (vc_Blocks__length_then MK rfl rfl (by decide +kernel))
    have D13 := D12.put (fun h => absurd h (by decide)) (fn_all G12 (F12.binds (ps := ["self", "b", "moment"]) fun _ _ _ _ _ _ us hl => match us, hl with | [_, _, _], _ => rfl)) (mts_of (L := [(Str.ofString "length_then", 3, 12)]) (by rfl) (by simp only [List.forall_mem_cons]; exact ⟨m3_12, fun _ h => absurd h List.not_mem_nil⟩)) (mts_of (L := []) (by rfl) (fun _ h => absurd h List.not_mem_nil))
    obtain ⟨fd13, F13, df13⟩ := d13.fn
    have G13 := fn_gc (fs := p_is_placing) (i := 13) O D13 F13 sc_13 hc_13 (len_is_placing) (ok_is_placing) (vc_is_placing MK rfl rfl rfl rfl rfl rfl (by decide +kernel))
    have D14 := D13.succ (PySem.W.mg_of KX G d13.ns) F13.kp (fn_all G13 (F13.binds (ps := ["blocks", "starts"]) fun _ _ _ _ _ _ us hl => match us, hl with | [_, _], _ => rfl)) (by decide)
    obtain ⟨fd14, F14, df14⟩ := d14.fn
    have G14 := fn_gc (fs := p_Blocks__len_pair) (i := 14) O D14 F14 sc_14 hc_14 (len_Blocks__len_pair) (ok_Blocks__len_pair) (vc_Blocks__len_pair MK rfl rfl (by decide +kernel))
    have D15 := D14.put (fun h => absurd h (by decide)) (fn_all G14 (F14.binds (ps := ["self", "b", "c"]) fun _ _ _ _ _ _ us hl => match us, hl with | [_, _, _], _ => rfl)) (mts_of (L := [(Str.ofString "len_pair", 3, 14)]) (by rfl) (by simp only [List.forall_mem_cons]; exact ⟨m3_14, fun _ h => absurd h List.not_mem_nil⟩)) (mts_of (L := []) (by rfl) (fun _ h => absurd h List.not_mem_nil))
    obtain ⟨fd15, F15, df15⟩ := d15.fn
    have G15 := fn_gc (fs := p_apart_pairs) (i := 15) O D15 F15 sc_15 hc_15 (len_apart_pairs) (ok_apart_pairs) (vc_apart_pairs MK rfl rfl rfl rfl (by decide +kernel))
    have D16 := D15.succ (PySem.W.mg_of KX G d15.ns) F15.kp (fn_all G15 (F15.binds (ps := ["blocks", "starts"]) fun _ _ _ _ _ _ us hl => match us, hl with | [_, _], _ => rfl)) (by decide)
    obtain ⟨fd16, F16, df16⟩ := d16.fn
    have G16 := fn_gc (fs := p_end_of) (i := 16) O D16 F16 sc_16 hc_16 (len_end_of) (ok_end_of) (vc_end_of MK rfl (by decide +kernel))
    have D17 := D16.succ (PySem.W.mg_of KX G d16.ns) F16.kp (fn_all G16 (F16.binds (ps := ["blocks", "starts"]) fun _ _ _ _ _ _ us hl => match us, hl with | [_, _], _ => rfl)) (by decide)
    obtain ⟨fd17, F17, df17⟩ := d17.fn
    have G17 := fn_gc (fs := p__law_draws) (i := 17) O D17 F17 sc_17 hc_17 (len__law_draws) (ok__law_draws) (vc__law_draws MK )
    have D18 := D17.succ (PySem.W.mg_of KX G d17.ns) F17.kp (fn_all G17 (F17.binds (ps := ["script"]) fun _ _ _ _ _ _ us hl => match us, hl with | [_], _ => rfl)) (by decide)
    obtain ⟨fd18, F18, df18⟩ := d18.fn
    have G18 := fn_gc (fs := p__law_pick) (i := 18) O D18 F18 sc_18 hc_18 (len__law_pick) (ok__law_pick) (vc__law_pick MK )
    have D19 := D18.succ (PySem.W.mg_of KX G d18.ns) F18.kp (fn_all G18 (F18.binds (ps := ["drawn", "at", "many"]) fun _ _ _ _ _ _ us hl => match us, hl with | [_, _, _], _ => rfl)) (by decide)
    obtain ⟨fd19, F19, df19⟩ := d19.fn
    have G19 := fn_gc (fs := p__law_far) (i := 19) O D19 F19 sc_19 hc_19 (len__law_far) (ok__law_far) (vc__law_far MK rfl)
    have D20 := D19.succ (PySem.W.mg_of KX G d19.ns) F19.kp (fn_all G19 (F19.binds (ps := ["drawn", "at"]) fun _ _ _ _ _ _ us hl => match us, hl with | [_, _], _ => rfl)) (by decide)
    obtain ⟨fd20, F20, df20⟩ := d20.fn
    have G20 := fn_gc (fs := p__law_lives) (i := 20) O D20 F20 sc_20 hc_20 (len__law_lives) (ok__law_lives) (vc__law_lives MK rfl)
    have D21 := D20.succ (PySem.W.mg_of KX G d20.ns) F20.kp (fn_all G20 (F20.binds (ps := ["drawn", "many", "unit"]) fun _ _ _ _ _ _ us hl => match us, hl with | [_, _, _], _ => rfl)) (by decide)
    obtain ⟨fd21, F21, df21⟩ := d21.fn
    have G21 := fn_gc (fs := p__law_length) (i := 21) O D21 F21 sc_21 hc_21 (len__law_length) (ok__law_length) (vc__law_length MK )
    have D22 := D21.succ (PySem.W.mg_of KX G d21.ns) F21.kp (fn_all G21 (F21.binds (ps := ["life", "moment"]) fun _ _ _ _ _ _ us hl => match us, hl with | [_, _], _ => rfl)) (by decide)
    obtain ⟨fd22, F22, df22⟩ := d22.fn
    have G22 := fn_gc (fs := p__law_meeting) (i := 22) O D22 F22 sc_22 hc_22 (len__law_meeting) (ok__law_meeting) (vc__law_meeting MK rfl)
    have D23 := D22.succ (PySem.W.mg_of KX G d22.ns) F22.kp (fn_all G22 (F22.binds (ps := ["lives", "b", "c"]) fun _ _ _ _ _ _ us hl => match us, hl with | [_, _, _], _ => rfl)) (by decide)
    obtain ⟨fd23, F23, df23⟩ := d23.fn
    have G23 := fn_gc (fs := p__law_apart) (i := 23) O D23 F23 sc_23 hc_23 (len__law_apart) (ok__law_apart) (vc__law_apart MK rfl)
    have D24 := D23.succ (PySem.W.mg_of KX G d23.ns) F23.kp (fn_all G23 (F23.binds (ps := ["lives", "starts", "moment"]) fun _ _ _ _ _ _ us hl => match us, hl with | [_, _, _], _ => rfl)) (by decide)
    obtain ⟨fd24, F24, df24⟩ := d24.fn
    have G24 := fn_gc (fs := p__law_placed) (i := 24) O D24 F24 sc_24 hc_24 (len__law_placed) (ok__law_placed) (vc__law_placed MK rfl)
    have D25 := D24.succ (PySem.W.mg_of KX G d24.ns) F24.kp (fn_all G24 (F24.binds (ps := ["lives", "starts"]) fun _ _ _ _ _ _ us hl => match us, hl with | [_, _], _ => rfl)) (by decide)
    obtain ⟨fd25, F25, df25⟩ := d25.fn
    have G25 := fn_gc (fs := p__law_heaviest) (i := 25) O D25 F25 sc_25 hc_25 (len__law_heaviest) (ok__law_heaviest) (vc__law_heaviest MK rfl)
    have D26 := D25.succ (PySem.W.mg_of KX G d25.ns) F25.kp (fn_all G25 (F25.binds (ps := ["lives"]) fun _ _ _ _ _ _ us hl => match us, hl with | [_], _ => rfl)) (by decide)
    obtain ⟨fd26, F26, df26⟩ := d26.fn
    have G26 := fn_gc (fs := p__law_end) (i := 26) O D26 F26 sc_26 hc_26 (len__law_end) (ok__law_end) (vc__law_end MK )
    have D27 := D26.succ (PySem.W.mg_of KX G d26.ns) F26.kp (fn_all G26 (F26.binds (ps := ["lives", "starts"]) fun _ _ _ _ _ _ us hl => match us, hl with | [_, _], _ => rfl)) (by decide)
    obtain ⟨fd27, F27, df27⟩ := d27.fn
    have G27 := fn_gc (fs := p__law_number) (i := 27) O D27 F27 sc_27 hc_27 (len__law_number) (ok__law_number) (vc__law_number MK rfl rfl rfl (by decide +kernel) (by decide +kernel))
    have D28 := D27.succ (PySem.W.mg_of KX G d27.ns) F27.kp (fn_all G27 (F27.binds (ps := ["blocks", "asked", "b", "c"]) fun _ _ _ _ _ _ us hl => match us, hl with | [_, _, _, _], _ => rfl)) (by decide)
    obtain ⟨fd28, F28, df28⟩ := d28.fn
    have G28 := fn_step (sp := IniS 3 p_Blocks____init__) (i := 28) O D28 F28 sc_28 hc_28 (ini_len len_Blocks____init__) (vc_ini (vc_Blocks____init__ MK rfl (by decide +kernel) (by decide +kernel)))
    have D29 := D28.put (fun h => absurd h (by decide)) (fn_all G28 (F28.binds (ps := ["self", "lives"]) fun _ _ _ _ _ _ us hl => match us, hl with | [_, _], _ => rfl)) (mts_of (L := []) (by rfl) (fun _ h => absurd h List.not_mem_nil)) (mts_of (L := [(Str.ofString "Blocks", 3, 28)]) (by rfl) (by simp only [List.forall_mem_cons]; exact ⟨n28, fun _ h => absurd h List.not_mem_nil⟩))
    obtain ⟨fd29, F29, df29⟩ := d29.fn
    have G29 := fn_gc (fs := p__law_value) (i := 29) O D29 F29 sc_29 hc_29 (len__law_value) (ok__law_value) (vc__law_value MK rfl (by decide +kernel) (by decide +kernel))
    have D30 := D29.succ (PySem.W.mg_of KX G d29.ns) F29.kp (fn_all G29 (F29.binds (ps := ["lives"]) fun _ _ _ _ _ _ us hl => match us, hl with | [_], _ => rfl)) (by decide)
    obtain ⟨fd30, F30, df30⟩ := d30.fn
    have G30 := fn_gc (fs := p__law_no_pair) (i := 30) O D30 F30 sc_30 hc_30 (len__law_no_pair) (ok__law_no_pair) (vc__law_no_pair MK rfl (by decide +kernel) (by decide +kernel))
    have D31 := D30.succ (PySem.W.mg_of KX G d30.ns) F30.kp (fn_all G30 (F30.binds (ps := ["blocks", "b", "c"]) fun _ _ _ _ _ _ us hl => match us, hl with | [_, _, _], _ => rfl)) (by decide)
    obtain ⟨fd31, F31, df31⟩ := d31.fn
    have G31 := fn_gc (fs := p_Blocks__heaviest) (i := 31) O D31 F31 sc_31 hc_31 (len_Blocks__heaviest) (ok_Blocks__heaviest) (vc_Blocks__heaviest MK rfl (by decide +kernel))
    have D32 := D31.put (fun h => absurd h (by decide)) (fn_all G31 (F31.binds (ps := ["self"]) fun _ _ _ _ _ _ us hl => match us, hl with | [_], _ => rfl)) (mts_of (L := [(Str.ofString "heaviest", 3, 31)]) (by rfl) (by simp only [List.forall_mem_cons]; exact ⟨m3_31, fun _ h => absurd h List.not_mem_nil⟩)) (mts_of (L := []) (by rfl) (fun _ h => absurd h List.not_mem_nil))
    obtain ⟨fd32, F32, df32⟩ := d32.fn
    have G32 := fn_gc (fs := p__law_looked) (i := 32) O D32 F32 sc_32 hc_32 (len__law_looked) (ok__law_looked) (vc__law_looked MK rfl rfl rfl rfl rfl rfl rfl rfl rfl rfl (by decide +kernel) (by decide +kernel))
    have D33 := D32.succ (PySem.W.mg_of KX G d32.ns) F32.kp (fn_all G32 (F32.binds (ps := ["blocks", "lives"]) fun _ _ _ _ _ _ us hl => match us, hl with | [_, _], _ => rfl)) (by decide)
    obtain ⟨fd33, F33, df33⟩ := d33.fn
    have G33 := fn_gc (fs := p__law_started) (i := 33) O D33 F33 sc_33 hc_33 (len__law_started) (ok__law_started) (vc__law_started MK rfl rfl rfl rfl rfl)
    have D34 := D33.succ (PySem.W.mg_of KX G d33.ns) F33.kp (fn_all G33 (F33.binds (ps := ["blocks", "lives", "starts"]) fun _ _ _ _ _ _ us hl => match us, hl with | [_, _, _], _ => rfl)) (by decide)
    obtain ⟨fd34, F34, df34⟩ := d34.fn
    have G34 := fn_gc (fs := p__law_wrong_starts) (i := 34) O D34 F34 sc_34 hc_34 (len__law_wrong_starts) (ok__law_wrong_starts) (vc__law_wrong_starts MK rfl rfl rfl (by decide +kernel) (by decide +kernel))
    have D35 := D34.succ (PySem.W.mg_of KX G d34.ns) F34.kp (fn_all G34 (F34.binds (ps := ["blocks", "starts"]) fun _ _ _ _ _ _ us hl => match us, hl with | [_, _], _ => rfl)) (by decide)
    obtain ⟨fd35, F35, df35⟩ := d35.fn
    have G35 := fn_gc (fs := p__law_refusals) (i := 35) O D35 F35 sc_35 hc_35 (len__law_refusals) (ok__law_refusals) (vc__law_refusals MK rfl rfl (by decide +kernel))
    have D36 := D35.succ (PySem.W.mg_of KX G d35.ns) F35.kp (fn_all G35 (F35.binds (ps := ["lives"]) fun _ _ _ _ _ _ us hl => match us, hl with | [_], _ => rfl)) (by decide)
    have G36 := fn_gc (fs := pLaw) (i := 36) O D36 FL sc_36 hc_36 (fun _ _ _ ⟨_, h, _⟩ => by rw [h]; rfl) (fun _ _ _ ⟨_, _, _, h⟩ _ _ => by rw [h]; rfl) (vc_law MK rfl rfl rfl rfl rfl rfl rfl rfl rfl rfl rfl)
    exact G36.imp (law_sp _)

end
end PD
set_option Elab.async false
set_option maxRecDepth 100000
open PySem PySem.W PyProof.Rows
set_option maxHeartbeats 0 in
theorem PySem.Challenge.cw_shapestold_k70_first_meetings_are_enough_holds : PySem.Challenge.rw_shapestold_k70_first_meetings_are_enough.Holds := by
  w_on; o_law; k_head; (case hw => w_witness2)
  k_fill
  refine L2.walk_of (l := PySem.Challenge.rw_shapestold_k70_first_meetings_are_enough) (n := 63) (k := 75) (x := "script") (CX := fun w => L2.CX PySem.Challenge.rw_shapestold_k70_first_meetings_are_enough.prog w) (sp := fun w => PD.spLawR _) rfl (by decide) rfl ⟨rfl, by decide, by decide⟩ (fun w h Y => PySem.W.kIn_of Y) ?F (fun _ _ a ns hl hO hS => PD.law_only hO hS hl) (fun _ _ _ _ _ h => PD.cx_false h)
  case F =>
    intro w mg fa h KX G hmg
    refine' PD.all_mk KX G hmg ?d0 ?d1 ?d2 ?d3 ?d4 ?d5 ?d6 ?d7 ?d8 ?d9 ?d10 ?d11 ?d12 ?d13 ?d14 ?d15 ?d16 ?d17 ?d18 ?d19 ?d20 ?d21 ?d22 ?d23 ?d24 ?d25 ?d26 ?d27 ?d28 ?n28 ?d29 ?d30 ?d31 ?d32 ?d33 ?d34 ?d35 ?d36 ?e0 ?e1 ?e2 ?o3 ?m3_9 ?m3_10 ?m3_11 ?m3_12 ?m3_14 ?m3_31 ?a3_lives ?a3_many ?z_isinstance ?z_int ?z_bool ?z_enumerate ?z_len ?z_tuple ?z_list ?z_max ?z_min ?z_range ?z_abs ?z_MOST_LIVES ?z_sum ?s_1_1 ?s_1_2 ?s_1_0 ?s_2_1 ?s_2_2 ?s_2_0 ?r_0 ?r_1 ?r_2
    (case d0 => refine' PD.defF_mk ?a ?l ?c ?k; (case a => k_is); (case l => k_is); (case c => k_is); (case k => k_is))
    (case d1 => refine' PD.defF_mk ?a ?l ?c ?k; (case a => k_is); (case l => k_is); (case c => k_is); (case k => k_is))
    (case d2 => refine' PD.defF_mk ?a ?l ?c ?k; (case a => k_is); (case l => k_is); (case c => k_is); (case k => k_is))
    (case d3 => refine' PD.defF_mk ?a ?l ?c ?k; (case a => k_is); (case l => k_is); (case c => k_is); (case k => k_is))
    (case d4 => refine' PD.defF_mk ?a ?l ?c ?k; (case a => k_is); (case l => k_is); (case c => k_is); (case k => k_is))
    (case d5 => refine' PD.defF_mk ?a ?l ?c ?k; (case a => k_is); (case l => k_is); (case c => k_is); (case k => k_is))
    (case d6 => refine' PD.defF_mk ?a ?l ?c ?k; (case a => k_is); (case l => k_is); (case c => k_is); (case k => k_is))
    (case d7 => refine' PD.defF_mk ?a ?l ?c ?k; (case a => k_is); (case l => k_is); (case c => k_is); (case k => k_is))
    (case d8 => refine' PD.defF_mk ?a ?l ?c ?k; (case a => k_is); (case l => k_is); (case c => k_is); (case k => k_is))
    (case d13 => refine' PD.defF_mk ?a ?l ?c ?k; (case a => k_is); (case l => k_is); (case c => k_is); (case k => k_is))
    (case d15 => refine' PD.defF_mk ?a ?l ?c ?k; (case a => k_is); (case l => k_is); (case c => k_is); (case k => k_is))
    (case d16 => refine' PD.defF_mk ?a ?l ?c ?k; (case a => k_is); (case l => k_is); (case c => k_is); (case k => k_is))
    (case d17 => refine' PD.defF_mk ?a ?l ?c ?k; (case a => k_is); (case l => k_is); (case c => k_is); (case k => k_is))
    (case d18 => refine' PD.defF_mk ?a ?l ?c ?k; (case a => k_is); (case l => k_is); (case c => k_is); (case k => k_is))
    (case d19 => refine' PD.defF_mk ?a ?l ?c ?k; (case a => k_is); (case l => k_is); (case c => k_is); (case k => k_is))
    (case d20 => refine' PD.defF_mk ?a ?l ?c ?k; (case a => k_is); (case l => k_is); (case c => k_is); (case k => k_is))
    (case d21 => refine' PD.defF_mk ?a ?l ?c ?k; (case a => k_is); (case l => k_is); (case c => k_is); (case k => k_is))
    (case d22 => refine' PD.defF_mk ?a ?l ?c ?k; (case a => k_is); (case l => k_is); (case c => k_is); (case k => k_is))
    (case d23 => refine' PD.defF_mk ?a ?l ?c ?k; (case a => k_is); (case l => k_is); (case c => k_is); (case k => k_is))
    (case d24 => refine' PD.defF_mk ?a ?l ?c ?k; (case a => k_is); (case l => k_is); (case c => k_is); (case k => k_is))
    (case d25 => refine' PD.defF_mk ?a ?l ?c ?k; (case a => k_is); (case l => k_is); (case c => k_is); (case k => k_is))
    (case d26 => refine' PD.defF_mk ?a ?l ?c ?k; (case a => k_is); (case l => k_is); (case c => k_is); (case k => k_is))
    (case d27 => refine' PD.defF_mk ?a ?l ?c ?k; (case a => k_is); (case l => k_is); (case c => k_is); (case k => k_is))
    (case d29 => refine' PD.defF_mk ?a ?l ?c ?k; (case a => k_is); (case l => k_is); (case c => k_is); (case k => k_is))
    (case d30 => refine' PD.defF_mk ?a ?l ?c ?k; (case a => k_is); (case l => k_is); (case c => k_is); (case k => k_is))
    (case d32 => refine' PD.defF_mk ?a ?l ?c ?k; (case a => k_is); (case l => k_is); (case c => k_is); (case k => k_is))
    (case d33 => refine' PD.defF_mk ?a ?l ?c ?k; (case a => k_is); (case l => k_is); (case c => k_is); (case k => k_is))
    (case d34 => refine' PD.defF_mk ?a ?l ?c ?k; (case a => k_is); (case l => k_is); (case c => k_is); (case k => k_is))
    (case d35 => refine' PD.defF_mk ?a ?l ?c ?k; (case a => k_is); (case l => k_is); (case c => k_is); (case k => k_is))
    (case d36 => refine' PD.defF_mk ?a ?l ?c ?k; (case a => k_is); (case l => k_is); (case c => k_is); (case k => k_is))
    (case e0 => refine' ⟨?h1, ?h2, ?h3, ?h4⟩; (case h1 => k_is); (case h2 => k_is); (case h3 => k_is); (case h4 => k_is))
    (case e1 => refine' PD.excF_mk ?h1 ?h2 ?hbm ?h3 ?h4 ?h5 ?h6 ?h7 ?h8 ?h9 ?ha ?hn ?ht ?hm ?no ?iC ?tI ?l ?c ?k ?isC; (case h1 => k_is); (case h2 => k_is); (case hbm => decide +kernel); (case h3 => k_is); (case h4 => k_is); (case h5 => k_is); (case h6 => k_is); (case h7 => k_is); (case h8 => k_is); (case h9 => k_is); (case ha => k_is); (case hn => k_is); (case ht => k_is); (case hm => k_is); (case no => intro f hf; simp only [List.mem_cons, List.not_mem_nil, or_false] at hf; subst hf; k_is); (case iC => k_is); (case tI => k_is); (case l => k_is); (case c => k_is); (case k => k_is); (case isC => k_is))
    (case e2 => refine' PD.excF_mk ?h1 ?h2 ?hbm ?h3 ?h4 ?h5 ?h6 ?h7 ?h8 ?h9 ?ha ?hn ?ht ?hm ?no ?iC ?tI ?l ?c ?k ?isC; (case h1 => k_is); (case h2 => k_is); (case hbm => decide +kernel); (case h3 => k_is); (case h4 => k_is); (case h5 => k_is); (case h6 => k_is); (case h7 => k_is); (case h8 => k_is); (case h9 => k_is); (case ha => k_is); (case hn => k_is); (case ht => k_is); (case hm => k_is); (case no => intro f hf; simp only [List.mem_cons, List.not_mem_nil, or_false] at hf; subst hf; k_is); (case iC => k_is); (case tI => k_is); (case l => k_is); (case c => k_is); (case k => k_is); (case isC => k_is))
    (case o3 => refine' ⟨?h1, ?h2, ?h3, ?h4, ?h5⟩; (case h1 => k_is); (case h2 => k_is); (case h3 => k_is); (case h4 => k_is); (case h5 => k_is))
    (case m3_9 => refine' ⟨?h1, ?h2, ?h3⟩; (case h1 => k_is); (case h2 => k_is); (case h3 => k_is))
    (case m3_10 => refine' ⟨?h1, ?h2, ?h3⟩; (case h1 => k_is); (case h2 => k_is); (case h3 => k_is))
    (case m3_11 => refine' ⟨?h1, ?h2, ?h3⟩; (case h1 => k_is); (case h2 => k_is); (case h3 => k_is))
    (case m3_12 => refine' ⟨?h1, ?h2, ?h3⟩; (case h1 => k_is); (case h2 => k_is); (case h3 => k_is))
    (case m3_14 => refine' ⟨?h1, ?h2, ?h3⟩; (case h1 => k_is); (case h2 => k_is); (case h3 => k_is))
    (case m3_31 => refine' ⟨?h1, ?h2, ?h3⟩; (case h1 => k_is); (case h2 => k_is); (case h3 => k_is))
    (case n28 => refine' ⟨?h1, ?h2, ?h3, ?h4⟩; (case h1 => k_is); (case h2 => k_is); (case h3 => k_is); (case h4 => k_is))
    (case d9 => refine' PD.mthF_mk ?l ?c ?k; (case l => k_is); (case c => k_is); (case k => k_is))
    (case d10 => refine' PD.mthF_mk ?l ?c ?k; (case l => k_is); (case c => k_is); (case k => k_is))
    (case d11 => refine' PD.mthF_mk ?l ?c ?k; (case l => k_is); (case c => k_is); (case k => k_is))
    (case d12 => refine' PD.mthF_mk ?l ?c ?k; (case l => k_is); (case c => k_is); (case k => k_is))
    (case d14 => refine' PD.mthF_mk ?l ?c ?k; (case l => k_is); (case c => k_is); (case k => k_is))
    (case d28 => refine' PD.mthF_mk ?l ?c ?k; (case l => k_is); (case c => k_is); (case k => k_is))
    (case d31 => refine' PD.mthF_mk ?l ?c ?k; (case l => k_is); (case c => k_is); (case k => k_is))
    (case a3_lives => unfold L2.NoAttr; k_is)
    (case a3_many => unfold L2.NoAttr; k_is)
    (case z_isinstance => k_is)
    (case z_int => k_is)
    (case z_bool => k_is)
    (case z_enumerate => k_is)
    (case z_len => k_is)
    (case z_tuple => k_is)
    (case z_list => k_is)
    (case z_max => k_is)
    (case z_min => k_is)
    (case z_range => k_is)
    (case z_abs => k_is)
    (case z_MOST_LIVES => k_is)
    (case z_sum => k_is)
    (case s_1_1 => k_is)
    (case s_1_2 => k_is)
    (case s_1_0 => k_is)
    (case s_2_1 => k_is)
    (case s_2_2 => k_is)
    (case s_2_0 => k_is)
    (case r_0 => first | rfl | k_is)
    (case r_1 => first | rfl | k_is)
    (case r_2 => first | rfl | k_is)

