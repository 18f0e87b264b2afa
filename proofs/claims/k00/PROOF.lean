import PyProof.Rows.All
import Wide.All
import OpenK.AllK
import Wide.FinOn
import PyProof.EqAt
import PyProof.EqKinds
import PyProof.TupleCall
import HandS.ForMost
import HandS.ForExc
import HandS.Star
import HandS.Defaults
import HandS.IsInst
import HandS.Wide
import HandS.TupMul
import HandS.TupAny
import HandS.Conv
import HandS.ExcInit
import HandS.ExcField
import HandS.TryOnly
import HandS.Flow
import HandS.Style
import HandS.Gcd
import HandS.Codes
import HandS.Zip
import HandS.Rev
import KE.DataEq
import KE.KExcIs
import KE.GoesEnum
import PySem.Challenge.RW_shapestold_k00_forms_go_along
set_option Elab.async false
set_option linter.all false
set_option maxRecDepth 100000
set_option maxHeartbeats 4000000
/-! PDa: a small syntax with its meaning over plain values: D (tuples inline, lists as places of a store). -/
namespace PD
open PySem

inductive D where
  | non | bl (b : Bool) | int (i : Int) | str (x : Str) | tup (xs : List D) | ref (n : Nat) | ty (n : String) | own (c : Nat)
  /-- a list that is only read (the script) -/
  | kl (xs : List D)
instance : Inhabited D := ⟨.non⟩
/-- what stands in the store: a list, an instance of the class c -/
inductive SO where
  | lst (xs : List D) | ins (c : Nat) (fs : List (Str × D))
abbrev Store := List SO
abbrev DEnv := List (Option D)
/-- an exception of the own class cls, its fields -/
structure Err where
  cls : Nat
  fs : List (Str × D)
abbrev DQ := D → Store → Prop
abbrev EQ := Err → Store → Prop
abbrev DSp := List D → Store → DQ → EQ → Prop

def onO {α : Type} (o : Option α) (k : α → Prop) : Prop := match o with
  | some a => k a
  | none => False
def seqOf (S : Store) : D → Option (List D)
  | .tup xs => some xs
  | .kl xs => some xs
  | .ref n => match S[n]? with
    | some (.lst xs) => some xs
    | _ => none
  | _ => none
def lstOf (S : Store) : D → Option (List D)
  | .ref n => seqOf S (.ref n)
  | _ => none
def truth (S : Store) : D → Option Bool
  | .non => some false
  | .bl b => some b
  | .int i => some (i != 0)
  | .str x => if x.length ≤ sizeLine then some ((x.length : Int) != 0) else none
  | .tup xs => some (!xs.isEmpty)
  | .kl xs => some (!xs.isEmpty)
  | .ref n => (seqOf S (.ref n)).map fun xs => !xs.isEmpty
  | _ => none
def mapO {α β : Type} (f : α → Option β) : List α → Option (List β)
  | [] => some []
  | x :: r => match f x, mapO f r with
    | some y, some ys => some (y :: ys)
    | _, _ => none
def toPy (S : Store) : Nat → D → Option PyData
  | 0, _ => none
  | k + 1, d => match d with
    | .non => some .none
    | .bl b => some (.bool b)
    | .int i => some (.int i)
    | .str x => some (.str x)
    | .tup xs => (mapO (toPy S k) xs).map .tuple
    | .kl xs => (mapO (toPy S k) xs).map .list
    | .ref n => match seqOf S (.ref n) with
      | some xs => (mapO (toPy S k) xs).map .list
      | none => none
    | _ => none
def pyF : Nat := 40
def eqD (S : Store) (a b : D) : Option Bool := match toPy S pyF a, toPy S pyF b with
  | some x, some y => some (PyData.eqv x y)
  | _, _ => none
def inD (S : Store) (x c : D) : Option Bool := match toPy S pyF x, seqOf S c with
  | some d, some xs => match mapO (toPy S pyF) xs with
    | some ds => some (ds.any fun y => PyData.eqv y d)
    | none => none
  | _, _ => none
def intL : List D → Option (List Int) := mapO fun d => match d with
  | .int i => some i
  | _ => none
def boolL : List D → Option (List Bool) := mapO fun d => match d with
  | .bl i => some i
  | _ => none
/-! ### operators -/
inductive BO where
  | add | sub | mul | fdiv | mod | pow
inductive CO where
  | eq | ne | lt | le | gt | ge | is | isn | inn | nin
def wpBin (S : Store) (o : BO) (x y : D) (Q : DQ) : Prop := match o, x, y with
  | .add, .int i, .int j => Q (.int (i + j)) S
  | .add, .str i, .str j => i.length + j.length ≤ sizeLine ∧ Q (.str (i ++ j)) S
  | .add, .tup xs, .tup ys => xs.length + ys.length ≤ sizeLine ∧ Q (.tup (xs ++ ys)) S
  | .add, .ref a, .ref b => match S[a]?, S[b]? with
    | some (.lst xs), some (.lst ys) => xs.length + ys.length ≤ sizeLine ∧ Q (.ref S.length) (S ++ [.lst (xs ++ ys)])
    | _, _ => False
  | .sub, .int i, .int j => Q (.int (i - j)) S
  | .mul, .int i, .int j => i.natAbs.log2 + j.natAbs.log2 < 1000000 ∧ Q (.int (i * j)) S
  | .mul, .tup xs, .int k => (-(2 ^ 63) ≤ k ∧ k ≤ 1000) ∧ xs.length ≤ 1000 ∧ Q (.tup (List.replicate k.toNat xs).flatten) S
  | .mul, .ref a, .int k => match S[a]? with
    | some (.lst xs) => -(2 ^ 63) ≤ k ∧ k < 2 ^ 63 ∧ xs.length * k.toNat ≤ sizeLine ∧ Q (.ref S.length) (S ++ [.lst (List.replicate k.toNat xs).flatten])
    | _ => False
  | .fdiv, .int i, .int j => 0 < j ∧ j.natAbs.log2 < 9000 ∧ Q (.int (i / j)) S
  | .mod, .int i, .int j => 0 < j ∧ Q (.int (i % j)) S
  | .pow, .int i, .int j => 0 ≤ j ∧ j ≤ 1000000 ∧ i.natAbs < 2 ^ 64 ∧ Q (.int (i ^ j.toNat)) S
  | _, _, _ => False
def isNon : D → Bool
  | .non => true
  | _ => false
def isD (x y : D) : Option Bool := match x, y with
  | x, .non => some (isNon x)
  | .bl a, .bl b => some (a == b)
  | _, _ => none
def cmpD (S : Store) (o : CO) (x y : D) : Option Bool := match o with
  | .eq => eqD S x y
  | .ne => (eqD S x y).map (!·)
  | .lt => match x, y with
    | .int i, .int j => some (decide (i < j))
    | _, _ => none
  | .le => match x, y with
    | .int i, .int j => some (decide (i ≤ j))
    | _, _ => none
  | .gt => match x, y with
    | .int i, .int j => some (decide (j < i))
    | _, _ => none
  | .ge => match x, y with
    | .int i, .int j => some (decide (j ≤ i))
    | _, _ => none
  | .is => isD x y
  | .isn => (isD x y).map (!·)
  | .inn => inD S x y
  | .nin => (inD S x y).map (!·)
/-! ### built-in functions and methods -/
inductive BI where
  | abs | len | int | bool | list | tuple | max | min | sum | any | all | isinstance | gcd | str
inductive BM where
  | append | extend | pop
def tyName (S : Store) : D → Option String
  | .non => some "NoneType"
  | .bl _ => some "bool"
  | .int _ => some "int"
  | .str _ => some "str"
  | .tup _ => some "tuple"
  | .kl _ => some "list"
  | .ref n => match seqOf S (.ref n) with
    | some _ => some "list"
    | none => none
  | _ => none
/-- the built-in types that isinstance is asked about -/
def tyOk : List String := ["int", "bool", "str", "tuple", "list"]
def isTy (a b : String) : Bool := a == b || (a == "bool" && b == "int")
def isi1 (a : String) : D → Option Bool
  | .ty b => if b ∈ tyOk then some (isTy a b) else none
  | _ => none
def isiD (S : Store) (x c : D) : Option Bool := match tyName S x with
  | none => none
  | some a => match c with
    | .tup cs => (mapO (isi1 a) cs).map fun bs => bs.any id
    | c => isi1 a c
def maxL : List Int → Option Int
  | [] => none
  | x :: r => some (r.foldl max x)
def minL : List Int → Option Int
  | [] => none
  | x :: r => some (r.foldl min x)
def wpBi (S : Store) (b : BI) (ds : List D) (Q : DQ) : Prop := match b, ds with
  | .abs, [.int i] => Q (.int (if i < 0 then -i else i)) S
  | .len, [.str x] => x.length ≤ sizeLine ∧ Q (.int x.length) S
  | .len, [d] => onO (seqOf S d) fun xs => Q (.int xs.length) S
  | .int, [.int i] => Q (.int i) S
  | .int, [.bl k] => Q (.int (if k then 1 else 0)) S
  | .bool, [.int i] => Q (.bl (i != 0)) S
  | .bool, [.bl k] => Q (.bl k) S
  | .list, [d] => onO (seqOf S d) fun xs => Q (.ref S.length) (S ++ [.lst xs])
  | .tuple, [d] => onO (seqOf S d) fun xs => Q (.tup xs) S
  | .max, [.int i, .int j] => Q (.int (if j > i then j else i)) S
  | .max, [.ref n] => onO (seqOf S (.ref n)) fun xs => onO (intL xs) fun is => onO (maxL is) fun m => Q (.int m) S
  | .min, [.int i, .int j] => Q (.int (if j < i then j else i)) S
  | .min, [.ref n] => onO (seqOf S (.ref n)) fun xs => onO (intL xs) fun is => onO (minL is) fun m => Q (.int m) S
  | .sum, [.ref n] => onO (seqOf S (.ref n)) fun xs => onO (intL xs) fun is => Q (.int is.sum) S
  | .any, [.ref n] => onO (seqOf S (.ref n)) fun xs => onO (boolL xs) fun is => Q (.bl (is.any id)) S
  | .all, [.ref n] => onO (seqOf S (.ref n)) fun xs => onO (boolL xs) fun is => Q (.bl (is.all id)) S
  | .isinstance, [x, c] => onO (isiD S x c) fun k => Q (.bl k) S
  | .gcd, [.int i, .int j] => Q (.int (Nat.gcd i.natAbs j.natAbs : Nat)) S
  | .str, [.int i] => i.natAbs.log2 < 1920 ∧ Q (.str (toString i)) S
  | _, _ => False
def wpBm (S : Store) (m : BM) (o : D) (ds : List D) (Q : DQ) : Prop := match o with
  | .ref n => match S[n]? with
    | some (.lst xs) => match m, ds with
      | .append, [d] => xs.length < sizeLine ∧ Q .non (S.set n (.lst (xs ++ [d])))
      | .extend, [.ref k] => match S[k]? with
        | some (.lst ys) => xs.length + ys.length ≤ sizeLine ∧ Q .non (S.set n (.lst (xs ++ ys)))
        | _ => False
      | .pop, [] => onO xs[xs.length - 1]? fun y => Q y (S.set n (.lst xs.dropLast))
      | _, _ => False
    | _ => False
  | _ => False
/-- the place that an index means -/
def ixD (S : Store) (x y : D) : Option D := match y with
  | .int i => match seqOf S x with
    | some xs => L2.atI xs i
    | none => match x with
      | .str z => if z.length ≤ sizeLine then (L2.atI z.cps.toList i).map fun c => D.str ⟨#[c]⟩ else none
      | _ => none
  | _ => none
def partD : Option D → Option (Option Int)
  | none => some none
  | some (.int i) => some (some i)
  | _ => none
def cutL {α : Type} (xs : List α) (lo hi : Option Int) : List α := (xs.drop (HT.sIx xs.length 0 lo)).take (HT.sIx xs.length xs.length hi - HT.sIx xs.length 0 lo)
def wpSl (S : Store) (x : D) (l h : Option Int) (Q : DQ) : Prop := match x with
  | .tup xs => Q (.tup (cutL xs l h)) S
  | .kl xs => Q (.ref S.length) (S ++ [.lst (cutL xs l h)])
  | .ref n => onO (seqOf S (.ref n)) fun xs => Q (.ref S.length) (S ++ [.lst (cutL xs l h)])
  | _ => False
def wpSet (S : Store) (o i d : D) (K : Store → Prop) : Prop := match o, i with
  | .ref n, .int k => match S[n]? with
    | some (.lst xs) => onO (L2.ixN xs.length k) fun j => K (S.set n (.lst (xs.set j d)))
    | _ => False
  | _, _ => False
/-! ### the syntax -/
mutual
inductive DE where
  | var (i : Nat)
  | cst (d : D)
  | bin (o : BO) (a b : DE)
  | neg (a : DE)
  | cmp (o : CO) (a b : DE)
  | chn (o p : CO) (a b c : DE)
  | and (a b : DE)
  | or (a b : DE)
  | not (a : DE)
  | ife (c a b : DE)
  | call (f : Nat) (es : DEs)
  | bi (b : BI) (es : DEs)
  | bm (m : BM) (o : DE) (es : DEs)
  | ix (a i : DE)
  | sl (a : DE) (lo hi : DO)
  | tup (es : DEs)
  | lst (es : DEs)
  | lc (own : List Nat) (t : DT) (it : DI) (c : DO) (e : DE)
  | efld (f : Str)
  | eisi (cs : List Nat)
inductive DO where
  | none
  | some (e : DE)
inductive DEs where
  | nil
  | cons (e : DE) (es : DEs)
  | star (e : DE) (es : DEs)
inductive DT where
  | nm (i : Nat)
  | sub (o i : DE)
  | tp (ts : DTs)
inductive DTs where
  | nil
  | cons (t : DT) (ts : DTs)
inductive DI where
  | seq (e : DE)
  | rng (es : DEs)
  | enum (e : DE)
end
def DTs.len : DTs → Nat
  | .nil => 0
  | .cons _ r => r.len + 1
inductive DS where
  | asg (t : DT) (e : DE)
  | aug (i : Nat) (o : BO) (e : DE)
  | ex (e : DE)
  | ret (e : DO)
  | ifs (c : DE) (a b : List DS)
  | fr (t : DT) (it : DI) (b : List DS)
  | wh (c : DE) (b : List DS)
  | pas
  | brk
  | cnt
  | rse (c : Nat) (fs : List Str) (es : DEs)
  | tr (b : List DS) (c : Nat) (n : Option Nat) (s : List DS)
/-! ### the meaning -/
/-- what the meaning leans on: the promises of the defs, what is wanted of an exception, the exception that a suite holds, the classes' order -/
structure SC where
  sp : Nat → DSp
  xq : Err → DEnv → Store → Prop
  exn : Option Err
  sub : Nat → Nat → Bool
  /-- the classes that are raised, their fields -/
  kn : Nat → List Str → Bool
/-- a call by a promise, whatever it wants -/
def callC (sp : DSp) (ds : List D) (S : Store) (Q : DQ) (E : EQ) : Prop := ∃ (Q0 : DQ) (E0 : EQ), sp ds S Q0 E0 ∧ (∀ d S', Q0 d S' → Q d S') ∧ ∀ e S', E0 e S' → E e S'
/-- where the items come from: a thing that must stay as it is -/
abbrev Src := Option (D × List D)
def still (s : Src) (S : Store) : Prop := ∀ p, s = some p → seqOf S p.1 = some p.2
def enumL : Nat → List D → List D
  | _, [] => []
  | i, d :: r => .tup [.int i, d] :: enumL (i + 1) r
def rngL (lo : Int) (n : Nat) : List D := (List.range n).map fun i => .int (lo + (i : Nat))
/-- range's items: ends within 2^62 -/
def rngD : List D → Option (List D)
  | [.int j] => if -(2 ^ 62) ≤ j ∧ j < 2 ^ 62 then some (rngL 0 j.toNat) else none
  | [.int i, .int j] => if -(2 ^ 62) ≤ i ∧ i < 2 ^ 62 ∧ -(2 ^ 62) ≤ j ∧ j < 2 ^ 62 then some (rngL i (j - i).toNat) else none
  | _ => none
def wipeD (env : DEnv) : List Nat → DEnv
  | [] => env
  | v :: vs => (wipeD env vs).set v none
/-- a comprehension's turns: step gives the item (or none) -/
def lcGo (src : Src) (n : Nat) (step : D → Store → (Option D → Store → Prop) → Prop) : List D → Store → (Store → Prop) → Prop
  | [], S, K => K S
  | d :: r, S, K => step d S fun o S' => still src S' ∧ match o with
    | some y => match S'[n]? with
      | some (.lst acc) => acc.length < sizeLine ∧ lcGo src n step r (S'.set n (.lst (acc ++ [y]))) K
      | _ => False
    | none => lcGo src n step r S' K
mutual
def wpE (C : SC) : DE → DEnv → Store → DQ → Prop
  | .var i, env, S, Q => match env[i]? with
    | some (some d) => Q d S
    | _ => False
  | .cst d, _, S, Q => Q d S
  | .bin o a b, env, S, Q => wpE C a env S fun x S1 => wpE C b env S1 fun y S2 => wpBin S2 o x y Q
  | .neg a, env, S, Q => wpE C a env S fun x S1 => match x with
    | .int i => Q (.int (-i)) S1
    | _ => False
  | .cmp o a b, env, S, Q => wpE C a env S fun x S1 => wpE C b env S1 fun y S2 => onO (cmpD S2 o x y) fun k => Q (.bl k) S2
  | .chn o p a b c, env, S, Q => wpE C a env S fun x S1 => wpE C b env S1 fun y S2 => onO (cmpD S2 o x y) fun k =>
      if k = true then wpE C c env S2 fun z S3 => onO (cmpD S3 p y z) fun l => Q (.bl l) S3 else Q (.bl false) S2
  | .and a b, env, S, Q => wpE C a env S fun x S1 => onO (truth S1 x) fun k => if k = true then wpE C b env S1 Q else Q x S1
  | .or a b, env, S, Q => wpE C a env S fun x S1 => onO (truth S1 x) fun k => if k = true then Q x S1 else wpE C b env S1 Q
  | .not a, env, S, Q => wpE C a env S fun x S1 => onO (truth S1 x) fun k => Q (.bl (!k)) S1
  | .ife c a b, env, S, Q => wpE C c env S fun x S1 => onO (truth S1 x) fun k => if k = true then wpE C a env S1 Q else wpE C b env S1 Q
  | .call f es, env, S, Q => wpEs C es env S fun ds S1 => callC (C.sp f) ds S1 Q fun er S' => C.xq er env S'
  | .bi b es, env, S, Q => wpEs C es env S fun ds S1 => wpBi S1 b ds Q
  | .bm m o es, env, S, Q => wpE C o env S fun x S1 => onO (lstOf S1 x) fun _ => wpEs C es env S1 fun ds S2 => wpBm S2 m x ds Q
  | .ix a i, env, S, Q => wpE C a env S fun x S1 => wpE C i env S1 fun y S2 => onO (ixD S2 x y) fun d => Q d S2
  | .sl a lo hi, env, S, Q => wpE C a env S fun x S1 => wpO C lo env S1 fun l S2 => onO (partD l) fun l => wpO C hi env S2 fun h S3 => onO (partD h) fun h => wpSl S3 x l h Q
  | .tup es, env, S, Q => wpEs C es env S fun ds S1 => ds.length ≤ sizeLine ∧ Q (.tup ds) S1
  | .lst es, env, S, Q => wpEs C es env S fun ds S1 => ds.length ≤ sizeLine ∧ Q (.ref S1.length) (S1 ++ [.lst ds])
  | .lc own t it c e, env, S, Q => wpI C it env S fun src items S1 => still src S1 ∧
      lcGo src S1.length (fun d S2 K => wpT { C with xq := fun _ _ _ => False } t d (wipeD env own) S2 fun env1 S3 =>
        wpO { C with xq := fun _ _ _ => False } c env1 S3 fun o S4 => match o with
          | none => wpE { C with xq := fun _ _ _ => False } e env1 S4 fun y S5 => K (some y) S5
          | some x => onO (truth S4 x) fun k => if k = true then wpE { C with xq := fun _ _ _ => False } e env1 S4 fun y S5 => K (some y) S5 else K none S4)
        items (S1 ++ [.lst []]) fun S2 => Q (.ref S1.length) S2
  | .efld f, _, S, Q => match C.exn with
    | some er => onO (er.fs.lookup f) fun d => Q d S
    | none => False
  | .eisi cs, _, S, Q => match C.exn with
    | some er => Q (.bl (cs.any fun c => C.sub er.cls c)) S
    | none => False
def wpO (C : SC) : DO → DEnv → Store → (Option D → Store → Prop) → Prop
  | .none, _, S, Q => Q none S
  | .some e, env, S, Q => wpE C e env S fun d S1 => Q (some d) S1
def wpEs (C : SC) : DEs → DEnv → Store → (List D → Store → Prop) → Prop
  | .nil, _, S, Q => Q [] S
  | .cons e es, env, S, Q => wpE C e env S fun d S1 => wpEs C es env S1 fun ds S2 => Q (d :: ds) S2
  | .star e es, env, S, Q => wpE C e env S fun d S1 => onO (seqOf S1 d) fun xs => wpEs C es env S1 fun ds S2 => Q (xs ++ ds) S2
def wpT (C : SC) : DT → D → DEnv → Store → (DEnv → Store → Prop) → Prop
  | .nm i, d, env, S, K => K (env.set i (some d)) S
  | .sub o i, d, env, S, K => wpE C o env S fun x S1 => wpE C i env S1 fun y S2 => wpSet S2 x y d fun S3 => K env S3
  | .tp ts, d, env, S, K => onO (seqOf S d) fun xs => xs.length = ts.len ∧ wpTs C ts xs env S K
def wpTs (C : SC) : DTs → List D → DEnv → Store → (DEnv → Store → Prop) → Prop
  | .nil, [], env, S, K => K env S
  | .cons t ts, d :: ds, env, S, K => wpT C t d env S fun env1 S1 => wpTs C ts ds env1 S1 K
  | _, _, _, _, _ => False
def wpI (C : SC) : DI → DEnv → Store → (Src → List D → Store → Prop) → Prop
  | .seq e, env, S, Q => wpE C e env S fun d S1 => onO (seqOf S1 d) fun xs => Q (some (d, xs)) xs S1
  | .rng es, env, S, Q => wpEs C es env S fun ds S1 => onO (rngD ds) fun xs => Q none xs S1
  | .enum e, env, S, Q => wpE C e env S fun d S1 => onO (seqOf S1 d) fun xs => Q (some (d, xs)) (enumL 0 xs) S1
end
/-- what is wanted behind a statement -/
structure DEnds where
  nx : DEnv → Store → Prop
  rt : DQ
  bk : DEnv → Store → Prop
  ct : DEnv → Store → Prop
/-- a for's turns: step is the target's store and the body -/
def frGo (src : Src) (step : D → DEnds → DEnv → Store → Prop) (B : DEnds) : List D → DEnv → Store → Prop
  | [], env, S => B.nx env S
  | d :: r, env, S => step d { nx := fun e' S' => still src S' ∧ frGo src step B r e' S', ct := fun e' S' => still src S' ∧ frGo src step B r e' S', bk := B.nx, rt := B.rt } env S
/-- behind an except clause its name is gone -/
def setN (n : Option Nat) (env : DEnv) : DEnv := match n with
  | none => env
  | some i => env.set i none
def inN (n : Option Nat) (env : DEnv) : Prop := match n with
  | none => True
  | some i => i < env.length
def endsN (n : Option Nat) (B : DEnds) : DEnds :=
  { nx := fun e S => B.nx (setN n e) S, rt := B.rt, bk := fun e S => B.bk (setN n e) S, ct := fun e S => B.ct (setN n e) S }
mutual
def wpS (C : SC) : DS → DEnds → DEnv → Store → Prop
  | .asg t e, B, env, S => wpE C e env S fun d S1 => wpT C t d env S1 B.nx
  | .aug i o e, B, env, S => match env[i]? with
    | some (some x) => wpE C e env S fun y S1 => match x with
      | .int _ => wpBin S1 o x y fun d S2 => B.nx (env.set i (some d)) S2
      | _ => False
    | _ => False
  | .ex e, B, env, S => wpE C e env S fun _ S1 => B.nx env S1
  | .ret e, B, env, S => wpO C e env S fun o S1 => B.rt (o.getD .non) S1
  | .ifs c a b, B, env, S => wpE C c env S fun x S1 => onO (truth S1 x) fun k => if k = true then wpSs C a B env S1 else wpSs C b B env S1
  | .fr t it b, B, env, S => wpI C it env S fun src items S1 => still src S1 ∧ frGo src (fun d B' env' S' => wpT C t d env' S' fun e2 S2 => wpSs C b B' e2 S2) B items env S1
  | .wh c b, B, env, S => ∃ W : Nat → DEnv → Store → Prop, (∃ m, W m env S) ∧ ∀ m env S, W m env S → wpE C c env S fun x S1 => onO (truth S1 x) fun k =>
      if k = true then wpSs C b { nx := fun e' S' => ∃ m', m' < m ∧ W m' e' S', ct := fun e' S' => ∃ m', m' < m ∧ W m' e' S', bk := B.nx, rt := B.rt } env S1 else B.nx env S1
  | .pas, B, env, S => B.nx env S
  | .brk, B, env, S => B.bk env S
  | .cnt, B, env, S => B.ct env S
  | .rse c fs es, B, env, S => wpEs C es env S fun ds S1 => ds.length = fs.length ∧ C.xq ⟨c, fs.zip ds⟩ env S1
  | .tr b c n s, B, env, S => wpSs { C with xq := fun er env' S' => C.kn er.cls (er.fs.map (·.1)) = true ∧ inN n env' ∧ (C.sub er.cls c = true → wpSs { C with exn := some er, xq := fun _ _ _ => False } s (endsN n B) (setN n env') S') ∧
      (C.sub er.cls c = false → C.xq er env' S') } b B env S
def wpSs (C : SC) : List DS → DEnds → DEnv → Store → Prop
  | [], B, env, S => B.nx env S
  | s :: r, B, env, S => wpS C s { B with nx := fun e' S' => wpSs C r B e' S' } env S
end
end PD

set_option Elab.async false
set_option linter.all false
set_option maxRecDepth 100000
set_option maxHeartbeats 4000000
namespace PD
open PySem PySem.Spec PyProof.Rows L2
/-! ### consequence -/
theorem onO_mono {α : Type} {o : Option α} {k k' : α → Prop} (h : ∀ a, k a → k' a) (q : onO o k) : onO o k' := by
  cases o with
  | none => exact q
  | some a => exact h a q
theorem wpBin_mono {S : Store} {o : BO} {x y : D} {Q Q' : DQ} (h : ∀ d S, Q d S → Q' d S) (q : wpBin S o x y Q) : wpBin S o x y Q' := by
  unfold wpBin at q ⊢
  split at q <;> first
    | exact h _ _ q
    | exact ⟨q.1, h _ _ q.2⟩
    | exact ⟨q.1, q.2.1, h _ _ q.2.2⟩
    | exact ⟨q.1, q.2.1, q.2.2.1, h _ _ q.2.2.2⟩
    | exact q.elim
    | (split at q <;> first | exact ⟨q.1, h _ _ q.2⟩ | exact ⟨q.1, q.2.1, q.2.2.1, h _ _ q.2.2.2⟩ | exact q.elim)
theorem wpBi_mono {S : Store} {b : BI} {ds : List D} {Q Q' : DQ} (h : ∀ d S, Q d S → Q' d S) (q : wpBi S b ds Q) : wpBi S b ds Q' := by
  unfold wpBi at q ⊢
  split at q <;> first
    | exact h _ _ q
    | exact ⟨q.1, h _ _ q.2⟩
    | exact onO_mono (fun _ z => h _ _ z) q
    | exact onO_mono (fun _ z => onO_mono (fun _ z => h _ _ z) z) q
    | exact onO_mono (fun _ z => onO_mono (fun _ z => onO_mono (fun _ z => h _ _ z) z) z) q
    | exact q.elim
theorem wpBm_mono {S : Store} {m : BM} {o : D} {ds : List D} {Q Q' : DQ} (h : ∀ d S, Q d S → Q' d S) (q : wpBm S m o ds Q) : wpBm S m o ds Q' := by
  unfold wpBm at q ⊢
  split at q
  · split at q
    · split at q
      · exact ⟨q.1, h _ _ q.2⟩
      · split at q
        · exact ⟨q.1, h _ _ q.2⟩
        · exact q.elim
      · exact onO_mono (fun _ z => h _ _ z) q
      · exact q.elim
    · exact q.elim
  · exact q.elim
theorem wpSl_mono {S : Store} {x : D} {lo hi : Option Int} {Q Q' : DQ} (h : ∀ d S, Q d S → Q' d S) (q : wpSl S x lo hi Q) : wpSl S x lo hi Q' := by
  unfold wpSl at q ⊢
  split at q
  · exact h _ _ q
  · exact h _ _ q
  · exact onO_mono (fun _ z => h _ _ z) q
  · exact q.elim
theorem wpSet_mono {S : Store} {o i d : D} {K K' : Store → Prop} (h : ∀ S, K S → K' S) (q : wpSet S o i d K) : wpSet S o i d K' := by
  unfold wpSet at q ⊢
  split at q
  · split at q
    · exact onO_mono (fun _ z => h _ z) q
    · exact q.elim
  · exact q.elim
theorem callC_mono {sp : DSp} {ds : List D} {S : Store} {Q Q' : DQ} {E E' : EQ} (h : ∀ d S, Q d S → Q' d S) (hE : ∀ e S, E e S → E' e S) (q : callC sp ds S Q E) : callC sp ds S Q' E' := by
  obtain ⟨Q0, E0, q0, h1, h2⟩ := q
  exact ⟨Q0, E0, q0, fun d S' z => h _ _ (h1 _ _ z), fun e S' z => hE _ _ (h2 _ _ z)⟩
theorem lcGo_mono {src : Src} {n : Nat} {step : D → Store → (Option D → Store → Prop) → Prop} (hs : ∀ d S K K', (∀ o S, K o S → K' o S) → step d S K → step d S K') {K K' : Store → Prop} (h : ∀ S, K S → K' S) :
    ∀ (l : List D) (S : Store), lcGo src n step l S K → lcGo src n step l S K'
  | [], S, q => h _ q
  | d :: r, S, q => by
    unfold lcGo at q ⊢
    refine hs _ _ _ _ (fun o S' z => ⟨z.1, ?_⟩) q
    have z2 := z.2
    cases o with
    | none => exact lcGo_mono hs h r S' z2
    | some y =>
      dsimp only at z2 ⊢
      split at z2
      · exact ⟨z2.1, lcGo_mono hs h r _ z2.2⟩
      · exact z2.elim
mutual
theorem wpE_mono (C : SC) (X : Err → DEnv → Store → Prop) (hX : ∀ er e S, C.xq er e S → X er e S) : ∀ (e : DE) (env : DEnv) (S : Store) (Q Q' : DQ), (∀ d S, Q d S → Q' d S) → wpE C e env S Q → wpE { C with xq := X } e env S Q'
  | .var i, env, S, Q, Q', h, q => by
    unfold wpE at q ⊢
    split at q
    · exact h _ _ q
    · exact q.elim
  | .cst d, env, S, Q, Q', h, q => by unfold wpE at q ⊢; exact h _ _ q
  | .bin o a b, env, S, Q, Q', h, q => by
    unfold wpE at q ⊢
    exact wpE_mono C X hX a _ _ _ _ (fun x S1 q => wpE_mono C X hX b _ _ _ _ (fun y S2 q => wpBin_mono h q) q) q
  | .neg a, env, S, Q, Q', h, q => by
    unfold wpE at q ⊢
    refine wpE_mono C X hX a _ _ _ _ (fun x S1 q => ?_) q
    split at q
    · exact h _ _ q
    · exact q.elim
  | .cmp o a b, env, S, Q, Q', h, q => by
    unfold wpE at q ⊢
    exact wpE_mono C X hX a _ _ _ _ (fun x S1 q => wpE_mono C X hX b _ _ _ _ (fun y S2 q => onO_mono (fun _ z => h _ _ z) q) q) q
  | .chn o p a b c, env, S, Q, Q', h, q => by
    unfold wpE at q ⊢
    refine wpE_mono C X hX a _ _ _ _ (fun x S1 q => wpE_mono C X hX b _ _ _ _ (fun y S2 q => onO_mono (fun k z => ?_) q) q) q
    by_cases hk : k = true
    · rw [if_pos hk] at z ⊢
      exact wpE_mono C X hX c _ _ _ _ (fun w S3 q => onO_mono (fun _ z => h _ _ z) q) z
    · rw [if_neg hk] at z ⊢
      exact h _ _ z
  | .and a b, env, S, Q, Q', h, q => by
    unfold wpE at q ⊢
    refine wpE_mono C X hX a _ _ _ _ (fun x S1 q => onO_mono (fun k z => ?_) q) q
    by_cases hk : k = true
    · rw [if_pos hk] at z ⊢
      exact wpE_mono C X hX b _ _ _ _ h z
    · rw [if_neg hk] at z ⊢
      exact h _ _ z
  | .or a b, env, S, Q, Q', h, q => by
    unfold wpE at q ⊢
    refine wpE_mono C X hX a _ _ _ _ (fun x S1 q => onO_mono (fun k z => ?_) q) q
    by_cases hk : k = true
    · rw [if_pos hk] at z ⊢
      exact h _ _ z
    · rw [if_neg hk] at z ⊢
      exact wpE_mono C X hX b _ _ _ _ h z
  | .not a, env, S, Q, Q', h, q => by
    unfold wpE at q ⊢
    exact wpE_mono C X hX a _ _ _ _ (fun x S1 q => onO_mono (fun k z => h _ _ z) q) q
  | .ife c a b, env, S, Q, Q', h, q => by
    unfold wpE at q ⊢
    refine wpE_mono C X hX c _ _ _ _ (fun x S1 q => onO_mono (fun k z => ?_) q) q
    by_cases hk : k = true
    · rw [if_pos hk] at z ⊢
      exact wpE_mono C X hX a _ _ _ _ h z
    · rw [if_neg hk] at z ⊢
      exact wpE_mono C X hX b _ _ _ _ h z
  | .call f es, env, S, Q, Q', h, q => by
    unfold wpE at q ⊢
    exact wpEs_mono C X hX es _ _ _ _ (fun ds S1 q => callC_mono h (fun _ _ z => hX _ _ _ z) q) q
  | .bi b es, env, S, Q, Q', h, q => by
    unfold wpE at q ⊢
    exact wpEs_mono C X hX es _ _ _ _ (fun ds S1 q => wpBi_mono h q) q
  | .bm m o es, env, S, Q, Q', h, q => by
    unfold wpE at q ⊢
    exact wpE_mono C X hX o _ _ _ _ (fun x S1 q => onO_mono (fun _ q => wpEs_mono C X hX es _ _ _ _ (fun ds S1 q => wpBm_mono h q) q) q) q
  | .ix a i, env, S, Q, Q', h, q => by
    unfold wpE at q ⊢
    exact wpE_mono C X hX a _ _ _ _ (fun x S1 q => wpE_mono C X hX i _ _ _ _ (fun y S2 q => onO_mono (fun _ z => h _ _ z) q) q) q
  | .sl a lo hi, env, S, Q, Q', h, q => by
    unfold wpE at q ⊢
    exact wpE_mono C X hX a _ _ _ _ (fun x S1 q => wpO_mono C X hX lo _ _ _ _ (fun l S2 q => onO_mono (fun l q => wpO_mono C X hX hi _ _ _ _ (fun u S3 q => onO_mono (fun u q => wpSl_mono h q) q) q) q) q) q
  | .tup es, env, S, Q, Q', h, q => by
    unfold wpE at q ⊢
    exact wpEs_mono C X hX es _ _ _ _ (fun ds S1 q => ⟨q.1, h _ _ q.2⟩) q
  | .lst es, env, S, Q, Q', h, q => by
    unfold wpE at q ⊢
    exact wpEs_mono C X hX es _ _ _ _ (fun ds S1 q => ⟨q.1, h _ _ q.2⟩) q
  | .lc own t it c e, env, S, Q, Q', h, q => by
    unfold wpE at q ⊢
    refine wpI_mono C X hX it _ _ _ _ (fun src items S1 q => ⟨q.1, lcGo_mono (fun d S K K' hK q => ?_) (fun S z => h _ _ z) _ _ q.2⟩) q
    refine wpT_mono { C with xq := fun _ _ _ => False } (fun _ _ _ => False) (fun _ _ _ z => z) t _ _ _ _ _ (fun env1 S3 q => wpO_mono { C with xq := fun _ _ _ => False } (fun _ _ _ => False) (fun _ _ _ z => z) c _ _ _ _ (fun o S4 q => ?_) q) q
    cases o with
    | none => exact wpE_mono { C with xq := fun _ _ _ => False } (fun _ _ _ => False) (fun _ _ _ z => z) e _ _ _ _ (fun y S5 z => hK _ _ z) q
    | some x =>
      refine onO_mono (fun k z => ?_) q
      by_cases hk : k = true
      · rw [if_pos hk] at z ⊢
        exact wpE_mono { C with xq := fun _ _ _ => False } (fun _ _ _ => False) (fun _ _ _ z => z) e _ _ _ _ (fun y S5 z => hK _ _ z) z
      · rw [if_neg hk] at z ⊢
        exact hK _ _ z
  | .efld f, env, S, Q, Q', h, q => by
    unfold wpE at q ⊢
    dsimp only at q ⊢
    revert q
    cases C.exn with
    | none => exact fun q => q
    | some er => exact fun q => onO_mono (fun _ z => h _ _ z) q
  | .eisi cs, env, S, Q, Q', h, q => by
    unfold wpE at q ⊢
    dsimp only at q ⊢
    revert q
    cases C.exn with
    | none => exact fun q => q
    | some er => exact fun q => h _ _ q
theorem wpO_mono (C : SC) (X : Err → DEnv → Store → Prop) (hX : ∀ er e S, C.xq er e S → X er e S) : ∀ (e : DO) (env : DEnv) (S : Store) (Q Q' : Option D → Store → Prop), (∀ d S, Q d S → Q' d S) → wpO C e env S Q → wpO { C with xq := X } e env S Q'
  | .none, env, S, Q, Q', h, q => by unfold wpO at q ⊢; exact h _ _ q
  | .some e, env, S, Q, Q', h, q => by unfold wpO at q ⊢; exact wpE_mono C X hX e _ _ _ _ (fun d S1 z => h _ _ z) q
theorem wpEs_mono (C : SC) (X : Err → DEnv → Store → Prop) (hX : ∀ er e S, C.xq er e S → X er e S) : ∀ (es : DEs) (env : DEnv) (S : Store) (Q Q' : List D → Store → Prop), (∀ d S, Q d S → Q' d S) → wpEs C es env S Q → wpEs { C with xq := X } es env S Q'
  | .nil, env, S, Q, Q', h, q => by unfold wpEs at q ⊢; exact h _ _ q
  | .cons e es, env, S, Q, Q', h, q => by
    unfold wpEs at q ⊢
    exact wpE_mono C X hX e _ _ _ _ (fun d S1 q => wpEs_mono C X hX es _ _ _ _ (fun ds S2 z => h _ _ z) q) q
  | .star e es, env, S, Q, Q', h, q => by
    unfold wpEs at q ⊢
    exact wpE_mono C X hX e _ _ _ _ (fun d S1 q => onO_mono (fun xs q => wpEs_mono C X hX es _ _ _ _ (fun ds S2 z => h _ _ z) q) q) q
theorem wpT_mono (C : SC) (X : Err → DEnv → Store → Prop) (hX : ∀ er e S, C.xq er e S → X er e S) : ∀ (t : DT) (d : D) (env : DEnv) (S : Store) (K K' : DEnv → Store → Prop), (∀ e S, K e S → K' e S) → wpT C t d env S K → wpT { C with xq := X } t d env S K'
  | .nm i, d, env, S, K, K', h, q => by unfold wpT at q ⊢; exact h _ _ q
  | .sub o i, d, env, S, K, K', h, q => by
    unfold wpT at q ⊢
    exact wpE_mono C X hX o _ _ _ _ (fun x S1 q => wpE_mono C X hX i _ _ _ _ (fun y S2 q => wpSet_mono (fun _ z => h _ _ z) q) q) q
  | .tp ts, d, env, S, K, K', h, q => by
    unfold wpT at q ⊢
    exact onO_mono (fun xs q => ⟨q.1, wpTs_mono C X hX ts _ _ _ _ _ h q.2⟩) q
theorem wpTs_mono (C : SC) (X : Err → DEnv → Store → Prop) (hX : ∀ er e S, C.xq er e S → X er e S) : ∀ (ts : DTs) (ds : List D) (env : DEnv) (S : Store) (K K' : DEnv → Store → Prop), (∀ e S, K e S → K' e S) → wpTs C ts ds env S K → wpTs { C with xq := X } ts ds env S K'
  | .nil, [], env, S, K, K', h, q => by unfold wpTs at q ⊢; exact h _ _ q
  | .cons t ts, d :: ds, env, S, K, K', h, q => by
    unfold wpTs at q ⊢
    exact wpT_mono C X hX t _ _ _ _ _ (fun e1 S1 q => wpTs_mono C X hX ts _ _ _ _ _ h q) q
  | .nil, d :: ds, env, S, K, K', h, q => by unfold wpTs at q; exact q.elim
  | .cons t ts, [], env, S, K, K', h, q => by unfold wpTs at q; exact q.elim
theorem wpI_mono (C : SC) (X : Err → DEnv → Store → Prop) (hX : ∀ er e S, C.xq er e S → X er e S) : ∀ (it : DI) (env : DEnv) (S : Store) (Q Q' : Src → List D → Store → Prop), (∀ s l S, Q s l S → Q' s l S) → wpI C it env S Q → wpI { C with xq := X } it env S Q'
  | .seq e, env, S, Q, Q', h, q => by unfold wpI at q ⊢; exact wpE_mono C X hX e _ _ _ _ (fun d S1 q => onO_mono (fun _ z => h _ _ _ z) q) q
  | .rng es, env, S, Q, Q', h, q => by unfold wpI at q ⊢; exact wpEs_mono C X hX es _ _ _ _ (fun d S1 q => onO_mono (fun _ z => h _ _ _ z) q) q
  | .enum e, env, S, Q, Q', h, q => by unfold wpI at q ⊢; exact wpE_mono C X hX e _ _ _ _ (fun d S1 q => onO_mono (fun _ z => h _ _ _ z) q) q
end
structure DEnds.Le (B B' : DEnds) : Prop where
  nx : ∀ e S, B.nx e S → B'.nx e S
  rt : ∀ d S, B.rt d S → B'.rt d S
  bk : ∀ e S, B.bk e S → B'.bk e S
  ct : ∀ e S, B.ct e S → B'.ct e S
theorem DEnds.Le.refl (B : DEnds) : B.Le B := ⟨fun _ _ z => z, fun _ _ z => z, fun _ _ z => z, fun _ _ z => z⟩
theorem frGo_mono {src : Src} {step step' : D → DEnds → DEnv → Store → Prop} (hs : ∀ d B B' e S, B.Le B' → step d B e S → step' d B' e S) {B B' : DEnds} (h : B.Le B') :
    ∀ (l : List D) (e : DEnv) (S : Store), frGo src step B l e S → frGo src step' B' l e S
  | [], e, S, q => h.nx _ _ q
  | d :: r, e, S, q => by
    have ih := frGo_mono (src := src) hs h r
    unfold frGo at q ⊢
    refine hs d _ _ e S (DEnds.Le.mk ?_ ?_ ?_ ?_) q
    · intro e S z
      exact ⟨z.1, ih _ _ z.2⟩
    · exact h.rt
    · exact h.nx
    · intro e S z
      exact ⟨z.1, ih _ _ z.2⟩
theorem endsN_mono {n : Option Nat} {B B' : DEnds} (h : B.Le B') : (endsN n B).Le (endsN n B') := DEnds.Le.mk (fun _ _ z => h.nx _ _ z) h.rt (fun _ _ z => h.bk _ _ z) (fun _ _ z => h.ct _ _ z)
mutual
theorem wpS_mono (C : SC) (X : Err → DEnv → Store → Prop) (hX : ∀ er e S, C.xq er e S → X er e S) : ∀ (s : DS) (B B' : DEnds) (env : DEnv) (S : Store), B.Le B' → wpS C s B env S → wpS { C with xq := X } s B' env S
  | .asg t e, B, B', env, S, h, q => by
    unfold wpS at q ⊢
    exact wpE_mono C X hX e _ _ _ _ (fun d S1 q => wpT_mono C X hX t _ _ _ _ _ h.nx q) q
  | .aug i o e, B, B', env, S, h, q => by
    unfold wpS at q ⊢
    split at q
    · refine wpE_mono C X hX e _ _ _ _ (fun y S1 q => ?_) q
      split at q
      · exact wpBin_mono (fun _ _ z => h.nx _ _ z) q
      · exact q.elim
    · exact q.elim
  | .ex e, B, B', env, S, h, q => by
    unfold wpS at q ⊢
    exact wpE_mono C X hX e _ _ _ _ (fun d S1 q => h.nx _ _ q) q
  | .ret e, B, B', env, S, h, q => by
    unfold wpS at q ⊢
    exact wpO_mono C X hX e _ _ _ _ (fun d S1 q => h.rt _ _ q) q
  | .ifs c a b, B, B', env, S, h, q => by
    unfold wpS at q ⊢
    refine wpE_mono C X hX c _ _ _ _ (fun d S1 q => onO_mono (fun k z => ?_) q) q
    by_cases hk : k = true
    · rw [if_pos hk] at z ⊢
      exact wpSs_mono C X hX a _ _ _ _ h z
    · rw [if_neg hk] at z ⊢
      exact wpSs_mono C X hX b _ _ _ _ h z
  | .fr t it b, B, B', env, S, h, q => by
    unfold wpS at q ⊢
    exact wpI_mono C X hX it _ _ _ _ (fun src items S1 q => ⟨q.1, frGo_mono (fun d B B' e S hB q => wpT_mono C X hX t _ _ _ _ _ (fun e2 S2 q => wpSs_mono C X hX b _ _ _ _ hB q) q) h _ _ _ q.2⟩) q
  | .wh c b, B, B', env, S, h, q => by
    unfold wpS at q ⊢
    obtain ⟨W, h0, q⟩ := q
    refine ⟨W, h0, fun m env S hW => wpE_mono C X hX c _ _ _ _ (fun x S1 q => onO_mono (fun k z => ?_) q) (q m env S hW)⟩
    by_cases hk : k = true
    · rw [if_pos hk] at z ⊢
      refine wpSs_mono C X hX b _ _ _ _ ?_ z
      exact DEnds.Le.mk (fun _ _ z => z) h.rt h.nx (fun _ _ z => z)
    · rw [if_neg hk] at z ⊢
      exact h.nx _ _ z
  | .pas, B, B', env, S, h, q => by unfold wpS at q ⊢; exact h.nx _ _ q
  | .brk, B, B', env, S, h, q => by unfold wpS at q ⊢; exact h.bk _ _ q
  | .cnt, B, B', env, S, h, q => by unfold wpS at q ⊢; exact h.ct _ _ q
  | .rse c fs es, B, B', env, S, h, q => by
    unfold wpS at q ⊢
    exact wpEs_mono C X hX es _ _ _ _ (fun ds S1 z => ⟨z.1, hX _ _ _ z.2⟩) q
  | .tr b c n s, B, B', env, S, h, q => by
    unfold wpS at q ⊢
    have w := fun X' hX' => wpSs_mono _ X' hX' b _ _ _ _ h q
    refine w _ ?_
    intro er e S z
    exact ⟨z.1, z.2.1, fun hc => wpSs_mono _ (fun _ _ _ => False) (fun _ _ _ z => z) s _ _ _ _ (endsN_mono h) (z.2.2.1 hc), fun hc => hX _ _ _ (z.2.2.2 hc)⟩
theorem wpSs_mono (C : SC) (X : Err → DEnv → Store → Prop) (hX : ∀ er e S, C.xq er e S → X er e S) : ∀ (s : List DS) (B B' : DEnds) (env : DEnv) (S : Store), B.Le B' → wpSs C s B env S → wpSs { C with xq := X } s B' env S
  | [], B, B', env, S, h, q => by unfold wpSs at q ⊢; exact h.nx _ _ q
  | s :: r, B, B', env, S, h, q => by
    unfold wpSs at q ⊢
    refine wpS_mono C X hX s _ _ _ _ ?_ q
    exact DEnds.Le.mk (fun e S z => wpSs_mono C X hX r _ _ _ _ h z) h.rt h.bk h.ct
end
end PD

set_option Elab.async false
set_option linter.all false
set_option maxRecDepth 100000
set_option maxHeartbeats 4000000
namespace PD
open PySem PySem.Spec PyProof.Rows L2
/-! ### plain values and the layer's -/
/-- a list that nobody writes: frozen, or an object of the module -/
def SqR (K : PySem.W.Frag) (H : Hp) (a : Addr) (xs : List V) : Prop := (∃ o, H a = some (.frz o (.lst xs))) ∨
  ∃ (o : Obj) (its : Array Value) (n : Nat), K.lookup a = some o ∧ o.cls = .type "list" ∧ o.dict = none ∧ o.data = .seq its n ∧ its.size ≤ sizeLine ∧ Vals xs its.toList
theorem SqR.sq {K : PySem.W.Frag} {H : Hp} {a : Addr} {xs : List V} (h : SqR K H a xs) : SqL K H a xs := by
  rcases h with ⟨o, h⟩ | h
  · exact .inl (.inr ⟨o, h⟩)
  · exact .inr h
/-- a tuple: tracked, or an object of the module -/
def SqU (K : PySem.W.Frag) (H : Hp) (a : Addr) (xs : List V) : Prop := H a = some (.tup xs) ∨
  ∃ (o : Obj) (its : Array Value) (n : Nat), K.lookup a = some o ∧ o.cls = .type "tuple" ∧ o.data = .seq its n ∧ its.size ≤ sizeLine ∧ Vals xs its.toList
theorem SqU.sq {K : PySem.W.Frag} {H : Hp} {a : Addr} {xs : List V} (h : SqU K H a xs) : SqT K H a xs := by
  rcases h with h | h
  · exact .inl (.inl h)
  · exact .inr h
mutual
inductive RD (K : PySem.W.Frag) (ca : Nat → Addr) (H : Hp) (β : List Addr) : D → V → Prop
  | non : RD K ca H β .non .non
  | bl (b : Bool) : RD K ca H β (.bl b) (.bl b)
  | int (i : Int) : RD K ca H β (.int i) (.int i)
  | str (x : Str) : RD K ca H β (.str x) (.str x)
  | ty (n : String) : RD K ca H β (.ty n) (.ty n)
  | own (c : Nat) : RD K ca H β (.own c) (.ref (ca c))
  | tup {a : Addr} {vs : List V} {ds : List D} : SqU K H a vs → RDs K ca H β ds vs → RD K ca H β (.tup ds) (.ref a)
  | kl {a : Addr} {vs : List V} {ds : List D} : SqR K H a vs → RDs K ca H β ds vs → RD K ca H β (.kl ds) (.ref a)
  | ref {n : Nat} {a : Addr} : β[n]? = some a → RD K ca H β (.ref n) (.ref a)
inductive RDs (K : PySem.W.Frag) (ca : Nat → Addr) (H : Hp) (β : List Addr) : List D → List V → Prop
  | nil : RDs K ca H β [] []
  | cons {d : D} {v : V} {ds : List D} {vs : List V} : RD K ca H β d v → RDs K ca H β ds vs → RDs K ca H β (d :: ds) (v :: vs)
end
/-- how the heap may go on -/
structure Gr (K : PySem.W.Frag) (β : List Addr) (H : Hp) (β' : List Addr) (H' : Hp) : Prop where
  pre : ∀ (n : Nat) (a : Addr), β[n]? = some a → β'[n]? = some a
  tup : ∀ a vs, SqU K H a vs → SqU K H' a vs
  frz : ∀ a o u, H a = some (.frz o u) → H' a = some (.frz o u)
  xd : ∀ a fs, H a = some (.xd fs) → H' a = some (.xd fs)
section
variable {K : PySem.W.Frag} {ca : Nat → Addr} {H H' H2 : Hp} {β β' β2 : List Addr}
theorem Gr.refl : Gr K β H β H := ⟨fun _ _ z => z, fun _ _ z => z, fun _ _ _ z => z, fun _ _ z => z⟩
theorem Gr.trans (a : Gr K β H β' H') (b : Gr K β' H' β2 H2) : Gr K β H β2 H2 := ⟨fun n x z => b.pre n x (a.pre n x z), fun n x z => b.tup n x (a.tup n x z), fun n x y z => b.frz n x y (a.frz n x y z), fun n x z => b.xd n x (a.xd n x z)⟩
theorem Gr.ro (g : Gr K β H β' H') {a : Addr} {vs : List V} (h : SqR K H a vs) : SqR K H' a vs := by
  rcases h with ⟨o, h⟩ | h
  · exact .inl ⟨o, g.frz _ _ _ h⟩
  · exact .inr h
mutual
theorem RD.grow (g : Gr K β H β' H') : ∀ {d : D} {v : V}, RD K ca H β d v → RD K ca H' β' d v
  | _, _, .non => .non
  | _, _, .bl b => .bl b
  | _, _, .int b => .int b
  | _, _, .str b => .str b
  | _, _, .ty b => .ty b
  | _, _, .own b => .own b
  | _, _, .tup h r => .tup (g.tup _ _ h) (RDs.grow g r)
  | _, _, .kl h r => .kl (g.ro h) (RDs.grow g r)
  | _, _, .ref h => .ref (g.pre _ _ h)
theorem RDs.grow (g : Gr K β H β' H') : ∀ {ds : List D} {vs : List V}, RDs K ca H β ds vs → RDs K ca H' β' ds vs
  | _, _, .nil => .nil
  | _, _, .cons h r => .cons (RD.grow g h) (RDs.grow g r)
end
theorem RDs.length : ∀ {ds : List D} {vs : List V}, RDs K ca H β ds vs → ds.length = vs.length
  | _, _, .nil => rfl
  | _, _, .cons _ r => by rw [List.length_cons, List.length_cons, RDs.length r]
theorem RDs.get : ∀ {ds : List D} {vs : List V} {i : Nat} {d : D}, RDs K ca H β ds vs → ds[i]? = some d → ∃ v, vs[i]? = some v ∧ RD K ca H β d v
  | _, _, _, _, .nil, e => by simp at e
  | _, _, 0, _, .cons r _, e => by simp at e; subst e; exact ⟨_, rfl, r⟩
  | _, _, i + 1, d, .cons _ t, e => by
    obtain ⟨u, h1, h2⟩ := RDs.get (i := i) (d := d) t (by simpa using e)
    exact ⟨u, by simpa using h1, h2⟩
theorem RDs.app : ∀ {ds es : List D} {vs ws : List V}, RDs K ca H β ds vs → RDs K ca H β es ws → RDs K ca H β (ds ++ es) (vs ++ ws)
  | _, _, _, _, .nil, s => s
  | _, _, _, _, .cons r t, s => .cons r (RDs.app t s)
theorem RDs.take : ∀ {ds : List D} {vs : List V} (n : Nat), RDs K ca H β ds vs → RDs K ca H β (ds.take n) (vs.take n)
  | _, _, 0, _ => .nil
  | _, _, _ + 1, .nil => .nil
  | _, _, n + 1, .cons r t => .cons r (RDs.take n t)
theorem RDs.drop : ∀ {ds : List D} {vs : List V} (n : Nat), RDs K ca H β ds vs → RDs K ca H β (ds.drop n) (vs.drop n)
  | _, _, 0, r => r
  | _, _, _ + 1, .nil => .nil
  | _, _, n + 1, .cons _ t => RDs.drop n t
theorem RDs.set {d : D} {v : V} (r : RD K ca H β d v) : ∀ {ds : List D} {vs : List V} (i : Nat), RDs K ca H β ds vs → RDs K ca H β (ds.set i d) (vs.set i v)
  | _, _, _, .nil => .nil
  | _, _, 0, .cons _ t => .cons r t
  | _, _, i + 1, .cons q t => .cons q (RDs.set r i t)
theorem RDs.dropLast : ∀ {ds : List D} {vs : List V}, RDs K ca H β ds vs → RDs K ca H β ds.dropLast vs.dropLast
  | _, _, .nil => .nil
  | _, _, .cons r .nil => .nil
  | _, _, .cons r (.cons s t) => .cons r (RDs.dropLast (.cons s t))
theorem RDs.rep {ds : List D} {vs : List V} (r : RDs K ca H β ds vs) : ∀ k : Nat, RDs K ca H β (List.replicate k ds).flatten (List.replicate k vs).flatten
  | 0 => .nil
  | k + 1 => by
    rw [List.replicate_succ, List.replicate_succ, List.flatten_cons, List.flatten_cons]
    exact r.app (RDs.rep r k)
theorem RDs.cut {ds : List D} {vs : List V} (r : RDs K ca H β ds vs) (lo hi : Option Int) : RDs K ca H β (cutL ds lo hi) (cutV vs lo hi) := by
  unfold cutL cutV
  rw [r.length]
  exact (r.drop _).take _
/-- what stands at a place of the store -/
def OR (K : PySem.W.Frag) (ca : Nat → Addr) (H : Hp) (β : List Addr) : SO → Addr → Prop
  | .lst xs, a => ∃ vs, H a = some (.lst vs) ∧ RDs K ca H β xs vs
  | .ins c fs, a => ∃ (dx : Addr) (fv : List (Str × V)), H a = some (.ins (ca c) dx fv) ∧ fs.map (·.1) = fv.map (·.1) ∧ RDs K ca H β (fs.map (·.2)) (fv.map (·.2))
structure HSim (K : PySem.W.Frag) (ca : Nat → Addr) (S : Store) (β : List Addr) (H : Hp) : Prop where
  len : β.length = S.length
  nd : β.Nodup
  ob : ∀ (n : Nat) (o : SO) (a : Addr), S[n]? = some o → β[n]? = some a → OR K ca H β o a
theorem OR.some {o : SO} {a : Addr} (h : OR K ca H β o a) : ∃ u, H a = some u ∧ (∀ xs, u ≠ .tup xs) ∧ (∀ ob v, u ≠ .frz ob v) ∧ ∀ fs, u ≠ .xd fs := by
  cases o with
  | lst xs => obtain ⟨vs, h, _⟩ := h; exact ⟨_, h, fun _ z => (nomatch z), fun _ _ z => (nomatch z), fun _ z => (nomatch z)⟩
  | ins c fs => obtain ⟨dx, fv, h, _⟩ := h; exact ⟨_, h, fun _ z => (nomatch z), fun _ _ z => (nomatch z), fun _ z => (nomatch z)⟩
theorem HSim.at {S : Store} (s : HSim K ca S β H) {n : Nat} {o : SO} (h : S[n]? = some o) : ∃ a, β[n]? = some a ∧ OR K ca H β o a := by
  have hl : n < S.length := by
    rcases Nat.lt_or_ge n S.length with z | z
    · exact z
    · rw [List.getElem?_eq_none z] at h; cases h
  have hb : n < β.length := by rw [s.len]; exact hl
  exact ⟨_, List.getElem?_eq_getElem hb, s.ob n o _ h (List.getElem?_eq_getElem hb)⟩
theorem HSim.there {S : Store} (s : HSim K ca S β H) {n : Nat} {a : Addr} (h : β[n]? = some a) : ∃ o, S[n]? = some o ∧ OR K ca H β o a := by
  have hl : n < β.length := by
    rcases Nat.lt_or_ge n β.length with z | z
    · exact z
    · rw [List.getElem?_eq_none z] at h; cases h
  have hb : n < S.length := by rw [← s.len]; exact hl
  exact ⟨_, List.getElem?_eq_getElem hb, s.ob n _ a (List.getElem?_eq_getElem hb) h⟩
/-- objects are kept: the relation goes on -/
theorem OR.keep (g : Gr K β H β' H') {o : SO} {a : Addr} (k : H' a = H a) (h : OR K ca H β o a) : OR K ca H' β' o a := by
  cases o with
  | lst xs => obtain ⟨vs, h, r⟩ := h; exact ⟨vs, k.trans h, r.grow g⟩
  | ins c fs => obtain ⟨dx, fv, h, e, r⟩ := h; exact ⟨dx, fv, k.trans h, e, r.grow g⟩
theorem sqT_upd {p : Addr} {o : HO} (hp : H p = none ∨ (∃ u, H p = some u ∧ (∀ xs, u ≠ .tup xs) ∧ (∀ ob v, u ≠ .frz ob v))) {a : Addr} {vs : List V} (h : SqU K H a vs) : SqU K (upd H p o) a vs := by
  rcases h with h | h
  · refine .inl ?_
    have hne : a ≠ p := by
      rintro rfl
      rcases hp with hp | ⟨u, hu, n1, n2⟩
      · rw [hp] at h; cases h
      · rw [hu] at h; cases h; exact n1 _ rfl
    rw [upd_ne hne]; exact h
  · exact .inr h
theorem Gr.fresh {p : Addr} {o : HO} (hp : H p = none) : Gr K β H β (upd H p o) where
  pre := fun _ _ z => z
  tup := fun _ _ h => sqT_upd (.inl hp) h
  frz := fun a ob u h => by rw [upd_ne (ne_of_none h hp)]; exact h
  xd := fun a ob h => by rw [upd_ne (ne_of_none h hp)]; exact h
theorem Gr.snoc (p : Addr) : Gr K β H (β ++ [p]) H where
  pre := fun n a z => by
    rw [List.getElem?_append_left]
    · exact z
    · rcases Nat.lt_or_ge n β.length with q | q
      · exact q
      · rw [List.getElem?_eq_none q] at z; cases z
  tup := fun _ _ z => z
  frz := fun _ _ _ z => z
  xd := fun _ _ z => z
/-- an object that is not of the store's places is laid -/
theorem HSim.fresh {S : Store} (s : HSim K ca S β H) {p : Addr} {o : HO} (hp : H p = none) : HSim K ca S β (upd H p o) where
  len := s.len
  nd := s.nd
  ob := fun n ob a h1 h2 => by
    have h := s.ob n ob a h1 h2
    obtain ⟨u, hu, _⟩ := h.some
    exact h.keep (Gr.fresh hp) (upd_ne (ne_of_none hu hp))
theorem HSim.alloc {S : Store} (s : HSim K ca S β H) {p : Addr} (hp : H p = none) {o : SO} {ho : HO} (hr : OR K ca (upd H p ho) (β ++ [p]) o p) : HSim K ca (S ++ [o]) (β ++ [p]) (upd H p ho) where
  len := by rw [List.length_append, List.length_append, s.len]; rfl
  nd := by
    refine List.nodup_append.mpr ⟨s.nd, List.nodup_cons.mpr ⟨List.not_mem_nil, List.nodup_nil⟩, ?_⟩
    intro a ha b hb
    rw [List.mem_singleton] at hb
    subst hb
    obtain ⟨n, hn⟩ := List.getElem?_of_mem ha
    obtain ⟨o, _, h⟩ := s.there hn
    obtain ⟨u, hu, _⟩ := h.some
    exact ne_of_none hu hp
  ob := fun n ob a h1 h2 => by
    rcases Nat.lt_or_ge n S.length with hl | hl
    · rw [List.getElem?_append_left hl] at h1
      rw [List.getElem?_append_left (by rw [s.len]; exact hl)] at h2
      have h := s.ob n ob a h1 h2
      obtain ⟨u, hu, _⟩ := h.some
      exact (h.keep ((Gr.fresh hp).trans (Gr.snoc p)) (upd_ne (ne_of_none hu hp)))
    · have e : n = S.length := by
        rcases Nat.lt_or_ge n (S ++ [o]).length with z | z
        · rw [List.length_append] at z
          simp at z
          omega
        · rw [List.getElem?_eq_none z] at h1; cases h1
      subst e
      rw [List.getElem?_append_right (Nat.le_refl _), Nat.sub_self] at h1
      cases h1
      rw [← s.len, List.getElem?_append_right (Nat.le_refl _), Nat.sub_self] at h2
      cases h2
      exact hr
theorem HSim.lst {S : Store} (s : HSim K ca S β H) {p : Addr} (hp : H p = none) {xs : List D} {vs : List V} (r : RDs K ca H β xs vs) : HSim K ca (S ++ [.lst xs]) (β ++ [p]) (upd H p (.lst vs)) :=
  s.alloc hp ⟨vs, upd_same, r.grow ((Gr.fresh hp).trans (Gr.snoc p))⟩
theorem grow_alloc {p : Addr} {ho : HO} (hp : H p = none) : Gr K β H (β ++ [p]) (upd H p ho) := (Gr.fresh hp).trans (Gr.snoc p)
theorem ref_last {S : Store} (s : HSim K ca S β H) {p : Addr} : RD K ca H' (β ++ [p]) (.ref S.length) (.ref p) := .ref (by rw [← s.len, List.getElem?_append_right (Nat.le_refl _), Nat.sub_self]; rfl)
/-- a list of the store is written -/
theorem HSim.wr {S : Store} (s : HSim K ca S β H) {n : Nat} {a : Addr} {xs ys : List D} {ws : List V} (h1 : S[n]? = some (.lst xs)) (h2 : β[n]? = some a) (r : RDs K ca H β ys ws) :
    HSim K ca (S.set n (.lst ys)) β (upd H a (.lst ws)) ∧ Gr K β H β (upd H a (.lst ws)) := by
  obtain ⟨vs, hv, rv⟩ : ∃ vs, H a = some (.lst vs) ∧ RDs K ca H β xs vs := s.ob n _ a h1 h2
  have g : Gr K β H β (upd H a (.lst ws)) := by
    refine ⟨fun _ _ z => z, fun b us h => sqT_upd (.inr ⟨_, hv, fun _ z => (nomatch z), fun _ _ z => (nomatch z)⟩) h, fun b o u h => ?_, fun b fs h => ?_⟩
    · rw [upd_ne (ne_of h hv (fun z => (nomatch z)))]; exact h
    · rw [upd_ne (ne_of h hv (fun z => (nomatch z)))]; exact h
  refine ⟨⟨by rw [List.length_set]; exact s.len, s.nd, fun m ob b e1 e2 => ?_⟩, g⟩
  by_cases hm : m = n
  · subst hm
    rw [h2] at e2
    cases e2
    have hl : m < S.length := by
      rcases Nat.lt_or_ge m S.length with z | z
      · exact z
      · rw [List.getElem?_eq_none z] at h1; cases h1
    rw [List.getElem?_set_self hl] at e1
    cases e1
    exact ⟨ws, upd_same, r.grow g⟩
  · rw [List.getElem?_set_ne (Ne.symm hm)] at e1
    have h := s.ob m ob b e1 e2
    refine h.keep g (upd_ne ?_)
    rintro rfl
    have hbl : m < β.length := by
      rcases Nat.lt_or_ge m β.length with z | z
      · exact z
      · rw [List.getElem?_eq_none z] at e2; cases e2
    exact hm ((List.getElem?_inj hbl s.nd).mp (e2.trans h2.symm))
end
/-- what the heap-level end wants -/
def HQ (K : PySem.W.Frag) (ca : Nat → Addr) (β : List Addr) (H : Hp) (Q : VK) : DQ := fun d S' => ∀ β' v H', HSim K ca S' β' H' → Gr K β H β' H' → RD K ca H' β' d v → Q v H'
section
variable {K : PySem.W.Frag} {ca : Nat → Addr} {H H' : Hp} {β β' : List Addr} {Q : VK} {S : Store}
theorem HQ.step (g : Gr K β H β' H') {d : D} (h : HQ K ca β H Q d S) : HQ K ca β' H' Q d S := fun β2 v H2 s g2 r => h β2 v H2 s (g.trans g2) r
theorem HQ.now (s : HSim K ca S β H) {d : D} {v : V} (r : RD K ca H β d v) (h : HQ K ca β H Q d S) : Q v H := h β v H s Gr.refl r
/-- a new list -/
theorem HQ.new (s : HSim K ca S β H) {xs : List D} {vs : List V} (r : RDs K ca H β xs vs) (h : HQ K ca β H Q (.ref S.length) (S ++ [.lst xs])) : ∀ p, H p = none → Q (.ref p) (upd H p (.lst vs)) :=
  fun p hp => h _ _ _ (s.lst hp r) (grow_alloc hp) (ref_last s)
/-- a new tuple -/
theorem HQ.newT (s : HSim K ca S β H) {xs : List D} {vs : List V} (r : RDs K ca H β xs vs) (h : HQ K ca β H Q (.tup xs) S) : ∀ p, H p = none → Q (.ref p) (upd H p (.tup vs)) :=
  fun p hp => h _ _ _ (s.fresh hp) (Gr.fresh hp) (.tup (.inl upd_same) (r.grow (Gr.fresh hp)))
/-- the items of a thing -/
theorem seq_of (s : HSim K ca S β H) {d : D} {v : V} {xs : List D} (h : seqOf S d = some xs) (r : RD K ca H β d v) : ∃ a vs, v = .ref a ∧ (SqL K H a vs ∨ SqT K H a vs) ∧ RDs K ca H β xs vs := by
  cases r with
  | tup hs hr =>
    cases h
    exact ⟨_, _, rfl, .inr hs.sq, hr⟩
  | kl hs hr =>
    cases h
    exact ⟨_, _, rfl, .inl hs.sq, hr⟩
  | ref hb =>
    rename_i n a
    obtain ⟨o, ho, hor⟩ := s.there hb
    unfold seqOf at h
    dsimp only at h
    rw [ho] at h
    cases o with
    | lst ys =>
      cases h
      obtain ⟨vs, hv, hr⟩ := hor
      exact ⟨a, vs, rfl, .inl (SqL.of hv), hr⟩
    | ins c fs => cases h
  | _ => cases h
theorem seq_lst (s : HSim K ca S β H) {n : Nat} {v : V} {xs : List D} (h : seqOf S (.ref n) = some xs) (r : RD K ca H β (.ref n) v) : ∃ a vs, v = .ref a ∧ SqL K H a vs ∧ RDs K ca H β xs vs := by
  cases r with
  | ref hb =>
    rename_i a
    obtain ⟨o, ho, hor⟩ := s.there hb
    unfold seqOf at h
    dsimp only at h
    rw [ho] at h
    cases o with
    | lst ys =>
      cases h
      obtain ⟨vs, hv, hr⟩ := hor
      exact ⟨a, vs, rfl, SqL.of hv, hr⟩
    | ins c fs => cases h
theorem lst_at (s : HSim K ca S β H) {n : Nat} {v : V} {xs : List D} (h : S[n]? = some (.lst xs)) (r : RD K ca H β (.ref n) v) : ∃ a vs, v = .ref a ∧ β[n]? = some a ∧ H a = some (.lst vs) ∧ RDs K ca H β xs vs := by
  cases r with
  | ref hb =>
    obtain ⟨vs, hv, hr⟩ := s.ob n _ _ h hb
    exact ⟨_, vs, rfl, hb, hv, hr⟩
end
end PD

set_option Elab.async false
set_option linter.all false
set_option maxRecDepth 100000
set_option maxHeartbeats 4000000
namespace PD
open PySem PySem.Spec PyProof.Rows L2
/-! ### tuple * int: the ends that TupMul leaves out -/
theorem tuple_mulS (l : Addr) (items : Array Value) (n : Nat) (dd : Option Addr) (sl : Array (Option Value)) (x : Int) (u : Tok) (c0 : (decide (x < -(2 ^ 63)) || decide (x ≥ 2 ^ 63)) = false) (c1 : (items.isEmpty || x == 1) = true) :
    Meets (Builtin.«tuple.__mul__» ⟨[.ref l, .int x u], []⟩) (fun _ R s => s.heap.get? l = some { cls := .type "tuple", dict := dd, data := .seq items n, slots := sl } ∧ R (.ok (.ret (Value.ref l))) s) :=
  .of_wp fun prog w A R s h => by
    obtain ⟨hp, g, d, tk, os⟩ := s
    obtain ⟨hl, h⟩ := h
    have f1 := AutoSeq1.idx_int
    wp_walk using wpAny_loadPart' hl
    repeat (first
      | (refine wpAny_ite_false (decide_eq_false (by rw [c0]; exact Bool.false_ne_true)) ?_; wp_walk using wpAny_loadPart' hl)
      | (refine wpAny_ite_true (decide_eq_true c1) ?_; wp_walk using wpAny_loadPart' hl)
      | (refine wpAny_ite_true (by decide) ?_; wp_walk using wpAny_loadPart' hl))
    exact ⟨_, rfl, h⟩
theorem tuple_mulE (l : Addr) (items : Array Value) (n : Nat) (dd : Option Addr) (sl : Array (Option Value)) (x : Int) (u : Tok) (c0 : (decide (x < -(2 ^ 63)) || decide (x ≥ 2 ^ 63)) = false) (c1 : (items.isEmpty || x == 1) = false) (c2 : (decide (x ≤ 0) || items.isEmpty) = true) :
    Meets (Builtin.«tuple.__mul__» ⟨[.ref l, .int x u], []⟩) (fun _ R s => s.heap.get? l = some { cls := .type "tuple", dict := dd, data := .seq items n, slots := sl } ∧
      R (.ok (.ret (Value.ref s.heap.objs.size))) { s with heap := s.heap.push { cls := Value.type "tuple", data := Data.seq #[] }, toks := s.toks }) :=
  .of_wp fun prog w A R s h => by
    obtain ⟨hp, g, d, tk, os⟩ := s
    obtain ⟨hl, h⟩ := h
    have f1 := AutoSeq1.idx_int
    wp_walk using wpAny_loadPart' hl
    repeat (first
      | (refine wpAny_ite_false (decide_eq_false (by rw [c0]; exact Bool.false_ne_true)) ?_; wp_walk using wpAny_loadPart' hl)
      | (refine wpAny_ite_false (decide_eq_false (by rw [c1]; exact Bool.false_ne_true)) ?_; wp_walk using wpAny_loadPart' hl)
      | (refine wpAny_ite_true (decide_eq_true c2) ?_; wp_walk using wpAny_loadPart' hl))
    exact ⟨_, rfl, h⟩
def rRepA (K : PySem.W.Frag) : R2 := fun x y H Q => ∃ l k xs, x = .ref l ∧ y = .int k ∧ SqT K H l xs ∧ -(2 ^ 63) ≤ k ∧ k ≤ 1000 ∧ xs.length ≤ 1000 ∧ (xs = [] ∨ k = 1 → Q (.ref l) H) ∧
  (xs ≠ [] → k ≠ 1 → ∀ p, H p = none → Q (.ref p) (upd H p (.tup (List.replicate k.toNat xs).flatten)))
theorem op_repA {X : Cx} : OpR X (binaryOp .Mult) (rRepA X.K) := by
  intro pins s σ H x y v u Q I rx ry h
  obtain ⟨l, k, xs, rfl, rfl, hT, h0, h1, hz, q1, q2⟩ := h
  by_cases hs : xs = [] ∨ k = 1
  · cases rx
    obtain ⟨t, rfl⟩ := ry
    obtain ⟨its, r, ⟨⟨cls, dd, data, sl⟩, ho, hc, n, hd⟩, hs'⟩ := I.tuple hT
    simp only at hc hd
    subst hc hd
    have c0 : (decide (k < -(2 ^ 63)) || decide (k ≥ 2 ^ 63)) = false := by
      rw [decide_eq_false (by omega), decide_eq_false (by omega)] <;> rfl
    have c1 : (its.toArray.isEmpty || k == 1) = true := by
      rcases hs with rfl | rfl
      · cases r
        rfl
      · simp
    refine wpAny_binaryOp_repeat_ref (T := "tuple") (U := "int") (by decide) ⟨_, ho, rfl⟩ (fun s' => typeIs_int s' k t) noFill_tuple_mul F.fills_int_mul F.slot_int_rmul repeat_tuple F.slot_int_index.lookup
      (call_meets F.slot_int_rmul (typeIs_int s k t) F.entry_int_rmul (F.args_int_rmul_2 _ _) (int_rmul_tuple k t l its.toArray n dd sl)
        ⟨ho, rfl, ⟨_, ho, rfl⟩, call_meets F.slot_tuple_mul ⟨_, ho, rfl⟩ F.entry_tuple_mul (F.args_tuple_mul_2 _ _) (tuple_mulS l its.toArray n dd sl k t c0 c1) ⟨ho, ?_⟩⟩)
    exact ⟨.ref l, H, I, rfl, q1 hs⟩
  · have hne : xs ≠ [] := fun z => hs (.inl z)
    have hk1 : k ≠ 1 := fun z => hs (.inr z)
    by_cases h2 : 2 ≤ k
    · exact op_repT pins s σ H _ _ v u Q I rx ry ⟨l, k, xs, rfl, rfl, hT, hne, h2, h1, hz, q2 hne hk1⟩
    · cases rx
      obtain ⟨t, rfl⟩ := ry
      obtain ⟨its, r, ⟨⟨cls, dd, data, sl⟩, ho, hc, n, hd⟩, hs'⟩ := I.tuple hT
      simp only at hc hd
      subst hc hd
      have hi : its.toArray.isEmpty = false := by
        cases r with
        | nil => exact absurd rfl hne
        | cons a b => rfl
      have c0 : (decide (k < -(2 ^ 63)) || decide (k ≥ 2 ^ 63)) = false := by
        rw [decide_eq_false (by omega), decide_eq_false (by omega)] <;> rfl
      have c1 : (its.toArray.isEmpty || k == 1) = false := by
        rw [hi, Bool.false_or]
        exact beq_eq_false_iff_ne.mpr hk1
      have c2 : (decide (k ≤ 0) || its.toArray.isEmpty) = true := by
        rw [decide_eq_true (by omega)] <;> rfl
      have q3 := q2 hne hk1
      have e0 : k.toNat = 0 := by omega
      rw [e0] at q3
      refine wpAny_binaryOp_repeat_ref (T := "tuple") (U := "int") (by decide) ⟨_, ho, rfl⟩ (fun s' => typeIs_int s' k t) noFill_tuple_mul F.fills_int_mul F.slot_int_rmul repeat_tuple F.slot_int_index.lookup
        (call_meets F.slot_int_rmul (typeIs_int s k t) F.entry_int_rmul (F.args_int_rmul_2 _ _) (int_rmul_tuple k t l its.toArray n dd sl)
          ⟨ho, rfl, ⟨_, ho, rfl⟩, call_meets F.slot_tuple_mul ⟨_, ho, rfl⟩ F.entry_tuple_mul (F.args_tuple_mul_2 _ _) (tuple_mulE l its.toArray n dd sl k t c0 c1 c2) ⟨ho, ?_⟩⟩)
      refine ⟨.ref s.heap.objs.size, _, I.laid (t' := s.toks) (o := .tup []) (fun b ob q => Heap.get?_push_of_some _ q) (Nat.le_refl _) ?_, rfl, q3 _ (I.hok.fresh (Nat.le_refl _))⟩
      exact ⟨Nat.zero_le _, [], .nil, IsTup.new _ _⟩
end PD

set_option Elab.async false
set_option linter.all false
set_option maxRecDepth 100000
set_option maxHeartbeats 4000000
namespace PD
open PySem PySem.Spec PyProof.Rows L2
open Sem (wp)
open AutoSeq1 (wpAny_loadPart')
/-! ### enumerate(tuple) -/
theorem meets_enum1 {v : Value} {o : Obj} {H : Heap → Prop} (B : Begins v o H) :
    Meets (Builtin.«enumerate.__new__» ⟨[.type "enumerate", v], []⟩) (fun _ R s => H s.heap ∧
      R (.ok (.ret (.ref (s.heap.push o).objs.size))) { s with heap := (s.heap.push o).push { cls := .type "enumerate", data := .fields #[.none, .bool false, .ref s.heap.objs.size, rawInt 0, .none, .none] } }) :=
  .of_wp fun prog w A R s h => by
    obtain ⟨hp, g, d, tk, os⟩ := s; obtain ⟨h1, h⟩ := h
    have hsub := sub_enumerate
    have q1 : ∀ {A' : Around} {E : Value → Shared → Prop} {Q : Value → Shared → Prop}, Q (.ref hp.objs.size) ⟨hp.push o, g, d, tk, os⟩ → wpAny (model prog w) A' (pyIter v) Q E ⟨hp, g, d, tk, os⟩ :=
      fun q => B.iter prog w _ _ ⟨hp, g, d, tk, os⟩ _ h1 q
    wp_walk using q1
    refine wpAny_stack_any fun st => wpAny_pure ?_
    split
    · rename_i c _ _ _ _ _
      cases (c == Value.type "enumerate")
      · wp_walk using q1
        exact ⟨_, rfl, h⟩
      · wp_walk using q1
        exact ⟨_, rfl, h⟩
    · wp_walk using q1
      exact ⟨_, rfl, h⟩
theorem call_enum1 {prog : Program} {w : World} {A : Around} {E : Value → Shared → Prop} {s : Shared} {v : Value} {o : Obj} {H : Heap → Prop} {Q : Value → Shared → Prop} (B : Begins v o H) (h1 : H s.heap)
    (h : ∀ h', IsEnum h' (s.heap.objs.size + 1) s.heap.objs.size 0 .none → h'.get? s.heap.objs.size = some o → h'.objs.size = s.heap.objs.size + 2 →
      (∀ b o, s.heap.get? b = some o → h'.get? b = some o) → Q (.ref (s.heap.objs.size + 1)) { s with heap := h' }) :
    wpAny (model prog w) A (call (.type "enumerate") [v]) Q E s := by
  refine callType_new F.called_enumerate (by decide) (F.typeCall_enumerate_1 _) (F.newCall_enumerate_1 _) (fun obj => F.args_object_init_2 obj _) F.entry_enumerate_new
    (meets_enum1 B) ⟨h1, ?_⟩
  have hz : (s.heap.push o).objs.size = s.heap.objs.size + 1 := Heap.size_push ..
  show _ ∧ _
  rw [hz]
  have he : IsEnum ((s.heap.push o).push { cls := .type "enumerate", data := .fields #[.none, .bool false, .ref s.heap.objs.size, rawInt 0, .none, .none] }) (s.heap.objs.size + 1) s.heap.objs.size 0 .none := by
    have := Heap.get?_push_size (s.heap.push o) (o := { cls := .type "enumerate", data := .fields #[.none, .bool false, .ref s.heap.objs.size, rawInt 0, .none, .none] }) rfl
    rw [hz] at this; exact this
  refine ⟨⟨_, he, rfl⟩, h _ he (Heap.get?_push_of_some _ (Heap.get?_push_size _ B.free)) (by rw [Heap.size_push, hz]) fun b o x => Heap.get?_push_of_some _ (Heap.get?_push_of_some _ x)⟩
/-- the tuple at a, each item in a new pair -/
def IteT (K : PySem.W.Frag) (a : Addr) : It :=
  ⟨fun i H => ∃ (xs : List V) (x : V), SqT K H a xs ∧ xs[i]? = some x, fun i H v H' => ∃ T x, v = .ref T ∧ H T = none ∧ H' = upd H T (.tup [.int (i : Nat), x]) ∧ ∀ xs, SqT K H a xs → xs[i]? = some x, fun i H => ∃ xs : List V, SqT K H a xs ∧ xs.length = i⟩
theorem turn_enumT {P : Program} {w : World} {K : PySem.W.Frag} {elts : List Expr} {kk : Nat} {tpos : Pos} (a e it : Addr) (hai : a ≠ it) (hae : a ≠ e) :
    Turn P w K (.Tuple elts kk tpos) (IteT K a) [e, it] e (fun i h => (∃ old, IsEnum h e it ((i : Nat) : Int) old) ∧ h.IsTupleIter it a i ∧ e ≠ it) where
  mem := by simp
  obj := fun i h st b hb => by
    obtain ⟨⟨old, he⟩, ⟨o, ho, hc, hd⟩, _⟩ := st
    have e' : b = e ∨ b = it := by simpa using hb
    rcases e' with z | z
    · rw [z]; exact ⟨_, he, fun v q => nomatch q⟩
    · rw [z]; exact ⟨o, ho, fun v q => by rw [hd] at q; cases q⟩
  keep := fun i h h' st k => let ⟨⟨old, he⟩, hi, hne⟩ := st; ⟨⟨old, k e (by simp) _ he⟩, hi.at fun o q => k it (by simp) o q, hne⟩
  item := by
    intro X hP hw hK hc i pins s σ H E I hf st hg
    subst hP hw hK
    obtain ⟨⟨old, he⟩, hit, hne⟩ := st
    obtain ⟨xs, x, hq, hx⟩ := hg
    obtain ⟨its, rv, p, hz⟩ := I.tuple hq
    obtain ⟨u, hu, ru⟩ := rv.get hx
    have hel : e < s.heap.objs.size := Heap.lt_size he
    have hil : it < s.heap.objs.size := by obtain ⟨_, q, _⟩ := hit; exact Heap.lt_size q
    have hu' : its.toArray[i]? = some u := by simpa using hu
    have hlt : i < its.toArray.size := by
      rcases Nat.lt_or_ge i its.toArray.size with z | z
      · exact z
      · rw [Array.getElem?_eq_none z] at hu'; cases hu'
    refine wpAny_pyNext_enum_itemC (Draws.tuple (A := X.A.in1) (I.ok.hd hc) it a hai its.toArray) he ⟨hit, p⟩ hlt hne (by simp [hne, hae.symm]) fun y h' tk hy ho st' hT hsz hk => ?_
    have ey : y = u := Option.some.inj (hy.symm.trans hu')
    subst ey
    obtain ⟨hit', _⟩ := st'
    refine ⟨_, rfl, wpAny_letOwnedTupleGo_enum (s := { s with heap := h', toks := tk + 1 }) ho fun h'' he' sb => ?_⟩
    have hT2 : h''.get? s.heap.objs.size = some { cls := .type "tuple", data := .seq #[.int i tk, y] } := (sb.2 _ (Nat.ne_of_gt hel)).trans hT
    have new : ObjOk X.prog X.w (upd H s.heap.objs.size (.tup [.int (i : Nat), x])) h'' s.heap.objs.size (.tup [.int (i : Nat), x]) :=
      ⟨by show 2 ≤ sizeLine; decide, [.int i tk, y], .cons ⟨_, rfl⟩ (.cons ru .nil), ⟨_, hT2, rfl, _, rfl⟩⟩
    have I1 : Inv X pins σ (upd H s.heap.objs.size (.tup [.int (i : Nat), x])) { s with heap := h'', toks := tk + 1 } :=
      I.turnedNew (ch := [e, it]) (fun b ob hb q => (sb.2 b (fun z => hb (by simp [z]))).trans (hk b ob (fun z => hb (by simp [z])) (fun z => hb (by simp [z])) q)) hf (Nat.le_refl _) new
    refine ⟨.ref s.heap.objs.size, _, I1, rfl, ⟨_, x, rfl, I.hok.fresh (Nat.le_refl _), rfl, fun ys hy => by rw [I.tuple_inj hy hq]; exact hx⟩, ⟨⟨y, ?_⟩, hit'.at fun o q => (sb.2 it (Ne.symm hne)).trans q, hne⟩, fun b hb => ?_⟩
    · have e1 : ((i + 1 : Nat) : Int) = (i : Int) + 1 := by omega
      rw [e1]; exact he'
    · have hb' : b < s.heap.objs.size := by
        have e' : b = e ∨ b = it := by simpa using hb
        rcases e' with z | z
        · rw [z]; exact hel
        · rw [z]; exact hil
      rw [upd_ne (Nat.ne_of_lt hb')]
      exact (hf b hb).1
  done := by
    intro X hP hw hK hc i pins s σ H E I hf st hg
    subst hP hw hK
    obtain ⟨⟨old, he⟩, hit, hne⟩ := st
    obtain ⟨xs, hq, hx⟩ := hg
    obtain ⟨its, rv, p, hz⟩ := I.tuple hq
    obtain ⟨f0, f1, f2, f3, f4, f5⟩ := hf it (by simp)
    have hl := rv.length
    have ei : its.toArray.size = i := by rw [List.size_toArray, ← hl, hx]
    refine wpAny_pyNext_enum_endD (Draws.tuple (A := X.A.in1) (I.ok.hd hc) it a hai its.toArray) he ⟨by rw [ei]; exact hit, p⟩ fun h' eb => ⟨rfl, I.turned (t' := s.toks) (fun b o hb q => eb b o hb q) f0 f1 f3 f4 f5⟩
  self := fun A i s Q E st h => let ⟨⟨_, he⟩, _⟩ := st; wpAny_pyIter_enum he h
/-- enumerate of a list or a tuple -/
def iEnumA (K : PySem.W.Frag) (ta : TA) : TI := fun σ H R => ta σ H fun vs H1 => ∃ a xs, vs = [.ref a] ∧ ((SqL K H1 a xs ∧ R (Ite K a) H1) ∨ (SqT K H1 a xs ∧ R (IteT K a) H1))
theorem pi_enumA {X : Cx} {e : Expr} {ta : TA} {p pos tpos : Pos} {elts : List Expr} {kk : Nat} (hg : Gl X "enumerate") (hm : X.mg "enumerate" = none) (ha : PA X [e] ta) (hs : starEach [e] X.env = (false, eval e X.env) :: starEach [] X.env) :
    PI X (.Tuple elts kk tpos) (.Call (.Name "enumerate" p) [e] [] pos) (iEnumA X.K ta) := by
  refine ⟨fun pins s σ H R I h => ?_⟩
  refine Call_ (ld_blt I hg hm boot_enumerate (PyProof.Rows.callWith_type1 (thn (ha.run pos pins s σ H _ I h) fun us s1 ⟨vs, H1, I1, r1, q1⟩ => ?_) hs rfl))
  obtain ⟨a, xs, ex, q⟩ := q1
  subst ex
  cases r1 with
  | cons r rr =>
    cases rr
    cases r
    have hfp : ∀ b ∈ [s1.heap.objs.size + 1, s1.heap.objs.size], FpOk X pins H1 b := fun b hb => by
      have e' : b = s1.heap.objs.size + 1 ∨ b = s1.heap.objs.size := by simpa using hb
      have hle : s1.heap.objs.size ≤ b := by
        rcases e' with z | z
        · rw [z]; exact Nat.le_add_right _ _
        · rw [z]; exact Nat.le_refl _
      exact I1.fpOk hle (I1.hok.fresh hle)
    rcases q with ⟨hq, q⟩ | ⟨hq, q⟩
    · obtain ⟨its, rv, p', hz⟩ := I1.list hq
      refine call_enumerate_list p'.isList fun h' he hit hsz hk => wpAny_pyIter_enum he ?_
      have I2 : Inv X pins σ H1 { s1 with heap := h' } := I1.kept (t' := s1.toks) hk
      exact ⟨s1.heap.objs.size + 1, [s1.heap.objs.size + 1, s1.heap.objs.size], _, _, H1, rfl, I2, turn_enum a (s1.heap.objs.size + 1) s1.heap.objs.size, ⟨⟨.none, he⟩, hit, Nat.succ_ne_self _⟩, hfp, q⟩
    · obtain ⟨its, rv, p', hz⟩ := I1.tuple hq
      obtain ⟨o, ho, hco, n, hd⟩ := id p'
      have hlt : a < s1.heap.objs.size := Heap.lt_size ho
      refine call_enum1 (begins_tuple a its.toArray) p' fun h' he hit hsz hk => wpAny_pyIter_enum he ?_
      have I2 : Inv X pins σ H1 { s1 with heap := h' } := I1.kept (t' := s1.toks) hk
      exact ⟨s1.heap.objs.size + 1, [s1.heap.objs.size + 1, s1.heap.objs.size], _, _, H1, rfl, I2, turn_enumT a (s1.heap.objs.size + 1) s1.heap.objs.size (Nat.ne_of_lt hlt) (Nat.ne_of_lt (Nat.lt_succ_of_lt hlt)), ⟨⟨.none, he⟩, ⟨_, hit, rfl, rfl⟩, Nat.succ_ne_self _⟩, hfp, q⟩
end PD

set_option Elab.async false
set_option linter.all false
set_option maxRecDepth 100000
set_option maxHeartbeats 4000000
namespace PD
open PySem PySem.Spec PyProof.Rows L2
theorem mapO_get {α β : Type} {f : α → Option β} : ∀ {xs : List α} {ys : List β}, mapO f xs = some ys → xs.length = ys.length
  | [], ys, h => by cases h; rfl
  | x :: r, ys, h => by
    unfold mapO at h
    split at h
    · rename_i y zs e1 e2
      cases h
      rw [List.length_cons, List.length_cons, mapO_get e2]
    · cases h
theorem mapO_cons {α β : Type} {f : α → Option β} {x : α} {r : List α} {ys : List β} (h : mapO f (x :: r) = some ys) : ∃ y zs, ys = y :: zs ∧ f x = some y ∧ mapO f r = some zs := by
  unfold mapO at h
  split at h
  · rename_i y zs e1 e2
    cases h
    exact ⟨y, zs, rfl, e1, e2⟩
  · cases h
section
variable {K : PySem.W.Frag} {ca : Nat → Addr} {H H' : Hp} {β β' : List Addr} {Q : VK} {S : Store}
theorem toPys_dp {f : D → Option PyData} {k : Nat} (ih : ∀ d v p, f d = some p → RD K ca H β d v → Dp K H v p ∧ p.plain = true ∧ p.depth ≤ k) :
    ∀ (ds : List D) (vs : List V) (ps : List PyData), mapO f ds = some ps → RDs K ca H β ds vs → DpAll K H vs ps ∧ PyData.plainAll ps = true ∧ PyData.depthAll ps ≤ k
  | [], vs, ps, h, r => by
    cases h
    cases r
    exact ⟨.nil, rfl, Nat.zero_le _⟩
  | d :: ds, vs, ps, h, r => by
    obtain ⟨y, zs, rfl, e1, e2⟩ := mapO_cons h
    cases r with
    | cons r1 r2 =>
      obtain ⟨a1, a2, a3⟩ := ih _ _ _ e1 r1
      obtain ⟨b1, b2, b3⟩ := toPys_dp ih ds _ _ e2 r2
      refine ⟨.cons a1 b1, ?_, ?_⟩
      · show (PyData.plain y && PyData.plainAll zs) = true
        rw [a2, b2]
        rfl
      · exact Nat.max_le.mpr ⟨a3, b3⟩
theorem toPy_dp (hs : HSim K ca S β H) : ∀ (k : Nat) (d : D) (v : V) (p : PyData), toPy S k d = some p → RD K ca H β d v → Dp K H v p ∧ p.plain = true ∧ p.depth ≤ k
  | 0, d, v, p, h, r => by unfold toPy at h; cases h
  | k + 1, d, v, p, h, r => by
    unfold toPy at h
    cases r with
    | non => cases h; exact ⟨.non, rfl, Nat.zero_le _⟩
    | bl b => cases h; exact ⟨.bl b, rfl, Nat.zero_le _⟩
    | int b => cases h; exact ⟨.int b, rfl, Nat.zero_le _⟩
    | str b => cases h; exact ⟨.str b, rfl, Nat.zero_le _⟩
    | ty n => cases h
    | own c => cases h
    | tup h1 h2 =>
      dsimp only at h
      obtain ⟨ps, e, rfl⟩ := Option.map_eq_some_iff.mp h
      obtain ⟨a1, a2, a3⟩ := toPys_dp (toPy_dp hs k) _ _ _ e h2
      exact ⟨.tup h1.sq a1, a2, Nat.succ_le_succ a3⟩
    | kl h1 h2 =>
      dsimp only at h
      obtain ⟨ps, e, rfl⟩ := Option.map_eq_some_iff.mp h
      obtain ⟨a1, a2, a3⟩ := toPys_dp (toPy_dp hs k) _ _ _ e h2
      exact ⟨.lst h1.sq a1, a2, Nat.succ_le_succ a3⟩
    | ref hb =>
      dsimp only at h
      split at h
      · rename_i xs e
        obtain ⟨ps, e2, rfl⟩ := Option.map_eq_some_iff.mp h
        obtain ⟨a, vs, ea, hl, hr⟩ := seq_lst hs e (.ref hb)
        cases ea
        obtain ⟨a1, a2, a3⟩ := toPys_dp (toPy_dp hs k) _ _ _ e2 hr
        exact ⟨.lst hl a1, a2, Nat.succ_le_succ a3⟩
      · cases h
theorem truth_v (hs : HSim K ca S β H) {d : D} {v : V} {k : Bool} (h : truth S d = some k) (r : RD K ca H β d v) : TruV K v H k := by
  cases r with
  | non => cases h; rfl
  | bl b => cases h; rfl
  | int i => cases h; rfl
  | str x =>
    unfold truth at h
    dsimp only at h
    split at h
    · cases h
      exact ⟨by assumption, rfl⟩
    · cases h
  | ty n => cases h
  | own c => cases h
  | tup h1 h2 =>
    cases h
    refine .inr (.inl ⟨_, h1.sq, ?_⟩)
    cases h2 <;> rfl
  | kl h1 h2 =>
    cases h
    refine .inl ⟨_, h1.sq, ?_⟩
    cases h2 <;> rfl
  | ref hb =>
    unfold truth at h
    dsimp only at h
    obtain ⟨xs, e, rfl⟩ := Option.map_eq_some_iff.mp h
    obtain ⟨a, vs, ea, hl, hr⟩ := seq_lst hs e (.ref hb)
    cases ea
    refine .inl ⟨_, hl, ?_⟩
    cases hr <;> rfl
end
/-! ### operators -/
def boP : BO → Operator
  | .add => .Add | .sub => .Sub | .mul => .Mult | .fdiv => .FloorDiv | .mod => .Mod | .pow => .Pow
def coP : CO → CmpOp
  | .eq => .Eq | .ne => .NotEq | .lt => .Lt | .le => .LtE | .gt => .Gt | .ge => .GtE | .is => .Is | .isn => .IsNot | .inn => .In | .nin => .NotIn
section
variable {X : Cx} {ca : Nat → Addr}
theorem rep_one {α : Type} (l : List α) : (List.replicate (Int.toNat 1) l).flatten = l := by
  show (List.replicate 1 l).flatten = l
  rw [List.replicate_one, List.flatten_singleton]
def rBin (K : PySem.W.Frag) (ca : Nat → Addr) (o : BO) : R2 := fun x y H Q => ∃ S β d1 d2, HSim K ca S β H ∧ RD K ca H β d1 x ∧ RD K ca H β d2 y ∧ wpBin S o d1 d2 (HQ K ca β H Q)
theorem op_bin (o : BO) : OpR X (binaryOp (boP o)) (rBin X.K ca o) := by
  intro pins s σ H x y v u Q I rx ry h
  obtain ⟨S, β, d1, d2, hs, r1, r2, h⟩ := h
  unfold wpBin at h
  split at h
  · cases r1; cases r2
    exact op_add pins s σ H _ _ v u Q I rx ry ⟨_, _, rfl, rfl, h.now hs (.int _)⟩
  · cases r1; cases r2
    exact op_add_str pins s σ H _ _ v u Q I rx ry ⟨_, _, rfl, rfl, h.1, h.2.now hs (.str _)⟩
  · cases r1 with
    | tup h1 h2 =>
      cases r2 with
      | tup g1 g2 =>
        have e1 := h2.length
        have e2 := g2.length
        refine op_catA pins s σ H _ _ v u Q I rx ry ⟨_, _, _, _, rfl, rfl, h1.sq, g1.sq, by rw [← e1, ← e2]; exact h.1, fun e => ?_, fun _ e => ?_, fun _ _ => ?_⟩
        · subst e
          cases h2
          exact h.2.now hs (.tup g1 g2)
        · subst e
          cases g2
          have hh := h.2
          rw [List.append_nil] at hh
          exact hh.now hs (.tup h1 h2)
        · exact h.2.newT hs (h2.app g2)
  · split at h
    · rename_i xs ys e1 e2
      obtain ⟨a, vs, rfl, hb, ha, hr⟩ := lst_at hs e1 r1
      obtain ⟨b, ws, rfl, hb2, ha2, hr2⟩ := lst_at hs e2 r2
      exact op_cat pins s σ H _ _ v u Q I rx ry ⟨_, _, _, _, rfl, rfl, ha, ha2, by rw [← hr.length, ← hr2.length]; exact h.1, h.2.new hs (hr.app hr2)⟩
    · exact h.elim
  · cases r1; cases r2
    exact op_sub pins s σ H _ _ v u Q I rx ry ⟨_, _, rfl, rfl, h.now hs (.int _)⟩
  · cases r1; cases r2
    exact op_mulW pins s σ H _ _ v u Q I rx ry ⟨_, _, rfl, rfl, h.1, h.2.now hs (.int _)⟩
  · cases r1 with
    | tup h1 h2 =>
      cases r2
      obtain ⟨⟨g1, g2⟩, g3, g4⟩ := h
      refine op_repA pins s σ H _ _ v u Q I rx ry ⟨_, _, _, rfl, rfl, h1.sq, g1, g2, by rw [← h2.length]; exact g3, fun e => ?_, fun _ _ => ?_⟩
      · rcases e with rfl | rfl
        · cases h2
          have e : ∀ n : Nat, (List.replicate n ([] : List D)).flatten = [] := fun n => by
            induction n with
            | zero => rfl
            | succ n ih => rw [List.replicate_succ, List.flatten_cons, ih]; rfl
          rw [e] at g4
          exact g4.now hs (.tup h1 .nil)
        · rw [rep_one] at g4
          exact g4.now hs (.tup h1 h2)
      · exact g4.newT hs (h2.rep _)
  · split at h
    · rename_i xs e1
      obtain ⟨a, vs, rfl, hb, ha, hr⟩ := lst_at hs e1 r1
      cases r2
      exact op_rep pins s σ H _ _ v u Q I rx ry ⟨_, _, _, rfl, rfl, ha, h.1, h.2.1, by rw [← hr.length]; exact h.2.2.1, h.2.2.2.new hs (hr.rep _)⟩
    · exact h.elim
  · cases r1; cases r2
    exact op_fdivW pins s σ H _ _ v u Q I rx ry ⟨_, _, rfl, rfl, ⟨h.1, h.2.1⟩, h.2.2.now hs (.int _)⟩
  · cases r1; cases r2
    exact op_mod pins s σ H _ _ v u Q I rx ry ⟨_, _, rfl, rfl, h.1, h.2.now hs (.int _)⟩
  · cases r1; cases r2
    exact op_pow pins s σ H _ _ v u Q I rx ry ⟨_, _, rfl, rfl, ⟨h.1, h.2.1, h.2.2.1⟩, h.2.2.2.now hs (.int _)⟩
  · exact h.elim
/-! ### comparisons -/
def rCmp (K : PySem.W.Frag) (ca : Nat → Addr) (o : CO) : R2 := fun x y H Q => ∃ S β d1 d2 k, HSim K ca S β H ∧ RD K ca H β d1 x ∧ RD K ca H β d2 y ∧ cmpD S o d1 d2 = some k ∧ Q (.bl k) H
theorem eqD_ok {K : PySem.W.Frag} {H : Hp} {β : List Addr} {S : Store} {d1 d2 : D} {x y : V} {k : Bool} (hs : HSim K ca S β H) (r1 : RD K ca H β d1 x) (r2 : RD K ca H β d2 y) (h : eqD S d1 d2 = some k) :
    ∃ a b, Dp K H x a ∧ Dp K H y b ∧ a.plain = true ∧ b.plain = true ∧ a.depth ≤ 40 ∧ k = PyData.eqv a b := by
  unfold eqD at h
  split at h
  · rename_i a b e1 e2
    cases h
    obtain ⟨a1, a2, a3⟩ := toPy_dp hs _ _ _ _ e1 r1
    obtain ⟨b1, b2, b3⟩ := toPy_dp hs _ _ _ _ e2 r2
    exact ⟨a, b, a1, b1, a2, b2, a3, rfl⟩
  · cases h
theorem inD_ok {K : PySem.W.Frag} {H : Hp} {β : List Addr} {S : Store} {d1 d2 : D} {x y : V} {k : Bool} (hs : HSim K ca S β H) (r1 : RD K ca H β d1 x) (r2 : RD K ca H β d2 y) (h : inD S d1 d2 = some k) :
    ∃ a ds, Dp K H x a ∧ (Dp K H y (.list ds) ∨ Dp K H y (.tuple ds)) ∧ a.plain = true ∧ PyData.plainAll ds = true ∧ a.depth ≤ 40 ∧ k = ds.any fun z => PyData.eqv z a := by
  unfold inD at h
  split at h
  · rename_i a xs e1 e2
    split at h
    · rename_i ds e3
      cases h
      obtain ⟨a1, a2, a3⟩ := toPy_dp hs _ _ _ _ e1 r1
      obtain ⟨l, vs, rfl, hl, hr⟩ := seq_of hs e2 r2
      obtain ⟨b1, b2, b3⟩ := toPys_dp (toPy_dp hs _) _ _ _ e3 hr
      refine ⟨a, ds, a1, ?_, a2, b2, a3, rfl⟩
      rcases hl with hl | hl
      · exact .inl (.lst hl b1)
      · exact .inr (.tup hl b1)
    · cases h
  · cases h
theorem isD_ok {pins : List (Addr × Obj)} {s : Shared} {σ : L2.St} {H : Hp} {β : List Addr} {d1 d2 : D} {x y : V} {v u : Value} {k : Bool} {Q : VK} (I : Inv X pins σ H s) (r1 : RD X.K ca H β d1 x) (r2 : RD X.K ca H β d2 y) (rx : RelV x v) (ry : RelV y u)
    (h : isD d1 d2 = some k) :
    (Q (.bl k) H → wpAny (model X.prog X.w) X.A (compareOp .Is v u) (EP X pins σ Q) X.xe s) ∧ (Q (.bl (!k)) H → wpAny (model X.prog X.w) X.A (compareOp .IsNot v u) (EP X pins σ Q) X.xe s) := by
  unfold isD at h
  split at h
  · cases r2
    cases h
    have e : isNon d1 = decide (x = .non) := by cases r1 <;> rfl
    rw [e]
    exact ⟨fun q => op_isN pins s σ H _ _ v u Q I rx ry ⟨rfl, q⟩, fun q => op_notN pins s σ H _ _ v u Q I rx ry ⟨rfl, q⟩⟩
  · cases r1
    cases r2
    cases h
    rename_i a b
    have e : (a == b) = decide (a = b) := by cases a <;> cases b <;> rfl
    rw [e]
    exact ⟨fun q => op_isBl pins s σ H _ _ v u Q I rx ry ⟨_, _, rfl, rfl, q⟩, fun q => op_notBl pins s σ H _ _ v u Q I rx ry ⟨_, _, rfl, rfl, q⟩⟩
  · cases h
theorem op_cmp (hu : X.A.units + 65 < cLine) (o : CO) : OpR X (compareOp (coP o)) (rCmp X.K ca o) := by
  intro pins s σ H x y v u Q I rx ry h
  obtain ⟨S, β, d1, d2, k, hs, r1, r2, h, q⟩ := h
  unfold cmpD at h
  cases o with
  | eq =>
    obtain ⟨a, b, h1, h2, p1, p2, p3, rfl⟩ := eqD_ok hs r1 r2 h
    obtain ⟨as, g1⟩ := Dp.reads I a x v h1 rx
    obtain ⟨bs, g2⟩ := Dp.reads I b y u h2 ry
    exact SeqAt.eq_plain g1 g2 p1 p2 (by have := Nat.min_le_left a.depth b.depth; omega) ⟨.bl _, H, I, rfl, q⟩
  | ne =>
    obtain ⟨k', h', rfl⟩ := Option.map_eq_some_iff.mp h
    obtain ⟨a, b, h1, h2, p1, p2, p3, rfl⟩ := eqD_ok hs r1 r2 h'
    obtain ⟨as, g1⟩ := Dp.reads I a x v h1 rx
    obtain ⟨bs, g2⟩ := Dp.reads I b y u h2 ry
    exact SeqAt.ne_plain g1 g2 p1 p2 (by have := Nat.min_le_left a.depth b.depth; omega) ⟨.bl _, H, I, rfl, q⟩
  | lt =>
    dsimp only at h
    split at h
    · cases r1; cases r2; cases h
      exact op_lt pins s σ H _ _ v u Q I rx ry ⟨_, _, rfl, rfl, q⟩
    · cases h
  | le =>
    dsimp only at h
    split at h
    · cases r1; cases r2; cases h
      exact op_le pins s σ H _ _ v u Q I rx ry ⟨_, _, rfl, rfl, q⟩
    · cases h
  | gt =>
    dsimp only at h
    split at h
    · cases r1; cases r2; cases h
      exact op_gt pins s σ H _ _ v u Q I rx ry ⟨_, _, rfl, rfl, q⟩
    · cases h
  | ge =>
    dsimp only at h
    split at h
    · cases r1; cases r2; cases h
      exact op_ge pins s σ H _ _ v u Q I rx ry ⟨_, _, rfl, rfl, q⟩
    · cases h
  | is => exact (isD_ok I r1 r2 rx ry h).1 q
  | isn =>
    obtain ⟨k', h', rfl⟩ := Option.map_eq_some_iff.mp h
    exact (isD_ok I r1 r2 rx ry h').2 q
  | inn =>
    obtain ⟨a, ds, h1, h2, p1, p2, p3, rfl⟩ := inD_ok hs r1 r2 h
    obtain ⟨as, g1⟩ := Dp.reads I a x v h1 rx
    have hm := Nat.min_le_right (PyData.depthAll ds) a.depth
    rcases h2 with h2 | h2
    · obtain ⟨bs, g2⟩ := Dp.reads I _ y u h2 ry
      exact SeqAt.in_list_data g2 g1 p2 p1 (by omega) ⟨.bl _, H, I, rfl, q⟩
    · obtain ⟨bs, g2⟩ := Dp.reads I _ y u h2 ry
      exact SeqAt.in_tuple_data g2 g1 p2 p1 (by omega) ⟨.bl _, H, I, rfl, q⟩
  | nin =>
    obtain ⟨k', h', rfl⟩ := Option.map_eq_some_iff.mp h
    obtain ⟨a, ds, h1, h2, p1, p2, p3, rfl⟩ := inD_ok hs r1 r2 h'
    obtain ⟨as, g1⟩ := Dp.reads I a x v h1 rx
    have hm := Nat.min_le_right (PyData.depthAll ds) a.depth
    rcases h2 with h2 | h2
    · obtain ⟨bs, g2⟩ := Dp.reads I _ y u h2 ry
      exact SeqAt.notIn_list_data g2 g1 p2 p1 (by omega) ⟨.bl _, H, I, rfl, q⟩
    · obtain ⟨bs, g2⟩ := Dp.reads I _ y u h2 ry
      exact SeqAt.notIn_tuple_data g2 g1 p2 p1 (by omega) ⟨.bl _, H, I, rfl, q⟩
/-! ### items, slices, stores -/
theorem cutL_all {α : Type} {xs : List α} {lo hi : Option Int} (h : HT.sIx xs.length 0 lo = 0 ∧ HT.sIx xs.length xs.length hi = xs.length) : cutL xs lo hi = xs := by
  unfold cutL
  rw [h.1, h.2, List.drop_zero, Nat.sub_zero, List.take_length]
theorem atI_rel {K : PySem.W.Frag} {H : Hp} {β : List Addr} {ds : List D} {vs : List V} {i : Int} {d : D} (r : RDs K ca H β ds vs) (h : atI ds i = some d) : ∃ v, atI vs i = some v ∧ RD K ca H β d v := by
  unfold atI at h ⊢
  rw [← r.length]
  cases e : ixN ds.length i with
  | none => rw [e] at h; cases h
  | some j =>
    rw [e] at h
    exact r.get h
def rIxD (K : PySem.W.Frag) (ca : Nat → Addr) : R2 := fun x y H Q => ∃ S β d1 d2 d, HSim K ca S β H ∧ RD K ca H β d1 x ∧ RD K ca H β d2 y ∧ ixD S d1 d2 = some d ∧ HQ K ca β H Q d S
theorem ix_d : IxR X (rIxD X.K ca) := by
  intro value slice pins s σ H x y v u Q I rx ry h hsub
  obtain ⟨S, β, d1, d2, d, hs, r1, r2, h, q⟩ := h
  unfold ixD at h
  split at h
  · cases r2
    split at h
    · rename_i xs e
      obtain ⟨a, vs, rfl, hl, hr⟩ := seq_of hs e r1
      obtain ⟨w, hw, rw⟩ := atI_rel hr h
      rcases hl with hl | hl
      · exact ix_list value slice pins s σ H _ _ v u Q I rx ry ⟨_, _, _, _, rfl, rfl, hl, hw, q.now hs rw⟩ hsub
      · exact ix_tup value slice pins s σ H _ _ v u Q I rx ry ⟨_, _, _, _, rfl, rfl, hl, hw, q.now hs rw⟩ hsub
    · split at h
      · cases r1
        split at h
        · rename_i hz
          obtain ⟨c, hc, rfl⟩ := Option.map_eq_some_iff.mp h
          exact ix_str value slice pins s σ H _ _ v u Q I rx ry ⟨_, _, _, rfl, rfl, hz, hc, q.now hs (.str _)⟩ hsub
        · cases h
      · cases h
  · cases h
def rSlD (K : PySem.W.Frag) (ca : Nat → Addr) : V → Option Int → Option Int → Hp → VK → Prop := fun x lo hi H Q => ∃ S β d, HSim K ca S β H ∧ RD K ca H β d x ∧
  (match d with
  | .tup xs => HQ K ca β H Q (.tup (cutL xs lo hi)) S
  | .kl xs => HQ K ca β H Q (.ref S.length) (S ++ [.lst (cutL xs lo hi)])
  | .ref n => onO (seqOf S (.ref n)) fun xs => HQ K ca β H Q (.ref S.length) (S ++ [.lst (cutL xs lo hi)])
  | _ => False)
theorem sl_d : SlR X (rSlD X.K ca) := by
  intro pins s σ H x v vl vu lo hi sl Q I rx hsl pl pu h
  obtain ⟨S, β, d, hs, r, h⟩ := h
  cases r with
  | tup h1 h2 =>
    dsimp only at h
    refine sl_tupA pins s σ H _ v vl vu lo hi sl Q I rx hsl pl pu ⟨_, _, rfl, h1.sq, fun e => ?_, fun _ => h.newT hs (h2.cut lo hi)⟩
    have e2 : cutL _ lo hi = _ := cutL_all (h2.length.symm ▸ e)
    rw [e2] at h
    exact h.now hs (.tup h1 h2)
  | kl h1 h2 =>
    dsimp only at h
    exact sl_list pins s σ H _ v vl vu lo hi sl Q I rx hsl pl pu ⟨_, _, rfl, h1.sq, h.new hs (h2.cut lo hi)⟩
  | ref hb =>
    dsimp only at h
    unfold onO at h
    split at h
    · rename_i xs e
      obtain ⟨a, vs, ea, hl, hr⟩ := seq_lst hs e (.ref hb)
      cases ea
      exact sl_list pins s σ H _ v vl vu lo hi sl Q I rx hsl pl pu ⟨_, _, rfl, hl, h.new hs (hr.cut lo hi)⟩
    · exact h.elim
  | _ => exact h.elim
def tSetD (K : PySem.W.Frag) (ca : Nat → Addr) : TSet := fun o i v H Q => ∃ S β d1 d2 d, HSim K ca S β H ∧ RD K ca H β d1 o ∧ RD K ca H β d2 i ∧ RD K ca H β d v ∧
  wpSet S d1 d2 d fun S' => ∀ H', HSim K ca S' β H' → Gr K β H β H' → Q H'
theorem set_d : PSet X (tSetD X.K ca) := by
  intro pins s σ H o i v ov iv u Q I ro ri rv h
  obtain ⟨S, β, d1, d2, d, hs, r1, r2, r, h⟩ := h
  unfold wpSet at h
  split at h
  · split at h
    · rename_i n k xs e
      obtain ⟨a, vs, rfl, hb, ha, hr⟩ := lst_at hs e r1
      cases r2
      unfold onO at h
      split at h
      · rename_i j ej
        obtain ⟨s2, g2⟩ := hs.wr e hb (hr.set r j)
        exact set_list pins s σ H _ _ _ ov iv u Q I ro ri rv ⟨_, _, _, _, rfl, rfl, ha, by rw [← hr.length]; exact ej, h _ s2 g2⟩
      · exact h.elim
    · exact h.elim
  · exact h.elim
end
end PD

set_option Elab.async false
set_option linter.all false
set_option maxRecDepth 100000
set_option maxHeartbeats 4000000
namespace PD
open PySem PySem.Spec PyProof.Rows L2
section
variable {K : PySem.W.Frag} {ca : Nat → Addr} {H H' : Hp} {β β' : List Addr} {S : Store}
theorem ints_v : ∀ {ds : List D} {is : List Int} {vs : List V}, intL ds = some is → RDs K ca H β ds vs → vs = is.map V.int
  | [], is, vs, h, r => by
    cases r
    cases h
    rfl
  | d :: ds, is, vs, h, r => by
    obtain ⟨y, zs, rfl, e1, e2⟩ := mapO_cons h
    cases r with
    | cons r1 r2 =>
      cases r1 <;> (try (cases e1; done))
      cases e1
      rw [List.map_cons, ints_v (ds := ds) e2 r2]
theorem bools_v : ∀ {ds : List D} {is : List Bool} {vs : List V}, boolL ds = some is → RDs K ca H β ds vs → vs = is.map V.bl
  | [], is, vs, h, r => by
    cases r
    cases h
    rfl
  | d :: ds, is, vs, h, r => by
    obtain ⟨y, zs, rfl, e1, e2⟩ := mapO_cons h
    cases r with
    | cons r1 r2 =>
      cases r1 <;> (try (cases e1; done))
      cases e1
      rw [List.map_cons, bools_v (ds := ds) e2 r2]
theorem foldl_max_le : ∀ (l : List Int) (a : Int), a ≤ l.foldl max a ∧ (∀ x ∈ l, x ≤ l.foldl max a) ∧ (l.foldl max a = a ∨ l.foldl max a ∈ l)
  | [], a => ⟨Int.le_refl _, fun _ h => (nomatch h), .inl rfl⟩
  | b :: r, a => by
    obtain ⟨h1, h2, h3⟩ := foldl_max_le r (max a b)
    refine ⟨Int.le_trans (Int.le_max_left a b) h1, fun x hx => ?_, ?_⟩
    · rcases List.mem_cons.mp hx with rfl | hx
      · exact Int.le_trans (Int.le_max_right a x) h1
      · exact h2 x hx
    · show (r.foldl max (max a b) = a ∨ r.foldl max (max a b) ∈ b :: r)
      rcases h3 with h3 | h3
      · rw [h3]
        rcases Int.le_total a b with z | z
        · right; rw [Int.max_eq_right z]; exact List.mem_cons_self
        · left; exact Int.max_eq_left z
      · right; exact List.mem_cons_of_mem _ h3
theorem foldl_min_le : ∀ (l : List Int) (a : Int), l.foldl min a ≤ a ∧ (∀ x ∈ l, l.foldl min a ≤ x) ∧ (l.foldl min a = a ∨ l.foldl min a ∈ l)
  | [], a => ⟨Int.le_refl _, fun _ h => (nomatch h), .inl rfl⟩
  | b :: r, a => by
    obtain ⟨h1, h2, h3⟩ := foldl_min_le r (min a b)
    refine ⟨Int.le_trans h1 (Int.min_le_left a b), fun x hx => ?_, ?_⟩
    · rcases List.mem_cons.mp hx with rfl | hx
      · exact Int.le_trans h1 (Int.min_le_right a x)
      · exact h2 x hx
    · show (r.foldl min (min a b) = a ∨ r.foldl min (min a b) ∈ b :: r)
      rcases h3 with h3 | h3
      · rw [h3]
        rcases Int.le_total a b with z | z
        · left; exact Int.min_eq_left z
        · right; rw [Int.min_eq_right z]; exact List.mem_cons_self
      · right; exact List.mem_cons_of_mem _ h3
theorem maxL_is {is : List Int} {m n : Int} (h : maxL is = some m) (h1 : n ∈ is) (h2 : ∀ y ∈ is, y ≤ n) : n = m := by
  cases is with
  | nil => cases h
  | cons x r =>
    cases h
    obtain ⟨g1, g2, g3⟩ := foldl_max_le r x
    apply Int.le_antisymm
    · rcases List.mem_cons.mp h1 with rfl | z
      · exact g1
      · exact g2 n z
    · rcases g3 with z | z
      · rw [z]; exact h2 x List.mem_cons_self
      · exact h2 _ (List.mem_cons_of_mem _ z)
theorem minL_is {is : List Int} {m n : Int} (h : minL is = some m) (h1 : n ∈ is) (h2 : ∀ y ∈ is, n ≤ y) : n = m := by
  cases is with
  | nil => cases h
  | cons x r =>
    cases h
    obtain ⟨g1, g2, g3⟩ := foldl_min_le r x
    apply Int.le_antisymm
    · rcases g3 with z | z
      · rw [z]; exact h2 x List.mem_cons_self
      · exact h2 _ (List.mem_cons_of_mem _ z)
    · rcases List.mem_cons.mp h1 with rfl | z
      · exact g1
      · exact g2 n z
/-! ### isinstance -/
def tyIn : List String := ["NoneType", "bool", "int", "str", "tuple", "list"]
theorem kit_all : ∀ a ∈ tyIn, ∀ b ∈ tyOk, kitB a b = some (isTy a b) := by decide +kernel
theorem tyName_v (hs : HSim K ca S β H) {d : D} {v : V} {a : String} (h : tyName S d = some a) (r : RD K ca H β d v) : TyX K H v (.type a) ∧ a ∈ tyIn := by
  cases r with
  | non => cases h; exact ⟨.base .non, by decide⟩
  | bl b => cases h; exact ⟨.base (.bl b), by decide⟩
  | int b => cases h; exact ⟨.base (.int b), by decide⟩
  | str b => cases h; exact ⟨.base (.str b), by decide⟩
  | ty n => cases h
  | own c => cases h
  | tup h1 h2 =>
    cases h
    refine ⟨?_, by decide⟩
    rcases h1 with h1 | ⟨o, its, n, h1, h2, _⟩
    · exact .base (.tup h1)
    · exact .kTuple h1 h2
  | kl h1 h2 =>
    cases h
    refine ⟨?_, by decide⟩
    rcases h1 with ⟨o, h1⟩ | ⟨o, its, n, h1, h2, _⟩
    · exact .base (.frz h1)
    · exact .kList h1 h2
  | ref hb =>
    unfold tyName at h
    dsimp only at h
    split at h
    · rename_i xs e
      cases h
      refine ⟨?_, by decide⟩
      obtain ⟨o, ho, hor⟩ := hs.there hb
      unfold seqOf at e
      dsimp only at e
      rw [ho] at e
      cases o with
      | lst ys =>
        obtain ⟨vs, hv, _⟩ := hor
        exact .base (.lst hv)
      | ins c fs => cases e
    · cases h
theorem isi1_v {a : String} (ha : a ∈ tyIn) {c : D} {v : V} {k : Bool} (h : isi1 a c = some k) (r : RD K ca H β c v) : ∃ b, v = .ty b ∧ PySem.W.kitOne K (.type a) (.type b) = some k := by
  unfold isi1 at h
  split at h
  · cases r
    split at h
    · rename_i hb
      cases h
      exact ⟨_, rfl, kit_ty (kit_all a ha _ hb)⟩
    · cases h
  · cases h
theorem isiAll {a : String} (ha : a ∈ tyIn) : ∀ {cs : List D} {vs : List V} {bs : List Bool}, mapO (isi1 a) cs = some bs → RDs K ca H β cs vs → ∃ us, Paired ClsV vs us ∧ PySem.W.kitAny K (.type a) us = some (bs.any id)
  | [], vs, bs, h, r => by
    cases r
    cases h
    exact ⟨[], .nil, kitAny_nil⟩
  | c :: cs, vs, bs, h, r => by
    obtain ⟨y, zs, rfl, e1, e2⟩ := mapO_cons h
    cases r with
    | cons r1 r2 =>
      obtain ⟨b, rfl, h1⟩ := isi1_v ha e1 r1
      obtain ⟨us, p, h2⟩ := isiAll ha e2 r2
      refine ⟨_, .cons (.ty b) p, ?_⟩
      cases y with
      | true => exact kitAny_cons h1 (fun z => (nomatch z)) (fun _ => rfl)
      | false =>
        refine kitAny_cons h1 (fun _ => ?_) (fun z => (nomatch z))
        rw [h2]
        rfl
end
/-! ### built-in functions -/
def biV : BI → Value
  | .abs => .builtin "abs" | .len => .builtin "len" | .int => .type "int" | .bool => .type "bool" | .list => .type "list" | .tuple => .type "tuple" | .max => .builtin "max" | .min => .builtin "min"
  | .sum => .builtin "sum" | .any => .builtin "any" | .all => .builtin "all" | .isinstance => .builtin "isinstance" | .gcd => .builtin "math.gcd" | .str => .type "str"
section
variable {X : Cx} {ca : Nat → Addr}
def rBi (K : PySem.W.Frag) (ca : Nat → Addr) (b : BI) : List V → Hp → VK → Prop := fun xs H Q => ∃ S β ds, HSim K ca S β H ∧ RDs K ca H β ds xs ∧ wpBi S b ds (HQ K ca β H Q)
theorem onO_some {α : Type} {o : Option α} {k : α → Prop} (h : onO o k) : ∃ a, o = some a ∧ k a := by
  cases o with
  | none => exact h.elim
  | some a => exact ⟨a, rfl, h⟩
theorem rds1 {K : PySem.W.Frag} {H : Hp} {β : List Addr} {d : D} {xs : List V} (r : RDs K ca H β [d] xs) : ∃ v, xs = [v] ∧ RD K ca H β d v := by
  cases r with
  | cons r1 r2 => cases r2; exact ⟨_, rfl, r1⟩
theorem rds2 {K : PySem.W.Frag} {H : Hp} {β : List Addr} {d e : D} {xs : List V} (r : RDs K ca H β [d, e] xs) : ∃ v w, xs = [v, w] ∧ RD K ca H β d v ∧ RD K ca H β e w := by
  cases r with
  | cons r1 r2 =>
    obtain ⟨w, rfl, r3⟩ := rds1 r2
    exact ⟨_, _, rfl, r1, r3⟩
theorem call_bi (hc : X.calm = true) (b : BI) : CallR X (biV b) (rBi X.K ca b) := by
  intro pins s σ H xs us Q I rv h
  obtain ⟨S, β, ds, hs, r, h⟩ := h
  unfold wpBi at h
  split at h
  · obtain ⟨v, rfl, r1⟩ := rds1 r
    cases r1
    exact call_abs pins s σ H _ us Q I rv ⟨_, rfl, h.now hs (.int _)⟩
  · obtain ⟨v, rfl, r1⟩ := rds1 r
    cases r1
    exact call_len_str pins s σ H _ us Q I rv ⟨_, rfl, h.1, h.2.now hs (.int _)⟩
  · obtain ⟨v, rfl, r1⟩ := rds1 r
    obtain ⟨ys, e, q⟩ := onO_some h
    obtain ⟨a, vs, rfl, hl, hr⟩ := seq_of hs e r1
    refine call_len_seq pins s σ H _ us Q I rv ⟨_, _, rfl, hl, ?_⟩
    rw [← hr.length]
    exact q.now hs (.int _)
  · obtain ⟨v, rfl, r1⟩ := rds1 r
    cases r1
    exact call_int1 pins s σ H _ us Q I rv (.inl ⟨_, rfl, h.now hs (.int _)⟩)
  · obtain ⟨v, rfl, r1⟩ := rds1 r
    cases r1
    exact call_int1 pins s σ H _ us Q I rv (.inr ⟨_, rfl, h.now hs (.int _)⟩)
  · obtain ⟨v, rfl, r1⟩ := rds1 r
    cases r1
    exact call_bool1 pins s σ H _ us Q I rv (.inl ⟨_, rfl, h.now hs (.bl _)⟩)
  · obtain ⟨v, rfl, r1⟩ := rds1 r
    cases r1
    exact call_bool1 pins s σ H _ us Q I rv (.inr ⟨_, rfl, h.now hs (.bl _)⟩)
  · obtain ⟨v, rfl, r1⟩ := rds1 r
    obtain ⟨ys, e, q⟩ := onO_some h
    obtain ⟨a, vs, rfl, hl, hr⟩ := seq_of hs e r1
    exact call_list_of pins s σ H _ us Q I rv ⟨_, _, rfl, hl, q.new hs hr⟩
  · obtain ⟨v, rfl, r1⟩ := rds1 r
    obtain ⟨ys, e, q⟩ := onO_some h
    have r1' := r1
    cases r1 with
    | tup h1 h2 =>
      cases e
      exact call_tuple_of pins s σ H _ us Q I rv ⟨_, _, rfl, .inr ⟨h1.sq, q.now hs r1'⟩⟩
    | kl h1 h2 =>
      cases e
      exact call_tuple_of pins s σ H _ us Q I rv ⟨_, _, rfl, .inl ⟨h1.sq, q.newT hs h2⟩⟩
    | ref hb =>
      obtain ⟨a, vs, ea, hl, hr⟩ := seq_lst hs e (.ref hb)
      cases ea
      exact call_tuple_of pins s σ H _ us Q I rv ⟨_, _, rfl, .inl ⟨hl, q.newT hs hr⟩⟩
    | _ => cases e
  · obtain ⟨v, w, rfl, r1, r2⟩ := rds2 r
    cases r1
    cases r2
    exact call_max2 hc pins s σ H _ us Q I rv ⟨_, _, rfl, h.now hs (.int _)⟩
  · obtain ⟨v, rfl, r1⟩ := rds1 r
    obtain ⟨ys, e, q⟩ := onO_some h
    obtain ⟨is, e2, q⟩ := onO_some q
    obtain ⟨m, e3, q⟩ := onO_some q
    obtain ⟨a, vs, rfl, hl, hr⟩ := seq_lst hs e r1
    have ev := ints_v e2 hr
    subst ev
    refine cr_max hc pins s σ H _ us Q I rv ⟨_, _, rfl, hl, ?_, fun n h1 h2 => ?_⟩
    · cases is with
      | nil => cases e3
      | cons x r => exact Nat.succ_pos _
    · rw [maxL_is e3 h1 h2]
      exact q.now hs (.int _)
  · obtain ⟨v, w, rfl, r1, r2⟩ := rds2 r
    cases r1
    cases r2
    exact call_min2 hc pins s σ H _ us Q I rv ⟨_, _, rfl, h.now hs (.int _)⟩
  · obtain ⟨v, rfl, r1⟩ := rds1 r
    obtain ⟨ys, e, q⟩ := onO_some h
    obtain ⟨is, e2, q⟩ := onO_some q
    obtain ⟨m, e3, q⟩ := onO_some q
    obtain ⟨a, vs, rfl, hl, hr⟩ := seq_lst hs e r1
    have ev := ints_v e2 hr
    subst ev
    refine cr_min hc pins s σ H _ us Q I rv ⟨_, _, rfl, hl, ?_, fun n h1 h2 => ?_⟩
    · cases is with
      | nil => cases e3
      | cons x r => exact Nat.succ_pos _
    · rw [minL_is e3 h1 h2]
      exact q.now hs (.int _)
  · obtain ⟨v, rfl, r1⟩ := rds1 r
    obtain ⟨ys, e, q⟩ := onO_some h
    obtain ⟨is, e2, q⟩ := onO_some q
    obtain ⟨a, vs, rfl, hl, hr⟩ := seq_lst hs e r1
    have ev := ints_v e2 hr
    subst ev
    exact cr_sum hc pins s σ H _ us Q I rv ⟨_, _, rfl, hl, q.now hs (.int _)⟩
  · obtain ⟨v, rfl, r1⟩ := rds1 r
    obtain ⟨ys, e, q⟩ := onO_some h
    obtain ⟨is, e2, q⟩ := onO_some q
    obtain ⟨a, vs, rfl, hl, hr⟩ := seq_lst hs e r1
    have ev := bools_v e2 hr
    subst ev
    exact cr_any hc pins s σ H _ us Q I rv ⟨_, _, rfl, hl, q.now hs (.bl _)⟩
  · obtain ⟨v, rfl, r1⟩ := rds1 r
    obtain ⟨ys, e, q⟩ := onO_some h
    obtain ⟨is, e2, q⟩ := onO_some q
    obtain ⟨a, vs, rfl, hl, hr⟩ := seq_lst hs e r1
    have ev := bools_v e2 hr
    subst ev
    exact cr_all hc pins s σ H _ us Q I rv ⟨_, _, rfl, hl, q.now hs (.bl _)⟩
  · obtain ⟨v, w, rfl, r1, r2⟩ := rds2 r
    obtain ⟨k, e, q⟩ := onO_some h
    unfold isiD at e
    split at e
    · cases e
    · rename_i a ea
      obtain ⟨ty, ha⟩ := tyName_v hs ea r1
      split at e
      · obtain ⟨bs, eb, rfl⟩ := Option.map_eq_some_iff.mp e
        cases r2 with
        | tup h1 h2 =>
          obtain ⟨us', p, hk⟩ := isiAll ha eb h2
          rcases h1 with h1 | ⟨o, its, n, h1, hc1, hd1, hz, hv⟩
          · exact call_isiT pins s σ H _ us Q I rv ⟨_, _, _, _, _, _, rfl, h1, p, ty, hk, q.now hs (.bl _)⟩
          · have hu : its.toList = us' := ClsV.all p hv
            subst hu
            obtain ⟨cls, dd, data, sl⟩ := o
            simp only at hc1 hd1
            subst hc1 hd1
            exact call_isiK pins s σ H _ us Q I rv ⟨_, _, _, _, _, _, _, _, rfl, h1, ty, hk, q.now hs (.bl _)⟩
      · obtain ⟨b, rfl, hk⟩ := isi1_v ha e r2
        exact call_isi pins s σ H _ us Q I rv ⟨_, _, _, _, _, rfl, .ty b, ty, hk, q.now hs (.bl _)⟩
  · obtain ⟨v, w, rfl, r1, r2⟩ := rds2 r
    cases r1
    cases r2
    exact cr_gcd pins s σ H _ us Q I rv ⟨_, _, rfl, h.now hs (.int _)⟩
  · obtain ⟨v, rfl, r1⟩ := rds1 r
    cases r1
    exact call_str_int pins s σ H _ us Q I rv ⟨_, rfl, h.1, h.2.now hs (.str _)⟩
  · exact h.elim
/-! ### methods of lists -/
def bmId : BM → String
  | .append => "list.append" | .extend => "list.extend" | .pop => "list.pop"
def bmN : BM → Str
  | .append => "append" | .extend => "extend" | .pop => "pop"
def rBm (K : PySem.W.Frag) (ca : Nat → Addr) (m : BM) : V → List V → Hp → VK → Prop := fun x xs H Q => ∃ S β d ds, HSim K ca S β H ∧ RD K ca H β d x ∧ RDs K ca H β ds xs ∧ wpBm S m d ds (HQ K ca β H Q)
theorem mt_bm (m : BM) : MtR X (bmId m) (rBm X.K ca m) := by
  intro pins s σ H x xs v us Q I rx rv h
  obtain ⟨S, β, d, ds, hs, r, rr, h⟩ := h
  unfold wpBm at h
  split at h
  · split at h
    · rename_i n ys e
      obtain ⟨a, vs, rfl, hb, ha, hr⟩ := lst_at hs e r
      split at h
      · obtain ⟨w, rfl, r1⟩ := rds1 rr
        obtain ⟨s2, g2⟩ := hs.wr e hb (hr.app (.cons r1 .nil))
        exact mt_append pins s σ H _ _ v us Q I rx rv ⟨_, _, _, rfl, rfl, ha, by rw [← hr.length]; exact h.1, h.2 _ _ _ s2 g2 .non⟩
      · split at h
        · rename_i k zs e2
          obtain ⟨w, rfl, r1⟩ := rds1 rr
          obtain ⟨b, ws, rfl, hb2, ha2, hr2⟩ := lst_at hs e2 r1
          obtain ⟨s2, g2⟩ := hs.wr e hb (hr.app hr2)
          exact mt_extend pins s σ H _ _ v us Q I rx rv ⟨_, _, _, _, rfl, rfl, ha, ha2, by rw [← hr.length, ← hr2.length]; exact h.1, h.2 _ _ _ s2 g2 .non⟩
        · exact h.elim
      · obtain ⟨y, e2, q⟩ := onO_some h
        cases rr
        obtain ⟨s2, g2⟩ := hs.wr e hb hr.dropLast
        obtain ⟨w, hw, rw⟩ := hr.get e2
        exact mt_pop pins s σ H _ _ v us Q I rx rv ⟨_, _, _, rfl, rfl, ha, by rw [← hr.length]; exact hw, q _ _ _ s2 g2 (rw.grow g2)⟩
      · exact h.elim
    · exact h.elim
  · exact h.elim
end
end PD

set_option Elab.async false
set_option linter.all false
set_option maxRecDepth 100000
set_option maxHeartbeats 4000000
namespace PD
open PySem PySem.Spec PyProof.Rows L2
/-! ### from the text to the small syntax -/
/-- what a name of the module, or a built-in's, is -/
inductive GK where
  | fn (i : Nat) | ty (n : String) | bi (b : BI) | cst (d : D) | cls (c : Nat) | exc (c : Nat) (fs : List Str) | rng | enum
  /-- a built-in exception class -/
  | xty (c : Nat) (n : String)
def GK.cid : GK → Option Nat
  | .cls c => some c
  | .exc c _ => some c
  | .xty c _ => some c
  | _ => none
structure Ctx where
  N : List Str
  sc : Scope
  calm : Bool
  top : Bool
  fn : Bool
  exn : Option Str
  gl : List (Str × GK)
def ixOf (x : Str) : List Str → Nat → Option Nat
  | [], _ => none
  | y :: r, i => if x == y then some i else ixOf x r (i + 1)
def kindL (c : Ctx) (x : Str) : Option NameKind := c.sc.names.lookup x
/-- a slot's name -/
def slotOf (c : Ctx) (x : Str) : Option Nat := match kindL c x with
  | some .local => ixOf x c.N 0
  | some .cell => ixOf x c.N 0
  | some .free => ixOf x c.N 0
  | _ => none
def globOf (c : Ctx) (x : Str) : Option GK := match kindL c x with
  | some .globalImplicit => if x == ("__debug__" : Str) || x == ("__name__" : Str) then none else c.gl.lookup x
  | _ => none
def opB : Operator → Option BO
  | .Add => some .add | .Sub => some .sub | .Mult => some .mul | .FloorDiv => some .fdiv | .Mod => some .mod | .Pow => some .pow
  | _ => none
def opC : CmpOp → CO
  | .Eq => .eq | .NotEq => .ne | .Lt => .lt | .LtE => .le | .Gt => .gt | .GtE => .ge | .Is => .is | .IsNot => .isn | .In => .inn | .NotIn => .nin
def tyB (n : String) : Option BI := if n == "int" then some .int else if n == "bool" then some .bool else if n == "list" then some .list else if n == "tuple" then some .tuple else if n == "str" then some .str else none
def bmOf (m : Str) : Option BM := if m == bmN .append then some .append else if m == bmN .extend then some .extend else if m == bmN .pop then some .pop else none
def plainE : Expr → Bool
  | .Starred _ _ => false
  | _ => true
def noSlice : Expr → Bool
  | .Slice _ _ _ _ => false
  | _ => true
def noComp : Expr → Bool
  | .ListComp _ _ _ _ => false
  | .SetComp _ _ _ _ => false
  | .DictComp _ _ _ _ _ => false
  | _ => true
def noCall0 : Expr → Bool
  | .Call _ [] [] _ => false
  | _ => true
def noSet : Expr → Bool
  | .Set _ _ _ => false
  | _ => true
def compL (f : Expr → Option DE) : List Expr → Option DEs
  | [] => some .nil
  | e :: r => if plainE e then (match f e, compL f r with
    | some x, some xs => some (.cons x xs)
    | _, _ => none) else none
def compO (f : Expr → Option DE) : Option Expr → Option DO
  | none => some .none
  | some e => (f e).map .some
def compGs (f : Expr → Option DT) : List Expr → Option DTs
  | [] => some .nil
  | e :: r => if plainE e then (match f e, compGs f r with
    | some x, some xs => some (.cons x xs)
    | _, _ => none) else none
def ownOf (N : List Str) : List (Str × NameKind) → List (Str × Nat)
  | [] => []
  | (x, k) :: r => if k == .local || k == .cell then (match ixOf x N 0 with
    | some i => (x, i) :: ownOf N r
    | none => ownOf N r) else ownOf N r
def blkCtx (c : Ctx) (scope : Scope) : Ctx := { c with sc := relS scope c.sc, top := false, fn := false }
def okN (x : Str) : Bool := !(x == ("__debug__" : Str) || x == ("__classdict__" : Str))
def cid1 (c : Ctx) : Expr → Option Nat
  | .Name z _ => (globOf c z).bind GK.cid
  | _ => none
/-- a class or several -/
def clsL (c : Ctx) : Expr → Option (List Nat)
  | .Tuple es _ _ => if es.length < 20 then mapO (cid1 c) es else none
  | e => (cid1 c e).map fun k => [k]
def isTup : Expr → Bool
  | .Tuple _ _ _ => true
  | _ => false
mutual
/-- the targets store the own names of a block alone -/
def ownT (own : List Nat) : DT → Bool
  | .nm i => own.contains i
  | .tp ts => ownTs own ts
  | .sub _ _ => false
def ownTs (own : List Nat) : DTs → Bool
  | .nil => true
  | .cons t ts => ownT own t && ownTs own ts
end
/-- a test: no conditional expression stands in it -/
def noIf : Nat → Expr → Bool
  | 0, _ => true
  | _ + 1, .IfExp _ _ _ _ => false
  | n + 1, .UnaryOp .Not a _ => noIf n a
  | n + 1, .BoolOp _ es _ => es.all (noIf n)
  | _ + 1, _ => true
/-- names and tuples of names -/
def compN : Nat → Ctx → Expr → Option DT
  | 0, _, _ => none
  | n + 1, c, e => match e with
    | .Name x _ => if kindL c x == some .local || (c.fn && kindL c x == some .cell) then (if c.exn == some x then none else (ixOf x c.N 0).map .nm) else none
    | .Tuple es _ _ => if c.calm then (compGs (compN n c) es).map .tp else none
    | _ => none
def compI (E : Expr → Option DE) (c : Ctx) (tup : Bool) (e : Expr) : Option DI := match e with
  | .Call (.Name x _) es [] _ => match globOf c x with
    | some .rng => if es.length == 1 || es.length == 2 then (compL E es).map .rng else none
    | some .enum => match es with
      | [a] => if plainE a && tup then (E a).map .enum else none
      | _ => none
    | _ => (E e).map .seq
  | e => if noSet e then (E e).map .seq else none
def compC (n : Nat) (E : Expr → Option DE) : List Expr → Option DO
  | [] => some .none
  | [t] => if noIf n t then (E t).map .some else none
  | _ => none
def compE : Nat → Ctx → Expr → Option DE
  | 0, _, _ => none
  | n + 1, c, e =>
    let E := compE n c
    match e with
    | .Name x _ => if !okN x then none else if c.exn == some x then none else match slotOf c x with
      | some i => some (.var i)
      | none => match globOf c x with
        | some (.ty t) => some (.cst (.ty t))
        | some (.cst d) => some (.cst d)
        | some (.xty _ t) => some (.cst (.ty t))
        | some (.cls k) => some (.cst (.own k))
        | some (.exc k _) => some (.cst (.own k))
        | _ => none
    | .Constant (.int i) _ _ => some (.cst (.int i))
    | .Constant (.bool i) _ _ => some (.cst (.bl i))
    | .Constant .none _ _ => some (.cst .non)
    | .Constant (.str i) _ _ => some (.cst (.str i))
    | .BinOp a o b _ => match opB o, E a, E b with
      | some o, some x, some y => some (.bin o x y)
      | _, _, _ => none
    | .UnaryOp .USub a _ => (E a).map .neg
    | .UnaryOp .Not a _ => (E a).map .not
    | .Compare l [o] [r] _ => if behindInMarks o r then none else match E l, E r with
      | some x, some y => some (.cmp (opC o) x y)
      | _, _ => none
    | .Compare l [o, p] [a, b] _ => if lastMarks [o, p] [a, b] then none else match E l, E a, E b with
      | some x, some y, some z => some (.chn (opC o) (opC p) x y z)
      | _, _, _ => none
    | .BoolOp _ [a] _ => E a
    | .BoolOp .And (a :: b :: r) pos => match E a, E (.BoolOp .And (b :: r) pos) with
      | some x, some y => some (.and x y)
      | _, _ => none
    | .BoolOp .Or (a :: b :: r) pos => match E a, E (.BoolOp .Or (b :: r) pos) with
      | some x, some y => some (.or x y)
      | _, _ => none
    | .IfExp t a b _ => if noIf n t then (match E t, E a, E b with
      | some x, some y, some z => some (.ife x y z)
      | _, _, _ => none) else none
    | .Call (.Name x _) es [] _ => match globOf c x with
      | some (.fn i) => if c.calm then (compL E es).map (.call i) else none
      | some (.bi .isinstance) => match c.exn, es with
        | some n, [.Name y _, z] => if n == y && okN y then (clsL c z).map .eisi else none
        | some n, _ => none
        | none, es => if c.calm && !es.isEmpty then (compL E es).map (.bi .isinstance) else none
      | some (.bi b) => if c.calm && !es.isEmpty then (compL E es).map (.bi b) else none
      | some (.ty t) => match tyB t with
        | some b => if c.calm && !es.isEmpty then (compL E es).map (.bi b) else none
        | none => none
      | _ => none
    | .Call (.Attribute o m apos) es [] cpos => if apos.endLine == cpos.line && noCall0 o && decide (es.length < 20) then (match bmOf m, E o, compL E es with
      | some m, some x, some xs => some (.bm m x xs)
      | _, _, _ => none) else none
    | .Subscript a (.Slice lo hi none _) _ => match E a, compO E lo, compO E hi with
      | some x, some l, some h => some (.sl x l h)
      | _, _, _ => none
    | .Subscript a i _ => if noSlice i then (match E a, E i with
      | some x, some y => some (.ix x y)
      | _, _ => none) else none
    | .Tuple es _ _ => (compL E es).map .tup
    | .List es _ => (compL E es).map .lst
    | .ListComp elt [⟨tg, iter, ifs, 0⟩] scope _ =>
      let c' := blkCtx c scope
      let own := ownOf c.N scope.names
      if c.calm && blkC c.N c.sc scope own && noSet iter then (match compI E c (isTup tg) iter, compN n c' tg, compE n c' elt, compC n (compE n c') ifs with
        | some it, some t, some x, some o => if ownT (own.map (·.2)) t then some (.lc (own.map (·.2)) t it o x) else none
        | _, _, _, _ => none) else none
    | .Attribute (.Name x _) f _ => if c.exn == some x && okN x then some (.efld f) else none
    | _ => none
def compG (n : Nat) (c : Ctx) (e : Expr) : Option DT := match e with
  | .Subscript o i _ => if noSlice i then (match compE n c o, compE n c i with
    | some x, some y => some (.sub x y)
    | _, _ => none) else none
  | e => compN n c e
/-! ### statements -/
def hdOk (c : Ctx) : List ExceptHandler → Option (Nat × Option Str × List Stmt)
  | [.ExceptHandler (some (.Name x _)) nm (b :: r) _] => ((globOf c x).bind GK.cid).map fun k => (k, nm, b :: r)
  | _ => none
def suiteCtx (c : Ctx) (nm : Option Str) : Ctx := { c with calm := false, top := false, exn := nm }
def docE : Expr → Bool
  | .Constant (.str _) _ _ => true
  | _ => false
/-- a, b = x, y with plain local names -/
def isPar (t : Expr) (v : Expr) : Bool := match t, v with
  | .Tuple _ _ _, .Tuple _ _ _ => true
  | _, _ => false
def swapFree (c : Ctx) (t e : Expr) : Bool := match e with
  | .ListComp _ _ sc pos => (match t with
    | .Name y py => !(kindL c y == some .local && py.line == pos.line && !(sc.names.any fun (n, k) => n == y && (k == .local || k == .cell)))
    | _ => true)
  | e => noComp e
def swapOn (c : Ctx) (t e : Expr) : Bool := match t, e with
  | .Name y py, .ListComp _ _ sc pos => kindL c y == some .local && c.sc.kind == .function && py.line == pos.line && !(sc.names.any fun (n, k) => n == y && (k == .local || k == .cell))
  | _, _ => false
def compSs (f : Stmt → Option DS) : List Stmt → Option (List DS)
  | [] => some []
  | s :: r => match f s, compSs f r with
    | some x, some xs => some (x :: xs)
    | _, _ => none
def compS : Nat → Ctx → Stmt → Option DS
  | 0, _, _ => none
  | n + 1, c, s => match s with
    | .Assign [t] e pos => if isPar t e then none else match compG n c t, compE n c e with
        | some dt, some x => if swapFree c t e || swapOn c t e then some (.asg dt x) else none
        | _, _ => none
    | .AugAssign (.Name x _) o e _ => if kindL c x == some .local || (c.fn && kindL c x == some .cell) then (if c.exn == some x then none else match ixOf x c.N 0, opB o, compE n c e with
        | some i, some .add, some e => some (.aug i .add e)
        | some i, some .sub, some e => some (.aug i .sub e)
        | _, _, _ => none) else none
    | .Expr e _ => if docE e then some .pas else if noComp e then (compE n c e).map .ex else none
    | .Return (some e) _ => (compE n c e).map fun x => .ret (.some x)
    | .Return none _ => some (.ret .none)
    | .If t a b _ => if noIf n t then (match compE n c t, compSs (compS n c) a, compSs (compS n c) b with
      | some x, some y, some z => some (.ifs x y z)
      | _, _, _ => none) else none
    | .For tg it b [] _ => if c.calm && noSet it then (match compN n c tg, compI (compE n c) c (isTup tg) it, compSs (compS n c) b with
      | some t, some i, some b => some (.fr t i b)
      | _, _, _ => none) else none
    | .While t b [] _ => if c.calm && noIf n t then (match compE n c t, compSs (compS n c) b with
      | some x, some b => some (.wh x b)
      | _, _ => none) else none
    | .Pass _ => some .pas
    | .Break _ => some .brk
    | .Continue _ => some .cnt
    | .Raise (some (.Call (.Name x _) es [] _)) none _ => if c.calm && c.top && !es.isEmpty then (match globOf c x, compL (compE n c) es with
      | some (.exc k fs), some es => some (.rse k fs es)
      | _, _ => none) else none
    | .Try b hs [] [] _ => if c.calm && c.top then (match hdOk c hs, compSs (compS n c) b with
      | some (k, nm, su), some b => match compSs (compS n (suiteCtx c nm)) su with
        | some su => match nm with
          | none => some (.tr b k none su)
          | some y => if kindL c y == some .local then (ixOf y c.N 0).map fun i => .tr b k (some i) su else none
        | none => none
      | _, _ => none) else none
    | _ => none
end PD

set_option Elab.async false
set_option linter.all false
set_option maxRecDepth 100000
set_option maxHeartbeats 4000000
namespace PD
open PySem PySem.Spec PyProof.Rows L2
/-! ### a frame over the store -/
/-- the exception that a suite holds -/
structure ExnI where
  slot : Option Nat
  a : Addr
  cls : Value
  d : Option Addr
  er : Err
def RFld (K : PySem.W.Frag) (ca : Nat → Addr) (H : Hp) (β : List Addr) (fs : List (Str × D)) (fv : List (Str × V)) : Prop :=
  ∀ f, (∀ x, fs.lookup f = some x → ∃ v, fv.lookup f = some v ∧ RD K ca H β x v) ∧ (fs.lookup f = none → fv.lookup f = none)
def RErr (K : PySem.W.Frag) (ca : Nat → Addr) (er : Err) (cls : Value) (d : Option Addr) (H : Hp) (β : List Addr) : Prop :=
  cls = .ref (ca er.cls) ∧ ((er.fs = [] ∧ d = none) ∨ ∃ (dd : Addr) (fv : List (Str × V)), d = some dd ∧ H dd = some (.xd fv) ∧ RFld K ca H β er.fs fv)
structure Root where
  β : List Addr
  H : Hp
  exn : Option ExnI
structure Sim (K : PySem.W.Frag) (ca : Nat → Addr) (R : Root) (env : DEnv) (S : Store) (β : List Addr) (σ : L2.St) (H : Hp) : Prop where
  h : HSim K ca S β H
  el : env.length = σ.length
  ev : ∀ (i : Nat) (d : D), env[i]? = some (some d) → ∃ v, σ[i]? = some (some v) ∧ RD K ca H β d v
  gr : Gr K R.β R.H β H
  ex : ∀ x, R.exn = some x → (∀ i, x.slot = some i → σ[i]? = some (some (.ref x.a))) ∧ RErr K ca x.er x.cls x.d H β
section
variable {K : PySem.W.Frag} {ca : Nat → Addr} {R : Root} {env : DEnv} {S S' : Store} {β β' : List Addr} {σ : L2.St} {H H' : Hp}
theorem RFld.grow {fs : List (Str × D)} {fv : List (Str × V)} (g : Gr K β H β' H') (r : RFld K ca H β fs fv) : RFld K ca H' β' fs fv := fun f => ⟨fun x h => by
    obtain ⟨v, h1, h2⟩ := (r f).1 x h
    exact ⟨v, h1, h2.grow g⟩, (r f).2⟩
theorem RErr.grow {er : Err} {cls : Value} {d : Option Addr} (g : Gr K β H β' H') (r : RErr K ca er cls d H β) : RErr K ca er cls d H' β' := by
  refine ⟨r.1, ?_⟩
  rcases r.2 with h | ⟨dd, fv, h1, h2, h3⟩
  · exact .inl h
  · exact .inr ⟨dd, fv, h1, g.xd _ _ h2, h3.grow g⟩
theorem Sim.grow (s : Sim K ca R env S β σ H) (h : HSim K ca S' β' H') (g : Gr K β H β' H') : Sim K ca R env S' β' σ H' where
  h := h
  el := s.el
  ev := fun i d e => by
    obtain ⟨v, h1, h2⟩ := s.ev i d e
    exact ⟨v, h1, h2.grow g⟩
  gr := s.gr.trans g
  ex := fun x e => ⟨(s.ex x e).1, (s.ex x e).2.grow g⟩
theorem Sim.set (s : Sim K ca R env S β σ H) {i : Nat} {d : D} {v : V} (r : RD K ca H β d v) (hx : ∀ x, R.exn = some x → x.slot ≠ some i) : Sim K ca R (env.set i (some d)) S β (σ.set i (some v)) H where
  h := s.h
  el := by rw [List.length_set, List.length_set]; exact s.el
  ev := fun j e h => by
    by_cases hj : j = i
    · subst hj
      have hl : j < env.length := by
        rcases Nat.lt_or_ge j env.length with z | z
        · exact z
        · rw [List.getElem?_eq_none (by rw [List.length_set]; exact z)] at h; cases h
      rw [List.getElem?_set_self hl] at h
      cases h
      exact ⟨v, List.getElem?_set_self (by rw [← s.el]; exact hl), r⟩
    · rw [List.getElem?_set_ne (Ne.symm hj)] at h
      rw [List.getElem?_set_ne (Ne.symm hj)]
      exact s.ev j e h
  gr := s.gr
  ex := fun x e => ⟨fun j hj => by
    have := hx x e
    rw [List.getElem?_set_ne (fun z => this (by rw [hj, z]))]
    exact (s.ex x e).1 j hj, (s.ex x e).2⟩
end
/-! ### readings -/
section
variable (K : PySem.W.Frag) (ca : Nat → Addr) (R : Root)
def LE (w : DEnv → Store → DQ → Prop) : TE := fun σ H Q => ∃ env S β, Sim K ca R env S β σ H ∧ w env S (HQ K ca β H Q)
def HB (β : List Addr) (H : Hp) (Q : Bool → Hp → Prop) : D → Store → Prop := fun d S' => onO (truth S' d) fun k => ∀ β' H', HSim K ca S' β' H' → Gr K β H β' H' → Q k H'
def LT (w : DEnv → Store → DQ → Prop) : TT := fun σ H Q => ∃ env S β, Sim K ca R env S β σ H ∧ w env S (HB K ca β H Q)
def HL (β : List Addr) (H : Hp) (Q : List V → Hp → Prop) : List D → Store → Prop := fun ds S' => ∀ β' vs H', HSim K ca S' β' H' → Gr K β H β' H' → RDs K ca H' β' ds vs → Q vs H'
def LA (w : DEnv → Store → (List D → Store → Prop) → Prop) : TA := fun σ H Q => ∃ env S β, Sim K ca R env S β σ H ∧ w env S (HL K ca β H Q)
/-- a call's reading -/
def HE (β : List Addr) (H : Hp) (E : XK) : EQ := fun er S' => ∀ β' cls d H', HSim K ca S' β' H' → Gr K β H β' H' → RErr K ca er cls d H' β' → E cls d H'
def LSp (sp : DSp) : Sp := fun vs H Q E => ∃ S β ds, HSim K ca S β H ∧ RDs K ca H β ds vs ∧ callC sp ds S (HQ K ca β H Q) (HE K ca β H E)
def XLift (C : SC) (W : WX) : Prop := ∀ er env S β σ H cls d, C.xq er env S → Sim K ca R env S β σ H → RErr K ca er cls d H β → W cls d σ H
end
theorem HL.step {K : PySem.W.Frag} {ca : Nat → Addr} {β β' : List Addr} {H H' : Hp} {Q : List V → Hp → Prop} (g : Gr K β H β' H') {ds : List D} {S : Store} (h : HL K ca β H Q ds S) : HL K ca β' H' Q ds S := fun β2 v H2 s g2 r => h β2 v H2 s (g.trans g2) r
theorem HB.step {K : PySem.W.Frag} {ca : Nat → Addr} {β β' : List Addr} {H H' : Hp} {Q : Bool → Hp → Prop} (g : Gr K β H β' H') {d : D} {S : Store} (h : HB K ca β H Q d S) : HB K ca β' H' Q d S := by
  unfold HB at h ⊢
  exact onO_mono (fun k h β2 H2 s g2 => h β2 H2 s (g.trans g2)) h
theorem PE.imp {X : Cx} {e : Expr} {t t' : TE} (h : PE X e t) (w : ∀ σ H Q, t' σ H Q → t σ H Q) : PE X e t' := ⟨fun pins s σ H Q I q => h.run pins s σ H Q I (w _ _ _ q)⟩
theorem PT.imp {X : Cx} {e : Expr} {t t' : TT} (h : PT X e t) (w : ∀ σ H Q, t' σ H Q → t σ H Q) : PT X e t' := ⟨fun pins s σ H Q I q => h.run pins s σ H Q I (w _ _ _ q)⟩
theorem PW.imp {X : Cx} {e : Expr} {t t' : TT} (h : PW X e t) (w : ∀ σ H Q, t' σ H Q → t σ H Q) : PW X e t' := ⟨fun wh pins s σ H Q I q => h.run wh pins s σ H Q I (w _ _ _ q)⟩
theorem PA.imp {X : Cx} {e : List Expr} {t t' : TA} (h : PA X e t) (w : ∀ σ H Q, t' σ H Q → t σ H Q) : PA X e t' := ⟨fun pos pins s σ H Q I q => h.run pos pins s σ H Q I (w _ _ _ q)⟩
theorem PS.imp {X : Cx} {e : Stmt} {t t' : TS} (h : PS X e t) (w : ∀ D σ H, t' D σ H → t D σ H) : PS X e t' := ⟨fun pins s σ H Q I q => h.run pins s σ H Q I (w _ _ _ q)⟩
theorem PSs.imp {X : Cx} {e : List Stmt} {t t' : TS} (h : PSs X e t) (w : ∀ D σ H, t' D σ H → t D σ H) : PSs X e t' := ⟨fun pins s σ H Q I q => h.run pins s σ H Q I (w _ _ _ q)⟩
theorem PG.imp {X : Cx} {e : Expr} {t t' : TG} (h : PG X e t) (w : ∀ v σ H Q, t' v σ H Q → t v σ H Q) : PG X e t' := ⟨fun pins s σ H v u Q I r q => h.run pins s σ H v u Q I r (w _ _ _ _ q)⟩
theorem PI.imp {X : Cx} {g e : Expr} {t t' : TI} (h : PI X g e t) (w : ∀ σ H Q, t' σ H Q → t σ H Q) : PI X g e t' := ⟨fun pins s σ H R I q => h.run pins s σ H R I (w _ _ _ q)⟩
theorem PG.or {X : Cx} {e : Expr} {t t' : TG} (h : PG X e t) (h' : PG X e t') : PG X e (fun v σ H Q => t v σ H Q ∨ t' v σ H Q) :=
  ⟨fun pins s σ H v u Q I r q => q.elim (fun q => h.run pins s σ H v u Q I r q) fun q => h'.run pins s σ H v u Q I r q⟩
/-! ### what a frame's context must be -/
def GOk (ca : Nat → Addr) (X : Cx) (x : Str) : GK → Prop
  | .fn _ => True
  | .ty n => X.mg x = none ∧ bootBuiltins x = some (.type n)
  | .bi .gcd => X.mg x = some (.builtin "math.gcd")
  | .bi b => X.mg x = none ∧ bootBuiltins x = some (biV b)
  | .cst d => ∃ (u : Value) (v : V), X.mg x = some u ∧ RelV v u ∧ ∀ H β, RD X.K ca H β d v
  | .cls c => X.mg x = some (.ref (ca c))
  | .exc c _ => X.mg x = some (.ref (ca c))
  | .xty _ n => X.mg x = none ∧ bootBuiltins x = some (.type n)
  | .rng => X.mg x = none ∧ x = "range"
  | .enum => X.mg x = none ∧ x = "enumerate"
def FOk (ca : Nat → Addr) (X : Cx) (C : SC) (i : Nat) (x : Str) : Prop := ∃ (a : Addr) (k : Nat), X.mg x = some (.ref a) ∧ PySem.W.keepIn X.K (.ref a) = true ∧ Room k X.A ∧ FnR X.prog X.w X.K X.mg X.base (L2.CX X.prog X.w) k a (LSp X.K ca (C.sp i))
/-- a class of exceptions with the fields fs is made -/
def ROk (ca : Nat → Addr) (X : Cx) (x : Str) (c : Nat) (fs : List Str) : Prop := ∀ (e : Expr) (es : List Expr) (ta : TA) (p pos : Pos), Gl X x → PA X (e :: es) ta → starEach (e :: es) X.env = (false, eval e X.env) :: starEach es X.env →
  (backTo pos (starEach es X.env)).any (·.1) = false → PMk X (.Call (.Name x p) (e :: es) [] pos) (fun σ H Q => ta σ H fun vs H1 => vs.length = fs.length ∧ ∀ d fv, H1 d = none → (∀ f, fv.lookup f = (fs.zip vs).lookup f) → Q (.ref (ca c)) (some d) (upd H1 d (.xd fv)))
/-- the class that a name means -/
def GK.cv (ca : Nat → Addr) : GK → Value
  | .cls c => .ref (ca c)
  | .exc c _ => .ref (ca c)
  | .xty _ n => .type n
  | _ => .none
def GK.vv (ca : Nat → Addr) : GK → V
  | .cls c => .ref (ca c)
  | .exc c _ => .ref (ca c)
  | .xty _ n => .ty n
  | _ => .non
/-- so that isinstance asks its instances rightly -/
structure KXC (K : PySem.W.Frag) (D : Addr) : Prop where
  ha : PySem.W.findIn K (.ref D) "__class__" = some (some (.builtin "object.__class__"))
  hn : PySem.W.specialIn K (.builtin "object.__class__") "__get__" = some (some (.builtin "getset_descriptor.__get__"))
  ht : PySem.W.takesIn K (.builtin "object.__class__") = some true
  hm : PySem.W.mroIn K D (.type "object") = some true
/-- what is known of a class of exceptions -/
structure KOk (ca : Nat → Addr) (X : Cx) (c : Ctx) (C : SC) (k : Nat) (fs : List Str) : Prop where
  xf : XfC X.K (ca k)
  kx : KXC X.K (ca k)
  no : ∀ f ∈ fs, PySem.W.findIn X.K (.ref (ca k)) f = some none
  ex : ∀ (x : Str) (g : GK) (j : Nat), c.gl.lookup x = some g → g.cid = some j → PySem.W.exmOne X.K (.ref (ca k)) (g.cv ca) = some (C.sub k j)
  is : ∀ (x : Str) (g : GK) (j : Nat), c.gl.lookup x = some g → g.cid = some j → PySem.W.kitOne X.K (.ref (ca k)) (g.cv ca) = some (C.sub k j)
structure XOk (ca : Nat → Addr) (R : Root) (X : Cx) (c : Ctx) (C : SC) : Prop where
  N : X.N = c.N
  nd : c.N.Nodup
  sc : X.env.scope = c.sc
  calm : c.calm = true → X.calm = true
  fn : c.fn = true → ∀ x, X.fn x = true
  un : X.A.units + 65 < cLine
  gl : ∀ x g, c.gl.lookup x = some g → GOk ca X x g
  fs : c.calm = true → ∀ x i, c.gl.lookup x = some (.fn i) → FOk ca X C i x
  rs : c.top = true → ∀ (pn : List (Addr × Obj)) (xe : Value → Shared → Prop) (x : Str) (k : Nat) (fs : List Str), c.gl.lookup x = some (.exc k fs) → ROk ca (X.tr pn xe) x k fs
  ks : c.top = true → ∀ (k : Nat) (fs : List Str), C.kn k fs = true → KOk ca X c C k fs
  po : PassesOwn (model X.prog X.w) X.A X.env X.xe
  tk : ∃ W, Takes X W ∧ XLift X.K ca R C W
  top : c.top = true → X.stack = X.env :: X.outer ∧ X.env.frame = some X.env.locals
  exs : ∀ ei, R.exn = some ei → ∀ i, ei.slot = some i → ∃ n, c.exn = some n ∧ c.N[i]? = some n
  exn : ∀ n, c.exn = some n → ∃ (X0 : Cx) (c0 : Ctx) (a : Addr) (oe : Obj) (pn : List (Addr × Obj)) (cls : Value) (d : Option Addr) (er : Err) (i : Nat), X = X0.suite a ((a, oe) :: pn) ∧ Zc cls d oe ∧ (∃ vs, oe.data = .fields vs) ∧ R.exn = some ⟨some i, a, cls, d, er⟩ ∧
    C.exn = some er ∧ c.N[i]? = some n ∧ kindL c n = some .local ∧ c0.gl = c.gl ∧ KOk ca X0 c0 C er.cls (er.fs.map (·.1))
theorem ixOf_get {x : Str} : ∀ {N : List Str} {j i : Nat}, ixOf x N j = some i → j ≤ i ∧ N[i - j]? = some x
  | [], _, _, h => by cases h
  | y :: r, j, i, h => by
    unfold ixOf at h
    split at h
    · rename_i e
      cases h
      refine ⟨Nat.le_refl _, ?_⟩
      rw [Nat.sub_self]
      have e2 : x = y := by simpa using e
      rw [e2]
      rfl
    · obtain ⟨h1, h2⟩ := ixOf_get h
      refine ⟨by omega, ?_⟩
      have e : i - j = (i - (j + 1)) + 1 := by omega
      rw [e]
      exact h2
theorem ixOf_at {x : Str} {N : List Str} {i : Nat} (h : ixOf x N 0 = some i) : N[i]? = some x := (ixOf_get h).2
section
variable {ca : Nat → Addr} {R : Root} {X : Cx} {c : Ctx} {C : SC}
theorem XOk.slot (o : XOk ca R X c C) {x : Str} {i : Nat} (h : slotOf c x = some i) : X.N[i]? = some x ∧ Vis X.env.scope x := by
  have e := o.sc
  unfold slotOf kindL at h
  rw [← e] at h
  unfold Vis
  split at h
  · rename_i hk; exact ⟨by rw [o.N]; exact ixOf_at h, .inl hk⟩
  · rename_i hk; exact ⟨by rw [o.N]; exact ixOf_at h, .inr (.inl hk)⟩
  · rename_i hk; exact ⟨by rw [o.N]; exact ixOf_at h, .inr (.inr hk)⟩
  · cases h
theorem XOk.glob (o : XOk ca R X c C) {x : Str} {g : GK} (h : globOf c x = some g) : Gl X x ∧ (x == ("__debug__" : Str)) = false ∧ x ≠ "__name__" ∧ c.gl.lookup x = some g := by
  have e := o.sc
  unfold globOf kindL at h
  rw [← e] at h
  split at h
  · rename_i hk
    split at h
    · cases h
    · rename_i hn
      have hn' : (x == ("__debug__" : Str) || x == ("__name__" : Str)) = false := by simpa using hn
      obtain ⟨h1, h2⟩ := Bool.or_eq_false_iff.mp hn'
      exact ⟨hk, h1, by simpa using h2, h⟩
  · cases h
theorem XOk.wr (o : XOk ca R X c C) {x : Str} (h : (kindL c x == some .local || (c.fn && kindL c x == some .cell)) = true) : L2.Loc X.env.scope x ∧ (X.fn x = true ∨ X.env.scope.names.lookup x = some .local) := by
  have e := o.sc
  unfold kindL at h
  rw [← e] at h
  unfold L2.Loc
  rcases Bool.or_eq_true_iff.mp h with h | h
  · have h' : X.env.scope.names.lookup x = some .local := by simpa using h
    exact ⟨.inl h', .inr h'⟩
  · obtain ⟨h1, h2⟩ := Bool.and_eq_true_iff.mp h
    have h' : X.env.scope.names.lookup x = some .cell := by simpa using h2
    exact ⟨.inr h', .inl (o.fn h1 x)⟩
theorem XOk.noex (o : XOk ca R X c C) {x : Str} {i : Nat} (hi : c.N[i]? = some x) (h : (c.exn == some x) = false) : ∀ e, R.exn = some e → e.slot ≠ some i := by
  intro e he hs
  obtain ⟨n, h1, h2⟩ := o.exs e he i hs
  rw [hi] at h2
  cases h2
  rw [h1] at h
  simp at h
/-! ### targets -/
def LG (K : PySem.W.Frag) (ca : Nat → Addr) (R : Root) (P : Nat → Prop) (w : D → DEnv → Store → (DEnv → Store → Prop) → Prop) : TG := fun v σ H Q => ∃ env S β d, Sim K ca R env S β σ H ∧ RD K ca H β d v ∧
  w d env S fun env' S' => ∀ β' σ' H', Sim K ca R env' S' β' σ' H' → Gr K β H β' H' → σ'.length = σ.length → (∀ i, ¬ P i → σ'[i]? = σ[i]?) → Q σ' H'
def LGs (K : PySem.W.Frag) (ca : Nat → Addr) (R : Root) (P : Nat → Prop) (w : List D → DEnv → Store → (DEnv → Store → Prop) → Prop) : TGs := fun vs σ H Q => ∃ env S β ds, Sim K ca R env S β σ H ∧ RDs K ca H β ds vs ∧
  w ds env S fun env' S' => ∀ β' σ' H', Sim K ca R env' S' β' σ' H' → Gr K β H β' H' → σ'.length = σ.length → (∀ i, ¬ P i → σ'[i]? = σ[i]?) → Q σ' H'
mutual
/-- the slots that a target stores -/
def inT (P : Nat → Prop) : DT → Prop
  | .nm i => P i
  | .tp ts => inTs P ts
  | .sub _ _ => True
def inTs (P : Nat → Prop) : DTs → Prop
  | .nil => True
  | .cons t ts => inT P t ∧ inTs P ts
end
mutual
theorem inT_true : ∀ t, inT (fun _ => True) t
  | .nm i => trivial
  | .tp ts => inTs_true ts
  | .sub _ _ => trivial
theorem inTs_true : ∀ ts, inTs (fun _ => True) ts
  | .nil => trivial
  | .cons t ts => ⟨inT_true t, inTs_true ts⟩
end
theorem wpT_m (C : SC) (t : DT) (d : D) (env : DEnv) (S : Store) (K K' : DEnv → Store → Prop) (h : ∀ e S, K e S → K' e S) (q : wpT C t d env S K) : wpT C t d env S K' := wpT_mono C C.xq (fun _ _ _ z => z) t d env S K K' h q
theorem wpTs_m (C : SC) (t : DTs) (d : List D) (env : DEnv) (S : Store) (K K' : DEnv → Store → Prop) (h : ∀ e S, K e S → K' e S) (q : wpTs C t d env S K) : wpTs C t d env S K' := wpTs_mono C C.xq (fun _ _ _ z => z) t d env S K K' h q
theorem wpE_m (C : SC) (t : DE) (env : DEnv) (S : Store) (K K' : DQ) (h : ∀ e S, K e S → K' e S) (q : wpE C t env S K) : wpE C t env S K' := wpE_mono C C.xq (fun _ _ _ z => z) t env S K K' h q
theorem wpO_m (C : SC) (t : DO) (env : DEnv) (S : Store) (K K' : Option D → Store → Prop) (h : ∀ e S, K e S → K' e S) (q : wpO C t env S K) : wpO C t env S K' := wpO_mono C C.xq (fun _ _ _ z => z) t env S K K' h q
theorem wpEs_m (C : SC) (t : DEs) (env : DEnv) (S : Store) (K K' : List D → Store → Prop) (h : ∀ e S, K e S → K' e S) (q : wpEs C t env S K) : wpEs C t env S K' := wpEs_mono C C.xq (fun _ _ _ z => z) t env S K K' h q
theorem wpI_m (C : SC) (t : DI) (env : DEnv) (S : Store) (K K' : Src → List D → Store → Prop) (h : ∀ s e S, K s e S → K' s e S) (q : wpI C t env S K) : wpI C t env S K' := wpI_mono C C.xq (fun _ _ _ z => z) t env S K K' h q
theorem assignEach_len (env : Env) : ∀ (es : List Expr), (assignEach es env).length = es.length
  | [] => rfl
  | e :: r => by
    cases e <;> (unfold assignEach; rw [List.length_cons, List.length_cons, assignEach_len env r])
theorem assignEach_cons {env : Env} {e : Expr} {es : List Expr} (h : plainE e = true) : assignEach (e :: es) env = (false, assign e env) :: assignEach es env := by
  cases e <;> first
    | rfl
    | cases h
theorem starEach_cons {env : Env} {e : Expr} {es : List Expr} (h : plainE e = true) : starEach (e :: es) env = (false, eval e env) :: starEach es env := by
  cases e <;> first
    | rfl
    | cases h
theorem compGs_plain {f : Expr → Option DT} {env : Env} : ∀ {es : List Expr} {ts : DTs}, compGs f es = some ts → (assignEach es env).findIdx? (·.1) = none
  | [], _, _ => rfl
  | e :: es, ts, h => by
    unfold compGs at h
    split at h
    · rename_i hp
      split at h
      · rename_i x xs e1 e2
        rw [assignEach_cons hp]
        have ih := compGs_plain (env := env) e2
        rw [List.findIdx?_cons]
        simp [ih]
      · cases h
    · cases h
theorem compGs_len {f : Expr → Option DT} : ∀ {es : List Expr} {ts : DTs}, compGs f es = some ts → ts.len = es.length
  | [], ts, h => by cases h; rfl
  | e :: es, ts, h => by
    unfold compGs at h
    split at h
    · split at h
      · rename_i x xs e1 e2
        cases h
        rw [List.length_cons, ← compGs_len e2]
        rfl
      · cases h
    · cases h
theorem PGs.imp {X : Cx} {e : List Expr} {t t' : TGs} (h : PGs X e t) (w : ∀ v σ H Q, t' v σ H Q → t v σ H Q) : PGs X e t' := ⟨fun pins s σ H v u Q I r q => h.run pins s σ H v u Q I r (w _ _ _ _ q)⟩
theorem sNs {P : Nat → Prop} {f : Expr → Option DT} (hf : ∀ e t, f e = some t → inT P t → PG X e (LG X.K ca R P (wpT C t))) : ∀ (es : List Expr) (ts : DTs), compGs f es = some ts → inTs P ts → PGs X es (LGs X.K ca R P (wpTs C ts))
  | [], ts, h, _ => by
    cases h
    refine PGs.imp pgs_nil fun vs σ H Q q => ?_
    obtain ⟨env, S, β, ds, s, r, q⟩ := q
    cases ds with
    | nil =>
      cases r
      unfold wpTs at q
      exact ⟨rfl, q _ _ _ s Gr.refl rfl fun _ _ => rfl⟩
    | cons d ds => unfold wpTs at q; exact q.elim
  | e :: es, ts, h, hp2 => by
    unfold compGs at h
    split at h
    · rename_i hp
      split at h
      · rename_i x xs e1 e2
        cases h
        refine PGs.imp (pgs_cons (hf _ _ e1 hp2.1) (sNs hf es _ e2 hp2.2) (by rw [assignEach_cons hp]; rfl)) fun vs σ H Q q => ?_
        obtain ⟨env, S, β, ds, s, r, q⟩ := q
        cases ds with
        | nil => unfold wpTs at q; exact q.elim
        | cons d ds =>
          cases r with
          | cons r1 r2 =>
            unfold wpTs at q
            refine ⟨_, _, rfl, env, S, β, d, s, r1, wpT_m _ _ _ _ _ _ _ (fun env1 S1 q β1 σ1 H1 s1 g1 l1 k1 => ?_) q⟩
            exact ⟨env1, S1, β1, ds, s1, r2.grow g1, wpTs_m _ _ _ _ _ _ _ (fun e2 S2 q β2 σ2 H2 s2 g2 l2 k2 => q _ _ _ s2 (g1.trans g2) (l2.trans l1) fun i hi => (k2 i hi).trans (k1 i hi)) q⟩
      · cases h
    · cases h
theorem sN {P : Nat → Prop} (o : XOk ca R X c C) : ∀ (n : Nat) (e : Expr) (t : DT), compN n c e = some t → inT P t → PG X e (LG X.K ca R P (wpT C t))
  | 0, e, t, h, _ => by cases h
  | n + 1, e, t, h, hp => by
    unfold compN at h
    split at h
    · split at h
      · rename_i hk
        split at h
        · cases h
        · rename_i hne
          obtain ⟨i, hi, rfl⟩ := Option.map_eq_some_iff.mp h
          have hi' := ixOf_at hi
          obtain ⟨h1, h2⟩ := o.wr hk
          refine PG.imp (pg_name (by rw [o.N]; exact o.nd) (by rw [o.N]; exact hi') h1 h2) fun v σ H Q q => ?_
          obtain ⟨env, S, β, d, s, r, q⟩ := q
          unfold wpT at q
          refine q _ _ _ (s.set r (o.noex hi' (by simpa using hne))) Gr.refl (List.length_set ..) fun j hj => List.getElem?_set_ne ?_
          rintro rfl
          exact hj hp
      · cases h
    · split at h
      · rename_i hc
        obtain ⟨ts, hts, rfl⟩ := Option.map_eq_some_iff.mp h
        have hg := sNs (X := X) (ca := ca) (R := R) (C := C) (fun e t => sN (P := P) o n e t) _ _ hts hp
        have hl := compGs_len hts
        refine PG.imp (PG.or (pg_tup (o.calm hc) hg rfl (compGs_plain hts)) (pg_lst (o.calm hc) hg rfl (compGs_plain hts))) fun v σ H Q q => ?_
        obtain ⟨env, S, β, d, s, r, q⟩ := q
        unfold wpT at q
        obtain ⟨xs, e, hlen, q⟩ := onO_some q
        obtain ⟨a, vs, rfl, hq, hr⟩ := seq_of s.h e r
        have hl2 : ∀ es : List Expr, ts.len = es.length → vs.length = (assignEach es X.env).length := fun es h => by rw [assignEach_len, ← h, ← hlen, hr.length]
        rcases hq with hq | hq
        · exact .inr ⟨a, vs, rfl, hq, hl2 _ hl, env, S, β, xs, s, hr, q⟩
        · exact .inl ⟨a, vs, rfl, hq, hl2 _ hl, env, S, β, xs, s, hr, q⟩
      · cases h
    · cases h
end
end PD

set_option Elab.async false
set_option linter.all false
set_option maxRecDepth 100000
set_option maxHeartbeats 4000000
namespace PD
open PySem PySem.Spec PyProof.Rows L2
theorem opB_inv {p : Operator} {o : BO} (h : opB p = some o) : p = boP o := by
  cases p <;> cases h <;> rfl
theorem opC_inv (o : CmpOp) : coP (opC o) = o := by cases o <;> rfl
theorem noIf_down : ∀ (n : Nat) (e : Expr), noIf (n + 1) e = true → noIf n e = true
  | 0, e, h => by unfold noIf; rfl
  | n + 1, e, h => by
    cases e with
    | IfExp a b c p => cases h
    | UnaryOp op a p =>
      cases op with
      | Not => exact noIf_down n a h
      | _ => rfl
    | BoolOp op es p => exact List.all_eq_true.mpr fun x hx => noIf_down n x (List.all_eq_true.mp h x hx)
    | _ => rfl
section
variable {ca : Nat → Addr} {R : Root} {X : Cx} {c : Ctx} {C : SC} {a b e : Expr} {da db dc : DE} {pos : Pos}
theorem e_bin {o : BO} (ha : PE X a (LE X.K ca R (wpE C da))) (hb : PE X b (LE X.K ca R (wpE C db))) : PE X (.BinOp a (boP o) b pos) (LE X.K ca R (wpE C (.bin o da db))) := by
  refine PE.imp (pe_op (op_bin (ca := ca) o) ha hb) fun σ H Q ⟨env, S, β, s, h⟩ => ?_
  unfold wpE at h
  refine ⟨env, S, β, s, wpE_m _ _ _ _ _ _ (fun x S1 h β1 v H1 s1 g1 r1 => ?_) h⟩
  refine ⟨env, S1, β1, s.grow s1 g1, wpE_m _ _ _ _ _ _ (fun y S2 h β2 u H2 s2 g2 r2 => ?_) h⟩
  exact ⟨S2, β2, x, y, s2, r1.grow g2, r2, wpBin_mono (fun _ _ z => z.step (g1.trans g2)) h⟩
theorem e_cmp (hu : X.A.units + 65 < cLine) {o : CmpOp} (ha : PE X a (LE X.K ca R (wpE C da))) (hb : PE X b (LE X.K ca R (wpE C db))) (hm : behindInMarks o b = false) : PE X (.Compare a [o] [b] pos) (LE X.K ca R (wpE C (.cmp (opC o) da db))) := by
  have ho : OpR X (compareOp o) (rCmp X.K ca (opC o)) := by
    have := op_cmp (X := X) (ca := ca) hu (opC o)
    rw [opC_inv] at this
    exact this
  refine PE.imp (pe_cmpR ho ha hb hm) fun σ H Q ⟨env, S, β, s, h⟩ => ?_
  unfold wpE at h
  refine ⟨env, S, β, s, wpE_m _ _ _ _ _ _ (fun x S1 h β1 v H1 s1 g1 r1 => ?_) h⟩
  refine ⟨env, S1, β1, s.grow s1 g1, wpE_m _ _ _ _ _ _ (fun y S2 h β2 u H2 s2 g2 r2 => ?_) h⟩
  obtain ⟨k, hk, q⟩ := onO_some h
  exact ⟨S2, β2, x, y, k, s2, r1.grow g2, r2, hk, (q.step (g1.trans g2)).now s2 (.bl k)⟩
theorem t_cmp (hu : X.A.units + 65 < cLine) {o : CmpOp} (ha : PE X a (LE X.K ca R (wpE C da))) (hb : PE X b (LE X.K ca R (wpE C db))) (hm : behindInMarks o b = false) : PT X (.Compare a [o] [b] pos) (LT X.K ca R (wpE C (.cmp (opC o) da db))) := by
  have ho : OpR X (compareOp o) (rCmp X.K ca (opC o)) := by
    have := op_cmp (X := X) (ca := ca) hu (opC o)
    rw [opC_inv] at this
    exact this
  refine PT.imp (pt_cmpR ho ha hb hm) fun σ H Q ⟨env, S, β, s, h⟩ => ?_
  unfold wpE at h
  refine ⟨env, S, β, s, wpE_m _ _ _ _ _ _ (fun x S1 h β1 v H1 s1 g1 r1 => ?_) h⟩
  refine ⟨env, S1, β1, s.grow s1 g1, wpE_m _ _ _ _ _ _ (fun y S2 h β2 u H2 s2 g2 r2 => ?_) h⟩
  obtain ⟨k, hk, q⟩ := onO_some h
  exact ⟨S2, β2, x, y, k, s2, r1.grow g2, r2, hk, k, rfl, q β2 H2 s2 (g1.trans g2)⟩
theorem e_chn (hu : X.A.units + 65 < cLine) {o p : CmpOp} {e : Expr} (ha : PE X a (LE X.K ca R (wpE C da))) (hb : PE X b (LE X.K ca R (wpE C db))) (hc : PE X e (LE X.K ca R (wpE C dc))) (hm : lastMarks [o, p] [b, e] = false) :
    PE X (.Compare a [o, p] [b, e] pos) (LE X.K ca R (wpE C (.chn (opC o) (opC p) da db dc))) := by
  have ho : ∀ o, OpR X (compareOp o) (rCmp X.K ca (opC o)) := fun o => by
    have := op_cmp (X := X) (ca := ca) hu (opC o)
    rw [opC_inv] at this
    exact this
  refine PE.imp (pe_chain (ho o) (ho p) ha hb hc hm) fun σ H Q ⟨env, S, β, s, h⟩ => ?_
  unfold wpE at h
  refine ⟨env, S, β, s, wpE_m _ _ _ _ _ _ (fun x S1 h β1 v H1 s1 g1 r1 => ?_) h⟩
  refine ⟨env, S1, β1, s.grow s1 g1, wpE_m _ _ _ _ _ _ (fun y S2 h β2 u H2 s2 g2 r2 => ?_) h⟩
  obtain ⟨k, hk, q⟩ := onO_some h
  refine ⟨S2, β2, x, y, k, s2, r1.grow g2, r2, hk, k, rfl, ?_⟩
  by_cases hk : k = true
  · rw [if_pos hk] at q ⊢
    refine ⟨env, S2, β2, (s.grow s1 g1).grow s2 g2, wpE_m _ _ _ _ _ _ (fun z S3 h β3 w H3 s3 g3 r3 => ?_) q⟩
    obtain ⟨l, hl, q⟩ := onO_some h
    exact ⟨S3, β3, y, z, l, s3, r2.grow g3, r3, hl, (q.step ((g1.trans g2).trans g3)).now s3 (.bl l)⟩
  · rw [if_neg hk] at q ⊢
    exact (q.step (g1.trans g2)).now s2 (.bl false)
theorem t_chn (hu : X.A.units + 65 < cLine) {o p : CmpOp} {e : Expr} (ha : PE X a (LE X.K ca R (wpE C da))) (hb : PE X b (LE X.K ca R (wpE C db))) (hc : PE X e (LE X.K ca R (wpE C dc))) (hm : lastMarks [o, p] [b, e] = false) :
    PT X (.Compare a [o, p] [b, e] pos) (LT X.K ca R (wpE C (.chn (opC o) (opC p) da db dc))) := by
  have ho : ∀ o, OpR X (compareOp o) (rCmp X.K ca (opC o)) := fun o => by
    have := op_cmp (X := X) (ca := ca) hu (opC o)
    rw [opC_inv] at this
    exact this
  refine PT.imp (pt_chain (ho o) (ho p) ha hb hc hm) fun σ H Q ⟨env, S, β, s, h⟩ => ?_
  unfold wpE at h
  refine ⟨env, S, β, s, wpE_m _ _ _ _ _ _ (fun x S1 h β1 v H1 s1 g1 r1 => ?_) h⟩
  refine ⟨env, S1, β1, s.grow s1 g1, wpE_m _ _ _ _ _ _ (fun y S2 h β2 u H2 s2 g2 r2 => ?_) h⟩
  obtain ⟨k, hk, q⟩ := onO_some h
  refine ⟨S2, β2, x, y, k, s2, r1.grow g2, r2, hk, k, rfl, ?_⟩
  by_cases hk : k = true
  · rw [if_pos hk] at q ⊢
    refine ⟨env, S2, β2, (s.grow s1 g1).grow s2 g2, wpE_m _ _ _ _ _ _ (fun z S3 h β3 w H3 s3 g3 r3 => ?_) q⟩
    obtain ⟨l, hl, q⟩ := onO_some h
    exact ⟨S3, β3, y, z, l, s3, r2.grow g3, r3, hl, l, rfl, q β3 H3 s3 ((g1.trans g2).trans g3)⟩
  · rw [if_neg hk] at q ⊢
    exact ⟨false, rfl, q β2 H2 s2 (g1.trans g2)⟩
theorem e_neg (ha : PE X a (LE X.K ca R (wpE C da))) : PE X (.UnaryOp .USub a pos) (LE X.K ca R (wpE C (.neg da))) := by
  refine PE.imp (pe_un un_neg ha) fun σ H Q ⟨env, S, β, s, h⟩ => ?_
  unfold wpE at h
  refine ⟨env, S, β, s, wpE_m _ _ _ _ _ _ (fun x S1 h β1 v H1 s1 g1 r1 => ?_) h⟩
  split at h
  · cases r1
    exact ⟨_, rfl, (h.step g1).now s1 (.int _)⟩
  · exact h.elim
theorem e_not (ha : PE X a (LE X.K ca R (wpE C da))) : PE X (.UnaryOp .Not a pos) (LE X.K ca R (wpE C (.not da))) := by
  refine PE.imp (pe_notT ha) fun σ H Q ⟨env, S, β, s, h⟩ => ?_
  unfold wpE at h
  refine ⟨env, S, β, s, wpE_m _ _ _ _ _ _ (fun x S1 h β1 v H1 s1 g1 r1 => ?_) h⟩
  obtain ⟨k, hk, q⟩ := onO_some h
  exact ⟨k, truth_v s1 hk r1, (q.step g1).now s1 (.bl _)⟩
theorem t_not (ha : PT X a (LT X.K ca R (wpE C da))) : PT X (.UnaryOp .Not a pos) (LT X.K ca R (wpE C (.not da))) := by
  refine PT.imp (pt_not ha) fun σ H Q ⟨env, S, β, s, h⟩ => ?_
  unfold wpE at h
  refine ⟨env, S, β, s, wpE_m _ _ _ _ _ _ (fun x S1 h => ?_) h⟩
  unfold HB
  exact onO_mono (fun k q => q) h
theorem e_and {r : List Expr} (ha : PE X a (LE X.K ca R (wpE C da))) (hb : PE X (.BoolOp .And (b :: r) pos) (LE X.K ca R (wpE C db))) : PE X (.BoolOp .And (a :: b :: r) pos) (LE X.K ca R (wpE C (.and da db))) := by
  refine PE.imp (pe_andT ha hb) fun σ H Q ⟨env, S, β, s, h⟩ => ?_
  unfold wpE at h
  refine ⟨env, S, β, s, wpE_m _ _ _ _ _ _ (fun x S1 h β1 v H1 s1 g1 r1 => ?_) h⟩
  obtain ⟨k, hk, q⟩ := onO_some h
  refine ⟨k, truth_v s1 hk r1, ?_⟩
  by_cases hk : k = true
  · rw [if_pos hk] at q ⊢
    exact ⟨env, S1, β1, s.grow s1 g1, wpE_m _ _ _ _ _ _ (fun y S2 h => h.step g1) q⟩
  · rw [if_neg hk] at q ⊢
    exact (q.step g1).now s1 r1
theorem e_or {r : List Expr} (ha : PE X a (LE X.K ca R (wpE C da))) (hb : PE X (.BoolOp .Or (b :: r) pos) (LE X.K ca R (wpE C db))) : PE X (.BoolOp .Or (a :: b :: r) pos) (LE X.K ca R (wpE C (.or da db))) := by
  refine PE.imp (pe_orT ha hb) fun σ H Q ⟨env, S, β, s, h⟩ => ?_
  unfold wpE at h
  refine ⟨env, S, β, s, wpE_m _ _ _ _ _ _ (fun x S1 h β1 v H1 s1 g1 r1 => ?_) h⟩
  obtain ⟨k, hk, q⟩ := onO_some h
  refine ⟨k, truth_v s1 hk r1, ?_⟩
  by_cases hk : k = true
  · rw [if_pos hk] at q ⊢
    exact (q.step g1).now s1 r1
  · rw [if_neg hk] at q ⊢
    exact ⟨env, S1, β1, s.grow s1 g1, wpE_m _ _ _ _ _ _ (fun y S2 h => h.step g1) q⟩
theorem w_and {r : List Expr} (ha : PT X a (LT X.K ca R (wpE C da))) (hb : PW X (.BoolOp .And (b :: r) pos) (LT X.K ca R (wpE C db))) : PW X (.BoolOp .And (a :: b :: r) pos) (LT X.K ca R (wpE C (.and da db))) := by
  refine PW.imp (pw_and ha hb) fun σ H Q ⟨env, S, β, s, h⟩ => ?_
  unfold wpE at h
  refine ⟨env, S, β, s, wpE_m _ _ _ _ _ _ (fun x S1 h => ?_) h⟩
  obtain ⟨k, hk, q⟩ := onO_some h
  unfold HB
  rw [hk]
  intro β1 H1 s1 g1
  cases k with
  | true =>
    rw [if_pos rfl] at q
    rw [if_pos rfl]
    exact ⟨env, S1, β1, s.grow s1 g1, wpE_m _ _ _ _ _ _ (fun y S2 h => h.step g1) q⟩
  | false =>
    rw [if_neg (by decide)] at q
    rw [if_neg (by decide)]
    unfold HB at q
    rw [hk] at q
    exact q β1 H1 s1 g1
theorem w_or {r : List Expr} (ha : PT X a (LT X.K ca R (wpE C da))) (hb : PW X (.BoolOp .Or (b :: r) pos) (LT X.K ca R (wpE C db))) : PW X (.BoolOp .Or (a :: b :: r) pos) (LT X.K ca R (wpE C (.or da db))) := by
  refine PW.imp (pw_or ha hb) fun σ H Q ⟨env, S, β, s, h⟩ => ?_
  unfold wpE at h
  refine ⟨env, S, β, s, wpE_m _ _ _ _ _ _ (fun x S1 h => ?_) h⟩
  obtain ⟨k, hk, q⟩ := onO_some h
  unfold HB
  rw [hk]
  intro β1 H1 s1 g1
  cases k with
  | true =>
    rw [if_pos rfl] at q
    rw [if_pos rfl]
    unfold HB at q
    rw [hk] at q
    exact q β1 H1 s1 g1
  | false =>
    rw [if_neg (by decide)] at q
    rw [if_neg (by decide)]
    exact ⟨env, S1, β1, s.grow s1 g1, wpE_m _ _ _ _ _ _ (fun y S2 h => h.step g1) q⟩
theorem e_ife {t : Expr} (ht : PT X t (LT X.K ca R (wpE C dc))) (ha : PE X a (LE X.K ca R (wpE C da))) (hb : PE X b (LE X.K ca R (wpE C db))) : PE X (.IfExp t a b pos) (LE X.K ca R (wpE C (.ife dc da db))) := by
  refine PE.imp (pe_ifExp ht ha hb) fun σ H Q ⟨env, S, β, s, h⟩ => ?_
  unfold wpE at h
  refine ⟨env, S, β, s, wpE_m _ _ _ _ _ _ (fun x S1 h => ?_) h⟩
  unfold HB
  refine onO_mono (fun k q β1 H1 s1 g1 => ?_) h
  by_cases hk : k = true
  · rw [if_pos hk] at q ⊢
    exact ⟨env, S1, β1, s.grow s1 g1, wpE_m _ _ _ _ _ _ (fun y S2 h => h.step g1) q⟩
  · rw [if_neg hk] at q ⊢
    exact ⟨env, S1, β1, s.grow s1 g1, wpE_m _ _ _ _ _ _ (fun y S2 h => h.step g1) q⟩
/-- a value's truth -/
theorem t_of (he : PE X e (LE X.K ca R (wpE C da))) (hw : ∀ whole, isTrue e X.env whole = (do let v ← whole; standAt e.pos; holding [v] (truthy v))) : PT X e (LT X.K ca R (wpE C da)) := by
  refine PT.imp (pt_truth he hw) fun σ H Q ⟨env, S, β, s, h⟩ => ?_
  refine ⟨env, S, β, s, wpE_m _ _ _ _ _ _ (fun x S1 h β1 v H1 s1 g1 r1 => ?_) h⟩
  obtain ⟨k, hk, q⟩ := onO_some h
  exact ⟨k, truth_v s1 hk r1, q β1 H1 s1 g1⟩
/-! ### lists of arguments -/
theorem sL {f : Expr → Option DE} (hf : ∀ e de, f e = some de → PE X e (LE X.K ca R (wpE C de))) : ∀ (es : List Expr) (ds : DEs), compL f es = some ds → PA X es (LA X.K ca R (wpEs C ds))
  | [], ds, h => by
    cases h
    refine PA.imp pa_nil fun σ H Q ⟨env, S, β, s, h⟩ => ?_
    unfold wpEs at h
    exact h β [] H s.h Gr.refl .nil
  | e :: es, ds, h => by
    unfold compL at h
    split at h
    · rename_i hp
      split at h
      · rename_i x xs e1 e2
        cases h
        refine PA.imp (pa_cons (hf _ _ e1) (sL hf es _ e2) (starEach_cons hp)) fun σ H Q ⟨env, S, β, s, h⟩ => ?_
        unfold wpEs at h
        refine ⟨env, S, β, s, wpE_m _ _ _ _ _ _ (fun d S1 h β1 v H1 s1 g1 r1 => ?_) h⟩
        refine ⟨env, S1, β1, s.grow s1 g1, wpEs_m _ _ _ _ _ _ (fun ds S2 h β2 vs H2 s2 g2 r2 => ?_) h⟩
        exact h β2 (v :: vs) H2 s2 (g1.trans g2) (.cons (r1.grow g2) r2)
      · cases h
    · cases h
theorem compL_any {f : Expr → Option DE} {env : Env} : ∀ {es : List Expr} {ds : DEs}, compL f es = some ds → (backTo pos (starEach es env)).any (·.1) = false
  | [], ds, h => rfl
  | e :: es, ds, h => by
    unfold compL at h
    split at h
    · rename_i hp
      split at h
      · rename_i x xs e1 e2
        rw [starEach_cons hp]
        exact compL_any e2
      · cases h
    · cases h
theorem compL_cons {f : Expr → Option DE} {e : Expr} {es : List Expr} {ds : DEs} (h : compL f (e :: es) = some ds) : plainE e = true ∧ ∃ d r, ds = .cons d r ∧ f e = some d ∧ compL f es = some r := by
  unfold compL at h
  split at h
  · rename_i hp
    split at h
    · rename_i x xs e1 e2
      cases h
      exact ⟨hp, x, xs, rfl, e1, e2⟩
    · cases h
  · cases h
theorem e_tup {es : List Expr} {ds : DEs} {k : Nat} (ha : PA X es (LA X.K ca R (wpEs C ds))) : PE X (.Tuple es k pos) (LE X.K ca R (wpE C (.tup ds))) := by
  refine PE.imp (pe_tup ha) fun σ H Q ⟨env, S, β, s, h⟩ => ?_
  unfold wpE at h
  refine ⟨env, S, β, s, wpEs_m _ _ _ _ _ _ (fun ds S1 h β1 vs H1 s1 g1 r1 => ?_) h⟩
  exact ⟨by rw [← r1.length]; exact h.1, (h.2.step g1).newT s1 r1⟩
theorem e_lst {es : List Expr} {ds : DEs} (ha : PA X es (LA X.K ca R (wpEs C ds))) : PE X (.List es pos) (LE X.K ca R (wpE C (.lst ds))) := by
  refine PE.imp (pe_lst ha) fun σ H Q ⟨env, S, β, s, h⟩ => ?_
  unfold wpE at h
  refine ⟨env, S, β, s, wpEs_m _ _ _ _ _ _ (fun ds S1 h β1 vs H1 s1 g1 r1 => ?_) h⟩
  exact ⟨by rw [← r1.length]; exact h.1, (h.2.step g1).new s1 r1⟩
theorem e_ix (ha : PE X a (LE X.K ca R (wpE C da))) (hb : PE X b (LE X.K ca R (wpE C db))) (hs : noSlice b = true) : PE X (.Subscript a b pos) (LE X.K ca R (wpE C (.ix da db))) := by
  refine PE.imp (pe_ix (ix_d (ca := ca)) ha hb (fun o i => by cases b <;> first | rfl | cases hs)) fun σ H Q ⟨env, S, β, s, h⟩ => ?_
  unfold wpE at h
  refine ⟨env, S, β, s, wpE_m _ _ _ _ _ _ (fun x S1 h β1 v H1 s1 g1 r1 => ?_) h⟩
  refine ⟨env, S1, β1, s.grow s1 g1, wpE_m _ _ _ _ _ _ (fun y S2 h β2 u H2 s2 g2 r2 => ?_) h⟩
  obtain ⟨d, hd, q⟩ := onO_some h
  exact ⟨S2, β2, x, y, d, s2, r1.grow g2, r2, hd, q.step (g1.trans g2)⟩
/-! ### slices -/
def LO (K : PySem.W.Frag) (ca : Nat → Addr) (R : Root) (w : DEnv → Store → (Option D → Store → Prop) → Prop) : TO := fun σ H Q => ∃ env S β, Sim K ca R env S β σ H ∧
  w env S fun o S' => onO (partD o) fun oi => ∀ β' H', HSim K ca S' β' H' → Gr K β H β' H' → Q oi H'
theorem PO.imp {X : Cx} {e : Option Expr} {t t' : TO} (h : PO X e t) (w : ∀ σ H Q, t' σ H Q → t σ H Q) : PO X e t' := ⟨fun pins s σ H Q I q => h.run pins s σ H Q I (w _ _ _ q)⟩
theorem sO {f : Expr → Option DE} (hf : ∀ e de, f e = some de → PE X e (LE X.K ca R (wpE C de))) {o : Option Expr} {d : DO} (h : compO f o = some d) : PO X o (LO X.K ca R (wpO C d)) := by
  cases o with
  | none =>
    cases h
    refine PO.imp po_none fun σ H Q ⟨env, S, β, s, h⟩ => ?_
    unfold wpO at h
    exact h β H s.h Gr.refl
  | some e =>
    obtain ⟨x, hx, rfl⟩ := Option.map_eq_some_iff.mp h
    refine PO.imp (po_some (hf _ _ hx)) fun σ H Q ⟨env, S, β, s, h⟩ => ?_
    unfold wpO at h
    refine ⟨env, S, β, s, wpE_m _ _ _ _ _ _ (fun x S1 h β1 v H1 s1 g1 r1 => ?_) h⟩
    obtain ⟨oi, ho, q⟩ := onO_some h
    unfold partD at ho
    split at ho
    · rename_i heq; cases heq
    · rename_i heq
      cases heq
      cases r1
      cases ho
      exact ⟨_, rfl, q β1 H1 s1 g1⟩
    · cases ho
theorem e_sl {lo hi : Option Expr} {dl dh : DO} {p2 : Pos} (ha : PE X a (LE X.K ca R (wpE C da))) (hl : PO X lo (LO X.K ca R (wpO C dl))) (hh : PO X hi (LO X.K ca R (wpO C dh))) : PE X (.Subscript a (.Slice lo hi none p2) pos) (LE X.K ca R (wpE C (.sl da dl dh))) := by
  refine PE.imp (pe_slice (sl_d (ca := ca)) ha hl hh) fun σ H Q ⟨env, S, β, s, h⟩ => ?_
  unfold wpE at h
  refine ⟨env, S, β, s, wpE_m _ _ _ _ _ _ (fun x S1 h β1 v H1 s1 g1 r1 => ?_) h⟩
  refine ⟨env, S1, β1, s.grow s1 g1, wpO_m _ _ _ _ _ _ (fun l S2 h => onO_mono (fun l h β2 H2 s2 g2 => ?_) h) h⟩
  refine ⟨env, S2, β2, (s.grow s1 g1).grow s2 g2, wpO_m _ _ _ _ _ _ (fun u S3 h => onO_mono (fun u h β3 H3 s3 g3 => ?_) h) h⟩
  have g := (g1.trans g2).trans g3
  refine ⟨S3, β3, x, s3, r1.grow (g2.trans g3), ?_⟩
  unfold wpSl at h
  split at h
  · exact h.step g
  · exact h.step g
  · exact onO_mono (fun _ z => z.step g) h
  · exact h.elim
end
end PD

set_option Elab.async false
set_option linter.all false
set_option maxRecDepth 100000
set_option maxHeartbeats 4000000
namespace PD
open PySem PySem.Spec PyProof.Rows L2
section
variable {ca : Nat → Addr} {R : Root} {X : Cx} {c : Ctx} {C : SC} {pos : Pos}
/-! ### names, constants -/
theorem e_var (o : XOk ca R X c C) {x : Str} {i : Nat} (h : slotOf c x = some i) (h1 : (x == ("__debug__" : Str)) = false) (h2 : (x == ("__classdict__" : Str)) = false) : PE X (.Name x pos) (LE X.K ca R (wpE C (.var i))) := by
  obtain ⟨a, b⟩ := o.slot h
  refine PE.imp (pe_var a b h1 h2) fun σ H Q ⟨env, S, β, s, h⟩ => ?_
  unfold wpE at h
  split at h
  · rename_i d e
    obtain ⟨v, hv, r⟩ := s.ev i d e
    exact ⟨v, hv, h.now s.h r⟩
  · exact h.elim
theorem e_cst {e : Expr} {d : D} {v : V} (h : PE X e (tC v)) (r : ∀ H β, RD X.K ca H β d v) : PE X e (LE X.K ca R (wpE C (.cst d))) := by
  refine PE.imp h fun σ H Q ⟨env, S, β, s, h⟩ => ?_
  unfold wpE at h
  exact h.now s.h (r H β)
/-! ### calls -/
theorem run_fnRS {CX : CXT} {k : Nat} {f : Addr} {sp : Sp} {E : XK} {pins : List (Addr × Obj)} {σ : L2.St} {H : Hp} {s : Shared} {Q : VK} {us : List Value} {vs : List V} (F : FnR X.prog X.w X.K X.mg X.base CX k f sp) (hr : Room k X.A) (hx : PassesAt CX X σ E) (I : Inv X pins σ H s) (r : Vals vs us) (h : sp vs H Q E) :
    wpAny (model X.prog X.w) X.A (call (.ref f) us) (EP X pins σ Q) X.xe s := by
  refine wpAny_call (codeAny_mono (F X.A X.stack s H us vs Q E hr I.env0 r h) fun r s' hq => ?_)
  cases r with
  | error e => exact hx pins H s e s' I hq
  | ok fl =>
    cases fl with
    | ret u => exact I.after hq
    | next => exact False.elim hq
    | brk => exact False.elim hq
    | cont => exact False.elim hq
theorem e_call (o : XOk ca R X c C) (hc : c.calm = true) {x : Str} {i : Nat} {f : Expr → Option DE} {es : List Expr} {ds : DEs} {p : Pos} (hg : globOf c x = some (.fn i)) (hl : compL f es = some ds) (ha : PA X es (LA X.K ca R (wpEs C ds))) : PE X (.Call (.Name x p) es [] pos) (LE X.K ca R (wpE C (.call i ds))) := by
  obtain ⟨h1, h2, h3, h4⟩ := o.glob hg
  obtain ⟨a, k, hm, hk, hr, F⟩ := o.fs hc x i h4
  obtain ⟨W, tk, hW⟩ := o.tk
  refine ⟨fun pins s σ H Q I h => ?_⟩
  obtain ⟨env, S, β, sm, h⟩ := h
  unfold wpE at h
  have key : wpEs C ds env S (HL X.K ca β H fun vs H1 => LSp X.K ca (C.sp i) vs H1 Q (WE W σ)) := by
    refine wpEs_m _ _ _ _ _ _ (fun ds S1 h β1 vs H1 s1 g1 r1 => ?_) h
    refine ⟨S1, β1, ds, s1, r1, callC_mono (fun d S' z => z.step g1) (fun er S' z β2 cls d H2 s2 g2 re => ?_) h⟩
    exact hW er env S' β2 σ H2 cls d z ((sm.grow s1 g1).grow s2 g2) re
  refine wpAny_Call_Name_kw (ld_glob I h1 hm ?_ h2)
  cases es with
  | nil =>
    cases hl
    unfold wpEs at key
    exact PySem.W.callWith_K0 I.kIn hk (run_fnRS (us := []) F hr (passAt tk σ) I .nil (key β [] H sm.h Gr.refl .nil))
  | cons e es =>
    obtain ⟨hp, d, r, rfl, e1, e2⟩ := compL_cons hl
    refine PySem.W.callWith_K (h₀ := X.base) I.ok.mod.kin hk (thn (ha.run pos pins s σ H _ I ⟨env, S, β, sm, key⟩) fun us s1 ⟨vs, H1, I1, r, q⟩ => ⟨I1.kIn, ?_⟩) (starEach_cons hp) (compL_any e2)
    exact run_fnRS F hr (passAt tk σ) I1 r q
theorem tyB_v {n : String} {b : BI} (h : tyB n = some b) : biV b = .type n := by
  unfold tyB at h
  split at h
  · rename_i e; cases h; have : n = "int" := by simpa using e
    subst this; rfl
  · split at h
    · rename_i e; cases h; have : n = "bool" := by simpa using e
      subst this; rfl
    · split at h
      · rename_i e; cases h; have : n = "list" := by simpa using e
        subst this; rfl
      · split at h
        · rename_i e; cases h; have : n = "tuple" := by simpa using e
          subst this; rfl
        · split at h
          · rename_i e; cases h; have : n = "str" := by simpa using e
            subst this; rfl
          · cases h
theorem bi_read {b : BI} {ds : DEs} : ∀ σ H Q, LE X.K ca R (wpE C (.bi b ds)) σ H Q → tCB (rBi X.K ca b) (LA X.K ca R (wpEs C ds)) σ H Q := fun σ H Q ⟨env, S, β, s, h⟩ => by
  unfold wpE at h
  refine ⟨env, S, β, s, wpEs_m _ _ _ _ _ _ (fun ds S1 h β1 vs H1 s1 g1 r1 => ?_) h⟩
  exact ⟨S1, β1, ds, s1, r1, wpBi_mono (fun _ _ z => z.step g1) h⟩
theorem e_bi (o : XOk ca R X c C) (hc : c.calm = true) {x : Str} {b : BI} {f : Expr → Option DE} {es : List Expr} {ds : DEs} {p : Pos} (hg : globOf c x = some (.bi b)) (he : es.isEmpty = false) (hl : compL f es = some ds) (ha : PA X es (LA X.K ca R (wpEs C ds))) : PE X (.Call (.Name x p) es [] pos) (LE X.K ca R (wpE C (.bi b ds))) := by
  obtain ⟨h1, h2, h3, h4⟩ := o.glob hg
  have g := o.gl x _ h4
  have cb := call_bi (ca := ca) (o.calm hc) b
  cases es with
  | nil => cases he
  | cons e es =>
    obtain ⟨hp, d, r, rfl, e1, e2⟩ := compL_cons hl
    refine PE.imp ?_ bi_read
    have st := starEach_cons (env := X.env) (es := es) hp
    have an := compL_any (pos := pos) (env := X.env) e2
    cases b with
    | gcd => exact pe_callBfun cb h1 g ha h2 st an
    | int => exact pe_callTy cb h1 g.1 g.2 ha h3 h2 st an
    | bool => exact pe_callTy cb h1 g.1 g.2 ha h3 h2 st an
    | list => exact pe_callTy cb h1 g.1 g.2 ha h3 h2 st an
    | tuple => exact pe_callTy cb h1 g.1 g.2 ha h3 h2 st an
    | str => exact pe_callTy cb h1 g.1 g.2 ha h3 h2 st an
    | abs => exact pe_callB cb h1 g.1 g.2 ha h3 h2 st an
    | len => exact pe_callB cb h1 g.1 g.2 ha h3 h2 st an
    | max => exact pe_callB cb h1 g.1 g.2 ha h3 h2 st an
    | min => exact pe_callB cb h1 g.1 g.2 ha h3 h2 st an
    | sum => exact pe_callB cb h1 g.1 g.2 ha h3 h2 st an
    | any => exact pe_callB cb h1 g.1 g.2 ha h3 h2 st an
    | all => exact pe_callB cb h1 g.1 g.2 ha h3 h2 st an
    | isinstance => exact pe_callB cb h1 g.1 g.2 ha h3 h2 st an
theorem e_ty (o : XOk ca R X c C) (hc : c.calm = true) {x : Str} {n : String} {b : BI} {f : Expr → Option DE} {es : List Expr} {ds : DEs} {p : Pos} (hg : globOf c x = some (.ty n)) (hb : tyB n = some b) (he : es.isEmpty = false) (hl : compL f es = some ds) (ha : PA X es (LA X.K ca R (wpEs C ds))) :
    PE X (.Call (.Name x p) es [] pos) (LE X.K ca R (wpE C (.bi b ds))) := by
  obtain ⟨h1, h2, h3, h4⟩ := o.glob hg
  have g := o.gl x _ h4
  have cb := call_bi (ca := ca) (o.calm hc) b
  rw [tyB_v hb] at cb
  cases es with
  | nil => cases he
  | cons e es =>
    obtain ⟨hp, d, r, rfl, e1, e2⟩ := compL_cons hl
    exact PE.imp (pe_callTy cb h1 g.1 g.2 ha h3 h2 (starEach_cons hp) (compL_any e2)) bi_read
/-! ### methods of lists -/
theorem bm_read {m : BM} {od : DE} {ds : DEs} : ∀ σ H Q, LE X.K ca R (wpE C (.bm m od ds)) σ H Q → tBM X.K "list" (rBm X.K ca m) (LE X.K ca R (wpE C od)) (LA X.K ca R (wpEs C ds)) σ H Q := fun σ H Q ⟨env, S, β, s, h⟩ => by
  unfold wpE at h
  refine ⟨env, S, β, s, wpE_m _ _ _ _ _ _ (fun x S1 h β1 v H1 s1 g1 r1 => ?_) h⟩
  obtain ⟨xs, hx, h⟩ := onO_some h
  unfold lstOf at hx
  split at hx
  · obtain ⟨a, vs, rfl, hl, hr⟩ := seq_lst s1 hx r1
    refine ⟨.inl ⟨rfl, vs, hl⟩, env, S1, β1, s.grow s1 g1, wpEs_m _ _ _ _ _ _ (fun ds S2 h β2 us H2 s2 g2 r2 => ?_) h⟩
    exact ⟨S2, β2, _, ds, s2, r1.grow g2, r2, wpBm_mono (fun _ _ z => z.step (g1.trans g2)) h⟩
  · cases hx
theorem bmOf_inv {m : Str} {b : BM} (h : bmOf m = some b) : m = bmN b := by
  unfold bmOf at h
  split at h
  · rename_i e; cases h; simpa using e
  · split at h
    · rename_i e; cases h; simpa using e
    · split at h
      · rename_i e; cases h; simpa using e
      · cases h
theorem base_of {env : Env} {e : Expr} {m : Str} {whole : Sem Value} (h : noCall0 e = true) : attributeBase e m env whole = whole := by
  cases e <;> first
    | rfl
    | (rename_i f as ks p
       cases as with
       | nil =>
         cases ks with
         | nil => cases h
         | cons _ _ => cases f <;> rfl
       | cons _ _ => cases f <;> rfl)
theorem few_of {f : Expr → Option DE} {env : Env} {es : List Expr} {ds : DEs} (h : compL f es = some ds) (hl : es.length < 20) :
    ((backTo pos (starEach es env)).all (fun x => !x.1) && (backToKw pos (keywordEach [] env)).all (fun x => x.1.isSome) && decide (es.length + ([] : List Keyword).length + (if ([] : List Keyword).isEmpty then 0 else 1) < 30)) = true := by
  have h1 : (backTo pos (starEach es env)).all (fun x => !x.1) = true := by
    have := compL_any (pos := pos) (env := env) h
    rw [List.all_eq_not_any_not]
    simp only [Bool.not_not]
    rw [this]
    rfl
  have h2 : decide (es.length + ([] : List Keyword).length + (if ([] : List Keyword).isEmpty then 0 else 1) < 30) = true := by
    refine decide_eq_true ?_
    show es.length + 0 + 0 < 30
    omega
  rw [h1, h2]
  rfl
theorem e_bm {o : Expr} {m : Str} {b : BM} {f : Expr → Option DE} {es : List Expr} {od : DE} {ds : DEs} {apos : Pos} (hm : bmOf m = some b) (hline : (apos.endLine == pos.line) = true) (hn : noCall0 o = true) (hlen : es.length < 20) (ho : PE X o (LE X.K ca R (wpE C od)))
    (hl : compL f es = some ds) (ha : PA X es (LA X.K ca R (wpEs C ds))) : PE X (.Call (.Attribute o m apos) es [] pos) (LE X.K ca R (wpE C (.bm b od ds))) := by
  have e := bmOf_inv hm
  subst e
  cases es with
  | nil =>
    cases hl
    have rd : ∀ σ H Q, LE X.K ca R (wpE C (.bm b od .nil)) σ H Q → tBM0 X.K "list" (rBm X.K ca b) (LE X.K ca R (wpE C od)) σ H Q := fun σ H Q h => by
      obtain ⟨env, S, β, s, h⟩ := bm_read σ H Q h
      refine ⟨env, S, β, s, wpE_m _ _ _ _ _ _ (fun x S1 h β1 v H1 s1 g1 r1 => ?_) h⟩
      obtain ⟨t, env2, S2, β2, s2, h2⟩ := h β1 v H1 s1 g1 r1
      unfold wpEs at h2
      exact ⟨t, h2 β2 [] H1 s2.h Gr.refl .nil⟩
    cases b with
    | append => exact PE.imp (pe_bm0 PySem.F.plainAttrs_list PySem.F.slot_list_append PySem.F.type_list_append (mt_bm .append) ho (base_of hn) hline) rd
    | extend => exact PE.imp (pe_bm0 PySem.F.plainAttrs_list PySem.F.slot_list_extend PySem.F.type_list_extend (mt_bm .extend) ho (base_of hn) hline) rd
    | pop => exact PE.imp (pe_bm0 PySem.F.plainAttrs_list PySem.F.slot_list_pop PySem.F.type_list_pop (mt_bm .pop) ho (base_of hn) hline) rd
  | cons e es =>
    have hl' := hl
    obtain ⟨hp, d, r, rfl, e1, e2⟩ := compL_cons hl
    have st := starEach_cons (env := X.env) (es := es) hp
    have an := compL_any (pos := pos) (env := X.env) e2
    have fw := few_of (pos := pos) (env := X.env) hl' hlen
    cases b with
    | append => exact PE.imp (pe_bm PySem.F.plainAttrs_list PySem.F.slot_list_append PySem.F.type_list_append (mt_bm .append) ho ha (base_of hn) fw hline st an) bm_read
    | extend => exact PE.imp (pe_bm PySem.F.plainAttrs_list PySem.F.slot_list_extend PySem.F.type_list_extend (mt_bm .extend) ho ha (base_of hn) fw hline st an) bm_read
    | pop => exact PE.imp (pe_bm PySem.F.plainAttrs_list PySem.F.slot_list_pop PySem.F.type_list_pop (mt_bm .pop) ho ha (base_of hn) fw hline st an) bm_read
end
end PD

set_option Elab.async false
set_option linter.all false
set_option maxRecDepth 100000
set_option maxHeartbeats 4000000
namespace PD
open PySem PySem.Spec PyProof.Rows L2
section
variable {ca : Nat → Addr} {R : Root} {X : Cx} {c : Ctx} {C : SC} {pos : Pos}
/-! ### the exception that a suite holds -/
theorem lookup_mem {α : Type} {f : Str} : ∀ {fs : List (Str × α)} {x : α}, fs.lookup f = some x → f ∈ fs.map (·.1)
  | [], _, h => by cases h
  | (g, y) :: r, x, h => by
    rw [List.lookup_cons] at h
    cases e : f == g with
    | true =>
      have : f = g := by simpa using e
      rw [this]
      exact List.mem_cons_self
    | false =>
      rw [e] at h
      exact List.mem_cons_of_mem _ (lookup_mem h)
theorem lookup_none {α : Type} {f : Str} : ∀ {fs : List (Str × α)}, f ∉ fs.map (·.1) → fs.lookup f = none
  | [], _ => rfl
  | (g, y) :: r, h => by
    rw [List.map_cons, List.mem_cons, not_or] at h
    have e : (f == g) = false := by simpa using h.1
    rw [List.lookup_cons, e]
    exact lookup_none h.2
theorem e_efld (o : XOk ca R X c C) {x f : Str} {p : Pos} (h : c.exn = some x) (h1 : (x == ("__debug__" : Str)) = false) (h2 : (x == ("__classdict__" : Str)) = false) : PE X (.Attribute (.Name x p) f pos) (LE X.K ca R (wpE C (.efld f))) := by
  obtain ⟨X0, c0, a, oe, pn, cls, d, er, i, hX, hz, hf, hR, hC, hi, hk, hgl, K⟩ := o.exn x h
  by_cases hm : f ∈ er.fs.map (·.1)
  · have hv : PE X (.Name x p) (tVar i) := pe_var (by rw [o.N]; exact hi) (.inl (by rw [o.sc]; exact hk)) h1 h2
    subst hX
    refine PE.imp (pe_xf K.xf (K.no f hm) hz hf hv) fun σ H Q ⟨env, S, β, s, h⟩ => ?_
    unfold wpE at h
    rw [hC] at h
    obtain ⟨dd, hd, q⟩ := onO_some h
    obtain ⟨g1, g2, g3⟩ := s.ex _ hR
    refine ⟨.ref a, g1 i rfl, rfl, g2, ?_⟩
    rcases g3 with ⟨g3, _⟩ | ⟨da, fv, g4, g5, g6⟩
    · rw [g3] at hm; cases hm
    · obtain ⟨v, hv, rv⟩ := (g6 f).1 dd hd
      exact ⟨da, fv, v, g4, g5, hv, q.now s.h rv⟩
  · refine ⟨fun pins s σ H Q I ⟨env, S, β, sm, h⟩ => ?_⟩
    unfold wpE at h
    rw [hC] at h
    dsimp only at h
    rw [lookup_none hm] at h
    exact h.elim
/-- a value that stands for one alone -/
def OneV (v : V) (u : Value) : Prop := RelV v u ∧ ∀ w, RelV v w → w = u
theorem e_cls (o : XOk ca R X c C) {x : Str} {g : GK} {j : Nat} (hg : globOf c x = some g) (hj : g.cid = some j) : (∀ p : Pos, PE X (.Name x p) (tC (g.vv ca))) ∧ OneV (g.vv ca) (g.cv ca) := by
  obtain ⟨h1, h2, h3, h4⟩ := o.glob hg
  have gx := o.gl x _ h4
  cases g with
  | cls k => exact ⟨fun p => pe_glob h1 gx rfl h2, rfl, fun w r => r⟩
  | exc k fs => exact ⟨fun p => pe_glob h1 gx rfl h2, rfl, fun w r => r⟩
  | xty k n => exact ⟨fun p => pe_bltn h1 gx.1 gx.2 rfl h3 h2, rfl, fun w r => r⟩
  | _ => cases hj
def rIsX (K : PySem.W.Frag) (D a : Addr) (d : Option Addr) : List V → Hp → VK → Prop := fun xs H Q => (d = none ∨ ∃ dd fv, d = some dd ∧ H dd = some (.xd fv)) ∧ ∃ c b, xs = [.ref a, c] ∧ Q (.bl b) H ∧
  ((∃ cv, OneV c cv ∧ PySem.W.kitOne K (.ref D) cv = some b) ∨ ∃ p cs us, c = .ref p ∧ H p = some (.tup cs) ∧ Paired OneV cs us ∧ PySem.W.kitAny K (.ref D) us = some b)
theorem oneV_vals : ∀ {cs : List V} {us ws : List Value}, Paired OneV cs us → Vals cs ws → ws = us
  | [], us, ws, h, r => by cases h; cases r; rfl
  | c :: cs, us, ws, h, r => by
    cases h with
    | cons h1 h2 =>
      cases r with
      | cons r1 r2 => rw [h1.2 _ r1, oneV_vals h2 r2]
theorem call_isX {X : Cx} {a D : Addr} {oe : Obj} {d : Option Addr} {pn : List (Addr × Obj)} (xf : XfC X.K D) (kx : KXC X.K D) (hz : Zc (.ref D) d oe) (hf : ∃ vs, oe.data = .fields vs) : CallR (X.suite a ((a, oe) :: pn)) (.builtin "isinstance") (rIsX X.K D a d) := by
  intro pins s σ H xs us Q I r h
  obtain ⟨hd, c, b, rfl, q, h⟩ := h
  cases r with
  | cons rx rr =>
    cases rr with
    | cons rt rr =>
      cases rr
      cases rx
      obtain ⟨hget, _⟩ := I.pin (a, oe) (List.mem_append.mpr (.inl List.mem_cons_self))
      obtain ⟨vs, hv⟩ := hf
      obtain ⟨od, J⟩ : ∃ od, PySem.W.InstAt s.heap a oe D od := by
        rcases hd with hd | ⟨dd, fv, hd, hfv⟩
        · exact ⟨none, hget, hz.1, by unfold PySem.W.notCls; rw [hv] <;> rfl, by rw [hz.2, hd]; trivial⟩
        · have hx : ObjOk X.prog X.w H s.heap dd (.xd fv) := I.hok dd _ hfv
          obtain ⟨mA, hns, hr⟩ := hx
          obtain ⟨o, es, ep, ho, _⟩ := hns
          exact ⟨some o, hget, hz.1, by unfold PySem.W.notCls; rw [hv] <;> rfl, by rw [hz.2, hd]; exact ho⟩
      have hcl : (PySem.W.clsIn X.K D).isSome = true := by
        obtain ⟨cd, hc, _⟩ := PySem.W.any_some xf.hdC
        rw [hc]
        rfl
      have kit := PySem.W.kitx_exc (x := a) (ox := oe) (od := od) hcl xf.ga xf.gg xf.exC kx.ha kx.hn kx.ht kx.hm
      rcases h with ⟨cv, hcv, e⟩ | ⟨p, cs, us2, rfl, ht, hp, e⟩
      · have ec := hcv.2 _ rt
        subst ec
        exact PySem.W.kia_one kit I.kIn J e (fun z => nomatch z) fun tk => ⟨.bl b, H, I.kept (t' := tk) fun _ _ z => z, rfl, q⟩
      · cases rt
        obtain ⟨its, rv, ⟨o, ho, hcl2, n, hdata⟩, hz2⟩ := I.tuple (.inl (.inl ht))
        have eu := oneV_vals hp rv
        subst eu
        obtain ⟨oc, odi, oda, osl⟩ := o
        dsimp only at hcl2 hdata
        subst hcl2
        subst hdata
        exact PySem.W.kia_tup kit I.kIn J ho e (fun z => nomatch z) fun tk => ⟨.bl b, H, I.kept (t' := tk) fun _ _ z => z, rfl, q⟩
theorem cls_list (o : XOk ca R X c C) {K : PySem.W.Frag} {k : Nat} (hk : ∀ (x : Str) (g : GK) (j : Nat), c.gl.lookup x = some g → g.cid = some j → PySem.W.kitOne K (.ref (ca k)) (g.cv ca) = some (C.sub k j)) :
    ∀ {es : List Expr} {cs : List Nat}, mapO (cid1 c) es = some cs → ∃ (vs : List V) (us : List Value), vs.length = es.length ∧ PA X es (fun σ H Q => Q vs H) ∧ Paired OneV vs us ∧ PySem.W.kitAny K (.ref (ca k)) us = some (cs.any fun j => C.sub k j)
  | [], cs, h => by
    cases h
    exact ⟨[], [], rfl, pa_nil, .nil, rfl⟩
  | e :: es, cs, h => by
    obtain ⟨j, js, rfl, e1, e2⟩ := mapO_cons h
    obtain ⟨vs, us, h0, h1, h2, h3⟩ := cls_list o hk e2
    unfold cid1 at e1
    split at e1
    · obtain ⟨g, hg, hj⟩ := Option.bind_eq_some_iff.mp e1
      obtain ⟨p1, p2⟩ := e_cls o hg hj
      obtain ⟨a1, a2, a3, a4⟩ := o.glob hg
      refine ⟨_, _, by rw [List.length_cons, List.length_cons, h0], PA.imp (pa_cons (p1 _) h1 rfl) fun σ H Q q => q, .cons p2 h2, ?_⟩
      have kk := hk _ g j a4 hj
      rw [List.any_cons]
      refine kitAny_cons kk (fun hb => ?_) (fun hb => ?_)
      · rw [hb, Bool.false_or]
        exact h3
      · rw [hb, Bool.true_or]
    · cases e1
theorem e_eisi (o : XOk ca R X c C) {x y : Str} {z : Expr} {cs : List Nat} {p p2 : Pos} (h : c.exn = some y) (hg : globOf c x = some (.bi .isinstance)) (hz : clsL c z = some cs) (h1 : (y == ("__debug__" : Str)) = false) (h2 : (y == ("__classdict__" : Str)) = false) :
    PE X (.Call (.Name x p) [.Name y p2, z] [] pos) (LE X.K ca R (wpE C (.eisi cs))) := by
  obtain ⟨X0, c0, a, oe, pn, cls, d, er, i, hX, hzc, hf, hR, hC, hi, hk, hgl, K⟩ := o.exn y h
  obtain ⟨g1, g2, g3, g4⟩ := o.glob hg
  have gx := o.gl x _ g4
  have hv : PE X (.Name y p2) (tVar i) := pe_var (by rw [o.N]; exact hi) (.inl (by rw [o.sc]; exact hk)) h1 h2
  have hkit : ∀ (x : Str) (g : GK) (j : Nat), c.gl.lookup x = some g → g.cid = some j → PySem.W.kitOne X0.K (.ref (ca er.cls)) (g.cv ca) = some (C.sub er.cls j) := by
    rw [← hgl]
    exact K.is
  by_cases hcls : cls = .ref (ca er.cls)
  · subst hcls
    have cr := call_isX (X := X0) (a := a) (pn := pn) K.xf K.kx hzc hf
    have rd : ∀ (σ : L2.St) (H : Hp) (Q : VK), LE X.K ca R (wpE C (.eisi cs)) σ H Q → σ[i]? = some (some (.ref a)) ∧ (d = none ∨ ∃ dd fv, d = some dd ∧ H dd = some (.xd fv)) ∧ Q (.bl (cs.any fun j => C.sub er.cls j)) H ∧ ∀ p vs, H p = none → Q (.bl (cs.any fun j => C.sub er.cls j)) (upd H p (.tup vs)) := fun σ H Q ⟨env, S, β, s, h⟩ => by
      unfold wpE at h
      rw [hC] at h
      obtain ⟨q1, q2, q3⟩ := s.ex _ hR
      refine ⟨q1 i rfl, ?_, h.now s.h (.bl _), fun p vs hp => h β _ _ (s.h.fresh hp) (Gr.fresh hp) (.bl _)⟩
      rcases q3 with ⟨_, q3⟩ | ⟨da, fv, q4, q5, q6⟩
      · exact .inl q3
      · exact .inr ⟨da, fv, q4, q5⟩
    have one : ∀ (k : Nat), cs = [k] → cid1 c z = some k → PE X (.Call (.Name x p) [.Name y p2, z] [] pos) (LE X.K ca R (wpE C (.eisi cs))) := fun k ek e1 => by
      subst ek
      unfold cid1 at e1
      split at e1
      · obtain ⟨g, hg', hj⟩ := Option.bind_eq_some_iff.mp e1
        obtain ⟨p1, p2⟩ := e_cls o hg' hj
        obtain ⟨a1, a2, a3, a4⟩ := o.glob hg'
        subst hX
        refine PE.imp (pe_callB cr g1 gx.1 gx.2 (pa_cons hv (pa_cons (p1 _) pa_nil)) g3 g2 rfl rfl) fun σ H Q q => ?_
        obtain ⟨q1, q2, q3, q4⟩ := rd σ H Q q
        refine ⟨.ref a, q1, q2, _, _, rfl, q3, .inl ⟨_, p2, ?_⟩⟩
        rw [hkit _ g k a4 hj]
        simp
      · cases e1
    unfold clsL at hz
    split at hz
    · split at hz
      rotate_left
      · cases hz
      rename_i hlen
      obtain ⟨vs, us, h0, h1, h2, h3⟩ := cls_list o hkit hz
      subst hX
      refine PE.imp (pe_callB cr g1 gx.1 gx.2 (pa_cons hv (pa_cons (pe_tup h1) pa_nil)) g3 g2 rfl rfl) fun σ H Q q => ?_
      obtain ⟨q1, q2, q3, q4⟩ := rd σ H Q q
      refine ⟨.ref a, q1, ?_, fun p hp => ?_⟩
      · rw [h0]
        exact Nat.le_trans (Nat.le_of_lt hlen) (by decide)
      · refine ⟨?_, _, _, rfl, q4 p vs hp, .inr ⟨p, vs, us, rfl, upd_same, h2, h3⟩⟩
        rcases q2 with q2 | ⟨dd, fv, q2, q5⟩
        · exact .inl q2
        · refine .inr ⟨dd, fv, q2, ?_⟩
          rw [upd_ne (fun z => by rw [z, hp] at q5; cases q5)]
          exact q5
    · obtain ⟨k, hk, e⟩ := Option.map_eq_some_iff.mp hz
      exact one k e.symm hk
  · refine ⟨fun pins s σ H Q I ⟨env, S, β, sm, h⟩ => ?_⟩
    exact absurd (sm.ex _ hR).2.1 hcls
/-! ### what a loop walks -/
structure WK (K : PySem.W.Frag) (ca : Nat → Addr) (β1 : List Addr) (H1 : Hp) (J : It) (src : Src) (items : List D) : Prop where
  go : ∀ S β H i, HSim K ca S β H → Gr K β1 H1 β H → still src S → i < items.length → J.go i H
  stop : ∀ S β H, HSim K ca S β H → Gr K β1 H1 β H → still src S → J.stop items.length H
  yld : ∀ S β H i x H', HSim K ca S β H → Gr K β1 H1 β H → still src S → i < items.length → J.yld i H x H' → ∃ d, items[i]? = some d ∧ HSim K ca S β H' ∧ Gr K β H β H' ∧ RD K ca H' β d x
def LI (K : PySem.W.Frag) (ca : Nat → Addr) (R : Root) (w : DEnv → Store → (Src → List D → Store → Prop) → Prop) : TI := fun σ H R' => ∃ env S β, Sim K ca R env S β σ H ∧
  w env S fun src items S' => ∀ β' H' J, HSim K ca S' β' H' → Gr K β H β' H' → WK K ca β' H' J src items → R' J H'
/-- a list or tuple, as the walk sees it: the same kind throughout -/
inductive SqK (K : PySem.W.Frag) (ca : Nat → Addr) (H : Hp) (β : List Addr) (d : D) (a : Addr) : Prop
  | lst (h : ∀ S β' H' xs, HSim K ca S β' H' → Gr K β H β' H' → seqOf S d = some xs → ∃ vs, SqL K H' a vs ∧ RDs K ca H' β' xs vs)
  | tup (h : ∀ S β' H' xs, HSim K ca S β' H' → Gr K β H β' H' → seqOf S d = some xs → ∃ vs, SqT K H' a vs ∧ RDs K ca H' β' xs vs)
theorem sqK_of {K : PySem.W.Frag} {H : Hp} {β : List Addr} {d : D} {v : V} {S : Store} {xs : List D} (hs : HSim K ca S β H) (r : RD K ca H β d v) (h : seqOf S d = some xs) : ∃ a, v = .ref a ∧ SqK K ca H β d a := by
  cases r with
  | tup h1 h2 =>
    refine ⟨_, rfl, .tup fun S' β' H' ys s' g e => ?_⟩
    cases e
    exact ⟨_, (g.tup _ _ h1).sq, h2.grow g⟩
  | kl h1 h2 =>
    refine ⟨_, rfl, .lst fun S' β' H' ys s' g e => ?_⟩
    cases e
    exact ⟨_, (g.ro h1).sq, h2.grow g⟩
  | ref hb =>
    refine ⟨_, rfl, .lst fun S' β' H' ys s' g e => ?_⟩
    obtain ⟨a, vs, ea, hl, hr⟩ := seq_lst s' e (.ref (g.pre _ _ hb))
    cases ea
    exact ⟨vs, hl, hr⟩
  | _ => cases h
theorem get_lt {α : Type} {xs : List α} {i : Nat} (h : i < xs.length) : ∃ x, xs[i]? = some x := ⟨_, List.getElem?_eq_getElem h⟩
theorem wk_list {K : PySem.W.Frag} {H : Hp} {β : List Addr} {d : D} {a : Addr} {xs : List D} (h : ∀ S β' H' xs, HSim K ca S β' H' → Gr K β H β' H' → seqOf S d = some xs → ∃ vs, SqL K H' a vs ∧ RDs K ca H' β' xs vs) : WK K ca β H (Itl K a) (some (d, xs)) xs where
  go := fun S β' H' i s g st hi => by
    obtain ⟨vs, h1, h2⟩ := h S β' H' xs s g (st _ rfl)
    obtain ⟨x, hx⟩ := get_lt (xs := vs) (i := i) (by rw [← h2.length]; exact hi)
    exact ⟨vs, x, h1, hx⟩
  stop := fun S β' H' s g st => by
    obtain ⟨vs, h1, h2⟩ := h S β' H' xs s g (st _ rfl)
    exact ⟨vs, h1, by rw [h2.length]; exact Nat.le_refl _⟩
  yld := fun S β' H' i x H2 s g st hi y => by
    obtain ⟨rfl, y⟩ := y
    obtain ⟨vs, h1, h2⟩ := h S β' H2 xs s g (st _ rfl)
    obtain ⟨e, he⟩ := get_lt hi
    obtain ⟨v, hv, rv⟩ := h2.get he
    rw [y vs h1] at hv
    cases hv
    exact ⟨e, he, s, Gr.refl, rv⟩
theorem wk_tup {K : PySem.W.Frag} {H : Hp} {β : List Addr} {d : D} {a : Addr} {xs : List D} (h : ∀ S β' H' xs, HSim K ca S β' H' → Gr K β H β' H' → seqOf S d = some xs → ∃ vs, SqT K H' a vs ∧ RDs K ca H' β' xs vs) : WK K ca β H (Itt K a) (some (d, xs)) xs where
  go := fun S β' H' i s g st hi => by
    obtain ⟨vs, h1, h2⟩ := h S β' H' xs s g (st _ rfl)
    obtain ⟨x, hx⟩ := get_lt (xs := vs) (i := i) (by rw [← h2.length]; exact hi)
    exact ⟨vs, x, h1, hx⟩
  stop := fun S β' H' s g st => by
    obtain ⟨vs, h1, h2⟩ := h S β' H' xs s g (st _ rfl)
    exact ⟨vs, h1, by rw [h2.length]; exact Nat.le_refl _⟩
  yld := fun S β' H' i x H2 s g st hi y => by
    obtain ⟨rfl, y⟩ := y
    obtain ⟨vs, h1, h2⟩ := h S β' H2 xs s g (st _ rfl)
    obtain ⟨e, he⟩ := get_lt hi
    obtain ⟨v, hv, rv⟩ := h2.get he
    rw [y vs h1] at hv
    cases hv
    exact ⟨e, he, s, Gr.refl, rv⟩
theorem enumL_len : ∀ (k : Nat) (xs : List D), (enumL k xs).length = xs.length
  | _, [] => rfl
  | k, d :: r => by
    unfold enumL
    rw [List.length_cons, List.length_cons, enumL_len]
theorem enumL_get : ∀ (k : Nat) (xs : List D) (i : Nat) (d : D), xs[i]? = some d → (enumL k xs)[i]? = some (.tup [.int ((k + i : Nat) : Int), d])
  | k, [], i, d, h => by cases h
  | k, x :: r, 0, d, h => by
    cases h
    rfl
  | k, x :: r, i + 1, d, h => by
    unfold enumL
    rw [List.getElem?_cons_succ, enumL_get (k + 1) r i d h]
    have e : k + 1 + i = k + (i + 1) := by omega
    rw [e]
theorem enum_yld {K : PySem.W.Frag} {H : Hp} {β : List Addr} {S : Store} {xs : List D} {vs : List V} {i : Nat} {T : Addr} {x : V} (s : HSim K ca S β H) (h2 : RDs K ca H β xs vs) (hi : i < xs.length) (hT : H T = none) (y : vs[i]? = some x) :
    ∃ d, (enumL 0 xs)[i]? = some d ∧ HSim K ca S β (upd H T (.tup [.int (i : Nat), x])) ∧ Gr K β H β (upd H T (.tup [.int (i : Nat), x])) ∧ RD K ca (upd H T (.tup [.int (i : Nat), x])) β d (.ref T) := by
  obtain ⟨e, he⟩ := get_lt hi
  obtain ⟨v, hv, rv⟩ := h2.get he
  rw [y] at hv
  cases hv
  have g : Gr K β H β (upd H T (.tup [.int (i : Nat), x])) := Gr.fresh hT
  refine ⟨_, enumL_get 0 xs i e he, s.fresh hT, g, .tup (.inl upd_same) (.cons ?_ (.cons (rv.grow g) .nil))⟩
  rw [Nat.zero_add]
  exact .int _
theorem wk_enumL {K : PySem.W.Frag} {H : Hp} {β : List Addr} {d : D} {a : Addr} {xs : List D} (h : ∀ S β' H' xs, HSim K ca S β' H' → Gr K β H β' H' → seqOf S d = some xs → ∃ vs, SqL K H' a vs ∧ RDs K ca H' β' xs vs) : WK K ca β H (Ite K a) (some (d, xs)) (enumL 0 xs) where
  go := fun S β' H' i s g st hi => by
    rw [enumL_len] at hi
    obtain ⟨vs, h1, h2⟩ := h S β' H' xs s g (st _ rfl)
    obtain ⟨x, hx⟩ := get_lt (xs := vs) (i := i) (by rw [← h2.length]; exact hi)
    exact ⟨vs, x, h1, hx⟩
  stop := fun S β' H' s g st => by
    obtain ⟨vs, h1, h2⟩ := h S β' H' xs s g (st _ rfl)
    exact ⟨vs, h1, by rw [enumL_len, h2.length]; exact Nat.le_refl _⟩
  yld := fun S β' H' i x H2 s g st hi y => by
    rw [enumL_len] at hi
    obtain ⟨T, z, rfl, hT, rfl, y⟩ := y
    obtain ⟨vs, h1, h2⟩ := h S β' H' xs s g (st _ rfl)
    exact enum_yld s h2 hi hT (y vs h1)
theorem wk_enumT {K : PySem.W.Frag} {H : Hp} {β : List Addr} {d : D} {a : Addr} {xs : List D} (h : ∀ S β' H' xs, HSim K ca S β' H' → Gr K β H β' H' → seqOf S d = some xs → ∃ vs, SqT K H' a vs ∧ RDs K ca H' β' xs vs) : WK K ca β H (IteT K a) (some (d, xs)) (enumL 0 xs) where
  go := fun S β' H' i s g st hi => by
    rw [enumL_len] at hi
    obtain ⟨vs, h1, h2⟩ := h S β' H' xs s g (st _ rfl)
    obtain ⟨x, hx⟩ := get_lt (xs := vs) (i := i) (by rw [← h2.length]; exact hi)
    exact ⟨vs, x, h1, hx⟩
  stop := fun S β' H' s g st => by
    obtain ⟨vs, h1, h2⟩ := h S β' H' xs s g (st _ rfl)
    exact ⟨vs, h1, by rw [enumL_len, h2.length]⟩
  yld := fun S β' H' i x H2 s g st hi y => by
    rw [enumL_len] at hi
    obtain ⟨T, z, rfl, hT, rfl, y⟩ := y
    obtain ⟨vs, h1, h2⟩ := h S β' H' xs s g (st _ rfl)
    exact enum_yld s h2 hi hT (y vs h1)
theorem rngL_len (lo : Int) (n : Nat) : (rngL lo n).length = n := by unfold rngL; rw [List.length_map, List.length_range]
theorem wk_rng {K : PySem.W.Frag} {H : Hp} {β : List Addr} {lo : Int} {n : Nat} : WK K ca β H (Itr lo n) none (rngL lo n) where
  go := fun S β' H' i s g st hi => by rw [rngL_len] at hi; exact hi
  stop := fun S β' H' s g st => by rw [rngL_len]; exact Nat.le_refl n
  yld := fun S β' H' i x H2 s g st hi y => by
    rw [rngL_len] at hi
    obtain ⟨rfl, rfl⟩ := y
    refine ⟨.int (lo + (i : Nat)), ?_, s, Gr.refl, .int _⟩
    unfold rngL
    rw [List.getElem?_map, List.getElem?_range hi]
    rfl
theorem i_seq {tg e : Expr} {de : DE} (he : PE X e (LE X.K ca R (wpE C de))) : PI X tg e (LI X.K ca R (wpI C (.seq de))) := by
  refine ⟨fun pins s σ H R' I ⟨env, S, β, sm, h⟩ => ?_⟩
  unfold wpI at h
  have key : wpE C de env S (HQ X.K ca β H fun x H1 => (∃ a vs, x = .ref a ∧ SqL X.K H1 a vs ∧ R' (Itl X.K a) H1) ∨ ∃ a vs, x = .ref a ∧ SqT X.K H1 a vs ∧ R' (Itt X.K a) H1) := by
    refine wpE_m _ _ _ _ _ _ (fun d S1 h β1 v H1 s1 g1 r1 => ?_) h
    obtain ⟨xs, hx, q⟩ := onO_some h
    obtain ⟨a, rfl, k⟩ := sqK_of s1 r1 hx
    cases k with
    | lst k =>
      obtain ⟨vs, h1, h2⟩ := k S1 β1 H1 xs s1 Gr.refl hx
      exact .inl ⟨a, vs, rfl, h1, q β1 H1 _ s1 g1 (wk_list k)⟩
    | tup k =>
      obtain ⟨vs, h1, h2⟩ := k S1 β1 H1 xs s1 Gr.refl hx
      exact .inr ⟨a, vs, rfl, h1, q β1 H1 _ s1 g1 (wk_tup k)⟩
  refine thn (he.run pins s σ H _ I ⟨env, S, β, sm, key⟩) fun v s1 ⟨x, H1, I1, r1, q1⟩ => ?_
  rcases q1 with ⟨a, vs, rfl, hq, q⟩ | ⟨a, vs, rfl, hq, q⟩
  · cases r1
    obtain ⟨its, rv, p, hz⟩ := I1.list hq
    refine wpAny_pyIter_list p.isList ?_
    refine ⟨s1.heap.objs.size, [s1.heap.objs.size], _, _, H1, rfl, I1.kept (t' := s1.toks) fun b o e => Heap.get?_push_of_some _ e, turn_list a _, ⟨_, Heap.get?_push_size _ rfl, rfl, rfl⟩, fun b hb => ?_, q⟩
    have e : b = s1.heap.objs.size := by simpa using hb
    subst e
    exact I1.fpOk (Nat.le_refl _) (I1.hok.fresh (Nat.le_refl _))
  · cases r1
    obtain ⟨its, rv, p, hz⟩ := I1.tuple hq
    refine wpAny_pyIter_tuple (show s1.heap.IsTuple a its.toArray from p) ?_
    refine ⟨s1.heap.objs.size, [s1.heap.objs.size], _, _, H1, rfl, I1.kept (t' := s1.toks) fun b o e => Heap.get?_push_of_some _ e, turn_tuple a _, ⟨_, Heap.get?_push_size _ rfl, rfl, rfl⟩, fun b hb => ?_, q⟩
    have e : b = s1.heap.objs.size := by simpa using hb
    subst e
    exact I1.fpOk (Nat.le_refl _) (I1.hok.fresh (Nat.le_refl _))
theorem i_enum {e : Expr} {de : DE} {elts : List Expr} {kk : Nat} {tpos p : Pos} (hg : Gl X "enumerate") (hm : X.mg "enumerate" = none) (hp : plainE e = true) (he : PE X e (LE X.K ca R (wpE C de))) :
    PI X (.Tuple elts kk tpos) (.Call (.Name "enumerate" p) [e] [] pos) (LI X.K ca R (wpI C (.enum de))) := by
  refine PI.imp (pi_enumA hg hm (pa_cons he pa_nil (starEach_cons hp)) (starEach_cons hp)) fun σ H R' ⟨env, S, β, sm, h⟩ => ?_
  unfold wpI at h
  refine ⟨env, S, β, sm, wpE_m _ _ _ _ _ _ (fun d S1 h β1 v H1 s1 g1 r1 => ?_) h⟩
  obtain ⟨xs, hx, q⟩ := onO_some h
  obtain ⟨a, rfl, k⟩ := sqK_of s1 r1 hx
  cases k with
  | lst k =>
    obtain ⟨vs, h1, h2⟩ := k S1 β1 H1 xs s1 Gr.refl hx
    exact ⟨a, vs, rfl, .inl ⟨h1, q β1 H1 _ s1 g1 (wk_enumL k)⟩⟩
  | tup k =>
    obtain ⟨vs, h1, h2⟩ := k S1 β1 H1 xs s1 Gr.refl hx
    exact ⟨a, vs, rfl, .inr ⟨h1, q β1 H1 _ s1 g1 (wk_enumT k)⟩⟩
theorem wpEs_cnt {f : Expr → Option DE} : ∀ {es : List Expr} {ds : DEs} {env : DEnv} {S : Store} {Q : List D → Store → Prop}, compL f es = some ds → wpEs C ds env S Q → wpEs C ds env S fun l S' => l.length = es.length ∧ Q l S'
  | [], ds, env, S, Q, h, q => by
    cases h
    unfold wpEs at q ⊢
    exact ⟨rfl, q⟩
  | e :: es, ds, env, S, Q, h, q => by
    obtain ⟨hp, d, r, rfl, e1, e2⟩ := compL_cons h
    unfold wpEs at q ⊢
    refine wpE_m _ _ _ _ _ _ (fun x S1 q => wpEs_m _ _ _ _ _ _ (fun l S2 q => ?_) (wpEs_cnt e2 q)) q
    exact ⟨by rw [List.length_cons, List.length_cons, q.1], q.2⟩
theorem i_rng {tg : Expr} {f : Expr → Option DE} {es : List Expr} {ds : DEs} {p : Pos} (hg : Gl X "range") (hm : X.mg "range" = none) (hl : compL f es = some ds) (ha : PA X es (LA X.K ca R (wpEs C ds))) (hn : es.length = 1 ∨ es.length = 2) :
    PI X tg (.Call (.Name "range" p) es [] pos) (LI X.K ca R (wpI C (.rng ds))) := by
  match es, hl, ha, hn with
  | [], hl, ha, hn => simp at hn
  | [a], hl, ha, hn =>
    obtain ⟨hp, d, r, rfl, e1, e2⟩ := compL_cons hl
    refine PI.imp (pi_range1 hg hm ha (starEach_cons hp)) fun σ H R' ⟨env, S, β, sm, h⟩ => ?_
    unfold wpI at h
    refine ⟨env, S, β, sm, wpEs_m _ _ _ _ _ _ (fun ds S1 h β1 vs H1 s1 g1 r1 => ?_) (wpEs_cnt hl h)⟩
    obtain ⟨hc, h⟩ := h
    obtain ⟨xs, hx, q⟩ := onO_some h
    unfold rngD at hx
    split at hx
    · split at hx
      · rename_i hb
        cases hx
        obtain ⟨v, rfl, r2⟩ := rds1 r1
        cases r2
        exact ⟨_, rfl, hb.1, hb.2, q β1 H1 _ s1 g1 wk_rng⟩
      · cases hx
    · simp at hc
    · cases hx
  | [a, b], hl, ha, hn =>
    have hl0 := hl
    obtain ⟨hp, d, r, rfl, e1, e2⟩ := compL_cons hl
    obtain ⟨hp2, d2, r2, rfl, e3, e4⟩ := compL_cons e2
    refine PI.imp (pi_range2 hg hm ha (by rw [starEach_cons hp, starEach_cons hp2]; rfl) (starEach_cons hp2)) fun σ H R' ⟨env, S, β, sm, h⟩ => ?_
    unfold wpI at h
    refine ⟨env, S, β, sm, wpEs_m _ _ _ _ _ _ (fun ds S1 h β1 vs H1 s1 g1 r1 => ?_) (wpEs_cnt hl0 h)⟩
    obtain ⟨hc, h⟩ := h
    obtain ⟨xs, hx, q⟩ := onO_some h
    unfold rngD at hx
    split at hx
    · simp at hc
    · split at hx
      · rename_i hb
        cases hx
        obtain ⟨v, w, rfl, r2, r3⟩ := rds2 r1
        cases r2
        cases r3
        exact ⟨_, _, rfl, hb, q β1 H1 _ s1 g1 wk_rng⟩
      · cases hx
    · cases hx
  | _ :: _ :: _ :: _, hl, ha, hn => simp at hn
theorem sI {E : Expr → Option DE} (o : XOk ca R X c C) (hE : ∀ e de, E e = some de → PE X e (LE X.K ca R (wpE C de))) {tg e : Expr} {it : DI} (h : compI E c (isTup tg) e = some it) : PI X tg e (LI X.K ca R (wpI C it)) := by
  unfold compI at h
  split at h
  · split at h
    · rename_i hg
      split at h
      · rename_i hn
        obtain ⟨ds, hd, rfl⟩ := Option.map_eq_some_iff.mp h
        obtain ⟨h1, h2, h3, h4⟩ := o.glob hg
        obtain ⟨hm, rfl⟩ := o.gl _ _ h4
        exact i_rng h1 hm hd (sL hE _ _ hd) (by simpa using hn)
      · cases h
    · rename_i hg
      split at h
      · split at h
        · rename_i hpt
          obtain ⟨hp, ht⟩ := Bool.and_eq_true_iff.mp hpt
          obtain ⟨d, hd, rfl⟩ := Option.map_eq_some_iff.mp h
          obtain ⟨h1, h2, h3, h4⟩ := o.glob hg
          obtain ⟨hm, rfl⟩ := o.gl _ _ h4
          cases tg <;> first
            | exact i_enum h1 hm hp (hE _ _ hd)
            | cases ht
        · cases h
      · cases h
    · obtain ⟨d, hd, rfl⟩ := Option.map_eq_some_iff.mp h
      exact i_seq (hE _ _ hd)
  · split at h
    · obtain ⟨d, hd, rfl⟩ := Option.map_eq_some_iff.mp h
      exact i_seq (hE _ _ hd)
    · cases h
theorem compI_set {E : Expr → Option DE} {e : Expr} {env : Env} (h : noSet e = true) : ∀ x, foldedSetIterable e env x = pure x := by
  intro x
  cases e <;> first
    | rfl
    | cases h
end
end PD

set_option Elab.async false
set_option linter.all false
set_option maxRecDepth 100000
set_option maxHeartbeats 4000000
namespace PD
open PySem PySem.Spec PyProof.Rows L2
theorem wipe_in {σ : L2.St} {i : Nat} : ∀ {vs : List Nat}, i ∈ vs → (wipe σ vs)[i]? = if i < σ.length then some none else none
  | [], h => by cases h
  | v :: vs, h => by
    unfold wipe
    by_cases e : i = v
    · subst e
      by_cases hl : i < σ.length
      · rw [if_pos hl, List.getElem?_set_self (by rw [wipe_length]; exact hl)]
      · rw [if_neg hl]
        exact List.getElem?_eq_none (by rw [List.length_set, wipe_length]; omega)
    · rw [List.getElem?_set_ne (Ne.symm e)]
      exact wipe_in ((List.mem_cons.mp h).resolve_left e)
theorem wipe_eq {σ τ : L2.St} {vs : List Nat} (hl : τ.length = σ.length) (h : ∀ i, i ∉ vs → τ[i]? = (wipe σ vs)[i]?) : wipe τ vs = wipe σ vs := by
  refine List.ext_getElem? fun i => ?_
  by_cases hi : i ∈ vs
  · rw [wipe_in hi, wipe_in hi, hl]
  · rw [wipe_out hi, h i hi]
theorem wipeD_len (env : DEnv) : ∀ vs : List Nat, (wipeD env vs).length = env.length
  | [] => rfl
  | v :: vs => by unfold wipeD; rw [List.length_set, wipeD_len]
theorem wipeD_some {env : DEnv} {i : Nat} {d : D} : ∀ {vs : List Nat}, (wipeD env vs)[i]? = some (some d) → env[i]? = some (some d) ∧ i ∉ vs
  | [], h => ⟨h, fun z => (nomatch z)⟩
  | v :: vs, h => by
    unfold wipeD at h
    by_cases e : i = v
    · subst e
      by_cases hl : i < (wipeD env vs).length
      · rw [List.getElem?_set_self hl] at h
        cases h
      · rw [List.getElem?_eq_none (by rw [List.length_set]; omega)] at h
        cases h
    · rw [List.getElem?_set_ne (Ne.symm e)] at h
      obtain ⟨a, b⟩ := wipeD_some h
      exact ⟨a, fun z => (List.mem_cons.mp z).elim e b⟩
theorem Sim.wipe {K : PySem.W.Frag} {ca : Nat → Addr} {R : Root} {env : DEnv} {S : Store} {β : List Addr} {σ : L2.St} {H : Hp} (s : Sim K ca R env S β σ H) (vs : List Nat) (hx : ∀ x, R.exn = some x → x.slot = none) : Sim K ca R (wipeD env vs) S β (L2.wipe σ vs) H where
  h := s.h
  el := by rw [wipeD_len, L2.wipe_length]; exact s.el
  ev := fun i d e => by
    obtain ⟨a, b⟩ := wipeD_some e
    rw [wipe_out b]
    exact s.ev i d a
  gr := s.gr
  ex := fun x e => ⟨fun i hi => (by rw [hx x e] at hi; cases hi), (s.ex x e).2⟩
section
variable {ca : Nat → Addr} {R : Root} {X : Cx} {c : Ctx} {C : SC} {pos : Pos}
abbrev SC.mute (C : SC) : SC := { C with xq := fun _ _ _ => False }
theorem XOk.nosuite (o : XOk ca R X c C) (hc : c.calm = true) : c.exn = none := by
  cases e : c.exn with
  | none => rfl
  | some n =>
    obtain ⟨X0, c0, a, oe, pn, cls, d, er, i, hX, _⟩ := o.exn n e
    have := o.calm hc
    rw [hX] at this
    cases this
theorem XOk.blk (o : XOk ca R X c C) (hc : c.calm = true) (scope : Scope) (s : Shared) (H : Hp) (A : Addr) (cl : List (Str × Addr)) (fp : List Addr) : XOk ca R (X.blk s H scope (compEnvC scope cl A X.env) fp) (blkCtx c scope) C.mute where
  N := o.N
  nd := o.nd
  sc := by
    show relS scope X.env.scope = relS scope c.sc
    rw [o.sc]
  calm := fun _ => o.calm hc
  fn := fun h => by cases h
  un := o.un
  gl := fun x g h => by
    have := o.gl x g h
    cases g with
    | bi b => cases b <;> exact this
    | _ => exact this
  fs := fun _ x i h => o.fs hc x i h
  rs := fun h => by cases h
  ks := fun h => by cases h
  po := PassesOwn.never
  tk := ⟨fun _ _ _ _ => False, takes0, fun _ _ _ _ _ _ _ _ h _ _ => h⟩
  top := fun h => by cases h
  exs := o.exs
  exn := fun n h => by
    have : c.exn = some n := h
    rw [o.nosuite hc] at this
    cases this
mutual
theorem inT_of {own : List Nat} : ∀ {t : DT}, ownT own t = true → inT (fun i => i ∈ own) t
  | .nm i, h => by
    unfold ownT at h
    exact List.contains_iff_mem.mp h
  | .tp ts, h => by
    unfold ownT at h
    exact inTs_of h
  | .sub _ _, h => by cases h
theorem inTs_of {own : List Nat} : ∀ {ts : DTs}, ownTs own ts = true → inTs (fun i => i ∈ own) ts
  | .nil, h => trivial
  | .cons t ts, h => by
    unfold ownTs at h
    obtain ⟨a, b⟩ := Bool.and_eq_true_iff.mp h
    exact ⟨inT_of a, inTs_of b⟩
end
/-- a comprehension's test -/
def ttOf (K : PySem.W.Frag) (ca : Nat → Addr) (R : Root) (C : SC) : DO → TT
  | .none => tYes
  | .some d => LT K ca R (wpE C d)
theorem lc_read (o : XOk ca R X c C) (hc : c.calm = true) {t : DT} {own : List Nat} {it : DI} {oc : DO} {de : DE} (σ : L2.St) (H : Hp) (Q : VK) (h : LE X.K ca R (wpE C (.lc own t it oc de)) σ H Q) :
    tLc (LI X.K ca R (wpI C it)) (LG X.K ca R (fun i => i ∈ own) (wpT C.mute t)) (ttOf X.K ca R C.mute oc) (LE X.K ca R (wpE C.mute de)) own σ H Q := by
  obtain ⟨env, S, β, sm, h⟩ := h
  have hx : ∀ x, R.exn = some x → x.slot = none := fun x hx => by
    cases e : x.slot with
    | none => rfl
    | some i =>
      obtain ⟨n, hn, _⟩ := o.exs x hx i e
      rw [o.nosuite hc] at hn
      cases hn
  unfold wpE at h
  refine ⟨env, S, β, sm, wpI_m _ _ _ _ _ _ (fun src items S1 h β1 H1 J s1 g1 wk Da hD => ?_) h⟩
  obtain ⟨st1, h⟩ := h
  have s2 := s1.lst hD (xs := []) (vs := []) .nil
  have g2 : Gr X.K β1 H1 (β1 ++ [Da]) (upd H1 Da (.lst [])) := grow_alloc hD
  have hn2 : (β1 ++ [Da])[S1.length]? = some Da := by rw [← s1.len, List.getElem?_append_right (Nat.le_refl _), Nat.sub_self]; rfl
  -- the source is older than the new list
  have hsrc : ∀ S' ys, still src S' → still src (S'.set S1.length (.lst ys)) := fun S' ys hst p hp => by
    have e := hst p hp
    obtain ⟨d, xs⟩ := p
    cases d with
    | ref k =>
      have hk : k ≠ S1.length := by
        rintro rfl
        have e1 := st1 _ hp
        unfold seqOf at e1
        dsimp only at e1
        rw [List.getElem?_eq_none (Nat.le_refl _)] at e1
        cases e1
      show seqOf (S'.set S1.length (.lst ys)) (.ref k) = some xs
      have e' : seqOf S' (.ref k) = some xs := e
      unfold seqOf at e' ⊢
      dsimp only at e' ⊢
      rw [List.getElem?_set_ne (Ne.symm hk)]
      exact e'
    | _ => exact e
  have st2 : still src (S1 ++ [.lst []]) := fun p hp => by
    have e := st1 p hp
    obtain ⟨d, xs⟩ := p
    cases d with
    | ref k =>
      have e' : seqOf S1 (.ref k) = some xs := e
      show seqOf (S1 ++ [.lst []]) (.ref k) = some xs
      unfold seqOf at e' ⊢
      dsimp only at e' ⊢
      have hk : k < S1.length := by
        rcases Nat.lt_or_ge k S1.length with z | z
        · exact z
        · rw [List.getElem?_eq_none z] at e'; cases e'
      rw [List.getElem?_append_left hk]
      exact e'
    | _ => exact e
  obtain ⟨step, hstep, h⟩ : ∃ step : D → Store → (Option D → Store → Prop) → Prop, (∀ d S2 K, step d S2 K → wpT C.mute t d (wipeD env own) S2 fun env1 S3 =>
        wpO C.mute oc env1 S3 fun o S4 => match o with
          | none => wpE C.mute de env1 S4 fun y S5 => K (some y) S5
          | some x => onO (truth S4 x) fun k => if k = true then wpE C.mute de env1 S4 fun y S5 => K (some y) S5 else K none S4) ∧
      lcGo src S1.length step items (S1 ++ [.lst []]) fun S2 => HQ X.K ca β H Q (.ref S1.length) S2 := ⟨_, fun _ _ _ h => h, h⟩
  refine ⟨fun i m H' => ∃ S' β', i + m = items.length ∧ HSim X.K ca S' β' H' ∧ Gr X.K (β1 ++ [Da]) (upd H1 Da (.lst [])) β' H' ∧ still src S' ∧ lcGo src S1.length step (items.drop i) S' fun S2 => HQ X.K ca β H Q (.ref S1.length) S2,
    ⟨items.length, _, _, Nat.zero_add _, s2, Gr.refl, st2, by rw [List.drop_zero]; exact h⟩, fun i m H' hW => ?_⟩
  obtain ⟨S', β', him, s', g', st', h⟩ := hW
  rcases Nat.lt_or_ge i items.length with hi | hi
  · refine .inr ⟨wk.go S' β' H' i s' (g2.trans g') st' hi, fun H2 => ∃ S' β', HSim X.K ca S' β' H2 ∧ Gr X.K (β1 ++ [Da]) (upd H1 Da (.lst [])) β' H2 ∧ still src S' ∧ lcGo src S1.length step (items.drop (i + 1)) S' fun S2 => HQ X.K ca β H Q (.ref S1.length) S2, fun H2 ⟨S2, β2, a, b, c', d⟩ => ⟨m - 1, by omega, S2, β2, by omega, a, b, c', d⟩, fun x H2 hy => ?_⟩
    obtain ⟨d, hd, s3, g3, r3⟩ := wk.yld S' β' H' i x H2 s' (g2.trans g') st' hi hy
    have hdrop : items.drop i = d :: items.drop (i + 1) := by
      rw [List.drop_eq_getElem_cons hi]
      rw [List.getElem?_eq_getElem hi] at hd
      cases hd
      rfl
    rw [hdrop] at h
    unfold lcGo at h
    replace h := hstep _ _ _ h
    have smw : Sim X.K ca R (wipeD env own) S' β' (wipe σ own) H2 := ((((sm.grow s1 g1).grow s2 g2).grow s' g').grow s3 g3).wipe _ hx
    refine ⟨_, S', β', d, smw, r3, wpT_m _ _ _ _ _ _ _ (fun env1 S3 h β3 σ3 H3 s4 g4 l4 k4 => ⟨wipe_eq (by rw [l4, wipe_length]) k4, ?_⟩) h⟩
    -- what an item does
    have hput : ∀ (S4 : Store) (β4 : List Addr) (H4 : Hp), HSim X.K ca S4 β4 H4 → Gr X.K β3 H3 β4 H4 →
        (wpE C.mute de env1 S4 fun y S5 => still src S5 ∧ match S5[S1.length]? with
          | some (.lst acc) => acc.length < sizeLine ∧ lcGo src S1.length step (items.drop (i + 1)) (S5.set S1.length (.lst (acc ++ [y]))) fun S2 => HQ X.K ca β H Q (.ref S1.length) S2
          | _ => False) →
        LE X.K ca R (wpE C.mute de) σ3 H4 fun y H5 => ∃ acc, H5 Da = some (.lst acc) ∧ acc.length < sizeLine ∧ ∃ S' β', HSim X.K ca S' β' (upd H5 Da (.lst (acc ++ [y]))) ∧ Gr X.K (β1 ++ [Da]) (upd H1 Da (.lst [])) β' (upd H5 Da (.lst (acc ++ [y]))) ∧ still src S' ∧
          lcGo src S1.length step (items.drop (i + 1)) S' fun S2 => HQ X.K ca β H Q (.ref S1.length) S2 := fun S4 β4 H4 s5 g5 h => by
      refine ⟨env1, S4, β4, s4.grow s5 g5, wpE_m _ _ _ _ _ _ (fun y S5 h β5 v H5 s6 g6 r6 => ?_) h⟩
      obtain ⟨st5, h⟩ := h
      split at h
      · rename_i acc hacc
        have gg : Gr X.K (β1 ++ [Da]) (upd H1 Da (.lst [])) β5 H5 := (((g'.trans g3).trans g4).trans g5).trans g6
        have hb5 : β5[S1.length]? = some Da := gg.pre _ _ hn2
        obtain ⟨vs, hv, hr⟩ : ∃ vs, H5 Da = some (.lst vs) ∧ RDs X.K ca H5 β5 acc vs := s6.ob _ _ _ hacc hb5
        obtain ⟨s7, g7⟩ := s6.wr hacc hb5 (hr.app (.cons r6 .nil))
        exact ⟨vs, hv, by rw [← hr.length]; exact h.1, _, β5, s7, gg.trans g7, hsrc _ _ st5, h.2⟩
      · exact h.elim
    cases oc with
    | none =>
      unfold wpO at h
      have et : ttOf X.K ca R C.mute .none = tYes := rfl
      rw [et]
      unfold tYes
      dsimp only
      rw [if_pos rfl]
      exact hput S3 β3 H3 s4.h Gr.refl h
    | some dc =>
      unfold wpO at h
      refine ⟨env1, S3, β3, s4, wpE_m _ _ _ _ _ _ (fun x S4 h => ?_) h⟩
      unfold HB
      refine onO_mono (fun k h β4 H4 s5 g5 => ?_) h
      cases k with
      | true =>
        rw [if_pos rfl] at h
        rw [if_pos rfl]
        exact hput S4 β4 H4 s5 g5 h
      | false =>
        rw [if_neg (by decide)] at h
        rw [if_neg (by decide)]
        exact ⟨S4, β4, s5, ((g'.trans g3).trans g4).trans g5, h.1, h.2⟩
  · have e : i = items.length := by omega
    subst e
    rw [List.drop_length] at h
    unfold lcGo at h
    exact .inl ⟨wk.stop S' β' H' s' (g2.trans g') st', h β' (.ref Da) H' s' ((g1.trans g2).trans g') (.ref (g'.pre _ _ hn2))⟩
theorem e_lc (o : XOk ca R X c C) (hc : c.calm = true) {elt tg iter : Expr} {ifs : List Expr} {scope : Scope} {own : List (Str × Nat)} {t : DT} {it : DI} {oc : DO} {de : DE} (hb : blkC c.N c.sc scope own = true) (hset : noSet iter = true)
    (hi : PI X tg iter (LI X.K ca R (wpI C it)))
    (hg : ∀ (s : Shared) (H : Hp) (A : Addr) (cl : List (Str × Addr)) (fp : List Addr), PG (X.blk s H scope (compEnvC scope cl A X.env) fp) tg (LG X.K ca R (fun i => i ∈ own.map (·.2)) (wpT C.mute t)))
    (ht : ∀ (s : Shared) (H : Hp) (A : Addr) (cl : List (Str × Addr)) (fp : List Addr), PTs (X.blk s H scope (compEnvC scope cl A X.env) fp) ifs (ttOf X.K ca R C.mute oc))
    (he : ∀ (s : Shared) (H : Hp) (A : Addr) (cl : List (Str × Addr)) (fp : List Addr), PE (X.blk s H scope (compEnvC scope cl A X.env) fp) elt (LE X.K ca R (wpE C.mute de))) :
    PE X (.ListComp elt [⟨tg, iter, ifs, 0⟩] scope pos) (LE X.K ca R (wpE C (.lc (own.map (·.2)) t it oc de))) := by
  exact PE.imp (pe_lc (own := own) (o.calm hc) (by rw [o.N]; exact o.nd) hi (by rw [o.N, o.sc]; exact blkOk_by hb) hg ht he (compI_set (E := fun _ => none) hset)) fun σ H Q h => lc_read o hc σ H Q h
/-- name = [..] on one line -/
theorem s_lc (o : XOk ca R X c C) (hc : c.calm = true) {elt tg iter : Expr} {ifs : List Expr} {scope : Scope} {own : List (Str × Nat)} {t : DT} {it : DI} {oc : DO} {de : DE} {y : Str} {i : Nat} {py spos : Pos} (hb : blkC c.N c.sc scope own = true) (hset : noSet iter = true)
    (hi : PI X tg iter (LI X.K ca R (wpI C it)))
    (hg : ∀ (s : Shared) (H : Hp) (A : Addr) (cl : List (Str × Addr)) (fp : List Addr), PG (X.blk s H scope (compEnvC scope cl A X.env) fp) tg (LG X.K ca R (fun i => i ∈ own.map (·.2)) (wpT C.mute t)))
    (ht : ∀ (s : Shared) (H : Hp) (A : Addr) (cl : List (Str × Addr)) (fp : List Addr), PTs (X.blk s H scope (compEnvC scope cl A X.env) fp) ifs (ttOf X.K ca R C.mute oc))
    (he : ∀ (s : Shared) (H : Hp) (A : Addr) (cl : List (Str × Addr)) (fp : List Addr), PE (X.blk s H scope (compEnvC scope cl A X.env) fp) elt (LE X.K ca R (wpE C.mute de)))
    (hy : ixOf y c.N 0 = some i) (hyl : kindL c y = some .local) (hk : c.sc.kind = .function) (hl : (py.line == pos.line) = true) (ha : (scope.names.any fun (n, k) => n == y && (k == .local || k == .cell)) = false) :
    PS X (.Assign [.Name y py] (.ListComp elt [⟨tg, iter, ifs, 0⟩] scope pos) spos) (tAsg (LE X.K ca R (wpE C (.lc (own.map (·.2)) t it oc de))) (gName i)) := by
  have hyl' : X.env.scope.names.lookup y = some .local := by rw [o.sc]; exact hyl
  refine ⟨fun pins s σ H D I h => ?_⟩
  exact (ps_setLc (own := own) (o.calm hc) (by rw [o.N]; exact o.nd) (by rw [o.N]; exact ixOf_at hy) hyl' (sw_true (by rw [o.sc]; exact hk) hyl' hl ha) hi (by rw [o.N, o.sc]; exact blkOk_by hb) hg ht he (compI_set (E := fun _ => none) hset)).run pins s σ H D I (lc_read o hc σ H _ h)
end
end PD

set_option Elab.async false
set_option linter.all false
set_option maxRecDepth 100000
set_option maxHeartbeats 4000000
namespace PD
open PySem PySem.Spec PyProof.Rows L2
theorem okN_1 {x : Str} (h : okN x = true) : (x == ("__debug__" : Str)) = false ∧ (x == ("__classdict__" : Str)) = false := by
  unfold okN at h
  have h' : (x == ("__debug__" : Str) || x == ("__classdict__" : Str)) = false := by simpa using h
  exact Bool.or_eq_false_iff.mp h'
/-- the compiled text is sound, to the depth n -/
structure SP (n : Nat) : Prop where
  E : ∀ {ca : Nat → Addr} {R : Root} {X : Cx} {c : Ctx} {C : SC}, XOk ca R X c C → ∀ e de, compE n c e = some de → PE X e (LE X.K ca R (wpE C de))
  T : ∀ {ca : Nat → Addr} {R : Root} {X : Cx} {c : Ctx} {C : SC}, XOk ca R X c C → ∀ e de, noIf n e = true → compE n c e = some de → PT X e (LT X.K ca R (wpE C de))
  W : ∀ {ca : Nat → Addr} {R : Root} {X : Cx} {c : Ctx} {C : SC}, XOk ca R X c C → ∀ op es pos de, noIf n (.BoolOp op es pos) = true → compE n c (.BoolOp op es pos) = some de → PW X (.BoolOp op es pos) (LT X.K ca R (wpE C de))
section
variable {ca : Nat → Addr} {R : Root} {X : Cx} {c : Ctx} {C : SC} {n : Nat}
theorem lc_inv (ih : SP n) (o : XOk ca R X c C) {elt : Expr} {gs : List Comprehension} {scope : Scope} {pos : Pos} {de : DE} (h : compE (n + 1) c (.ListComp elt gs scope pos) = some de) :
    ∃ (tg iter : Expr) (ifs : List Expr) (t : DT) (it : DI) (oc : DO) (dx : DE) (own : List (Str × Nat)), gs = [⟨tg, iter, ifs, 0⟩] ∧ de = .lc (own.map (·.2)) t it oc dx ∧ c.calm = true ∧ blkC c.N c.sc scope own = true ∧ noSet iter = true ∧
      PI X tg iter (LI X.K ca R (wpI C it)) ∧
      (∀ (s : Shared) (H : Hp) (A : Addr) (cl : List (Str × Addr)) (fp : List Addr), PG (X.blk s H scope (compEnvC scope cl A X.env) fp) tg (LG X.K ca R (fun i => i ∈ own.map (·.2)) (wpT C.mute t))) ∧
      (∀ (s : Shared) (H : Hp) (A : Addr) (cl : List (Str × Addr)) (fp : List Addr), PTs (X.blk s H scope (compEnvC scope cl A X.env) fp) ifs (ttOf X.K ca R C.mute oc)) ∧
      (∀ (s : Shared) (H : Hp) (A : Addr) (cl : List (Str × Addr)) (fp : List Addr), PE (X.blk s H scope (compEnvC scope cl A X.env) fp) elt (LE X.K ca R (wpE C.mute dx))) := by
  unfold compE at h
  dsimp only at h
  split at h <;> first
    | (rename_i heq; cases heq; done)
    | skip
  · rename_i heq
    cases heq
    split at h
    · rename_i hc
      obtain ⟨hc, hset⟩ := Bool.and_eq_true_iff.mp hc
      obtain ⟨hc, hb⟩ := Bool.and_eq_true_iff.mp hc
      split at h
      · rename_i it t x oc e1 e2 e3 e4
        split at h
        · rename_i hown
          cases h
          refine ⟨_, _, _, t, it, oc, x, _, rfl, rfl, hc, hb, hset, sI o (fun e de => ih.E o e de) e1, fun s H A cl fp => ?_, fun s H A cl fp => ?_, fun s H A cl fp => ?_⟩
          · exact sN (o.blk hc _ s H A cl fp) _ _ _ e2 (inT_of hown)
          · have o2 := o.blk hc scope s H A cl fp
            unfold compC at e4
            split at e4
            · cases e4; exact pts_nil
            · split at e4
              · rename_i hn
                obtain ⟨y, hy, rfl⟩ := Option.map_eq_some_iff.mp e4
                exact pts_one (ih.T o2 _ _ hn hy)
              · cases e4
            · cases e4
          · exact ih.E (o.blk hc _ s H A cl fp) _ _ e3
        · cases h
      · cases h
    · cases h
  · cases h
theorem lc_case (ih : SP n) (o : XOk ca R X c C) {elt : Expr} {gs : List Comprehension} {scope : Scope} {pos : Pos} {de : DE} (h : compE (n + 1) c (.ListComp elt gs scope pos) = some de) : PE X (.ListComp elt gs scope pos) (LE X.K ca R (wpE C de)) := by
  obtain ⟨tg, iter, ifs, t, it, oc, dx, own, rfl, rfl, hc, hb, hset, hi, hg, ht, he⟩ := lc_inv ih o h
  exact e_lc o hc hb hset hi hg ht he
theorem sp_E (ih : SP n) (o : XOk ca R X c C) (e : Expr) (de : DE) (h : compE (n + 1) c e = some de) : PE X e (LE X.K ca R (wpE C de)) := by
  have h0 := h
  unfold compE at h
  dsimp only at h
  split at h
  · -- a name
    split at h
    · cases h
    · rename_i hk
      obtain ⟨k1, k2⟩ := okN_1 (by simpa using hk)
      split at h
      · cases h
      · rename_i hx
        split at h
        · rename_i i hs
          cases h
          exact e_var o hs k1 k2
        · split at h
          · rename_i hg
            cases h
            obtain ⟨h1, h2, h3, h4⟩ := o.glob hg
            have g := o.gl _ _ h4
            exact e_cst (v := .ty _) (pe_bltn h1 g.1 g.2 rfl h3 h2) fun H β => .ty _
          · rename_i hg
            cases h
            obtain ⟨h1, h2, h3, h4⟩ := o.glob hg
            obtain ⟨u, v, g1, g2, g3⟩ := o.gl _ _ h4
            exact e_cst (pe_glob h1 g1 g2 h2) g3
          · rename_i hg
            cases h
            obtain ⟨h1, h2, h3, h4⟩ := o.glob hg
            have g := o.gl _ _ h4
            exact e_cst (v := .ty _) (pe_bltn h1 g.1 g.2 rfl h3 h2) fun H β => .ty _
          · rename_i hg
            cases h
            obtain ⟨h1, h2, h3, h4⟩ := o.glob hg
            exact e_cst (v := .ref _) (pe_glob h1 (o.gl _ _ h4) rfl h2) fun H β => .own _
          · rename_i hg
            cases h
            obtain ⟨h1, h2, h3, h4⟩ := o.glob hg
            exact e_cst (v := .ref _) (pe_glob h1 (o.gl _ _ h4) rfl h2) fun H β => .own _
          · cases h
  · cases h; exact e_cst pe_int fun H β => .int _
  · cases h; exact e_cst pe_bl fun H β => .bl _
  · cases h; exact e_cst pe_non fun H β => .non
  · cases h; exact e_cst pe_str fun H β => .str _
  · -- an operator
    split at h
    · rename_i e1 e2 e3
      cases h
      have := opB_inv e1
      subst this
      exact e_bin (ih.E o _ _ e2) (ih.E o _ _ e3)
    · cases h
  · obtain ⟨x, hx, rfl⟩ := Option.map_eq_some_iff.mp h
    exact e_neg (ih.E o _ _ hx)
  · obtain ⟨x, hx, rfl⟩ := Option.map_eq_some_iff.mp h
    exact e_not (ih.E o _ _ hx)
  · split at h
    · cases h
    · rename_i hm
      split at h
      · rename_i e1 e2
        cases h
        exact e_cmp o.un (ih.E o _ _ e1) (ih.E o _ _ e2) (by simpa using hm)
      · cases h
  · split at h
    · cases h
    · rename_i hm
      split at h
      · rename_i e1 e2 e3
        cases h
        exact e_chn o.un (ih.E o _ _ e1) (ih.E o _ _ e2) (ih.E o _ _ e3) (by simpa using hm)
      · cases h
  · exact pe_one (ih.E o _ _ h)
  · split at h
    · rename_i e1 e2
      cases h
      exact e_and (ih.E o _ _ e1) (ih.E o _ _ e2)
    · cases h
  · split at h
    · rename_i e1 e2
      cases h
      exact e_or (ih.E o _ _ e1) (ih.E o _ _ e2)
    · cases h
  · split at h
    · rename_i hn
      split at h
      · rename_i e1 e2 e3
        cases h
        exact e_ife (ih.T o _ _ hn e1) (ih.E o _ _ e2) (ih.E o _ _ e3)
      · cases h
    · cases h
  · -- a call of a name
    split at h
    · rename_i hg
      split at h
      · rename_i hc
        obtain ⟨ds, hd, rfl⟩ := Option.map_eq_some_iff.mp h
        exact e_call o hc hg hd (sL (fun e de => ih.E o e de) _ _ hd)
      · cases h
    · rename_i hg
      split at h
      · rename_i y p2 z hx
        split at h
        · rename_i hy
          obtain ⟨hy, hk⟩ := Bool.and_eq_true_iff.mp hy
          obtain ⟨k1, k2⟩ := okN_1 hk
          have hy := eq_of_beq hy
          subst hy
          obtain ⟨cs, hcs, rfl⟩ := Option.map_eq_some_iff.mp h
          exact e_eisi o hx hg hcs k1 k2
        · cases h
      · cases h
      · split at h
        · rename_i hc
          obtain ⟨hc, he⟩ := Bool.and_eq_true_iff.mp hc
          obtain ⟨ds, hd, rfl⟩ := Option.map_eq_some_iff.mp h
          exact e_bi o hc hg (by simpa using he) hd (sL (fun e de => ih.E o e de) _ _ hd)
        · cases h
    · rename_i hg
      split at h
      · rename_i hc
        obtain ⟨hc, he⟩ := Bool.and_eq_true_iff.mp hc
        obtain ⟨ds, hd, rfl⟩ := Option.map_eq_some_iff.mp h
        exact e_bi o hc hg (by simpa using he) hd (sL (fun e de => ih.E o e de) _ _ hd)
      · cases h
    · rename_i hg
      split at h
      · rename_i b hb
        split at h
        · rename_i hc
          obtain ⟨hc, he⟩ := Bool.and_eq_true_iff.mp hc
          obtain ⟨ds, hd, rfl⟩ := Option.map_eq_some_iff.mp h
          exact e_ty o hc hg hb (by simpa using he) hd (sL (fun e de => ih.E o e de) _ _ hd)
        · cases h
      · cases h
    · cases h
  · -- a method
    split at h
    · rename_i hc
      obtain ⟨hc, h3⟩ := Bool.and_eq_true_iff.mp hc
      obtain ⟨h1, h2⟩ := Bool.and_eq_true_iff.mp hc
      split at h
      · rename_i e1 e2 e3
        cases h
        exact e_bm e1 h1 h2 (of_decide_eq_true h3) (ih.E o _ _ e2) e3 (sL (fun e de => ih.E o e de) _ _ e3)
      · cases h
    · cases h
  · -- a slice
    split at h
    · rename_i e1 e2 e3
      cases h
      exact e_sl (ih.E o _ _ e1) (sO (fun e de => ih.E o e de) e2) (sO (fun e de => ih.E o e de) e3)
    · cases h
  · split at h
    · rename_i hs
      split at h
      · rename_i e1 e2
        cases h
        exact e_ix (ih.E o _ _ e1) (ih.E o _ _ e2) hs
      · cases h
    · cases h
  · obtain ⟨x, hx, rfl⟩ := Option.map_eq_some_iff.mp h
    exact e_tup (sL (fun e de => ih.E o e de) _ _ hx)
  · obtain ⟨x, hx, rfl⟩ := Option.map_eq_some_iff.mp h
    exact e_lst (sL (fun e de => ih.E o e de) _ _ hx)
  · exact lc_case ih o h0
  · split at h
    · rename_i hc
      obtain ⟨hc, hk⟩ := Bool.and_eq_true_iff.mp hc
      obtain ⟨k1, k2⟩ := okN_1 hk
      cases h
      exact e_efld o (by simpa using hc) k1 k2
    · cases h
  · cases h

theorem sp_W (ih : SP n) (o : XOk ca R X c C) (op : BoolOp) (es : List Expr) (pos : Pos) (de : DE) (hn : noIf (n + 1) (.BoolOp op es pos) = true) (h : compE (n + 1) c (.BoolOp op es pos) = some de) : PW X (.BoolOp op es pos) (LT X.K ca R (wpE C de)) := by
  have hall : es.all (noIf n) = true := hn
  have hdown : ∀ x ∈ es, noIf n x = true := List.all_eq_true.mp hall
  match es, op, h with
  | [], .And, h => cases h
  | [], .Or, h => cases h
  | [a], .And, h => exact pw_and1 (ih.T o _ _ (hdown a List.mem_cons_self) h)
  | [a], .Or, h => exact pw_or1 (ih.T o _ _ (hdown a List.mem_cons_self) h)
  | a :: b :: r, .And, h =>
    unfold compE at h
    dsimp only at h
    split at h
    · rename_i e1 e2
      cases h
      refine w_and (ih.T o _ _ (hdown a List.mem_cons_self) e1) (ih.W o _ _ _ _ ?_ e2)
      exact noIf_down n _ (by
        show (b :: r).all (noIf n) = true
        exact List.all_eq_true.mpr fun x hx => hdown x (List.mem_cons_of_mem _ hx))
    · cases h
  | a :: b :: r, .Or, h =>
    unfold compE at h
    dsimp only at h
    split at h
    · rename_i e1 e2
      cases h
      refine w_or (ih.T o _ _ (hdown a List.mem_cons_self) e1) (ih.W o _ _ _ _ ?_ e2)
      exact noIf_down n _ (by
        show (b :: r).all (noIf n) = true
        exact List.all_eq_true.mpr fun x hx => hdown x (List.mem_cons_of_mem _ hx))
    · cases h
theorem sp_T (ih : SP n) (o : XOk ca R X c C) (e : Expr) (de : DE) (hn : noIf (n + 1) e = true) (h : compE (n + 1) c e = some de) : PT X e (LT X.K ca R (wpE C de)) := by
  cases e with
  | BoolOp op es pos => exact (sp_W ih o op es pos de hn h).pt
  | IfExp t a b pos => cases hn
  | UnaryOp op a pos =>
    cases op with
    | Not =>
      unfold compE at h
      obtain ⟨x, hx, rfl⟩ := Option.map_eq_some_iff.mp h
      exact t_not (ih.T o _ _ hn hx)
    | _ => exact t_of (sp_E ih o _ _ h) (fun _ => rfl)
  | Compare l ops rs pos =>
    match ops, rs, h with
    | [p], [r], h =>
      unfold compE at h
      dsimp only at h
      split at h
      · cases h
      · rename_i hm
        split at h
        · rename_i e1 e2
          cases h
          exact t_cmp o.un (ih.E o _ _ e1) (ih.E o _ _ e2) (by simpa using hm)
        · cases h
    | [p, q], [a, b], h =>
      unfold compE at h
      dsimp only at h
      split at h
      · cases h
      · rename_i hm
        split at h
        · rename_i e1 e2 e3
          cases h
          exact t_chn o.un (ih.E o _ _ e1) (ih.E o _ _ e2) (ih.E o _ _ e3) (by simpa using hm)
        · cases h
    | [], _, h => cases h
    | [_], [], h => cases h
    | [_], _ :: _ :: _, h => cases h
    | [_, _], [], h => cases h
    | [_, _], [_], h => cases h
    | [_, _], _ :: _ :: _ :: _, h => cases h
    | _ :: _ :: _ :: _, _, h => cases h
  | _ => exact t_of (sp_E ih o _ _ h) (fun _ => rfl)
end
theorem sp : ∀ n, SP n
  | 0 => ⟨fun _ _ _ h => (nomatch h), fun _ _ _ _ h => (nomatch h), fun _ _ _ _ _ _ h => (nomatch h)⟩
  | n + 1 => ⟨fun o e de => sp_E (sp n) o e de, fun o e de => sp_T (sp n) o e de, fun o op es pos de => sp_W (sp n) o op es pos de⟩
end PD

set_option Elab.async false
set_option linter.all false
set_option maxRecDepth 100000
set_option maxHeartbeats 4000000
namespace PD
open PySem PySem.Spec PyProof.Rows L2
/-! ### statements -/
def LD (K : PySem.W.Frag) (ca : Nat → Addr) (R : Root) (β : List Addr) (H : Hp) (D : Ends) : DEnds where
  nx := fun env S => ∀ β' σ' H', Sim K ca R env S β' σ' H' → Gr K β H β' H' → D.nx σ' H'
  rt := fun d S => HQ K ca β H D.rt d S
  bk := fun env S => ∀ β' σ' H', Sim K ca R env S β' σ' H' → Gr K β H β' H' → D.bk σ' H'
  ct := fun env S => ∀ β' σ' H', Sim K ca R env S β' σ' H' → Gr K β H β' H' → D.ct σ' H'
def LS (K : PySem.W.Frag) (ca : Nat → Addr) (R : Root) (w : DEnds → DEnv → Store → Prop) : TS := fun D σ H => ∃ env S β, Sim K ca R env S β σ H ∧ w (LD K ca R β H D) env S
theorem LD.step {K : PySem.W.Frag} {ca : Nat → Addr} {R : Root} {β β' : List Addr} {H H' : Hp} {D : Ends} (g : Gr K β H β' H') : (LD K ca R β H D).Le (LD K ca R β' H' D) :=
  ⟨fun _ _ h β2 σ2 H2 s g2 => h β2 σ2 H2 s (g.trans g2), fun _ _ h => h.step g, fun _ _ h β2 σ2 H2 s g2 => h β2 σ2 H2 s (g.trans g2), fun _ _ h β2 σ2 H2 s g2 => h β2 σ2 H2 s (g.trans g2)⟩
theorem wpS_m (C : SC) (s : DS) {B B' : DEnds} {env : DEnv} {S : Store} (h : B.Le B') (q : wpS C s B env S) : wpS C s B' env S := wpS_mono C C.xq (fun _ _ _ z => z) s B B' env S h q
theorem wpSs_m (C : SC) (s : List DS) {B B' : DEnds} {env : DEnv} {S : Store} (h : B.Le B') (q : wpSs C s B env S) : wpSs C s B' env S := wpSs_mono C C.xq (fun _ _ _ z => z) s B B' env S h q
section
variable {ca : Nat → Addr} {R : Root} {X : Cx} {c : Ctx} {C : SC} {n : Nat} {pos : Pos}
/-- a block -/
theorem s_nil : PSs X [] (LS X.K ca R (wpSs C [])) := PSs.imp pss_nil fun D σ H ⟨env, S, β, s, h⟩ => by
  unfold wpSs at h
  exact h β σ H s Gr.refl
theorem s_cons {st : Stmt} {r : List Stmt} {d : DS} {ds : List DS} (h1 : PS X st (LS X.K ca R (wpS C d))) (h2 : PSs X r (LS X.K ca R (wpSs C ds))) : PSs X (st :: r) (LS X.K ca R (wpSs C (d :: ds))) :=
  PSs.imp (pss_cons h1 h2) fun D σ H ⟨env, S, β, s, h⟩ => by
    unfold wpSs at h
    refine ⟨env, S, β, s, wpS_m C d (DEnds.Le.mk ?_ ?_ ?_ ?_) h⟩
    · intro e' S' h β' σ' H' s' g'
      exact ⟨e', S', β', s', wpSs_m C ds (LD.step g') h⟩
    · intro _ _ z; exact z
    · intro _ _ z; exact z
    · intro _ _ z; exact z
/-! assignments -/
theorem asg_read {de : DE} {t : DT} (D : Ends) (σ : L2.St) (H : Hp) (h : LS X.K ca R (wpS C (.asg t de)) D σ H) : tAsg (LE X.K ca R (wpE C de)) (LG X.K ca R (fun _ => True) (wpT C t)) D σ H := by
  obtain ⟨env, S, β, s, h⟩ := h
  unfold wpS at h
  refine ⟨env, S, β, s, wpE_m _ _ _ _ _ _ (fun d S1 h β1 v H1 s1 g1 r1 => ?_) h⟩
  refine ⟨env, S1, β1, d, s.grow s1 g1, r1, wpT_m _ _ _ _ _ _ _ (fun e2 S2 h β2 σ2 H2 s2 g2 l2 k2 => ?_) h⟩
  exact h β2 σ2 H2 s2 (g1.trans g2)
theorem sw_no {t e : Expr} {l : Nat} {env : Env} (hs : env.scope = c.sc) (h : swapFree c t e = true) : swapsWithSole [t] e l env = pure false := by
  unfold swapFree at h
  cases e with
  | ListComp elt gs sc pos =>
    cases t with
    | Name y py =>
      dsimp only at h
      have h' : (kindL c y == some .local && py.line == pos.line && !(sc.names.any fun (n, k) => n == y && (k == .local || k == .cell))) = false := by
        rw [Bool.not_eq_true'] at h
        exact h
      show (pure (env.blockKind == .function && env.kindOf y == some .local && py.line == pos.line && !(sc.names.any fun (n, k) => n == y && (k == .local || k == .cell))) : Sem Bool) = pure false
      have e1 : env.kindOf y = kindL c y := by
        show env.scope.names.lookup y = c.sc.names.lookup y
        rw [hs]
      have key : ∀ a b c d : Bool, (b && c && d) = false → (a && b && c && d) = false := by decide
      rw [e1, key _ _ _ _ h']
    | _ => rfl
  | SetComp _ _ _ _ => cases h
  | DictComp _ _ _ _ _ => cases h
  | _ => rfl
theorem sw_none {t e : Expr} {env : Env} (h : isPar t e = false) (hl : ∀ ts p, t ≠ .List ts p) : swappedStores [t] e env = pure none := by
  cases t with
  | Tuple ts k p =>
    cases e with
    | Tuple _ _ _ => cases h
    | _ => rfl
  | List ts p => exact absurd rfl (hl ts p)
  | _ => rfl
theorem as_one {t : Expr} {env : Env} (h : plainE t = true) : (assignEach [t] env).map (·.2) = [assign t env] := by
  rw [assignEach_cons h]
  rfl
theorem s_asg {t e : Expr} {dt : DT} {de : DE} (o : XOk ca R X c C) (he : PE X e (LE X.K ca R (wpE C de))) (hg : PG X t (LG X.K ca R (fun _ => True) (wpT C dt))) (hs : swapFree c t e = true) (hp : isPar t e = false) (hl : ∀ ts p, t ≠ .List ts p) (hpl : plainE t = true) :
    PS X (.Assign [t] e pos) (LS X.K ca R (wpS C (.asg dt de))) :=
  PS.imp (ps_asg he hg (sw_no o.sc hs) (sw_none hp hl) (as_one hpl)) asg_read
theorem s_ex {e : Expr} {de : DE} (he : PE X e (LE X.K ca R (wpE C de))) (hn : noComp e = true) : PS X (.Expr e pos) (LS X.K ca R (wpS C (.ex de))) :=
  PS.imp (ps_expr he (by cases e <;> first | rfl | cases hn)) fun D σ H ⟨env, S, β, s, h⟩ => by
    unfold wpS at h
    refine ⟨env, S, β, s, wpE_m _ _ _ _ _ _ (fun d S1 h β1 v H1 s1 g1 r1 => ?_) h⟩
    exact h β1 σ H1 (s.grow s1 g1) g1
theorem s_ret {e : Expr} {de : DE} (he : PE X e (LE X.K ca R (wpE C de))) : PS X (.Return (some e) pos) (LS X.K ca R (wpS C (.ret (.some de)))) :=
  PS.imp (ps_ret he) fun D σ H ⟨env, S, β, s, h⟩ => by
    unfold wpS wpO at h
    refine ⟨env, S, β, s, wpE_m _ _ _ _ _ _ (fun d S1 h => ?_) h⟩
    exact h
theorem s_retN : PS X (.Return none pos) (LS X.K ca R (wpS C (.ret .none))) :=
  PS.imp ps_retN fun D σ H ⟨env, S, β, s, h⟩ => by
    unfold wpS wpO at h
    exact HQ.now s.h .non h
theorem s_if {t : Expr} {a b : List Stmt} {dc : DE} {da db : List DS} (ht : PT X t (LT X.K ca R (wpE C dc))) (ha : PSs X a (LS X.K ca R (wpSs C da))) (hb : PSs X b (LS X.K ca R (wpSs C db))) : PS X (.If t a b pos) (LS X.K ca R (wpS C (.ifs dc da db))) :=
  PS.imp (ps_if ht ha hb) fun D σ H ⟨env, S, β, s, h⟩ => by
    unfold wpS at h
    refine ⟨env, S, β, s, wpE_m _ _ _ _ _ _ (fun d S1 h => ?_) h⟩
    unfold HB
    refine onO_mono (fun k q β1 H1 s1 g1 => ?_) h
    by_cases hk : k = true
    · rw [if_pos hk] at q ⊢
      exact ⟨env, S1, β1, s.grow s1 g1, wpSs_m C da (LD.step g1) q⟩
    · rw [if_neg hk] at q ⊢
      exact ⟨env, S1, β1, s.grow s1 g1, wpSs_m C db (LD.step g1) q⟩
theorem s_pas : PS X (.Pass pos) (LS X.K ca R (wpS C .pas)) := PS.imp ps_pass fun D σ H ⟨env, S, β, s, h⟩ => by
  unfold wpS at h
  exact h β σ H s Gr.refl
theorem s_brk : PS X (.Break pos) (LS X.K ca R (wpS C .brk)) := PS.imp ps_break fun D σ H ⟨env, S, β, s, h⟩ => by
  unfold wpS at h
  exact h β σ H s Gr.refl
theorem s_cnt : PS X (.Continue pos) (LS X.K ca R (wpS C .cnt)) := PS.imp ps_continue fun D σ H ⟨env, S, β, s, h⟩ => by
  unfold wpS at h
  exact h β σ H s Gr.refl
theorem s_doc {x : Str} {j : Nat} {p2 : Pos} : PS X (.Expr (.Constant (.str x) j p2) pos) (LS X.K ca R (wpS C .pas)) := PS.imp ps_doc fun D σ H ⟨env, S, β, s, h⟩ => by
  unfold wpS at h
  exact h β σ H s Gr.refl
theorem s_aug {x : Str} {i : Nat} {bo : BO} {o2 : Operator} {f : Int → Int → Int} {e : Expr} {de : DE} {p2 : Pos} (o : XOk ca R X c C) (hi : ixOf x c.N 0 = some i) (hw : (kindL c x == some .local || (c.fn && kindL c x == some .cell)) = true) (hne : (c.exn == some x) = false)
    (he : PE X e (LE X.K ca R (wpE C de))) (hp : PIp X o2 (ipI f)) (hb : ∀ (S : Store) (i : Int) (y : D) (Q : DQ), wpBin S bo (.int i) y Q → ∃ j, y = .int j ∧ Q (.int (f i j)) S) : PS X (.AugAssign (.Name x p2) o2 e pos) (LS X.K ca R (wpS C (.aug i bo de))) := by
  obtain ⟨w1, w2⟩ := o.wr hw
  refine PS.imp (ps_aug (by rw [o.N]; exact o.nd) (by rw [o.N]; exact ixOf_at hi) w1 he hp w2) fun D σ H ⟨env, S, β, s, h⟩ => ?_
  unfold wpS at h
  split at h
  · rename_i x0 ex
    obtain ⟨v, hv, rv⟩ := s.ev _ _ ex
    refine ⟨v, hv, env, S, β, s, wpE_m _ _ _ _ _ _ (fun d S1 h β1 u H1 s1 g1 r1 => ?_) h⟩
    split at h
    · obtain ⟨j, rfl, q⟩ := hb _ _ _ _ h
      cases rv
      cases r1
      refine ⟨_, _, rfl, rfl, ?_⟩
      exact q β1 _ H1 ((s.grow s1 g1).set (.int _) (o.noex (ixOf_at hi) hne)) g1
    · exact h.elim
  · exact h.elim
/-! loops -/
theorem s_wh {t : Expr} {b : List Stmt} {dc : DE} {db : List DS} (o : XOk ca R X c C) (ht : PT X t (LT X.K ca R (wpE C dc))) (hb : PSs X b (LS X.K ca R (wpSs C db))) : PS X (.While t b [] pos) (LS X.K ca R (wpS C (.wh dc db))) :=
  PS.imp (ps_while o.po ht hb) fun D σ H ⟨env, S, β, s, h⟩ => by
    unfold wpS at h
    obtain ⟨W, ⟨m, w0⟩, h⟩ := h
    refine ⟨fun m σ' H' => ∃ env S β', Sim X.K ca R env S β' σ' H' ∧ Gr X.K β H β' H' ∧ W m env S, ⟨m, env, S, β, s, Gr.refl, w0⟩, fun m σ' H' ⟨env, S, β', s', g', w⟩ => ?_⟩
    refine ⟨env, S, β', s', wpE_m _ _ _ _ _ _ (fun x S1 q => ?_) (h m env S w)⟩
    unfold HB
    refine onO_mono (fun k q β1 H1 s1 g1 => ?_) q
    by_cases hk : k = true
    · rw [if_pos hk] at q ⊢
      refine ⟨fun σ2 H2 => ∃ m', m' < m ∧ ∃ env S β', Sim X.K ca R env S β' σ2 H2 ∧ Gr X.K β H β' H2 ∧ W m' env S, fun σ2 H2 z => z, env, S1, β1, s'.grow s1 g1, wpSs_m C db (DEnds.Le.mk ?_ ?_ ?_ ?_) q⟩
      · intro e2 S2 ⟨m', hm, w'⟩ β2 σ2 H2 s2 g2
        exact ⟨m', hm, e2, S2, β2, s2, (g'.trans g1).trans g2, w'⟩
      · intro d S z
        exact z.step (g'.trans g1)
      · intro e2 S2 z β2 σ2 H2 s2 g2
        exact z β2 σ2 H2 s2 ((g'.trans g1).trans g2)
      · intro e2 S2 ⟨m', hm, w'⟩ β2 σ2 H2 s2 g2
        exact ⟨m', hm, e2, S2, β2, s2, (g'.trans g1).trans g2, w'⟩
    · rw [if_neg hk] at q ⊢
      exact q β1 σ' H1 (s'.grow s1 g1) (g'.trans g1)
theorem s_fr {tg it : Expr} {b : List Stmt} {dt : DT} {di : DI} {db : List DS} (o : XOk ca R X c C) (hc : c.calm = true) (hset : noSet it = true) (hi : PI X tg it (LI X.K ca R (wpI C di))) (hg : PG X tg (LG X.K ca R (fun _ => True) (wpT C dt))) (hb : PSs X b (LS X.K ca R (wpSs C db))) :
    PS X (.For tg it b [] pos) (LS X.K ca R (wpS C (.fr dt di db))) :=
  PS.imp (ps_for o.po (o.calm hc) hi hg hb (compI_set (E := fun _ => none) hset)) fun D σ H ⟨env, S, β, s, h⟩ => by
    unfold wpS at h
    refine ⟨env, S, β, s, wpI_m _ _ _ _ _ _ (fun src items S1 h β1 H1 J s1 g1 wk => ?_) h⟩
    obtain ⟨st1, h⟩ := h
    refine ⟨fun i m σ' H' => ∃ env S' β', i + m = items.length ∧ Sim X.K ca R env S' β' σ' H' ∧ Gr X.K β1 H1 β' H' ∧ still src S' ∧ frGo src (fun d B' env' S' => wpT C dt d env' S' fun e2 S2 => wpSs C db B' e2 S2) (LD X.K ca R β H D) (items.drop i) env S',
      ⟨items.length, env, S1, β1, Nat.zero_add _, s.grow s1 g1, Gr.refl, st1, by rw [List.drop_zero]; exact h⟩, fun i m σ' H' hW => ?_⟩
    obtain ⟨env', S', β', him, s', g', st', h⟩ := hW
    rcases Nat.lt_or_ge i items.length with hi | hi
    · refine .inr ⟨wk.go S' β' H' i s'.h g' st' hi, fun σ2 H2 => ∃ env S2 β2, Sim X.K ca R env S2 β2 σ2 H2 ∧ Gr X.K β1 H1 β2 H2 ∧ still src S2 ∧ frGo src (fun d B' env' S' => wpT C dt d env' S' fun e2 S2 => wpSs C db B' e2 S2) (LD X.K ca R β H D) (items.drop (i + 1)) env S2,
        fun σ2 H2 ⟨e2, S2, β2, a, b, c', d⟩ => ⟨m - 1, by omega, e2, S2, β2, by omega, a, b, c', d⟩, fun x H2 hy => ?_⟩
      obtain ⟨d, hd, s3, g3, r3⟩ := wk.yld S' β' H' i x H2 s'.h g' st' hi hy
      have hdrop : items.drop i = d :: items.drop (i + 1) := by
        rw [List.drop_eq_getElem_cons hi]
        rw [List.getElem?_eq_getElem hi] at hd
        cases hd
        rfl
      rw [hdrop] at h
      unfold frGo at h
      refine ⟨env', S', β', d, s'.grow s3 g3, r3, wpT_m _ _ _ _ _ _ _ (fun e4 S4 h β4 σ4 H4 s4 g4 l4 k4 => ?_) h⟩
      have gg : Gr X.K β1 H1 β4 H4 := (g'.trans g3).trans g4
      refine ⟨e4, S4, β4, s4, wpSs_m C db (DEnds.Le.mk ?_ ?_ ?_ ?_) h⟩
      · intro e5 S5 z β5 σ5 H5 s5 g5
        exact ⟨e5, S5, β5, s5, gg.trans g5, z.1, z.2⟩
      · intro d5 S5 z
        exact HQ.step (g1.trans gg) z
      · intro e5 S5 z β5 σ5 H5 s5 g5
        exact z β5 σ5 H5 s5 ((g1.trans gg).trans g5)
      · intro e5 S5 z β5 σ5 H5 s5 g5
        exact ⟨e5, S5, β5, s5, gg.trans g5, z.1, z.2⟩
    · have e : i = items.length := by omega
      subst e
      rw [List.drop_length] at h
      unfold frGo at h
      exact .inl ⟨wk.stop S' β' H' s'.h g' st', h β' σ' H' s' (g1.trans g')⟩
end
end PD

set_option Elab.async false
set_option linter.all false
set_option maxRecDepth 100000
set_option maxHeartbeats 4000000
namespace PD
open PySem PySem.Spec PyProof.Rows L2
theorem zip_fld {K : PySem.W.Frag} {ca : Nat → Addr} {H : Hp} {β : List Addr} : ∀ {fs : List Str} {ds : List D} {vs : List V}, RDs K ca H β ds vs → RFld K ca H β (fs.zip ds) (fs.zip vs)
  | [], ds, vs, _ => fun f => ⟨fun x h => (nomatch h), fun _ => rfl⟩
  | g :: fs, [], vs, h => by
    cases h
    exact fun f => ⟨fun x h => (nomatch h), fun _ => rfl⟩
  | g :: fs, d :: ds, vs, h => by
    cases h with
    | cons h1 h2 =>
      have ih := zip_fld (fs := fs) h2
      intro f
      rw [List.zip_cons_cons, List.zip_cons_cons, List.lookup_cons, List.lookup_cons]
      cases f == g with
      | true =>
        refine ⟨fun x e => ?_, fun e => by cases e⟩
        cases e
        exact ⟨_, rfl, h1⟩
      | false => exact ih f
theorem RFld.look {K : PySem.W.Frag} {ca : Nat → Addr} {H : Hp} {β : List Addr} {fs : List (Str × D)} {fv gv : List (Str × V)} (h : RFld K ca H β fs fv) (e : ∀ f, gv.lookup f = fv.lookup f) : RFld K ca H β fs gv := fun f => by
  rw [e f]
  exact h f
theorem Sim.root {K : PySem.W.Frag} {ca : Nat → Addr} {R R' : Root} {env : DEnv} {S : Store} {β : List Addr} {σ : L2.St} {H : Hp} (s : Sim K ca R' env S β σ H) (g : Gr K R.β R.H β H) (hx : R.exn = R'.exn) : Sim K ca R env S β σ H where
  h := s.h
  el := s.el
  ev := s.ev
  gr := g
  ex := fun x e => s.ex x (by rw [← hx]; exact e)
section
variable {ca : Nat → Addr} {R : Root} {X : Cx} {c : Ctx} {C : SC} {n : Nat} {pos : Pos}
theorem s_rse (o : XOk ca R X c C) (hc : c.calm = true) (ht : c.top = true) {f : Expr → Option DE} {x : Str} {k : Nat} {fs : List Str} {es : List Expr} {ds : DEs} {p p2 : Pos} (hg : globOf c x = some (.exc k fs)) (hne : es.isEmpty = false) (hl : compL f es = some ds) (ha : PA X es (LA X.K ca R (wpEs C ds))) :
    PS X (.Raise (some (.Call (.Name x p) es [] p2)) none pos) (LS X.K ca R (wpS C (.rse k fs ds))) := by
  obtain ⟨h1, h2, h3, h4⟩ := o.glob hg
  obtain ⟨W, tk, hW⟩ := o.tk
  cases es with
  | nil => cases hne
  | cons e es =>
    obtain ⟨hp, d, r, rfl, e1, e2⟩ := compL_cons hl
    have rk := o.rs ht X.pn X.xe x k fs h4 e es _ p p2 h1 ha (starEach_cons hp) (compL_any e2)
    refine PS.imp (ps_raise (o.calm hc) tk rk) fun D σ H ⟨env, S, β, s, h⟩ => ?_
    unfold wpS at h
    refine ⟨env, S, β, s, wpEs_m _ _ _ _ _ _ (fun ds S1 h β1 vs H1 s1 g1 r1 => ?_) h⟩
    refine ⟨by rw [← r1.length]; exact h.1, fun d fv hd hfv => ?_⟩
    have g2 : Gr X.K β1 H1 β1 (upd H1 d (.xd fv)) := Gr.fresh hd
    exact hW _ env S1 β1 σ _ _ _ h.2 ((s.grow s1 g1).grow (s1.fresh hd) g2) ⟨rfl, .inr ⟨d, fv, rfl, upd_same, (zip_fld (r1.grow g2)).look hfv⟩⟩
/-! ### try -/
theorem XOk.nosl (o : XOk ca R X c C) (hc : c.calm = true) : ∀ x, R.exn = some x → x.slot = none := fun x hx => by
  cases e : x.slot with
  | none => rfl
  | some i =>
    obtain ⟨n, hn, _⟩ := o.exs x hx i e
    rw [o.nosuite hc] at hn
    cases hn
/-- the body of a try -/
theorem XOk.tr (o : XOk ca R X c C) (hc : c.calm = true) {R' : Root} (hR : R'.exn = R.exn) {xq : Err → DEnv → Store → Prop} {W : WX} (hW : XLift X.K ca R' { C with xq := xq } W) {pn : List (Addr × Obj)} {xe : Value → Shared → Prop} (tk : Takes (X.tr pn xe) W) (po : PassesOwn (model X.prog X.w) X.A X.env xe) :
    XOk ca R' (X.tr pn xe) c { C with xq := xq } where
  N := o.N
  nd := o.nd
  sc := o.sc
  calm := o.calm
  fn := o.fn
  un := o.un
  gl := fun x g h => by
    have := o.gl x g h
    cases g with
    | bi b => cases b <;> exact this
    | _ => exact this
  fs := fun h x i hi => o.fs h x i hi
  rs := fun h pn xe x k fs hx => o.rs h pn xe x k fs hx
  ks := fun h k fs hk => by
    have q := o.ks h k fs hk
    exact ⟨q.xf, q.kx, q.no, q.ex, q.is⟩
  po := po
  tk := ⟨W, tk, hW⟩
  top := o.top
  exs := fun ei he => o.exs ei (by rw [← hR]; exact he)
  exn := fun n h => by
    rw [o.nosuite hc] at h
    cases h
/-- the suite of an except clause -/
theorem XOk.suite (o : XOk ca R X c C) (hc : c.calm = true) (ht : c.top = true) {a : Addr} {oe : Obj} {pn : List (Addr × Obj)} {cls : Value} {d : Option Addr} {er : Err} {nm : Option Str} {sl : Option Nat} {β : List Addr} {H : Hp} (hz : Zc cls d oe) (hf : ∃ vs, oe.data = .fields vs)
    (hk : C.kn er.cls (er.fs.map (·.1)) = true) (hs : (nm = none ∧ sl = none) ∨ ∃ y i, nm = some y ∧ sl = some i ∧ c.N[i]? = some y ∧ kindL c y = some .local) :
    XOk ca ⟨β, H, if sl.isSome then some ⟨sl, a, cls, d, er⟩ else none⟩ (X.suite a ((a, oe) :: pn)) (suiteCtx c nm) { C with exn := some er, xq := fun _ _ _ => False } where
  N := o.N
  nd := o.nd
  sc := o.sc
  calm := fun h => by cases h
  fn := o.fn
  un := o.un
  gl := fun x g h => by
    have := o.gl x g h
    cases g with
    | bi b => cases b <;> exact this
    | _ => exact this
  fs := fun h => by cases h
  rs := fun h => by cases h
  ks := fun h => by cases h
  po := PassesOwn.never
  tk := ⟨fun _ _ _ _ => False, takes0, fun _ _ _ _ _ _ _ _ h _ _ => h⟩
  top := fun h => by cases h
  exs := fun ei he i hi => by
    rcases hs with ⟨_, h2⟩ | ⟨y, j, h1, h2, h3, h4⟩
    · rw [h2] at he
      cases he
    · rw [h2] at he
      cases he
      cases hi
      exact ⟨y, h1, h3⟩
  exn := fun nn h => by
    rcases hs with ⟨h1, _⟩ | ⟨y, j, h1, h2, h3, h4⟩
    · rw [show (suiteCtx c nm).exn = nm from rfl, h1] at h
      cases h
    · have e : nm = some nn := h
      rw [h1] at e
      cases e
      have q := o.ks ht _ _ hk
      refine ⟨X, c, a, oe, pn, cls, d, er, j, rfl, hz, hf, ?_, rfl, h3, h4, rfl, ⟨q.xf, q.kx, q.no, q.ex, q.is⟩⟩
      rw [h2]
      rfl
/-- what the body of a try is to do -/
def tTry (K : PySem.W.Frag) (ca : Nat → Addr) (R : Root) (C : SC) (b : List DS) (W : WX) : TS := fun D σ H => ∃ R' xq, R'.exn = R.exn ∧ XLift K ca R' { C with xq := xq } W ∧ LS K ca R' (wpSs { C with xq := xq } b) D σ H
/-- .. and its suite -/
def tSuite (K : PySem.W.Frag) (ca : Nat → Addr) (C : SC) (sl : Option Nat) (b : List DS) (a : Addr) (cls : Value) (d : Option Addr) : TS := fun D σ H => ∃ er β0 H0, C.kn er.cls (er.fs.map (·.1)) = true ∧ LS K ca ⟨β0, H0, if sl.isSome then some ⟨sl, a, cls, d, er⟩ else none⟩ (wpSs { C with exn := some er, xq := fun _ _ _ => False } b) D σ H
theorem get_setN {env : DEnv} {i j : Nat} {d : D} (h : (env.set i none)[j]? = some (some d)) : env[j]? = some (some d) ∧ j ≠ i := by
  by_cases hj : j = i
  · subst hj
    by_cases hl : j < env.length
    · rw [List.getElem?_set_self hl] at h; cases h
    · rw [List.getElem?_eq_none (by rw [List.length_set]; omega)] at h; cases h
  · rw [List.getElem?_set_ne (Ne.symm hj)] at h
    exact ⟨h, hj⟩
/-- the name is stored; the name is gone -/
theorem Sim.named {K : PySem.W.Frag} {env : DEnv} {S : Store} {β : List Addr} {σ : L2.St} {H : Hp} (s : Sim K ca R env S β σ H) {i : Nat} {a : Addr} {cls : Value} {d : Option Addr} {er : Err} (hi : i < env.length) (hr : RErr K ca er cls d H β) :
    Sim K ca ⟨β, H, some ⟨some i, a, cls, d, er⟩⟩ (env.set i none) S β (σ.set i (some (.ref a))) H where
  h := s.h
  el := by rw [List.length_set, List.length_set]; exact s.el
  ev := fun j x h => by
    obtain ⟨h1, h2⟩ := get_setN h
    rw [List.getElem?_set_ne (Ne.symm h2)]
    exact s.ev j x h1
  gr := Gr.refl
  ex := fun x e => by
    cases e
    refine ⟨fun j hj => ?_, hr⟩
    cases hj
    exact List.getElem?_set_self (by rw [← s.el]; exact hi)
theorem Sim.gone {K : PySem.W.Frag} {R' : Root} {env : DEnv} {S : Store} {β : List Addr} {σ : L2.St} {H : Hp} (s : Sim K ca R' env S β σ H) (i : Nat) (g : Gr K R.β R.H β H) (hx : ∀ x, R.exn = some x → x.slot = none ∧ RErr K ca x.er x.cls x.d H β) : Sim K ca R (env.set i none) S β (σ.set i none) H where
  h := s.h
  el := by rw [List.length_set, List.length_set]; exact s.el
  ev := fun j x h => by
    obtain ⟨h1, h2⟩ := get_setN h
    rw [List.getElem?_set_ne (Ne.symm h2)]
    exact s.ev j x h1
  gr := g
  ex := fun x e => ⟨fun j hj => (by rw [(hx x e).1] at hj; cases hj), (hx x e).2⟩
theorem Sim.bare {K : PySem.W.Frag} {R' : Root} {env : DEnv} {S : Store} {β : List Addr} {σ : L2.St} {H : Hp} (s : Sim K ca R' env S β σ H) (g : Gr K R.β R.H β H) (hx : ∀ x, R.exn = some x → x.slot = none ∧ RErr K ca x.er x.cls x.d H β) : Sim K ca R env S β σ H where
  h := s.h
  el := s.el
  ev := s.ev
  gr := g
  ex := fun x e => ⟨fun j hj => (by rw [(hx x e).1] at hj; cases hj), (hx x e).2⟩
theorem names_of (o : XOk ca R X c C) {x : Str} {g : GK} {k : Nat} (hg : globOf c x = some g) (hk : g.cid = some k) : Names X x (g.cv ca) := by
  obtain ⟨h1, h2, h3, h4⟩ := o.glob hg
  have gx := o.gl x _ h4
  cases g with
  | cls j => exact ⟨h1, h2, .inl gx⟩
  | exc j fs => exact ⟨h1, h2, .inl gx⟩
  | xty j n => exact ⟨h1, h2, .inr ⟨gx.1, gx.2, h3⟩⟩
  | _ => cases hk
theorem s_tr1 (o : XOk ca R X c C) (hc : c.calm = true) (ht : c.top = true) {x y : Str} {g : GK} {k i : Nat} {body suite : List Stmt} {b₀ : Stmt} {np pos' : Pos} {db dsu : List DS} (hg : globOf c x = some g) (hk : g.cid = some k) (hi : ixOf y c.N 0 = some i) (hl : kindL c y = some .local)
    (hb : ∀ {R' : Root} {X' : Cx} {C' : SC}, X'.K = X.K → XOk ca R' X' c C' → PSs X' body (LS X'.K ca R' (wpSs C' db)))
    (hsu : ∀ {R' : Root} {X' : Cx} {C' : SC}, X'.K = X.K → XOk ca R' X' (suiteCtx c (some y)) C' → PSs X' (b₀ :: suite) (LS X'.K ca R' (wpSs C' dsu))) :
    PS X (.Try body [.ExceptHandler (some (.Name x np)) (some y) (b₀ :: suite) pos'] [] [] pos) (LS X.K ca R (wpS C (.tr db k (some i) dsu))) := by
  obtain ⟨W, tk, hW⟩ := o.tk
  obtain ⟨t1, t2⟩ := o.top ht
  have hi' := ixOf_at hi
  have nosl := o.nosl hc
  refine PS.imp (ps_try_as (i := i) (tb := tTry X.K ca R C db) (ts := tSuite X.K ca C (some i) dsu) t1 t2 (by rw [o.N]; exact o.nd) (by rw [o.N]; exact hi') ?_ (names_of o hg hk) tk (fun W' pn xe tk' po => ⟨fun pins s σ H D I h => ?_⟩) (fun a oe cls d pn hz hf => ⟨fun pins s σ H D I h => ?_⟩)) fun D σ H h => ?_
  · show X.env.scope.names.lookup y = some .local
    rw [o.sc]
    exact hl
  · obtain ⟨R', xq, hR, hx, h⟩ := h
    exact (hb (X' := X.tr pn xe) rfl (o.tr hc hR hx tk' po)).run pins s σ H D I h
  · obtain ⟨er, β0, H0, hkn, h⟩ := h
    exact (hsu (X' := X.suite a ((a, oe) :: pn)) rfl (o.suite (nm := some y) (sl := some i) (β := β0) (H := H0) hc ht hz hf hkn (.inr ⟨y, i, rfl, rfl, hi', hl⟩))).run pins s σ H D I h
  · obtain ⟨env, S, β, s, h⟩ := h
    unfold wpS at h
    refine ⟨⟨β, H, R.exn⟩, _, rfl, ?_, env, S, β, s.root Gr.refl rfl, wpSs_m _ db (DEnds.Le.mk ?_ ?_ ?_ ?_) h⟩
    · intro er env' S' β' σ' H' cls d hq s' re
      obtain ⟨q1, q2, q3, q4⟩ := hq
      have kk := o.ks ht _ _ q1
      obtain ⟨a1, a2, a3, a4⟩ := o.glob hg
      have g' : Gr X.K β H β' H' := s'.gr
      have rt : Sim X.K ca R env' S' β' σ' H' := s'.root (s.gr.trans g') rfl
      refine ⟨C.sub er.cls k, ?_, fun hs a ha => ?_, fun hs => hW er env' S' β' σ' H' cls d (q4 hs) rt re⟩
      · rw [re.1]
        exact kk.ex x g k a4 hk
      · refine ⟨er, β', H', q1, env'.set i none, S', β', s'.named q2 re, wpSs_m _ dsu (DEnds.Le.mk ?_ ?_ ?_ ?_) (q3 hs)⟩
        · intro e2 S2 z β2 σ2 H2 s2 g2
          exact z β2 _ H2 (s2.gone i (s.gr.trans (g'.trans g2)) fun x hx => ⟨nosl x hx, ((rt.ex x hx).2).grow g2⟩) (g'.trans g2)
        · intro d2 S2 z
          exact HQ.step g' z
        · intro e2 S2 z β2 σ2 H2 s2 g2
          exact z β2 _ H2 (s2.gone i (s.gr.trans (g'.trans g2)) fun x hx => ⟨nosl x hx, ((rt.ex x hx).2).grow g2⟩) (g'.trans g2)
        · intro e2 S2 z β2 σ2 H2 s2 g2
          exact z β2 _ H2 (s2.gone i (s.gr.trans (g'.trans g2)) fun x hx => ⟨nosl x hx, ((rt.ex x hx).2).grow g2⟩) (g'.trans g2)
    · intro e2 S2 z β2 σ2 H2 s2 g2
      exact z β2 σ2 H2 (s2.root (s.gr.trans g2) rfl) g2
    · intro d2 S2 z
      exact z
    · intro e2 S2 z β2 σ2 H2 s2 g2
      exact z β2 σ2 H2 (s2.root (s.gr.trans g2) rfl) g2
    · intro e2 S2 z β2 σ2 H2 s2 g2
      exact z β2 σ2 H2 (s2.root (s.gr.trans g2) rfl) g2
theorem s_tr0 (o : XOk ca R X c C) (hc : c.calm = true) (ht : c.top = true) {x : Str} {g : GK} {k : Nat} {body suite : List Stmt} {b₀ : Stmt} {np pos' : Pos} {db dsu : List DS} (hg : globOf c x = some g) (hk : g.cid = some k)
    (hb : ∀ {R' : Root} {X' : Cx} {C' : SC}, X'.K = X.K → XOk ca R' X' c C' → PSs X' body (LS X'.K ca R' (wpSs C' db)))
    (hsu : ∀ {R' : Root} {X' : Cx} {C' : SC}, X'.K = X.K → XOk ca R' X' (suiteCtx c none) C' → PSs X' (b₀ :: suite) (LS X'.K ca R' (wpSs C' dsu))) :
    PS X (.Try body [.ExceptHandler (some (.Name x np)) none (b₀ :: suite) pos'] [] [] pos) (LS X.K ca R (wpS C (.tr db k none dsu))) := by
  obtain ⟨W, tk, hW⟩ := o.tk
  obtain ⟨t1, t2⟩ := o.top ht
  have nosl := o.nosl hc
  refine PS.imp (ps_try_only (tb := tTry X.K ca R C db) (ts := tSuite X.K ca C none dsu) t1 t2 (names_of o hg hk) tk (fun W' pn xe tk' po => ⟨fun pins s σ H D I h => ?_⟩) (fun a oe cls d pn hz hf => ⟨fun pins s σ H D I h => ?_⟩)) fun D σ H h => ?_
  · obtain ⟨R', xq, hR, hx, h⟩ := h
    exact (hb (X' := X.tr pn xe) rfl (o.tr hc hR hx tk' po)).run pins s σ H D I h
  · obtain ⟨er, β0, H0, hkn, h⟩ := h
    exact (hsu (X' := X.suite a ((a, oe) :: pn)) rfl (o.suite (nm := none) (sl := none) (β := β0) (H := H0) hc ht hz hf hkn (.inl ⟨rfl, rfl⟩))).run pins s σ H D I h
  · obtain ⟨env, S, β, s, h⟩ := h
    unfold wpS at h
    refine ⟨⟨β, H, R.exn⟩, _, rfl, ?_, env, S, β, s.root Gr.refl rfl, wpSs_m _ db (DEnds.Le.mk ?_ ?_ ?_ ?_) h⟩
    · intro er env' S' β' σ' H' cls d hq s' re
      obtain ⟨q1, q2, q3, q4⟩ := hq
      have kk := o.ks ht _ _ q1
      obtain ⟨a1, a2, a3, a4⟩ := o.glob hg
      have g' : Gr X.K β H β' H' := s'.gr
      have rt : Sim X.K ca R env' S' β' σ' H' := s'.root (s.gr.trans g') rfl
      refine ⟨C.sub er.cls k, ?_, fun hs a ha => ?_, fun hs => hW er env' S' β' σ' H' cls d (q4 hs) rt re⟩
      · rw [re.1]
        exact kk.ex x g k a4 hk
      · refine ⟨er, β', H', q1, env', S', β', rt.bare Gr.refl (fun x hx => by cases hx), wpSs_m _ dsu (DEnds.Le.mk ?_ ?_ ?_ ?_) (q3 hs)⟩
        · intro e2 S2 z β2 σ2 H2 s2 g2
          exact z β2 _ H2 (s2.bare (s.gr.trans (g'.trans g2)) fun x hx => ⟨nosl x hx, ((rt.ex x hx).2).grow g2⟩) (g'.trans g2)
        · intro d2 S2 z
          exact HQ.step g' z
        · intro e2 S2 z β2 σ2 H2 s2 g2
          exact z β2 _ H2 (s2.bare (s.gr.trans (g'.trans g2)) fun x hx => ⟨nosl x hx, ((rt.ex x hx).2).grow g2⟩) (g'.trans g2)
        · intro e2 S2 z β2 σ2 H2 s2 g2
          exact z β2 _ H2 (s2.bare (s.gr.trans (g'.trans g2)) fun x hx => ⟨nosl x hx, ((rt.ex x hx).2).grow g2⟩) (g'.trans g2)
    · intro e2 S2 z β2 σ2 H2 s2 g2
      exact z β2 σ2 H2 (s2.root (s.gr.trans g2) rfl) g2
    · intro d2 S2 z
      exact z
    · intro e2 S2 z β2 σ2 H2 s2 g2
      exact z β2 σ2 H2 (s2.root (s.gr.trans g2) rfl) g2
    · intro e2 S2 z β2 σ2 H2 s2 g2
      exact z β2 σ2 H2 (s2.root (s.gr.trans g2) rfl) g2
end
end PD

set_option Elab.async false
set_option linter.all false
set_option maxRecDepth 100000
set_option maxHeartbeats 4000000
namespace PD
open PySem PySem.Spec PyProof.Rows L2
/-- the compiled statements are sound, to the depth n -/
def SS (n : Nat) : Prop := ∀ {ca : Nat → Addr} {R : Root} {X : Cx} {c : Ctx} {C : SC}, XOk ca R X c C → ∀ s d, compS n c s = some d → PS X s (LS X.K ca R (wpS C d))
section
variable {ca : Nat → Addr} {R : Root} {X : Cx} {c : Ctx} {C : SC} {n : Nat}
theorem sB (ih : SS n) (o : XOk ca R X c C) : ∀ (b : List Stmt) (db : List DS), compSs (compS n c) b = some db → PSs X b (LS X.K ca R (wpSs C db))
  | [], db, h => by
    cases h
    exact s_nil
  | s :: r, db, h => by
    unfold compSs at h
    split at h
    · rename_i x xs e1 e2
      cases h
      exact s_cons (ih o _ _ e1) (sB ih o r _ e2)
    · cases h
theorem add_b : ∀ (S : Store) (i : Int) (y : D) (Q : DQ), wpBin S .add (.int i) y Q → ∃ j, y = .int j ∧ Q (.int (i + j)) S := fun S i y Q h => by
  cases y with
  | int j => exact ⟨j, rfl, h⟩
  | _ => exact h.elim
theorem sub_b : ∀ (S : Store) (i : Int) (y : D) (Q : DQ), wpBin S .sub (.int i) y Q → ∃ j, y = .int j ∧ Q (.int (i - j)) S := fun S i y Q h => by
  cases y with
  | int j => exact ⟨j, rfl, h⟩
  | _ => exact h.elim
theorem opB_add {p : Operator} (h : opB p = some .add) : p = .Add := by cases p <;> first | rfl | cases h
theorem opB_sub {p : Operator} (h : opB p = some .sub) : p = .Sub := by cases p <;> first | rfl | cases h
theorem sub_inT (o : XOk ca R X c C) {t : Expr} {dt : DT} (h : compG n c t = some dt) : PG X t (LG X.K ca R (fun _ => True) (wpT C dt)) := by
  unfold compG at h
  split at h
  · rename_i oe ie p
    split at h
    · rename_i hs
      split at h
      · rename_i x y e1 e2
        cases h
        refine PG.imp (pg_sub ((sp n).E o _ _ e1) ((sp n).E o _ _ e2) (set_d (ca := ca)) (fun v => by cases ie <;> first | rfl | cases hs)) fun v σ H Q q => ?_
        obtain ⟨env, S, β, d, s, r, q⟩ := q
        unfold wpT at q
        refine ⟨env, S, β, s, wpE_m _ _ _ _ _ _ (fun x S1 h β1 v1 H1 s1 g1 r1 => ?_) q⟩
        refine ⟨env, S1, β1, s.grow s1 g1, wpE_m _ _ _ _ _ _ (fun y S2 h β2 v2 H2 s2 g2 r2 => ?_) h⟩
        refine ⟨S2, β2, x, y, d, s2, r1.grow g2, r2, r.grow (g1.trans g2), ?_⟩
        refine wpSet_mono (fun S3 h H3 s3 g3 => ?_) h
        exact h _ _ _ (s.grow s3 ((g1.trans g2).trans g3)) ((g1.trans g2).trans g3) rfl fun _ _ => rfl
      · cases h
    · cases h
  · exact sN o n _ _ h (inT_true _)
theorem compG_ok {t : Expr} {dt : DT} (h : compG n c t = some dt) : (∀ ts p, t ≠ .List ts p) ∧ plainE t = true := by
  cases t with
  | Name x p => exact ⟨fun _ _ z => (nomatch z), rfl⟩
  | Tuple es k p => exact ⟨fun _ _ z => (nomatch z), rfl⟩
  | Subscript a i p => exact ⟨fun _ _ z => (nomatch z), rfl⟩
  | _ =>
    unfold compG at h
    cases n <;> cases h
theorem swap_asg (o : XOk ca R X c C) {t e : Expr} {dt : DT} {de : DE} {pos : Pos} (hs : swapOn c t e = true) (h1 : compG n c t = some dt) (h2 : compE n c e = some de) : PS X (.Assign [t] e pos) (LS X.K ca R (wpS C (.asg dt de))) := by
  unfold swapOn at hs
  split at hs
  · rename_i y py elt gs sc lpos
    obtain ⟨hs, ha⟩ := Bool.and_eq_true_iff.mp hs
    obtain ⟨hs, hl⟩ := Bool.and_eq_true_iff.mp hs
    obtain ⟨hk, hf⟩ := Bool.and_eq_true_iff.mp hs
    cases n with
    | zero => cases h2
    | succ m =>
      obtain ⟨tg, iter, ifs, t, it, oc, dx, own, rfl, rfl, hc, hb, hset, hi, hg, ht, he⟩ := lc_inv (sp m) o h2
      have h1' : compN (m + 1) c (.Name y py) = some dt := h1
      unfold compN at h1'
      dsimp only at h1'
      split at h1'
      · split at h1'
        · cases h1'
        · rename_i hne
          obtain ⟨i, hi', rfl⟩ := Option.map_eq_some_iff.mp h1'
          refine PS.imp (s_lc o hc hb hset hi hg ht he hi' (by simpa using hk) (by simpa using hf) hl (by simpa using ha)) fun D σ H h => ?_
          obtain ⟨env, S, β, s, h⟩ := h
          unfold wpS at h
          refine ⟨env, S, β, s, wpE_m _ _ _ _ _ _ (fun d S1 h β1 v H1 s1 g1 r1 => ?_) h⟩
          unfold wpT at h
          exact h β1 _ H1 ((s.grow s1 g1).set r1 (o.noex (ixOf_at hi') (by simpa using hne))) g1
      · cases h1'
  · cases hs
theorem ss_step (ih : SS n) (o : XOk ca R X c C) (s : Stmt) (d : DS) (h : compS (n + 1) c s = some d) : PS X s (LS X.K ca R (wpS C d)) := by
  have E := (sp n).E o
  have T := (sp n).T o
  unfold compS at h
  split at h
  · -- an assignment
    split at h
    · cases h
    · rename_i hp
      split at h
      · rename_i e1 e2
        split at h
        · rename_i hs
          cases h
          obtain ⟨k1, k2⟩ := compG_ok e1
          rcases Bool.or_eq_true_iff.mp hs with hs | hs
          · exact s_asg o (E _ _ e2) (sub_inT o e1) hs (by simpa using hp) k1 k2
          · exact swap_asg o hs e1 e2
        · cases h
      · cases h
  · -- op=
    split at h
    · rename_i hk
      split at h
      · cases h
      · rename_i hne
        split at h
        · rename_i e1 e2 e3
          cases h
          have := opB_add e2
          subst this
          exact s_aug o e1 hk (by simpa using hne) (E _ _ e3) ip_add add_b
        · rename_i e1 e2 e3
          cases h
          have := opB_sub e2
          subst this
          exact s_aug o e1 hk (by simpa using hne) (E _ _ e3) ip_sub sub_b
        · cases h
    · cases h
  · split at h
    · rename_i e p hd
      cases h
      unfold docE at hd
      split at hd
      · exact s_doc
      · cases hd
    · split at h
      · rename_i hn
        obtain ⟨x, hx, rfl⟩ := Option.map_eq_some_iff.mp h
        exact s_ex (E _ _ hx) hn
      · cases h
  · obtain ⟨x, hx, rfl⟩ := Option.map_eq_some_iff.mp h
    exact s_ret (E _ _ hx)
  · cases h
    exact s_retN
  · split at h
    · rename_i hn
      split at h
      · rename_i e1 e2 e3
        cases h
        exact s_if (T _ _ hn e1) (sB ih o _ _ e2) (sB ih o _ _ e3)
      · cases h
    · cases h
  · split at h
    · rename_i hc
      obtain ⟨hc, hs⟩ := Bool.and_eq_true_iff.mp hc
      split at h
      · rename_i e1 e2 e3
        cases h
        exact s_fr o hc hs (sI o E e2) (sN o n _ _ e1 (inT_true _)) (sB ih o _ _ e3)
      · cases h
    · cases h
  · split at h
    · rename_i hc
      obtain ⟨hc, hs⟩ := Bool.and_eq_true_iff.mp hc
      split at h
      · rename_i e1 e2
        cases h
        exact s_wh o (T _ _ hs e1) (sB ih o _ _ e2)
      · cases h
    · cases h
  · cases h; exact s_pas
  · cases h; exact s_brk
  · cases h; exact s_cnt
  · -- raise
    split at h
    · rename_i hc
      obtain ⟨hc, he⟩ := Bool.and_eq_true_iff.mp hc
      obtain ⟨hc, ht⟩ := Bool.and_eq_true_iff.mp hc
      split at h
      · rename_i e1 e2
        cases h
        exact s_rse o hc ht e1 (by simpa using he) e2 (sL E _ _ e2)
      · cases h
    · cases h
  · -- try
    split at h
    · rename_i hc
      obtain ⟨hc, ht⟩ := Bool.and_eq_true_iff.mp hc
      split at h
      · rename_i k nm su b e1 e2
        split at h
        · rename_i su' e3
          unfold hdOk at e1
          split at e1
          · rename_i x np y b0 r pos'
            obtain ⟨k', hk', e⟩ := Option.map_eq_some_iff.mp e1
            cases e
            obtain ⟨g, hg, hk⟩ := Option.bind_eq_some_iff.mp hk'
            split at h
            · cases h
              exact s_tr0 o hc ht hg hk (fun {R' X' C'} _ o' => sB ih o' _ _ e2) (fun {R' X' C'} _ o' => sB ih o' _ _ e3)
            · split at h
              · rename_i hl
                obtain ⟨i, hi, rfl⟩ := Option.map_eq_some_iff.mp h
                exact s_tr1 o hc ht hg hk hi (by simpa using hl) (fun {R' X' C'} _ o' => sB ih o' _ _ e2) (fun {R' X' C'} _ o' => sB ih o' _ _ e3)
              · cases h
          · cases e1
        · cases h
      · cases h
    · cases h
  · cases h
end
theorem ss : ∀ n, SS n
  | 0 => fun _ _ _ h => (nomatch h)
  | n + 1 => fun o s d => ss_step (ss n) o s d
end PD

set_option Elab.async false
set_option linter.all false
set_option maxRecDepth 100000
set_option maxHeartbeats 4000000
namespace PD
open PySem PySem.Spec PyProof.Rows L2
/-! ### a module's defs -/
structure Md where
  /-- the defs, each calling those ahead of it alone -/
  fnames : List Str
  oth : List (Str × GK)
  sp : Nat → DSp
  sub : Nat → Nat → Bool
  kn : Nat → List Str → Bool
def fnGl (ns : List Str) (i : Nat) : List (Str × GK) := (List.range i).map fun j => (ns.getD j "", .fn j)
def Md.gl (M : Md) (i : Nat) : List (Str × GK) := M.oth ++ fnGl M.fnames i
def mkCtx (gl : List (Str × GK)) (N : List Str) (sc : Scope) : Ctx := { N := N, sc := sc, calm := true, top := true, fn := true, exn := none, gl := gl }
def Md.C (M : Md) (E : EQ) : SC := ⟨M.sp, fun er _ S => E er S, none, M.sub, M.kn⟩
def rets (Q : DQ) : DEnds := ⟨fun _ S => Q .non S, Q, fun _ _ => False, fun _ _ => False⟩
def startD (N : List Str) (ds : List D) : DEnv := ds.map some ++ List.replicate (N.length - ds.length) none
def isFnK : GK → Bool
  | .fn _ => true
  | _ => false
theorem lookup_in {α : Type} {x : Str} : ∀ {l : List (Str × α)} {y : α}, l.lookup x = some y → (x, y) ∈ l
  | [], _, h => by cases h
  | (g, z) :: r, y, h => by
    rw [List.lookup_cons] at h
    cases e : x == g with
    | true =>
      rw [e] at h
      cases h
      have : x = g := by simpa using e
      rw [this]
      exact List.mem_cons_self
    | false =>
      rw [e] at h
      exact List.mem_cons_of_mem _ (lookup_in h)
/-- what is known of the module -/
structure MdOk (M : Md) (ca : Nat → Addr) (P : Program) (w : World) (K : PySem.W.Frag) (mg : Str → Option Value) (base : Heap) : Prop where
  gl : ∀ (X : Cx), X.K = K → X.mg = mg → ∀ (x : Str) (g : GK), (x, g) ∈ M.oth → GOk ca X x g
  nf : ∀ (x : Str) (g : GK), (x, g) ∈ M.oth → isFnK g = false
  rs : ∀ (X : Cx), X.prog = P → X.w = w → X.K = K → X.mg = mg → X.base = base → Room 2 X.A → ∀ (x : Str) (k : Nat) (fs : List Str), (x, GK.exc k fs) ∈ M.oth → ROk ca X x k fs
  ks : ∀ (k : Nat) (fs : List Str), M.kn k fs = true → XfC K (ca k) ∧ KXC K (ca k) ∧ (∀ f ∈ fs, PySem.W.findIn K (.ref (ca k)) f = some none) ∧
    (∀ (x : Str) (g : GK) (j : Nat), (x, g) ∈ M.oth → g.cid = some j → PySem.W.exmOne K (.ref (ca k)) (g.cv ca) = some (M.sub k j) ∧ PySem.W.kitOne K (.ref (ca k)) (g.cv ca) = some (M.sub k j))
/-- the defs ahead of the i-th keep their promises -/
def Done (M : Md) (ca : Nat → Addr) (P : Program) (w : World) (K : PySem.W.Frag) (mg : Str → Option Value) (base : Heap) (i : Nat) : Prop :=
  ∀ j, j < i → ∃ a, mg (M.fnames.getD j "") = some (.ref a) ∧ PySem.W.keepIn K (.ref a) = true ∧ FnR P w K mg base (L2.CX P w) (j + 3) a (LSp K ca (M.sp j))
section
variable {M : Md} {ca : Nat → Addr} {P : Program} {w : World} {K : PySem.W.Frag} {mg : Str → Option Value} {base : Heap} {i : Nat}
theorem Done.zero : Done M ca P w K mg base 0 := fun j h => absurd h (Nat.not_lt_zero j)
theorem Done.succ (d : Done M ca P w K mg base i) {a : Addr} (h1 : mg (M.fnames.getD i "") = some (.ref a)) (h2 : PySem.W.keepIn K (.ref a) = true) (h3 : FnR P w K mg base (L2.CX P w) (i + 3) a (LSp K ca (M.sp i))) : Done M ca P w K mg base (i + 1) := fun j h => by
  rcases Nat.lt_or_ge j i with z | z
  · exact d j z
  · have e : j = i := by omega
    subst e
    exact ⟨a, h1, h2, h3⟩
theorem gl_split {x : Str} {g : GK} (h : (M.gl i).lookup x = some g) : (x, g) ∈ M.oth ∨ ∃ j, j < i ∧ x = M.fnames.getD j "" ∧ g = .fn j := by
  have h' := lookup_in h
  unfold Md.gl fnGl at h'
  rcases List.mem_append.mp h' with h' | h'
  · exact .inl h'
  · obtain ⟨j, hj, e⟩ := List.mem_map.mp h'
    cases e
    exact .inr ⟨j, List.mem_range.mp hj, rfl, rfl⟩
theorem start_sim {S : Store} {β : List Addr} {H : Hp} {ds : List D} {vs : List V} (N : List Str) (hs : HSim K ca S β H) (r : RDs K ca H β ds vs) : Sim K ca ⟨β, H, none⟩ (startD N ds) S β (L2.start N vs) H where
  h := hs
  el := by
    unfold startD L2.start
    rw [List.length_append, List.length_append, List.length_map, List.length_map, List.length_replicate, List.length_replicate, r.length]
  ev := fun j d h => by
    unfold startD at h
    rw [List.getElem?_append] at h
    split at h
    · rename_i hl
      rw [List.length_map] at hl
      rw [List.getElem?_map] at h
      obtain ⟨e, he, e2⟩ := Option.map_eq_some_iff.mp h
      cases e2
      obtain ⟨v, hv, rv⟩ := r.get he
      refine ⟨v, ?_, rv⟩
      unfold L2.start
      rw [List.getElem?_append_left (by rw [List.length_map, ← r.length]; exact hl), List.getElem?_map, hv]
      rfl
    · have := List.mem_of_getElem? h
      have := List.eq_of_mem_replicate this
      cases this
  gr := Gr.refl
  ex := fun x e => by cases e
theorem ctx_ok (O : MdOk M ca P w K mg base) (D : Done M ca P w K mg base i) {N : List Str} {qual : Str} {scope : Scope} {f : Addr} {cdv : Value} {A : Around} {outer : List Env} {s : Shared} {H : Hp} {E : XK} {β : List Addr} {E0 : EQ}
    (nd : N.Nodup) (hr : Room (i + 2) (A.deeper (envOfC qual scope s.heap.objs.size f cdv))) (hE : ∀ er S, E0 er S → HE K ca β H E er S) :
    XOk ca ⟨β, H, none⟩ (cxOf (L2.CX P w) P w K mg base N qual scope f cdv A outer s H E) (mkCtx (M.gl i) N scope) (M.C E0) where
  N := rfl
  nd := nd
  sc := rfl
  calm := fun _ => rfl
  fn := fun _ _ => rfl
  un := by
    have := hr.un
    show (A.deeper (envOfC qual scope s.heap.objs.size f cdv)).units + 65 < cLine
    omega
  gl := fun x g h => by
    rcases gl_split h with h | ⟨j, _, _, rfl⟩
    · exact O.gl _ rfl rfl x g h
    · trivial
  fs := fun _ x j h => by
    rcases gl_split h with h | ⟨j', hj, hx, e⟩
    · exact absurd (O.nf x _ h) (fun z => nomatch z)
    · cases e
      obtain ⟨a, h1, h2, h3⟩ := D j hj
      exact ⟨a, j + 3, by rw [hx]; exact h1, h2, hr.mono (by omega), h3⟩
  rs := fun _ pn xe x k fs h => by
    rcases gl_split h with h | ⟨j', hj, hx, e⟩
    · exact O.rs _ rfl rfl rfl rfl rfl (hr.mono (by omega)) x k fs h
    · cases e
  ks := fun _ k fs h => by
    obtain ⟨h1, h2, h3, h4⟩ := O.ks k fs h
    refine ⟨h1, h2, h3, fun x g j hx hj => ?_, fun x g j hx hj => ?_⟩
    · rcases gl_split hx with hx | ⟨_, _, _, rfl⟩
      · exact (h4 x g j hx hj).1
      · cases hj
    · rcases gl_split hx with hx | ⟨_, _, _, rfl⟩
      · exact (h4 x g j hx hj).2
      · cases hj
  po := passes_of rfl
  tk := ⟨fun cls d _ H' => E cls d H', takes_of rfl rfl rfl rfl, fun er env S β' σ H' cls d h sm re => hE er S h β' cls d H' sm.h sm.gr re⟩
  top := fun _ => ⟨rfl, rfl⟩
  exs := fun ei h => by cases h
  exn := fun n h => by cases h
theorem rets_ok {R : Root} {β : List Addr} {H : Hp} {Q : VK} {Q0 : DQ} (hQ : ∀ d S, Q0 d S → HQ K ca β H Q d S) : (rets Q0).Le (LD K ca R β H { nx := fun _ H' => Q .non H', rt := Q }) := by
  refine DEnds.Le.mk ?_ ?_ ?_ ?_
  · intro e S h β' σ' H' s' g'
    exact hQ .non S h β' .non H' s'.h g' .non
  · exact hQ
  · intro e S h; exact h.elim
  · intro e S h; exact h.elim
/-- a body keeps its promise -/
theorem body_ok (O : MdOk M ca P w K mg base) (D : Done M ca P w K mg base i) {N : List Str} {qual : Str} {scope : Scope} {f : Addr} {cdv : Value} {A : Around} {outer : List Env} {s : Shared} {H : Hp} {E : XK} {Q : VK} {vs : List V} {sp : DSp} {n : Nat} {b : List Stmt} {db : List DS}
    (nd : N.Nodup) (hc : compSs (compS n (mkCtx (M.gl i) N scope)) b = some db) (vc : ∀ ds S Q E, sp ds S Q E → wpSs (M.C E) db (rets Q) (startD N ds) S) (hr : Room (i + 2) (A.deeper (envOfC qual scope s.heap.objs.size f cdv))) (h : LSp K ca sp vs H Q E) :
    ∃ t, PSs (cxOf (L2.CX P w) P w K mg base N qual scope f cdv A outer s H E) b t ∧ t { nx := fun _ H' => Q .non H', rt := Q } (L2.start N vs) H := by
  obtain ⟨S, β, ds, hs, r, Q0, E0, h, hQ, hE⟩ := h
  have o : XOk ca ⟨β, H, none⟩ (cxOf (L2.CX P w) P w K mg base N qual scope f cdv A outer s H E) (mkCtx (M.gl i) N scope) (M.C E0) := ctx_ok O D nd hr hE
  exact ⟨_, sB (ss n) o b db hc, startD N ds, S, β, start_sim N hs r, wpSs_m _ db (rets_ok hQ) (vc ds S Q0 E0 h)⟩
/-- THE RULE for a def -/
theorem fn_step (O : MdOk M ca P w K mg base) (D : Done M ca P w K mg base i) {x qual : Str} {st : Stmt} {f : Addr} {fd : FuncData} {N ps : List Str} {sp : DSp} {n : Nat} {db : List DS} (F : Fun K x qual st f fd) (S : FnScope N ps (defScope st))
    (hc : compSs (compS n (mkCtx (M.gl i) N (defScope st))) (defBody st) = some db) (len : ∀ ds S Q E, sp ds S Q E → ds.length = ps.length) (vc : ∀ ds S Q E, sp ds S Q E → wpSs (M.C E) db (rets Q) (startD N ds) S) :
    FnOk P w K mg base (L2.CX P w) (i + 3) f fd ps (LSp K ca sp) := by
  refine F.okX S (fun vs H Q E h => ?_) (fun cdv A outer s H vs Q E hr h => body_ok O D S.nd hc vc hr h)
  obtain ⟨S, β, ds, hs, r, Q0, E0, h, hQ, hE⟩ := h
  rw [← r.length]
  exact len _ _ _ _ h
theorem fn_all {f : Addr} {fd : FuncData} {ps : List Str} {k : Nat} {sp : Sp} (F : FnOk P w K mg base (L2.CX P w) k f fd ps sp) (b : Binds K fd ps []) : FnR P w K mg base (L2.CX P w) k f sp := (F.raw b .nil).imp fun vs H Q E h => by
  rw [List.append_nil]
  exact h
/-- .. called with the defaults -/
theorem fn_dfl {f : Addr} {fd : FuncData} {ps : List Str} {k : Nat} {sp : DSp} {ds : List Value} {dvs : List V} {dds : List D} (F : FnOk P w K mg base (L2.CX P w) k f fd ps (LSp K ca sp)) (b : Binds K fd ps ds) (hd : Vals dvs ds) (hr : ∀ H β, RDs K ca H β dds dvs) :
    FnR P w K mg base (L2.CX P w) k f (LSp K ca fun es S Q E => sp (es ++ dds) S Q E) := (F.raw b hd).imp fun vs H Q E h => by
  obtain ⟨S, β, es, hs, r, h⟩ := h
  exact ⟨S, β, es ++ dds, hs, r.app (hr H β), h⟩
theorem fn_or {f : Addr} {k : Nat} {sp sp' : DSp} (F : FnR P w K mg base (L2.CX P w) k f (LSp K ca sp)) (F' : FnR P w K mg base (L2.CX P w) k f (LSp K ca sp')) : FnR P w K mg base (L2.CX P w) k f (LSp K ca fun es S Q E => sp es S Q E ∨ sp' es S Q E) := fun A outer s H us vs Q E hr e0 r h => by
  obtain ⟨S, β, es, hs, rd, Q0, E0, h, hQ, hE⟩ := h
  rcases h with h | h
  · exact F A outer s H us vs Q E hr e0 r ⟨S, β, es, hs, rd, Q0, E0, h, hQ, hE⟩
  · exact F' A outer s H us vs Q E hr e0 r ⟨S, β, es, hs, rd, Q0, E0, h, hQ, hE⟩
theorem rds_split {H : Hp} {β : List Addr} : ∀ {as bs : List D} {vs : List V}, RDs K ca H β (as ++ bs) vs → ∃ us ws, vs = us ++ ws ∧ RDs K ca H β as us ∧ RDs K ca H β bs ws
  | [], bs, vs, r => ⟨[], vs, rfl, .nil, r⟩
  | a :: as, bs, vs, r => by
    cases r with
    | cons r1 r2 =>
      obtain ⟨us, ws, rfl, h1, h2⟩ := rds_split r2
      exact ⟨_ :: us, ws, rfl, .cons r1 h1, h2⟩
/-- def f(a, .., *v) -/
theorem fn_star_step (O : MdOk M ca P w K mg base) (D : Done M ca P w K mg base i) {x qual pv : Str} {st : Stmt} {f : Addr} {fd : FuncData} {N ps : List Str} {sp : DSp} {n : Nat} {db : List DS} (F : Fun K x qual st f fd) (S : FnScope N (ps ++ [pv]) (defScope st))
    (hb : ∀ (kV doc pm : Value) (an : Option Addr) (cdv ct : Value) (us rest : List Value), us.length = ps.length → bindArgs (PySem.W.fnOf x qual (defArgs st) (defBody st) (defScope st) .none kV doc pm an cdv ct) ⟨us ++ rest, []⟩ = (newTuple rest >>= fun t => pure (ps.zip us ++ [(pv, t)])))
    (hc : compSs (compS n (mkCtx (M.gl i) N (defScope st))) (defBody st) = some db) (vc : ∀ ds S Q E, sp ds S Q E → wpSs (M.C E) db (rets Q) (startD N ds) S) :
    FnR P w K mg base (L2.CX P w) (i + 3) f (LSp K ca fun es S Q E => ∃ as bs, es = as ++ bs ∧ as.length = ps.length ∧ bs.length ≤ sizeLine ∧ sp (as ++ [.tup bs]) S Q E) := by
  obtain ⟨oc, od, kV, doc, pm, an, cdv, ct, osl, rfl, lk, hcd⟩ := F.ex
  refine (StX.fn_star (sp := LSp K ca sp) lk hcd S StX.cxUp (hb _ _ _ _ _ _) fun A outer s H vs Q E hr h => body_ok O D S.nd hc vc hr h).imp fun vs H Q E h => ?_
  obtain ⟨S, β, es, hs, r, Q0, E0, ⟨as, bs, rfl, hl, hz, h⟩, hQ, hE⟩ := h
  obtain ⟨us, ws, rfl, h1, h2⟩ := rds_split r
  refine ⟨us, ws, rfl, by rw [← h1.length]; exact hl, by rw [← h2.length]; exact hz, fun p hp => ?_⟩
  have g : Gr K β H β (upd H p (.tup ws)) := Gr.fresh hp
  refine ⟨S, β, as ++ [.tup bs], hs.fresh hp, (h1.grow g).app (.cons (.tup (.inl upd_same) (h2.grow g)) .nil), Q0, E0, h, fun d S' q => (hQ d S' q).step g, fun er S' q => ?_⟩
  intro β' cls d H' s' g' re
  exact hE er S' q β' cls d H' s' (g.trans g') re
end
end PD

set_option Elab.async false
set_option linter.all false
set_option maxRecDepth 100000
set_option maxHeartbeats 4000000
namespace PD
open PySem PySem.Spec PyProof.Rows L2
/-! ### own exception classes with __init__(self, a, ..): self.f = a; .. -/
/-- the fields that the body stores, the slots of their values -/
def initL (N : List Str) (sc : Scope) : List Stmt → Option (List (Str × Nat))
  | [] => some []
  | .Assign [.Attribute (.Name x _) f _] (.Name y _) _ :: r => if okN x && okN y && sc.names.lookup x == some .local && sc.names.lookup y == some .local && ixOf x N 0 == some 0 then (match ixOf y N 0, initL N sc r with
    | some i, some l => some ((f, i) :: l)
    | _, _ => none) else none
  | _ => none
/-- its reading -/
def tInit (K : PySem.W.Frag) : List (Str × Nat) → TS
  | [] => tNext
  | (f, i) :: r => tSeq (tOst K f (tVar 0) (tVar i)) (tInit K r)
theorem init_ok {X : Cx} {N : List Str} (hN : X.N = N) : ∀ {b : List Stmt} {l : List (Str × Nat)}, initL N X.env.scope b = some l → PSs X b (tInit X.K l)
  | [], l, h => by cases h; exact pss_nil
  | s :: r, l, h => by
    unfold initL at h
    split at h
    · rename_i heq
      cases heq
    · rename_i x p1 f p2 y p3 p4 r' heq
      cases heq
      split at h
      · rename_i hk
        simp only [Bool.and_eq_true] at hk
        obtain ⟨⟨⟨⟨k1, k2⟩, k3⟩, k4⟩, k5⟩ := hk
        split at h
        · rename_i i l' e1 e2
          cases h
          obtain ⟨a1, a2⟩ := okN_1 k1
          obtain ⟨b1, b2⟩ := okN_1 k2
          have h0 : X.N[0]? = some x := by rw [hN]; exact ixOf_at (by simpa using k5)
          have h1 : X.N[i]? = some y := by rw [hN]; exact ixOf_at e1
          exact pss_cons (ps_ost (pe_var h0 (.inl (by simpa using k3)) a1 a2) (pe_var h1 (.inl (by simpa using k4)) b1 b2) rfl) (init_ok hN e2)
        · cases h
      · cases h
    · cases h
/-- the further fields -/
theorem init_more {K : PySem.W.Frag} {σ : L2.St} {a C dx : Addr} (T : OexC K C) (h0 : σ[0]? = some (some (.ref a))) (hda : dx ≠ a) {D : Ends} : ∀ (l : List (Str × Nat)) (fs : List (Str × V)) (H : Hp) (vs : List V),
    (∀ p ∈ l, PySem.W.findIn K (.ref C) p.1 = some none) → Paired (fun (p : Str × Nat) v => σ[p.2]? = some (some v)) l vs → fs.length + l.length ≤ 900 → H a = some (exo a C (some dx)) → H dx = some (exd dx fs) →
    (∀ H' fv, (∀ b, b ≠ a → b ≠ dx → H' b = H b) → H' a = some (exo a C (some dx)) → H' dx = some (exd dx fv) → fv = ((l.map (·.1)).zip vs).reverse ++ fs → D.nx σ H') → tInit K l D σ H
  | [], fs, H, vs, _, r, _, ha, hd, k => by
    cases r
    exact k H fs (fun _ _ _ => rfl) ha hd rfl
  | (f, i) :: l, fs, H, vs, hno, r, hl, ha, hd, k => by
    cases r with
    | @cons _ v _ vs' r1 r2 =>
      rw [List.length_cons] at hl
      refine ⟨v, r1, .ref a, h0, a, C, rfl, T, hno _ List.mem_cons_self, .inr ⟨dx, fs, ha, hd, by omega, ?_⟩⟩
      refine init_more T h0 hda l ((f, v) :: fs) _ vs' (fun p hp => hno p (List.mem_cons_of_mem _ hp)) r2 (by rw [List.length_cons]; omega) ?_ upd_same fun H' fv h1 h2 h3 h4 => ?_
      · rw [upd_ne hda.symm]
        exact ha
      · refine k H' fv (fun b b1 b2 => ?_) h2 h3 ?_
        · rw [h1 b b1 b2, upd_ne b2]
        · rw [h4]
          simp
theorem init_pure {K : PySem.W.Frag} {σ : L2.St} {a C : Addr} (T : OexC K C) (h0 : σ[0]? = some (some (.ref a))) {D : Ends} (l : List (Str × Nat)) (H : Hp) (vs : List V) (hl : l ≠ []) (hl2 : l.length ≤ 900)
    (hno : ∀ p ∈ l, PySem.W.findIn K (.ref C) p.1 = some none) (r : Paired (fun (p : Str × Nat) v => σ[p.2]? = some (some v)) l vs) (ha : H a = some (exo a C none))
    (k : ∀ H' dx, H dx = none → dx ≠ a → (∀ b, b ≠ a → b ≠ dx → H' b = H b) → H' a = some (exo a C (some dx)) → H' dx = some (exd dx ((l.map (·.1)).zip vs).reverse) → D.nx σ H') : tInit K l D σ H := by
  cases l with
  | nil => exact absurd rfl hl
  | cons p l =>
    obtain ⟨f, i⟩ := p
    cases r with
    | @cons _ v _ vs' r1 r2 =>
      refine ⟨v, r1, .ref a, h0, a, C, rfl, T, hno _ List.mem_cons_self, .inl ⟨ha, fun dx hd hda => ?_⟩⟩
      rw [List.length_cons] at hl2
      refine init_more T h0 hda l [(f, v)] _ vs' (fun p hp => hno p (List.mem_cons_of_mem _ hp)) r2 (by rw [List.length_cons, List.length_nil]; omega) upd_same (by rw [upd_ne hda]; exact upd_same) fun H' fv h1 h2 h3 h4 => ?_
      refine k H' dx hd hda (fun b b1 b2 => ?_) h2 (by rw [h3, h4]; simp)
      rw [h1 b b1 b2, upd_ne b1, upd_ne b2]
theorem lookup_rev {α : Type} : ∀ {fs : List (Str × α)}, (fs.map (·.1)).Nodup → ∀ f, fs.reverse.lookup f = fs.lookup f
  | [], _, f => rfl
  | (g, y) :: r, nd, f => by
    rw [List.map_cons, List.nodup_cons] at nd
    have ih := lookup_rev (fs := r) nd.2 f
    rw [List.reverse_cons, List.lookup_append, ih, List.lookup_cons, List.lookup_cons, List.lookup_nil]
    cases e : f == g with
    | false =>
      cases r.lookup f <;> rfl
    | true =>
      have : f = g := by simpa using e
      subst this
      rw [lookup_none nd.1]
      rfl
def spInit (C : Addr) (fs : List Str) : Sp := fun vs H Q _ => ∃ a ws, vs = .ref a :: ws ∧ ws.length = fs.length ∧ H a = some (exo a C none) ∧
  ∀ H' dx, H dx = none → dx ≠ a → (∀ b, b ≠ a → b ≠ dx → H' b = H b) → H' a = some (exo a C (some dx)) → H' dx = some (exd dx (fs.zip ws).reverse) → Q .non H'
theorem slots_of : ∀ {l : List (Str × Nat)} {ws : List V} {k : Nat} {σ : L2.St}, l.map (·.2) = List.range' k l.length → ws.length = l.length → (∀ i v, ws[i]? = some v → σ[k + i]? = some (some v)) → Paired (fun (p : Str × Nat) v => σ[p.2]? = some (some v)) l ws
  | [], [], _, _, _, _, _ => .nil
  | [], _ :: _, _, _, _, h, _ => by cases h
  | _ :: _, [], _, _, _, h, _ => by cases h
  | (f, i) :: l, w :: ws, k, σ, h, hl, hs => by
    rw [List.map_cons, List.length_cons, List.range'_succ] at h
    injection h with h1 h2
    refine .cons ?_ (slots_of (k := k + 1) h2 (by simpa using hl) fun j v hv => ?_)
    · dsimp only at h1 ⊢
      rw [h1]
      exact hs 0 w rfl
    · have := hs (j + 1) v hv
      rw [show k + 1 + j = k + (j + 1) by omega]
      exact this
theorem init_fn {P : Program} {w : World} {K : PySem.W.Frag} {mg : Str → Option Value} {base : Heap} {C fI : Addr} {qual : Str} {st : Stmt} {fd : FuncData} {N ps fs : List Str} {l : List (Str × Nat)} (T : OexC K C) (F : Fun K "__init__" qual st fI fd) (S : FnScope N ps (defScope st))
    (hc : initL N (defScope st) (defBody st) = some l) (hfs : l.map (·.1) = fs) (hsl : l.map (·.2) = List.range' 1 l.length) (hps : ps.length = fs.length + 1) (hne : l ≠ []) (hl : l.length ≤ 900) (hno : ∀ f ∈ fs, PySem.W.findIn K (.ref C) f = some none) :
    FnOk P w K mg base (L2.CX P w) 1 fI fd ps (spInit C fs) := by
  refine F.okX S (fun vs H Q E h => ?_) (fun cdv A outer s H vs Q E hr h => ⟨tInit K l, init_ok (N := N) rfl hc, ?_⟩)
  · obtain ⟨a, ws, rfl, h1, _⟩ := h
    rw [List.length_cons, h1, hps]
  · obtain ⟨a, ws, rfl, h1, h2, k⟩ := h
    have e : (l.map (·.1)).length = l.length := List.length_map ..
    rw [hfs] at e
    refine init_pure T rfl l H ws hne hl (fun p hp => hno _ (by rw [← hfs]; exact List.mem_map_of_mem hp)) (slots_of hsl (by omega) fun i v hv => ?_) h2 fun H' dx d1 d2 d3 d4 d5 => k H' dx d1 d2 d3 d4 (by rw [← hfs]; exact d5)
    unfold L2.start
    have hi : i < ws.length := by
      rcases Nat.lt_or_ge i ws.length with z | z
      · exact z
      · rw [List.getElem?_eq_none z] at hv; cases hv
    rw [List.getElem?_append_left (by rw [List.length_map, List.length_cons]; omega), List.getElem?_map, Nat.add_comm, List.getElem?_cons_succ, hv]
    rfl
theorem _root_.L2.PA.up {X : Cx} {es : List Expr} {ta : TA} (h : PA X es ta) : PA X es (fun σ H Q2 => ∃ Qh, ta σ H Qh ∧ ∀ vs H1, Qh vs H1 → Q2 vs H1) :=
  ⟨fun pos pins s σ H Q I ⟨Qh, h1, h2⟩ => thn (h.run pos pins s σ H Qh I h1) fun us s1 ⟨vs, H1, I1, r, q⟩ => ⟨vs, H1, I1, r, h2 _ _ q⟩⟩
theorem rok_of {ca : Nat → Addr} {X : Cx} {x : Str} {c : Nat} {fs ps : List Str} {fI : Addr} {fd : FuncData} (T : OexC X.K (ca c)) (hm : X.mg x = some (.ref (ca c))) (hd : (x == ("__debug__" : Str)) = false) (iC : PySem.W.findIn X.K (.ref (ca c)) "__init__" = some (some (.ref fI))) (tI : PySem.W.typeIn X.K (.ref fI) = some (.type "function"))
    (F : FnOk X.prog X.w X.K X.mg X.base (L2.CX X.prog X.w) 1 fI fd ps (spInit (ca c) fs)) (b : Binds X.K fd ps []) (nd : fs.Nodup) (hf : fs.length ≤ 900) (hr : Room 2 X.A) : ROk ca X x c fs := fun e es ta p pos hg ha he hpl => by
  have q := pmk_oex (p := p) T iC tI F hr b .nil passL hg hm ha.up hd he hpl
  intro pins s σ H Q I h
  refine q pins s σ H Q I ⟨_, h, fun vs H1 ⟨h1, h2⟩ => ⟨by omega, fun a ha => ?_⟩⟩
  rw [List.append_nil]
  refine ⟨a, vs, rfl, h1, upd_same, fun H' dx d1 d2 d3 d4 d5 => ⟨rfl, dx, _, d4, d5, ?_, ?_⟩⟩
  · rw [upd_ne d2] at d1
    exact d1
  · rw [upd_ne d2] at d1
    have e : upd (del H' a) dx (.xd (fs.zip vs).reverse) = upd H1 dx (.xd (fs.zip vs).reverse) := by
      funext b
      by_cases hb : b = dx
      · rw [hb, upd_same, upd_same]
      · rw [upd_ne hb, upd_ne hb]
        by_cases hba : b = a
        · rw [hba, del_same, ha]
        · rw [del_ne hba, d3 b hba hb, upd_ne hba]
    rw [e]
    refine h2 dx _ d1 fun f => lookup_rev ?_ f
    rw [List.map_fst_zip (by omega)]
    exact nd
end PD

set_option Elab.async false
set_option linter.all false
set_option maxRecDepth 100000
set_option maxHeartbeats 4000000
namespace PD
open PySem PySem.Spec PyProof.Rows L2
/-! ### pure defs: what they leave is their answer alone -/
inductive Out where
  | val (d : D) | new (xs : List D) | exc (er : Err)
def Out.post (o : Out) (S : Store) (Q : DQ) (E : EQ) : Prop := match o with
  | .val d => Q d S
  | .new xs => Q (.ref S.length) (S ++ [.lst xs])
  | .exc er => E er S
/-- the promise of a pure def -/
def FnS (f : List D → Store → Out → Prop) : DSp := fun ds S Q E => ∃ o, f ds S o ∧ o.post S Q E
theorem callC_FnS (f : List D → Store → Out → Prop) : callC (FnS f) = FnS f := by
  funext ds S Q E
  refine propext ⟨fun ⟨Q0, E0, h, hQ, hE⟩ => ?_, fun h => ⟨Q, E, h, fun _ _ z => z, fun _ _ z => z⟩⟩
  obtain ⟨o, ho, h⟩ := h
  refine ⟨o, ho, ?_⟩
  cases o with
  | val d => exact hQ _ _ h
  | new xs => exact hQ _ _ h
  | exc er => exact hE _ _ h
/-- the old places stand -/
def Ext (S S' : Store) : Prop := S.length ≤ S'.length ∧ ∀ n, n < S.length → S'[n]? = S[n]?
theorem Ext.refl (S : Store) : Ext S S := ⟨Nat.le_refl _, fun _ _ => rfl⟩
theorem Ext.trans {S S' S2 : Store} (a : Ext S S') (b : Ext S' S2) : Ext S S2 := ⟨Nat.le_trans a.1 b.1, fun n h => (b.2 n (Nat.lt_of_lt_of_le h a.1)).trans (a.2 n h)⟩
theorem Ext.app (S L : Store) : Ext S (S ++ L) := ⟨by rw [List.length_append]; omega, fun n h => List.getElem?_append_left h⟩
theorem Ext.set {S S' : Store} (a : Ext S S') {n : Nat} (o : SO) (h : S.length ≤ n) : Ext S (S'.set n o) := ⟨by rw [List.length_set]; exact a.1, fun m hm => by rw [List.getElem?_set_ne (by omega)]; exact a.2 m hm⟩
theorem Ext.get {S S' : Store} (a : Ext S S') {n : Nat} {o : SO} (h : S[n]? = some o) : S'[n]? = some o := by
  rw [a.2 n, h]
  rcases Nat.lt_or_ge n S.length with z | z
  · exact z
  · rw [List.getElem?_eq_none z] at h; cases h
mutual
/-- the places in a value lie below n -/
def refsLt (n : Nat) : D → Bool
  | .ref k => decide (k < n)
  | .tup xs => refsLts n xs
  | .kl xs => refsLts n xs
  | _ => true
def refsLts (n : Nat) : List D → Bool
  | [] => true
  | d :: r => refsLt n d && refsLts n r
end
section
variable {K : PySem.W.Frag} {ca : Nat → Addr} {H H' : Hp} {β β' : List Addr} {S S' : Store}
mutual
theorem RD.lt : ∀ {d : D} {v : V}, RD K ca H β d v → refsLt β.length d = true
  | _, _, .non => rfl
  | _, _, .bl b => rfl
  | _, _, .int b => rfl
  | _, _, .str b => rfl
  | _, _, .ty b => rfl
  | _, _, .own b => rfl
  | _, _, .tup h r => by unfold refsLt; exact RDs.lt r
  | _, _, .kl h r => by unfold refsLt; exact RDs.lt r
  | _, _, .ref (n := n) h => by
    unfold refsLt
    refine decide_eq_true ?_
    rcases Nat.lt_or_ge n β.length with z | z
    · exact z
    · rw [List.getElem?_eq_none z] at h; cases h
theorem RDs.lt : ∀ {ds : List D} {vs : List V}, RDs K ca H β ds vs → refsLts β.length ds = true
  | _, _, .nil => rfl
  | _, _, .cons h r => by unfold refsLts; rw [RD.lt h, RDs.lt r]; rfl
end
mutual
theorem RD.low (p : ∀ (n : Nat) (a : Addr), β[n]? = some a → β'[n]? = some a) : ∀ {d : D} {v : V}, RD K ca H β' d v → refsLt β.length d = true → RD K ca H β d v
  | _, _, .non, _ => .non
  | _, _, .bl b, _ => .bl b
  | _, _, .int b, _ => .int b
  | _, _, .str b, _ => .str b
  | _, _, .ty b, _ => .ty b
  | _, _, .own b, _ => .own b
  | _, _, .tup h r, q => .tup h (RDs.low p r (by unfold refsLt at q; exact q))
  | _, _, .kl h r, q => .kl h (RDs.low p r (by unfold refsLt at q; exact q))
  | _, _, .ref (n := n) h, q => .ref (by
    unfold refsLt at q
    have hl := of_decide_eq_true q
    have e := List.getElem?_eq_getElem hl
    rw [p n _ e] at h
    cases h
    exact e)
theorem RDs.low (p : ∀ (n : Nat) (a : Addr), β[n]? = some a → β'[n]? = some a) : ∀ {ds : List D} {vs : List V}, RDs K ca H β' ds vs → refsLts β.length ds = true → RDs K ca H β ds vs
  | _, _, .nil, _ => .nil
  | _, _, .cons h r, q => by
    unfold refsLts at q
    obtain ⟨a, b⟩ := Bool.and_eq_true_iff.mp q
    exact .cons (RD.low p h a) (RDs.low p r b)
end
theorem or_low (p : ∀ (n : Nat) (a : Addr), β[n]? = some a → β'[n]? = some a) {H0 : Hp} {o : SO} {a b : Addr} (h : OR K ca H β' o a) (h0 : OR K ca H0 β o b) : OR K ca H β o a := by
  cases o with
  | lst xs =>
    obtain ⟨vs, h1, h2⟩ := h
    obtain ⟨ws, _, h3⟩ := h0
    exact ⟨vs, h1, h2.low p h3.lt⟩
  | ins c fs =>
    obtain ⟨dx, fv, h1, h2, h3⟩ := h
    obtain ⟨_, ws, _, _, h4⟩ := h0
    exact ⟨dx, fv, h1, h2, h3.low p h4.lt⟩
/-- what a def has made is let go -/
theorem gc_sim (s : HSim K ca S β H) (s' : HSim K ca S' β' H') (g : Gr K β H β' H') (e : Ext S S') : HSim K ca S β H' where
  len := s.len
  nd := s.nd
  ob := fun n o a h1 h2 => or_low g.pre (s'.ob n o a (e.get h1) (g.pre n a h2)) (s.ob n o a h1 h2)
theorem gc_gr (g : Gr K β H β' H') : Gr K β H β H' := ⟨fun _ _ z => z, g.tup, g.frz, g.xd⟩
/-- .. but one list -/
theorem gc_new (s : HSim K ca S β H) (s' : HSim K ca S' β' H') (g : Gr K β H β' H') (e : Ext S S') {n : Nat} {xs : List D} {a : Addr} (h1 : S'[n]? = some (.lst xs)) (h2 : β'[n]? = some a) (hn : S.length ≤ n) (hx : refsLts S.length xs = true) :
    HSim K ca (S ++ [.lst xs]) (β ++ [a]) H' ∧ Gr K β H (β ++ [a]) H' ∧ RD K ca H' (β ++ [a]) (.ref S.length) (.ref a) := by
  have s2 := gc_sim s s' g e
  have gs : Gr K β H' (β ++ [a]) H' := Gr.snoc a
  refine ⟨⟨by rw [List.length_append, List.length_append, s.len]; rfl, ?_, fun m o b k1 k2 => ?_⟩, (gc_gr g).trans gs, .ref ?_⟩
  · refine List.nodup_append.mpr ⟨s.nd, List.nodup_cons.mpr ⟨List.not_mem_nil, List.nodup_nil⟩, ?_⟩
    intro b hb c hc
    rw [List.mem_singleton] at hc
    subst hc
    rintro rfl
    obtain ⟨m, hm⟩ := List.getElem?_of_mem hb
    have hm' := g.pre m _ hm
    have hl : m < β.length := by
      rcases Nat.lt_or_ge m β.length with z | z
      · exact z
      · rw [List.getElem?_eq_none z] at hm; cases hm
    have hl' : m < β'.length := by
      rcases Nat.lt_or_ge m β'.length with z | z
      · exact z
      · rw [List.getElem?_eq_none z] at hm'; cases hm'
    have := (List.getElem?_inj hl' s'.nd).mp (hm'.trans h2.symm)
    have := s.len
    omega
  · rcases Nat.lt_or_ge m S.length with z | z
    · rw [List.getElem?_append_left z] at k1
      rw [List.getElem?_append_left (by rw [s.len]; exact z)] at k2
      exact (s2.ob m o b k1 k2).keep gs rfl
    · have hm : m = S.length := by
        rcases Nat.lt_or_ge m (S.length + 1) with q | q
        · omega
        · rw [List.getElem?_eq_none (by rw [List.length_append]; exact q)] at k1; cases k1
      subst hm
      rw [List.getElem?_append_right (Nat.le_refl _), Nat.sub_self] at k1
      rw [List.getElem?_append_right (by rw [s.len]; exact Nat.le_refl _), s.len, Nat.sub_self] at k2
      cases k1
      cases k2
      obtain ⟨vs, q1, q2⟩ := s'.ob n _ a h1 h2
      exact ⟨vs, q1, (q2.low g.pre (by rw [s.len]; exact hx)).grow gs⟩
  · rw [← s.len, List.getElem?_append_right (Nat.le_refl _), Nat.sub_self]
    rfl
end
/-! ### the rule -/
def okO (n : Nat) : Out → Bool
  | .val d => refsLt n d
  | .new xs => refsLts n xs
  | .exc er => refsLts n (er.fs.map (·.2))
def excO (S : Store) (o : Out) : EQ := fun er S' => Ext S S' ∧ o = .exc er
/-- what the end of a pure def's body is to be -/
def outP (S : Store) (o : Out) : DQ := fun d S' => Ext S S' ∧ match o with
  | .val d0 => d = d0
  | .new xs => ∃ n, d = .ref n ∧ S.length ≤ n ∧ S'[n]? = some (.lst xs)
  | .exc _ => False
def retO (S : Store) (o : Out) : DEnds := rets (outP S o)
/-- the places in the lists lie below the store's end -/
def WfS (S : Store) : Prop := ∀ (n : Nat) (xs : List D), S[n]? = some (.lst xs) → refsLts S.length xs = true
section
variable {M : Md} {ca : Nat → Addr} {P : Program} {w : World} {K : PySem.W.Frag} {mg : Str → Option Value} {base : Heap} {i : Nat}
theorem rfld_low {H : Hp} {β β' : List Addr} (p : ∀ (n : Nat) (a : Addr), β[n]? = some a → β'[n]? = some a) {fs : List (Str × D)} {fv : List (Str × V)} (h : RFld K ca H β' fs fv) (hl : refsLts β.length (fs.map (·.2)) = true) : RFld K ca H β fs fv := fun f => ⟨fun x hx => by
  obtain ⟨v, h1, h2⟩ := (h f).1 x hx
  refine ⟨v, h1, h2.low p ?_⟩
  have key : ∀ {l : List (Str × D)}, refsLts β.length (l.map (·.2)) = true → l.lookup f = some x → refsLt β.length x = true := by
    intro l
    induction l with
    | nil => intro _ h; cases h
    | cons q r ih =>
      obtain ⟨g, y⟩ := q
      intro h1 h2
      rw [List.map_cons] at h1
      unfold refsLts at h1
      obtain ⟨a, b⟩ := Bool.and_eq_true_iff.mp h1
      rw [List.lookup_cons] at h2
      cases e : f == g with
      | true =>
        rw [e] at h2
        cases h2
        exact a
      | false =>
        rw [e] at h2
        exact ih b h2
  exact key hl hx, (h f).2⟩
theorem body_gc (O : MdOk M ca P w K mg base) (D : Done M ca P w K mg base i) {N : List Str} {qual : Str} {scope : Scope} {f : Addr} {cdv : Value} {A : Around} {outer : List Env} {s : Shared} {H : Hp} {E : XK} {Q : VK} {vs : List V} {fs : List PD.D → Store → Out → Prop} {n : Nat} {b : List Stmt} {db : List DS}
    (nd : N.Nodup) (hc : compSs (compS n (mkCtx (M.gl i) N scope)) b = some db) (ok : ∀ ds S o, fs ds S o → refsLts S.length ds = true → WfS S → okO S.length o = true) (vc : ∀ ds S o, fs ds S o → wpSs (M.C (excO S o)) db (retO S o) (startD N ds) S)
    (hr : Room (i + 2) (A.deeper (envOfC qual scope s.heap.objs.size f cdv))) (h : LSp K ca (FnS fs) vs H Q E) :
    ∃ t, PSs (cxOf (L2.CX P w) P w K mg base N qual scope f cdv A outer s H E) b t ∧ t { nx := fun _ H' => Q .non H', rt := Q } (L2.start N vs) H := by
  obtain ⟨S, β, ds, hs, r, h⟩ := h
  rw [callC_FnS] at h
  obtain ⟨o, ho, h⟩ := h
  have hok := ok ds S o ho (by rw [← hs.len]; exact r.lt) fun n xs hn => by
    obtain ⟨a, ha, vs', h1, h2⟩ := hs.at hn
    rw [← hs.len]
    exact h2.lt
  have cx : XOk ca ⟨β, H, none⟩ (cxOf (L2.CX P w) P w K mg base N qual scope f cdv A outer s H E) (mkCtx (M.gl i) N scope) (M.C (excO S o)) := by
    refine ctx_ok O D nd hr fun er S' hq β' cls d H' s' g re => ?_
    obtain ⟨e, rfl⟩ := hq
    refine h β cls d H' (gc_sim hs s' g e) (gc_gr g) ⟨re.1, ?_⟩
    rcases re.2 with z | ⟨dd, fv, z1, z2, z3⟩
    · exact .inl z
    · exact .inr ⟨dd, fv, z1, z2, rfld_low g.pre z3 (by rw [hs.len]; exact hok)⟩
  have fin : ∀ (d : PD.D) (S' : Store) (β' : List Addr) (v : V) (H' : Hp), outP S o d S' → HSim K ca S' β' H' → Gr K β H β' H' → RD K ca H' β' d v → Q v H' := by
    intro d S' β' v H' hq s' g rv
    obtain ⟨e, hq⟩ := hq
    cases o with
    | val d0 =>
      have hq : d = d0 := hq
      subst hq
      exact h β v H' (gc_sim hs s' g e) (gc_gr g) (rv.low g.pre (by rw [hs.len]; exact hok))
    | new xs =>
      obtain ⟨n, rfl, hn, hx⟩ := hq
      cases rv with
      | ref hb =>
        obtain ⟨q1, q2, q3⟩ := gc_new hs s' g e hx hb hn hok
        exact h _ _ H' q1 q2 q3
    | exc er => exact hq.elim
  refine ⟨_, sB (ss n) cx b db hc, startD N ds, S, β, start_sim N hs r, wpSs_m _ db (DEnds.Le.mk ?_ ?_ ?_ ?_) (vc ds S o ho)⟩
  · intro e S' hq β' σ' H' s' g'
    exact fin .non S' β' .non H' hq s'.h g' .non
  · intro d S' hq β' v H' s' g' rv
    exact fin d S' β' v H' hq s' g' rv
  · intro e S h; exact h.elim
  · intro e S h; exact h.elim
/-- THE RULE for a pure def -/
theorem fn_gc (O : MdOk M ca P w K mg base) (D : Done M ca P w K mg base i) {x qual : Str} {st : Stmt} {f : Addr} {fd : FuncData} {N ps : List Str} {fs : List PD.D → Store → Out → Prop} {n : Nat} {db : List DS} (F : Fun K x qual st f fd) (S : FnScope N ps (defScope st))
    (hc : compSs (compS n (mkCtx (M.gl i) N (defScope st))) (defBody st) = some db) (len : ∀ ds S o, fs ds S o → ds.length = ps.length) (ok : ∀ ds S o, fs ds S o → refsLts S.length ds = true → WfS S → okO S.length o = true)
    (vc : ∀ ds S o, fs ds S o → wpSs (M.C (excO S o)) db (retO S o) (startD N ds) S) : FnOk P w K mg base (L2.CX P w) (i + 3) f fd ps (LSp K ca (FnS fs)) := by
  refine F.okX S (fun vs H Q E h => ?_) (fun cdv A outer s H vs Q E hr h => body_gc O D S.nd hc ok vc hr h)
  obtain ⟨S, β, ds, hs, r, Q0, E0, h, hQ, hE⟩ := h
  obtain ⟨o, ho, _⟩ := h
  rw [← r.length]
  exact len _ _ _ ho
theorem fn_star_gc (O : MdOk M ca P w K mg base) (D : Done M ca P w K mg base i) {x qual pv : Str} {st : Stmt} {f : Addr} {fd : FuncData} {N ps : List Str} {fs : List PD.D → Store → Out → Prop} {n : Nat} {db : List DS} (F : Fun K x qual st f fd) (S : FnScope N (ps ++ [pv]) (defScope st))
    (hb : ∀ (kV doc pm : Value) (an : Option Addr) (cdv ct : Value) (us rest : List Value), us.length = ps.length → bindArgs (PySem.W.fnOf x qual (defArgs st) (defBody st) (defScope st) .none kV doc pm an cdv ct) ⟨us ++ rest, []⟩ = (newTuple rest >>= fun t => pure (ps.zip us ++ [(pv, t)])))
    (hc : compSs (compS n (mkCtx (M.gl i) N (defScope st))) (defBody st) = some db) (ok : ∀ ds S o, fs ds S o → refsLts S.length ds = true → WfS S → okO S.length o = true) (vc : ∀ ds S o, fs ds S o → wpSs (M.C (excO S o)) db (retO S o) (startD N ds) S) :
    FnR P w K mg base (L2.CX P w) (i + 3) f (LSp K ca (FnS fun es S o => (ps.length ≤ es.length ∧ es.length ≤ sizeLine) ∧ fs (es.take ps.length ++ [.tup (es.drop ps.length)]) S o)) := by
  obtain ⟨oc, od, kV, doc, pm, an, cdv, ct, osl, rfl, lk, hcd⟩ := F.ex
  refine (StX.fn_star (sp := LSp K ca (FnS fs)) lk hcd S StX.cxUp (hb _ _ _ _ _ _) fun A outer s H vs Q E hr h => body_gc O D S.nd hc ok vc hr h).imp fun vs H Q E h => ?_
  obtain ⟨S, β, es, hs, r, Q0, E0, h, hQ, hE⟩ := h
  obtain ⟨o, ⟨hl, ho⟩, h⟩ := h
  have r' := r
  rw [← List.take_append_drop ps.length es] at r'
  obtain ⟨us, ws, rfl, h1, h2⟩ := rds_split r'
  have l1 := h1.length
  have l2 := h2.length
  rw [List.length_take] at l1
  rw [List.length_drop] at l2
  refine ⟨us, ws, rfl, by omega, by omega, fun p hp => ?_⟩
  have g : Gr K β H β (upd H p (.tup ws)) := Gr.fresh hp
  refine ⟨S, β, es.take ps.length ++ [.tup (es.drop ps.length)], hs.fresh hp, (h1.grow g).app (.cons (.tup (.inl upd_same) (h2.grow g)) .nil), Q0, E0, ⟨o, ho, h⟩, fun d S' q => (hQ d S' q).step g, fun er S' q => ?_⟩
  intro β' cls d H' s' g' re
  exact hE er S' q β' cls d H' s' (g.trans g') re
end
end PD

set_option Elab.async false
set_option linter.all false
set_option maxRecDepth 100000
set_option maxHeartbeats 4000000
namespace PD
open PySem
/-! ### rules, from the end to the start -/
section
variable {C : SC} {env : DEnv} {S : Store} {Q : DQ} {B : DEnds} {a b c e : DE} {es : DEs} {s : DS} {r : List DS}
theorem r_nil (h : B.nx env S) : wpSs C [] B env S := by unfold wpSs; exact h
theorem r_seq (h : wpS C s { B with nx := fun e' S' => wpSs C r B e' S' } env S) : wpSs C (s :: r) B env S := by unfold wpSs; exact h
theorem r_asg {t : DT} (h : wpE C e env S fun d S1 => wpT C t d env S1 B.nx) : wpS C (.asg t e) B env S := by unfold wpS; exact h
theorem r_aug {i : Nat} {o : BO} {j : Int} (hv : env[i]? = some (some (.int j))) (h : wpE C e env S fun y S1 => wpBin S1 o (.int j) y fun d S2 => B.nx (env.set i (some d)) S2) : wpS C (.aug i o e) B env S := by
  unfold wpS
  rw [hv]
  exact h
theorem r_ex (h : wpE C e env S fun _ S1 => B.nx env S1) : wpS C (.ex e) B env S := by unfold wpS; exact h
theorem r_ret (h : wpE C e env S fun d S1 => B.rt d S1) : wpS C (.ret (.some e)) B env S := by unfold wpS wpO; exact h
theorem r_retN (h : B.rt .non S) : wpS C (.ret .none) B env S := by unfold wpS wpO; exact h
theorem r_ifs {p q : List DS} (h : wpE C c env S fun x S1 => ∃ k, truth S1 x = some k ∧ (k = true → wpSs C p B env S1) ∧ (k = false → wpSs C q B env S1)) : wpS C (.ifs c p q) B env S := by
  unfold wpS
  refine wpE_m _ _ _ _ _ _ (fun x S1 ⟨k, h1, h2, h3⟩ => ?_) h
  unfold onO
  rw [h1]
  cases k with
  | true => exact h2 rfl
  | false => exact h3 rfl
theorem r_pas (h : B.nx env S) : wpS C .pas B env S := by unfold wpS; exact h
theorem r_brk (h : B.bk env S) : wpS C .brk B env S := by unfold wpS; exact h
theorem r_cnt (h : B.ct env S) : wpS C .cnt B env S := by unfold wpS; exact h
theorem r_rse {k : Nat} {fs : List Str} (h : wpEs C es env S fun ds S1 => ds.length = fs.length ∧ C.xq ⟨k, fs.zip ds⟩ env S1) : wpS C (.rse k fs es) B env S := by unfold wpS; exact h
theorem r_tr {p q : List DS} {k : Nat} {n : Option Nat} (h : wpSs { C with xq := fun er env' S' => C.kn er.cls (er.fs.map (·.1)) = true ∧ inN n env' ∧ (C.sub er.cls k = true → wpSs { C with exn := some er, xq := fun _ _ _ => False } q (endsN n B) (setN n env') S') ∧
      (C.sub er.cls k = false → C.xq er env' S') } p B env S) : wpS C (.tr p k n q) B env S := by unfold wpS; exact h
/-! expressions -/
theorem r_var {i : Nat} {d : D} (hv : env[i]? = some (some d)) (h : Q d S) : wpE C (.var i) env S Q := by unfold wpE; rw [hv]; exact h
theorem r_cst {d : D} (h : Q d S) : wpE C (.cst d) env S Q := by unfold wpE; exact h
theorem r_bin {o : BO} (h : wpE C a env S fun x S1 => wpE C b env S1 fun y S2 => wpBin S2 o x y Q) : wpE C (.bin o a b) env S Q := by unfold wpE; exact h
def negC (S : Store) (x : D) (Q : DQ) : Prop := ∃ i, x = .int i ∧ Q (.int (-i)) S
def notC (S : Store) (x : D) (Q : DQ) : Prop := ∃ k, truth S x = some k ∧ Q (.bl (!k)) S
theorem r_neg (h : wpE C a env S fun x S1 => negC S1 x Q) : wpE C (.neg a) env S Q := by
  unfold wpE
  refine wpE_m _ _ _ _ _ _ (fun x S1 ⟨i, e, h⟩ => ?_) h
  subst e
  exact h
theorem r_cmp {o : CO} (h : wpE C a env S fun x S1 => wpE C b env S1 fun y S2 => onO (cmpD S2 o x y) fun k => Q (.bl k) S2) : wpE C (.cmp o a b) env S Q := by unfold wpE; exact h
theorem r_chn {o p : CO} (h : wpE C a env S fun x S1 => wpE C b env S1 fun y S2 => ∃ k, cmpD S2 o x y = some k ∧ (k = true → wpE C c env S2 fun z S3 => onO (cmpD S3 p y z) fun l => Q (.bl l) S3) ∧ (k = false → Q (.bl false) S2)) : wpE C (.chn o p a b c) env S Q := by
  unfold wpE
  refine wpE_m _ _ _ _ _ _ (fun x S1 h => wpE_m _ _ _ _ _ _ (fun y S2 ⟨k, h1, h2, h3⟩ => ?_) h) h
  unfold onO
  rw [h1]
  cases k with
  | true => exact h2 rfl
  | false => exact h3 rfl
theorem r_and (h : wpE C a env S fun x S1 => ∃ k, x = .bl k ∧ (k = true → wpE C b env S1 Q) ∧ (k = false → Q (.bl false) S1)) : wpE C (.and a b) env S Q := by
  unfold wpE
  refine wpE_m _ _ _ _ _ _ (fun x S1 ⟨k, h1, h2, h3⟩ => ?_) h
  subst h1
  cases k with
  | true => exact h2 rfl
  | false => exact h3 rfl
theorem r_or (h : wpE C a env S fun x S1 => ∃ k, x = .bl k ∧ (k = true → Q (.bl true) S1) ∧ (k = false → wpE C b env S1 Q)) : wpE C (.or a b) env S Q := by
  unfold wpE
  refine wpE_m _ _ _ _ _ _ (fun x S1 ⟨k, h1, h2, h3⟩ => ?_) h
  subst h1
  cases k with
  | true => exact h2 rfl
  | false => exact h3 rfl
theorem r_not (h : wpE C a env S fun x S1 => notC S1 x Q) : wpE C (.not a) env S Q := by
  unfold wpE
  refine wpE_m _ _ _ _ _ _ (fun x S1 ⟨k, h1, h2⟩ => ?_) h
  unfold onO
  rw [h1]
  exact h2
theorem r_ife (h : wpE C c env S fun x S1 => ∃ k, truth S1 x = some k ∧ (k = true → wpE C a env S1 Q) ∧ (k = false → wpE C b env S1 Q)) : wpE C (.ife c a b) env S Q := by
  unfold wpE
  refine wpE_m _ _ _ _ _ _ (fun x S1 ⟨k, h1, h2, h3⟩ => ?_) h
  unfold onO
  rw [h1]
  cases k with
  | true => exact h2 rfl
  | false => exact h3 rfl
theorem r_call {f : Nat} {g : List D → Store → Out → Prop} (hf : C.sp f = FnS g) (h : wpEs C es env S fun ds S1 => FnS g ds S1 Q fun er S' => C.xq er env S') : wpE C (.call f es) env S Q := by
  unfold wpE
  rw [hf, callC_FnS]
  exact h
theorem r_bi {k : BI} (h : wpEs C es env S fun ds S1 => wpBi S1 k ds Q) : wpE C (.bi k es) env S Q := by unfold wpE; exact h
theorem r_bm {m : BM} (h : wpE C a env S fun x S1 => ∃ n xs, x = .ref n ∧ S1[n]? = some (.lst xs) ∧ wpEs C es env S1 fun ds S2 => wpBm S2 m x ds Q) : wpE C (.bm m a es) env S Q := by
  unfold wpE
  refine wpE_m _ _ _ _ _ _ (fun x S1 ⟨n, xs, h1, h2, h3⟩ => ?_) h
  subst h1
  unfold lstOf seqOf
  dsimp only
  rw [h2]
  exact h3
theorem r_ix (h : wpE C a env S fun x S1 => wpE C b env S1 fun y S2 => onO (ixD S2 x y) fun d => Q d S2) : wpE C (.ix a b) env S Q := by unfold wpE; exact h
theorem r_sl {l u : DO} (h : wpE C a env S fun x S1 => wpO C l env S1 fun l S2 => onO (partD l) fun l => wpO C u env S2 fun u S3 => onO (partD u) fun u => wpSl S3 x l u Q) : wpE C (.sl a l u) env S Q := by unfold wpE; exact h
/-- a display's end -/
def mkT (ds : List D) (S : Store) (Q : DQ) : Prop := ds.length ≤ sizeLine ∧ Q (.tup ds) S
def mkL (ds : List D) (S : Store) (Q : DQ) : Prop := ds.length ≤ sizeLine ∧ Q (.ref S.length) (S ++ [.lst ds])
theorem r_tup (h : wpEs C es env S fun ds S1 => mkT ds S1 Q) : wpE C (.tup es) env S Q := by unfold wpE; exact h
theorem r_lst (h : wpEs C es env S fun ds S1 => mkL ds S1 Q) : wpE C (.lst es) env S Q := by unfold wpE; exact h
/-- a comprehension's turn -/
def lcStep (C : SC) (own : List Nat) (t : DT) (c : DO) (e : DE) (env : DEnv) : D → Store → (Option D → Store → Prop) → Prop := fun d S2 K => wpT C t d (wipeD env own) S2 fun env1 S3 =>
  wpO C c env1 S3 fun o S4 => match o with
    | none => wpE C e env1 S4 fun y S5 => K (some y) S5
    | some x => onO (truth S4 x) fun k => if k = true then wpE C e env1 S4 fun y S5 => K (some y) S5 else K none S4
theorem r_lc {own : List Nat} {t : DT} {it : DI} {o : DO} (h : wpI C it env S fun src items S1 => still src S1 ∧ lcGo src S1.length (lcStep C.mute own t o e env) items (S1 ++ [.lst []]) fun S2 => Q (.ref S1.length) S2) : wpE C (.lc own t it o e) env S Q := by
  unfold wpE
  refine wpI_m _ _ _ _ _ _ (fun s l S1 h => ?_) h
  exact h
theorem r_eisi {cs : List Nat} {er : Err} (hx : C.exn = some er) (h : Q (.bl (cs.any fun c => C.sub er.cls c)) S) : wpE C (.eisi cs) env S Q := by unfold wpE; rw [hx]; exact h
theorem r_efld {f : Str} {er : Err} {d : D} (hx : C.exn = some er) (hf : er.fs.lookup f = some d) (h : Q d S) : wpE C (.efld f) env S Q := by unfold wpE; rw [hx]; dsimp only; rw [hf]; exact h
theorem r_oN {K : Option D → Store → Prop} (h : K none S) : wpO C .none env S K := by unfold wpO; exact h
theorem r_oS {K : Option D → Store → Prop} (h : wpE C e env S fun d S1 => K (some d) S1) : wpO C (.some e) env S K := by unfold wpO; exact h
theorem r_esN {K : List D → Store → Prop} (h : K [] S) : wpEs C .nil env S K := by unfold wpEs; exact h
theorem r_esC {K : List D → Store → Prop} (h : wpE C e env S fun d S1 => wpEs C es env S1 fun ds S2 => K (d :: ds) S2) : wpEs C (.cons e es) env S K := by unfold wpEs; exact h
theorem r_nm {i : Nat} {d : D} {K : DEnv → Store → Prop} (h : K (env.set i (some d)) S) : wpT C (.nm i) d env S K := by unfold wpT; exact h
theorem r_sub {d : D} {K : DEnv → Store → Prop} (h : wpE C a env S fun x S1 => wpE C b env S1 fun y S2 => wpSet S2 x y d fun S3 => K env S3) : wpT C (.sub a b) d env S K := by unfold wpT; exact h
theorem r_tp {ts : DTs} {d : D} {xs : List D} {K : DEnv → Store → Prop} (hs : seqOf S d = some xs) (hl : xs.length = ts.len) (h : wpTs C ts xs env S K) : wpT C (.tp ts) d env S K := by
  unfold wpT onO
  rw [hs]
  exact ⟨hl, h⟩
theorem r_tsN {K : DEnv → Store → Prop} (h : K env S) : wpTs C .nil [] env S K := by unfold wpTs; exact h
theorem r_tsC {t : DT} {ts : DTs} {d : D} {ds : List D} {K : DEnv → Store → Prop} (h : wpT C t d env S fun e1 S1 => wpTs C ts ds e1 S1 K) : wpTs C (.cons t ts) (d :: ds) env S K := by unfold wpTs; exact h
theorem r_iSeq {K : Src → List D → Store → Prop} (h : wpE C e env S fun d S1 => onO (seqOf S1 d) fun xs => K (some (d, xs)) xs S1) : wpI C (.seq e) env S K := by unfold wpI; exact h
theorem r_iRng {K : Src → List D → Store → Prop} (h : wpEs C es env S fun ds S1 => onO (rngD ds) fun xs => K none xs S1) : wpI C (.rng es) env S K := by unfold wpI; exact h
theorem r_iEnum {K : Src → List D → Store → Prop} (h : wpE C e env S fun d S1 => onO (seqOf S1 d) fun xs => K (some (d, xs)) (enumL 0 xs) S1) : wpI C (.enum e) env S K := by unfold wpI; exact h
theorem r_on {α : Type} {o : Option α} {k : α → Prop} {x : α} (ho : o = some x) (h : k x) : onO o k := by rw [ho]; exact h
/-! operators -/
theorem r_addI {i j : Int} (h : Q (.int (i + j)) S) : wpBin S .add (.int i) (.int j) Q := h
theorem r_subI {i j : Int} (h : Q (.int (i - j)) S) : wpBin S .sub (.int i) (.int j) Q := h
theorem r_mulI {i j : Int} (hb : i.natAbs.log2 + j.natAbs.log2 < 1000000) (h : Q (.int (i * j)) S) : wpBin S .mul (.int i) (.int j) Q := ⟨hb, h⟩
theorem r_fdivI {i j : Int} (h1 : 0 < j) (h2 : j.natAbs.log2 < 9000) (h : Q (.int (i / j)) S) : wpBin S .fdiv (.int i) (.int j) Q := ⟨h1, h2, h⟩
theorem r_modI {i j : Int} (h1 : 0 < j) (h : Q (.int (i % j)) S) : wpBin S .mod (.int i) (.int j) Q := ⟨h1, h⟩
theorem r_powI {i j : Int} (h1 : 0 ≤ j) (h2 : j ≤ 1000000) (h3 : i.natAbs < 2 ^ 64) (h : Q (.int (i ^ j.toNat)) S) : wpBin S .pow (.int i) (.int j) Q := ⟨h1, h2, h3, h⟩
theorem r_addT {xs ys : List D} (hl : xs.length + ys.length ≤ sizeLine) (h : Q (.tup (xs ++ ys)) S) : wpBin S .add (.tup xs) (.tup ys) Q := ⟨hl, h⟩
theorem r_addL {a b : Nat} {xs ys : List D} (ha : S[a]? = some (.lst xs)) (hb : S[b]? = some (.lst ys)) (hl : xs.length + ys.length ≤ sizeLine) (h : Q (.ref S.length) (S ++ [.lst (xs ++ ys)])) : wpBin S .add (.ref a) (.ref b) Q := by
  unfold wpBin
  dsimp only
  rw [ha, hb]
  exact ⟨hl, h⟩
theorem r_mulT {xs : List D} {k : Int} (h1 : -(2 ^ 63) ≤ k) (h2 : k ≤ 1000) (h3 : xs.length ≤ 1000) (h : Q (.tup (List.replicate k.toNat xs).flatten) S) : wpBin S .mul (.tup xs) (.int k) Q := ⟨⟨h1, h2⟩, h3, h⟩
theorem r_mulL {a : Nat} {xs : List D} {k : Int} (ha : S[a]? = some (.lst xs)) (h1 : -(2 ^ 63) ≤ k) (h2 : k < 2 ^ 63) (h3 : xs.length * k.toNat ≤ sizeLine) (h : Q (.ref S.length) (S ++ [.lst (List.replicate k.toNat xs).flatten])) : wpBin S .mul (.ref a) (.int k) Q := by
  unfold wpBin
  dsimp only
  rw [ha]
  exact ⟨h1, h2, h3, h⟩
theorem r_setL {n : Nat} {k : Int} {d : D} {xs : List D} {j : Nat} {K : Store → Prop} (ha : S[n]? = some (.lst xs)) (hj : L2.ixN xs.length k = some j) (h : K (S.set n (.lst (xs.set j d)))) : wpSet S (.ref n) (.int k) d K := by
  unfold wpSet
  dsimp only
  rw [ha]
  dsimp only
  rw [hj]
  exact h
theorem r_app {n : Nat} {d : D} {xs : List D} (ha : S[n]? = some (.lst xs)) (hl : xs.length < sizeLine) (h : Q .non (S.set n (.lst (xs ++ [d])))) : wpBm S .append (.ref n) [d] Q := by
  unfold wpBm
  dsimp only
  rw [ha]
  exact ⟨hl, h⟩
theorem r_slT {xs : List D} {l h : Option Int} (q : Q (.tup (cutL xs l h)) S) : wpSl S (.tup xs) l h Q := q
theorem r_slK {xs : List D} {l h : Option Int} (q : Q (.ref S.length) (S ++ [.lst (cutL xs l h)])) : wpSl S (.kl xs) l h Q := q
theorem r_slL {n : Nat} {xs : List D} {l h : Option Int} (ha : S[n]? = some (.lst xs)) (q : Q (.ref S.length) (S ++ [.lst (cutL xs l h)])) : wpSl S (.ref n) l h Q := by
  unfold wpSl seqOf
  dsimp only
  rw [ha]
  exact q
theorem seq_ref {n : Nat} {xs : List D} (ha : S[n]? = some (.lst xs)) : seqOf S (.ref n) = some xs := by
  unfold seqOf
  dsimp only
  rw [ha]
end
/-! ### loops -/
/-- the turns of a for -/
def FR (C : SC) (t : DT) (b : List DS) (src : Src) (items : List D) (B : DEnds) (env : DEnv) (S : Store) : Prop := frGo src (fun d B' e S' => wpT C t d e S' fun e2 S2 => wpSs C b B' e2 S2) B items env S
theorem r_fr {C : SC} {t : DT} {it : DI} {b : List DS} {B : DEnds} {env : DEnv} {S : Store} (h : wpI C it env S fun src items S1 => still src S1 ∧ FR C t b src items B env S1) : wpS C (.fr t it b) B env S := by
  unfold wpS
  exact h
/-- by an invariant: behind k turns -/
theorem FR_ind {C : SC} {t : DT} {b : List DS} {src : Src} {items : List D} {B : DEnds} {env : DEnv} {S : Store} (I : Nat → DEnv → Store → Prop) (h0 : I 0 env S)
    (hs : ∀ (k : Nat) (d : D) (env : DEnv) (S : Store), items[k]? = some d → I k env S → wpT C t d env S fun e2 S2 => wpSs C b { nx := fun e' S' => still src S' ∧ I (k + 1) e' S', ct := fun e' S' => still src S' ∧ I (k + 1) e' S', bk := B.nx, rt := B.rt } e2 S2)
    (he : ∀ env S, I items.length env S → B.nx env S) : FR C t b src items B env S := by
  have key : ∀ (l : List D) (k : Nat) (env : DEnv) (S : Store), items.drop k = l → k ≤ items.length → I k env S → frGo src (fun d B' e S' => wpT C t d e S' fun e2 S2 => wpSs C b B' e2 S2) B l env S := by
    intro l
    induction l with
    | nil =>
      intro k env S hl hk hi
      have : items.length ≤ k := List.drop_eq_nil_iff.mp hl
      have e : k = items.length := by omega
      subst e
      unfold frGo
      exact he _ _ hi
    | cons d r ih =>
      intro k env S hl hk hi
      have hlt : k < items.length := by
        rcases Nat.lt_or_ge k items.length with z | z
        · exact z
        · rw [List.drop_eq_nil_iff.mpr z] at hl; cases hl
      have hd := List.drop_eq_getElem_cons hlt
      rw [hl] at hd
      injection hd with hd1 hd2
      unfold frGo
      refine wpT_m _ _ _ _ _ _ _ (fun e2 S2 q => wpSs_m _ _ (DEnds.Le.mk ?_ ?_ ?_ ?_) q) (hs k d env S (by rw [hd1]; exact List.getElem?_eq_getElem hlt) hi)
      · intro e3 S3 z
        exact ⟨z.1, ih (k + 1) _ _ hd2.symm hlt z.2⟩
      · intro _ _ z; exact z
      · intro _ _ z; exact z
      · intro e3 S3 z
        exact ⟨z.1, ih (k + 1) _ _ hd2.symm hlt z.2⟩
  exact key items 0 env S rfl (Nat.zero_le _) h0
theorem r_wh {C : SC} {c : DE} {b : List DS} {B : DEnds} {env : DEnv} {S : Store} (W : Nat → DEnv → Store → Prop) (m : Nat) (h0 : W m env S) (hs : ∀ m env S, W m env S → wpE C c env S fun x S1 => ∃ k, truth S1 x = some k ∧
    (k = true → wpSs C b { nx := fun e' S' => ∃ m', m' < m ∧ W m' e' S', ct := fun e' S' => ∃ m', m' < m ∧ W m' e' S', bk := B.nx, rt := B.rt } env S1) ∧ (k = false → B.nx env S1)) : wpS C (.wh c b) B env S := by
  unfold wpS
  refine ⟨W, ⟨m, h0⟩, fun m env S hW => wpE_m _ _ _ _ _ _ (fun x S1 ⟨k, h1, h2, h3⟩ => ?_) (hs m env S hW)⟩
  unfold onO
  rw [h1]
  cases k with
  | true => exact h2 rfl
  | false => exact h3 rfl
theorem still_none {S : Store} : still none S := fun _ h => by cases h
theorem still_tup {S : Store} {xs : List D} : still (some (.tup xs, xs)) S := fun p h => by cases h; rfl
theorem still_kl {S : Store} {xs : List D} : still (some (.kl xs, xs)) S := fun p h => by cases h; rfl
theorem still_ref {S : Store} {n : Nat} {xs : List D} (h : S[n]? = some (.lst xs)) : still (some (.ref n, xs)) S := fun p e => by
  cases e
  exact seq_ref h
theorem still_app {src : Src} {S : Store} (h : still src S) (L : Store) : still src (S ++ L) := fun p e => by
  have q := h p e
  obtain ⟨d, xs⟩ := p
  cases d with
  | ref k =>
    have q' : seqOf S (.ref k) = some xs := q
    show seqOf (S ++ L) (.ref k) = some xs
    unfold seqOf at q' ⊢
    dsimp only at q' ⊢
    have hk : k < S.length := by
      rcases Nat.lt_or_ge k S.length with z | z
      · exact z
      · rw [List.getElem?_eq_none z] at q'; cases q'
    rw [List.getElem?_append_left hk]
    exact q'
  | _ => exact q
theorem lcStep_mono {C : SC} {own : List Nat} {t : DT} {c : DO} {e : DE} {env : DEnv} {d : D} {S : Store} {K K' : Option D → Store → Prop} (h : ∀ o S, K o S → K' o S) (q : lcStep C own t c e env d S K) : lcStep C own t c e env d S K' := by
  unfold lcStep at q ⊢
  refine wpT_m _ _ _ _ _ _ _ (fun e2 S2 q => wpO_m _ _ _ _ _ _ (fun o S3 q => ?_) q) q
  cases o with
  | none => exact wpE_m _ _ _ _ _ _ (fun y S5 z => h _ _ z) q
  | some x =>
    refine onO_mono (fun k q => ?_) q
    by_cases hk : k = true
    · rw [if_pos hk] at q ⊢
      exact wpE_m _ _ _ _ _ _ (fun y S5 z => h _ _ z) q
    · rw [if_neg hk] at q ⊢
      exact h _ _ q
theorem get_last (S : Store) (o : SO) : (S ++ [o])[S.length]? = some o := by
  rw [List.getElem?_append_right (Nat.le_refl _), Nat.sub_self]
  rfl
theorem set_last (S : Store) (a b : SO) : (S ++ [a]).set S.length b = S ++ [b] := by
  rw [List.set_append_right _ _ (Nat.le_refl _), Nat.sub_self]
  rfl
/-- a comprehension whose items leave the store as it is -/
theorem lc_fm {C : SC} {own : List Nat} {t : DT} {c : DO} {e : DE} {env : DEnv} {src : Src} {items : List D} {S : Store} {Kn : Store → Prop} (f : D → Option D) (hst : still src S) (hl : items.length ≤ sizeLine)
    (hs : ∀ (k : Nat) (d : D) (acc : List D), items[k]? = some d → lcStep C own t c e env d (S ++ [.lst acc]) fun o S' => o = f d ∧ S' = S ++ [.lst acc]) (hK : Kn (S ++ [.lst (items.filterMap f)])) : lcGo src S.length (lcStep C own t c e env) items (S ++ [.lst []]) Kn := by
  have key : ∀ (l : List D) (k : Nat), items.drop k = l → lcGo src S.length (lcStep C own t c e env) l (S ++ [.lst ((items.take k).filterMap f)]) Kn := by
    intro l
    induction l with
    | nil =>
      intro k hk
      have : items.length ≤ k := List.drop_eq_nil_iff.mp hk
      unfold lcGo
      rw [List.take_of_length_le this]
      exact hK
    | cons d r ih =>
      intro k hk
      have hlt : k < items.length := by
        rcases Nat.lt_or_ge k items.length with z | z
        · exact z
        · rw [List.drop_eq_nil_iff.mpr z] at hk; cases hk
      have hd := List.drop_eq_getElem_cons hlt
      rw [hk] at hd
      injection hd with hd1 hd2
      have hi : (items[k]? : Option D) = some d := by rw [hd1]; exact List.getElem?_eq_getElem hlt
      have ht : items.take (k + 1) = items.take k ++ [d] := by rw [List.take_add_one, hi]; rfl
      unfold lcGo
      refine lcStep_mono (fun o S' ⟨h1, h2⟩ => ?_) (hs k d _ hi)
      subst h2
      refine ⟨still_app hst _, ?_⟩
      have := ih (k + 1) hd2.symm
      rw [ht, List.filterMap_append, List.filterMap_cons, List.filterMap_nil] at this
      cases o with
      | none =>
        rw [← h1] at this
        dsimp only at this ⊢
        rw [List.append_nil] at this
        exact this
      | some y =>
        rw [← h1] at this
        dsimp only at this ⊢
        rw [List.getElem?_append_right (Nat.le_refl _), Nat.sub_self]
        dsimp only [List.getElem?_cons_zero]
        refine ⟨?_, ?_⟩
        · have h1 := List.length_filterMap_le f (items.take k)
          rw [List.length_take] at h1
          omega
        · rw [set_last]
          exact this
  have := key items 0 rfl
  rw [List.take_zero] at this
  exact this
/-- the end of a turn -/
def LcEnd (S S' : Store) (o p : Option D) : Prop := S' = S ∧ o = p
/-- .. by the turn -/
theorem lc_ix {C : SC} {own : List Nat} {t : DT} {c : DO} {e : DE} {env : DEnv} {src : Src} {items : List D} {S : Store} {Kn : Store → Prop} (f : Nat → Option D) (hst : still src S) (hl : items.length ≤ sizeLine)
    (hs : ∀ (k : Nat) (d : D) (acc : List D), items[k]? = some d → lcStep C own t c e env d (S ++ [.lst acc]) fun o S' => LcEnd (S ++ [.lst acc]) S' o (f k)) (hK : Kn (S ++ [.lst ((List.range items.length).filterMap f)])) : lcGo src S.length (lcStep C own t c e env) items (S ++ [.lst []]) Kn := by
  have key : ∀ (l : List D) (k : Nat), items.drop k = l → k ≤ items.length → lcGo src S.length (lcStep C own t c e env) l (S ++ [.lst ((List.range k).filterMap f)]) Kn := by
    intro l
    induction l with
    | nil =>
      intro k hk hk2
      have : items.length ≤ k := List.drop_eq_nil_iff.mp hk
      have e : k = items.length := by omega
      subst e
      unfold lcGo
      exact hK
    | cons d r ih =>
      intro k hk hk2
      have hlt : k < items.length := by
        rcases Nat.lt_or_ge k items.length with z | z
        · exact z
        · rw [List.drop_eq_nil_iff.mpr z] at hk; cases hk
      have hd := List.drop_eq_getElem_cons hlt
      rw [hk] at hd
      injection hd with hd1 hd2
      have hi : (items[k]? : Option D) = some d := by rw [hd1]; exact List.getElem?_eq_getElem hlt
      unfold lcGo
      refine lcStep_mono (fun o S' ⟨h2, h1⟩ => ?_) (hs k d _ hi)
      subst h2
      refine ⟨still_app hst _, ?_⟩
      have := ih (k + 1) hd2.symm hlt
      rw [List.range_succ, List.filterMap_append, List.filterMap_cons, List.filterMap_nil] at this
      cases o with
      | none =>
        rw [← h1] at this
        dsimp only at this ⊢
        rw [List.append_nil] at this
        exact this
      | some y =>
        rw [← h1] at this
        dsimp only at this ⊢
        rw [List.getElem?_append_right (Nat.le_refl _), Nat.sub_self]
        dsimp only [List.getElem?_cons_zero]
        refine ⟨?_, ?_⟩
        · have h1 := List.length_filterMap_le f (List.range k)
          rw [List.length_range] at h1
          omega
        · rw [set_last]
          exact this
  exact key items 0 rfl (Nat.zero_le _)
theorem lc_end {S S' : Store} {o p : Option D} (h : S' = S) (q : o = p) : LcEnd S S' o p := ⟨h, q⟩
/-- a test -/
theorem on_if {S : Store} {x : D} {A B : Prop} (h : ∃ k, truth S x = some k ∧ (k = true → A) ∧ (k = false → B)) : onO (truth S x) fun k => if k = true then A else B := by
  obtain ⟨k, h1, h2, h3⟩ := h
  unfold onO
  rw [h1]
  cases k with
  | true => exact h2 rfl
  | false => exact h3 rfl
theorem filterMap_ints {n : Nat} {g : Nat → Int} : (List.range n).filterMap (fun k => some (D.int (g k))) = ((List.range n).map g).map D.int := by
  rw [List.map_map, ← List.filterMap_eq_map]
  rfl
theorem filterMap_ifs {p : Nat → Bool} {g : Nat → Int} : ∀ l : List Nat, l.filterMap (fun k => if p k = true then some (D.int (g k)) else none) = ((l.filter p).map g).map D.int
  | [] => rfl
  | x :: l => by
    have ih := filterMap_ifs (p := p) (g := g) l
    rw [List.filterMap_cons, List.filter_cons, ih]
    cases p x with
    | true => rfl
    | false => rfl
end PD

set_option Elab.async false
set_option linter.all false
set_option maxRecDepth 100000
set_option maxHeartbeats 4000000
namespace PD
open PySem
/-! ### whole numbers in lists -/
def tupI (l : List Int) : D := .tup (l.map .int)
def lstI (l : List Int) : SO := .lst (l.map .int)
/-- the i-th, 0 behind the end -/
def cf (l : List Int) (i : Nat) : Int := l.getD i 0
theorem big (n : Nat) (h : n ≤ 16000000) : n ≤ sizeLine := Nat.le_trans h (by decide)
theorem big' (n : Nat) (h : n ≤ 16000000) : n < sizeLine := Nat.lt_of_le_of_lt h (by decide)
section
variable {C : SC} {env : DEnv} {S : Store} {Q : DQ} {B : DEnds} {f g : List Int} {n m : Nat} {i j k : Int}
theorem ml (l : List Int) : (l.map D.int).length = l.length := List.length_map ..
/-! displays -/
theorem m_t0 (h : Q (tupI []) S) : mkT [] S Q := ⟨Nat.zero_le _, h⟩
theorem m_t1 (h : Q (tupI [i]) S) : mkT [.int i] S Q := ⟨by show 1 ≤ sizeLine; decide, h⟩
theorem m_t2 (h : Q (tupI [i, j]) S) : mkT [.int i, .int j] S Q := ⟨by show 2 ≤ sizeLine; decide, h⟩
theorem m_tg {ds : List D} (hl : ds.length ≤ 1000) (h : Q (.tup ds) S) : mkT ds S Q := ⟨big _ (by omega), h⟩
theorem m_l0 (h : Q (.ref S.length) (S ++ [lstI []])) : mkL [] S Q := ⟨Nat.zero_le _, h⟩
theorem m_l1 (h : Q (.ref S.length) (S ++ [lstI [i]])) : mkL [.int i] S Q := ⟨by show 1 ≤ sizeLine; decide, h⟩
theorem m_l3 (h : Q (.ref S.length) (S ++ [lstI [i, j, k]])) : mkL [.int i, .int j, .int k] S Q := ⟨by show 3 ≤ sizeLine; decide, h⟩
theorem m_lg {ds : List D} (hl : ds.length ≤ 1000) (h : Q (.ref S.length) (S ++ [.lst ds])) : mkL ds S Q := ⟨big _ (by omega), h⟩
/-! operators -/
theorem a_tt (hl : f.length + g.length ≤ 16000000) (h : Q (tupI (f ++ g)) S) : wpBin S .add (tupI f) (tupI g) Q := by
  refine r_addT (by rw [ml, ml]; exact big _ hl) ?_
  rw [← List.map_append]
  exact h
theorem a_ll (ha : S[n]? = some (lstI f)) (hb : S[m]? = some (lstI g)) (hl : f.length + g.length ≤ 16000000) (h : Q (.ref S.length) (S ++ [lstI (f ++ g)])) : wpBin S .add (.ref n) (.ref m) Q := by
  refine r_addL ha hb (by rw [ml, ml]; exact big _ hl) ?_
  rw [← List.map_append]
  exact h
theorem rep1 (m : Nat) (i : Int) : (List.replicate m [D.int i]).flatten = (List.replicate m i).map D.int := by
  induction m with
  | zero => rfl
  | succ m ih => rw [List.replicate_succ, List.replicate_succ, List.flatten_cons, ih]; rfl
theorem x_t1 (h1 : -(2 ^ 63) ≤ k) (h2 : k ≤ 1000) (h : Q (tupI (List.replicate k.toNat i)) S) : wpBin S .mul (tupI [i]) (.int k) Q := by
  refine r_mulT h1 h2 (by show 1 ≤ 1000; decide) ?_
  have e : (List.replicate k.toNat (List.map D.int [i])).flatten = (List.replicate k.toNat i).map D.int := rep1 _ _
  rw [e]
  exact h
theorem x_l1 (ha : S[n]? = some (lstI [i])) (h1 : -(2 ^ 63) ≤ k) (h2 : k ≤ 1000000) (h : Q (.ref S.length) (S ++ [lstI (List.replicate k.toNat i)])) : wpBin S .mul (.ref n) (.int k) Q := by
  have hh : (List.map D.int [i]).length * k.toNat ≤ 16000000 := by
    show 1 * k.toNat ≤ 16000000
    omega
  refine r_mulL ha h1 (by omega) (big _ hh) ?_
  have e : (List.replicate k.toNat (List.map D.int [i])).flatten = (List.replicate k.toNat i).map D.int := rep1 _ _
  rw [e]
  exact h
/-! slices -/
theorem cut_map {α β : Type} (f : α → β) (l : List α) (lo hi : Option Int) : cutL (l.map f) lo hi = (cutL l lo hi).map f := by
  unfold cutL
  rw [List.length_map, ← List.map_drop, ← List.map_take]
theorem cut_to {α : Type} (l : List α) (k : Int) (h : 0 ≤ k) : cutL l none (some k) = l.take k.toNat := by
  unfold cutL
  have e1 : HT.sIx l.length 0 none = 0 := rfl
  have e2 : HT.sIx l.length l.length (some k) = min k.toNat l.length := by
    show (if k < 0 then (k + (l.length : Int)).toNat else min k.toNat l.length) = min k.toNat l.length
    rw [if_neg (by omega)]
  rw [e1, e2, List.drop_zero, Nat.sub_zero, Nat.min_def]
  split
  · rfl
  · rw [List.take_of_length_le (Nat.le_refl _), List.take_of_length_le (by omega)]
theorem cut_from {α : Type} (l : List α) (k : Int) (h : 0 ≤ k) : cutL l (some k) none = l.drop k.toNat := by
  unfold cutL
  have e1 : HT.sIx l.length l.length none = l.length := rfl
  have e2 : HT.sIx l.length 0 (some k) = min k.toNat l.length := by
    show (if k < 0 then (k + (l.length : Int)).toNat else min k.toNat l.length) = min k.toNat l.length
    rw [if_neg (by omega)]
  rw [e1, e2, Nat.min_def]
  split
  · rw [List.take_of_length_le (by rw [List.length_drop]; omega)]
  · rw [List.drop_eq_nil_of_le (Nat.le_refl _), List.drop_eq_nil_of_le (by omega), List.take_nil]
theorem s_tt (hk : 0 ≤ k) (h : Q (tupI (f.take k.toNat)) S) : wpSl S (tupI f) none (some k) Q := by
  refine r_slT ?_
  rw [cut_map, cut_to _ _ hk]
  exact h
theorem s_tf (hk : 0 ≤ k) (h : Q (tupI (f.drop k.toNat)) S) : wpSl S (tupI f) (some k) none Q := by
  refine r_slT ?_
  rw [cut_map, cut_from _ _ hk]
  exact h
theorem s_lt (ha : S[n]? = some (lstI f)) (hk : 0 ≤ k) (h : Q (.ref S.length) (S ++ [lstI (f.take k.toNat)])) : wpSl S (.ref n) none (some k) Q := by
  refine r_slL ha ?_
  rw [cut_map, cut_to _ _ hk]
  exact h
theorem s_lf (ha : S[n]? = some (lstI f)) (hk : 0 ≤ k) (h : Q (.ref S.length) (S ++ [lstI (f.drop k.toNat)])) : wpSl S (.ref n) (some k) none Q := by
  refine r_slL ha ?_
  rw [cut_map, cut_from _ _ hk]
  exact h
/-! built-ins -/
theorem n_t (h : Q (.int f.length) S) : wpBi S .len [tupI f] Q := by
  show Q (.int (f.map D.int).length) S
  rw [ml]
  exact h
theorem n_l (ha : S[n]? = some (lstI f)) (h : Q (.int f.length) S) : wpBi S .len [.ref n] Q := by
  show onO (seqOf S (.ref n)) _
  rw [seq_ref ha]
  show Q (.int (f.map D.int).length) S
  rw [ml]
  exact h
theorem n_lg {xs : List D} (ha : S[n]? = some (.lst xs)) (h : Q (.int xs.length) S) : wpBi S .len [.ref n] Q := by
  show onO (seqOf S (.ref n)) _
  rw [seq_ref ha]
  exact h
theorem n_tg {xs : List D} (h : Q (.int xs.length) S) : wpBi S .len [.tup xs] Q := h
theorem l_t (h : Q (.ref S.length) (S ++ [lstI f])) : wpBi S .list [tupI f] Q := h
theorem l_l (ha : S[n]? = some (lstI f)) (h : Q (.ref S.length) (S ++ [lstI f])) : wpBi S .list [.ref n] Q := by
  show onO (seqOf S (.ref n)) _
  rw [seq_ref ha]
  exact h
theorem l_lg {xs : List D} (ha : S[n]? = some (.lst xs)) (h : Q (.ref S.length) (S ++ [.lst xs])) : wpBi S .list [.ref n] Q := by
  show onO (seqOf S (.ref n)) _
  rw [seq_ref ha]
  exact h
theorem t_t (h : Q (tupI f) S) : wpBi S .tuple [tupI f] Q := h
theorem t_l (ha : S[n]? = some (lstI f)) (h : Q (tupI f) S) : wpBi S .tuple [.ref n] Q := by
  show onO (seqOf S (.ref n)) _
  rw [seq_ref ha]
  exact h
theorem b_abs (h : Q (.int i.natAbs) S) : wpBi S .abs [.int i] Q := by
  have e : (i.natAbs : Int) = if i < 0 then -i else i := by
    split <;> omega
  show Q (.int (if i < 0 then -i else i)) S
  rw [← e]
  exact h
theorem b_int (h : Q (.int i) S) : wpBi S .int [.int i] Q := h
theorem b_intb {b : Bool} (h : Q (.int (if b then 1 else 0)) S) : wpBi S .int [.bl b] Q := h
theorem b_max (h : Q (.int (max i j)) S) : wpBi S .max [.int i, .int j] Q := by
  have e : max i j = if j > i then j else i := by
    rw [Int.max_def]
    split <;> split <;> omega
  show Q (.int (if j > i then j else i)) S
  rw [← e]
  exact h
theorem b_min (h : Q (.int (min i j)) S) : wpBi S .min [.int i, .int j] Q := by
  have e : min i j = if j < i then j else i := by
    rw [Int.min_def]
    split <;> split <;> omega
  show Q (.int (if j < i then j else i)) S
  rw [← e]
  exact h
theorem b_isi {x c : D} {k : Bool} (hk : isiD S x c = some k) (h : Q (.bl k) S) : wpBi S .isinstance [x, c] Q := by
  show onO (isiD S x c) _
  rw [hk]
  exact h
/-! places -/
theorem atI_nat {α : Type} {xs : List α} {k : Int} (h0 : 0 ≤ k) (h1 : k < xs.length) : L2.atI xs k = xs[k.toNat]? := by
  unfold L2.atI L2.ixN
  rw [if_pos h0, if_pos h1]
  rfl
theorem atI_neg {α : Type} {xs : List α} (h1 : 0 < xs.length) : L2.atI xs (-1) = xs[xs.length - 1]? := by
  unfold L2.atI L2.ixN
  rw [if_neg (by omega), if_pos (by omega)]
  show xs[((-1 : Int) + xs.length).toNat]? = _
  congr 1
  omega
theorem get_cf {l : List Int} {i : Nat} (h : i < l.length) : (l.map D.int)[i]? = some (.int (cf l i)) := by
  unfold cf
  rw [List.getElem?_map, List.getD_eq_getElem?_getD, List.getElem?_eq_getElem h]
  rfl
theorem i_t {Kk : D → Prop} (h0 : 0 ≤ k) (h1 : k < f.length) (h : Kk (.int (cf f k.toNat))) : onO (ixD S (tupI f) (.int k)) Kk := by
  have e : ixD S (tupI f) (.int k) = some (.int (cf f k.toNat)) := by
    show L2.atI (f.map D.int) k = _
    rw [atI_nat h0 (by rw [ml]; exact h1), get_cf (by omega)]
  rw [e]
  exact h
theorem i_tn {Kk : D → Prop} (h1 : 0 < f.length) (h : Kk (.int (cf f (f.length - 1)))) : onO (ixD S (tupI f) (.int (-1))) Kk := by
  have e : ixD S (tupI f) (.int (-1)) = some (.int (cf f (f.length - 1))) := by
    show L2.atI (f.map D.int) (-1) = _
    rw [atI_neg (by rw [ml]; exact h1), ml, get_cf (by omega)]
  rw [e]
  exact h
theorem i_l {Kk : D → Prop} (ha : S[n]? = some (lstI f)) (h0 : 0 ≤ k) (h1 : k < f.length) (h : Kk (.int (cf f k.toNat))) : onO (ixD S (.ref n) (.int k)) Kk := by
  have e : ixD S (.ref n) (.int k) = some (.int (cf f k.toNat)) := by
    show (match seqOf S (.ref n) with
      | some xs => L2.atI xs k
      | none => none) = _
    rw [seq_ref ha]
    show L2.atI (f.map D.int) k = _
    rw [atI_nat h0 (by rw [ml]; exact h1), get_cf (by omega)]
  rw [e]
  exact h
theorem i_tg {Kk : D → Prop} {xs : List D} {d : D} (hd : L2.atI xs k = some d) (h : Kk d) : onO (ixD S (.tup xs) (.int k)) Kk := by
  have e : ixD S (.tup xs) (.int k) = some d := hd
  rw [e]
  exact h
theorem i_lg {Kk : D → Prop} {xs : List D} {d : D} (ha : S[n]? = some (.lst xs)) (hd : L2.atI xs k = some d) (h : Kk d) : onO (ixD S (.ref n) (.int k)) Kk := by
  have e : ixD S (.ref n) (.int k) = some d := by
    show (match seqOf S (.ref n) with
      | some xs => L2.atI xs k
      | none => none) = _
    rw [seq_ref ha]
    exact hd
  rw [e]
  exact h
theorem w_l {Kk : Store → Prop} (ha : S[n]? = some (lstI f)) (h0 : 0 ≤ k) (h1 : k < f.length) (h : Kk (S.set n (lstI (f.set k.toNat i)))) : wpSet S (.ref n) (.int k) (.int i) Kk := by
  have e : L2.ixN (f.map D.int).length k = some k.toNat := by
    unfold L2.ixN
    rw [ml, if_pos h0, if_pos h1]
  refine r_setL ha e ?_
  rw [← List.map_set]
  exact h
/-- the list that was laid last -/
theorem w_e {Kk : Store → Prop} (h0 : 0 ≤ k) (h1 : k < f.length) (h : Kk (S ++ [lstI (f.set k.toNat i)])) : wpSet (S ++ [lstI f]) (.ref S.length) (.int k) (.int i) Kk := by
  refine w_l (get_last S _) h0 h1 ?_
  rw [set_last]
  exact h
theorem p_l (ha : S[n]? = some (lstI f)) (hl : f.length ≤ 16000000) (h : Q .non (S.set n (lstI (f ++ [i])))) : wpBm S .append (.ref n) [.int i] Q := by
  refine r_app ha (by rw [ml]; exact big' _ hl) ?_
  have e : f.map D.int ++ [D.int i] = (f ++ [i]).map D.int := by rw [List.map_append]; rfl
  rw [e]
  exact h
theorem p_e (hl : f.length ≤ 16000000) (h : Q .non (S ++ [lstI (f ++ [i])])) : wpBm (S ++ [lstI f]) .append (.ref S.length) [.int i] Q := by
  refine p_l (get_last S _) hl ?_
  rw [set_last]
  exact h
/-! comparisons -/
theorem c_lt {Kk : Bool → Prop} (h : Kk (decide (i < j))) : onO (cmpD S .lt (.int i) (.int j)) Kk := h
theorem c_le {Kk : Bool → Prop} (h : Kk (decide (i ≤ j))) : onO (cmpD S .le (.int i) (.int j)) Kk := h
theorem c_gt {Kk : Bool → Prop} (h : Kk (decide (j < i))) : onO (cmpD S .gt (.int i) (.int j)) Kk := h
theorem c_ge {Kk : Bool → Prop} (h : Kk (decide (j ≤ i))) : onO (cmpD S .ge (.int i) (.int j)) Kk := h
theorem c_eq {Kk : Bool → Prop} (h : Kk (decide (i = j))) : onO (cmpD S .eq (.int i) (.int j)) Kk := by
  have e : cmpD S .eq (.int i) (.int j) = some (decide (i = j)) := by
    show some (PyData.eqv (.int i) (.int j)) = _
    unfold PyData.eqv
    rw [Bool.beq_eq_decide_eq]
  rw [e]
  exact h
theorem c_ne {Kk : Bool → Prop} (h : Kk (!decide (i = j))) : onO (cmpD S .ne (.int i) (.int j)) Kk := by
  have e : cmpD S .ne (.int i) (.int j) = some (!decide (i = j)) := by
    show some (!PyData.eqv (.int i) (.int j)) = _
    unfold PyData.eqv
    rw [Bool.beq_eq_decide_eq]
  rw [e]
  exact h
theorem c_is {Kk : Bool → Prop} {a b : Bool} (h : Kk (a == b)) : onO (cmpD S .is (.bl a) (.bl b)) Kk := h
theorem c_isn {Kk : Bool → Prop} {a b : Bool} (h : Kk (!(a == b))) : onO (cmpD S .isn (.bl a) (.bl b)) Kk := h
theorem c_gen {Kk : Bool → Prop} {o : CO} {x y : D} {b : Bool} (hb : cmpD S o x y = some b) (h : Kk b) : onO (cmpD S o x y) Kk := by
  rw [hb]
  exact h
/-! tests -/
theorem t_bl {b : Bool} {P1 P2 : Prop} (h1 : b = true → P1) (h2 : b = false → P2) : ∃ k, truth S (.bl b) = some k ∧ (k = true → P1) ∧ (k = false → P2) := ⟨b, rfl, h1, h2⟩
theorem t_and {b : Bool} {P1 P2 : Prop} (h1 : b = true → P1) (h2 : b = false → P2) : ∃ k, (D.bl b) = .bl k ∧ (k = true → P1) ∧ (k = false → P2) := ⟨b, rfl, h1, h2⟩
theorem t_nb {b : Bool} (h : Q (.bl (!b)) S) : notC S (.bl b) Q := ⟨b, rfl, h⟩
theorem t_neg (h : Q (.int (-i)) S) : negC S (.int i) Q := ⟨i, rfl, h⟩
/-! what a loop walks -/
theorem g_r1 {Kk : List D → Prop} (h0 : -(2 ^ 62) ≤ j) (h1 : j < 2 ^ 62) (h : Kk (rngL 0 j.toNat)) : onO (rngD [.int j]) Kk := by
  have e : rngD [.int j] = some (rngL 0 j.toNat) := if_pos ⟨h0, h1⟩
  rw [e]
  exact h
theorem g_r2 {Kk : List D → Prop} (h0 : -(2 ^ 62) ≤ i) (h1 : i < 2 ^ 62) (h2 : -(2 ^ 62) ≤ j) (h3 : j < 2 ^ 62) (h : Kk (rngL i (j - i).toNat)) : onO (rngD [.int i, .int j]) Kk := by
  have e : rngD [.int i, .int j] = some (rngL i (j - i).toNat) := if_pos ⟨h0, h1, h2, h3⟩
  rw [e]
  exact h
theorem g_t {Kk : List D → Prop} (h : Kk (f.map D.int)) : onO (seqOf S (tupI f)) Kk := h
theorem g_l {Kk : List D → Prop} (ha : S[n]? = some (lstI f)) (h : Kk (f.map D.int)) : onO (seqOf S (.ref n)) Kk := by
  rw [seq_ref ha]
  exact h
theorem g_lg {Kk : List D → Prop} {xs : List D} (ha : S[n]? = some (.lst xs)) (h : Kk xs) : onO (seqOf S (.ref n)) Kk := by
  rw [seq_ref ha]
  exact h
theorem rngL_get {lo : Int} {n k : Nat} {d : D} (h : (rngL lo n)[k]? = some d) : k < n ∧ d = .int (lo + k) := by
  unfold rngL at h
  rw [List.getElem?_map] at h
  obtain ⟨a, ha, e⟩ := Option.map_eq_some_iff.mp h
  have hl : k < n := by
    rcases Nat.lt_or_ge k n with z | z
    · exact z
    · rw [List.getElem?_eq_none (by rw [List.length_range]; exact z)] at ha; cases ha
  rw [List.getElem?_range hl] at ha
  cases ha
  exact ⟨hl, e.symm⟩
theorem map_get {l : List Int} {k : Nat} {d : D} (h : (l.map D.int)[k]? = some d) : k < l.length ∧ d = .int (cf l k) := by
  have hl : k < l.length := by
    rcases Nat.lt_or_ge k l.length with z | z
    · exact z
    · rw [List.getElem?_eq_none (by rw [ml]; exact z)] at h; cases h
  rw [get_cf hl] at h
  cases h
  exact ⟨hl, rfl⟩
theorem enumL_get' : ∀ {xs : List D} {j k : Nat} {d : D}, (enumL j xs)[k]? = some d → ∃ e, xs[k]? = some e ∧ d = .tup [.int ((j + k : Nat) : Int), e]
  | [], j, k, d, h => by cases h
  | x :: r, j, 0, d, h => by
    cases h
    exact ⟨x, rfl, rfl⟩
  | x :: r, j, k + 1, d, h => by
    unfold enumL at h
    rw [List.getElem?_cons_succ] at h
    obtain ⟨e, h1, h2⟩ := enumL_get' h
    refine ⟨e, h1, ?_⟩
    rw [h2]
    congr 4
    omega
theorem get_last' (S : Store) (o : SO) : (S ++ [o])[S.length]? = some o := get_last S o
theorem get_app {S : Store} {n : Nat} {o : SO} {L : Store} (h : S[n]? = some o) : (S ++ L)[n]? = some o := (Ext.app S L).get h
/-! the end -/
theorem o_val {d d0 : D} {S S' : Store} (e : Ext S S') (h : d = d0) : (retO S (.val d0)).rt d S' := ⟨e, h⟩
theorem o_new {n : Nat} {xs : List D} {S S' : Store} (e : Ext S S') (hn : S.length ≤ n) (h : S'[n]? = some (.lst xs)) : (retO S (.new xs)).rt (.ref n) S' := ⟨e, n, rfl, hn, h⟩
theorem o_exc {M : Md} {S S' : Store} {o : Out} {er : Err} {P : Prop} (e : Ext S S') (h : o = .exc er) (hl : P) : P ∧ (M.C (excO S o)).xq er env S' := ⟨hl, e, h⟩
/-- whole numbers, in a tuple or a list -/
def isSq (S : Store) (d : D) (l : List Int) : Prop := d = tupI l ∨ ∃ n, d = .ref n ∧ S[n]? = some (lstI l)
theorem isSq.app {d : D} (h : isSq S d f) (L : Store) : isSq (S ++ L) d f := h.elim .inl fun ⟨n, h1, h2⟩ => .inr ⟨n, h1, get_app h2⟩
theorem isSq.seq {d : D} (h : isSq S d f) : seqOf S d = some (f.map D.int) := by
  rcases h with rfl | ⟨n, rfl, h⟩
  · rfl
  · exact seq_ref h
theorem n_q {d : D} (hq : isSq S d f) (h : Q (.int f.length) S) : wpBi S .len [d] Q := by
  rcases hq with rfl | ⟨n, rfl, hq⟩
  · exact n_t h
  · exact n_l hq h
theorem l_q {d : D} (hq : isSq S d f) (h : Q (.ref S.length) (S ++ [lstI f])) : wpBi S .list [d] Q := by
  rcases hq with rfl | ⟨n, rfl, hq⟩
  · exact l_t h
  · exact l_l hq h
theorem t_q {d : D} (hq : isSq S d f) (h : Q (tupI f) S) : wpBi S .tuple [d] Q := by
  rcases hq with rfl | ⟨n, rfl, hq⟩
  · exact t_t h
  · exact t_l hq h
theorem i_q {d : D} {Kk : D → Prop} (hq : isSq S d f) (h0 : 0 ≤ k) (h1 : k < f.length) (h : Kk (.int (cf f k.toNat))) : onO (ixD S d (.int k)) Kk := by
  rcases hq with rfl | ⟨n, rfl, hq⟩
  · exact i_t h0 h1 h
  · exact i_l hq h0 h1 h
theorem g_q {d : D} {Kk : List D → Prop} (hq : isSq S d f) (h : Kk (f.map D.int)) : onO (seqOf S d) Kk := by
  rw [hq.seq]
  exact h
theorem st_and {src : Src} {P : Prop} (h : still src S) (q : P) : still src S ∧ P := ⟨h, q⟩
theorem still_q {d : D} (hq : isSq S d f) : still (some (d, f.map D.int)) S := fun p e => by
  cases e
  exact hq.seq
end
end PD

set_option Elab.async false
set_option linter.all false
set_option maxRecDepth 100000
set_option maxHeartbeats 1000000
namespace PD
open PySem

theorem isi_ty1 {S : Store} {d : D} {a b : String} {k : Bool} (h : tyName S d = some a) (hb : b ∈ tyOk) (hk : isTy a b = k) : isiD S d (.ty b) = some k := by
  unfold isiD
  rw [h]
  show (if b ∈ tyOk then some (isTy a b) else none) = some k
  rw [if_pos hb, hk]
theorem isi_ty0 {S : Store} {d : D} {a b : String} {Q : DQ} (h : tyName S d = some a) (hb : b ∈ tyOk) (q : Q (.bl (isTy a b)) S) : wpBi S .isinstance [d, .ty b] Q := b_isi (isi_ty1 h hb rfl) q
theorem isi_ty2 {S : Store} {d : D} {a : String} {k : Bool} (h : tyName S d = some a) (hk : (a == "tuple" || (a == "list" || false)) = k) : isiD S d (.tup [.ty "tuple", .ty "list"]) = some k := by
  unfold isiD
  rw [h]
  have e1 : isi1 a (.ty "tuple") = some (a == "tuple") := by
    show (if "tuple" ∈ tyOk then some (isTy a "tuple") else none) = _
    rw [if_pos (by decide)]
    unfold isTy
    have : ("tuple" == "int") = false := by decide
    rw [this, Bool.and_false, Bool.or_false]
  have e2 : isi1 a (.ty "list") = some (a == "list") := by
    show (if "list" ∈ tyOk then some (isTy a "list") else none) = _
    rw [if_pos (by decide)]
    unfold isTy
    have : ("list" == "int") = false := by decide
    rw [this, Bool.and_false, Bool.or_false]
  dsimp only [mapO]
  rw [e1, e2]
  dsimp only [Option.map_some, List.any_cons, List.any_nil, id]
  rw [hk]
theorem ty_i {S : Store} {i : Int} : tyName S (D.int i) = some "int" := rfl
theorem isi_i_int {S : Store} {Q : DQ} {i : Int} (q : Q (.bl true) S) : wpBi S .isinstance [(D.int i), .ty "int"] Q := b_isi (isi_ty1 (ty_i) (by decide) (by decide)) q
theorem isi_i_bool {S : Store} {Q : DQ} {i : Int} (q : Q (.bl false) S) : wpBi S .isinstance [(D.int i), .ty "bool"] Q := b_isi (isi_ty1 (ty_i) (by decide) (by decide)) q
theorem isi_i_tup {S : Store} {Q : DQ} {i : Int} (q : Q (.bl false) S) : wpBi S .isinstance [(D.int i), .ty "tuple"] Q := b_isi (isi_ty1 (ty_i) (by decide) (by decide)) q
theorem isi_i_tl {S : Store} {Q : DQ} {i : Int} (q : Q (.bl false) S) : wpBi S .isinstance [(D.int i), .tup [.ty "tuple", .ty "list"]] Q := b_isi (isi_ty2 (ty_i) (by decide)) q
theorem ty_b {S : Store} {b : Bool} : tyName S (D.bl b) = some "bool" := rfl
theorem isi_b_int {S : Store} {Q : DQ} {b : Bool} (q : Q (.bl true) S) : wpBi S .isinstance [(D.bl b), .ty "int"] Q := b_isi (isi_ty1 (ty_b) (by decide) (by decide)) q
theorem isi_b_bool {S : Store} {Q : DQ} {b : Bool} (q : Q (.bl true) S) : wpBi S .isinstance [(D.bl b), .ty "bool"] Q := b_isi (isi_ty1 (ty_b) (by decide) (by decide)) q
theorem isi_b_tup {S : Store} {Q : DQ} {b : Bool} (q : Q (.bl false) S) : wpBi S .isinstance [(D.bl b), .ty "tuple"] Q := b_isi (isi_ty1 (ty_b) (by decide) (by decide)) q
theorem isi_b_tl {S : Store} {Q : DQ} {b : Bool} (q : Q (.bl false) S) : wpBi S .isinstance [(D.bl b), .tup [.ty "tuple", .ty "list"]] Q := b_isi (isi_ty2 (ty_b) (by decide)) q
theorem ty_s {S : Store} {x : Str} : tyName S (D.str x) = some "str" := rfl
theorem isi_s_int {S : Store} {Q : DQ} {x : Str} (q : Q (.bl false) S) : wpBi S .isinstance [(D.str x), .ty "int"] Q := b_isi (isi_ty1 (ty_s) (by decide) (by decide)) q
theorem isi_s_bool {S : Store} {Q : DQ} {x : Str} (q : Q (.bl false) S) : wpBi S .isinstance [(D.str x), .ty "bool"] Q := b_isi (isi_ty1 (ty_s) (by decide) (by decide)) q
theorem isi_s_tup {S : Store} {Q : DQ} {x : Str} (q : Q (.bl false) S) : wpBi S .isinstance [(D.str x), .ty "tuple"] Q := b_isi (isi_ty1 (ty_s) (by decide) (by decide)) q
theorem isi_s_tl {S : Store} {Q : DQ} {x : Str} (q : Q (.bl false) S) : wpBi S .isinstance [(D.str x), .tup [.ty "tuple", .ty "list"]] Q := b_isi (isi_ty2 (ty_s) (by decide)) q
theorem ty_n {S : Store}  : tyName S D.non = some "NoneType" := rfl
theorem isi_n_int {S : Store} {Q : DQ}  (q : Q (.bl false) S) : wpBi S .isinstance [D.non, .ty "int"] Q := b_isi (isi_ty1 (ty_n) (by decide) (by decide)) q
theorem isi_n_bool {S : Store} {Q : DQ}  (q : Q (.bl false) S) : wpBi S .isinstance [D.non, .ty "bool"] Q := b_isi (isi_ty1 (ty_n) (by decide) (by decide)) q
theorem isi_n_tup {S : Store} {Q : DQ}  (q : Q (.bl false) S) : wpBi S .isinstance [D.non, .ty "tuple"] Q := b_isi (isi_ty1 (ty_n) (by decide) (by decide)) q
theorem isi_n_tl {S : Store} {Q : DQ}  (q : Q (.bl false) S) : wpBi S .isinstance [D.non, .tup [.ty "tuple", .ty "list"]] Q := b_isi (isi_ty2 (ty_n) (by decide)) q
theorem ty_t {S : Store} {xs : List D} : tyName S (D.tup xs) = some "tuple" := rfl
theorem isi_t_int {S : Store} {Q : DQ} {xs : List D} (q : Q (.bl false) S) : wpBi S .isinstance [(D.tup xs), .ty "int"] Q := b_isi (isi_ty1 (ty_t) (by decide) (by decide)) q
theorem isi_t_bool {S : Store} {Q : DQ} {xs : List D} (q : Q (.bl false) S) : wpBi S .isinstance [(D.tup xs), .ty "bool"] Q := b_isi (isi_ty1 (ty_t) (by decide) (by decide)) q
theorem isi_t_tup {S : Store} {Q : DQ} {xs : List D} (q : Q (.bl true) S) : wpBi S .isinstance [(D.tup xs), .ty "tuple"] Q := b_isi (isi_ty1 (ty_t) (by decide) (by decide)) q
theorem isi_t_tl {S : Store} {Q : DQ} {xs : List D} (q : Q (.bl true) S) : wpBi S .isinstance [(D.tup xs), .tup [.ty "tuple", .ty "list"]] Q := b_isi (isi_ty2 (ty_t) (by decide)) q
theorem ty_u {S : Store} {f : List Int} : tyName S (tupI f) = some "tuple" := rfl
theorem isi_u_int {S : Store} {Q : DQ} {f : List Int} (q : Q (.bl false) S) : wpBi S .isinstance [(tupI f), .ty "int"] Q := b_isi (isi_ty1 (ty_u) (by decide) (by decide)) q
theorem isi_u_bool {S : Store} {Q : DQ} {f : List Int} (q : Q (.bl false) S) : wpBi S .isinstance [(tupI f), .ty "bool"] Q := b_isi (isi_ty1 (ty_u) (by decide) (by decide)) q
theorem isi_u_tup {S : Store} {Q : DQ} {f : List Int} (q : Q (.bl true) S) : wpBi S .isinstance [(tupI f), .ty "tuple"] Q := b_isi (isi_ty1 (ty_u) (by decide) (by decide)) q
theorem isi_u_tl {S : Store} {Q : DQ} {f : List Int} (q : Q (.bl true) S) : wpBi S .isinstance [(tupI f), .tup [.ty "tuple", .ty "list"]] Q := b_isi (isi_ty2 (ty_u) (by decide)) q
theorem ty_l {S : Store} {n : Nat} {xs : List D} (h : S[n]? = some (.lst xs)) : tyName S (D.ref n) = some "list" := by
  show (match seqOf S (.ref n) with
    | some _ => some "list"
    | none => none) = some "list"
  rw [seq_ref h]
theorem isi_l_int {S : Store} {Q : DQ} {n : Nat} {xs : List D} (h : S[n]? = some (.lst xs)) (q : Q (.bl false) S) : wpBi S .isinstance [(D.ref n), .ty "int"] Q := b_isi (isi_ty1 (ty_l h) (by decide) (by decide)) q
theorem isi_l_bool {S : Store} {Q : DQ} {n : Nat} {xs : List D} (h : S[n]? = some (.lst xs)) (q : Q (.bl false) S) : wpBi S .isinstance [(D.ref n), .ty "bool"] Q := b_isi (isi_ty1 (ty_l h) (by decide) (by decide)) q
theorem isi_l_tup {S : Store} {Q : DQ} {n : Nat} {xs : List D} (h : S[n]? = some (.lst xs)) (q : Q (.bl false) S) : wpBi S .isinstance [(D.ref n), .ty "tuple"] Q := b_isi (isi_ty1 (ty_l h) (by decide) (by decide)) q
theorem isi_l_tl {S : Store} {Q : DQ} {n : Nat} {xs : List D} (h : S[n]? = some (.lst xs)) (q : Q (.bl true) S) : wpBi S .isinstance [(D.ref n), .tup [.ty "tuple", .ty "list"]] Q := b_isi (isi_ty2 (ty_l h) (by decide)) q
theorem isi_q_tl {S : Store} {Q : DQ} {d : D} {f : List Int} (hq : isSq S d f) (q : Q (.bl true) S) : wpBi S .isinstance [d, .tup [.ty "tuple", .ty "list"]] Q := by
  rcases hq with rfl | ⟨n, rfl, h⟩
  · exact isi_u_tl q
  · exact isi_l_tl h q
theorem n_seq {S : Store} {Q : DQ} {d : D} {a : String} {xs : List D} (ht : tyName S d = some a) (ha : a = "tuple" ∨ a = "list") (hs : seqOf S d = some xs) (h : Q (.int xs.length) S) : wpBi S .len [d] Q := by
  cases d with
  | tup ys => cases hs; exact h
  | kl ys => cases hs; exact h
  | ref n =>
    show onO (seqOf S (.ref n)) _
    rw [hs]
    exact h
  | _ => cases hs
theorem g_seq {S : Store} {d : D} {xs : List D} {Kk : List D → Prop} (hs : seqOf S d = some xs) (h : Kk xs) : onO (seqOf S d) Kk := by
  rw [hs]
  exact h
theorem still_seq {S : Store} {d : D} {xs : List D} (hs : seqOf S d = some xs) : still (some (d, xs)) S := fun p e => by
  cases e
  exact hs
/-! ### refs in answers -/
theorem lt_ints (n : Nat) : ∀ l : List Int, refsLts n (l.map D.int) = true
  | [] => rfl
  | i :: l => by
    rw [List.map_cons]
    unfold refsLts refsLt
    rw [lt_ints n l]
    rfl
theorem ok_t (n : Nat) (l : List Int) : okO n (.val (tupI l)) = true := by
  show refsLt n (tupI l) = true
  unfold tupI refsLt
  exact lt_ints n l
theorem ok_l (n : Nat) (l : List Int) : okO n (.new (l.map .int)) = true := lt_ints n l
theorem ok_i (n : Nat) (i : Int) : okO n (.val (.int i)) = true := rfl
theorem ok_b (n : Nat) (i : Bool) : okO n (.val (.bl i)) = true := rfl

end PD

set_option Elab.async false
set_option linter.all false
set_option maxRecDepth 100000
set_option maxHeartbeats 4000000
namespace PD
open PySem PySem.Spec PyProof.Rows L2
/-! ### what the head tells of a def, of an error's class -/
structure DefF (K : PySem.W.Frag) (x : Str) (st : Stmt) (f : Addr) : Prop where
  ns : PySem.W.nsIn K mainGlobals x = some (some (.ref f))
  fn : ∃ fd, L2.Fun K x x st f fd ∧ fd.defaults = .none
theorem defF_mk {K : PySem.W.Frag} {x : Str} {st : Stmt} {f : Addr} {oc : Value} {od an : Option Addr} {osl : Array (Option Value)} {kV doc pm cdv ct : Value} (a : PySem.W.nsIn K mainGlobals x = some (some (.ref f)))
    (l : K.lookup f = some ⟨oc, od, .func (PySem.W.fnOf x x (defArgs st) (defBody st) (defScope st) .none kV doc pm an cdv ct), osl⟩) (c : PySem.W.codeIn K cdv x = true) (k : PySem.W.keepIn K (.ref f) = true) : DefF K x st f :=
  ⟨a, _, fun_mk l c k, rfl⟩
/-- .. of a def with defaults -/
structure DefD (K : PySem.W.Frag) (x : Str) (st : Stmt) (dvs : List V) (f : Addr) : Prop where
  ns : PySem.W.nsIn K mainGlobals x = some (some (.ref f))
  fn : ∃ fd, FunD K x x (defArgs st) (defBody st) (defScope st) dvs [] f fd
theorem defD_mk {K : PySem.W.Frag} {x : Str} {st : Stmt} {f T : Addr} {dvs : List V} {oc : Value} {od an : Option Addr} {osl : Array (Option Value)} {kV doc pm cdv ct : Value} {o : Obj} {its : List Value} {n : Nat} (a : PySem.W.nsIn K mainGlobals x = some (some (.ref f)))
    (l : K.lookup f = some ⟨oc, od, .func (PySem.W.fnOf x x (defArgs st) (defBody st) (defScope st) (.ref T) kV doc pm an cdv ct), osl⟩) (c : PySem.W.codeIn K cdv x = true) (k : PySem.W.keepIn K (.ref f) = true) (t : K.lookup T = some o) (d : o.data = .seq its.toArray n) (v : Vals dvs its) (hne : dvs ≠ []) : DefD K x st dvs f :=
  ⟨a, _, ⟨⟨oc, od, .ref T, kV, doc, pm, an, cdv, ct, osl, rfl, l, c, .inr ⟨hne, T, o, its, n, rfl, t, d, v⟩, .inl rfl⟩, k⟩⟩
/-- the class x of errors at C, its __init__ at fI -/
structure ExcF (K : PySem.W.Frag) (x qual : Str) (st : Stmt) (fs : List Str) (C fI : Addr) : Prop where
  ns : PySem.W.nsIn K mainGlobals x = some (some (.ref C))
  T : OexC K C
  xf : XfC K C
  kx : KXC K C
  no : ∀ f ∈ fs, PySem.W.findIn K (.ref C) f = some none
  iC : PySem.W.findIn K (.ref C) "__init__" = some (some (.ref fI))
  tI : PySem.W.typeIn K (.ref fI) = some (.type "function")
  fn : ∃ fd, L2.Fun K "__init__" qual st fI fd ∧ fd.defaults = .none
  isC : PySem.W.isClsIn K C = true
theorem excF_mk {K : PySem.W.Frag} {x qual : Str} {st : Stmt} {fs : List Str} {C fI N : Addr} {nm q : Str} {bs bm : List Value} {sn : List Str} {sub : List Value} {ab : Bool} {col : Option Bool} {dd : Option Addr} {k0 k1 k2 k3 k5 : Option Value}
    {oc : Value} {od an : Option Addr} {osl : Array (Option Value)} {kV doc pm cdv ct : Value}
    (h1 : PySem.W.nsIn K mainGlobals x = some (some (.ref C))) (h2 : K.lookup C = some (excClassObj nm q C N bs bm true sn sub ab col dd k0 k1 k2 k3 k5 "ValueError.__new__")) (hbm : PySem.HandSPX.refsVE bm = true) (h3 : PySem.W.findIn K (.ref C) "__setattr__" = some (some (.builtin "object.__setattr__"))) (h4 : PySem.W.subIn K (.ref C) (.type "BaseException") = some true)
    (h5 : PySem.W.typeIn K (.ref C) = some (.type "type")) (h6 : PySem.W.keepIn K (.ref C) = true) (h7 : PySem.W.findIn K (.ref C) "__getattribute__" = some (some (.builtin "BaseException.__getattribute__"))) (h8 : PySem.W.findIn K (.ref C) "__getattr__" = some none) (h9 : PySem.W.hasDictIn K C = true)
    (ha : PySem.W.findIn K (.ref C) "__class__" = some (some (.builtin "object.__class__"))) (hn : PySem.W.specialIn K (.builtin "object.__class__") "__get__" = some (some (.builtin "getset_descriptor.__get__"))) (ht : PySem.W.takesIn K (.builtin "object.__class__") = some true) (hm : PySem.W.mroIn K C (.type "object") = some true)
    (no : ∀ f ∈ fs, PySem.W.findIn K (.ref C) f = some none) (iC : PySem.W.findIn K (.ref C) "__init__" = some (some (.ref fI))) (tI : PySem.W.typeIn K (.ref fI) = some (.type "function"))
    (l : K.lookup fI = some ⟨oc, od, .func (PySem.W.fnOf "__init__" qual (defArgs st) (defBody st) (defScope st) .none kV doc pm an cdv ct), osl⟩) (c : PySem.W.codeIn K cdv qual = true) (k : PySem.W.keepIn K (.ref fI) = true) (isC : PySem.W.isClsIn K C = true) : ExcF K x qual st fs C fI :=
  ⟨h1, ⟨⟨nm, q, N, bs, bm, sn, sub, ab, col, dd, k0, k1, k2, k3, k5, h2, hbm⟩, h3, h4, h5, h6⟩, ⟨h7, h8, h4, h9⟩, ⟨ha, hn, ht, hm⟩, no, iC, tI, ⟨_, fun_mk l c k, rfl⟩, isC⟩
/-- a class of errors that is only named -/
structure ClsF (K : PySem.W.Frag) (x : Str) (C : Addr) : Prop where
  ns : PySem.W.nsIn K mainGlobals x = some (some (.ref C))
  exC : PySem.W.subIn K (.ref C) (.type "BaseException") = some true
  hd : PySem.W.hasDictIn K C = true
  ty : PySem.W.typeIn K (.ref C) = some (.type "type")
theorem kit_own {K : PySem.W.Frag} {t : Value} {C : Addr} {b : Bool} (hc : (PySem.W.clsIn K C).isSome = true) (ht : PySem.W.typeIn K (.ref C) = some (.type "type")) (hs : PySem.W.subIn K t (.ref C) = some b) (hr0 : PySem.W.subIn K (.ref C) (.ref C) = some true) : PySem.W.kitOne K t (.ref C) = some b := by
  have hr : t = .ref C → b = true := fun z => by
    subst z
    rw [hs] at hr0
    cases hr0
    rfl
  unfold PySem.W.kitOne
  by_cases e : (t == Value.ref C) = true
  · rw [if_pos e, hr (eq_of_beq e)]
  · rw [if_neg e]
    unfold PySem.W.kitCls
    dsimp only
    rw [hc, ht]
    exact hs
theorem kit_ty {K : PySem.W.Frag} {C : Addr} {T : String} {b : Bool} (hk : PySem.W.kitMeta T = true) (hs : PySem.W.subIn K (.ref C) (.type T) = some b) : PySem.W.kitOne K (.ref C) (.type T) = some b := by
  unfold PySem.W.kitOne
  rw [if_neg (by simp)]
  unfold PySem.W.kitCls
  dsimp only
  rw [hk]
  exact hs
theorem _root_.L2.FunD.bindsF {K : PySem.W.Frag} {x qual : Str} {params : Arguments} {body : List Stmt} {scope : Scope} {dvs : List V} {kws : List (Str × V)} {f : Addr} {fd : FuncData} {ps : List Str} (F : FunD K x qual params body scope dvs kws f fd)
    (h : ∀ (dV kV doc pm : Value) (an : Option Addr) (cdv ct : Value) (us : List Value), us.length = ps.length → bindArgs (PySem.W.fnOf x qual params body scope dV kV doc pm an cdv ct) ⟨us, []⟩ = pure (ps.zip us)) : Binds K fd ps [] := by
  obtain ⟨oc, od, dV, kV, doc, pm, an, cdv, ct, osl, rfl, lk, hcd, hD, hK⟩ := F.ex
  exact .all (h dV kV doc pm an cdv ct)
theorem fn_gcD {M : Md} {ca : Nat → Addr} {P : Program} {w : World} {K : PySem.W.Frag} {mg : Str → Option Value} {base : Heap} {i : Nat} (O : MdOk M ca P w K mg base) (D : Done M ca P w K mg base i) {x qual : Str} {st : Stmt} {f : Addr} {fd : FuncData} {N ps : List Str} {fs : List PD.D → Store → Out → Prop} {n : Nat} {db : List DS} {dvs : List V} (F : FunD K x qual (defArgs st) (defBody st) (defScope st) dvs [] f fd) (S : FnScope N ps (defScope st))
    (hc : compSs (compS n (mkCtx (M.gl i) N (defScope st))) (defBody st) = some db) (len : ∀ ds S o, fs ds S o → ds.length = ps.length) (ok : ∀ ds S o, fs ds S o → refsLts S.length ds = true → WfS S → okO S.length o = true)
    (vc : ∀ ds S o, fs ds S o → wpSs (M.C (excO S o)) db (retO S o) (startD N ds) S) : FnOk P w K mg base (L2.CX P w) (i + 3) f fd ps (LSp K ca (FnS fs)) := by
  refine F.ok S (fun vs H Q E h => ?_) (fun cdv A outer s H vs Q E hr h => body_gc O D S.nd hc ok vc hr h)
  obtain ⟨S, β, ds, hs, r, Q0, E0, h, hQ, hE⟩ := h
  obtain ⟨o, ho, _⟩ := h
  rw [← r.length]
  exact len _ _ _ ho
theorem fun_df {K : PySem.W.Frag} {x qual : Str} {st : Stmt} {f : Addr} {fd : FuncData} (F : L2.Fun K x qual st f fd) {ps : List Str}
    (h : ∀ (kV doc pm : Value) (an : Option Addr) (cdv ct : Value) (us : List Value), us.length = ps.length → bindArgs (PySem.W.fnOf x qual (defArgs st) (defBody st) (defScope st) .none kV doc pm an cdv ct) ⟨us, []⟩ = pure (ps.zip us)) : Binds K fd ps [] := F.binds h
end PD
namespace PD
open PySem PySem.Spec PyProof.Rows L2
def pTodo : List D → Store → Out → Prop := fun _ _ _ => False
def starP (n : Nat) (p : List D → Store → Out → Prop) : List D → Store → Out → Prop := fun es S o => (n ≤ es.length ∧ es.length ≤ sizeLine) ∧ p (es.take n ++ [.tup (es.drop n)]) S o
def dflP (dds : List D) (p : List D → Store → Out → Prop) : List D → Store → Out → Prop := fun es S o => p es S o ∨ p (es ++ dds) S o
def caOf (l : List Addr) : Nat → Addr := fun i => l.getD i 0
theorem lsp_imp {K : PySem.W.Frag} {ca : Nat → Addr} {sp sp' : DSp} (h : ∀ es S Q E, sp' es S Q E → sp es S Q E) (vs : List V) (H : Hp) (Q : VK) (E : XK) (q : LSp K ca sp' vs H Q E) : LSp K ca sp vs H Q E := by
  obtain ⟨S, β, ds, hs, r, Q0, E0, q, hQ, hE⟩ := q
  exact ⟨S, β, ds, hs, r, Q0, E0, h _ _ _ _ q, hQ, hE⟩
theorem fn_dflP {P : Program} {w : World} {K : PySem.W.Frag} {mg : Str → Option Value} {base : Heap} {ca : Nat → Addr} {f : Addr} {k : Nat} {p : List PD.D → Store → Out → Prop} {dds : List PD.D} (F : FnR P w K mg base (L2.CX P w) k f (LSp K ca fun es S Q E => FnS p (es ++ []) S Q E)) (F' : FnR P w K mg base (L2.CX P w) k f (LSp K ca fun es S Q E => FnS p (es ++ dds) S Q E)) :
    FnR P w K mg base (L2.CX P w) k f (LSp K ca (FnS (dflP dds p))) := (fn_or F F').imp fun vs H Q E => lsp_imp (fun es S Q E ⟨o, h, q⟩ => h.elim (fun h => .inl ⟨o, by rw [List.append_nil]; exact h, q⟩) fun h => .inr ⟨o, h, q⟩) vs H Q E
/-- the law's promise -/
def spLawR (K : PySem.W.Frag) : Sp := fun vs H Q _ => ∃ (a : Addr) (ns : List Int), vs = [.ref a] ∧ SqR K H a (ns.map V.int) ∧ ns.length ≤ 63 ∧ ∀ H', Q (.bl true) H'
def pLaw : List D → Store → Out → Prop := fun ds _ o => ∃ ns : List Int, ds = [.kl (ns.map .int)] ∧ ns.length ≤ 63 ∧ o = .val (.bl true)
theorem rds_ints {K : PySem.W.Frag} {ca : Nat → Addr} {H : Hp} {β : List Addr} : ∀ l : List Int, RDs K ca H β (l.map D.int) (l.map V.int)
  | [] => .nil
  | i :: l => .cons (.int i) (rds_ints l)
theorem law_sp {K : PySem.W.Frag} (ca : Nat → Addr) (vs : List V) (H : Hp) (Q : VK) (E : XK) (h : spLawR K vs H Q E) : LSp K ca (FnS pLaw) vs H Q E := by
  obtain ⟨a, ns, rfl, hq, hl, k⟩ := h
  refine ⟨[], [], [.kl (ns.map .int)], ⟨rfl, List.nodup_nil, fun n o a h => by simp at h⟩, .cons (.kl hq (rds_ints ns)) .nil, ?_⟩
  rw [callC_FnS]
  refine ⟨_, ⟨ns, rfl, hl, rfl⟩, fun β' v H' s g r => ?_⟩
  cases r
  exact k H'
theorem law_only {K : PySem.W.Frag} {H : Hp} {a : Addr} {ns : List Int} (hO : Only H) (h : SqL K H a (ns.map V.int)) (hl : ns.length ≤ 63) : spLawR K [.ref a] H (fun v _ => v = .bl true) fun _ _ _ => False := by
  refine ⟨a, ns, rfl, ?_, hl, fun _ => rfl⟩
  rcases h with (h | ⟨o, h⟩) | h
  · rcases hO a with z | ⟨o, xs, z⟩
    · rw [z] at h; cases h
    · rw [z] at h; cases h
  · exact .inl ⟨o, h⟩
  · exact .inr h
theorem cx_false {P : Program} {w : World} {H : Hp} {s : Shared} {e : Value} {s' : Shared} (h : L2.CX P w [] H s (fun _ _ _ => False) e s') : False := by
  obtain ⟨_, _, _, _, _, _, _, _, _, _, _, _, z⟩ := h
  exact z
theorem exm_own {K : PySem.W.Frag} {cls : Value} {C : Addr} {b : Bool} (h1 : PySem.W.subIn K (.ref C) (.type "BaseException") = some true) (hd : PySem.W.hasDictIn K C = true) (ht : PySem.W.typeIn K (.ref C) = some (.type "type")) (h4 : PySem.W.subIn K cls (.ref C) = some b) : PySem.W.exmOne K cls (.ref C) = some b := by
  have hc : (PySem.W.clsIn K C).isSome = true := by
    obtain ⟨cd, hc, _⟩ := PySem.W.any_some hd
    rw [hc]
    rfl
  unfold PySem.W.exmOne PySem.W.kitCls
  rw [h1]
  dsimp only
  rw [hc, ht]
  exact h4
theorem exm_ty {K : PySem.W.Frag} {cls : Value} {T : String} {b : Bool} (h1 : PySem.W.subIn K (.type T) (.type "BaseException") = some true) (hk : PySem.W.kitMeta T = true) (h4 : PySem.W.subIn K cls (.type T) = some b) : PySem.W.exmOne K cls (.type T) = some b := by
  unfold PySem.W.exmOne PySem.W.kitCls
  rw [h1]
  dsimp only
  rw [hk]
  exact h4
theorem cls_some {K : PySem.W.Frag} {C : Addr} (h : PySem.W.hasDictIn K C = true) : (PySem.W.clsIn K C).isSome = true := by
  obtain ⟨cd, hc, _⟩ := PySem.W.any_some h
  rw [hc]
  rfl
end PD

set_option Elab.async false
set_option linter.all false
namespace PD
open PySem
/-- 0 is_whole(thing): slots thing -/
def b_is_whole : List DS := [.ret (.some (.and (.bi .isinstance (.cons (.var 0) (.cons (.cst (.ty "int")) .nil))) (.not (.bi .isinstance (.cons (.var 0) (.cons (.cst (.ty "bool")) .nil))))))]
abbrev n_is_whole : List Str := ["thing"]
/-- 1 is_form(thing): slots thing, part -/
def b_is_form : List DS := [.ifs (.or (.not (.bi .isinstance (.cons (.var 0) (.cons (.cst (.ty "tuple")) .nil)))) (.cmp .eq (.bi .len (.cons (.var 0) .nil)) (.cst (.int 0)))) [.ret (.some (.cst (.bl false)))] [], .fr (.nm 1) (.seq (.var 0)) [.ifs (.not (.call 0 (.cons (.var 1) .nil))) [.ret (.some (.cst (.bl false)))] []], .ret (.some (.or (.cmp .eq (.bi .len (.cons (.var 0) .nil)) (.cst (.int 1))) (.cmp .ne (.ix (.var 0) (.neg (.cst (.int 1)))) (.cst (.int 0)))))]
abbrev n_is_form : List Str := ["thing", "part"]
/-- 2 _form_trimmed(parts): slots parts, last -/
def b__form_trimmed : List DS := [.asg (.nm 1) (.bi .len (.cons (.var 0) .nil)), .wh (.and (.cmp .gt (.var 1) (.cst (.int 1))) (.cmp .eq (.ix (.var 0) (.bin .sub (.var 1) (.cst (.int 1)))) (.cst (.int 0)))) [.aug 1 .sub (.cst (.int 1))], .ret (.some (.bi .tuple (.cons (.sl (.var 0) .none (.some (.var 1))) .nil)))]
abbrev n__form_trimmed : List Str := ["parts", "last"]
/-- 3 form_of(thing): slots thing, part -/
def b_form_of : List DS := [.ifs (.or (.not (.bi .isinstance (.cons (.var 0) (.cons (.tup (.cons (.cst (.ty "tuple")) (.cons (.cst (.ty "list")) .nil))) .nil)))) (.cmp .eq (.bi .len (.cons (.var 0) .nil)) (.cst (.int 0)))) [.rse 2 ["place"] (.cons (.cst (.int 0)) .nil)] [], .fr (.nm 1) (.seq (.var 0)) [.ifs (.not (.call 0 (.cons (.var 1) .nil))) [.rse 2 ["place"] (.cons (.cst (.int 0)) .nil)] []], .ret (.some (.call 2 (.cons (.var 0) .nil)))]
abbrev n_form_of : List Str := ["thing", "part"]
/-- 4 number_form(c): slots c -/
def b_number_form : List DS := [.ifs (.not (.call 0 (.cons (.var 0) .nil))) [.rse 1 ["name"] (.cons (.cst (.str "c")) .nil)] [], .ret (.some (.tup (.cons (.var 0) .nil)))]
abbrev n_number_form : List Str := ["c"]
/-- 5 variable_form(x, times): slots x, times -/
def b_variable_form : List DS := [.ifs (.or (.not (.call 0 (.cons (.var 0) .nil))) (.or (.cmp .lt (.var 0) (.cst (.int 0))) (.cmp .gt (.var 0) (.cst (.int 999))))) [.rse 1 ["name"] (.cons (.cst (.str "x")) .nil)] [], .ifs (.not (.call 0 (.cons (.var 1) .nil))) [.rse 1 ["name"] (.cons (.cst (.str "times")) .nil)] [], .ret (.some (.call 2 (.cons (.bin .add (.bin .mul (.lst (.cons (.cst (.int 0)) .nil)) (.bin .add (.var 0) (.cst (.int 1)))) (.lst (.cons (.var 1) .nil))) .nil)))]
abbrev n_variable_form : List Str := ["x", "times"]
/-- 6 plus(f, g): slots f, g, longer, shorter, total, at, part -/
def b_plus : List DS := [.asg (.tp (.cons (.nm 2) (.cons (.nm 3) (.nil)))) (.ife (.cmp .ge (.bi .len (.cons (.var 0) .nil)) (.bi .len (.cons (.var 1) .nil))) (.tup (.cons (.var 0) (.cons (.var 1) .nil))) (.tup (.cons (.var 1) (.cons (.var 0) .nil)))), .asg (.nm 4) (.bi .list (.cons (.var 2) .nil)), .fr (.tp (.cons (.nm 5) (.cons (.nm 6) (.nil)))) (.enum (.var 3)) [.asg (.sub (.var 4) (.var 5)) (.bin .add (.ix (.var 4) (.var 5)) (.var 6))], .ret (.some (.call 2 (.cons (.var 4) .nil)))]
abbrev n_plus : List Str := ["f", "g", "longer", "shorter", "total", "at", "part"]
/-- 7 scaled(n, f): slots n, f, part -/
def b_scaled : List DS := [.ret (.some (.call 2 (.cons (.lc [2] (.nm 2) (.seq (.var 1)) .none (.bin .mul (.var 0) (.var 2))) .nil)))]
abbrev n_scaled : List Str := ["n", "f", "part"]
/-- 8 minus(f, g): slots f, g -/
def b_minus : List DS := [.ret (.some (.call 6 (.cons (.var 0) (.cons (.call 7 (.cons (.neg (.cst (.int 1))) (.cons (.var 1) .nil))) .nil))))]
abbrev n_minus : List Str := ["f", "g"]
/-- 9 joined(*forms): slots forms, total, f -/
def b_joined : List DS := [.asg (.nm 1) (.tup (.cons (.cst (.int 0)) .nil)), .fr (.nm 2) (.seq (.var 0)) [.asg (.nm 1) (.call 6 (.cons (.var 1) (.cons (.var 2) .nil)))], .ret (.some (.var 1))]
abbrev n_joined : List Str := ["forms", "total", "f"]
/-- 10 constant(f): slots f -/
def b_constant : List DS := [.ret (.some (.ix (.var 0) (.cst (.int 0))))]
abbrev n_constant : List Str := ["f"]
/-- 11 multiple(f, x): slots f, x -/
def b_multiple : List DS := [.ret (.some (.ife (.cmp .lt (.bin .add (.var 1) (.cst (.int 1))) (.bi .len (.cons (.var 0) .nil))) (.ix (.var 0) (.bin .add (.var 1) (.cst (.int 1)))) (.cst (.int 0))))]
abbrev n_multiple : List Str := ["f", "x"]
/-- 12 variables(f): slots f, x -/
def b_variables : List DS := [.ret (.some (.bi .tuple (.cons (.lc [1] (.nm 1) (.rng (.cons (.bin .sub (.bi .len (.cons (.var 0) .nil)) (.cst (.int 1))) .nil)) (.some (.cmp .ne (.ix (.var 0) (.bin .add (.var 1) (.cst (.int 1)))) (.cst (.int 0)))) (.var 1)) .nil)))]
abbrev n_variables : List Str := ["f", "x"]
/-- 13 is_number(f): slots f -/
def b_is_number : List DS := [.ret (.some (.cmp .eq (.bi .len (.cons (.var 0) .nil)) (.cst (.int 1))))]
abbrev n_is_number : List Str := ["f"]
/-- 14 form_at(f, value): slots f, value, total, x -/
def b_form_at : List DS := [.asg (.nm 2) (.ix (.var 0) (.cst (.int 0))), .fr (.nm 3) (.seq (.call 12 (.cons (.var 0) .nil))) [.ifs (.cmp .ge (.var 3) (.bi .len (.cons (.var 1) .nil))) [.rse 3 ["place"] (.cons (.var 3) .nil)] [], .asg (.nm 2) (.bin .add (.var 2) (.bin .mul (.ix (.var 0) (.bin .add (.var 3) (.cst (.int 1)))) (.ix (.var 1) (.var 3))))], .ret (.some (.var 2))]
abbrev n_form_at : List Str := ["f", "value", "total", "x"]
/-- 15 put_variable(f, x, g): slots f, x, g, times, rest -/
def b_put_variable : List DS := [.asg (.nm 3) (.call 11 (.cons (.var 0) (.cons (.var 1) .nil))), .ifs (.cmp .eq (.var 3) (.cst (.int 0))) [.ret (.some (.var 0))] [], .asg (.nm 4) (.bi .list (.cons (.var 0) .nil)), .asg (.sub (.var 4) (.bin .add (.var 1) (.cst (.int 1)))) (.cst (.int 0)), .ret (.some (.call 6 (.cons (.call 2 (.cons (.var 4) .nil)) (.cons (.call 7 (.cons (.var 3) (.cons (.var 2) .nil))) .nil))))]
abbrev n_put_variable : List Str := ["f", "x", "g", "times", "rest"]
/-- 16 put_all(f, forms): slots f, forms, rest, total, x -/
def b_put_all : List DS := [.asg (.nm 2) (.bi .list (.cons (.var 0) .nil)), .asg (.nm 3) (.tup (.cons (.cst (.int 0)) .nil)), .fr (.nm 4) (.rng (.cons (.bi .min (.cons (.bi .len (.cons (.var 1) .nil)) (.cons (.bin .sub (.bi .len (.cons (.var 0) .nil)) (.cst (.int 1))) .nil))) .nil)) [.asg (.nm 3) (.call 6 (.cons (.var 3) (.cons (.call 7 (.cons (.ix (.var 2) (.bin .add (.var 4) (.cst (.int 1)))) (.cons (.ix (.var 1) (.var 4)) .nil))) .nil))), .asg (.sub (.var 2) (.bin .add (.var 4) (.cst (.int 1)))) (.cst (.int 0))], .ret (.some (.call 6 (.cons (.var 3) (.cons (.call 2 (.cons (.var 2) .nil)) .nil))))]
abbrev n_put_all : List Str := ["f", "forms", "rest", "total", "x"]
/-- 17 moved(f, start, by): slots f, start, by -/
def b_moved : List DS := [.ifs (.or (.not (.call 0 (.cons (.var 2) .nil))) (.cmp .lt (.var 2) (.cst (.int 0)))) [.rse 1 ["name"] (.cons (.cst (.str "by")) .nil)] [], .ifs (.cmp .le (.bin .sub (.bi .len (.cons (.var 0) .nil)) (.cst (.int 1))) (.var 1)) [.ret (.some (.var 0))] [], .ret (.some (.bin .add (.bin .add (.sl (.var 0) .none (.some (.bin .add (.var 1) (.cst (.int 1))))) (.bin .mul (.tup (.cons (.cst (.int 0)) .nil)) (.var 2))) (.sl (.var 0) (.some (.bin .add (.var 1) (.cst (.int 1)))) .none)))]
abbrev n_moved : List Str := ["f", "start", "by"]
/-- 18 same_order(f, g): slots f, g, x -/
def b_same_order : List DS := [.fr (.nm 2) (.rng (.cons (.bin .sub (.bi .max (.cons (.bi .len (.cons (.var 0) .nil)) (.cons (.bi .len (.cons (.var 1) .nil)) .nil))) (.cst (.int 1))) .nil)) [.ifs (.cmp .ne (.call 11 (.cons (.var 0) (.cons (.var 2) .nil))) (.call 11 (.cons (.var 1) (.cons (.var 2) .nil)))) [.ret (.some (.ife (.cmp .lt (.call 11 (.cons (.var 0) (.cons (.var 2) .nil))) (.call 11 (.cons (.var 1) (.cons (.var 2) .nil)))) (.neg (.cst (.int 1))) (.cst (.int 1))))] []], .ifs (.cmp .eq (.ix (.var 0) (.cst (.int 0))) (.ix (.var 1) (.cst (.int 0)))) [.ret (.some (.cst (.int 0)))] [], .ret (.some (.ife (.cmp .lt (.ix (.var 0) (.cst (.int 0))) (.ix (.var 1) (.cst (.int 0)))) (.neg (.cst (.int 1))) (.cst (.int 1))))]
abbrev n_same_order : List Str := ["f", "g", "x"]
/-- 19 _law_draws(script): slots script, drawn, cell, left, turn -/
def b__law_draws : List DS := [.asg (.nm 1) (.lst (.nil)), .fr (.nm 2) (.seq (.sl (.var 0) .none (.some (.cst (.int 63))))) [.asg (.nm 3) (.bi .abs (.cons (.bi .int (.cons (.var 2) .nil)) .nil)), .fr (.nm 4) (.rng (.cons (.cst (.int 18)) .nil)) [.ex (.bm .append (.var 1) (.cons (.bin .mod (.bi .int (.cons (.var 3) .nil)) (.cst (.int 10))) .nil)), .asg (.nm 3) (.bin .fdiv (.var 3) (.cst (.int 10))), .ifs (.cmp .eq (.var 3) (.cst (.int 0))) [.brk] []]], .ret (.some (.var 1))]
abbrev n__law_draws : List Str := ["script", "drawn", "cell", "left", "turn"]
/-- 20 _law_pick(drawn, at, many): slots drawn, at, many -/
def b__law_pick : List DS := [.ifs (.and (.cmp .lt (.bin .add (.var 1) (.cst (.int 1))) (.bi .len (.cons (.var 0) .nil))) (.cmp .gt (.var 2) (.cst (.int 10)))) [.ret (.some (.bin .mod (.bi .int (.cons (.bin .add (.bin .mul (.ix (.var 0) (.var 1)) (.cst (.int 10))) (.ix (.var 0) (.bin .add (.var 1) (.cst (.int 1))))) .nil)) (.var 2)))] [], .ifs (.cmp .lt (.var 1) (.bi .len (.cons (.var 0) .nil))) [.ret (.some (.bin .mod (.bi .int (.cons (.ix (.var 0) (.var 1)) .nil)) (.var 2)))] [], .ret (.some (.cst (.int 0)))]
abbrev n__law_pick : List Str := ["drawn", "at", "many"]
/-- 21 _law_form_at(form, value): slots form, value, total, place -/
def b__law_form_at : List DS := [.asg (.nm 2) (.ix (.var 0) (.cst (.int 0))), .fr (.nm 3) (.rng (.cons (.cst (.int 1)) (.cons (.bi .len (.cons (.var 0) .nil)) .nil))) [.asg (.nm 2) (.bin .add (.var 2) (.bin .mul (.ix (.var 0) (.var 3)) (.ix (.var 1) (.bin .sub (.var 3) (.cst (.int 1))))))], .ret (.some (.var 2))]
abbrev n__law_form_at : List Str := ["form", "value", "total", "place"]
/-- 22 _law_whole(thing): slots thing -/
def b__law_whole : List DS := [.ret (.some (.and (.bi .isinstance (.cons (.var 0) (.cons (.cst (.ty "int")) .nil))) (.not (.bi .isinstance (.cons (.var 0) (.cons (.cst (.ty "bool")) .nil))))))]
abbrev n__law_whole : List Str := ["thing"]
/-- 23 _law_number(drawn, at): slots drawn, at, number, mode -/
def b__law_number : List DS := [.asg (.nm 2) (.call 20 (.cons (.var 0) (.cons (.var 1) (.cons (.cst (.int 10)) .nil)))), .asg (.nm 3) (.call 20 (.cons (.var 0) (.cons (.bin .add (.var 1) (.cst (.int 1))) (.cons (.cst (.int 10)) .nil)))), .ifs (.cmp .eq (.var 3) (.cst (.int 8))) [.ret (.some (.bin .add (.bin .pow (.cst (.int 10)) (.cst (.int 30))) (.var 2)))] [], .ifs (.cmp .eq (.var 3) (.cst (.int 9))) [.ret (.some (.bin .sub (.bin .sub (.cst (.int 0)) (.var 2)) (.bin .pow (.cst (.int 10)) (.cst (.int 29)))))] [], .ifs (.cmp .eq (.bin .mod (.bi .int (.cons (.var 3) .nil)) (.cst (.int 2))) (.cst (.int 1))) [.ret (.some (.bin .sub (.cst (.int 0)) (.var 2)))] [], .ret (.some (.var 2))]
abbrev n__law_number : List Str := ["drawn", "at", "number", "mode"]
/-- 24 _law_parts(drawn, at, many): slots drawn, at, many, place -/
def b__law_parts : List DS := [.ret (.some (.lc [3] (.nm 3) (.rng (.cons (.bin .add (.var 2) (.cst (.int 1))) .nil)) .none (.call 23 (.cons (.var 0) (.cons (.bin .add (.var 1) (.bin .mul (.cst (.int 2)) (.var 3))) .nil)))))]
abbrev n__law_parts : List Str := ["drawn", "at", "many", "place"]
/-- 25 _law_trim(parts): slots parts, last, place -/
def b__law_trim : List DS := [.asg (.nm 1) (.cst (.int 1)), .fr (.nm 2) (.rng (.cons (.bi .len (.cons (.var 0) .nil)) .nil)) [.ifs (.cmp .ne (.ix (.var 0) (.var 2)) (.cst (.int 0))) [.asg (.nm 1) (.bi .max (.cons (.var 1) (.cons (.bin .add (.var 2) (.cst (.int 1))) .nil)))] []], .ret (.some (.bi .tuple (.cons (.sl (.var 0) .none (.some (.var 1))) .nil)))]
abbrev n__law_trim : List Str := ["parts", "last", "place"]
/-- 26 _law_sum(f, g, times): slots f, g, times, total, place -/
def b__law_sum : List DS := [.asg (.nm 3) (.bin .mul (.lst (.cons (.cst (.int 0)) .nil)) (.bi .max (.cons (.bi .len (.cons (.var 0) .nil)) (.cons (.bi .len (.cons (.var 1) .nil)) .nil)))), .fr (.nm 4) (.rng (.cons (.bi .len (.cons (.var 0) .nil)) .nil)) [.asg (.sub (.var 3) (.var 4)) (.ix (.var 0) (.var 4))], .fr (.nm 4) (.rng (.cons (.bi .len (.cons (.var 1) .nil)) .nil)) [.asg (.sub (.var 3) (.var 4)) (.bin .add (.ix (.var 3) (.var 4)) (.bin .mul (.var 2) (.ix (.var 1) (.var 4))))], .ret (.some (.call 25 (.cons (.var 3) .nil)))]
abbrev n__law_sum : List Str := ["f", "g", "times", "total", "place"]
/-- 27 _law_told(thing, due): slots thing, due, place -/
def b__law_told : List DS := [.ifs (.or (.not (.bi .isinstance (.cons (.var 0) (.cons (.cst (.ty "tuple")) .nil)))) (.cmp .ne (.bi .len (.cons (.var 0) .nil)) (.bi .len (.cons (.var 1) .nil)))) [.ret (.some (.cst (.bl false)))] [], .fr (.nm 2) (.rng (.cons (.bi .len (.cons (.var 1) .nil)) .nil)) [.ifs (.or (.not (.call 22 (.cons (.ix (.var 0) (.var 2)) .nil))) (.cmp .ne (.ix (.var 0) (.var 2)) (.ix (.var 1) (.var 2)))) [.ret (.some (.cst (.bl false)))] []], .ret (.some (.cst (.bl true)))]
abbrev n__law_told : List Str := ["thing", "due", "place"]
/-- 28 _law_number_told(thing, due): slots thing, due -/
def b__law_number_told : List DS := [.ret (.some (.and (.call 22 (.cons (.var 0) .nil)) (.cmp .eq (.var 0) (.var 1))))]
abbrev n__law_number_told : List Str := ["thing", "due"]
/-- 29 _law_put(f, x, g): slots f, x, g, rest, times -/
def b__law_put : List DS := [.asg (.nm 3) (.bi .list (.cons (.var 0) .nil)), .asg (.nm 4) (.cst (.int 0)), .ifs (.cmp .lt (.bin .add (.var 1) (.cst (.int 1))) (.bi .len (.cons (.var 0) .nil))) [.asg (.nm 4) (.ix (.var 0) (.bin .add (.var 1) (.cst (.int 1)))), .asg (.sub (.var 3) (.bin .add (.var 1) (.cst (.int 1)))) (.cst (.int 0))] [], .ret (.some (.call 26 (.cons (.var 3) (.cons (.var 2) (.cons (.var 4) .nil)))))]
abbrev n__law_put : List Str := ["f", "x", "g", "rest", "times"]
/-- 30 _law_put_all(f, forms): slots f, forms, rest, total, x -/
def b__law_put_all : List DS := [.asg (.nm 2) (.bi .list (.cons (.var 0) .nil)), .asg (.nm 3) (.tup (.cons (.cst (.int 0)) .nil)), .fr (.nm 4) (.rng (.cons (.bi .len (.cons (.var 1) .nil)) .nil)) [.ifs (.cmp .lt (.bin .add (.var 4) (.cst (.int 1))) (.bi .len (.cons (.var 0) .nil))) [.asg (.nm 3) (.call 26 (.cons (.var 3) (.cons (.ix (.var 1) (.var 4)) (.cons (.ix (.var 0) (.bin .add (.var 4) (.cst (.int 1)))) .nil)))), .asg (.sub (.var 2) (.bin .add (.var 4) (.cst (.int 1)))) (.cst (.int 0))] []], .ret (.some (.call 26 (.cons (.var 2) (.cons (.var 3) (.cons (.cst (.int 1)) .nil)))))]
abbrev n__law_put_all : List Str := ["f", "forms", "rest", "total", "x"]
/-- 31 _law_moved(f, start, by): slots f, start, by, parts, x -/
def b__law_moved : List DS := [.asg (.nm 3) (.bin .mul (.lst (.cons (.cst (.int 0)) .nil)) (.bin .add (.bi .len (.cons (.var 0) .nil)) (.var 2))), .asg (.sub (.var 3) (.cst (.int 0))) (.ix (.var 0) (.cst (.int 0))), .fr (.nm 4) (.rng (.cons (.bin .sub (.bi .len (.cons (.var 0) .nil)) (.cst (.int 1))) .nil)) [.ifs (.cmp .ge (.var 4) (.var 1)) [.asg (.sub (.var 3) (.bin .add (.bin .add (.var 4) (.var 2)) (.cst (.int 1)))) (.ix (.var 0) (.bin .add (.var 4) (.cst (.int 1))))] [.asg (.sub (.var 3) (.bin .add (.var 4) (.cst (.int 1)))) (.ix (.var 0) (.bin .add (.var 4) (.cst (.int 1))))]], .ret (.some (.call 25 (.cons (.var 3) .nil)))]
abbrev n__law_moved : List Str := ["f", "start", "by", "parts", "x"]
/-- 32 _law_order(f, g): slots f, g, place, one, other -/
def b__law_order : List DS := [.fr (.nm 2) (.rng (.cons (.cst (.int 1)) (.cons (.bi .max (.cons (.bi .len (.cons (.var 0) .nil)) (.cons (.bi .len (.cons (.var 1) .nil)) .nil))) .nil))) [.asg (.nm 3) (.cst (.int 0)), .asg (.nm 4) (.cst (.int 0)), .ifs (.cmp .lt (.var 2) (.bi .len (.cons (.var 0) .nil))) [.asg (.nm 3) (.ix (.var 0) (.var 2))] [], .ifs (.cmp .lt (.var 2) (.bi .len (.cons (.var 1) .nil))) [.asg (.nm 4) (.ix (.var 1) (.var 2))] [], .ifs (.cmp .ne (.var 3) (.var 4)) [.ret (.some (.bin .sub (.cst (.int 1)) (.bin .mul (.cst (.int 2)) (.bi .int (.cons (.cmp .lt (.var 3) (.var 4)) .nil)))))] []], .ifs (.cmp .eq (.ix (.var 0) (.cst (.int 0))) (.ix (.var 1) (.cst (.int 0)))) [.ret (.some (.cst (.int 0)))] [], .ret (.some (.bin .sub (.cst (.int 1)) (.bin .mul (.cst (.int 2)) (.bi .int (.cons (.cmp .lt (.ix (.var 0) (.cst (.int 0))) (.ix (.var 1) (.cst (.int 0)))) .nil)))))]
abbrev n__law_order : List Str := ["f", "g", "place", "one", "other"]
/-- 33 _law_sums_hold(f, g, h, n, value): slots f, g, h, n, value, due -/
def b__law_sums_hold : List DS := [.ifs (.or (.not (.call 27 (.cons (.call 6 (.cons (.var 0) (.cons (.var 1) .nil))) (.cons (.call 26 (.cons (.var 0) (.cons (.var 1) (.cons (.cst (.int 1)) .nil)))) .nil)))) (.not (.call 27 (.cons (.call 8 (.cons (.var 0) (.cons (.var 1) .nil))) (.cons (.call 26 (.cons (.var 0) (.cons (.var 1) (.cons (.bin .sub (.cst (.int 0)) (.cst (.int 1))) .nil)))) .nil))))) [.ret (.some (.cst (.bl false)))] [], .ifs (.or (.not (.call 27 (.cons (.call 7 (.cons (.var 3) (.cons (.var 0) .nil))) (.cons (.call 26 (.cons (.tup (.cons (.cst (.int 0)) .nil)) (.cons (.var 0) (.cons (.var 3) .nil)))) .nil)))) (.not (.call 27 (.cons (.call 9 (.nil)) (.cons (.tup (.cons (.cst (.int 0)) .nil)) .nil))))) [.ret (.some (.cst (.bl false)))] [], .ifs (.or (.not (.call 27 (.cons (.call 9 (.cons (.var 0) (.cons (.var 1) (.cons (.var 2) .nil)))) (.cons (.call 26 (.cons (.call 26 (.cons (.var 0) (.cons (.var 1) (.cons (.cst (.int 1)) .nil)))) (.cons (.var 2) (.cons (.cst (.int 1)) .nil)))) .nil)))) (.not (.call 27 (.cons (.call 9 (.cons (.var 2) .nil)) (.cons (.var 2) .nil))))) [.ret (.some (.cst (.bl false)))] [], .ifs (.not (.call 27 (.cons (.call 6 (.cons (.var 0) (.cons (.call 8 (.cons (.var 1) (.cons (.var 0) .nil))) .nil))) (.cons (.var 1) .nil)))) [.ret (.some (.cst (.bl false)))] [], .asg (.nm 5) (.bin .add (.call 21 (.cons (.var 0) (.cons (.var 4) .nil))) (.bin .mul (.var 3) (.call 21 (.cons (.var 1) (.cons (.var 4) .nil))))), .ret (.some (.call 28 (.cons (.call 14 (.cons (.call 6 (.cons (.var 0) (.cons (.call 7 (.cons (.var 3) (.cons (.var 1) .nil))) .nil))) (.cons (.var 4) .nil))) (.cons (.var 5) .nil))))]
abbrev n__law_sums_hold : List Str := ["f", "g", "h", "n", "value", "due"]
/-- 34 _law_reads_hold(f, value): slots f, value, x, due, told -/
def b__law_reads_hold : List DS := [.ifs (.or (.not (.call 28 (.cons (.call 10 (.cons (.var 0) .nil)) (.cons (.ix (.var 0) (.cst (.int 0))) .nil)))) (.not (.call 28 (.cons (.call 14 (.cons (.var 0) (.cons (.bi .tuple (.cons (.var 1) .nil)) .nil))) (.cons (.call 21 (.cons (.var 0) (.cons (.var 1) .nil))) .nil))))) [.ret (.some (.cst (.bl false)))] [], .fr (.nm 2) (.rng (.cons (.cst (.int 9)) .nil)) [.asg (.nm 3) (.cst (.int 0)), .ifs (.cmp .lt (.bin .add (.var 2) (.cst (.int 1))) (.bi .len (.cons (.var 0) .nil))) [.asg (.nm 3) (.ix (.var 0) (.bin .add (.var 2) (.cst (.int 1))))] [], .ifs (.not (.call 28 (.cons (.call 11 (.cons (.var 0) (.cons (.var 2) .nil))) (.cons (.var 3) .nil)))) [.ret (.some (.cst (.bl false)))] []], .ifs (.not (.call 27 (.cons (.call 12 (.cons (.var 0) .nil)) (.cons (.lc [2] (.nm 2) (.rng (.cons (.bin .sub (.bi .len (.cons (.var 0) .nil)) (.cst (.int 1))) .nil)) (.some (.cmp .ne (.ix (.var 0) (.bin .add (.var 2) (.cst (.int 1)))) (.cst (.int 0)))) (.var 2)) .nil)))) [.ret (.some (.cst (.bl false)))] [], .asg (.nm 4) (.call 13 (.cons (.var 0) .nil)), .ret (.some (.and (.bi .isinstance (.cons (.var 4) (.cons (.cst (.ty "bool")) .nil))) (.cmp .eq (.var 4) (.cmp .eq (.bi .len (.cons (.var 0) .nil)) (.cst (.int 1))))))]
abbrev n__law_reads_hold : List Str := ["f", "value", "x", "due", "told"]
/-- 35 _law_puts_hold(f, g, h, x, value): slots f, g, h, x, value, put, changed, forms, handed, both -/
def b__law_puts_hold : List DS := [.asg (.nm 5) (.call 15 (.cons (.var 0) (.cons (.var 3) (.cons (.var 1) .nil)))), .ifs (.not (.call 27 (.cons (.var 5) (.cons (.call 29 (.cons (.var 0) (.cons (.var 3) (.cons (.var 1) .nil)))) .nil)))) [.ret (.some (.cst (.bl false)))] [], .asg (.nm 6) (.bi .list (.cons (.var 4) .nil)), .asg (.sub (.var 6) (.var 3)) (.call 21 (.cons (.var 1) (.cons (.var 4) .nil))), .ifs (.cmp .ne (.call 14 (.cons (.var 5) (.cons (.var 4) .nil))) (.call 21 (.cons (.var 0) (.cons (.var 6) .nil)))) [.ret (.some (.cst (.bl false)))] [], .asg (.nm 7) (.lst (.cons (.var 1) (.cons (.var 2) (.cons (.var 0) .nil)))), .asg (.nm 8) (.bi .list (.cons (.var 7) .nil)), .asg (.nm 9) (.call 16 (.cons (.var 0) (.cons (.var 8) .nil))), .ifs (.or (.not (.call 27 (.cons (.var 9) (.cons (.call 30 (.cons (.var 0) (.cons (.var 7) .nil))) .nil)))) (.or (.cmp .ne (.var 8) (.var 7)) (.not (.call 27 (.cons (.call 16 (.cons (.var 0) (.cons (.tup (.nil)) .nil))) (.cons (.var 0) .nil)))))) [.ret (.some (.cst (.bl false)))] [], .asg (.nm 6) (.bin .add (.lst (.cons (.call 21 (.cons (.var 1) (.cons (.var 4) .nil))) (.cons (.call 21 (.cons (.var 2) (.cons (.var 4) .nil))) (.cons (.call 21 (.cons (.var 0) (.cons (.var 4) .nil))) .nil)))) (.bi .list (.cons (.sl (.var 4) (.some (.cst (.int 3))) .none) .nil))), .ret (.some (.cmp .eq (.call 14 (.cons (.var 9) (.cons (.var 4) .nil))) (.call 21 (.cons (.var 0) (.cons (.var 6) .nil)))))]
abbrev n__law_puts_hold : List Str := ["f", "g", "h", "x", "value", "put", "changed", "forms", "handed", "both"]
/-- 36 _law_moves_hold(f, start, by, value): slots f, start, by, value, told, changed -/
def b__law_moves_hold : List DS := [.asg (.nm 4) (.call 17 (.cons (.var 0) (.cons (.var 1) (.cons (.var 2) .nil)))), .ifs (.not (.call 27 (.cons (.var 4) (.cons (.call 31 (.cons (.var 0) (.cons (.var 1) (.cons (.var 2) .nil)))) .nil)))) [.ret (.some (.cst (.bl false)))] [], .asg (.nm 5) (.bin .add (.bin .add (.bi .list (.cons (.sl (.var 3) .none (.some (.var 1))) .nil)) (.bin .mul (.lst (.cons (.cst (.int 7)) .nil)) (.var 2))) (.bi .list (.cons (.sl (.var 3) (.some (.var 1)) .none) .nil))), .ret (.some (.cmp .eq (.call 14 (.cons (.var 4) (.cons (.var 5) .nil))) (.call 21 (.cons (.var 0) (.cons (.var 3) .nil)))))]
abbrev n__law_moves_hold : List Str := ["f", "start", "by", "value", "told", "changed"]
/-- 37 _law_orders_hold(f, g): slots f, g, pair -/
def b__law_orders_hold : List DS := [.fr (.nm 2) (.seq (.lst (.cons (.tup (.cons (.var 0) (.cons (.var 1) .nil))) (.cons (.tup (.cons (.var 1) (.cons (.var 0) .nil))) (.cons (.tup (.cons (.var 0) (.cons (.var 0) .nil))) (.cons (.tup (.cons (.var 0) (.cons (.call 26 (.cons (.var 0) (.cons (.tup (.cons (.cst (.int 1)) .nil)) (.cons (.cst (.int 1)) .nil)))) .nil))) .nil)))))) [.ifs (.not (.call 28 (.cons (.call 18 (.cons (.ix (.var 2) (.cst (.int 0))) (.cons (.ix (.var 2) (.cst (.int 1))) .nil))) (.cons (.call 32 (.cons (.ix (.var 2) (.cst (.int 0))) (.cons (.ix (.var 2) (.cst (.int 1))) .nil))) .nil)))) [.ret (.some (.cst (.bl false)))] []], .ret (.some (.cst (.bl true)))]
abbrev n__law_orders_hold : List Str := ["f", "g", "pair"]
/-- 38 _law_made_hold(parts, n, x): slots parts, n, x, kept, due -/
def b__law_made_hold : List DS := [.asg (.nm 3) (.bi .list (.cons (.var 0) .nil)), .asg (.nm 4) (.call 25 (.cons (.var 0) .nil)), .ifs (.or (.not (.call 27 (.cons (.call 3 (.cons (.var 0) .nil)) (.cons (.var 4) .nil)))) (.or (.cmp .ne (.var 0) (.var 3)) (.not (.call 27 (.cons (.call 3 (.cons (.bin .add (.bi .tuple (.cons (.var 0) .nil)) (.tup (.cons (.cst (.int 0)) (.cons (.cst (.int 0)) .nil)))) .nil)) (.cons (.var 4) .nil)))))) [.ret (.some (.cst (.bl false)))] [], .ifs (.or (.cmp .isn (.call 1 (.cons (.var 4) .nil)) (.cst (.bl true))) (.or (.cmp .isn (.call 1 (.cons (.bi .list (.cons (.var 4) .nil)) .nil)) (.cst (.bl false))) (.cmp .isn (.call 1 (.cons (.bin .add (.var 4) (.tup (.cons (.cst (.int 0)) .nil))) .nil)) (.cst (.bl false))))) [.ret (.some (.cst (.bl false)))] [], .ifs (.or (.cmp .isn (.call 1 (.cons (.tup (.nil)) .nil)) (.cst (.bl false))) (.or (.cmp .isn (.call 1 (.cons (.tup (.cons (.cst (.int 0)) .nil)) .nil)) (.cst (.bl true))) (.or (.cmp .isn (.call 1 (.cons (.tup (.cons (.cst (.bl true)) .nil)) .nil)) (.cst (.bl false))) (.cmp .isn (.call 1 (.cons (.cst (.str "a")) .nil)) (.cst (.bl false)))))) [.ret (.some (.cst (.bl false)))] [], .ifs (.or (.cmp .isn (.call 0 (.cons (.var 1) .nil)) (.cst (.bl true))) (.or (.cmp .isn (.call 0 (.cons (.cst (.bl false)) .nil)) (.cst (.bl false))) (.or (.cmp .isn (.call 0 (.cons (.cst (.str "1")) .nil)) (.cst (.bl false))) (.cmp .isn (.call 0 (.cons (.cst .non) .nil)) (.cst (.bl false)))))) [.ret (.some (.cst (.bl false)))] [], .ifs (.or (.not (.call 27 (.cons (.call 4 (.cons (.var 1) .nil)) (.cons (.tup (.cons (.var 1) .nil)) .nil)))) (.not (.call 27 (.cons (.call 5 (.cons (.var 2) .nil)) (.cons (.bin .add (.bin .mul (.tup (.cons (.cst (.int 0)) .nil)) (.bin .add (.var 2) (.cst (.int 1)))) (.tup (.cons (.cst (.int 1)) .nil))) .nil))))) [.ret (.some (.cst (.bl false)))] [], .asg (.nm 4) (.call 25 (.cons (.bin .add (.bin .mul (.lst (.cons (.cst (.int 0)) .nil)) (.bin .add (.var 2) (.cst (.int 1)))) (.lst (.cons (.var 1) .nil))) .nil)), .ret (.some (.and (.call 27 (.cons (.call 5 (.cons (.var 2) (.cons (.var 1) .nil))) (.cons (.var 4) .nil))) (.and (.call 27 (.cons (.call 5 (.cons (.cst (.int 999)) (.cons (.cst (.int 0)) .nil))) (.cons (.tup (.cons (.cst (.int 0)) .nil)) .nil))) (.cmp .eq (.bi .len (.cons (.call 5 (.cons (.cst (.int 999)) .nil)) .nil)) (.cst (.int 1001))))))]
abbrev n__law_made_hold : List Str := ["parts", "n", "x", "kept", "due"]
/-- 39 _law_forms_refused(): slots thing, told, e -/
def b__law_forms_refused : List DS := [.fr (.nm 0) (.seq (.lst (.cons (.tup (.nil)) (.cons (.lst (.nil)) (.cons (.cst (.str "ab")) (.cons (.cst .non) (.cons (.cst (.int 7)) (.cons (.lst (.cons (.cst (.bl true)) .nil)) (.cons (.tup (.cons (.cst (.int 1)) (.cons (.cst (.str "a")) .nil))) (.cons (.lst (.cons (.cst (.int 1)) (.cons (.cst .non) .nil))) (.cons (.lst (.cons (.lst (.cons (.cst (.int 1)) .nil)) .nil)) .nil))))))))))) [.asg (.nm 1) (.tup (.nil)), .tr [.ex (.call 3 (.cons (.var 0) .nil))] 2 (some 2) [.asg (.nm 1) (.tup (.cons (.efld "place") (.cons (.eisi [0]) (.cons (.eisi [90]) (.cons (.eisi [1, 3]) .nil)))))], .ifs (.or (.cmp .ne (.var 1) (.tup (.cons (.cst (.int 0)) (.cons (.cst (.bl true)) (.cons (.cst (.bl true)) (.cons (.cst (.bl false)) .nil)))))) (.not (.call 22 (.cons (.ix (.var 1) (.cst (.int 0))) .nil)))) [.ret (.some (.cst (.bl false)))] []], .ret (.some (.cst (.bl true)))]
abbrev n__law_forms_refused : List Str := ["thing", "told", "e"]
/-- 40 _law_numbers_refused(): slots thing, told, e, pair -/
def b__law_numbers_refused : List DS := [.fr (.nm 0) (.seq (.lst (.cons (.cst (.bl true)) (.cons (.cst .non) (.cons (.cst (.str "1")) (.cons (.tup (.cons (.cst (.int 1)) .nil)) (.cons (.lst (.cons (.cst (.int 2)) .nil)) .nil))))))) [.asg (.nm 1) (.cst (.str "")), .tr [.ex (.call 4 (.cons (.var 0) .nil))] 1 (some 2) [.asg (.nm 1) (.efld "name")], .ifs (.cmp .ne (.var 1) (.cst (.str "c"))) [.ret (.some (.cst (.bl false)))] []], .fr (.nm 3) (.seq (.lst (.cons (.tup (.cons (.bin .sub (.cst (.int 0)) (.cst (.int 1))) (.cons (.cst (.int 1)) (.cons (.cst (.str "x")) .nil)))) (.cons (.tup (.cons (.cst (.bl true)) (.cons (.cst (.int 1)) (.cons (.cst (.str "x")) .nil)))) (.cons (.tup (.cons (.cst (.str "a")) (.cons (.cst (.bl true)) (.cons (.cst (.str "x")) .nil)))) (.cons (.tup (.cons (.cst (.int 1000)) (.cons (.cst (.int 1)) (.cons (.cst (.str "x")) .nil)))) (.cons (.tup (.cons (.cst (.int 3)) (.cons (.cst .non) (.cons (.cst (.str "times")) .nil)))) (.cons (.tup (.cons (.cst (.int 0)) (.cons (.cst (.bl false)) (.cons (.cst (.str "times")) .nil)))) (.cons (.tup (.cons (.cst .non) (.cons (.cst .non) (.cons (.cst (.str "x")) .nil)))) .nil))))))))) [.asg (.nm 1) (.cst (.str "")), .tr [.ex (.call 5 (.cons (.ix (.var 3) (.cst (.int 0))) (.cons (.ix (.var 3) (.cst (.int 1))) .nil)))] 1 (some 2) [.asg (.nm 1) (.efld "name")], .ifs (.cmp .ne (.var 1) (.ix (.var 3) (.cst (.int 2)))) [.ret (.some (.cst (.bl false)))] []], .fr (.nm 0) (.seq (.lst (.cons (.bin .sub (.cst (.int 0)) (.cst (.int 1))) (.cons (.cst (.bl true)) (.cons (.cst .non) (.cons (.cst (.str "2")) .nil)))))) [.asg (.nm 1) (.cst (.str "")), .tr [.ex (.call 17 (.cons (.tup (.cons (.cst (.int 1)) (.cons (.cst (.int 2)) .nil))) (.cons (.cst (.int 0)) (.cons (.var 0) .nil))))] 1 (some 2) [.asg (.nm 1) (.efld "name")], .ifs (.cmp .ne (.var 1) (.cst (.str "by"))) [.ret (.some (.cst (.bl false)))] []], .ret (.some (.cst (.bl true)))]
abbrev n__law_numbers_refused : List Str := ["thing", "told", "e", "pair"]
/-- 41 _law_short_refused(f, value, many): slots f, value, many, missing, x, told, e -/
def b__law_short_refused : List DS := [.asg (.nm 3) (.lc [4] (.nm 4) (.rng (.cons (.bin .sub (.bi .len (.cons (.var 0) .nil)) (.cst (.int 1))) .nil)) (.some (.and (.cmp .ne (.ix (.var 0) (.bin .add (.var 4) (.cst (.int 1)))) (.cst (.int 0))) (.cmp .ge (.var 4) (.var 2)))) (.var 4)), .asg (.nm 5) (.tup (.cons (.cst (.int 0)) (.cons (.cst (.int 0)) .nil))), .tr [.asg (.nm 5) (.tup (.cons (.cst (.int 0)) (.cons (.call 14 (.cons (.var 0) (.cons (.sl (.var 1) .none (.some (.var 2))) .nil))) .nil)))] 3 (some 6) [.asg (.nm 5) (.tup (.cons (.cst (.int 1)) (.cons (.efld "place") .nil)))], .ifs (.cmp .gt (.bi .len (.cons (.var 3) .nil)) (.cst (.int 0))) [.ret (.some (.and (.cmp .eq (.ix (.var 5) (.cst (.int 0))) (.cst (.int 1))) (.call 28 (.cons (.ix (.var 5) (.cst (.int 1))) (.cons (.ix (.var 3) (.cst (.int 0))) .nil)))))] [], .ret (.some (.and (.cmp .eq (.ix (.var 5) (.cst (.int 0))) (.cst (.int 0))) (.call 28 (.cons (.ix (.var 5) (.cst (.int 1))) (.cons (.call 21 (.cons (.var 0) (.cons (.bin .add (.bi .list (.cons (.sl (.var 1) .none (.some (.var 2))) .nil)) (.bin .mul (.lst (.cons (.cst (.int 0)) .nil)) (.cst (.int 8)))) .nil))) .nil)))))]
abbrev n__law_short_refused : List Str := ["f", "value", "many", "missing", "x", "told", "e"]
/-- 42 law(script): slots script, drawn, parts, f, g, h, x, n, start, by, value, place -/
def b_law : List DS := [.asg (.nm 1) (.call 19 (.cons (.var 0) .nil)), .asg (.nm 2) (.call 24 (.cons (.var 1) (.cons (.cst (.int 10)) (.cons (.call 20 (.cons (.var 1) (.cons (.cst (.int 0)) (.cons (.cst (.int 7)) .nil)))) .nil)))), .asg (.nm 3) (.call 25 (.cons (.var 2) .nil)), .asg (.nm 4) (.call 25 (.cons (.call 24 (.cons (.var 1) (.cons (.cst (.int 24)) (.cons (.call 20 (.cons (.var 1) (.cons (.cst (.int 1)) (.cons (.cst (.int 7)) .nil)))) .nil)))) .nil)), .asg (.nm 5) (.call 25 (.cons (.call 24 (.cons (.var 1) (.cons (.cst (.int 38)) (.cons (.call 20 (.cons (.var 1) (.cons (.cst (.int 2)) (.cons (.cst (.int 7)) .nil)))) .nil)))) .nil)), .asg (.nm 6) (.call 20 (.cons (.var 1) (.cons (.cst (.int 3)) (.cons (.cst (.int 7)) .nil)))), .asg (.nm 7) (.call 23 (.cons (.var 1) (.cons (.cst (.int 4)) .nil))), .asg (.nm 8) (.call 20 (.cons (.var 1) (.cons (.cst (.int 6)) (.cons (.cst (.int 8)) .nil)))), .asg (.nm 9) (.call 20 (.cons (.var 1) (.cons (.cst (.int 7)) (.cons (.cst (.int 6)) .nil)))), .asg (.nm 10) (.lc [11] (.nm 11) (.rng (.cons (.cst (.int 8)) .nil)) .none (.call 23 (.cons (.var 1) (.cons (.bin .add (.cst (.int 52)) (.bin .mul (.cst (.int 2)) (.var 11))) .nil)))), .ifs (.or (.not (.call 38 (.cons (.var 2) (.cons (.var 7) (.cons (.var 6) .nil))))) (.or (.not (.call 39 (.nil))) (.not (.call 40 (.nil))))) [.ret (.some (.cst (.bl false)))] [], .ifs (.or (.not (.call 33 (.cons (.var 3) (.cons (.var 4) (.cons (.var 5) (.cons (.var 7) (.cons (.var 10) .nil))))))) (.or (.not (.call 34 (.cons (.var 3) (.cons (.var 10) .nil)))) (.not (.call 34 (.cons (.var 4) (.cons (.var 10) .nil)))))) [.ret (.some (.cst (.bl false)))] [], .ifs (.or (.not (.call 35 (.cons (.var 3) (.cons (.var 4) (.cons (.var 5) (.cons (.var 6) (.cons (.var 10) .nil))))))) (.or (.not (.call 37 (.cons (.var 3) (.cons (.var 4) .nil)))) (.not (.call 37 (.cons (.var 4) (.cons (.var 5) .nil)))))) [.ret (.some (.cst (.bl false)))] [], .ret (.some (.and (.call 36 (.cons (.var 3) (.cons (.var 8) (.cons (.var 9) (.cons (.var 10) .nil))))) (.call 41 (.cons (.var 3) (.cons (.var 10) (.cons (.call 20 (.cons (.var 1) (.cons (.cst (.int 8)) (.cons (.cst (.int 8)) .nil)))) .nil))))))]
abbrev n_law : List Str := ["script", "drawn", "parts", "f", "g", "h", "x", "n", "start", "by", "value", "place"]
end PD

set_option Elab.async false
set_option linter.all false
set_option maxRecDepth 100000
set_option maxHeartbeats 1000000
namespace PD
/-! ### forms: lists of whole numbers without zeros behind (but the first) -/
def lastNZ (l : List Int) : Nat → Nat
  | 0 => 0
  | 1 => 1
  | n + 2 => if cf l (n + 1) = 0 then lastNZ l (n + 1) else n + 2
def trimL (l : List Int) : List Int := l.take (lastNZ l l.length)
def Norm (l : List Int) : Prop := l ≠ [] ∧ (l.length = 1 ∨ cf l (l.length - 1) ≠ 0)
theorem cf_nil (i : Nat) : cf [] i = 0 := by simp [cf]
theorem cf_out {l : List Int} {i : Nat} (h : l.length ≤ i) : cf l i = 0 := by
  unfold cf
  rw [List.getD_eq_getElem?_getD, List.getElem?_eq_none h]
  rfl
theorem cf_in {l : List Int} {i : Nat} (h : i < l.length) : cf l i = l[i] := by
  unfold cf
  rw [List.getD_eq_getElem?_getD, List.getElem?_eq_getElem h]
  rfl
theorem cf_take (l : List Int) (n i : Nat) : cf (l.take n) i = if i < n then cf l i else 0 := by
  unfold cf
  rw [List.getD_eq_getElem?_getD, List.getD_eq_getElem?_getD, List.getElem?_take]
  split <;> rfl
theorem cf_drop (l : List Int) (n i : Nat) : cf (l.drop n) i = cf l (n + i) := by
  unfold cf
  rw [List.getD_eq_getElem?_getD, List.getD_eq_getElem?_getD, List.getElem?_drop]
theorem cf_map0 (f : Int → Int) (h0 : f 0 = 0) (l : List Int) (i : Nat) : cf (l.map f) i = f (cf l i) := by
  unfold cf
  rw [List.getD_eq_getElem?_getD, List.getD_eq_getElem?_getD, List.getElem?_map]
  cases l[i]? with
  | none => exact h0.symm
  | some x => rfl
theorem cf_set (l : List Int) (n i : Nat) (x : Int) : cf (l.set n x) i = if n = i ∧ n < l.length then x else cf l i := by
  unfold cf
  rw [List.getD_eq_getElem?_getD, List.getD_eq_getElem?_getD, List.getElem?_set]
  by_cases h : n = i
  · subst h
    by_cases h2 : n < l.length
    · simp [h2]
    · simp [h2]
  · simp [h]
theorem cf_app (l m : List Int) (i : Nat) : cf (l ++ m) i = if i < l.length then cf l i else cf m (i - l.length) := by
  unfold cf
  rw [List.getD_eq_getElem?_getD, List.getD_eq_getElem?_getD, List.getD_eq_getElem?_getD, List.getElem?_append]
  split <;> rfl
theorem cf_rep (n i : Nat) (x : Int) : cf (List.replicate n x) i = if i < n then x else 0 := by
  unfold cf
  rw [List.getD_eq_getElem?_getD, List.getElem?_replicate]
  split <;> rfl
theorem cf_one (x : Int) (i : Nat) : cf [x] i = if i = 0 then x else 0 := by
  cases i with
  | zero => rfl
  | succ i => rfl
theorem cf_cons0 (x : Int) (l : List Int) : cf (x :: l) 0 = x := rfl
theorem cf_consS (x : Int) (l : List Int) (i : Nat) : cf (x :: l) (i + 1) = cf l i := rfl
theorem cf_range (n i : Nat) (f : Nat → Int) : cf ((List.range n).map f) i = if i < n then f i else 0 := by
  unfold cf
  rw [List.getD_eq_getElem?_getD, List.getElem?_map]
  by_cases h : i < n
  · rw [List.getElem?_range h, if_pos h]; rfl
  · rw [List.getElem?_eq_none (by rw [List.length_range]; omega), if_neg h]; rfl
theorem lastNZ_le (l : List Int) : ∀ n, lastNZ l n ≤ n
  | 0 => Nat.le_refl _
  | 1 => Nat.le_refl _
  | n + 2 => by
    unfold lastNZ
    split
    · exact Nat.le_trans (lastNZ_le l (n + 1)) (by omega)
    · exact Nat.le_refl _
theorem lastNZ_pos (l : List Int) : ∀ n, 0 < n → 0 < lastNZ l n
  | 0, h => by omega
  | 1, _ => by unfold lastNZ; omega
  | n + 2, _ => by
    unfold lastNZ
    split
    · exact lastNZ_pos l (n + 1) (by omega)
    · omega
theorem lastNZ_zero (l : List Int) : ∀ n i, lastNZ l n ≤ i → i < n → cf l i = 0
  | 0, i, _, h => by omega
  | 1, i, h, h2 => by unfold lastNZ at h; omega
  | n + 2, i, h, h2 => by
    unfold lastNZ at h
    split at h
    · rename_i hz
      by_cases e : i = n + 1
      · rw [e]; exact hz
      · exact lastNZ_zero l (n + 1) i h (by omega)
    · omega
theorem lastNZ_nz (l : List Int) : ∀ n, lastNZ l n ≤ 1 ∨ cf l (lastNZ l n - 1) ≠ 0
  | 0 => .inl (by unfold lastNZ; omega)
  | 1 => .inl (by unfold lastNZ; omega)
  | n + 2 => by
    unfold lastNZ
    split
    · exact lastNZ_nz l (n + 1)
    · rename_i h
      exact .inr h
theorem cf_trim (l : List Int) (i : Nat) : cf (trimL l) i = cf l i := by
  unfold trimL
  rw [cf_take]
  split
  · rfl
  · rename_i h
    by_cases h2 : i < l.length
    · exact (lastNZ_zero l _ i (by omega) h2).symm
    · exact (cf_out (by omega)).symm
theorem trim_len (l : List Int) : (trimL l).length = lastNZ l l.length := by
  unfold trimL
  rw [List.length_take]
  exact Nat.min_eq_left (lastNZ_le l _)
theorem trim_le (l : List Int) : (trimL l).length ≤ l.length := by
  rw [trim_len]
  exact lastNZ_le l _
theorem len_pos {l : List Int} (h : l ≠ []) : 0 < l.length := by
  cases l with
  | nil => exact absurd rfl h
  | cons _ _ => exact Nat.succ_pos _
theorem ne_of_len {l : List Int} (h : 0 < l.length) : l ≠ [] := by
  rintro rfl
  exact absurd h (Nat.lt_irrefl _)
theorem trim_ne {l : List Int} (h : l ≠ []) : trimL l ≠ [] := ne_of_len (by rw [trim_len]; exact lastNZ_pos l _ (len_pos h))
theorem norm_trim {l : List Int} (h : l ≠ []) : Norm (trimL l) := by
  refine ⟨trim_ne h, ?_⟩
  have h1 := lastNZ_pos l _ (len_pos h)
  rw [cf_trim, trim_len]
  rcases lastNZ_nz l l.length with q | q
  · exact .inl (by omega)
  · exact .inr q
theorem list_ext {f g : List Int} (hl : f.length = g.length) (h : ∀ i, cf f i = cf g i) : f = g := by
  refine List.ext_getElem hl fun i h1 h2 => ?_
  rw [← cf_in h1, ← cf_in h2]
  exact h i
theorem norm_len {f g : List Int} (hf : Norm f) (hg : Norm g) (h : ∀ i, cf f i = cf g i) : f.length ≤ g.length := by
  have h1 := len_pos hf.1
  have h2 := len_pos hg.1
  rcases Nat.lt_or_ge g.length f.length with z | z
  · rcases hf.2 with q | q
    · omega
    · rw [h, cf_out (by omega)] at q
      exact absurd rfl q
  · exact z
/-- a form is what its coefficients are -/
theorem norm_ext {f g : List Int} (hf : Norm f) (hg : Norm g) (h : ∀ i, cf f i = cf g i) : f = g :=
  list_ext (Nat.le_antisymm (norm_len hf hg h) (norm_len hg hf fun i => (h i).symm)) h
theorem trim_ext {f g : List Int} (hf : f ≠ []) (hg : g ≠ []) (h : ∀ i, cf f i = cf g i) : trimL f = trimL g :=
  norm_ext (norm_trim hf) (norm_trim hg) fun i => by rw [cf_trim, cf_trim, h i]
theorem trim_norm {f : List Int} (hf : Norm f) : trimL f = f := norm_ext (norm_trim hf.1) hf fun i => cf_trim f i
theorem trim_to {f g : List Int} (hf : f ≠ []) (hg : Norm g) (h : ∀ i, cf f i = cf g i) : trimL f = g := norm_ext (norm_trim hf) hg fun i => by rw [cf_trim, h i]
/-- sums -/
def addL (f g : List Int) : List Int := (List.range (max f.length g.length)).map fun i => cf f i + cf g i
theorem cf_addL (f g : List Int) (i : Nat) : cf (addL f g) i = cf f i + cf g i := by
  unfold addL
  rw [cf_range]
  split
  · rfl
  · rw [cf_out (l := f) (by omega), cf_out (l := g) (by omega)]
    rfl
theorem addL_len (f g : List Int) : (addL f g).length = max f.length g.length := by unfold addL; rw [List.length_map, List.length_range]
def mulL (n : Int) (f : List Int) : List Int := f.map fun x => n * x
theorem cf_mulL (n : Int) (f : List Int) (i : Nat) : cf (mulL n f) i = n * cf f i := cf_map0 _ (Int.mul_zero n) f i
theorem mulL_len (n : Int) (f : List Int) : (mulL n f).length = f.length := List.length_map ..
/-- a number within 2^k -/
structure Bz (k : Nat) (z : Int) : Prop where
  h : z.natAbs < 2 ^ k
/-- entries within 2^k -/
structure Bd (k : Nat) (l : List Int) : Prop where
  h : ∀ i, Bz k (cf l i)
instance (k : Nat) (l : List Int) : CoeFun (Bd k l) (fun _ => ∀ i, Bz k (cf l i)) := ⟨Bd.h⟩
theorem log_lt {x : Int} {k : Nat} (h : Bz k x) : x.natAbs.log2 ≤ k := by
  by_cases h0 : x.natAbs = 0
  · rw [h0]
    exact Nat.zero_le _
  · exact Nat.le_of_lt ((Nat.log2_lt h0).mpr h.h)
theorem Bz.up {k m : Nat} {z : Int} (h : Bz k z) (hk : k ≤ m) : Bz m z := ⟨Nat.lt_of_lt_of_le h.h (Nat.pow_le_pow_right (by decide) hk)⟩
theorem Bz.sm {k : Nat} {z : Int} (h : z.natAbs < 2 ^ 4) (hk : 4 ≤ k) : Bz k z := ⟨Nat.lt_of_lt_of_le h (Nat.pow_le_pow_right (by decide) hk)⟩
theorem Bd.mono {k m : Nat} {l : List Int} (h : Bd k l) (hk : k ≤ m) : Bd m l := ⟨fun i => (h.h i).up hk⟩
theorem Bd.of {k : Nat} {f g : List Int} (h : Bd k f) (e : ∀ i, cf g i = cf f i) : Bd k g := ⟨fun i => by rw [e]; exact h.h i⟩
theorem Bz.add {k : Nat} {x y : Int} (hx : Bz k x) (hy : Bz k y) : Bz (k + 1) (x + y) := ⟨by
  have h1 := hx.h
  have h2 := hy.h
  have := Int.natAbs_add_le x y
  rw [Nat.pow_succ]
  omega⟩
theorem Bz.mul {k m : Nat} {x y : Int} (hx : Bz m x) (hy : Bz k y) : Bz (m + k) (x * y) := ⟨by
  rw [Int.natAbs_mul, Nat.pow_add]
  exact Nat.mul_lt_mul'' hx.h hy.h⟩
theorem Bz.zero {k : Nat} : Bz k 0 := ⟨Nat.pow_pos (by decide)⟩
theorem Bd.add {k : Nat} {f g h : List Int} (hf : Bd k f) (hg : Bd k g) (e : ∀ i, cf h i = cf f i + cf g i) : Bd (k + 1) h := ⟨fun i => by
  rw [e]
  exact (hf.h i).add (hg.h i)⟩
theorem Bd.mul {k m : Nat} {n : Int} {f h : List Int} (hn : Bz m n) (hf : Bd k f) (e : ∀ i, cf h i = n * cf f i) : Bd (m + k) h := ⟨fun i => by
  rw [e]
  exact hn.mul (hf.h i)⟩
/-- values -/
def sumTo (u : Nat → Int) : Nat → Int
  | 0 => 0
  | n + 1 => sumTo u n + u n
theorem sumTo_succ (u : Nat → Int) (n : Nat) : sumTo u (n + 1) = sumTo u n + u n := rfl
theorem sumTo_congr {u v : Nat → Int} : ∀ {n : Nat}, (∀ i, i < n → u i = v i) → sumTo u n = sumTo v n
  | 0, _ => rfl
  | n + 1, h => by
    unfold sumTo
    rw [sumTo_congr (n := n) fun i hi => h i (by omega), h n (by omega)]
theorem sumTo_add (u v : Nat → Int) : ∀ n, sumTo (fun i => u i + v i) n = sumTo u n + sumTo v n
  | 0 => rfl
  | n + 1 => by
    unfold sumTo
    rw [sumTo_add u v n]
    omega
theorem sumTo_mul (a : Int) (u : Nat → Int) : ∀ n, sumTo (fun i => a * u i) n = a * sumTo u n
  | 0 => by unfold sumTo; omega
  | n + 1 => by
    unfold sumTo
    rw [sumTo_mul a u n, Int.mul_add]
theorem sumTo_ext {u : Nat → Int} {n : Nat} : ∀ {m : Nat}, n ≤ m → (∀ i, n ≤ i → i < m → u i = 0) → sumTo u m = sumTo u n
  | 0, h, _ => by
    have : n = 0 := by omega
    rw [this]
  | m + 1, h, hz => by
    by_cases e : n = m + 1
    · rw [e]
    · rw [sumTo_succ, sumTo_ext (n := n) (m := m) (by omega) fun i h1 h2 => hz i h1 (by omega), hz m (by omega) (by omega)]
      omega
/-- a form's value at v, by coefficients up to n -/
def evN (n : Nat) (c : Nat → Int) (v : List Int) : Int := c 0 + sumTo (fun i => c (i + 1) * cf v i) n
def evL (f v : List Int) : Int := evN (f.length - 1) (cf f) v
theorem evL_up {f v : List Int} {n : Nat} (h : f.length ≤ n + 1) : evL f v = evN n (cf f) v := by
  unfold evL evN
  rw [sumTo_ext (n := f.length - 1) (m := n) (by omega) fun i h1 h2 => by rw [cf_out (l := f) (by omega)]; omega]
/-- .. where the values end sooner -/
theorem evN_v {c : Nat → Int} {v : List Int} {n m : Nat} (h : n ≤ m) (hv : v.length ≤ n) : evN m c v = evN n c v := by
  unfold evN
  rw [sumTo_ext (n := n) (m := m) h fun i h1 h2 => by rw [cf_out (l := v) (by omega)]; omega]
theorem evN_congr {c c' : Nat → Int} {v v' : List Int} {n : Nat} (h0 : c 0 = c' 0) (h : ∀ i, i < n → c (i + 1) * cf v i = c' (i + 1) * cf v' i) : evN n c v = evN n c' v' := by
  unfold evN
  rw [h0, sumTo_congr h]
theorem evN_add (c c' : Nat → Int) (v : List Int) (n : Nat) : evN n (fun i => c i + c' i) v = evN n c v + evN n c' v := by
  unfold evN
  have := sumTo_add (fun i => c (i + 1) * cf v i) (fun i => c' (i + 1) * cf v i) n
  rw [show (fun i => (c (i + 1) + c' (i + 1)) * cf v i) = fun i => c (i + 1) * cf v i + c' (i + 1) * cf v i from funext fun i => Int.add_mul _ _ _]
  rw [this]
  dsimp only
  omega
theorem evN_mul (a : Int) (c : Nat → Int) (v : List Int) (n : Nat) : evN n (fun i => a * c i) v = a * evN n c v := by
  unfold evN
  have := sumTo_mul a (fun i => c (i + 1) * cf v i) n
  rw [show (fun i => a * c (i + 1) * cf v i) = fun i => a * (c (i + 1) * cf v i) from funext fun i => Int.mul_assoc _ _ _, this, Int.mul_add]
end PD

set_option Elab.async false
set_option linter.all false
set_option maxRecDepth 100000
namespace PD
open PySem PySem.Spec PyProof.Rows L2
def topK (i : Nat) : Stmt := PySem.Challenge.pw_shapestold_k00_forms_go_along.main.body.getD i (.Pass ⟨0, 0, 0, 0⟩)
def fnK : List Str := (["is_whole", "is_form", "_form_trimmed", "form_of", "number_form", "variable_form", "plus", "scaled", "minus", "joined", "constant", "multiple", "variables", "is_number", "form_at", "put_variable", "put_all", "moved", "same_order", "_law_draws", "_law_pick", "_law_form_at", "_law_whole", "_law_number", "_law_parts", "_law_trim", "_law_sum", "_law_told", "_law_number_told", "_law_put", "_law_put_all", "_law_moved", "_law_order", "_law_sums_hold", "_law_reads_hold", "_law_puts_hold", "_law_moves_hold", "_law_orders_hold", "_law_made_hold", "_law_forms_refused", "_law_numbers_refused", "_law_short_refused", "law"] : List String).map Str.ofString
def othK : List (Str × GK) := ([("isinstance", .bi .isinstance), ("int", .ty "int"), ("bool", .ty "bool"), ("tuple", .ty "tuple"), ("len", .bi .len), ("BadForm", .exc 2 ["place"]), ("list", .ty "list"), ("BadNumber", .exc 1 ["name"]), ("_FORM_LAST", .cst (.int 999)), ("enumerate", .enum), ("range", .rng), ("BadValue", .exc 3 ["place"]), ("min", .bi .min), ("max", .bi .max), ("abs", .bi .abs), ("ShapeError", .cls 0), ("ValueError", .xty 90 "ValueError")] : List (String × GK)).map fun p => (Str.ofString p.1, p.2)
theorem hc_0 : compSs (compS 24 (mkCtx (othK ++ fnGl fnK 0) n_is_whole (defScope (topK 7)))) (defBody (topK 7)) = some b_is_whole := by kernel_rfl
theorem sc_0 : FnScope n_is_whole ["thing"] (defScope (topK 7)) := ⟨by kernel_rfl, by kernel_rfl, by kernel_rfl, by decide +kernel, rfl, by decide +kernel, by decide +kernel⟩
theorem hc_1 : compSs (compS 24 (mkCtx (othK ++ fnGl fnK 1) n_is_form (defScope (topK 8)))) (defBody (topK 8)) = some b_is_form := by kernel_rfl
theorem sc_1 : FnScope n_is_form ["thing"] (defScope (topK 8)) := ⟨by kernel_rfl, by kernel_rfl, by kernel_rfl, by decide +kernel, rfl, by decide +kernel, by decide +kernel⟩
theorem hc_2 : compSs (compS 24 (mkCtx (othK ++ fnGl fnK 2) n__form_trimmed (defScope (topK 9)))) (defBody (topK 9)) = some b__form_trimmed := by kernel_rfl
theorem sc_2 : FnScope n__form_trimmed ["parts"] (defScope (topK 9)) := ⟨by kernel_rfl, by kernel_rfl, by kernel_rfl, by decide +kernel, rfl, by decide +kernel, by decide +kernel⟩
theorem hc_3 : compSs (compS 24 (mkCtx (othK ++ fnGl fnK 3) n_form_of (defScope (topK 10)))) (defBody (topK 10)) = some b_form_of := by kernel_rfl
theorem sc_3 : FnScope n_form_of ["thing"] (defScope (topK 10)) := ⟨by kernel_rfl, by kernel_rfl, by kernel_rfl, by decide +kernel, rfl, by decide +kernel, by decide +kernel⟩
theorem hc_4 : compSs (compS 24 (mkCtx (othK ++ fnGl fnK 4) n_number_form (defScope (topK 11)))) (defBody (topK 11)) = some b_number_form := by kernel_rfl
theorem sc_4 : FnScope n_number_form ["c"] (defScope (topK 11)) := ⟨by kernel_rfl, by kernel_rfl, by kernel_rfl, by decide +kernel, rfl, by decide +kernel, by decide +kernel⟩
theorem hc_5 : compSs (compS 24 (mkCtx (othK ++ fnGl fnK 5) n_variable_form (defScope (topK 12)))) (defBody (topK 12)) = some b_variable_form := by kernel_rfl
theorem sc_5 : FnScope n_variable_form ["x", "times"] (defScope (topK 12)) := ⟨by kernel_rfl, by kernel_rfl, by kernel_rfl, by decide +kernel, rfl, by decide +kernel, by decide +kernel⟩
theorem hc_6 : compSs (compS 24 (mkCtx (othK ++ fnGl fnK 6) n_plus (defScope (topK 13)))) (defBody (topK 13)) = some b_plus := by kernel_rfl
theorem sc_6 : FnScope n_plus ["f", "g"] (defScope (topK 13)) := ⟨by kernel_rfl, by kernel_rfl, by kernel_rfl, by decide +kernel, rfl, by decide +kernel, by decide +kernel⟩
theorem hc_7 : compSs (compS 24 (mkCtx (othK ++ fnGl fnK 7) n_scaled (defScope (topK 14)))) (defBody (topK 14)) = some b_scaled := by kernel_rfl
theorem sc_7 : FnScope n_scaled ["n", "f"] (defScope (topK 14)) := ⟨by kernel_rfl, by kernel_rfl, by kernel_rfl, by decide +kernel, rfl, by decide +kernel, by decide +kernel⟩
theorem hc_8 : compSs (compS 24 (mkCtx (othK ++ fnGl fnK 8) n_minus (defScope (topK 15)))) (defBody (topK 15)) = some b_minus := by kernel_rfl
theorem sc_8 : FnScope n_minus ["f", "g"] (defScope (topK 15)) := ⟨by kernel_rfl, by kernel_rfl, by kernel_rfl, by decide +kernel, rfl, by decide +kernel, by decide +kernel⟩
theorem hc_9 : compSs (compS 24 (mkCtx (othK ++ fnGl fnK 9) n_joined (defScope (topK 16)))) (defBody (topK 16)) = some b_joined := by kernel_rfl
theorem sc_9 : FnScope n_joined ["forms"] (defScope (topK 16)) := ⟨by kernel_rfl, by kernel_rfl, by kernel_rfl, by decide +kernel, rfl, by decide +kernel, by decide +kernel⟩
theorem hc_10 : compSs (compS 24 (mkCtx (othK ++ fnGl fnK 10) n_constant (defScope (topK 17)))) (defBody (topK 17)) = some b_constant := by kernel_rfl
theorem sc_10 : FnScope n_constant ["f"] (defScope (topK 17)) := ⟨by kernel_rfl, by kernel_rfl, by kernel_rfl, by decide +kernel, rfl, by decide +kernel, by decide +kernel⟩
theorem hc_11 : compSs (compS 24 (mkCtx (othK ++ fnGl fnK 11) n_multiple (defScope (topK 18)))) (defBody (topK 18)) = some b_multiple := by kernel_rfl
theorem sc_11 : FnScope n_multiple ["f", "x"] (defScope (topK 18)) := ⟨by kernel_rfl, by kernel_rfl, by kernel_rfl, by decide +kernel, rfl, by decide +kernel, by decide +kernel⟩
theorem hc_12 : compSs (compS 24 (mkCtx (othK ++ fnGl fnK 12) n_variables (defScope (topK 19)))) (defBody (topK 19)) = some b_variables := by kernel_rfl
theorem sc_12 : FnScope n_variables ["f"] (defScope (topK 19)) := ⟨by kernel_rfl, by kernel_rfl, by kernel_rfl, by decide +kernel, rfl, by decide +kernel, by decide +kernel⟩
theorem hc_13 : compSs (compS 24 (mkCtx (othK ++ fnGl fnK 13) n_is_number (defScope (topK 20)))) (defBody (topK 20)) = some b_is_number := by kernel_rfl
theorem sc_13 : FnScope n_is_number ["f"] (defScope (topK 20)) := ⟨by kernel_rfl, by kernel_rfl, by kernel_rfl, by decide +kernel, rfl, by decide +kernel, by decide +kernel⟩
theorem hc_14 : compSs (compS 24 (mkCtx (othK ++ fnGl fnK 14) n_form_at (defScope (topK 21)))) (defBody (topK 21)) = some b_form_at := by kernel_rfl
theorem sc_14 : FnScope n_form_at ["f", "value"] (defScope (topK 21)) := ⟨by kernel_rfl, by kernel_rfl, by kernel_rfl, by decide +kernel, rfl, by decide +kernel, by decide +kernel⟩
theorem hc_15 : compSs (compS 24 (mkCtx (othK ++ fnGl fnK 15) n_put_variable (defScope (topK 22)))) (defBody (topK 22)) = some b_put_variable := by kernel_rfl
theorem sc_15 : FnScope n_put_variable ["f", "x", "g"] (defScope (topK 22)) := ⟨by kernel_rfl, by kernel_rfl, by kernel_rfl, by decide +kernel, rfl, by decide +kernel, by decide +kernel⟩
theorem hc_16 : compSs (compS 24 (mkCtx (othK ++ fnGl fnK 16) n_put_all (defScope (topK 23)))) (defBody (topK 23)) = some b_put_all := by kernel_rfl
theorem sc_16 : FnScope n_put_all ["f", "forms"] (defScope (topK 23)) := ⟨by kernel_rfl, by kernel_rfl, by kernel_rfl, by decide +kernel, rfl, by decide +kernel, by decide +kernel⟩
theorem hc_17 : compSs (compS 24 (mkCtx (othK ++ fnGl fnK 17) n_moved (defScope (topK 24)))) (defBody (topK 24)) = some b_moved := by kernel_rfl
theorem sc_17 : FnScope n_moved ["f", "start", "by"] (defScope (topK 24)) := ⟨by kernel_rfl, by kernel_rfl, by kernel_rfl, by decide +kernel, rfl, by decide +kernel, by decide +kernel⟩
theorem hc_18 : compSs (compS 24 (mkCtx (othK ++ fnGl fnK 18) n_same_order (defScope (topK 25)))) (defBody (topK 25)) = some b_same_order := by kernel_rfl
theorem sc_18 : FnScope n_same_order ["f", "g"] (defScope (topK 25)) := ⟨by kernel_rfl, by kernel_rfl, by kernel_rfl, by decide +kernel, rfl, by decide +kernel, by decide +kernel⟩
theorem hc_19 : compSs (compS 24 (mkCtx (othK ++ fnGl fnK 19) n__law_draws (defScope (topK 27)))) (defBody (topK 27)) = some b__law_draws := by kernel_rfl
theorem sc_19 : FnScope n__law_draws ["script"] (defScope (topK 27)) := ⟨by kernel_rfl, by kernel_rfl, by kernel_rfl, by decide +kernel, rfl, by decide +kernel, by decide +kernel⟩
theorem hc_20 : compSs (compS 24 (mkCtx (othK ++ fnGl fnK 20) n__law_pick (defScope (topK 28)))) (defBody (topK 28)) = some b__law_pick := by kernel_rfl
theorem sc_20 : FnScope n__law_pick ["drawn", "at", "many"] (defScope (topK 28)) := ⟨by kernel_rfl, by kernel_rfl, by kernel_rfl, by decide +kernel, rfl, by decide +kernel, by decide +kernel⟩
theorem hc_21 : compSs (compS 24 (mkCtx (othK ++ fnGl fnK 21) n__law_form_at (defScope (topK 29)))) (defBody (topK 29)) = some b__law_form_at := by kernel_rfl
theorem sc_21 : FnScope n__law_form_at ["form", "value"] (defScope (topK 29)) := ⟨by kernel_rfl, by kernel_rfl, by kernel_rfl, by decide +kernel, rfl, by decide +kernel, by decide +kernel⟩
theorem hc_22 : compSs (compS 24 (mkCtx (othK ++ fnGl fnK 22) n__law_whole (defScope (topK 30)))) (defBody (topK 30)) = some b__law_whole := by kernel_rfl
theorem sc_22 : FnScope n__law_whole ["thing"] (defScope (topK 30)) := ⟨by kernel_rfl, by kernel_rfl, by kernel_rfl, by decide +kernel, rfl, by decide +kernel, by decide +kernel⟩
theorem hc_23 : compSs (compS 24 (mkCtx (othK ++ fnGl fnK 23) n__law_number (defScope (topK 31)))) (defBody (topK 31)) = some b__law_number := by kernel_rfl
theorem sc_23 : FnScope n__law_number ["drawn", "at"] (defScope (topK 31)) := ⟨by kernel_rfl, by kernel_rfl, by kernel_rfl, by decide +kernel, rfl, by decide +kernel, by decide +kernel⟩
theorem hc_24 : compSs (compS 24 (mkCtx (othK ++ fnGl fnK 24) n__law_parts (defScope (topK 32)))) (defBody (topK 32)) = some b__law_parts := by kernel_rfl
theorem sc_24 : FnScope n__law_parts ["drawn", "at", "many"] (defScope (topK 32)) := ⟨by kernel_rfl, by kernel_rfl, by kernel_rfl, by decide +kernel, rfl, by decide +kernel, by decide +kernel⟩
theorem hc_25 : compSs (compS 24 (mkCtx (othK ++ fnGl fnK 25) n__law_trim (defScope (topK 33)))) (defBody (topK 33)) = some b__law_trim := by kernel_rfl
theorem sc_25 : FnScope n__law_trim ["parts"] (defScope (topK 33)) := ⟨by kernel_rfl, by kernel_rfl, by kernel_rfl, by decide +kernel, rfl, by decide +kernel, by decide +kernel⟩
theorem hc_26 : compSs (compS 24 (mkCtx (othK ++ fnGl fnK 26) n__law_sum (defScope (topK 34)))) (defBody (topK 34)) = some b__law_sum := by kernel_rfl
theorem sc_26 : FnScope n__law_sum ["f", "g", "times"] (defScope (topK 34)) := ⟨by kernel_rfl, by kernel_rfl, by kernel_rfl, by decide +kernel, rfl, by decide +kernel, by decide +kernel⟩
theorem hc_27 : compSs (compS 24 (mkCtx (othK ++ fnGl fnK 27) n__law_told (defScope (topK 35)))) (defBody (topK 35)) = some b__law_told := by kernel_rfl
theorem sc_27 : FnScope n__law_told ["thing", "due"] (defScope (topK 35)) := ⟨by kernel_rfl, by kernel_rfl, by kernel_rfl, by decide +kernel, rfl, by decide +kernel, by decide +kernel⟩
theorem hc_28 : compSs (compS 24 (mkCtx (othK ++ fnGl fnK 28) n__law_number_told (defScope (topK 36)))) (defBody (topK 36)) = some b__law_number_told := by kernel_rfl
theorem sc_28 : FnScope n__law_number_told ["thing", "due"] (defScope (topK 36)) := ⟨by kernel_rfl, by kernel_rfl, by kernel_rfl, by decide +kernel, rfl, by decide +kernel, by decide +kernel⟩
theorem hc_29 : compSs (compS 24 (mkCtx (othK ++ fnGl fnK 29) n__law_put (defScope (topK 37)))) (defBody (topK 37)) = some b__law_put := by kernel_rfl
theorem sc_29 : FnScope n__law_put ["f", "x", "g"] (defScope (topK 37)) := ⟨by kernel_rfl, by kernel_rfl, by kernel_rfl, by decide +kernel, rfl, by decide +kernel, by decide +kernel⟩
theorem hc_30 : compSs (compS 24 (mkCtx (othK ++ fnGl fnK 30) n__law_put_all (defScope (topK 38)))) (defBody (topK 38)) = some b__law_put_all := by kernel_rfl
theorem sc_30 : FnScope n__law_put_all ["f", "forms"] (defScope (topK 38)) := ⟨by kernel_rfl, by kernel_rfl, by kernel_rfl, by decide +kernel, rfl, by decide +kernel, by decide +kernel⟩
theorem hc_31 : compSs (compS 24 (mkCtx (othK ++ fnGl fnK 31) n__law_moved (defScope (topK 39)))) (defBody (topK 39)) = some b__law_moved := by kernel_rfl
theorem sc_31 : FnScope n__law_moved ["f", "start", "by"] (defScope (topK 39)) := ⟨by kernel_rfl, by kernel_rfl, by kernel_rfl, by decide +kernel, rfl, by decide +kernel, by decide +kernel⟩
theorem hc_32 : compSs (compS 24 (mkCtx (othK ++ fnGl fnK 32) n__law_order (defScope (topK 40)))) (defBody (topK 40)) = some b__law_order := by kernel_rfl
theorem sc_32 : FnScope n__law_order ["f", "g"] (defScope (topK 40)) := ⟨by kernel_rfl, by kernel_rfl, by kernel_rfl, by decide +kernel, rfl, by decide +kernel, by decide +kernel⟩
theorem hc_33 : compSs (compS 24 (mkCtx (othK ++ fnGl fnK 33) n__law_sums_hold (defScope (topK 41)))) (defBody (topK 41)) = some b__law_sums_hold := by kernel_rfl
theorem sc_33 : FnScope n__law_sums_hold ["f", "g", "h", "n", "value"] (defScope (topK 41)) := ⟨by kernel_rfl, by kernel_rfl, by kernel_rfl, by decide +kernel, rfl, by decide +kernel, by decide +kernel⟩
theorem hc_34 : compSs (compS 24 (mkCtx (othK ++ fnGl fnK 34) n__law_reads_hold (defScope (topK 42)))) (defBody (topK 42)) = some b__law_reads_hold := by kernel_rfl
theorem sc_34 : FnScope n__law_reads_hold ["f", "value"] (defScope (topK 42)) := ⟨by kernel_rfl, by kernel_rfl, by kernel_rfl, by decide +kernel, rfl, by decide +kernel, by decide +kernel⟩
theorem hc_35 : compSs (compS 24 (mkCtx (othK ++ fnGl fnK 35) n__law_puts_hold (defScope (topK 43)))) (defBody (topK 43)) = some b__law_puts_hold := by kernel_rfl
theorem sc_35 : FnScope n__law_puts_hold ["f", "g", "h", "x", "value"] (defScope (topK 43)) := ⟨by kernel_rfl, by kernel_rfl, by kernel_rfl, by decide +kernel, rfl, by decide +kernel, by decide +kernel⟩
theorem hc_36 : compSs (compS 24 (mkCtx (othK ++ fnGl fnK 36) n__law_moves_hold (defScope (topK 44)))) (defBody (topK 44)) = some b__law_moves_hold := by kernel_rfl
theorem sc_36 : FnScope n__law_moves_hold ["f", "start", "by", "value"] (defScope (topK 44)) := ⟨by kernel_rfl, by kernel_rfl, by kernel_rfl, by decide +kernel, rfl, by decide +kernel, by decide +kernel⟩
theorem hc_37 : compSs (compS 24 (mkCtx (othK ++ fnGl fnK 37) n__law_orders_hold (defScope (topK 45)))) (defBody (topK 45)) = some b__law_orders_hold := by kernel_rfl
theorem sc_37 : FnScope n__law_orders_hold ["f", "g"] (defScope (topK 45)) := ⟨by kernel_rfl, by kernel_rfl, by kernel_rfl, by decide +kernel, rfl, by decide +kernel, by decide +kernel⟩
theorem hc_38 : compSs (compS 24 (mkCtx (othK ++ fnGl fnK 38) n__law_made_hold (defScope (topK 46)))) (defBody (topK 46)) = some b__law_made_hold := by kernel_rfl
theorem sc_38 : FnScope n__law_made_hold ["parts", "n", "x"] (defScope (topK 46)) := ⟨by kernel_rfl, by kernel_rfl, by kernel_rfl, by decide +kernel, rfl, by decide +kernel, by decide +kernel⟩
theorem hc_39 : compSs (compS 24 (mkCtx (othK ++ fnGl fnK 39) n__law_forms_refused (defScope (topK 47)))) (defBody (topK 47)) = some b__law_forms_refused := by kernel_rfl
theorem sc_39 : FnScope n__law_forms_refused [] (defScope (topK 47)) := ⟨by kernel_rfl, by kernel_rfl, by kernel_rfl, by decide +kernel, rfl, by decide +kernel, by decide +kernel⟩
theorem hc_40 : compSs (compS 24 (mkCtx (othK ++ fnGl fnK 40) n__law_numbers_refused (defScope (topK 48)))) (defBody (topK 48)) = some b__law_numbers_refused := by kernel_rfl
theorem sc_40 : FnScope n__law_numbers_refused [] (defScope (topK 48)) := ⟨by kernel_rfl, by kernel_rfl, by kernel_rfl, by decide +kernel, rfl, by decide +kernel, by decide +kernel⟩
theorem hc_41 : compSs (compS 24 (mkCtx (othK ++ fnGl fnK 41) n__law_short_refused (defScope (topK 49)))) (defBody (topK 49)) = some b__law_short_refused := by kernel_rfl
theorem sc_41 : FnScope n__law_short_refused ["f", "value", "many"] (defScope (topK 49)) := ⟨by kernel_rfl, by kernel_rfl, by kernel_rfl, by decide +kernel, rfl, by decide +kernel, by decide +kernel⟩
theorem hc_42 : compSs (compS 24 (mkCtx (othK ++ fnGl fnK 42) n_law (defScope (topK 50)))) (defBody (topK 50)) = some b_law := by kernel_rfl
theorem sc_42 : FnScope n_law ["script"] (defScope (topK 50)) := ⟨by kernel_rfl, by kernel_rfl, by kernel_rfl, by decide +kernel, rfl, by decide +kernel, by decide +kernel⟩
end PD

set_option Elab.async false
set_option linter.all false
set_option maxRecDepth 100000
set_option maxHeartbeats 1000000
namespace PD
open PySem
local macro_rules | `(tactic| walk_at "pg") => `(tactic| first | assumption | exact get_last' _ _ | (refine get_app ?_; walk_at "pg") | fail)
local macro_rules | `(tactic| walk_at "pq") => `(tactic| first | assumption | (refine isSq.app ?_ _; walk_at "pq") | fail)
local macro_rules | `(tactic| walk_at "pst") => `(tactic| first | exact still_none | exact still_tup | exact still_kl | exact still_ref (by walk_at "pg") | exact still_q (by walk_at "pq") | (refine still_seq ?_; assumption) | fail)
local macro_rules | `(tactic| walk_at "pe") => `(tactic| first | exact Ext.refl _ | assumption | (refine Ext.trans ?_ (Ext.app _ _); walk_at "pe") | fail)
local macro_rules | `(tactic| walk_at "ps") => `(tactic| first | walk_at "pe" | rfl | ((try simp only [decide_eq_true_eq, decide_eq_false_iff_not, Bool.not_eq_true', Bool.not_eq_false', Bool.not_true, Bool.not_false, List.length_append, List.length_replicate, List.length_cons, List.length_nil, List.length_set, List.length_map, List.length_take, List.length_drop, List.length_range] at *); first | omega | (exfalso; omega)) | fail)
local macro_rules | `(tactic| walk_at "pd1") => `(tactic| first | ((with_reducible refine r_nil ?_); (try dsimp only)) | ((with_reducible refine r_ret ?_); (try dsimp only)) | ((with_reducible refine r_retN ?_); (try dsimp only)) | ((with_reducible refine r_brk ?_); (try dsimp only)) | ((with_reducible refine r_cnt ?_); (try dsimp only)) | ((with_reducible refine r_rse ?_); (try dsimp only)) | ((with_reducible refine r_pas ?_); (try dsimp only)) | ((with_reducible refine r_ex ?_); (try dsimp only)) | with_reducible refine r_seq ?_ | with_reducible refine r_asg ?_ | with_reducible refine r_ifs ?_ | with_reducible refine r_tr ?_ | with_reducible refine r_fr ?_ | ((with_reducible refine r_aug (j := ?j) ?g0 ?_); (case g0 => exact rfl)) | ((with_reducible refine r_var (d := ?d) ?g0 ?_); (case g0 => exact rfl)) | ((with_reducible refine r_call (g := ?g) ?g0 ?_); (case g0 => first | assumption | exact rfl)) | with_reducible refine r_cst ?_ | with_reducible refine r_cmp ?_ | with_reducible refine r_bin ?_ | with_reducible refine r_bi ?_ | with_reducible refine r_ix ?_ | with_reducible refine r_and ?_ | with_reducible refine r_or ?_ | with_reducible refine r_not ?_ | with_reducible refine r_ife ?_ | with_reducible refine r_neg ?_ | with_reducible refine r_sl ?_ | with_reducible refine r_tup ?_ | with_reducible refine r_lst ?_ | with_reducible refine r_lc ?_ | with_reducible refine r_chn ?_ | with_reducible refine r_bm ?_ | ((with_reducible refine r_oN ?_); (try dsimp only)) | ((with_reducible refine r_oS ?_); (try dsimp only)) | with_reducible refine r_esC ?_ | with_reducible refine r_esN ?_ | with_reducible refine r_sub ?_ | with_reducible refine r_tsC ?_ | with_reducible refine r_tsN ?_ | with_reducible refine r_iSeq ?_ | with_reducible refine r_iRng ?_ | with_reducible refine r_iEnum ?_ | with_reducible refine r_nm ?_ | ((with_reducible refine r_tp (xs := ?xs) ?g0 ?g1 ?_); (case g0 => exact rfl); (case g1 => exact rfl)) | with_reducible refine m_t0 ?_ | with_reducible refine m_t1 ?_ | with_reducible refine m_t2 ?_ | with_reducible refine m_l0 ?_ | with_reducible refine m_l1 ?_ | with_reducible refine m_l3 ?_ | with_reducible refine r_addI ?_ | with_reducible refine r_subI ?_ | with_reducible refine r_mulI ?_ ?_ | with_reducible refine r_modI ?_ ?_ | with_reducible refine a_tt ?_ ?_ | with_reducible refine r_fdivI ?_ ?_ ?_ | with_reducible refine x_t1 ?_ ?_ ?_ | with_reducible refine r_powI ?_ ?_ ?_ ?_ | ((with_reducible refine a_ll (f := ?f) (g := ?g) ?g0 ?g1 ?_ ?_); (case g0 => walk_at "pg"); (case g1 => walk_at "pg")) | ((with_reducible refine x_l1 (i := ?i) ?g0 ?_ ?_ ?_); (case g0 => walk_at "pg")) | (with_reducible refine r_on (show partD none = some none from rfl) ?_) | (with_reducible refine r_on (show partD (some (D.int _)) = some (some _) from rfl) ?_) | with_reducible refine s_tt ?_ ?_ | with_reducible refine s_tf ?_ ?_ | ((with_reducible refine s_lt (f := ?f) ?g0 ?_ ?_); (case g0 => walk_at "pg")) | ((with_reducible refine s_lf (f := ?f) ?g0 ?_ ?_); (case g0 => walk_at "pg")) | with_reducible refine n_t ?_ | with_reducible refine l_t ?_ | with_reducible refine t_t ?_ | with_reducible refine b_abs ?_ | with_reducible refine b_int ?_ | with_reducible refine b_intb ?_ | with_reducible refine b_max ?_ | with_reducible refine b_min ?_ | ((with_reducible refine n_l (f := ?f) ?g0 ?_); (case g0 => walk_at "pg")) | ((with_reducible refine l_l (f := ?f) ?g0 ?_); (case g0 => walk_at "pg")) | ((with_reducible refine t_l (f := ?f) ?g0 ?_); (case g0 => walk_at "pg")) | with_reducible refine i_tn ?_ ?_ | with_reducible refine i_t ?_ ?_ ?_ | ((with_reducible refine i_l (f := ?f) ?g0 ?_ ?_ ?_); (case g0 => walk_at "pg")) | with_reducible refine w_e ?_ ?_ ?_ | ((with_reducible refine w_l (f := ?f) ?g0 ?_ ?_ ?_); (case g0 => walk_at "pg")) | with_reducible refine p_e ?_ ?_ | ((with_reducible refine p_l (f := ?f) ?g0 ?_ ?_); (case g0 => walk_at "pg")) | with_reducible refine c_lt ?_ | with_reducible refine c_le ?_ | with_reducible refine c_gt ?_ | with_reducible refine c_ge ?_ | with_reducible refine c_eq ?_ | with_reducible refine c_ne ?_ | with_reducible refine c_is ?_ | with_reducible refine c_isn ?_ | ((with_reducible refine t_bl (fun hb => ?_) (fun hb => ?_)) <;> ((try (cases hb; done)); (try simp only [decide_eq_true_eq, decide_eq_false_iff_not, Bool.not_eq_true', Bool.not_eq_false'] at hb))) | ((with_reducible refine t_and (fun hb => ?_) (fun hb => ?_)) <;> ((try (cases hb; done)); (try simp only [decide_eq_true_eq, decide_eq_false_iff_not, Bool.not_eq_true', Bool.not_eq_false'] at hb))) | with_reducible refine t_nb ?_ | with_reducible refine t_neg ?_ | with_reducible refine on_if ?_ | with_reducible refine g_r1 ?_ ?_ ?_ | with_reducible refine g_r2 ?_ ?_ ?_ ?_ ?_ | with_reducible refine g_t ?_ | ((with_reducible refine g_l (f := ?f) ?g0 ?_); (case g0 => walk_at "pg")) | with_reducible refine o_val ?_ ?_ | ((with_reducible refine lc_end ?g0 ?_); (case g0 => first | exact rfl | skip)) | with_reducible refine o_exc ?_ ?_ ?_ | with_reducible refine o_new ?_ ?_ ?_ | with_reducible refine isi_i_int ?_ | with_reducible refine isi_i_bool ?_ | with_reducible refine isi_i_tup ?_ | with_reducible refine isi_i_tl ?_ | with_reducible refine isi_b_int ?_ | with_reducible refine isi_b_bool ?_ | with_reducible refine isi_b_tup ?_ | with_reducible refine isi_b_tl ?_ | with_reducible refine isi_s_int ?_ | with_reducible refine isi_s_bool ?_ | with_reducible refine isi_s_tup ?_ | with_reducible refine isi_s_tl ?_ | with_reducible refine isi_n_int ?_ | with_reducible refine isi_n_bool ?_ | with_reducible refine isi_n_tup ?_ | with_reducible refine isi_n_tl ?_ | with_reducible refine isi_t_int ?_ | with_reducible refine isi_t_bool ?_ | with_reducible refine isi_t_tup ?_ | with_reducible refine isi_t_tl ?_ | with_reducible refine isi_u_int ?_ | with_reducible refine isi_u_bool ?_ | with_reducible refine isi_u_tup ?_ | with_reducible refine isi_u_tl ?_ | ((with_reducible refine isi_l_int (xs := ?xs) ?g0 ?_); (case g0 => walk_at "pg")) | ((with_reducible refine isi_l_bool (xs := ?xs) ?g0 ?_); (case g0 => walk_at "pg")) | ((with_reducible refine isi_l_tup (xs := ?xs) ?g0 ?_); (case g0 => walk_at "pg")) | ((with_reducible refine isi_l_tl (xs := ?xs) ?g0 ?_); (case g0 => walk_at "pg")) | ((with_reducible refine isi_ty0 (a := ?a) ?g0 ?g1 ?_); (case g0 => assumption); (case g1 => decide)) | with_reducible refine n_tg ?_ | ((with_reducible refine n_lg (xs := ?xs) ?g0 ?_); (case g0 => walk_at "pg")) | ((with_reducible refine l_lg (xs := ?xs) ?g0 ?_); (case g0 => walk_at "pg")) | ((with_reducible refine i_tg (d := ?d) ?g0 ?_); (case g0 => exact rfl)) | ((with_reducible refine i_lg (xs := ?xs) (d := ?d) ?g0 ?g1 ?_); (case g0 => walk_at "pg"); (case g1 => exact rfl)) | ((with_reducible refine g_lg (xs := ?xs) ?g0 ?_); (case g0 => walk_at "pg")) | ((with_reducible refine m_tg ?g0 ?_); (case g0 => exact Nat.le_of_ble_eq_true rfl)) | ((with_reducible refine m_lg ?g0 ?_); (case g0 => exact Nat.le_of_ble_eq_true rfl)) | ((with_reducible refine n_q (f := ?f) ?g0 ?_); (case g0 => walk_at "pq")) | ((with_reducible refine l_q (f := ?f) ?g0 ?_); (case g0 => walk_at "pq")) | ((with_reducible refine t_q (f := ?f) ?g0 ?_); (case g0 => walk_at "pq")) | ((with_reducible refine i_q (f := ?f) ?g0 ?_ ?_ ?_); (case g0 => walk_at "pq")) | ((with_reducible refine g_q (f := ?f) ?g0 ?_); (case g0 => walk_at "pq")) | ((with_reducible refine isi_q_tl (f := ?f) ?g0 ?_); (case g0 => walk_at "pq")) | ((with_reducible refine st_and ?g0 ?_); (case g0 => walk_at "pst")) | fail)

/-! ### is_whole -/
def p_is_whole : List D → Store → Out → Prop := fun ds S o => ∃ d a, ds = [d] ∧ tyName S d = some a ∧ o = .val (.bl (a == "int"))
theorem whole_b (a : String) : (isTy a "int" = true → (!isTy a "bool") = (a == "int")) ∧ (isTy a "int" = false → false = (a == "int")) := by
  unfold isTy
  constructor
  · intro h
    simp at h ⊢
    rcases h with rfl | rfl <;> decide
  · intro h
    simp at h ⊢
    exact h.1
theorem vc_is_whole (M : Md) : ∀ ds S o, p_is_whole ds S o → wpSs (M.C (excO S o)) b_is_whole (retO S o) (startD n_is_whole ds) S := by
  rintro ds S o ⟨d, a, rfl, ht, rfl⟩
  simp only [b_is_whole, startD, List.map, List.length, List.replicate, Nat.reduceAdd, Nat.reduceSub, List.cons_append, List.nil_append]
  repeat' (walk_at "pd1")
  all_goals try (walk_at "ps")
  · rw [(whole_b a).1 (by assumption)]
  · rw [← (whole_b a).2 (by assumption)]
section
variable {S : Store} {Q : DQ} {E : EQ} {i : Int} {b : Bool} {x : Str} {xs : List D} {f : List Int} {n : Nat}
theorem u_w_i (h : Q (.bl true) S) : FnS p_is_whole [.int i] S Q E := ⟨_, ⟨_, _, rfl, rfl, rfl⟩, h⟩
theorem u_w_b (h : Q (.bl false) S) : FnS p_is_whole [.bl b] S Q E := ⟨_, ⟨_, _, rfl, rfl, rfl⟩, h⟩
theorem u_w_s (h : Q (.bl false) S) : FnS p_is_whole [.str x] S Q E := ⟨_, ⟨_, _, rfl, rfl, rfl⟩, h⟩
theorem u_w_n (h : Q (.bl false) S) : FnS p_is_whole [.non] S Q E := ⟨_, ⟨_, _, rfl, rfl, rfl⟩, h⟩
theorem u_w_t (h : Q (.bl false) S) : FnS p_is_whole [.tup xs] S Q E := ⟨_, ⟨_, _, rfl, rfl, rfl⟩, h⟩
theorem u_w_u (h : Q (.bl false) S) : FnS p_is_whole [tupI f] S Q E := ⟨_, ⟨_, _, rfl, rfl, rfl⟩, h⟩
theorem u_w_l (ha : S[n]? = some (.lst xs)) (h : Q (.bl false) S) : FnS p_is_whole [.ref n] S Q E := ⟨_, ⟨_, _, rfl, ty_l ha, rfl⟩, h⟩
theorem u_w_g {d : D} {a : String} (ha : tyName S d = some a) (h : Q (.bl (a == "int")) S) : FnS p_is_whole [d] S Q E := ⟨_, ⟨_, _, rfl, ha, rfl⟩, h⟩
end
local macro_rules | `(tactic| walk_at "pd1") => `(tactic| first | with_reducible refine u_w_i ?_ | with_reducible refine u_w_b ?_ | with_reducible refine u_w_s ?_ | with_reducible refine u_w_n ?_ | with_reducible refine u_w_t ?_ | with_reducible refine u_w_u ?_ | ((with_reducible refine u_w_l (xs := ?xs) ?g0 ?_); (case g0 => walk_at "pg")) | fail)
/-! ### _form_trimmed -/
def p__form_trimmed : List D → Store → Out → Prop := fun ds S o => ∃ d l, ds = [d] ∧ isSq S d l ∧ l.length ≤ 16000000 ∧ o = .val (tupI (trimL l))
theorem trim_step {l : List Int} {n : Nat} (h : 1 < n) (hz : cf l (n - 1) = 0) : lastNZ l n = lastNZ l (n - 1) := by
  obtain ⟨m, rfl⟩ : ∃ m, n = m + 2 := ⟨n - 2, by omega⟩
  rw [show m + 2 - 1 = m + 1 by omega] at hz ⊢
  show (if cf l (m + 1) = 0 then lastNZ l (m + 1) else m + 2) = _
  rw [if_pos hz]
theorem trim_stop {l : List Int} {n : Nat} (h : n ≤ 1 ∨ cf l (n - 1) ≠ 0) : lastNZ l n = n := by
  match n with
  | 0 => rfl
  | 1 => rfl
  | m + 2 =>
    rcases h with h | h
    · omega
    · rw [show m + 2 - 1 = m + 1 by omega] at h
      show (if cf l (m + 1) = 0 then lastNZ l (m + 1) else m + 2) = _
      rw [if_neg h]
theorem trim_end {l : List Int} {k : Nat} (hz : lastNZ l k = lastNZ l l.length) (h : k ≤ 1 ∨ cf l (k - 1) ≠ 0) : l.take k = trimL l := by
  unfold trimL
  rw [← hz, trim_stop h]
theorem vc__form_trimmed (M : Md) : ∀ ds S o, p__form_trimmed ds S o → wpSs (M.C (excO S o)) b__form_trimmed (retO S o) (startD n__form_trimmed ds) S := by
  rintro ds S o ⟨d, l, rfl, hq, hl, rfl⟩
  simp only [b__form_trimmed, startD, List.map, List.length, List.replicate, Nat.reduceAdd, Nat.reduceSub, List.cons_append, List.nil_append]
  repeat' (walk_at "pd1")
  refine r_wh (fun m e S' => ∃ z : Int, z = m ∧ e = [some d, some (.int z)] ∧ S' = S ∧ m ≤ l.length ∧ lastNZ l m = lastNZ l l.length) l.length ⟨_, rfl, rfl, rfl, Nat.le_refl _, rfl⟩ ?_
  rintro m e S' ⟨z, hz, rfl, rfl, hk, hz2⟩
  repeat' (walk_at "pd1")
  all_goals try (walk_at "ps")
  · rename_i h1 h2
    rw [show (z - 1).toNat = m - 1 by omega] at h2
    exact ⟨m - 1, by omega, _, by omega, rfl, rfl, by omega, (trim_step (by omega) h2).symm.trans hz2⟩
  · rename_i h1 h2
    rw [show (z - 1).toNat = m - 1 by omega] at h2
    rcases hq with rfl | ⟨n, rfl, hn⟩
    all_goals
      repeat' (walk_at "pd1")
      all_goals try (walk_at "ps")
      all_goals rw [show z.toNat = m by omega, trim_end hz2 (.inr h2)]
  · rcases hq with rfl | ⟨n, rfl, hn⟩
    all_goals
      repeat' (walk_at "pd1")
      all_goals try (walk_at "ps")
      all_goals rw [show z.toNat = m by omega, trim_end hz2 (.inl (by omega))]
section
variable {S : Store} {Q : DQ} {E : EQ} {l : List Int} {n : Nat}
theorem u_trim_t (hl : l.length ≤ 16000000) (h : Q (tupI (trimL l)) S) : FnS p__form_trimmed [tupI l] S Q E := ⟨_, ⟨_, _, rfl, .inl rfl, hl, rfl⟩, h⟩
theorem u_trim_l (ha : S[n]? = some (lstI l)) (hl : l.length ≤ 16000000) (h : Q (tupI (trimL l)) S) : FnS p__form_trimmed [.ref n] S Q E := ⟨_, ⟨_, _, rfl, .inr ⟨n, rfl, ha⟩, hl, rfl⟩, h⟩
end
local macro_rules | `(tactic| walk_at "pd1") => `(tactic| first | with_reducible refine u_trim_t ?_ ?_ | ((with_reducible refine u_trim_l (l := ?l) ?g0 ?_ ?_); (case g0 => walk_at "pg")) | fail)
/-! ### number_form -/
def eName (x : String) : Err := ⟨1, [("name", .str x)]⟩
def p_number_form : List D → Store → Out → Prop := fun ds S o => ∃ d a, ds = [d] ∧ tyName S d = some a ∧ ((∃ i, d = .int i ∧ o = .val (tupI [i])) ∨ (a ≠ "int" ∧ o = .exc (eName "c")))
theorem vc_number_form (M : Md) (h0 : M.sp 0 = FnS p_is_whole) : ∀ ds S o, p_number_form ds S o → wpSs (M.C (excO S o)) b_number_form (retO S o) (startD n_number_form ds) S := by
  rintro ds S o ⟨d, a, rfl, ht, (⟨i, rfl, rfl⟩ | ⟨hne, rfl⟩)⟩
  · simp only [b_number_form, startD, List.map, List.length, List.replicate, Nat.reduceAdd, Nat.reduceSub, List.cons_append, List.nil_append]
    repeat' (walk_at "pd1")
    all_goals try (walk_at "ps")
  · simp only [b_number_form, startD, List.map, List.length, List.replicate, Nat.reduceAdd, Nat.reduceSub, List.cons_append, List.nil_append]
    repeat' (walk_at "pd1")
    refine u_w_g ht ?_
    have e : (a == "int") = false := by simpa using hne
    rw [e]
    repeat' (walk_at "pd1")
    all_goals try (walk_at "ps")
section
variable {S : Store} {Q : DQ} {E : EQ} {i : Int} {d : D} {a : String}
theorem u_numF_i (h : Q (tupI [i]) S) : FnS p_number_form [.int i] S Q E := ⟨_, ⟨_, _, rfl, rfl, .inl ⟨i, rfl, rfl⟩⟩, h⟩
theorem u_numF_x (ht : tyName S d = some a) (hn : a ≠ "int") (h : E (eName "c") S) : FnS p_number_form [d] S Q E := ⟨_, ⟨_, _, rfl, ht, .inr ⟨hn, rfl⟩⟩, h⟩
end
local macro_rules | `(tactic| walk_at "pd1") => `(tactic| first | with_reducible refine u_numF_i ?_ | fail)
/-! ### form_of -/
def ePlace (k : Nat) (i : Int) : Err := ⟨k, [("place", .int i)]⟩
/-- no form can be made of it -/
def NoForm (S : Store) (d : D) : Prop := (∃ a, tyName S d = some a ∧ a ≠ "tuple" ∧ a ≠ "list") ∨
  ∃ a xs, tyName S d = some a ∧ (a = "tuple" ∨ a = "list") ∧ seqOf S d = some xs ∧ (xs = [] ∨ ∃ (pre : List Int) (x : D) (post : List D) (b : String), xs = pre.map .int ++ x :: post ∧ tyName S x = some b ∧ b ≠ "int")
def p_form_of : List D → Store → Out → Prop := fun ds S o => ∃ d, ds = [d] ∧ ((∃ l, isSq S d l ∧ l ≠ [] ∧ l.length ≤ 16000000 ∧ o = .val (tupI (trimL l))) ∨ (NoForm S d ∧ o = .exc (ePlace 2 0)))
theorem vc_form_of (M : Md) (h0 : M.sp 0 = FnS p_is_whole) (h2 : M.sp 2 = FnS p__form_trimmed) : ∀ ds S o, p_form_of ds S o → wpSs (M.C (excO S o)) b_form_of (retO S o) (startD n_form_of ds) S := by
  rintro ds S o ⟨d, rfl, (⟨l, hq, hne, hl, rfl⟩ | ⟨hno, rfl⟩)⟩
  · have hp := len_pos hne
    simp only [b_form_of, startD, List.map, List.length, List.replicate, Nat.reduceAdd, Nat.reduceSub, List.cons_append, List.nil_append]
    repeat' (walk_at "pd1")
    all_goals try (walk_at "ps")
    refine FR_ind (fun k e S' => S' = S ∧ ∃ v, e = [some d, v]) ⟨rfl, _, rfl⟩ ?_ ?_
    · rintro k x e S' hx ⟨rfl, v, rfl⟩
      obtain ⟨hk, rfl⟩ := map_get hx
      repeat' (walk_at "pd1")
      exact ⟨rfl, _, rfl⟩
    · rintro e S' ⟨rfl, v, rfl⟩
      rcases hq with rfl | ⟨n, rfl, hn⟩
      all_goals
        repeat' (walk_at "pd1")
        all_goals try (walk_at "ps")
  · rcases hno with ⟨a, ht, h1, h2⟩ | ⟨a, xs, ht, ha, hs, hx⟩
    · simp only [b_form_of, startD, List.map, List.length, List.replicate, Nat.reduceAdd, Nat.reduceSub, List.cons_append, List.nil_append]
      repeat' (walk_at "pd1")
      refine b_isi (isi_ty2 (k := false) ht ?_) ?_
      · simp [h1, h2]
      repeat' (walk_at "pd1")
      all_goals try (walk_at "ps")
    · simp only [b_form_of, startD, List.map, List.length, List.replicate, Nat.reduceAdd, Nat.reduceSub, List.cons_append, List.nil_append]
      repeat' (walk_at "pd1")
      refine b_isi (isi_ty2 (k := true) ht ?_) ?_
      · rcases ha with rfl | rfl <;> decide
      repeat' (walk_at "pd1")
      refine n_seq ht ha hs ?_
      repeat' (walk_at "pd1")
      all_goals try (walk_at "ps")
      rename_i hb
      refine g_seq hs (st_and (still_seq hs) ?_)
      rcases hx with rfl | ⟨pre, x, post, b, rfl, hxt, hb2⟩
      · exact absurd rfl hb
      refine FR_ind (fun k e S' => S' = S ∧ k ≤ pre.length ∧ ∃ v, e = [some d, v]) ⟨rfl, Nat.zero_le _, _, rfl⟩ ?_ ?_
      · rintro k y e S' hy ⟨rfl, hk, v, rfl⟩
        rcases Nat.lt_or_ge k pre.length with z | z
        · rw [List.getElem?_append_left (by rw [ml]; exact z), get_cf z] at hy
          cases hy
          repeat' (walk_at "pd1")
          exact ⟨rfl, z, _, rfl⟩
        · have e : k = (pre.map D.int).length := by rw [ml]; omega
          rw [List.getElem?_append_right (by omega), e, Nat.sub_self] at hy
          cases hy
          repeat' (walk_at "pd1")
          refine u_w_g hxt ?_
          have e2 : (b == "int") = false := by simpa using hb2
          rw [e2]
          repeat' (walk_at "pd1")
          all_goals try (walk_at "ps")
      · rintro e S' ⟨rfl, hk, v, rfl⟩
        rw [List.length_append, ml, List.length_cons] at hk
        omega
section
variable {S : Store} {Q : DQ} {E : EQ} {l : List Int} {n : Nat} {d : D}
theorem u_formOf (hq : isSq S d l) (hne : l ≠ []) (hl : l.length ≤ 16000000) (h : Q (tupI (trimL l)) S) : FnS p_form_of [d] S Q E := ⟨_, ⟨_, rfl, .inl ⟨l, hq, hne, hl, rfl⟩⟩, h⟩
theorem u_formOf_x (hn : NoForm S d) (h : E (ePlace 2 0) S) : FnS p_form_of [d] S Q E := ⟨_, ⟨_, rfl, .inr ⟨hn, rfl⟩⟩, h⟩
end
/-! ### variable_form -/
def p_variable_form : List D → Store → Out → Prop := fun ds S o => ∃ d t a b, ds = [d, t] ∧ tyName S d = some a ∧ tyName S t = some b ∧
  ((∃ (x : Nat) (i : Int), d = .int x ∧ x ≤ 999 ∧ t = .int i ∧ o = .val (tupI (trimL (List.replicate (x + 1) 0 ++ [i])))) ∨ ((a ≠ "int" ∨ ∃ i : Int, d = .int i ∧ (i < 0 ∨ 999 < i)) ∧ o = .exc (eName "x")) ∨
    ((∃ x : Nat, d = .int x ∧ x ≤ 999) ∧ b ≠ "int" ∧ o = .exc (eName "times")))
theorem vc_variable_form (M : Md) (h0 : M.sp 0 = FnS p_is_whole) (h2 : M.sp 2 = FnS p__form_trimmed) : ∀ ds S o, p_variable_form ds S o → wpSs (M.C (excO S o)) b_variable_form (retO S o) (startD n_variable_form ds) S := by
  rintro ds S o ⟨d, t, a, b, rfl, hd, ht, (⟨x, i, rfl, hx, rfl, rfl⟩ | ⟨hbad, rfl⟩ | ⟨⟨x, rfl, hx⟩, hb, rfl⟩)⟩
  · simp only [b_variable_form, startD, List.map, List.length, List.replicate, Nat.reduceAdd, Nat.reduceSub, List.cons_append, List.nil_append]
    repeat' (walk_at "pd1")
    all_goals try (walk_at "ps")
  · rcases hbad with hbad | ⟨i, rfl, hi⟩
    · simp only [b_variable_form, startD, List.map, List.length, List.replicate, Nat.reduceAdd, Nat.reduceSub, List.cons_append, List.nil_append]
      repeat' (walk_at "pd1")
      refine u_w_g hd ?_
      have e2 : (a == "int") = false := by simpa using hbad
      rw [e2]
      repeat' (walk_at "pd1")
      all_goals try (walk_at "ps")
    · simp only [b_variable_form, startD, List.map, List.length, List.replicate, Nat.reduceAdd, Nat.reduceSub, List.cons_append, List.nil_append]
      repeat' (walk_at "pd1")
      all_goals try (walk_at "ps")
  · simp only [b_variable_form, startD, List.map, List.length, List.replicate, Nat.reduceAdd, Nat.reduceSub, List.cons_append, List.nil_append]
    repeat' (walk_at "pd1")
    all_goals try (walk_at "ps")
    refine u_w_g ht ?_
    have e2 : (b == "int") = false := by simpa using hb
    rw [e2]
    repeat' (walk_at "pd1")
    all_goals try (walk_at "ps")
section
variable {S : Store} {Q : DQ} {E : EQ} {i : Int} {x n : Nat} {d t : D} {a b : String}
theorem u_varF {z : Int} (hz : z = x) (hx : x ≤ 999) (h : Q (tupI (trimL (List.replicate (x + 1) 0 ++ [i]))) S) : FnS (dflP [.int 1] p_variable_form) [.int z, .int i] S Q E := by
  subst hz
  exact ⟨_, .inl ⟨_, _, _, _, rfl, rfl, rfl, .inl ⟨x, i, rfl, hx, rfl, rfl⟩⟩, h⟩
theorem u_varF1 {z : Int} (hz : z = x) (hx : x ≤ 999) (h : Q (tupI (trimL (List.replicate (x + 1) 0 ++ [1]))) S) : FnS (dflP [.int 1] p_variable_form) [.int z] S Q E := by
  subst hz
  exact ⟨_, .inr ⟨_, _, _, _, rfl, rfl, rfl, .inl ⟨x, 1, rfl, hx, rfl, rfl⟩⟩, h⟩
theorem u_varF_x (hd : tyName S d = some a) (ht : tyName S t = some b) (hn : a ≠ "int" ∨ ∃ i : Int, d = .int i ∧ (i < 0 ∨ 999 < i)) (h : E (eName "x") S) : FnS (dflP [.int 1] p_variable_form) [d, t] S Q E := ⟨_, .inl ⟨_, _, _, _, rfl, hd, ht, .inr (.inl ⟨hn, rfl⟩)⟩, h⟩
theorem u_varF_t (ht : tyName S t = some b) (hx : x ≤ 999) (hn : b ≠ "int") (h : E (eName "times") S) : FnS (dflP [.int 1] p_variable_form) [.int x, t] S Q E := ⟨_, .inl ⟨_, _, _, _, rfl, rfl, ht, .inr (.inr ⟨⟨x, rfl, hx⟩, hn, rfl⟩)⟩, h⟩
end
/-! ### lengths, places -/
theorem len_is_whole : ∀ ds S o, p_is_whole ds S o → ds.length = 1 := by rintro _ S o ⟨d, a, rfl, _⟩; rfl
theorem len__form_trimmed : ∀ ds S o, p__form_trimmed ds S o → ds.length = 1 := by rintro _ S o ⟨d, a, rfl, _⟩; rfl
theorem len_number_form : ∀ ds S o, p_number_form ds S o → ds.length = 1 := by rintro _ S o ⟨d, a, rfl, _⟩; rfl
theorem len_form_of : ∀ ds S o, p_form_of ds S o → ds.length = 1 := by rintro _ S o ⟨d, rfl, _⟩; rfl
theorem len_variable_form : ∀ ds S o, p_variable_form ds S o → ds.length = 2 := by rintro _ S o ⟨d, t, a, b, rfl, _⟩; rfl
theorem ok_is_whole : ∀ ds S o, p_is_whole ds S o → refsLts S.length ds = true → WfS S → okO S.length o = true := by rintro _ S o ⟨d, a, rfl, _, rfl⟩ _ _; rfl
theorem ok__form_trimmed : ∀ ds S o, p__form_trimmed ds S o → refsLts S.length ds = true → WfS S → okO S.length o = true := by rintro _ S o ⟨d, a, rfl, _, _, rfl⟩ _ _; exact ok_t _ _
theorem ok_number_form : ∀ ds S o, p_number_form ds S o → refsLts S.length ds = true → WfS S → okO S.length o = true := by rintro _ S o ⟨d, a, rfl, _, (⟨i, rfl, rfl⟩ | ⟨_, rfl⟩)⟩ _ _ <;> rfl
theorem ok_form_of : ∀ ds S o, p_form_of ds S o → refsLts S.length ds = true → WfS S → okO S.length o = true := by
  rintro _ S o ⟨d, rfl, (⟨l, _, _, _, rfl⟩ | ⟨_, rfl⟩)⟩ _ _
  · exact ok_t _ _
  · rfl
theorem ok_variable_form : ∀ ds S o, p_variable_form ds S o → refsLts S.length ds = true → WfS S → okO S.length o = true := by
  rintro _ S o ⟨d, t, a, b, rfl, _, _, (⟨x, i, _, _, _, rfl⟩ | ⟨_, rfl⟩ | ⟨_, _, rfl⟩)⟩ _ _
  · exact ok_t _ _
  · rfl
  · rfl

end PD

set_option Elab.async false
set_option linter.all false
set_option maxRecDepth 100000
set_option maxHeartbeats 1000000
namespace PD
open PySem
local macro_rules | `(tactic| walk_at "pg") => `(tactic| first | assumption | exact get_last' _ _ | (refine get_app ?_; walk_at "pg") | fail)
local macro_rules | `(tactic| walk_at "pq") => `(tactic| first | assumption | (refine isSq.app ?_ _; walk_at "pq") | fail)
local macro_rules | `(tactic| walk_at "pst") => `(tactic| first | exact still_none | exact still_tup | exact still_kl | exact still_ref (by walk_at "pg") | exact still_q (by walk_at "pq") | (refine still_seq ?_; assumption) | fail)
local macro_rules | `(tactic| walk_at "pe") => `(tactic| first | exact Ext.refl _ | assumption | (refine Ext.trans ?_ (Ext.app _ _); walk_at "pe") | fail)
local macro_rules | `(tactic| walk_at "ps") => `(tactic| first | walk_at "pe" | rfl | ((try simp only [decide_eq_true_eq, decide_eq_false_iff_not, Bool.not_eq_true', Bool.not_eq_false', Bool.not_true, Bool.not_false, List.length_append, List.length_replicate, List.length_cons, List.length_nil, List.length_set, List.length_map, List.length_take, List.length_drop, List.length_range] at *); first | omega | (exfalso; omega)) | fail)
local macro_rules | `(tactic| walk_at "pd1") => `(tactic| first | ((with_reducible refine r_nil ?_); (try dsimp only)) | ((with_reducible refine r_ret ?_); (try dsimp only)) | ((with_reducible refine r_retN ?_); (try dsimp only)) | ((with_reducible refine r_brk ?_); (try dsimp only)) | ((with_reducible refine r_cnt ?_); (try dsimp only)) | ((with_reducible refine r_rse ?_); (try dsimp only)) | ((with_reducible refine r_pas ?_); (try dsimp only)) | ((with_reducible refine r_ex ?_); (try dsimp only)) | with_reducible refine r_seq ?_ | with_reducible refine r_asg ?_ | with_reducible refine r_ifs ?_ | with_reducible refine r_tr ?_ | with_reducible refine r_fr ?_ | ((with_reducible refine r_aug (j := ?j) ?g0 ?_); (case g0 => exact rfl)) | ((with_reducible refine r_var (d := ?d) ?g0 ?_); (case g0 => exact rfl)) | ((with_reducible refine r_call (g := ?g) ?g0 ?_); (case g0 => first | assumption | exact rfl)) | with_reducible refine r_cst ?_ | with_reducible refine r_cmp ?_ | with_reducible refine r_bin ?_ | with_reducible refine r_bi ?_ | with_reducible refine r_ix ?_ | with_reducible refine r_and ?_ | with_reducible refine r_or ?_ | with_reducible refine r_not ?_ | with_reducible refine r_ife ?_ | with_reducible refine r_neg ?_ | with_reducible refine r_sl ?_ | with_reducible refine r_tup ?_ | with_reducible refine r_lst ?_ | with_reducible refine r_lc ?_ | with_reducible refine r_chn ?_ | with_reducible refine r_bm ?_ | ((with_reducible refine r_oN ?_); (try dsimp only)) | ((with_reducible refine r_oS ?_); (try dsimp only)) | with_reducible refine r_esC ?_ | with_reducible refine r_esN ?_ | with_reducible refine r_sub ?_ | with_reducible refine r_tsC ?_ | with_reducible refine r_tsN ?_ | with_reducible refine r_iSeq ?_ | with_reducible refine r_iRng ?_ | with_reducible refine r_iEnum ?_ | with_reducible refine r_nm ?_ | ((with_reducible refine r_tp (xs := ?xs) ?g0 ?g1 ?_); (case g0 => exact rfl); (case g1 => exact rfl)) | with_reducible refine m_t0 ?_ | with_reducible refine m_t1 ?_ | with_reducible refine m_t2 ?_ | with_reducible refine m_l0 ?_ | with_reducible refine m_l1 ?_ | with_reducible refine m_l3 ?_ | with_reducible refine r_addI ?_ | with_reducible refine r_subI ?_ | with_reducible refine r_mulI ?_ ?_ | with_reducible refine r_modI ?_ ?_ | with_reducible refine a_tt ?_ ?_ | with_reducible refine r_fdivI ?_ ?_ ?_ | with_reducible refine x_t1 ?_ ?_ ?_ | with_reducible refine r_powI ?_ ?_ ?_ ?_ | ((with_reducible refine a_ll (f := ?f) (g := ?g) ?g0 ?g1 ?_ ?_); (case g0 => walk_at "pg"); (case g1 => walk_at "pg")) | ((with_reducible refine x_l1 (i := ?i) ?g0 ?_ ?_ ?_); (case g0 => walk_at "pg")) | (with_reducible refine r_on (show partD none = some none from rfl) ?_) | (with_reducible refine r_on (show partD (some (D.int _)) = some (some _) from rfl) ?_) | with_reducible refine s_tt ?_ ?_ | with_reducible refine s_tf ?_ ?_ | ((with_reducible refine s_lt (f := ?f) ?g0 ?_ ?_); (case g0 => walk_at "pg")) | ((with_reducible refine s_lf (f := ?f) ?g0 ?_ ?_); (case g0 => walk_at "pg")) | with_reducible refine n_t ?_ | with_reducible refine l_t ?_ | with_reducible refine t_t ?_ | with_reducible refine b_abs ?_ | with_reducible refine b_int ?_ | with_reducible refine b_intb ?_ | with_reducible refine b_max ?_ | with_reducible refine b_min ?_ | ((with_reducible refine n_l (f := ?f) ?g0 ?_); (case g0 => walk_at "pg")) | ((with_reducible refine l_l (f := ?f) ?g0 ?_); (case g0 => walk_at "pg")) | ((with_reducible refine t_l (f := ?f) ?g0 ?_); (case g0 => walk_at "pg")) | with_reducible refine i_tn ?_ ?_ | with_reducible refine i_t ?_ ?_ ?_ | ((with_reducible refine i_l (f := ?f) ?g0 ?_ ?_ ?_); (case g0 => walk_at "pg")) | with_reducible refine w_e ?_ ?_ ?_ | ((with_reducible refine w_l (f := ?f) ?g0 ?_ ?_ ?_); (case g0 => walk_at "pg")) | with_reducible refine p_e ?_ ?_ | ((with_reducible refine p_l (f := ?f) ?g0 ?_ ?_); (case g0 => walk_at "pg")) | with_reducible refine c_lt ?_ | with_reducible refine c_le ?_ | with_reducible refine c_gt ?_ | with_reducible refine c_ge ?_ | with_reducible refine c_eq ?_ | with_reducible refine c_ne ?_ | with_reducible refine c_is ?_ | with_reducible refine c_isn ?_ | ((with_reducible refine t_bl (fun hb => ?_) (fun hb => ?_)) <;> ((try (cases hb; done)); (try simp only [decide_eq_true_eq, decide_eq_false_iff_not, Bool.not_eq_true', Bool.not_eq_false'] at hb))) | ((with_reducible refine t_and (fun hb => ?_) (fun hb => ?_)) <;> ((try (cases hb; done)); (try simp only [decide_eq_true_eq, decide_eq_false_iff_not, Bool.not_eq_true', Bool.not_eq_false'] at hb))) | with_reducible refine t_nb ?_ | with_reducible refine t_neg ?_ | with_reducible refine on_if ?_ | with_reducible refine g_r1 ?_ ?_ ?_ | with_reducible refine g_r2 ?_ ?_ ?_ ?_ ?_ | with_reducible refine g_t ?_ | ((with_reducible refine g_l (f := ?f) ?g0 ?_); (case g0 => walk_at "pg")) | with_reducible refine o_val ?_ ?_ | ((with_reducible refine lc_end ?g0 ?_); (case g0 => first | exact rfl | skip)) | with_reducible refine o_exc ?_ ?_ ?_ | with_reducible refine o_new ?_ ?_ ?_ | with_reducible refine isi_i_int ?_ | with_reducible refine isi_i_bool ?_ | with_reducible refine isi_i_tup ?_ | with_reducible refine isi_i_tl ?_ | with_reducible refine isi_b_int ?_ | with_reducible refine isi_b_bool ?_ | with_reducible refine isi_b_tup ?_ | with_reducible refine isi_b_tl ?_ | with_reducible refine isi_s_int ?_ | with_reducible refine isi_s_bool ?_ | with_reducible refine isi_s_tup ?_ | with_reducible refine isi_s_tl ?_ | with_reducible refine isi_n_int ?_ | with_reducible refine isi_n_bool ?_ | with_reducible refine isi_n_tup ?_ | with_reducible refine isi_n_tl ?_ | with_reducible refine isi_t_int ?_ | with_reducible refine isi_t_bool ?_ | with_reducible refine isi_t_tup ?_ | with_reducible refine isi_t_tl ?_ | with_reducible refine isi_u_int ?_ | with_reducible refine isi_u_bool ?_ | with_reducible refine isi_u_tup ?_ | with_reducible refine isi_u_tl ?_ | ((with_reducible refine isi_l_int (xs := ?xs) ?g0 ?_); (case g0 => walk_at "pg")) | ((with_reducible refine isi_l_bool (xs := ?xs) ?g0 ?_); (case g0 => walk_at "pg")) | ((with_reducible refine isi_l_tup (xs := ?xs) ?g0 ?_); (case g0 => walk_at "pg")) | ((with_reducible refine isi_l_tl (xs := ?xs) ?g0 ?_); (case g0 => walk_at "pg")) | ((with_reducible refine isi_ty0 (a := ?a) ?g0 ?g1 ?_); (case g0 => assumption); (case g1 => decide)) | with_reducible refine n_tg ?_ | ((with_reducible refine n_lg (xs := ?xs) ?g0 ?_); (case g0 => walk_at "pg")) | ((with_reducible refine l_lg (xs := ?xs) ?g0 ?_); (case g0 => walk_at "pg")) | ((with_reducible refine i_tg (d := ?d) ?g0 ?_); (case g0 => exact rfl)) | ((with_reducible refine i_lg (xs := ?xs) (d := ?d) ?g0 ?g1 ?_); (case g0 => walk_at "pg"); (case g1 => exact rfl)) | ((with_reducible refine g_lg (xs := ?xs) ?g0 ?_); (case g0 => walk_at "pg")) | ((with_reducible refine m_tg ?g0 ?_); (case g0 => exact Nat.le_of_ble_eq_true rfl)) | ((with_reducible refine m_lg ?g0 ?_); (case g0 => exact Nat.le_of_ble_eq_true rfl)) | ((with_reducible refine n_q (f := ?f) ?g0 ?_); (case g0 => walk_at "pq")) | ((with_reducible refine l_q (f := ?f) ?g0 ?_); (case g0 => walk_at "pq")) | ((with_reducible refine t_q (f := ?f) ?g0 ?_); (case g0 => walk_at "pq")) | ((with_reducible refine i_q (f := ?f) ?g0 ?_ ?_ ?_); (case g0 => walk_at "pq")) | ((with_reducible refine g_q (f := ?f) ?g0 ?_); (case g0 => walk_at "pq")) | ((with_reducible refine isi_q_tl (f := ?f) ?g0 ?_); (case g0 => walk_at "pq")) | ((with_reducible refine st_and ?g0 ?_); (case g0 => walk_at "pst")) | fail)

local macro_rules | `(tactic| walk_at "pd1") => `(tactic| first | with_reducible refine u_w_i ?_ | with_reducible refine u_w_b ?_ | with_reducible refine u_w_s ?_ | with_reducible refine u_w_n ?_ | with_reducible refine u_w_t ?_ | with_reducible refine u_w_u ?_ | ((with_reducible refine u_w_l (xs := ?xs) ?g0 ?_); (case g0 => walk_at "pg")) | fail)
local macro_rules | `(tactic| walk_at "pd1") => `(tactic| first | with_reducible refine u_trim_t ?_ ?_ | ((with_reducible refine u_trim_l (l := ?l) ?g0 ?_ ?_); (case g0 => walk_at "pg")) | fail)
/-! ### plus -/
def p_plus : List D → Store → Out → Prop := fun ds S o => ∃ f g : List Int, ds = [tupI f, tupI g] ∧ f.length ≤ 16000000 ∧ g.length ≤ 16000000 ∧ o = .val (tupI (trimL (addL f g)))
/-- the longer one, the first k of the shorter one added -/
def addK (f g : List Int) (k : Nat) : List Int := (List.range f.length).map fun i => cf f i + if i < k then cf g i else 0
theorem addK_zero (f g : List Int) : addK f g 0 = f := by
  refine list_ext (by unfold addK; rw [List.length_map, List.length_range]) fun i => ?_
  unfold addK
  rw [cf_range]
  split
  · rw [if_neg (by omega)]; omega
  · rw [cf_out (by omega)]
theorem addK_len (f g : List Int) (k : Nat) : (addK f g k).length = f.length := by unfold addK; rw [List.length_map, List.length_range]
theorem cf_addK (f g : List Int) (k i : Nat) (hg : g.length ≤ f.length) : cf (addK f g k) i = cf f i + if i < k then cf g i else 0 := by
  unfold addK
  rw [cf_range]
  split
  · rfl
  · rw [cf_out (l := f) (by omega), cf_out (l := g) (by omega)]
    split <;> rfl
theorem addK_step (f g : List Int) (k : Nat) (hg : g.length ≤ f.length) (hk : k < g.length) : (addK f g k).set k (cf (addK f g k) k + cf g k) = addK f g (k + 1) := by
  refine list_ext (by rw [List.length_set, addK_len, addK_len]) fun i => ?_
  rw [cf_set, cf_addK _ _ _ _ hg, cf_addK _ _ _ _ hg, cf_addK _ _ _ _ hg, addK_len]
  by_cases e : k = i
  · subst e
    rw [if_pos ⟨rfl, by omega⟩, if_neg (by omega), if_pos (by omega)]
    omega
  · rw [if_neg (fun z => e z.1)]
    by_cases h : i < k
    · rw [if_pos h, if_pos (by omega)]
    · rw [if_neg h, if_neg (by omega)]
theorem addK_end (f g : List Int) (hg : g.length ≤ f.length) : ∀ i, cf (addK f g g.length) i = cf f i + cf g i := fun i => by
  rw [cf_addK _ _ _ _ hg]
  split
  · rfl
  · rw [cf_out (l := g) (by omega)]
theorem trim_eq {f g : List Int} (hl : f.length = g.length) (h : ∀ i, cf f i = cf g i) : trimL f = trimL g := by rw [list_ext hl h]
theorem vc_plus (M : Md) (h2 : M.sp 2 = FnS p__form_trimmed) : ∀ ds S o, p_plus ds S o → wpSs (M.C (excO S o)) b_plus (retO S o) (startD n_plus ds) S := by
  rintro ds S o ⟨f, g, rfl, hf, hg, rfl⟩
  have key : ∀ (lo sh : List Int) (rest : DEnv → DEnv), sh.length ≤ lo.length → lo.length ≤ 16000000 → trimL (addK lo sh sh.length) = trimL (addL f g) →
      FR (M.C (excO S (Out.val (tupI (trimL (addL f g)))))) (DT.tp (.cons (.nm 5) (.cons (.nm 6) .nil))) [DS.asg (DT.sub (DE.var 4) (DE.var 5)) (DE.bin BO.add ((DE.var 4).ix (DE.var 5)) (DE.var 6))] (some (tupI sh, sh.map D.int)) (enumL 0 (sh.map D.int))
        { nx := fun e' S' => wpSs (M.C (excO S (Out.val (tupI (trimL (addL f g)))))) [DS.ret (DO.some (DE.call 2 (DEs.cons (DE.var 4) DEs.nil)))] (retO S (Out.val (tupI (trimL (addL f g))))) e' S', rt := (retO S (Out.val (tupI (trimL (addL f g))))).rt, bk := (retO S (Out.val (tupI (trimL (addL f g))))).bk, ct := (retO S (Out.val (tupI (trimL (addL f g))))).ct }
        [some (tupI f), some (tupI g), some (tupI lo), some (tupI sh), some (.ref S.length), none, none] (S ++ [lstI lo]) := by
    intro lo sh _ hls hlo hr
    refine FR_ind (fun k e S' => S' = S ++ [lstI (addK lo sh k)] ∧ ∃ v w, e = [some (tupI f), some (tupI g), some (tupI lo), some (tupI sh), some (.ref S.length), v, w]) ⟨by rw [addK_zero], _, _, rfl⟩ ?_ ?_
    · rintro k d e S' hd ⟨rfl, v, w, rfl⟩
      obtain ⟨x, hx, rfl⟩ := enumL_get' hd
      obtain ⟨hk, rfl⟩ := map_get hx
      repeat' (walk_at "pd1")
      all_goals try (walk_at "ps")
      all_goals try (rw [addK_len]; omega)
      refine ⟨?_, _, _, rfl⟩
      have e : ((0 + k : Nat) : Int).toNat = k := by omega
      rw [e, addK_step lo sh k hls hk]
    · rintro e S' ⟨rfl, v, w, rfl⟩
      repeat' (walk_at "pd1")
      all_goals try (walk_at "ps")
      · rw [addK_len]; exact hlo
      · rw [enumL_len, ml, hr]
  simp only [b_plus, startD, List.map, List.length, List.replicate, Nat.reduceAdd, Nat.reduceSub, List.cons_append, List.nil_append]
  repeat' (walk_at "pd1")
  all_goals rename_i hb
  · refine key f g id (by omega) hf (trim_eq ?_ fun i => ?_)
    · rw [addK_len, addL_len]; omega
    · rw [addK_end _ _ (by omega), cf_addL]
  · refine key g f id (by omega) hg (trim_eq ?_ fun i => ?_)
    · rw [addK_len, addL_len]; omega
    · rw [addK_end _ _ (by omega), cf_addL]; omega
theorem u_plus {S : Store} {Q : DQ} {E : EQ} {f g : List Int} (hf : f.length ≤ 16000000) (hg : g.length ≤ 16000000) (h : Q (tupI (trimL (addL f g))) S) : FnS p_plus [tupI f, tupI g] S Q E := ⟨_, ⟨f, g, rfl, hf, hg, rfl⟩, h⟩
local macro_rules | `(tactic| walk_at "pd1") => `(tactic| first | with_reducible refine u_plus ?_ ?_ ?_ | fail)

end PD

set_option Elab.async false
set_option linter.all false
set_option maxRecDepth 100000
set_option maxHeartbeats 1000000
namespace PD
open PySem
local macro_rules | `(tactic| walk_at "pg") => `(tactic| first | assumption | exact get_last' _ _ | (refine get_app ?_; walk_at "pg") | fail)
local macro_rules | `(tactic| walk_at "pq") => `(tactic| first | assumption | (refine isSq.app ?_ _; walk_at "pq") | fail)
local macro_rules | `(tactic| walk_at "pst") => `(tactic| first | exact still_none | exact still_tup | exact still_kl | exact still_ref (by walk_at "pg") | exact still_q (by walk_at "pq") | (refine still_seq ?_; assumption) | fail)
local macro_rules | `(tactic| walk_at "pe") => `(tactic| first | exact Ext.refl _ | assumption | (refine Ext.trans ?_ (Ext.app _ _); walk_at "pe") | fail)
local macro_rules | `(tactic| walk_at "ps") => `(tactic| first | walk_at "pe" | rfl | ((try simp only [decide_eq_true_eq, decide_eq_false_iff_not, Bool.not_eq_true', Bool.not_eq_false', Bool.not_true, Bool.not_false, List.length_append, List.length_replicate, List.length_cons, List.length_nil, List.length_set, List.length_map, List.length_take, List.length_drop, List.length_range] at *); first | omega | (exfalso; omega)) | fail)
local macro_rules | `(tactic| walk_at "pd1") => `(tactic| first | ((with_reducible refine r_nil ?_); (try dsimp only)) | ((with_reducible refine r_ret ?_); (try dsimp only)) | ((with_reducible refine r_retN ?_); (try dsimp only)) | ((with_reducible refine r_brk ?_); (try dsimp only)) | ((with_reducible refine r_cnt ?_); (try dsimp only)) | ((with_reducible refine r_rse ?_); (try dsimp only)) | ((with_reducible refine r_pas ?_); (try dsimp only)) | ((with_reducible refine r_ex ?_); (try dsimp only)) | with_reducible refine r_seq ?_ | with_reducible refine r_asg ?_ | with_reducible refine r_ifs ?_ | with_reducible refine r_tr ?_ | with_reducible refine r_fr ?_ | ((with_reducible refine r_aug (j := ?j) ?g0 ?_); (case g0 => exact rfl)) | ((with_reducible refine r_var (d := ?d) ?g0 ?_); (case g0 => exact rfl)) | ((with_reducible refine r_call (g := ?g) ?g0 ?_); (case g0 => first | assumption | exact rfl)) | with_reducible refine r_cst ?_ | with_reducible refine r_cmp ?_ | with_reducible refine r_bin ?_ | with_reducible refine r_bi ?_ | with_reducible refine r_ix ?_ | with_reducible refine r_and ?_ | with_reducible refine r_or ?_ | with_reducible refine r_not ?_ | with_reducible refine r_ife ?_ | with_reducible refine r_neg ?_ | with_reducible refine r_sl ?_ | with_reducible refine r_tup ?_ | with_reducible refine r_lst ?_ | with_reducible refine r_lc ?_ | with_reducible refine r_chn ?_ | with_reducible refine r_bm ?_ | ((with_reducible refine r_oN ?_); (try dsimp only)) | ((with_reducible refine r_oS ?_); (try dsimp only)) | with_reducible refine r_esC ?_ | with_reducible refine r_esN ?_ | with_reducible refine r_sub ?_ | with_reducible refine r_tsC ?_ | with_reducible refine r_tsN ?_ | with_reducible refine r_iSeq ?_ | with_reducible refine r_iRng ?_ | with_reducible refine r_iEnum ?_ | with_reducible refine r_nm ?_ | ((with_reducible refine r_tp (xs := ?xs) ?g0 ?g1 ?_); (case g0 => exact rfl); (case g1 => exact rfl)) | with_reducible refine m_t0 ?_ | with_reducible refine m_t1 ?_ | with_reducible refine m_t2 ?_ | with_reducible refine m_l0 ?_ | with_reducible refine m_l1 ?_ | with_reducible refine m_l3 ?_ | with_reducible refine r_addI ?_ | with_reducible refine r_subI ?_ | with_reducible refine r_mulI ?_ ?_ | with_reducible refine r_modI ?_ ?_ | with_reducible refine a_tt ?_ ?_ | with_reducible refine r_fdivI ?_ ?_ ?_ | with_reducible refine x_t1 ?_ ?_ ?_ | with_reducible refine r_powI ?_ ?_ ?_ ?_ | ((with_reducible refine a_ll (f := ?f) (g := ?g) ?g0 ?g1 ?_ ?_); (case g0 => walk_at "pg"); (case g1 => walk_at "pg")) | ((with_reducible refine x_l1 (i := ?i) ?g0 ?_ ?_ ?_); (case g0 => walk_at "pg")) | (with_reducible refine r_on (show partD none = some none from rfl) ?_) | (with_reducible refine r_on (show partD (some (D.int _)) = some (some _) from rfl) ?_) | with_reducible refine s_tt ?_ ?_ | with_reducible refine s_tf ?_ ?_ | ((with_reducible refine s_lt (f := ?f) ?g0 ?_ ?_); (case g0 => walk_at "pg")) | ((with_reducible refine s_lf (f := ?f) ?g0 ?_ ?_); (case g0 => walk_at "pg")) | with_reducible refine n_t ?_ | with_reducible refine l_t ?_ | with_reducible refine t_t ?_ | with_reducible refine b_abs ?_ | with_reducible refine b_int ?_ | with_reducible refine b_intb ?_ | with_reducible refine b_max ?_ | with_reducible refine b_min ?_ | ((with_reducible refine n_l (f := ?f) ?g0 ?_); (case g0 => walk_at "pg")) | ((with_reducible refine l_l (f := ?f) ?g0 ?_); (case g0 => walk_at "pg")) | ((with_reducible refine t_l (f := ?f) ?g0 ?_); (case g0 => walk_at "pg")) | with_reducible refine i_tn ?_ ?_ | with_reducible refine i_t ?_ ?_ ?_ | ((with_reducible refine i_l (f := ?f) ?g0 ?_ ?_ ?_); (case g0 => walk_at "pg")) | with_reducible refine w_e ?_ ?_ ?_ | ((with_reducible refine w_l (f := ?f) ?g0 ?_ ?_ ?_); (case g0 => walk_at "pg")) | with_reducible refine p_e ?_ ?_ | ((with_reducible refine p_l (f := ?f) ?g0 ?_ ?_); (case g0 => walk_at "pg")) | with_reducible refine c_lt ?_ | with_reducible refine c_le ?_ | with_reducible refine c_gt ?_ | with_reducible refine c_ge ?_ | with_reducible refine c_eq ?_ | with_reducible refine c_ne ?_ | with_reducible refine c_is ?_ | with_reducible refine c_isn ?_ | ((with_reducible refine t_bl (fun hb => ?_) (fun hb => ?_)) <;> ((try (cases hb; done)); (try simp only [decide_eq_true_eq, decide_eq_false_iff_not, Bool.not_eq_true', Bool.not_eq_false'] at hb))) | ((with_reducible refine t_and (fun hb => ?_) (fun hb => ?_)) <;> ((try (cases hb; done)); (try simp only [decide_eq_true_eq, decide_eq_false_iff_not, Bool.not_eq_true', Bool.not_eq_false'] at hb))) | with_reducible refine t_nb ?_ | with_reducible refine t_neg ?_ | with_reducible refine on_if ?_ | with_reducible refine g_r1 ?_ ?_ ?_ | with_reducible refine g_r2 ?_ ?_ ?_ ?_ ?_ | with_reducible refine g_t ?_ | ((with_reducible refine g_l (f := ?f) ?g0 ?_); (case g0 => walk_at "pg")) | with_reducible refine o_val ?_ ?_ | ((with_reducible refine lc_end ?g0 ?_); (case g0 => first | exact rfl | skip)) | with_reducible refine o_exc ?_ ?_ ?_ | with_reducible refine o_new ?_ ?_ ?_ | with_reducible refine isi_i_int ?_ | with_reducible refine isi_i_bool ?_ | with_reducible refine isi_i_tup ?_ | with_reducible refine isi_i_tl ?_ | with_reducible refine isi_b_int ?_ | with_reducible refine isi_b_bool ?_ | with_reducible refine isi_b_tup ?_ | with_reducible refine isi_b_tl ?_ | with_reducible refine isi_s_int ?_ | with_reducible refine isi_s_bool ?_ | with_reducible refine isi_s_tup ?_ | with_reducible refine isi_s_tl ?_ | with_reducible refine isi_n_int ?_ | with_reducible refine isi_n_bool ?_ | with_reducible refine isi_n_tup ?_ | with_reducible refine isi_n_tl ?_ | with_reducible refine isi_t_int ?_ | with_reducible refine isi_t_bool ?_ | with_reducible refine isi_t_tup ?_ | with_reducible refine isi_t_tl ?_ | with_reducible refine isi_u_int ?_ | with_reducible refine isi_u_bool ?_ | with_reducible refine isi_u_tup ?_ | with_reducible refine isi_u_tl ?_ | ((with_reducible refine isi_l_int (xs := ?xs) ?g0 ?_); (case g0 => walk_at "pg")) | ((with_reducible refine isi_l_bool (xs := ?xs) ?g0 ?_); (case g0 => walk_at "pg")) | ((with_reducible refine isi_l_tup (xs := ?xs) ?g0 ?_); (case g0 => walk_at "pg")) | ((with_reducible refine isi_l_tl (xs := ?xs) ?g0 ?_); (case g0 => walk_at "pg")) | ((with_reducible refine isi_ty0 (a := ?a) ?g0 ?g1 ?_); (case g0 => assumption); (case g1 => decide)) | with_reducible refine n_tg ?_ | ((with_reducible refine n_lg (xs := ?xs) ?g0 ?_); (case g0 => walk_at "pg")) | ((with_reducible refine l_lg (xs := ?xs) ?g0 ?_); (case g0 => walk_at "pg")) | ((with_reducible refine i_tg (d := ?d) ?g0 ?_); (case g0 => exact rfl)) | ((with_reducible refine i_lg (xs := ?xs) (d := ?d) ?g0 ?g1 ?_); (case g0 => walk_at "pg"); (case g1 => exact rfl)) | ((with_reducible refine g_lg (xs := ?xs) ?g0 ?_); (case g0 => walk_at "pg")) | ((with_reducible refine m_tg ?g0 ?_); (case g0 => exact Nat.le_of_ble_eq_true rfl)) | ((with_reducible refine m_lg ?g0 ?_); (case g0 => exact Nat.le_of_ble_eq_true rfl)) | ((with_reducible refine n_q (f := ?f) ?g0 ?_); (case g0 => walk_at "pq")) | ((with_reducible refine l_q (f := ?f) ?g0 ?_); (case g0 => walk_at "pq")) | ((with_reducible refine t_q (f := ?f) ?g0 ?_); (case g0 => walk_at "pq")) | ((with_reducible refine i_q (f := ?f) ?g0 ?_ ?_ ?_); (case g0 => walk_at "pq")) | ((with_reducible refine g_q (f := ?f) ?g0 ?_); (case g0 => walk_at "pq")) | ((with_reducible refine isi_q_tl (f := ?f) ?g0 ?_); (case g0 => walk_at "pq")) | ((with_reducible refine st_and ?g0 ?_); (case g0 => walk_at "pst")) | fail)

local macro_rules | `(tactic| walk_at "pd1") => `(tactic| first | with_reducible refine u_w_i ?_ | with_reducible refine u_w_b ?_ | with_reducible refine u_w_s ?_ | with_reducible refine u_w_n ?_ | with_reducible refine u_w_t ?_ | with_reducible refine u_w_u ?_ | ((with_reducible refine u_w_l (xs := ?xs) ?g0 ?_); (case g0 => walk_at "pg")) | fail)
local macro_rules | `(tactic| walk_at "pd1") => `(tactic| first | with_reducible refine u_trim_t ?_ ?_ | ((with_reducible refine u_trim_l (l := ?l) ?g0 ?_ ?_); (case g0 => walk_at "pg")) | fail)
local macro_rules | `(tactic| walk_at "pd1") => `(tactic| first | with_reducible refine u_plus ?_ ?_ ?_ | fail)
/-! ### scaled -/
def p_scaled : List D → Store → Out → Prop := fun ds S o => ∃ (n : Int) (f : List Int), ds = [.int n, tupI f] ∧ f.length ≤ 16000000 ∧ Bz 2000 n ∧ Bd 2000 f ∧ o = .val (tupI (trimL (mulL n f)))
theorem mulL_range (n : Int) (f : List Int) : (List.range f.length).map (fun k => n * cf f k) = mulL n f := by
  refine list_ext (by rw [List.length_map, List.length_range, mulL_len]) fun i => ?_
  rw [cf_range, cf_mulL]
  split
  · rfl
  · rw [cf_out (by omega), Int.mul_zero]
theorem vc_scaled (M : Md) (h2 : M.sp 2 = FnS p__form_trimmed) : ∀ ds S o, p_scaled ds S o → wpSs (M.C (excO S o)) b_scaled (retO S o) (startD n_scaled ds) S := by
  rintro ds S o ⟨n, f, rfl, hf, hn, hb, rfl⟩
  simp only [b_scaled, startD, List.map, List.length, List.replicate, Nat.reduceAdd, Nat.reduceSub, List.cons_append, List.nil_append]
  repeat' (walk_at "pd1")
  refine lc_ix (fun k => some (.int (n * cf f k))) still_tup (by rw [ml]; exact big _ hf) (fun k d acc hd => ?_) ?_
  · obtain ⟨hk, rfl⟩ := map_get hd
    unfold lcStep
    repeat' (walk_at "pd1")
    · have h1 := log_lt hn
      have h2 := log_lt (hb k)
      omega
    · rfl
  · rw [filterMap_ints, ml, mulL_range]
    have hs : ((S ++ [SO.lst ((mulL n f).map D.int)]) : Store) = S ++ [lstI (mulL n f)] := rfl
    rw [hs]
    repeat' (walk_at "pd1")
    all_goals try (walk_at "ps")
    rw [mulL_len]
    exact hf
theorem u_scaled {S : Store} {Q : DQ} {E : EQ} {n : Int} {f : List Int} (hf : f.length ≤ 16000000) (hn : Bz 2000 n) (hb : Bd 2000 f) (h : Q (tupI (trimL (mulL n f))) S) : FnS p_scaled [.int n, tupI f] S Q E := ⟨_, ⟨n, f, rfl, hf, hn, hb, rfl⟩, h⟩
local macro_rules | `(tactic| walk_at "pd1") => `(tactic| first | with_reducible refine u_scaled ?_ ?_ ?_ ?_ | fail)
/-! ### minus -/
def p_minus : List D → Store → Out → Prop := fun ds S o => ∃ f g : List Int, ds = [tupI f, tupI g] ∧ f.length ≤ 16000000 ∧ g.length ≤ 16000000 ∧ Bd 2000 g ∧ o = .val (tupI (trimL (addL f (trimL (mulL (-1) g)))))
theorem vc_minus (M : Md) (h6 : M.sp 6 = FnS p_plus) (h7 : M.sp 7 = FnS p_scaled) : ∀ ds S o, p_minus ds S o → wpSs (M.C (excO S o)) b_minus (retO S o) (startD n_minus ds) S := by
  rintro ds S o ⟨f, g, rfl, hf, hg, hb, rfl⟩
  simp only [b_minus, startD, List.map, List.length, List.replicate, Nat.reduceAdd, Nat.reduceSub, List.cons_append, List.nil_append]
  repeat' (walk_at "pd1")
  all_goals try (walk_at "ps")
  all_goals first | exact hb | exact Nat.le_trans (trim_le _) (by rw [mulL_len]; exact hg) | exact Bz.sm (by decide) (by decide)
theorem u_minus {S : Store} {Q : DQ} {E : EQ} {f g : List Int} (hf : f.length ≤ 16000000) (hg : g.length ≤ 16000000) (hb : Bd 2000 g) (h : Q (tupI (trimL (addL f (trimL (mulL (-1) g))))) S) : FnS p_minus [tupI f, tupI g] S Q E := ⟨_, ⟨f, g, rfl, hf, hg, hb, rfl⟩, h⟩
/-! ### joined -/
def joinL (fs : List (List Int)) : List Int := fs.foldl (fun t f => trimL (addL t f)) [0]
def p_joined : List D → Store → Out → Prop := fun ds S o => ∃ fs : List (List Int), ds = [.tup (fs.map tupI)] ∧ (∀ k, (joinL (fs.take k)).length ≤ 16000000) ∧ (∀ f ∈ fs, f.length ≤ 16000000) ∧ o = .val (tupI (joinL fs))
theorem vc_joined (M : Md) (h6 : M.sp 6 = FnS p_plus) : ∀ ds S o, p_joined ds S o → wpSs (M.C (excO S o)) b_joined (retO S o) (startD n_joined ds) S := by
  rintro ds S o ⟨fs, rfl, hl, hf, rfl⟩
  simp only [b_joined, startD, List.map, List.length, List.replicate, Nat.reduceAdd, Nat.reduceSub, List.cons_append, List.nil_append]
  repeat' (walk_at "pd1")
  refine g_seq rfl (st_and still_tup ?_)
  refine FR_ind (fun k e S' => S' = S ∧ ∃ v, e = [some (.tup (fs.map tupI)), some (tupI (joinL (fs.take k))), v]) ⟨rfl, _, rfl⟩ ?_ ?_
  · rintro k d e S' hd ⟨rfl, v, rfl⟩
    rw [List.getElem?_map] at hd
    obtain ⟨f, hf2, rfl⟩ := Option.map_eq_some_iff.mp hd
    repeat' (walk_at "pd1")
    · exact hl k
    · exact hf f (List.mem_of_getElem? hf2)
    · repeat' (walk_at "pd1")
      refine ⟨rfl, some (tupI f), ?_⟩
      have e : joinL (fs.take (k + 1)) = trimL (addL (joinL (fs.take k)) f) := by
        unfold joinL
        rw [List.take_add_one, hf2, List.foldl_append]
        rfl
      rw [e]
      rfl
  · rintro e S' ⟨rfl, v, rfl⟩
    rw [List.length_map, List.take_length]
    repeat' (walk_at "pd1")
    all_goals try (walk_at "ps")
/-! ### constant, multiple, is_number -/
def p_constant : List D → Store → Out → Prop := fun ds S o => ∃ f : List Int, ds = [tupI f] ∧ f ≠ [] ∧ o = .val (.int (cf f 0))
theorem vc_constant (M : Md) : ∀ ds S o, p_constant ds S o → wpSs (M.C (excO S o)) b_constant (retO S o) (startD n_constant ds) S := by
  rintro ds S o ⟨f, rfl, hf, rfl⟩
  have := len_pos hf
  simp only [b_constant, startD, List.map, List.length, List.replicate, Nat.reduceAdd, Nat.reduceSub, List.cons_append, List.nil_append]
  repeat' (walk_at "pd1")
  all_goals try (walk_at "ps")
theorem u_constant {S : Store} {Q : DQ} {E : EQ} {f : List Int} (hf : f ≠ []) (h : Q (.int (cf f 0)) S) : FnS p_constant [tupI f] S Q E := ⟨_, ⟨f, rfl, hf, rfl⟩, h⟩
def p_multiple : List D → Store → Out → Prop := fun ds S o => ∃ (f : List Int) (z : Int) (x : Nat), ds = [tupI f, .int z] ∧ z = x ∧ o = .val (.int (cf f (x + 1)))
theorem vc_multiple (M : Md) : ∀ ds S o, p_multiple ds S o → wpSs (M.C (excO S o)) b_multiple (retO S o) (startD n_multiple ds) S := by
  rintro ds S o ⟨f, z, x, rfl, hz, rfl⟩
  simp only [b_multiple, startD, List.map, List.length, List.replicate, Nat.reduceAdd, Nat.reduceSub, List.cons_append, List.nil_append]
  repeat' (walk_at "pd1")
  all_goals try (walk_at "ps")
  · rw [show (z + 1).toNat = x + 1 by omega]
  · rw [cf_out (by omega)]
theorem u_multiple {S : Store} {Q : DQ} {E : EQ} {f : List Int} {z : Int} (hz : 0 ≤ z) (h : Q (.int (cf f (z.toNat + 1))) S) : FnS p_multiple [tupI f, .int z] S Q E := ⟨_, ⟨f, z, z.toNat, rfl, by omega, rfl⟩, h⟩
local macro_rules | `(tactic| walk_at "pd1") => `(tactic| first | with_reducible refine u_multiple ?_ ?_ | fail)
def p_is_number : List D → Store → Out → Prop := fun ds S o => ∃ f : List Int, ds = [tupI f] ∧ o = .val (.bl (decide (f.length = 1)))
theorem vc_is_number (M : Md) : ∀ ds S o, p_is_number ds S o → wpSs (M.C (excO S o)) b_is_number (retO S o) (startD n_is_number ds) S := by
  rintro ds S o ⟨f, rfl, rfl⟩
  simp only [b_is_number, startD, List.map, List.length, List.replicate, Nat.reduceAdd, Nat.reduceSub, List.cons_append, List.nil_append]
  repeat' (walk_at "pd1")
  all_goals try (walk_at "ps")
  congr 1
  exact decide_eq_decide.mpr (by omega)

end PD

set_option Elab.async false
set_option linter.all false
set_option maxRecDepth 100000
set_option maxHeartbeats 1000000
namespace PD
open PySem
local macro_rules | `(tactic| walk_at "pg") => `(tactic| first | assumption | exact get_last' _ _ | (refine get_app ?_; walk_at "pg") | fail)
local macro_rules | `(tactic| walk_at "pq") => `(tactic| first | assumption | (refine isSq.app ?_ _; walk_at "pq") | fail)
local macro_rules | `(tactic| walk_at "pst") => `(tactic| first | exact still_none | exact still_tup | exact still_kl | exact still_ref (by walk_at "pg") | exact still_q (by walk_at "pq") | (refine still_seq ?_; assumption) | fail)
local macro_rules | `(tactic| walk_at "pe") => `(tactic| first | exact Ext.refl _ | assumption | (refine Ext.trans ?_ (Ext.app _ _); walk_at "pe") | fail)
local macro_rules | `(tactic| walk_at "ps") => `(tactic| first | walk_at "pe" | rfl | ((try simp only [decide_eq_true_eq, decide_eq_false_iff_not, Bool.not_eq_true', Bool.not_eq_false', Bool.not_true, Bool.not_false, List.length_append, List.length_replicate, List.length_cons, List.length_nil, List.length_set, List.length_map, List.length_take, List.length_drop, List.length_range] at *); first | omega | (exfalso; omega)) | fail)
local macro_rules | `(tactic| walk_at "pd1") => `(tactic| first | ((with_reducible refine r_nil ?_); (try dsimp only)) | ((with_reducible refine r_ret ?_); (try dsimp only)) | ((with_reducible refine r_retN ?_); (try dsimp only)) | ((with_reducible refine r_brk ?_); (try dsimp only)) | ((with_reducible refine r_cnt ?_); (try dsimp only)) | ((with_reducible refine r_rse ?_); (try dsimp only)) | ((with_reducible refine r_pas ?_); (try dsimp only)) | ((with_reducible refine r_ex ?_); (try dsimp only)) | with_reducible refine r_seq ?_ | with_reducible refine r_asg ?_ | with_reducible refine r_ifs ?_ | with_reducible refine r_tr ?_ | with_reducible refine r_fr ?_ | ((with_reducible refine r_aug (j := ?j) ?g0 ?_); (case g0 => exact rfl)) | ((with_reducible refine r_var (d := ?d) ?g0 ?_); (case g0 => exact rfl)) | ((with_reducible refine r_call (g := ?g) ?g0 ?_); (case g0 => first | assumption | exact rfl)) | with_reducible refine r_cst ?_ | with_reducible refine r_cmp ?_ | with_reducible refine r_bin ?_ | with_reducible refine r_bi ?_ | with_reducible refine r_ix ?_ | with_reducible refine r_and ?_ | with_reducible refine r_or ?_ | with_reducible refine r_not ?_ | with_reducible refine r_ife ?_ | with_reducible refine r_neg ?_ | with_reducible refine r_sl ?_ | with_reducible refine r_tup ?_ | with_reducible refine r_lst ?_ | with_reducible refine r_lc ?_ | with_reducible refine r_chn ?_ | with_reducible refine r_bm ?_ | ((with_reducible refine r_oN ?_); (try dsimp only)) | ((with_reducible refine r_oS ?_); (try dsimp only)) | with_reducible refine r_esC ?_ | with_reducible refine r_esN ?_ | with_reducible refine r_sub ?_ | with_reducible refine r_tsC ?_ | with_reducible refine r_tsN ?_ | with_reducible refine r_iSeq ?_ | with_reducible refine r_iRng ?_ | with_reducible refine r_iEnum ?_ | with_reducible refine r_nm ?_ | ((with_reducible refine r_tp (xs := ?xs) ?g0 ?g1 ?_); (case g0 => exact rfl); (case g1 => exact rfl)) | with_reducible refine m_t0 ?_ | with_reducible refine m_t1 ?_ | with_reducible refine m_t2 ?_ | with_reducible refine m_l0 ?_ | with_reducible refine m_l1 ?_ | with_reducible refine m_l3 ?_ | with_reducible refine r_addI ?_ | with_reducible refine r_subI ?_ | with_reducible refine r_mulI ?_ ?_ | with_reducible refine r_modI ?_ ?_ | with_reducible refine a_tt ?_ ?_ | with_reducible refine r_fdivI ?_ ?_ ?_ | with_reducible refine x_t1 ?_ ?_ ?_ | with_reducible refine r_powI ?_ ?_ ?_ ?_ | ((with_reducible refine a_ll (f := ?f) (g := ?g) ?g0 ?g1 ?_ ?_); (case g0 => walk_at "pg"); (case g1 => walk_at "pg")) | ((with_reducible refine x_l1 (i := ?i) ?g0 ?_ ?_ ?_); (case g0 => walk_at "pg")) | (with_reducible refine r_on (show partD none = some none from rfl) ?_) | (with_reducible refine r_on (show partD (some (D.int _)) = some (some _) from rfl) ?_) | with_reducible refine s_tt ?_ ?_ | with_reducible refine s_tf ?_ ?_ | ((with_reducible refine s_lt (f := ?f) ?g0 ?_ ?_); (case g0 => walk_at "pg")) | ((with_reducible refine s_lf (f := ?f) ?g0 ?_ ?_); (case g0 => walk_at "pg")) | with_reducible refine n_t ?_ | with_reducible refine l_t ?_ | with_reducible refine t_t ?_ | with_reducible refine b_abs ?_ | with_reducible refine b_int ?_ | with_reducible refine b_intb ?_ | with_reducible refine b_max ?_ | with_reducible refine b_min ?_ | ((with_reducible refine n_l (f := ?f) ?g0 ?_); (case g0 => walk_at "pg")) | ((with_reducible refine l_l (f := ?f) ?g0 ?_); (case g0 => walk_at "pg")) | ((with_reducible refine t_l (f := ?f) ?g0 ?_); (case g0 => walk_at "pg")) | with_reducible refine i_tn ?_ ?_ | with_reducible refine i_t ?_ ?_ ?_ | ((with_reducible refine i_l (f := ?f) ?g0 ?_ ?_ ?_); (case g0 => walk_at "pg")) | with_reducible refine w_e ?_ ?_ ?_ | ((with_reducible refine w_l (f := ?f) ?g0 ?_ ?_ ?_); (case g0 => walk_at "pg")) | with_reducible refine p_e ?_ ?_ | ((with_reducible refine p_l (f := ?f) ?g0 ?_ ?_); (case g0 => walk_at "pg")) | with_reducible refine c_lt ?_ | with_reducible refine c_le ?_ | with_reducible refine c_gt ?_ | with_reducible refine c_ge ?_ | with_reducible refine c_eq ?_ | with_reducible refine c_ne ?_ | with_reducible refine c_is ?_ | with_reducible refine c_isn ?_ | ((with_reducible refine t_bl (fun hb => ?_) (fun hb => ?_)) <;> ((try (cases hb; done)); (try simp only [decide_eq_true_eq, decide_eq_false_iff_not, Bool.not_eq_true', Bool.not_eq_false'] at hb))) | ((with_reducible refine t_and (fun hb => ?_) (fun hb => ?_)) <;> ((try (cases hb; done)); (try simp only [decide_eq_true_eq, decide_eq_false_iff_not, Bool.not_eq_true', Bool.not_eq_false'] at hb))) | with_reducible refine t_nb ?_ | with_reducible refine t_neg ?_ | with_reducible refine on_if ?_ | with_reducible refine g_r1 ?_ ?_ ?_ | with_reducible refine g_r2 ?_ ?_ ?_ ?_ ?_ | with_reducible refine g_t ?_ | ((with_reducible refine g_l (f := ?f) ?g0 ?_); (case g0 => walk_at "pg")) | with_reducible refine o_val ?_ ?_ | ((with_reducible refine lc_end ?g0 ?_); (case g0 => first | exact rfl | skip)) | with_reducible refine o_exc ?_ ?_ ?_ | with_reducible refine o_new ?_ ?_ ?_ | with_reducible refine isi_i_int ?_ | with_reducible refine isi_i_bool ?_ | with_reducible refine isi_i_tup ?_ | with_reducible refine isi_i_tl ?_ | with_reducible refine isi_b_int ?_ | with_reducible refine isi_b_bool ?_ | with_reducible refine isi_b_tup ?_ | with_reducible refine isi_b_tl ?_ | with_reducible refine isi_s_int ?_ | with_reducible refine isi_s_bool ?_ | with_reducible refine isi_s_tup ?_ | with_reducible refine isi_s_tl ?_ | with_reducible refine isi_n_int ?_ | with_reducible refine isi_n_bool ?_ | with_reducible refine isi_n_tup ?_ | with_reducible refine isi_n_tl ?_ | with_reducible refine isi_t_int ?_ | with_reducible refine isi_t_bool ?_ | with_reducible refine isi_t_tup ?_ | with_reducible refine isi_t_tl ?_ | with_reducible refine isi_u_int ?_ | with_reducible refine isi_u_bool ?_ | with_reducible refine isi_u_tup ?_ | with_reducible refine isi_u_tl ?_ | ((with_reducible refine isi_l_int (xs := ?xs) ?g0 ?_); (case g0 => walk_at "pg")) | ((with_reducible refine isi_l_bool (xs := ?xs) ?g0 ?_); (case g0 => walk_at "pg")) | ((with_reducible refine isi_l_tup (xs := ?xs) ?g0 ?_); (case g0 => walk_at "pg")) | ((with_reducible refine isi_l_tl (xs := ?xs) ?g0 ?_); (case g0 => walk_at "pg")) | ((with_reducible refine isi_ty0 (a := ?a) ?g0 ?g1 ?_); (case g0 => assumption); (case g1 => decide)) | with_reducible refine n_tg ?_ | ((with_reducible refine n_lg (xs := ?xs) ?g0 ?_); (case g0 => walk_at "pg")) | ((with_reducible refine l_lg (xs := ?xs) ?g0 ?_); (case g0 => walk_at "pg")) | ((with_reducible refine i_tg (d := ?d) ?g0 ?_); (case g0 => exact rfl)) | ((with_reducible refine i_lg (xs := ?xs) (d := ?d) ?g0 ?g1 ?_); (case g0 => walk_at "pg"); (case g1 => exact rfl)) | ((with_reducible refine g_lg (xs := ?xs) ?g0 ?_); (case g0 => walk_at "pg")) | ((with_reducible refine m_tg ?g0 ?_); (case g0 => exact Nat.le_of_ble_eq_true rfl)) | ((with_reducible refine m_lg ?g0 ?_); (case g0 => exact Nat.le_of_ble_eq_true rfl)) | ((with_reducible refine n_q (f := ?f) ?g0 ?_); (case g0 => walk_at "pq")) | ((with_reducible refine l_q (f := ?f) ?g0 ?_); (case g0 => walk_at "pq")) | ((with_reducible refine t_q (f := ?f) ?g0 ?_); (case g0 => walk_at "pq")) | ((with_reducible refine i_q (f := ?f) ?g0 ?_ ?_ ?_); (case g0 => walk_at "pq")) | ((with_reducible refine g_q (f := ?f) ?g0 ?_); (case g0 => walk_at "pq")) | ((with_reducible refine isi_q_tl (f := ?f) ?g0 ?_); (case g0 => walk_at "pq")) | ((with_reducible refine st_and ?g0 ?_); (case g0 => walk_at "pst")) | fail)

local macro_rules | `(tactic| walk_at "pd1") => `(tactic| first | with_reducible refine u_w_i ?_ | with_reducible refine u_w_b ?_ | with_reducible refine u_w_s ?_ | with_reducible refine u_w_n ?_ | with_reducible refine u_w_t ?_ | with_reducible refine u_w_u ?_ | ((with_reducible refine u_w_l (xs := ?xs) ?g0 ?_); (case g0 => walk_at "pg")) | fail)
local macro_rules | `(tactic| walk_at "pd1") => `(tactic| first | with_reducible refine u_trim_t ?_ ?_ | ((with_reducible refine u_trim_l (l := ?l) ?g0 ?_ ?_); (case g0 => walk_at "pg")) | fail)
local macro_rules | `(tactic| walk_at "pd1") => `(tactic| first | with_reducible refine u_plus ?_ ?_ ?_ | fail)
local macro_rules | `(tactic| walk_at "pd1") => `(tactic| first | with_reducible refine u_scaled ?_ ?_ ?_ ?_ | fail)
local macro_rules | `(tactic| walk_at "pd1") => `(tactic| first | with_reducible refine u_multiple ?_ ?_ | fail)

/-! ### variables -/
def varsN (f : List Int) : List Nat := (List.range (f.length - 1)).filter fun x => !decide (cf f (x + 1) = 0)
def varsL (f : List Int) : List Int := (varsN f).map fun (x : Nat) => (x : Int)
def p_variables : List D → Store → Out → Prop := fun ds S o => ∃ f : List Int, ds = [tupI f] ∧ f ≠ [] ∧ f.length ≤ 16000000 ∧ o = .val (tupI (varsL f))
theorem vc_variables (M : Md) : ∀ ds S o, p_variables ds S o → wpSs (M.C (excO S o)) b_variables (retO S o) (startD n_variables ds) S := by
  rintro ds S o ⟨f, rfl, hne, hf, rfl⟩
  have hp := len_pos hne
  simp only [b_variables, startD, List.map, List.length, List.replicate, Nat.reduceAdd, Nat.reduceSub, List.cons_append, List.nil_append]
  repeat' (walk_at "pd1")
  all_goals try (walk_at "ps")
  refine lc_ix (fun k => if (!decide (cf f (k + 1) = 0)) = true then some (.int ((k : Nat) : Int)) else none) still_none (by rw [rngL_len]; exact big _ (by omega)) (fun k d acc hd => ?_) ?_
  · obtain ⟨hk, rfl⟩ := rngL_get hd
    unfold lcStep
    repeat' (walk_at "pd1")
    all_goals try (walk_at "ps")
    all_goals rename_i hb
    all_goals rw [show ((0 : Int) + k + 1).toNat = k + 1 by omega] at hb
    · rw [if_pos (by simpa using hb)]
      congr 2
      omega
    · rw [if_neg (by simpa using hb)]
  · rw [filterMap_ifs (g := fun k => ((k : Nat) : Int)), rngL_len, show ((f.length : Int) - 1).toNat = f.length - 1 by omega]
    have hs : ((S ++ [SO.lst ((varsL f).map D.int)]) : Store) = S ++ [lstI (varsL f)] := rfl
    show _
    rw [show List.map (fun k => ((k : Nat) : Int)) (List.filter (fun k => !decide (cf f (k + 1) = 0)) (List.range (f.length - 1))) = varsL f from rfl, hs]
    repeat' (walk_at "pd1")
    all_goals try (walk_at "ps")
theorem u_variables {S : Store} {Q : DQ} {E : EQ} {f : List Int} (hne : f ≠ []) (hf : f.length ≤ 16000000) (h : Q (tupI (varsL f)) S) : FnS p_variables [tupI f] S Q E := ⟨_, ⟨f, rfl, hne, hf, rfl⟩, h⟩
local macro_rules | `(tactic| walk_at "pd1") => `(tactic| first | with_reducible refine u_variables ?_ ?_ ?_ | fail)
/-! ### form_at -/
def evV (f v : List Int) (l : List Nat) : Int := l.foldl (fun t x => t + cf f (x + 1) * cf v x) (cf f 0)
theorem evV_all (f v : List Int) : evV f v (varsN f) = evL f v := by
  have key : ∀ n, evV f v ((List.range n).filter fun x => !decide (cf f (x + 1) = 0)) = evN n (cf f) v := by
    intro n
    induction n with
    | zero => unfold evV evN sumTo; simp
    | succ n ih =>
      unfold evV at ih ⊢
      rw [List.range_succ, List.filter_append, List.foldl_append, ih]
      unfold evN
      rw [sumTo_succ]
      by_cases h : cf f (n + 1) = 0
      · simp [h]
      · simp [h]
        omega
  exact key _
def p_form_at : List D → Store → Out → Prop := fun ds S o => ∃ (f : List Int) (d : D) (v : List Int), ds = [tupI f, d] ∧ isSq S d v ∧ f ≠ [] ∧ f.length ≤ 16000000 ∧ v.length ≤ 16000000 ∧ Bd 2000 f ∧ Bd 2000 v ∧
  ((∀ x ∈ varsN f, x < v.length) ∧ o = .val (.int (evL f v)) ∨ ∃ pre x post, varsN f = pre ++ x :: post ∧ (∀ y ∈ pre, y < v.length) ∧ v.length ≤ x ∧ o = .exc (ePlace 3 x))
theorem vars_get {f : List Int} {k : Nat} {d : D} (h : ((varsL f).map D.int)[k]? = some d) : ∃ x, (varsN f)[k]? = some x ∧ d = .int x ∧ x + 1 < f.length := by
  unfold varsL at h
  rw [List.map_map, List.getElem?_map] at h
  obtain ⟨x, hx, rfl⟩ := Option.map_eq_some_iff.mp h
  refine ⟨x, hx, rfl, ?_⟩
  have hm := List.mem_of_getElem? hx
  unfold varsN at hm
  have := List.mem_range.mp (List.mem_filter.mp hm).1
  omega
theorem vc_form_at (M : Md) (h12 : M.sp 12 = FnS p_variables) : ∀ ds S o, p_form_at ds S o → wpSs (M.C (excO S o)) b_form_at (retO S o) (startD n_form_at ds) S := by
  rintro ds S o ⟨f, d, v, rfl, hq, hne, hf, hv, bf, bv, ho⟩
  have hp := len_pos hne
  have hlen : (varsL f).length = (varsN f).length := List.length_map ..
  simp only [b_form_at, startD, List.map, List.length, List.replicate, Nat.reduceAdd, Nat.reduceSub, List.cons_append, List.nil_append]
  repeat' (walk_at "pd1")
  all_goals try (walk_at "ps")
  rcases ho with ⟨hx, rfl⟩ | ⟨pre, x0, post, he, hpre, hx0, rfl⟩
  · refine FR_ind (fun k e S' => S' = S ∧ ∃ t w, t = evV f v ((varsN f).take k) ∧ e = [some (tupI f), some d, some (.int t), w]) ⟨rfl, _, _, rfl, rfl⟩ ?_ ?_
    · rintro k y e S' hy ⟨rfl, t, w, ht, rfl⟩
      obtain ⟨x, hk, rfl, hxl⟩ := vars_get hy
      have := hx x (List.mem_of_getElem? hk)
      repeat' (walk_at "pd1")
      all_goals try (walk_at "ps")
      all_goals first
        | (have h1 := log_lt (bf ((x : Int) + 1).toNat)
           have h2 := log_lt (bv (x : Int).toNat)
           omega)
        | skip
      refine ⟨rfl, _, _, ?_, rfl⟩
      rw [List.take_add_one, hk]
      unfold evV at ht ⊢
      rw [List.foldl_append, ← ht, show ((x : Int) + 1).toNat = x + 1 by omega, Int.toNat_natCast]
      rfl
    · rintro e S' ⟨rfl, t, w, ht, rfl⟩
      rw [List.length_map, hlen, List.take_length, evV_all] at ht
      repeat' (walk_at "pd1")
      all_goals try (walk_at "ps")
      rw [ht]
  · refine FR_ind (fun k e S' => S' = S ∧ k ≤ pre.length ∧ ∃ t w, e = [some (tupI f), some d, some (.int t), w]) ⟨rfl, Nat.zero_le _, _, _, rfl⟩ ?_ ?_
    · rintro k y e S' hy ⟨rfl, hk2, t, w, rfl⟩
      obtain ⟨x, hk, rfl, hxl⟩ := vars_get hy
      rcases Nat.lt_or_ge k pre.length with z | z
      · rw [he, List.getElem?_append_left z] at hk
        have := hpre x (List.mem_of_getElem? hk)
        repeat' (walk_at "pd1")
        all_goals try (walk_at "ps")
        all_goals first
          | (have h1 := log_lt (bf ((x : Int) + 1).toNat)
             have h2 := log_lt (bv (x : Int).toNat)
             omega)
          | exact ⟨rfl, z, _, _, rfl⟩
      · have e2 : k = pre.length := by omega
        rw [he, List.getElem?_append_right z, e2, Nat.sub_self] at hk
        cases hk
        repeat' (walk_at "pd1")
        all_goals try (walk_at "ps")
    · rintro e S' ⟨rfl, hk2, t, w, rfl⟩
      rw [List.length_map, hlen, he, List.length_append, List.length_cons] at hk2
      omega
theorem u_form_at {S : Store} {Q : DQ} {E : EQ} {f v : List Int} {d : D} (hq : isSq S d v) (hne : f ≠ []) (hf : f.length ≤ 16000000) (hv : v.length ≤ 16000000) (bf : Bd 2000 f) (bv : Bd 2000 v) (hl : f.length ≤ v.length + 1) (h : Q (.int (evL f v)) S) : FnS p_form_at [tupI f, d] S Q E := by
  refine ⟨_, ⟨f, d, v, rfl, hq, hne, hf, hv, bf, bv, .inl ⟨fun x hx => ?_, rfl⟩⟩, h⟩
  unfold varsN at hx
  have := List.mem_range.mp (List.mem_filter.mp hx).1
  omega

end PD

set_option Elab.async false
set_option linter.all false
set_option maxRecDepth 100000
set_option maxHeartbeats 1000000
namespace PD
open PySem
local macro_rules | `(tactic| walk_at "pg") => `(tactic| first | assumption | exact get_last' _ _ | (refine get_app ?_; walk_at "pg") | fail)
local macro_rules | `(tactic| walk_at "pq") => `(tactic| first | assumption | (refine isSq.app ?_ _; walk_at "pq") | fail)
local macro_rules | `(tactic| walk_at "pst") => `(tactic| first | exact still_none | exact still_tup | exact still_kl | exact still_ref (by walk_at "pg") | exact still_q (by walk_at "pq") | (refine still_seq ?_; assumption) | fail)
local macro_rules | `(tactic| walk_at "pe") => `(tactic| first | exact Ext.refl _ | assumption | (refine Ext.trans ?_ (Ext.app _ _); walk_at "pe") | fail)
local macro_rules | `(tactic| walk_at "ps") => `(tactic| first | walk_at "pe" | rfl | ((try simp only [decide_eq_true_eq, decide_eq_false_iff_not, Bool.not_eq_true', Bool.not_eq_false', Bool.not_true, Bool.not_false, List.length_append, List.length_replicate, List.length_cons, List.length_nil, List.length_set, List.length_map, List.length_take, List.length_drop, List.length_range] at *); first | omega | (exfalso; omega)) | fail)
local macro_rules | `(tactic| walk_at "pd1") => `(tactic| first | ((with_reducible refine r_nil ?_); (try dsimp only)) | ((with_reducible refine r_ret ?_); (try dsimp only)) | ((with_reducible refine r_retN ?_); (try dsimp only)) | ((with_reducible refine r_brk ?_); (try dsimp only)) | ((with_reducible refine r_cnt ?_); (try dsimp only)) | ((with_reducible refine r_rse ?_); (try dsimp only)) | ((with_reducible refine r_pas ?_); (try dsimp only)) | ((with_reducible refine r_ex ?_); (try dsimp only)) | with_reducible refine r_seq ?_ | with_reducible refine r_asg ?_ | with_reducible refine r_ifs ?_ | with_reducible refine r_tr ?_ | with_reducible refine r_fr ?_ | ((with_reducible refine r_aug (j := ?j) ?g0 ?_); (case g0 => exact rfl)) | ((with_reducible refine r_var (d := ?d) ?g0 ?_); (case g0 => exact rfl)) | ((with_reducible refine r_call (g := ?g) ?g0 ?_); (case g0 => first | assumption | exact rfl)) | with_reducible refine r_cst ?_ | with_reducible refine r_cmp ?_ | with_reducible refine r_bin ?_ | with_reducible refine r_bi ?_ | with_reducible refine r_ix ?_ | with_reducible refine r_and ?_ | with_reducible refine r_or ?_ | with_reducible refine r_not ?_ | with_reducible refine r_ife ?_ | with_reducible refine r_neg ?_ | with_reducible refine r_sl ?_ | with_reducible refine r_tup ?_ | with_reducible refine r_lst ?_ | with_reducible refine r_lc ?_ | with_reducible refine r_chn ?_ | with_reducible refine r_bm ?_ | ((with_reducible refine r_oN ?_); (try dsimp only)) | ((with_reducible refine r_oS ?_); (try dsimp only)) | with_reducible refine r_esC ?_ | with_reducible refine r_esN ?_ | with_reducible refine r_sub ?_ | with_reducible refine r_tsC ?_ | with_reducible refine r_tsN ?_ | with_reducible refine r_iSeq ?_ | with_reducible refine r_iRng ?_ | with_reducible refine r_iEnum ?_ | with_reducible refine r_nm ?_ | ((with_reducible refine r_tp (xs := ?xs) ?g0 ?g1 ?_); (case g0 => exact rfl); (case g1 => exact rfl)) | with_reducible refine m_t0 ?_ | with_reducible refine m_t1 ?_ | with_reducible refine m_t2 ?_ | with_reducible refine m_l0 ?_ | with_reducible refine m_l1 ?_ | with_reducible refine m_l3 ?_ | with_reducible refine r_addI ?_ | with_reducible refine r_subI ?_ | with_reducible refine r_mulI ?_ ?_ | with_reducible refine r_modI ?_ ?_ | with_reducible refine a_tt ?_ ?_ | with_reducible refine r_fdivI ?_ ?_ ?_ | with_reducible refine x_t1 ?_ ?_ ?_ | with_reducible refine r_powI ?_ ?_ ?_ ?_ | ((with_reducible refine a_ll (f := ?f) (g := ?g) ?g0 ?g1 ?_ ?_); (case g0 => walk_at "pg"); (case g1 => walk_at "pg")) | ((with_reducible refine x_l1 (i := ?i) ?g0 ?_ ?_ ?_); (case g0 => walk_at "pg")) | (with_reducible refine r_on (show partD none = some none from rfl) ?_) | (with_reducible refine r_on (show partD (some (D.int _)) = some (some _) from rfl) ?_) | with_reducible refine s_tt ?_ ?_ | with_reducible refine s_tf ?_ ?_ | ((with_reducible refine s_lt (f := ?f) ?g0 ?_ ?_); (case g0 => walk_at "pg")) | ((with_reducible refine s_lf (f := ?f) ?g0 ?_ ?_); (case g0 => walk_at "pg")) | with_reducible refine n_t ?_ | with_reducible refine l_t ?_ | with_reducible refine t_t ?_ | with_reducible refine b_abs ?_ | with_reducible refine b_int ?_ | with_reducible refine b_intb ?_ | with_reducible refine b_max ?_ | with_reducible refine b_min ?_ | ((with_reducible refine n_l (f := ?f) ?g0 ?_); (case g0 => walk_at "pg")) | ((with_reducible refine l_l (f := ?f) ?g0 ?_); (case g0 => walk_at "pg")) | ((with_reducible refine t_l (f := ?f) ?g0 ?_); (case g0 => walk_at "pg")) | with_reducible refine i_tn ?_ ?_ | with_reducible refine i_t ?_ ?_ ?_ | ((with_reducible refine i_l (f := ?f) ?g0 ?_ ?_ ?_); (case g0 => walk_at "pg")) | with_reducible refine w_e ?_ ?_ ?_ | ((with_reducible refine w_l (f := ?f) ?g0 ?_ ?_ ?_); (case g0 => walk_at "pg")) | with_reducible refine p_e ?_ ?_ | ((with_reducible refine p_l (f := ?f) ?g0 ?_ ?_); (case g0 => walk_at "pg")) | with_reducible refine c_lt ?_ | with_reducible refine c_le ?_ | with_reducible refine c_gt ?_ | with_reducible refine c_ge ?_ | with_reducible refine c_eq ?_ | with_reducible refine c_ne ?_ | with_reducible refine c_is ?_ | with_reducible refine c_isn ?_ | ((with_reducible refine t_bl (fun hb => ?_) (fun hb => ?_)) <;> ((try (cases hb; done)); (try simp only [decide_eq_true_eq, decide_eq_false_iff_not, Bool.not_eq_true', Bool.not_eq_false'] at hb))) | ((with_reducible refine t_and (fun hb => ?_) (fun hb => ?_)) <;> ((try (cases hb; done)); (try simp only [decide_eq_true_eq, decide_eq_false_iff_not, Bool.not_eq_true', Bool.not_eq_false'] at hb))) | with_reducible refine t_nb ?_ | with_reducible refine t_neg ?_ | with_reducible refine on_if ?_ | with_reducible refine g_r1 ?_ ?_ ?_ | with_reducible refine g_r2 ?_ ?_ ?_ ?_ ?_ | with_reducible refine g_t ?_ | ((with_reducible refine g_l (f := ?f) ?g0 ?_); (case g0 => walk_at "pg")) | with_reducible refine o_val ?_ ?_ | ((with_reducible refine lc_end ?g0 ?_); (case g0 => first | exact rfl | skip)) | with_reducible refine o_exc ?_ ?_ ?_ | with_reducible refine o_new ?_ ?_ ?_ | with_reducible refine isi_i_int ?_ | with_reducible refine isi_i_bool ?_ | with_reducible refine isi_i_tup ?_ | with_reducible refine isi_i_tl ?_ | with_reducible refine isi_b_int ?_ | with_reducible refine isi_b_bool ?_ | with_reducible refine isi_b_tup ?_ | with_reducible refine isi_b_tl ?_ | with_reducible refine isi_s_int ?_ | with_reducible refine isi_s_bool ?_ | with_reducible refine isi_s_tup ?_ | with_reducible refine isi_s_tl ?_ | with_reducible refine isi_n_int ?_ | with_reducible refine isi_n_bool ?_ | with_reducible refine isi_n_tup ?_ | with_reducible refine isi_n_tl ?_ | with_reducible refine isi_t_int ?_ | with_reducible refine isi_t_bool ?_ | with_reducible refine isi_t_tup ?_ | with_reducible refine isi_t_tl ?_ | with_reducible refine isi_u_int ?_ | with_reducible refine isi_u_bool ?_ | with_reducible refine isi_u_tup ?_ | with_reducible refine isi_u_tl ?_ | ((with_reducible refine isi_l_int (xs := ?xs) ?g0 ?_); (case g0 => walk_at "pg")) | ((with_reducible refine isi_l_bool (xs := ?xs) ?g0 ?_); (case g0 => walk_at "pg")) | ((with_reducible refine isi_l_tup (xs := ?xs) ?g0 ?_); (case g0 => walk_at "pg")) | ((with_reducible refine isi_l_tl (xs := ?xs) ?g0 ?_); (case g0 => walk_at "pg")) | ((with_reducible refine isi_ty0 (a := ?a) ?g0 ?g1 ?_); (case g0 => assumption); (case g1 => decide)) | with_reducible refine n_tg ?_ | ((with_reducible refine n_lg (xs := ?xs) ?g0 ?_); (case g0 => walk_at "pg")) | ((with_reducible refine l_lg (xs := ?xs) ?g0 ?_); (case g0 => walk_at "pg")) | ((with_reducible refine i_tg (d := ?d) ?g0 ?_); (case g0 => exact rfl)) | ((with_reducible refine i_lg (xs := ?xs) (d := ?d) ?g0 ?g1 ?_); (case g0 => walk_at "pg"); (case g1 => exact rfl)) | ((with_reducible refine g_lg (xs := ?xs) ?g0 ?_); (case g0 => walk_at "pg")) | ((with_reducible refine m_tg ?g0 ?_); (case g0 => exact Nat.le_of_ble_eq_true rfl)) | ((with_reducible refine m_lg ?g0 ?_); (case g0 => exact Nat.le_of_ble_eq_true rfl)) | ((with_reducible refine n_q (f := ?f) ?g0 ?_); (case g0 => walk_at "pq")) | ((with_reducible refine l_q (f := ?f) ?g0 ?_); (case g0 => walk_at "pq")) | ((with_reducible refine t_q (f := ?f) ?g0 ?_); (case g0 => walk_at "pq")) | ((with_reducible refine i_q (f := ?f) ?g0 ?_ ?_ ?_); (case g0 => walk_at "pq")) | ((with_reducible refine g_q (f := ?f) ?g0 ?_); (case g0 => walk_at "pq")) | ((with_reducible refine isi_q_tl (f := ?f) ?g0 ?_); (case g0 => walk_at "pq")) | ((with_reducible refine st_and ?g0 ?_); (case g0 => walk_at "pst")) | fail)

local macro_rules | `(tactic| walk_at "pd1") => `(tactic| first | with_reducible refine u_w_i ?_ | with_reducible refine u_w_b ?_ | with_reducible refine u_w_s ?_ | with_reducible refine u_w_n ?_ | with_reducible refine u_w_t ?_ | with_reducible refine u_w_u ?_ | ((with_reducible refine u_w_l (xs := ?xs) ?g0 ?_); (case g0 => walk_at "pg")) | fail)
local macro_rules | `(tactic| walk_at "pd1") => `(tactic| first | with_reducible refine u_trim_t ?_ ?_ | ((with_reducible refine u_trim_l (l := ?l) ?g0 ?_ ?_); (case g0 => walk_at "pg")) | fail)
local macro_rules | `(tactic| walk_at "pd1") => `(tactic| first | with_reducible refine u_plus ?_ ?_ ?_ | fail)
local macro_rules | `(tactic| walk_at "pd1") => `(tactic| first | with_reducible refine u_scaled ?_ ?_ ?_ ?_ | fail)
local macro_rules | `(tactic| walk_at "pd1") => `(tactic| first | with_reducible refine u_multiple ?_ ?_ | fail)
local macro_rules | `(tactic| walk_at "pd1") => `(tactic| first | with_reducible refine u_variables ?_ ?_ ?_ | fail)

/-! ### put_variable -/
def putL (f : List Int) (x : Nat) (g : List Int) : List Int := if cf f (x + 1) = 0 then f else trimL (addL (trimL (f.set (x + 1) 0)) (trimL (mulL (cf f (x + 1)) g)))
def p_put_variable : List D → Store → Out → Prop := fun ds S o => ∃ (f : List Int) (z : Int) (x : Nat) (g : List Int), ds = [tupI f, .int z, tupI g] ∧ z = x ∧ f.length ≤ 16000000 ∧ g.length ≤ 16000000 ∧ Bd 2000 f ∧ Bd 2000 g ∧ o = .val (tupI (putL f x g))
theorem vc_put_variable (M : Md) (h2 : M.sp 2 = FnS p__form_trimmed) (h6 : M.sp 6 = FnS p_plus) (h7 : M.sp 7 = FnS p_scaled) (h11 : M.sp 11 = FnS p_multiple) : ∀ ds S o, p_put_variable ds S o → wpSs (M.C (excO S o)) b_put_variable (retO S o) (startD n_put_variable ds) S := by
  rintro ds S o ⟨f, z, x, g, rfl, hz, hf, hg, bf, bg, rfl⟩
  have ez : z.toNat = x := by omega
  have ez1 : (z + 1).toNat = x + 1 := by omega
  simp only [b_put_variable, startD, List.map, List.length, List.replicate, Nat.reduceAdd, Nat.reduceSub, List.cons_append, List.nil_append]
  repeat' (walk_at "pd1")
  all_goals try (walk_at "ps")
  all_goals (try rw [ez] at *)
  · rename_i hb
    unfold putL
    rw [if_pos hb]
  · rename_i hb
    rcases Nat.lt_or_ge (x + 1) f.length with q | q
    · omega
    · exact absurd (cf_out q) hb
  · exact bf _
  · exact Nat.le_trans (trim_le _) (by rw [List.length_set]; exact hf)
  · exact Nat.le_trans (trim_le _) (by rw [mulL_len]; exact hg)
  · rename_i hb
    rw [ez1]
    unfold putL
    rw [if_neg hb]
theorem u_put_variable {S : Store} {Q : DQ} {E : EQ} {f g : List Int} {z : Int} (hz : 0 ≤ z) (hf : f.length ≤ 16000000) (hg : g.length ≤ 16000000) (bf : Bd 2000 f) (bg : Bd 2000 g) (h : Q (tupI (putL f z.toNat g)) S) : FnS p_put_variable [tupI f, .int z, tupI g] S Q E := ⟨_, ⟨f, z, z.toNat, g, rfl, by omega, hf, hg, bf, bg, rfl⟩, h⟩
/-! ### put_all -/
/-- forms, in a tuple or a list -/
def isFs (S : Store) (d : D) (fs : List (List Int)) : Prop := d = .tup (fs.map tupI) ∨ ∃ n, d = .ref n ∧ S[n]? = some (.lst (fs.map tupI))
theorem isFs.app {S : Store} {d : D} {fs : List (List Int)} (h : isFs S d fs) (L : Store) : isFs (S ++ L) d fs := h.elim .inl fun ⟨n, h1, h2⟩ => .inr ⟨n, h1, get_app h2⟩
theorem n_fs {S : Store} {Q : DQ} {d : D} {fs : List (List Int)} (hq : isFs S d fs) (h : Q (.int fs.length) S) : wpBi S .len [d] Q := by
  rcases hq with rfl | ⟨n, rfl, hq⟩
  · show Q (.int (fs.map tupI).length) S
    rw [List.length_map]
    exact h
  · refine n_lg hq ?_
    rw [List.length_map]
    exact h
theorem i_fs {S : Store} {d : D} {fs : List (List Int)} {k : Int} {Kk : D → Prop} (hq : isFs S d fs) (h0 : 0 ≤ k) (h1 : k < fs.length) (h : Kk (tupI (fs.getD k.toNat []))) : onO (ixD S d (.int k)) Kk := by
  have e : L2.atI (fs.map tupI) k = some (tupI (fs.getD k.toNat [])) := by
    rw [atI_nat h0 (by rw [List.length_map]; exact h1), List.getElem?_map, List.getD_eq_getElem?_getD, List.getElem?_eq_getElem (by omega)]
    rfl
  rcases hq with rfl | ⟨n, rfl, hq⟩
  · exact i_tg e h
  · exact i_lg hq e h
def paT (f : List Int) (fs : List (List Int)) : Nat → List Int
  | 0 => [0]
  | k + 1 => trimL (addL (paT f fs k) (trimL (mulL (cf f (k + 1)) (fs.getD k []))))
def paR (f : List Int) (k : Nat) : List Int := (List.range f.length).map fun i => if 1 ≤ i ∧ i ≤ k then 0 else cf f i
theorem cf_paR (f : List Int) (k i : Nat) : cf (paR f k) i = if 1 ≤ i ∧ i ≤ k then 0 else cf f i := by
  unfold paR
  rw [cf_range]
  split
  · rfl
  · rw [cf_out (l := f) (by omega)]
    split <;> rfl
theorem paR_len (f : List Int) (k : Nat) : (paR f k).length = f.length := by unfold paR; rw [List.length_map, List.length_range]
theorem paR_zero (f : List Int) : paR f 0 = f := list_ext (paR_len f 0) fun i => by rw [cf_paR, if_neg (by omega)]
theorem paR_step (f : List Int) (k : Nat) (hk : k + 1 < f.length) : (paR f k).set (k + 1) 0 = paR f (k + 1) := by
  refine list_ext (by rw [List.length_set, paR_len, paR_len]) fun i => ?_
  rw [cf_set, cf_paR, cf_paR, paR_len]
  by_cases e : k + 1 = i
  · subst e
    rw [if_pos ⟨rfl, hk⟩, if_pos ⟨by omega, by omega⟩]
  · rw [if_neg (fun z => e z.1)]
    by_cases h : 1 ≤ i ∧ i ≤ k
    · rw [if_pos h, if_pos ⟨h.1, by omega⟩]
    · rw [if_neg h, if_neg (fun z => h ⟨z.1, by omega⟩)]
def putAllL (f : List Int) (fs : List (List Int)) : List Int := trimL (addL (paT f fs (min fs.length (f.length - 1))) (trimL (paR f (min fs.length (f.length - 1)))))
def p_put_all : List D → Store → Out → Prop := fun ds S o => ∃ (f : List Int) (d : D) (fs : List (List Int)), ds = [tupI f, d] ∧ isFs S d fs ∧ f ≠ [] ∧ f.length ≤ 1000000 ∧ fs.length ≤ 1000000 ∧ Bd 2000 f ∧ (∀ g ∈ fs, g.length ≤ 1000000 ∧ Bd 2000 g) ∧ o = .val (tupI (putAllL f fs))
theorem addL_le {f g : List Int} {n : Nat} (hf : f.length ≤ n) (hg : g.length ≤ n) : (addL f g).length ≤ n := by
  rw [addL_len]
  omega
theorem getD_fs {fs : List (List Int)} {k : Nat} (hk : k < fs.length) : fs.getD k [] ∈ fs := by
  rw [List.getD_eq_getElem?_getD, List.getElem?_eq_getElem hk]
  exact List.getElem_mem hk
theorem paT_len {f : List Int} {fs : List (List Int)} (h : ∀ g ∈ fs, g.length ≤ 1000000 ∧ Bd 2000 g) : ∀ k, k ≤ fs.length → (paT f fs k).length ≤ 1000000
  | 0, _ => by show 1 ≤ 1000000; decide
  | k + 1, hk => by
    unfold paT
    refine Nat.le_trans (trim_le _) (addL_le (paT_len h k (by omega)) (Nat.le_trans (trim_le _) ?_))
    rw [mulL_len]
    exact (h _ (getD_fs (by omega))).1
theorem vc_put_all (M : Md) (h2 : M.sp 2 = FnS p__form_trimmed) (h6 : M.sp 6 = FnS p_plus) (h7 : M.sp 7 = FnS p_scaled) : ∀ ds S o, p_put_all ds S o → wpSs (M.C (excO S o)) b_put_all (retO S o) (startD n_put_all ds) S := by
  rintro ds S o ⟨f, d, fs, rfl, hq, hne, hf, hfs, bf, bfs, rfl⟩
  have hp := len_pos hne
  simp only [b_put_all, startD, List.map, List.length, List.replicate, Nat.reduceAdd, Nat.reduceSub, List.cons_append, List.nil_append]
  repeat' (walk_at "pd1")
  refine n_fs (hq.app _) ?_
  repeat' (walk_at "pd1")
  all_goals try (walk_at "ps")
  have hN : (min (fs.length : Int) ((f.length : Int) - 1)).toNat = min fs.length (f.length - 1) := by omega
  rw [hN]
  refine FR_ind (fun k e S' => S' = S ++ [lstI (paR f k)] ∧ ∃ w, e = [some (tupI f), some d, some (.ref S.length), some (tupI (paT f fs k)), w]) ⟨by rw [paR_zero], _, rfl⟩ ?_ ?_
  · rintro k y e S' hy ⟨rfl, w, rfl⟩
    obtain ⟨hk, rfl⟩ := rngL_get hy
    have e1 : ((0 : Int) + k + 1).toNat = k + 1 := by omega
    have e0 : ((0 : Int) + k).toNat = k := by omega
    have hl := paR_len f k
    have hg := bfs _ (getD_fs (fs := fs) (k := k) (by omega))
    repeat' (walk_at "pd1")
    all_goals try (walk_at "ps")
    refine i_fs (hq.app _) (by omega) (by omega) ?_
    rw [e1, e0]
    repeat' (walk_at "pd1")
    all_goals try (walk_at "ps")
    all_goals (try rw [e1])
    all_goals first
      | exact hg.2
      | (rw [cf_paR, if_neg (by omega)]; exact bf _)
      | exact Nat.le_trans hg.1 (by decide)
      | exact Nat.le_trans (paT_len bfs k (by omega)) (by decide)
      | exact Nat.le_trans (trim_le _) (by rw [mulL_len]; exact Nat.le_trans hg.1 (by decide))
      | skip
    refine ⟨by rw [paR_step f k (by omega)], some (.int (0 + k)), ?_⟩
    rw [cf_paR, if_neg (by omega)]
    rfl
  · rintro e S' ⟨rfl, w, rfl⟩
    rw [rngL_len]
    have hl := paR_len f (min fs.length (f.length - 1))
    repeat' (walk_at "pd1")
    all_goals try (walk_at "ps")
    all_goals first
      | exact Nat.le_trans (paT_len bfs _ (by omega)) (by decide)
      | exact Nat.le_trans (trim_le _) (by omega)
      | skip
theorem u_put_all {S : Store} {Q : DQ} {E : EQ} {f : List Int} {d : D} {fs : List (List Int)} (hq : isFs S d fs) (hne : f ≠ []) (hf : f.length ≤ 1000000) (hfs : fs.length ≤ 1000000) (bf : Bd 2000 f) (bfs : ∀ g ∈ fs, g.length ≤ 1000000 ∧ Bd 2000 g) (h : Q (tupI (putAllL f fs)) S) : FnS p_put_all [tupI f, d] S Q E := ⟨_, ⟨f, d, fs, rfl, hq, hne, hf, hfs, bf, bfs, rfl⟩, h⟩

end PD

set_option Elab.async false
set_option linter.all false
set_option maxRecDepth 100000
set_option maxHeartbeats 1000000
namespace PD
open PySem
local macro_rules | `(tactic| walk_at "pg") => `(tactic| first | assumption | exact get_last' _ _ | (refine get_app ?_; walk_at "pg") | fail)
local macro_rules | `(tactic| walk_at "pq") => `(tactic| first | assumption | (refine isSq.app ?_ _; walk_at "pq") | fail)
local macro_rules | `(tactic| walk_at "pst") => `(tactic| first | exact still_none | exact still_tup | exact still_kl | exact still_ref (by walk_at "pg") | exact still_q (by walk_at "pq") | (refine still_seq ?_; assumption) | fail)
local macro_rules | `(tactic| walk_at "pe") => `(tactic| first | exact Ext.refl _ | assumption | (refine Ext.trans ?_ (Ext.app _ _); walk_at "pe") | fail)
local macro_rules | `(tactic| walk_at "ps") => `(tactic| first | walk_at "pe" | rfl | ((try simp only [decide_eq_true_eq, decide_eq_false_iff_not, Bool.not_eq_true', Bool.not_eq_false', Bool.not_true, Bool.not_false, List.length_append, List.length_replicate, List.length_cons, List.length_nil, List.length_set, List.length_map, List.length_take, List.length_drop, List.length_range] at *); first | omega | (exfalso; omega)) | fail)
local macro_rules | `(tactic| walk_at "pd1") => `(tactic| first | ((with_reducible refine r_nil ?_); (try dsimp only)) | ((with_reducible refine r_ret ?_); (try dsimp only)) | ((with_reducible refine r_retN ?_); (try dsimp only)) | ((with_reducible refine r_brk ?_); (try dsimp only)) | ((with_reducible refine r_cnt ?_); (try dsimp only)) | ((with_reducible refine r_rse ?_); (try dsimp only)) | ((with_reducible refine r_pas ?_); (try dsimp only)) | ((with_reducible refine r_ex ?_); (try dsimp only)) | with_reducible refine r_seq ?_ | with_reducible refine r_asg ?_ | with_reducible refine r_ifs ?_ | with_reducible refine r_tr ?_ | with_reducible refine r_fr ?_ | ((with_reducible refine r_aug (j := ?j) ?g0 ?_); (case g0 => exact rfl)) | ((with_reducible refine r_var (d := ?d) ?g0 ?_); (case g0 => exact rfl)) | ((with_reducible refine r_call (g := ?g) ?g0 ?_); (case g0 => first | assumption | exact rfl)) | with_reducible refine r_cst ?_ | with_reducible refine r_cmp ?_ | with_reducible refine r_bin ?_ | with_reducible refine r_bi ?_ | with_reducible refine r_ix ?_ | with_reducible refine r_and ?_ | with_reducible refine r_or ?_ | with_reducible refine r_not ?_ | with_reducible refine r_ife ?_ | with_reducible refine r_neg ?_ | with_reducible refine r_sl ?_ | with_reducible refine r_tup ?_ | with_reducible refine r_lst ?_ | with_reducible refine r_lc ?_ | with_reducible refine r_chn ?_ | with_reducible refine r_bm ?_ | ((with_reducible refine r_oN ?_); (try dsimp only)) | ((with_reducible refine r_oS ?_); (try dsimp only)) | with_reducible refine r_esC ?_ | with_reducible refine r_esN ?_ | with_reducible refine r_sub ?_ | with_reducible refine r_tsC ?_ | with_reducible refine r_tsN ?_ | with_reducible refine r_iSeq ?_ | with_reducible refine r_iRng ?_ | with_reducible refine r_iEnum ?_ | with_reducible refine r_nm ?_ | ((with_reducible refine r_tp (xs := ?xs) ?g0 ?g1 ?_); (case g0 => exact rfl); (case g1 => exact rfl)) | with_reducible refine m_t0 ?_ | with_reducible refine m_t1 ?_ | with_reducible refine m_t2 ?_ | with_reducible refine m_l0 ?_ | with_reducible refine m_l1 ?_ | with_reducible refine m_l3 ?_ | with_reducible refine r_addI ?_ | with_reducible refine r_subI ?_ | with_reducible refine r_mulI ?_ ?_ | with_reducible refine r_modI ?_ ?_ | with_reducible refine a_tt ?_ ?_ | with_reducible refine r_fdivI ?_ ?_ ?_ | with_reducible refine x_t1 ?_ ?_ ?_ | with_reducible refine r_powI ?_ ?_ ?_ ?_ | ((with_reducible refine a_ll (f := ?f) (g := ?g) ?g0 ?g1 ?_ ?_); (case g0 => walk_at "pg"); (case g1 => walk_at "pg")) | ((with_reducible refine x_l1 (i := ?i) ?g0 ?_ ?_ ?_); (case g0 => walk_at "pg")) | (with_reducible refine r_on (show partD none = some none from rfl) ?_) | (with_reducible refine r_on (show partD (some (D.int _)) = some (some _) from rfl) ?_) | with_reducible refine s_tt ?_ ?_ | with_reducible refine s_tf ?_ ?_ | ((with_reducible refine s_lt (f := ?f) ?g0 ?_ ?_); (case g0 => walk_at "pg")) | ((with_reducible refine s_lf (f := ?f) ?g0 ?_ ?_); (case g0 => walk_at "pg")) | with_reducible refine n_t ?_ | with_reducible refine l_t ?_ | with_reducible refine t_t ?_ | with_reducible refine b_abs ?_ | with_reducible refine b_int ?_ | with_reducible refine b_intb ?_ | with_reducible refine b_max ?_ | with_reducible refine b_min ?_ | ((with_reducible refine n_l (f := ?f) ?g0 ?_); (case g0 => walk_at "pg")) | ((with_reducible refine l_l (f := ?f) ?g0 ?_); (case g0 => walk_at "pg")) | ((with_reducible refine t_l (f := ?f) ?g0 ?_); (case g0 => walk_at "pg")) | with_reducible refine i_tn ?_ ?_ | with_reducible refine i_t ?_ ?_ ?_ | ((with_reducible refine i_l (f := ?f) ?g0 ?_ ?_ ?_); (case g0 => walk_at "pg")) | with_reducible refine w_e ?_ ?_ ?_ | ((with_reducible refine w_l (f := ?f) ?g0 ?_ ?_ ?_); (case g0 => walk_at "pg")) | with_reducible refine p_e ?_ ?_ | ((with_reducible refine p_l (f := ?f) ?g0 ?_ ?_); (case g0 => walk_at "pg")) | with_reducible refine c_lt ?_ | with_reducible refine c_le ?_ | with_reducible refine c_gt ?_ | with_reducible refine c_ge ?_ | with_reducible refine c_eq ?_ | with_reducible refine c_ne ?_ | with_reducible refine c_is ?_ | with_reducible refine c_isn ?_ | ((with_reducible refine t_bl (fun hb => ?_) (fun hb => ?_)) <;> ((try (cases hb; done)); (try simp only [decide_eq_true_eq, decide_eq_false_iff_not, Bool.not_eq_true', Bool.not_eq_false'] at hb))) | ((with_reducible refine t_and (fun hb => ?_) (fun hb => ?_)) <;> ((try (cases hb; done)); (try simp only [decide_eq_true_eq, decide_eq_false_iff_not, Bool.not_eq_true', Bool.not_eq_false'] at hb))) | with_reducible refine t_nb ?_ | with_reducible refine t_neg ?_ | with_reducible refine on_if ?_ | with_reducible refine g_r1 ?_ ?_ ?_ | with_reducible refine g_r2 ?_ ?_ ?_ ?_ ?_ | with_reducible refine g_t ?_ | ((with_reducible refine g_l (f := ?f) ?g0 ?_); (case g0 => walk_at "pg")) | with_reducible refine o_val ?_ ?_ | ((with_reducible refine lc_end ?g0 ?_); (case g0 => first | exact rfl | skip)) | with_reducible refine o_exc ?_ ?_ ?_ | with_reducible refine o_new ?_ ?_ ?_ | with_reducible refine isi_i_int ?_ | with_reducible refine isi_i_bool ?_ | with_reducible refine isi_i_tup ?_ | with_reducible refine isi_i_tl ?_ | with_reducible refine isi_b_int ?_ | with_reducible refine isi_b_bool ?_ | with_reducible refine isi_b_tup ?_ | with_reducible refine isi_b_tl ?_ | with_reducible refine isi_s_int ?_ | with_reducible refine isi_s_bool ?_ | with_reducible refine isi_s_tup ?_ | with_reducible refine isi_s_tl ?_ | with_reducible refine isi_n_int ?_ | with_reducible refine isi_n_bool ?_ | with_reducible refine isi_n_tup ?_ | with_reducible refine isi_n_tl ?_ | with_reducible refine isi_t_int ?_ | with_reducible refine isi_t_bool ?_ | with_reducible refine isi_t_tup ?_ | with_reducible refine isi_t_tl ?_ | with_reducible refine isi_u_int ?_ | with_reducible refine isi_u_bool ?_ | with_reducible refine isi_u_tup ?_ | with_reducible refine isi_u_tl ?_ | ((with_reducible refine isi_l_int (xs := ?xs) ?g0 ?_); (case g0 => walk_at "pg")) | ((with_reducible refine isi_l_bool (xs := ?xs) ?g0 ?_); (case g0 => walk_at "pg")) | ((with_reducible refine isi_l_tup (xs := ?xs) ?g0 ?_); (case g0 => walk_at "pg")) | ((with_reducible refine isi_l_tl (xs := ?xs) ?g0 ?_); (case g0 => walk_at "pg")) | ((with_reducible refine isi_ty0 (a := ?a) ?g0 ?g1 ?_); (case g0 => assumption); (case g1 => decide)) | with_reducible refine n_tg ?_ | ((with_reducible refine n_lg (xs := ?xs) ?g0 ?_); (case g0 => walk_at "pg")) | ((with_reducible refine l_lg (xs := ?xs) ?g0 ?_); (case g0 => walk_at "pg")) | ((with_reducible refine i_tg (d := ?d) ?g0 ?_); (case g0 => exact rfl)) | ((with_reducible refine i_lg (xs := ?xs) (d := ?d) ?g0 ?g1 ?_); (case g0 => walk_at "pg"); (case g1 => exact rfl)) | ((with_reducible refine g_lg (xs := ?xs) ?g0 ?_); (case g0 => walk_at "pg")) | ((with_reducible refine m_tg ?g0 ?_); (case g0 => exact Nat.le_of_ble_eq_true rfl)) | ((with_reducible refine m_lg ?g0 ?_); (case g0 => exact Nat.le_of_ble_eq_true rfl)) | ((with_reducible refine n_q (f := ?f) ?g0 ?_); (case g0 => walk_at "pq")) | ((with_reducible refine l_q (f := ?f) ?g0 ?_); (case g0 => walk_at "pq")) | ((with_reducible refine t_q (f := ?f) ?g0 ?_); (case g0 => walk_at "pq")) | ((with_reducible refine i_q (f := ?f) ?g0 ?_ ?_ ?_); (case g0 => walk_at "pq")) | ((with_reducible refine g_q (f := ?f) ?g0 ?_); (case g0 => walk_at "pq")) | ((with_reducible refine isi_q_tl (f := ?f) ?g0 ?_); (case g0 => walk_at "pq")) | ((with_reducible refine st_and ?g0 ?_); (case g0 => walk_at "pst")) | fail)

local macro_rules | `(tactic| walk_at "pd1") => `(tactic| first | with_reducible refine u_w_i ?_ | with_reducible refine u_w_b ?_ | with_reducible refine u_w_s ?_ | with_reducible refine u_w_n ?_ | with_reducible refine u_w_t ?_ | with_reducible refine u_w_u ?_ | ((with_reducible refine u_w_l (xs := ?xs) ?g0 ?_); (case g0 => walk_at "pg")) | fail)
local macro_rules | `(tactic| walk_at "pd1") => `(tactic| first | with_reducible refine u_trim_t ?_ ?_ | ((with_reducible refine u_trim_l (l := ?l) ?g0 ?_ ?_); (case g0 => walk_at "pg")) | fail)
local macro_rules | `(tactic| walk_at "pd1") => `(tactic| first | with_reducible refine u_plus ?_ ?_ ?_ | fail)
local macro_rules | `(tactic| walk_at "pd1") => `(tactic| first | with_reducible refine u_scaled ?_ ?_ ?_ ?_ | fail)
local macro_rules | `(tactic| walk_at "pd1") => `(tactic| first | with_reducible refine u_multiple ?_ ?_ | fail)
local macro_rules | `(tactic| walk_at "pd1") => `(tactic| first | with_reducible refine u_variables ?_ ?_ ?_ | fail)

local macro_rules | `(tactic| walk_at "pd1") => `(tactic| first | with_reducible refine u_put_variable ?_ ?_ ?_ ?_ ?_ ?_ | fail)
/-! ### moved -/
def movL (f : List Int) (start by' : Nat) : List Int := if f.length - 1 ≤ start then f else f.take (start + 1) ++ List.replicate by' 0 ++ f.drop (start + 1)
def p_moved : List D → Store → Out → Prop := fun ds S o => ∃ (f : List Int) (z : Int) (start : Nat) (d : D) (a : String), ds = [tupI f, .int z, d] ∧ z = start ∧ f ≠ [] ∧ f.length ≤ 1000000 ∧ tyName S d = some a ∧
  ((∃ k : Nat, k ≤ 1000 ∧ d = .int k ∧ o = .val (tupI (movL f start k))) ∨ ((a ≠ "int" ∨ ∃ i : Int, d = .int i ∧ i < 0) ∧ o = .exc (eName "by")))
theorem vc_moved (M : Md) (h0 : M.sp 0 = FnS p_is_whole) : ∀ ds S o, p_moved ds S o → wpSs (M.C (excO S o)) b_moved (retO S o) (startD n_moved ds) S := by
  rintro ds S o ⟨f, z, start, d, a, rfl, hz, hne, hf, ht, (⟨k, hk, rfl, rfl⟩ | ⟨hbad, rfl⟩)⟩
  · have hp := len_pos hne
    simp only [b_moved, startD, List.map, List.length, List.replicate, Nat.reduceAdd, Nat.reduceSub, List.cons_append, List.nil_append]
    repeat' (walk_at "pd1")
    all_goals try (walk_at "ps")
    · unfold movL
      rw [if_pos (by omega)]
    · unfold movL
      rw [if_neg (by omega), show (z + 1).toNat = start + 1 by omega, Int.toNat_natCast]
  · rcases hbad with hbad | ⟨i, rfl, hi⟩
    · simp only [b_moved, startD, List.map, List.length, List.replicate, Nat.reduceAdd, Nat.reduceSub, List.cons_append, List.nil_append]
      repeat' (walk_at "pd1")
      refine u_w_g ht ?_
      have e2 : (a == "int") = false := by simpa using hbad
      rw [e2]
      repeat' (walk_at "pd1")
      all_goals try (walk_at "ps")
    · simp only [b_moved, startD, List.map, List.length, List.replicate, Nat.reduceAdd, Nat.reduceSub, List.cons_append, List.nil_append]
      repeat' (walk_at "pd1")
      all_goals try (walk_at "ps")
theorem u_moved {S : Store} {Q : DQ} {E : EQ} {f : List Int} {z k : Int} (hz : 0 ≤ z) (hne : f ≠ []) (hf : f.length ≤ 1000000) (h0 : 0 ≤ k) (hk : k ≤ 1000) (h : Q (tupI (movL f z.toNat k.toNat)) S) : FnS p_moved [tupI f, .int z, .int k] S Q E := ⟨_, ⟨f, z, z.toNat, _, _, rfl, by omega, hne, hf, rfl, .inl ⟨k.toNat, by omega, by rw [Int.toNat_of_nonneg h0], rfl⟩⟩, h⟩
theorem u_moved_x {S : Store} {Q : DQ} {E : EQ} {f : List Int} {z : Int} {d : D} {a : String} (hz : 0 ≤ z) (hne : f ≠ []) (hf : f.length ≤ 1000000) (ht : tyName S d = some a) (hb : a ≠ "int" ∨ ∃ i : Int, d = .int i ∧ i < 0) (h : E (eName "by") S) : FnS p_moved [tupI f, .int z, d] S Q E := ⟨_, ⟨f, z, z.toNat, _, _, rfl, by omega, hne, hf, ht, .inr ⟨hb, rfl⟩⟩, h⟩
/-! ### same_order -/
def sgn (a b : Int) : Int := if a = b then 0 else if a < b then -1 else 1
def ordN (f g : List Int) : Nat → Nat → Int
  | _, 0 => sgn (cf f 0) (cf g 0)
  | x, n + 1 => if cf f (x + 1) = cf g (x + 1) then ordN f g (x + 1) n else sgn (cf f (x + 1)) (cf g (x + 1))
def p_same_order : List D → Store → Out → Prop := fun ds S o => ∃ f g : List Int, ds = [tupI f, tupI g] ∧ f ≠ [] ∧ g ≠ [] ∧ f.length ≤ 1000000 ∧ g.length ≤ 1000000 ∧ o = .val (.int (ordN f g 0 (max f.length g.length - 1)))
theorem vc_same_order (M : Md) (h11 : M.sp 11 = FnS p_multiple) : ∀ ds S o, p_same_order ds S o → wpSs (M.C (excO S o)) b_same_order (retO S o) (startD n_same_order ds) S := by
  rintro ds S o ⟨f, g, rfl, hf, hg, lf, lg, rfl⟩
  have hpf := len_pos hf
  have hpg := len_pos hg
  simp only [b_same_order, startD, List.map, List.length, List.replicate, Nat.reduceAdd, Nat.reduceSub, List.cons_append, List.nil_append]
  repeat' (walk_at "pd1")
  all_goals try (walk_at "ps")
  have hN : (max (f.length : Int) (g.length : Int) - 1).toNat = max f.length g.length - 1 := by omega
  rw [hN]
  generalize hn : max f.length g.length - 1 = N
  refine FR_ind (fun k e S' => S' = S ∧ (∃ w, e = [some (tupI f), some (tupI g), w]) ∧ k ≤ N ∧ ordN f g 0 N = ordN f g k (N - k)) ⟨rfl, ⟨_, rfl⟩, Nat.zero_le _, rfl⟩ ?_ ?_
  · rintro k y e S' hy ⟨rfl, ⟨w, rfl⟩, hk2, ho⟩
    obtain ⟨hk, rfl⟩ := rngL_get hy
    have e0 : ((0 : Int) + k).toNat = k := by omega
    obtain ⟨m, hm⟩ : ∃ m, N - k = m + 1 := ⟨N - k - 1, by omega⟩
    have ho2 : ordN f g k (N - k) = if cf f (k + 1) = cf g (k + 1) then ordN f g (k + 1) m else sgn (cf f (k + 1)) (cf g (k + 1)) := by rw [hm]; rfl
    repeat' (walk_at "pd1")
    all_goals try (walk_at "ps")
    all_goals (try rw [e0] at *)
    · rename_i h1 h2
      rw [ho, ho2, if_neg h1]
      unfold sgn
      rw [if_neg h1, if_pos h2]
    · rename_i h1 h2
      rw [ho, ho2, if_neg h1]
      unfold sgn
      rw [if_neg h1, if_neg h2]
    · rename_i h1
      refine ⟨rfl, ⟨_, rfl⟩, by omega, ?_⟩
      rw [ho, ho2, if_pos h1, show N - (k + 1) = m by omega]
  · rintro e S' ⟨rfl, ⟨w, rfl⟩, hk2, ho⟩
    rw [rngL_len, Nat.sub_self] at ho
    have ho2 : ordN f g 0 N = sgn (cf f 0) (cf g 0) := ho
    repeat' (walk_at "pd1")
    all_goals try (walk_at "ps")
    all_goals rw [ho2]
    all_goals unfold sgn
    all_goals simp only [show Int.toNat 0 = 0 from rfl] at *
    · rename_i h1
      rw [if_pos h1]
    · rename_i h1 h2
      rw [if_neg h1, if_pos h2]
    · rename_i h1 h2
      rw [if_neg h1, if_neg h2]
theorem u_same_order {S : Store} {Q : DQ} {E : EQ} {f g : List Int} (hf : f ≠ []) (hg : g ≠ []) (lf : f.length ≤ 1000000) (lg : g.length ≤ 1000000) (h : Q (.int (ordN f g 0 (max f.length g.length - 1))) S) : FnS p_same_order [tupI f, tupI g] S Q E := ⟨_, ⟨f, g, rfl, hf, hg, lf, lg, rfl⟩, h⟩
/-! ### is_form -/
def p_is_form : List D → Store → Out → Prop := fun ds S o => ∃ d, ds = [d] ∧ ((∃ l, d = tupI l ∧ l ≠ [] ∧ o = .val (.bl (decide (l.length = 1) || !decide (cf l (l.length - 1) = 0)))) ∨
  (o = .val (.bl false) ∧ ((∃ a, tyName S d = some a ∧ a ≠ "tuple") ∨ d = .tup [] ∨ ∃ (pre : List Int) (x : D) (post : List D) (b : String), d = .tup (pre.map .int ++ x :: post) ∧ tyName S x = some b ∧ b ≠ "int")))
theorem isTy_ne {a : String} (h : a ≠ "tuple") : isTy a "tuple" = false := by
  unfold isTy
  simp [h]
theorem vc_is_form (M : Md) (h0 : M.sp 0 = FnS p_is_whole) : ∀ ds S o, p_is_form ds S o → wpSs (M.C (excO S o)) b_is_form (retO S o) (startD n_is_form ds) S := by
  rintro ds S o ⟨d, rfl, (⟨l, rfl, hne, rfl⟩ | ⟨rfl, (⟨a, ht, ha⟩ | rfl | ⟨pre, x, post, b, rfl, hx, hb⟩)⟩)⟩
  · have hp := len_pos hne
    simp only [b_is_form, startD, List.map, List.length, List.replicate, Nat.reduceAdd, Nat.reduceSub, List.cons_append, List.nil_append]
    repeat' (walk_at "pd1")
    all_goals try (walk_at "ps")
    refine FR_ind (fun k e S' => S' = S ∧ ∃ w, e = [some (tupI l), w]) ⟨rfl, _, rfl⟩ ?_ ?_
    · rintro k y e S' hy ⟨rfl, w, rfl⟩
      obtain ⟨hk, rfl⟩ := map_get hy
      repeat' (walk_at "pd1")
      exact ⟨rfl, _, rfl⟩
    · rintro e S' ⟨rfl, w, rfl⟩
      repeat' (walk_at "pd1")
      all_goals try (walk_at "ps")
      · rename_i h1
        rw [decide_eq_true (show l.length = 1 by omega)]
        rfl
      · rename_i h1
        rw [decide_eq_false (show ¬ l.length = 1 by omega)]
        rfl
  · have e3 := isTy_ne ha
    simp only [b_is_form, startD, List.map, List.length, List.replicate, Nat.reduceAdd, Nat.reduceSub, List.cons_append, List.nil_append]
    repeat' (walk_at "pd1")
    all_goals try (walk_at "ps")
    all_goals (exfalso; simp_all)
  · simp only [b_is_form, startD, List.map, List.length, List.replicate, Nat.reduceAdd, Nat.reduceSub, List.cons_append, List.nil_append]
    repeat' (walk_at "pd1")
    all_goals try (walk_at "ps")
  · simp only [b_is_form, startD, List.map, List.length, List.replicate, Nat.reduceAdd, Nat.reduceSub, List.cons_append, List.nil_append]
    repeat' (walk_at "pd1")
    all_goals try (walk_at "ps")
    refine g_seq rfl (st_and still_tup ?_)
    refine FR_ind (fun k e S' => S' = S ∧ k ≤ pre.length ∧ ∃ w, e = [some (.tup (pre.map .int ++ x :: post)), w]) ⟨rfl, Nat.zero_le _, _, rfl⟩ ?_ ?_
    · rintro k y e S' hy ⟨rfl, hk, w, rfl⟩
      rcases Nat.lt_or_ge k pre.length with z | z
      · rw [List.getElem?_append_left (by rw [ml]; exact z), get_cf z] at hy
        cases hy
        repeat' (walk_at "pd1")
        exact ⟨rfl, z, _, rfl⟩
      · have e : k = (pre.map D.int).length := by rw [ml]; omega
        rw [List.getElem?_append_right (by omega), e, Nat.sub_self] at hy
        cases hy
        repeat' (walk_at "pd1")
        refine u_w_g hx ?_
        have e2 : (b == "int") = false := by simpa using hb
        rw [e2]
        repeat' (walk_at "pd1")
        all_goals try (walk_at "ps")
    · rintro e S' ⟨rfl, hk, w, rfl⟩
      rw [List.length_append, ml, List.length_cons] at hk
      omega
section
variable {S : Store} {Q : DQ} {E : EQ} {l : List Int}
theorem u_is_form_t (hne : l ≠ []) (h : Q (.bl (decide (l.length = 1) || !decide (cf l (l.length - 1) = 0))) S) : FnS p_is_form [tupI l] S Q E := ⟨_, ⟨_, rfl, .inl ⟨l, rfl, hne, rfl⟩⟩, h⟩
theorem u_is_form_a {d : D} {a : String} (ht : tyName S d = some a) (ha : a ≠ "tuple") (h : Q (.bl false) S) : FnS p_is_form [d] S Q E := ⟨_, ⟨_, rfl, .inr ⟨rfl, .inl ⟨a, ht, ha⟩⟩⟩, h⟩
theorem u_is_form_e (h : Q (.bl false) S) : FnS p_is_form [tupI []] S Q E := ⟨_, ⟨_, rfl, .inr ⟨rfl, .inr (.inl rfl)⟩⟩, h⟩
theorem u_is_form_x {x : D} {b : String} (hx : tyName S x = some b) (hb : b ≠ "int") (h : Q (.bl false) S) : FnS p_is_form [.tup [x]] S Q E := ⟨_, ⟨_, rfl, .inr ⟨rfl, .inr (.inr ⟨[], x, [], b, rfl, hx, hb⟩)⟩⟩, h⟩
end

end PD

set_option Elab.async false
set_option linter.all false
set_option maxRecDepth 100000
set_option maxHeartbeats 1000000
namespace PD
open PySem
local macro_rules | `(tactic| walk_at "pg") => `(tactic| first | assumption | exact get_last' _ _ | (refine get_app ?_; walk_at "pg") | fail)
local macro_rules | `(tactic| walk_at "pq") => `(tactic| first | assumption | (refine isSq.app ?_ _; walk_at "pq") | fail)
local macro_rules | `(tactic| walk_at "pst") => `(tactic| first | exact still_none | exact still_tup | exact still_kl | exact still_ref (by walk_at "pg") | exact still_q (by walk_at "pq") | (refine still_seq ?_; assumption) | fail)
local macro_rules | `(tactic| walk_at "pe") => `(tactic| first | exact Ext.refl _ | assumption | (refine Ext.trans ?_ (Ext.app _ _); walk_at "pe") | fail)
local macro_rules | `(tactic| walk_at "ps") => `(tactic| first | walk_at "pe" | rfl | ((try simp only [decide_eq_true_eq, decide_eq_false_iff_not, Bool.not_eq_true', Bool.not_eq_false', Bool.not_true, Bool.not_false, List.length_append, List.length_replicate, List.length_cons, List.length_nil, List.length_set, List.length_map, List.length_take, List.length_drop, List.length_range] at *); first | omega | (exfalso; omega)) | fail)
local macro_rules | `(tactic| walk_at "pd1") => `(tactic| first | ((with_reducible refine r_nil ?_); (try dsimp only)) | ((with_reducible refine r_ret ?_); (try dsimp only)) | ((with_reducible refine r_retN ?_); (try dsimp only)) | ((with_reducible refine r_brk ?_); (try dsimp only)) | ((with_reducible refine r_cnt ?_); (try dsimp only)) | ((with_reducible refine r_rse ?_); (try dsimp only)) | ((with_reducible refine r_pas ?_); (try dsimp only)) | ((with_reducible refine r_ex ?_); (try dsimp only)) | with_reducible refine r_seq ?_ | with_reducible refine r_asg ?_ | with_reducible refine r_ifs ?_ | with_reducible refine r_tr ?_ | with_reducible refine r_fr ?_ | ((with_reducible refine r_aug (j := ?j) ?g0 ?_); (case g0 => exact rfl)) | ((with_reducible refine r_var (d := ?d) ?g0 ?_); (case g0 => exact rfl)) | ((with_reducible refine r_call (g := ?g) ?g0 ?_); (case g0 => first | assumption | exact rfl)) | with_reducible refine r_cst ?_ | with_reducible refine r_cmp ?_ | with_reducible refine r_bin ?_ | with_reducible refine r_bi ?_ | with_reducible refine r_ix ?_ | with_reducible refine r_and ?_ | with_reducible refine r_or ?_ | with_reducible refine r_not ?_ | with_reducible refine r_ife ?_ | with_reducible refine r_neg ?_ | with_reducible refine r_sl ?_ | with_reducible refine r_tup ?_ | with_reducible refine r_lst ?_ | with_reducible refine r_lc ?_ | with_reducible refine r_chn ?_ | with_reducible refine r_bm ?_ | ((with_reducible refine r_oN ?_); (try dsimp only)) | ((with_reducible refine r_oS ?_); (try dsimp only)) | with_reducible refine r_esC ?_ | with_reducible refine r_esN ?_ | with_reducible refine r_sub ?_ | with_reducible refine r_tsC ?_ | with_reducible refine r_tsN ?_ | with_reducible refine r_iSeq ?_ | with_reducible refine r_iRng ?_ | with_reducible refine r_iEnum ?_ | with_reducible refine r_nm ?_ | ((with_reducible refine r_tp (xs := ?xs) ?g0 ?g1 ?_); (case g0 => exact rfl); (case g1 => exact rfl)) | with_reducible refine m_t0 ?_ | with_reducible refine m_t1 ?_ | with_reducible refine m_t2 ?_ | with_reducible refine m_l0 ?_ | with_reducible refine m_l1 ?_ | with_reducible refine m_l3 ?_ | with_reducible refine r_addI ?_ | with_reducible refine r_subI ?_ | with_reducible refine r_mulI ?_ ?_ | with_reducible refine r_modI ?_ ?_ | with_reducible refine a_tt ?_ ?_ | with_reducible refine r_fdivI ?_ ?_ ?_ | with_reducible refine x_t1 ?_ ?_ ?_ | with_reducible refine r_powI ?_ ?_ ?_ ?_ | ((with_reducible refine a_ll (f := ?f) (g := ?g) ?g0 ?g1 ?_ ?_); (case g0 => walk_at "pg"); (case g1 => walk_at "pg")) | ((with_reducible refine x_l1 (i := ?i) ?g0 ?_ ?_ ?_); (case g0 => walk_at "pg")) | (with_reducible refine r_on (show partD none = some none from rfl) ?_) | (with_reducible refine r_on (show partD (some (D.int _)) = some (some _) from rfl) ?_) | with_reducible refine s_tt ?_ ?_ | with_reducible refine s_tf ?_ ?_ | ((with_reducible refine s_lt (f := ?f) ?g0 ?_ ?_); (case g0 => walk_at "pg")) | ((with_reducible refine s_lf (f := ?f) ?g0 ?_ ?_); (case g0 => walk_at "pg")) | with_reducible refine n_t ?_ | with_reducible refine l_t ?_ | with_reducible refine t_t ?_ | with_reducible refine b_abs ?_ | with_reducible refine b_int ?_ | with_reducible refine b_intb ?_ | with_reducible refine b_max ?_ | with_reducible refine b_min ?_ | ((with_reducible refine n_l (f := ?f) ?g0 ?_); (case g0 => walk_at "pg")) | ((with_reducible refine l_l (f := ?f) ?g0 ?_); (case g0 => walk_at "pg")) | ((with_reducible refine t_l (f := ?f) ?g0 ?_); (case g0 => walk_at "pg")) | with_reducible refine i_tn ?_ ?_ | with_reducible refine i_t ?_ ?_ ?_ | ((with_reducible refine i_l (f := ?f) ?g0 ?_ ?_ ?_); (case g0 => walk_at "pg")) | with_reducible refine w_e ?_ ?_ ?_ | ((with_reducible refine w_l (f := ?f) ?g0 ?_ ?_ ?_); (case g0 => walk_at "pg")) | with_reducible refine p_e ?_ ?_ | ((with_reducible refine p_l (f := ?f) ?g0 ?_ ?_); (case g0 => walk_at "pg")) | with_reducible refine c_lt ?_ | with_reducible refine c_le ?_ | with_reducible refine c_gt ?_ | with_reducible refine c_ge ?_ | with_reducible refine c_eq ?_ | with_reducible refine c_ne ?_ | with_reducible refine c_is ?_ | with_reducible refine c_isn ?_ | ((with_reducible refine t_bl (fun hb => ?_) (fun hb => ?_)) <;> ((try (cases hb; done)); (try simp only [decide_eq_true_eq, decide_eq_false_iff_not, Bool.not_eq_true', Bool.not_eq_false'] at hb))) | ((with_reducible refine t_and (fun hb => ?_) (fun hb => ?_)) <;> ((try (cases hb; done)); (try simp only [decide_eq_true_eq, decide_eq_false_iff_not, Bool.not_eq_true', Bool.not_eq_false'] at hb))) | with_reducible refine t_nb ?_ | with_reducible refine t_neg ?_ | with_reducible refine on_if ?_ | with_reducible refine g_r1 ?_ ?_ ?_ | with_reducible refine g_r2 ?_ ?_ ?_ ?_ ?_ | with_reducible refine g_t ?_ | ((with_reducible refine g_l (f := ?f) ?g0 ?_); (case g0 => walk_at "pg")) | with_reducible refine o_val ?_ ?_ | ((with_reducible refine lc_end ?g0 ?_); (case g0 => first | exact rfl | skip)) | with_reducible refine o_exc ?_ ?_ ?_ | with_reducible refine o_new ?_ ?_ ?_ | with_reducible refine isi_i_int ?_ | with_reducible refine isi_i_bool ?_ | with_reducible refine isi_i_tup ?_ | with_reducible refine isi_i_tl ?_ | with_reducible refine isi_b_int ?_ | with_reducible refine isi_b_bool ?_ | with_reducible refine isi_b_tup ?_ | with_reducible refine isi_b_tl ?_ | with_reducible refine isi_s_int ?_ | with_reducible refine isi_s_bool ?_ | with_reducible refine isi_s_tup ?_ | with_reducible refine isi_s_tl ?_ | with_reducible refine isi_n_int ?_ | with_reducible refine isi_n_bool ?_ | with_reducible refine isi_n_tup ?_ | with_reducible refine isi_n_tl ?_ | with_reducible refine isi_t_int ?_ | with_reducible refine isi_t_bool ?_ | with_reducible refine isi_t_tup ?_ | with_reducible refine isi_t_tl ?_ | with_reducible refine isi_u_int ?_ | with_reducible refine isi_u_bool ?_ | with_reducible refine isi_u_tup ?_ | with_reducible refine isi_u_tl ?_ | ((with_reducible refine isi_l_int (xs := ?xs) ?g0 ?_); (case g0 => walk_at "pg")) | ((with_reducible refine isi_l_bool (xs := ?xs) ?g0 ?_); (case g0 => walk_at "pg")) | ((with_reducible refine isi_l_tup (xs := ?xs) ?g0 ?_); (case g0 => walk_at "pg")) | ((with_reducible refine isi_l_tl (xs := ?xs) ?g0 ?_); (case g0 => walk_at "pg")) | ((with_reducible refine isi_ty0 (a := ?a) ?g0 ?g1 ?_); (case g0 => assumption); (case g1 => decide)) | with_reducible refine n_tg ?_ | ((with_reducible refine n_lg (xs := ?xs) ?g0 ?_); (case g0 => walk_at "pg")) | ((with_reducible refine l_lg (xs := ?xs) ?g0 ?_); (case g0 => walk_at "pg")) | ((with_reducible refine i_tg (d := ?d) ?g0 ?_); (case g0 => exact rfl)) | ((with_reducible refine i_lg (xs := ?xs) (d := ?d) ?g0 ?g1 ?_); (case g0 => walk_at "pg"); (case g1 => exact rfl)) | ((with_reducible refine g_lg (xs := ?xs) ?g0 ?_); (case g0 => walk_at "pg")) | ((with_reducible refine m_tg ?g0 ?_); (case g0 => exact Nat.le_of_ble_eq_true rfl)) | ((with_reducible refine m_lg ?g0 ?_); (case g0 => exact Nat.le_of_ble_eq_true rfl)) | ((with_reducible refine n_q (f := ?f) ?g0 ?_); (case g0 => walk_at "pq")) | ((with_reducible refine l_q (f := ?f) ?g0 ?_); (case g0 => walk_at "pq")) | ((with_reducible refine t_q (f := ?f) ?g0 ?_); (case g0 => walk_at "pq")) | ((with_reducible refine i_q (f := ?f) ?g0 ?_ ?_ ?_); (case g0 => walk_at "pq")) | ((with_reducible refine g_q (f := ?f) ?g0 ?_); (case g0 => walk_at "pq")) | ((with_reducible refine isi_q_tl (f := ?f) ?g0 ?_); (case g0 => walk_at "pq")) | ((with_reducible refine st_and ?g0 ?_); (case g0 => walk_at "pst")) | fail)

local macro_rules | `(tactic| walk_at "pd1") => `(tactic| first | with_reducible refine u_w_i ?_ | with_reducible refine u_w_b ?_ | with_reducible refine u_w_s ?_ | with_reducible refine u_w_n ?_ | with_reducible refine u_w_t ?_ | with_reducible refine u_w_u ?_ | ((with_reducible refine u_w_l (xs := ?xs) ?g0 ?_); (case g0 => walk_at "pg")) | fail)
local macro_rules | `(tactic| walk_at "pd1") => `(tactic| first | with_reducible refine u_trim_t ?_ ?_ | ((with_reducible refine u_trim_l (l := ?l) ?g0 ?_ ?_); (case g0 => walk_at "pg")) | fail)
local macro_rules | `(tactic| walk_at "pd1") => `(tactic| first | with_reducible refine u_plus ?_ ?_ ?_ | fail)
local macro_rules | `(tactic| walk_at "pd1") => `(tactic| first | with_reducible refine u_scaled ?_ ?_ ?_ ?_ | fail)
local macro_rules | `(tactic| walk_at "pd1") => `(tactic| first | with_reducible refine u_multiple ?_ ?_ | fail)
local macro_rules | `(tactic| walk_at "pd1") => `(tactic| first | with_reducible refine u_variables ?_ ?_ ?_ | fail)

/-! ### _law_draws -/
def digL : Nat → Nat → List Int
  | 0, _ => []
  | k + 1, n => ((n % 10 : Nat) : Int) :: if n / 10 = 0 then [] else digL k (n / 10)
def drawsL (ns : List Int) : List Int := ns.flatMap fun z => digL 18 z.natAbs
def Dig (l : List Int) : Prop := ∀ i, 0 ≤ cf l i ∧ cf l i ≤ 9
theorem dig_mem {l : List Int} (h : ∀ x ∈ l, 0 ≤ x ∧ x ≤ 9) : Dig l := fun i => by
  rcases Nat.lt_or_ge i l.length with z | z
  · rw [cf_in z]
    exact h _ (List.getElem_mem z)
  · rw [cf_out z]
    omega
theorem dig_digL : ∀ k n x, x ∈ digL k n → 0 ≤ x ∧ x ≤ 9
  | 0, n, x, h => by cases h
  | k + 1, n, x, h => by
    unfold digL at h
    rcases List.mem_cons.mp h with rfl | h
    · omega
    · split at h
      · cases h
      · exact dig_digL k _ x h
theorem dig_draws (ns : List Int) : Dig (drawsL ns) := dig_mem fun x h => by
  unfold drawsL at h
  obtain ⟨z, _, h⟩ := List.mem_flatMap.mp h
  exact dig_digL _ _ _ h
theorem len_digL : ∀ k n, (digL k n).length ≤ k
  | 0, n => Nat.le_refl _
  | k + 1, n => by
    unfold digL
    rw [List.length_cons]
    split
    · simp
    · have := len_digL k (n / 10)
      omega
theorem len_draws (ns : List Int) : (drawsL ns).length ≤ 18 * ns.length := by
  unfold drawsL
  induction ns with
  | nil => simp
  | cons z ns ih =>
    rw [List.flatMap_cons, List.length_append, List.length_cons]
    have := len_digL 18 z.natAbs
    omega
def p__law_draws : List D → Store → Out → Prop := fun ds S o => ∃ ns : List Int, ds = [.kl (ns.map .int)] ∧ ns.length ≤ 63 ∧ o = .new ((drawsL ns).map .int)
theorem digL_step {k n : Nat} : digL (k + 1) n = ((n % 10 : Nat) : Int) :: if n / 10 = 0 then [] else digL k (n / 10) := rfl
theorem vc__law_draws (M : Md) : ∀ ds S o, p__law_draws ds S o → wpSs (M.C (excO S o)) b__law_draws (retO S o) (startD n__law_draws ds) S := by
  rintro ds S o ⟨ns, rfl, hl, rfl⟩
  simp only [b__law_draws, startD, List.map, List.length, List.replicate, Nat.reduceAdd, Nat.reduceSub, List.cons_append, List.nil_append]
  repeat' (walk_at "pd1")
  refine r_slK ?_
  have ec : cutL (ns.map D.int) none (some 63) = ns.map D.int := by
    rw [cut_to _ _ (by decide), List.take_of_length_le (by rw [ml]; exact hl)]
  rw [ec]
  have hs : ((S ++ [lstI []] ++ [SO.lst (ns.map D.int)]) : Store) = S ++ [lstI []] ++ [lstI ns] := rfl
  rw [hs]
  repeat' (walk_at "pd1")
  have hA : ∀ L : List Int, ((S ++ [lstI L] ++ [lstI ns]) : Store)[S.length]? = some (lstI L) := fun L => get_app (get_last _ _)
  have hB : ∀ L : List Int, ((S ++ [lstI L] ++ [lstI ns]) : Store)[(S ++ [lstI []]).length]? = some (lstI ns) := fun L => by
    have e : (S ++ [lstI []]).length = (S ++ [lstI L]).length := by simp
    rw [e]
    exact get_last _ _
  have hC : ∀ (L : List Int) (x : SO), ((S ++ [lstI L] ++ [lstI ns]) : Store).set S.length x = S ++ [x] ++ [lstI ns] := fun L x => by
    rw [List.set_append_left _ _ (by simp), set_last]
  refine FR_ind (fun k e S' => S' = S ++ [lstI (drawsL (ns.take k))] ++ [lstI ns] ∧ ∃ u v w, e = [some (.kl (ns.map D.int)), some (.ref S.length), u, v, w]) ⟨rfl, _, _, _, rfl⟩ ?_ ?_
  · rintro k y e S' hy ⟨rfl, u, v, w, rfl⟩
    obtain ⟨hk, rfl⟩ := map_get hy
    have hk63 : (drawsL (ns.take k)).length ≤ 18 * 63 := by
      have := len_draws (ns.take k)
      rw [List.length_take] at this
      omega
    have htk : drawsL (ns.take (k + 1)) = drawsL (ns.take k) ++ digL 18 (cf ns k).natAbs := by
      unfold drawsL
      rw [List.take_add_one, List.getElem?_eq_getElem hk, List.flatMap_append, cf_in hk]
      simp
    repeat' (walk_at "pd1")
    all_goals try (walk_at "ps")
    refine FR_ind (fun j e S' => ∃ (L : List Int) (n : Nat) (w : Option D), S' = S ++ [lstI L] ++ [lstI ns] ∧ L.length ≤ 18 * 63 + j ∧ e = [some (.kl (ns.map D.int)), some (.ref S.length), some (.int (cf ns k)), some (.int n), w] ∧ L ++ digL (18 - j) n = drawsL (ns.take (k + 1)))
      ⟨_, _, _, rfl, by omega, rfl, by rw [htk]⟩ ?_ ?_
    · rintro j y e S' hy ⟨L, n, w2, rfl, hL, rfl, hd⟩
      obtain ⟨hj, rfl⟩ := rngL_get hy
      obtain ⟨m, hm⟩ : ∃ m, 18 - j = m + 1 := ⟨18 - j - 1, by omega⟩
      rw [hm, digL_step] at hd
      have hj18 : j < 18 := hj
      repeat' (walk_at "pd1")
      all_goals try (walk_at "ps")
      refine ⟨_, _, rfl, hA L, ?_⟩
      repeat' (walk_at "pd1")
      all_goals try (walk_at "ps")
      all_goals try (exact Nat.lt_of_le_of_lt (show Nat.log2 10 ≤ 3 by decide) (by decide))
      all_goals (try rw [hC])
      all_goals rename_i hb
      · have hz : n / 10 = 0 := by omega
        rw [if_pos hz] at hd
        refine st_and (still_ref (hB _)) ⟨?_, _, _, _, rfl⟩
        rw [← hd]
        rfl
      · have hz : ¬ n / 10 = 0 := by omega
        rw [if_neg hz] at hd
        refine ⟨L ++ [(n : Int) % 10], n / 10, _, rfl, by rw [List.length_append]; show _ + 1 ≤ _; omega, rfl, ?_⟩
        rw [show 18 - (j + 1) = m by omega, List.append_assoc]
        exact hd
    · rintro e S' ⟨L, n, w2, rfl, hL, rfl, hd⟩
      rw [rngL_len] at hd
      refine st_and (still_ref (hB _)) ⟨?_, _, _, _, rfl⟩
      rw [← hd]
      show _ = S ++ [lstI (L ++ [])] ++ [lstI ns]
      rw [List.append_nil]
  · rintro e S' ⟨rfl, u, v, w, rfl⟩
    rw [ml, List.take_length]
    repeat' (walk_at "pd1")
    all_goals try (walk_at "ps")
    · exact hA _

end PD

set_option Elab.async false
set_option linter.all false
set_option maxRecDepth 100000
set_option maxHeartbeats 1000000
namespace PD
open PySem
local macro_rules | `(tactic| walk_at "pg") => `(tactic| first | assumption | exact get_last' _ _ | (refine get_app ?_; walk_at "pg") | fail)
local macro_rules | `(tactic| walk_at "pq") => `(tactic| first | assumption | (refine isSq.app ?_ _; walk_at "pq") | fail)
local macro_rules | `(tactic| walk_at "pst") => `(tactic| first | exact still_none | exact still_tup | exact still_kl | exact still_ref (by walk_at "pg") | exact still_q (by walk_at "pq") | (refine still_seq ?_; assumption) | fail)
local macro_rules | `(tactic| walk_at "pe") => `(tactic| first | exact Ext.refl _ | assumption | (refine Ext.trans ?_ (Ext.app _ _); walk_at "pe") | fail)
local macro_rules | `(tactic| walk_at "ps") => `(tactic| first | walk_at "pe" | rfl | ((try simp only [decide_eq_true_eq, decide_eq_false_iff_not, Bool.not_eq_true', Bool.not_eq_false', Bool.not_true, Bool.not_false, List.length_append, List.length_replicate, List.length_cons, List.length_nil, List.length_set, List.length_map, List.length_take, List.length_drop, List.length_range] at *); first | omega | (exfalso; omega)) | fail)
local macro_rules | `(tactic| walk_at "pd1") => `(tactic| first | ((with_reducible refine r_nil ?_); (try dsimp only)) | ((with_reducible refine r_ret ?_); (try dsimp only)) | ((with_reducible refine r_retN ?_); (try dsimp only)) | ((with_reducible refine r_brk ?_); (try dsimp only)) | ((with_reducible refine r_cnt ?_); (try dsimp only)) | ((with_reducible refine r_rse ?_); (try dsimp only)) | ((with_reducible refine r_pas ?_); (try dsimp only)) | ((with_reducible refine r_ex ?_); (try dsimp only)) | with_reducible refine r_seq ?_ | with_reducible refine r_asg ?_ | with_reducible refine r_ifs ?_ | with_reducible refine r_tr ?_ | with_reducible refine r_fr ?_ | ((with_reducible refine r_aug (j := ?j) ?g0 ?_); (case g0 => exact rfl)) | ((with_reducible refine r_var (d := ?d) ?g0 ?_); (case g0 => exact rfl)) | ((with_reducible refine r_call (g := ?g) ?g0 ?_); (case g0 => first | assumption | exact rfl)) | with_reducible refine r_cst ?_ | with_reducible refine r_cmp ?_ | with_reducible refine r_bin ?_ | with_reducible refine r_bi ?_ | with_reducible refine r_ix ?_ | with_reducible refine r_and ?_ | with_reducible refine r_or ?_ | with_reducible refine r_not ?_ | with_reducible refine r_ife ?_ | with_reducible refine r_neg ?_ | with_reducible refine r_sl ?_ | with_reducible refine r_tup ?_ | with_reducible refine r_lst ?_ | with_reducible refine r_lc ?_ | with_reducible refine r_chn ?_ | with_reducible refine r_bm ?_ | ((with_reducible refine r_oN ?_); (try dsimp only)) | ((with_reducible refine r_oS ?_); (try dsimp only)) | with_reducible refine r_esC ?_ | with_reducible refine r_esN ?_ | with_reducible refine r_sub ?_ | with_reducible refine r_tsC ?_ | with_reducible refine r_tsN ?_ | with_reducible refine r_iSeq ?_ | with_reducible refine r_iRng ?_ | with_reducible refine r_iEnum ?_ | with_reducible refine r_nm ?_ | ((with_reducible refine r_tp (xs := ?xs) ?g0 ?g1 ?_); (case g0 => exact rfl); (case g1 => exact rfl)) | with_reducible refine m_t0 ?_ | with_reducible refine m_t1 ?_ | with_reducible refine m_t2 ?_ | with_reducible refine m_l0 ?_ | with_reducible refine m_l1 ?_ | with_reducible refine m_l3 ?_ | with_reducible refine r_addI ?_ | with_reducible refine r_subI ?_ | with_reducible refine r_mulI ?_ ?_ | with_reducible refine r_modI ?_ ?_ | with_reducible refine a_tt ?_ ?_ | with_reducible refine r_fdivI ?_ ?_ ?_ | with_reducible refine x_t1 ?_ ?_ ?_ | with_reducible refine r_powI ?_ ?_ ?_ ?_ | ((with_reducible refine a_ll (f := ?f) (g := ?g) ?g0 ?g1 ?_ ?_); (case g0 => walk_at "pg"); (case g1 => walk_at "pg")) | ((with_reducible refine x_l1 (i := ?i) ?g0 ?_ ?_ ?_); (case g0 => walk_at "pg")) | (with_reducible refine r_on (show partD none = some none from rfl) ?_) | (with_reducible refine r_on (show partD (some (D.int _)) = some (some _) from rfl) ?_) | with_reducible refine s_tt ?_ ?_ | with_reducible refine s_tf ?_ ?_ | ((with_reducible refine s_lt (f := ?f) ?g0 ?_ ?_); (case g0 => walk_at "pg")) | ((with_reducible refine s_lf (f := ?f) ?g0 ?_ ?_); (case g0 => walk_at "pg")) | with_reducible refine n_t ?_ | with_reducible refine l_t ?_ | with_reducible refine t_t ?_ | with_reducible refine b_abs ?_ | with_reducible refine b_int ?_ | with_reducible refine b_intb ?_ | with_reducible refine b_max ?_ | with_reducible refine b_min ?_ | ((with_reducible refine n_l (f := ?f) ?g0 ?_); (case g0 => walk_at "pg")) | ((with_reducible refine l_l (f := ?f) ?g0 ?_); (case g0 => walk_at "pg")) | ((with_reducible refine t_l (f := ?f) ?g0 ?_); (case g0 => walk_at "pg")) | with_reducible refine i_tn ?_ ?_ | with_reducible refine i_t ?_ ?_ ?_ | ((with_reducible refine i_l (f := ?f) ?g0 ?_ ?_ ?_); (case g0 => walk_at "pg")) | with_reducible refine w_e ?_ ?_ ?_ | ((with_reducible refine w_l (f := ?f) ?g0 ?_ ?_ ?_); (case g0 => walk_at "pg")) | with_reducible refine p_e ?_ ?_ | ((with_reducible refine p_l (f := ?f) ?g0 ?_ ?_); (case g0 => walk_at "pg")) | with_reducible refine c_lt ?_ | with_reducible refine c_le ?_ | with_reducible refine c_gt ?_ | with_reducible refine c_ge ?_ | with_reducible refine c_eq ?_ | with_reducible refine c_ne ?_ | with_reducible refine c_is ?_ | with_reducible refine c_isn ?_ | ((with_reducible refine t_bl (fun hb => ?_) (fun hb => ?_)) <;> ((try (cases hb; done)); (try simp only [decide_eq_true_eq, decide_eq_false_iff_not, Bool.not_eq_true', Bool.not_eq_false'] at hb))) | ((with_reducible refine t_and (fun hb => ?_) (fun hb => ?_)) <;> ((try (cases hb; done)); (try simp only [decide_eq_true_eq, decide_eq_false_iff_not, Bool.not_eq_true', Bool.not_eq_false'] at hb))) | with_reducible refine t_nb ?_ | with_reducible refine t_neg ?_ | with_reducible refine on_if ?_ | with_reducible refine g_r1 ?_ ?_ ?_ | with_reducible refine g_r2 ?_ ?_ ?_ ?_ ?_ | with_reducible refine g_t ?_ | ((with_reducible refine g_l (f := ?f) ?g0 ?_); (case g0 => walk_at "pg")) | with_reducible refine o_val ?_ ?_ | ((with_reducible refine lc_end ?g0 ?_); (case g0 => first | exact rfl | skip)) | with_reducible refine o_exc ?_ ?_ ?_ | with_reducible refine o_new ?_ ?_ ?_ | with_reducible refine isi_i_int ?_ | with_reducible refine isi_i_bool ?_ | with_reducible refine isi_i_tup ?_ | with_reducible refine isi_i_tl ?_ | with_reducible refine isi_b_int ?_ | with_reducible refine isi_b_bool ?_ | with_reducible refine isi_b_tup ?_ | with_reducible refine isi_b_tl ?_ | with_reducible refine isi_s_int ?_ | with_reducible refine isi_s_bool ?_ | with_reducible refine isi_s_tup ?_ | with_reducible refine isi_s_tl ?_ | with_reducible refine isi_n_int ?_ | with_reducible refine isi_n_bool ?_ | with_reducible refine isi_n_tup ?_ | with_reducible refine isi_n_tl ?_ | with_reducible refine isi_t_int ?_ | with_reducible refine isi_t_bool ?_ | with_reducible refine isi_t_tup ?_ | with_reducible refine isi_t_tl ?_ | with_reducible refine isi_u_int ?_ | with_reducible refine isi_u_bool ?_ | with_reducible refine isi_u_tup ?_ | with_reducible refine isi_u_tl ?_ | ((with_reducible refine isi_l_int (xs := ?xs) ?g0 ?_); (case g0 => walk_at "pg")) | ((with_reducible refine isi_l_bool (xs := ?xs) ?g0 ?_); (case g0 => walk_at "pg")) | ((with_reducible refine isi_l_tup (xs := ?xs) ?g0 ?_); (case g0 => walk_at "pg")) | ((with_reducible refine isi_l_tl (xs := ?xs) ?g0 ?_); (case g0 => walk_at "pg")) | ((with_reducible refine isi_ty0 (a := ?a) ?g0 ?g1 ?_); (case g0 => assumption); (case g1 => decide)) | with_reducible refine n_tg ?_ | ((with_reducible refine n_lg (xs := ?xs) ?g0 ?_); (case g0 => walk_at "pg")) | ((with_reducible refine l_lg (xs := ?xs) ?g0 ?_); (case g0 => walk_at "pg")) | ((with_reducible refine i_tg (d := ?d) ?g0 ?_); (case g0 => exact rfl)) | ((with_reducible refine i_lg (xs := ?xs) (d := ?d) ?g0 ?g1 ?_); (case g0 => walk_at "pg"); (case g1 => exact rfl)) | ((with_reducible refine g_lg (xs := ?xs) ?g0 ?_); (case g0 => walk_at "pg")) | ((with_reducible refine m_tg ?g0 ?_); (case g0 => exact Nat.le_of_ble_eq_true rfl)) | ((with_reducible refine m_lg ?g0 ?_); (case g0 => exact Nat.le_of_ble_eq_true rfl)) | ((with_reducible refine n_q (f := ?f) ?g0 ?_); (case g0 => walk_at "pq")) | ((with_reducible refine l_q (f := ?f) ?g0 ?_); (case g0 => walk_at "pq")) | ((with_reducible refine t_q (f := ?f) ?g0 ?_); (case g0 => walk_at "pq")) | ((with_reducible refine i_q (f := ?f) ?g0 ?_ ?_ ?_); (case g0 => walk_at "pq")) | ((with_reducible refine g_q (f := ?f) ?g0 ?_); (case g0 => walk_at "pq")) | ((with_reducible refine isi_q_tl (f := ?f) ?g0 ?_); (case g0 => walk_at "pq")) | ((with_reducible refine st_and ?g0 ?_); (case g0 => walk_at "pst")) | fail)

local macro_rules | `(tactic| walk_at "pd1") => `(tactic| first | with_reducible refine u_w_i ?_ | with_reducible refine u_w_b ?_ | with_reducible refine u_w_s ?_ | with_reducible refine u_w_n ?_ | with_reducible refine u_w_t ?_ | with_reducible refine u_w_u ?_ | ((with_reducible refine u_w_l (xs := ?xs) ?g0 ?_); (case g0 => walk_at "pg")) | fail)
local macro_rules | `(tactic| walk_at "pd1") => `(tactic| first | with_reducible refine u_trim_t ?_ ?_ | ((with_reducible refine u_trim_l (l := ?l) ?g0 ?_ ?_); (case g0 => walk_at "pg")) | fail)
local macro_rules | `(tactic| walk_at "pd1") => `(tactic| first | with_reducible refine u_plus ?_ ?_ ?_ | fail)
local macro_rules | `(tactic| walk_at "pd1") => `(tactic| first | with_reducible refine u_scaled ?_ ?_ ?_ ?_ | fail)
local macro_rules | `(tactic| walk_at "pd1") => `(tactic| first | with_reducible refine u_multiple ?_ ?_ | fail)
local macro_rules | `(tactic| walk_at "pd1") => `(tactic| first | with_reducible refine u_variables ?_ ?_ ?_ | fail)

/-! ### _law_pick -/
def pickF (l : List Int) (a : Nat) (m : Int) : Int := if a + 1 < l.length ∧ 10 < m then (cf l a * 10 + cf l (a + 1)) % m else if a < l.length then cf l a % m else 0
theorem pickF_rng (l : List Int) (a : Nat) (m : Int) (h : 0 < m) : 0 ≤ pickF l a m ∧ pickF l a m < m := by
  unfold pickF
  split
  · exact ⟨Int.emod_nonneg _ (by omega), Int.emod_lt_of_pos _ h⟩
  · split
    · exact ⟨Int.emod_nonneg _ (by omega), Int.emod_lt_of_pos _ h⟩
    · omega
def p__law_pick : List D → Store → Out → Prop := fun ds S o => ∃ (n : Nat) (l : List Int) (a m : Int), ds = [.ref n, .int a, .int m] ∧ S[n]? = some (lstI l) ∧ Dig l ∧ 0 ≤ a ∧ 0 < m ∧ o = .val (.int (pickF l a.toNat m))
theorem vc__law_pick (M : Md) : ∀ ds S o, p__law_pick ds S o → wpSs (M.C (excO S o)) b__law_pick (retO S o) (startD n__law_pick ds) S := by
  rintro ds S o ⟨n, l, a, m, rfl, hn, hd, ha, hm, rfl⟩
  have e1 : (a + 1).toNat = a.toNat + 1 := by omega
  simp only [b__law_pick, startD, List.map, List.length, List.replicate, Nat.reduceAdd, Nat.reduceSub, List.cons_append, List.nil_append]
  repeat' (walk_at "pd1")
  all_goals try (walk_at "ps")
  · have := hd a.toNat
    have h1 : (cf l a.toNat).natAbs < 2 ^ 4 := by omega
    have h2 := log_lt ⟨h1⟩
    have h3 : Nat.log2 (Int.natAbs 10) ≤ 4 := by decide
    omega
  all_goals unfold pickF
  all_goals (try rw [e1])
  · rw [if_pos (by omega)]
  · rw [if_neg (by omega), if_pos (by omega)]
  · rw [if_neg (by omega), if_pos (by omega)]
  · rw [if_neg (by omega), if_neg (by omega)]
theorem u_law_pick {S : Store} {Q : DQ} {E : EQ} {n : Nat} {l : List Int} {a m : Int} (hn : S[n]? = some (lstI l)) (hd : Dig l) (ha : 0 ≤ a) (hm : 0 < m) (h : Q (.int (pickF l a.toNat m)) S) : FnS p__law_pick [.ref n, .int a, .int m] S Q E := ⟨_, ⟨n, l, a, m, rfl, hn, hd, ha, hm, rfl⟩, h⟩
local macro_rules | `(tactic| walk_at "pd1") => `(tactic| first | ((with_reducible refine u_law_pick (l := ?l) ?g0 ?_ ?_ ?_ ?_); (case g0 => walk_at "pg")) | fail)
/-! ### _law_form_at -/
def p__law_form_at : List D → Store → Out → Prop := fun ds S o => ∃ (f : List Int) (d : D) (v : List Int), ds = [tupI f, d] ∧ isSq S d v ∧ f ≠ [] ∧ f.length ≤ 16000000 ∧ f.length ≤ v.length + 1 ∧ Bd 2000 f ∧ Bd 2000 v ∧ o = .val (.int (evL f v))
theorem vc__law_form_at (M : Md) : ∀ ds S o, p__law_form_at ds S o → wpSs (M.C (excO S o)) b__law_form_at (retO S o) (startD n__law_form_at ds) S := by
  rintro ds S o ⟨f, d, v, rfl, hq, hne, hf, hv, bf, bv, rfl⟩
  have hp := len_pos hne
  simp only [b__law_form_at, startD, List.map, List.length, List.replicate, Nat.reduceAdd, Nat.reduceSub, List.cons_append, List.nil_append]
  repeat' (walk_at "pd1")
  all_goals try (walk_at "ps")
  rw [show ((f.length : Int) - 1).toNat = f.length - 1 by omega]
  refine FR_ind (fun k e S' => S' = S ∧ ∃ t w, t = evN k (cf f) v ∧ e = [some (tupI f), some d, some (.int t), w]) ⟨rfl, _, _, ?_, rfl⟩ ?_ ?_
  · unfold evN sumTo
    show cf f 0 = cf f 0 + 0
    omega
  · rintro k y e S' hy ⟨rfl, t, w, ht, rfl⟩
    obtain ⟨hk, rfl⟩ := rngL_get hy
    repeat' (walk_at "pd1")
    all_goals try (walk_at "ps")
    all_goals first
      | (have h1 := log_lt (bf ((1 : Int) + k).toNat)
         have h2 := log_lt (bv ((1 : Int) + k - 1).toNat)
         omega)
      | skip
    refine ⟨rfl, _, _, ?_, rfl⟩
    rw [ht, show ((1 : Int) + k).toNat = k + 1 by omega, show ((1 : Int) + k - 1).toNat = k by omega]
    unfold evN
    rw [sumTo_succ]
    omega
  · rintro e S' ⟨rfl, t, w, ht, rfl⟩
    rw [rngL_len] at ht
    repeat' (walk_at "pd1")
    all_goals try (walk_at "ps")
    rw [ht]
    rfl
theorem u_law_form_at {S : Store} {Q : DQ} {E : EQ} {f v : List Int} {d : D} (hq : isSq S d v) (hne : f ≠ []) (hf : f.length ≤ 16000000) (hv : f.length ≤ v.length + 1) (bf : Bd 2000 f) (bv : Bd 2000 v) (h : Q (.int (evL f v)) S) : FnS p__law_form_at [tupI f, d] S Q E := ⟨_, ⟨f, d, v, rfl, hq, hne, hf, hv, bf, bv, rfl⟩, h⟩
/-! ### _law_whole -/
def p__law_whole : List D → Store → Out → Prop := fun ds S o => p_is_whole ds S o
theorem vc__law_whole (M : Md) : ∀ ds S o, p__law_whole ds S o → wpSs (M.C (excO S o)) b__law_whole (retO S o) (startD n__law_whole ds) S := fun ds S o h => vc_is_whole M ds S o h
theorem u_lw_i {S : Store} {Q : DQ} {E : EQ} {i : Int} (h : Q (.bl true) S) : FnS p__law_whole [.int i] S Q E := u_w_i h
local macro_rules | `(tactic| walk_at "pd1") => `(tactic| first | with_reducible refine u_lw_i ?_ | fail)
/-! ### _law_number -/
def numF (l : List Int) (a : Nat) : Int := let x := pickF l a 10; let m := pickF l (a + 1) 10
  if m = 8 then 10 ^ 30 + x else if m = 9 then 0 - x - 10 ^ 29 else if m % 2 = 1 then 0 - x else x
theorem numF_bd (l : List Int) (a : Nat) : (numF l a).natAbs < 2 ^ 110 := by
  have h := pickF_rng l a 10 (by decide)
  unfold numF
  dsimp only
  split
  · omega
  · split
    · omega
    · split <;> omega
def p__law_number : List D → Store → Out → Prop := fun ds S o => ∃ (n : Nat) (l : List Int) (a : Int), ds = [.ref n, .int a] ∧ S[n]? = some (lstI l) ∧ Dig l ∧ 0 ≤ a ∧ o = .val (.int (numF l a.toNat))
theorem vc__law_number (M : Md) (h20 : M.sp 20 = FnS p__law_pick) : ∀ ds S o, p__law_number ds S o → wpSs (M.C (excO S o)) b__law_number (retO S o) (startD n__law_number ds) S := by
  rintro ds S o ⟨n, l, a, rfl, hn, hd, ha, rfl⟩
  have e1 : (a + 1).toNat = a.toNat + 1 := by omega
  simp only [b__law_number, startD, List.map, List.length, List.replicate, Nat.reduceAdd, Nat.reduceSub, List.cons_append, List.nil_append]
  repeat' (walk_at "pd1")
  all_goals try (walk_at "ps")
  all_goals first
    | exact hd
    | (show Int.natAbs 10 < 2 ^ 64; decide)
    | skip
  all_goals unfold numF
  all_goals dsimp only
  all_goals (try rw [e1] at *)
  · rename_i h1
    rw [if_pos h1]
    rfl
  · rename_i h1 h2
    rw [if_neg h1, if_pos h2]
    rfl
  · rename_i h1 h2 h3
    rw [if_neg h1, if_neg h2, if_pos h3]
  · rename_i h1 h2 h3
    rw [if_neg h1, if_neg h2, if_neg h3]
theorem u_law_number {S : Store} {Q : DQ} {E : EQ} {n : Nat} {l : List Int} {a : Int} (hn : S[n]? = some (lstI l)) (hd : Dig l) (ha : 0 ≤ a) (h : Q (.int (numF l a.toNat)) S) : FnS p__law_number [.ref n, .int a] S Q E := ⟨_, ⟨n, l, a, rfl, hn, hd, ha, rfl⟩, h⟩
local macro_rules | `(tactic| walk_at "pd1") => `(tactic| first | ((with_reducible refine u_law_number (l := ?l) ?g0 ?_ ?_ ?_); (case g0 => walk_at "pg")) | fail)
/-! ### _law_parts -/
def partsL (l : List Int) (a many : Nat) : List Int := (List.range (many + 1)).map fun p => numF l (a + 2 * p)
def p__law_parts : List D → Store → Out → Prop := fun ds S o => ∃ (n : Nat) (l : List Int) (a m : Int), ds = [.ref n, .int a, .int m] ∧ S[n]? = some (lstI l) ∧ Dig l ∧ 0 ≤ a ∧ 0 ≤ m ∧ m ≤ 1000 ∧ o = .new ((partsL l a.toNat m.toNat).map .int)
theorem vc__law_parts (M : Md) (h23 : M.sp 23 = FnS p__law_number) : ∀ ds S o, p__law_parts ds S o → wpSs (M.C (excO S o)) b__law_parts (retO S o) (startD n__law_parts ds) S := by
  rintro ds S o ⟨n, l, a, m, rfl, hn, hd, ha, hm, hm2, rfl⟩
  simp only [b__law_parts, startD, List.map, List.length, List.replicate, Nat.reduceAdd, Nat.reduceSub, List.cons_append, List.nil_append]
  repeat' (walk_at "pd1")
  all_goals try (walk_at "ps")
  rw [show (m + 1).toNat = m.toNat + 1 by omega]
  refine lc_ix (fun k => some (.int (numF l (a.toNat + 2 * k)))) still_none (by rw [rngL_len]; exact big _ (by omega)) (fun k d acc hdk => ?_) ?_
  · obtain ⟨hk, rfl⟩ := rngL_get hdk
    unfold lcStep
    repeat' (walk_at "pd1")
    all_goals try (walk_at "ps")
    all_goals first
      | exact hd
      | (have h1 : k < 2 ^ 10 := by omega
         have h2 := log_lt (x := (k : Int)) (k := 10) ⟨by rw [Int.natAbs_natCast]; exact h1⟩
         rw [show ((0 : Int) + k) = k by omega]
         have h3 : Nat.log2 (Int.natAbs 2) ≤ 4 := by decide
         omega)
      | skip
    rw [show (a + 2 * ((0 : Int) + k)).toNat = a.toNat + 2 * k by omega]
  · rw [filterMap_ints (g := fun k => numF l (a.toNat + 2 * k)), rngL_len]
    repeat' (walk_at "pd1")
    all_goals try (walk_at "ps")
    · exact get_last _ _
/-! ### _law_trim -/
def lt' (l : List Int) : Nat → Nat
  | 0 => 1
  | k + 1 => if cf l k = 0 then lt' l k else max (lt' l k) (k + 1)
theorem lt'_le (l : List Int) : ∀ k, 0 < k → lt' l k ≤ k
  | 0, h => by omega
  | 1, _ => by unfold lt'; split <;> (unfold lt'; omega)
  | k + 2, _ => by
    have := lt'_le l (k + 1) (by omega)
    unfold lt'
    split
    · omega
    · omega
theorem lt'_is (l : List Int) : ∀ k, 0 < k → lt' l k = lastNZ l k
  | 0, h => by omega
  | 1, _ => by unfold lt'; split <;> (unfold lt' lastNZ; rfl)
  | k + 2, _ => by
    have ih := lt'_is l (k + 1) (by omega)
    have hle := lt'_le l (k + 1) (by omega)
    show (if cf l (k + 1) = 0 then lt' l (k + 1) else max (lt' l (k + 1)) (k + 1 + 1)) = if cf l (k + 1) = 0 then lastNZ l (k + 1) else k + 2
    rw [ih] at hle ⊢
    split
    · rfl
    · omega
def p__law_trim : List D → Store → Out → Prop := fun ds S o => ∃ (n : Nat) (l : List Int), ds = [.ref n] ∧ S[n]? = some (lstI l) ∧ l ≠ [] ∧ l.length ≤ 16000000 ∧ o = .val (tupI (trimL l))
theorem vc__law_trim (M : Md) : ∀ ds S o, p__law_trim ds S o → wpSs (M.C (excO S o)) b__law_trim (retO S o) (startD n__law_trim ds) S := by
  rintro ds S o ⟨n, l, rfl, hn, hne, hl, rfl⟩
  have hp := len_pos hne
  simp only [b__law_trim, startD, List.map, List.length, List.replicate, Nat.reduceAdd, Nat.reduceSub, List.cons_append, List.nil_append]
  repeat' (walk_at "pd1")
  all_goals try (walk_at "ps")
  refine FR_ind (fun k e S' => S' = S ∧ ∃ t w, t = (lt' l k : Int) ∧ e = [some (.ref n), some (.int t), w]) ⟨rfl, _, _, rfl, rfl⟩ ?_ ?_
  · rintro k y e S' hy ⟨rfl, t, w, ht, rfl⟩
    obtain ⟨hk, rfl⟩ := rngL_get hy
    repeat' (walk_at "pd1")
    all_goals try (walk_at "ps")
    all_goals rename_i hb
    all_goals rw [show ((0 : Int) + k).toNat = k by omega] at hb
    · refine ⟨rfl, _, _, ?_, rfl⟩
      show max t ((0 : Int) + k + 1) = ((if cf l k = 0 then lt' l k else max (lt' l k) (k + 1) : Nat) : Int)
      rw [if_neg hb]
      omega
    · refine ⟨rfl, _, _, ?_, rfl⟩
      show t = ((if cf l k = 0 then lt' l k else max (lt' l k) (k + 1) : Nat) : Int)
      rw [if_pos hb]
      exact ht
  · rintro e S' ⟨rfl, t, w, ht, rfl⟩
    rw [rngL_len, Int.toNat_natCast, lt'_is l _ hp] at ht
    repeat' (walk_at "pd1")
    all_goals try (walk_at "ps")
    rw [show t.toNat = lastNZ l l.length by omega]
    rfl
theorem u_law_trim {S : Store} {Q : DQ} {E : EQ} {n : Nat} {l : List Int} (hn : S[n]? = some (lstI l)) (hne : l ≠ []) (hl : l.length ≤ 16000000) (h : Q (tupI (trimL l)) S) : FnS p__law_trim [.ref n] S Q E := ⟨_, ⟨n, l, rfl, hn, hne, hl, rfl⟩, h⟩
local macro_rules | `(tactic| walk_at "pd1") => `(tactic| first | ((with_reducible refine u_law_trim (l := ?l) ?g0 ?_ ?_ ?_); (case g0 => walk_at "pg")) | fail)

end PD

set_option Elab.async false
set_option linter.all false
set_option maxRecDepth 100000
set_option maxHeartbeats 1000000
namespace PD
open PySem
local macro_rules | `(tactic| walk_at "pg") => `(tactic| first | assumption | exact get_last' _ _ | (refine get_app ?_; walk_at "pg") | fail)
local macro_rules | `(tactic| walk_at "pq") => `(tactic| first | assumption | (refine isSq.app ?_ _; walk_at "pq") | fail)
local macro_rules | `(tactic| walk_at "pst") => `(tactic| first | exact still_none | exact still_tup | exact still_kl | exact still_ref (by walk_at "pg") | exact still_q (by walk_at "pq") | (refine still_seq ?_; assumption) | fail)
local macro_rules | `(tactic| walk_at "pe") => `(tactic| first | exact Ext.refl _ | assumption | (refine Ext.trans ?_ (Ext.app _ _); walk_at "pe") | fail)
local macro_rules | `(tactic| walk_at "ps") => `(tactic| first | walk_at "pe" | rfl | ((try simp only [decide_eq_true_eq, decide_eq_false_iff_not, Bool.not_eq_true', Bool.not_eq_false', Bool.not_true, Bool.not_false, List.length_append, List.length_replicate, List.length_cons, List.length_nil, List.length_set, List.length_map, List.length_take, List.length_drop, List.length_range] at *); first | omega | (exfalso; omega)) | fail)
local macro_rules | `(tactic| walk_at "pd1") => `(tactic| first | ((with_reducible refine r_nil ?_); (try dsimp only)) | ((with_reducible refine r_ret ?_); (try dsimp only)) | ((with_reducible refine r_retN ?_); (try dsimp only)) | ((with_reducible refine r_brk ?_); (try dsimp only)) | ((with_reducible refine r_cnt ?_); (try dsimp only)) | ((with_reducible refine r_rse ?_); (try dsimp only)) | ((with_reducible refine r_pas ?_); (try dsimp only)) | ((with_reducible refine r_ex ?_); (try dsimp only)) | with_reducible refine r_seq ?_ | with_reducible refine r_asg ?_ | with_reducible refine r_ifs ?_ | with_reducible refine r_tr ?_ | with_reducible refine r_fr ?_ | ((with_reducible refine r_aug (j := ?j) ?g0 ?_); (case g0 => exact rfl)) | ((with_reducible refine r_var (d := ?d) ?g0 ?_); (case g0 => exact rfl)) | ((with_reducible refine r_call (g := ?g) ?g0 ?_); (case g0 => first | assumption | exact rfl)) | with_reducible refine r_cst ?_ | with_reducible refine r_cmp ?_ | with_reducible refine r_bin ?_ | with_reducible refine r_bi ?_ | with_reducible refine r_ix ?_ | with_reducible refine r_and ?_ | with_reducible refine r_or ?_ | with_reducible refine r_not ?_ | with_reducible refine r_ife ?_ | with_reducible refine r_neg ?_ | with_reducible refine r_sl ?_ | with_reducible refine r_tup ?_ | with_reducible refine r_lst ?_ | with_reducible refine r_lc ?_ | with_reducible refine r_chn ?_ | with_reducible refine r_bm ?_ | ((with_reducible refine r_oN ?_); (try dsimp only)) | ((with_reducible refine r_oS ?_); (try dsimp only)) | with_reducible refine r_esC ?_ | with_reducible refine r_esN ?_ | with_reducible refine r_sub ?_ | with_reducible refine r_tsC ?_ | with_reducible refine r_tsN ?_ | with_reducible refine r_iSeq ?_ | with_reducible refine r_iRng ?_ | with_reducible refine r_iEnum ?_ | with_reducible refine r_nm ?_ | ((with_reducible refine r_tp (xs := ?xs) ?g0 ?g1 ?_); (case g0 => exact rfl); (case g1 => exact rfl)) | with_reducible refine m_t0 ?_ | with_reducible refine m_t1 ?_ | with_reducible refine m_t2 ?_ | with_reducible refine m_l0 ?_ | with_reducible refine m_l1 ?_ | with_reducible refine m_l3 ?_ | with_reducible refine r_addI ?_ | with_reducible refine r_subI ?_ | with_reducible refine r_mulI ?_ ?_ | with_reducible refine r_modI ?_ ?_ | with_reducible refine a_tt ?_ ?_ | with_reducible refine r_fdivI ?_ ?_ ?_ | with_reducible refine x_t1 ?_ ?_ ?_ | with_reducible refine r_powI ?_ ?_ ?_ ?_ | ((with_reducible refine a_ll (f := ?f) (g := ?g) ?g0 ?g1 ?_ ?_); (case g0 => walk_at "pg"); (case g1 => walk_at "pg")) | ((with_reducible refine x_l1 (i := ?i) ?g0 ?_ ?_ ?_); (case g0 => walk_at "pg")) | (with_reducible refine r_on (show partD none = some none from rfl) ?_) | (with_reducible refine r_on (show partD (some (D.int _)) = some (some _) from rfl) ?_) | with_reducible refine s_tt ?_ ?_ | with_reducible refine s_tf ?_ ?_ | ((with_reducible refine s_lt (f := ?f) ?g0 ?_ ?_); (case g0 => walk_at "pg")) | ((with_reducible refine s_lf (f := ?f) ?g0 ?_ ?_); (case g0 => walk_at "pg")) | with_reducible refine n_t ?_ | with_reducible refine l_t ?_ | with_reducible refine t_t ?_ | with_reducible refine b_abs ?_ | with_reducible refine b_int ?_ | with_reducible refine b_intb ?_ | with_reducible refine b_max ?_ | with_reducible refine b_min ?_ | ((with_reducible refine n_l (f := ?f) ?g0 ?_); (case g0 => walk_at "pg")) | ((with_reducible refine l_l (f := ?f) ?g0 ?_); (case g0 => walk_at "pg")) | ((with_reducible refine t_l (f := ?f) ?g0 ?_); (case g0 => walk_at "pg")) | with_reducible refine i_tn ?_ ?_ | with_reducible refine i_t ?_ ?_ ?_ | ((with_reducible refine i_l (f := ?f) ?g0 ?_ ?_ ?_); (case g0 => walk_at "pg")) | with_reducible refine w_e ?_ ?_ ?_ | ((with_reducible refine w_l (f := ?f) ?g0 ?_ ?_ ?_); (case g0 => walk_at "pg")) | with_reducible refine p_e ?_ ?_ | ((with_reducible refine p_l (f := ?f) ?g0 ?_ ?_); (case g0 => walk_at "pg")) | with_reducible refine c_lt ?_ | with_reducible refine c_le ?_ | with_reducible refine c_gt ?_ | with_reducible refine c_ge ?_ | with_reducible refine c_eq ?_ | with_reducible refine c_ne ?_ | with_reducible refine c_is ?_ | with_reducible refine c_isn ?_ | ((with_reducible refine t_bl (fun hb => ?_) (fun hb => ?_)) <;> ((try (cases hb; done)); (try simp only [decide_eq_true_eq, decide_eq_false_iff_not, Bool.not_eq_true', Bool.not_eq_false'] at hb))) | ((with_reducible refine t_and (fun hb => ?_) (fun hb => ?_)) <;> ((try (cases hb; done)); (try simp only [decide_eq_true_eq, decide_eq_false_iff_not, Bool.not_eq_true', Bool.not_eq_false'] at hb))) | with_reducible refine t_nb ?_ | with_reducible refine t_neg ?_ | with_reducible refine on_if ?_ | with_reducible refine g_r1 ?_ ?_ ?_ | with_reducible refine g_r2 ?_ ?_ ?_ ?_ ?_ | with_reducible refine g_t ?_ | ((with_reducible refine g_l (f := ?f) ?g0 ?_); (case g0 => walk_at "pg")) | with_reducible refine o_val ?_ ?_ | ((with_reducible refine lc_end ?g0 ?_); (case g0 => first | exact rfl | skip)) | with_reducible refine o_exc ?_ ?_ ?_ | with_reducible refine o_new ?_ ?_ ?_ | with_reducible refine isi_i_int ?_ | with_reducible refine isi_i_bool ?_ | with_reducible refine isi_i_tup ?_ | with_reducible refine isi_i_tl ?_ | with_reducible refine isi_b_int ?_ | with_reducible refine isi_b_bool ?_ | with_reducible refine isi_b_tup ?_ | with_reducible refine isi_b_tl ?_ | with_reducible refine isi_s_int ?_ | with_reducible refine isi_s_bool ?_ | with_reducible refine isi_s_tup ?_ | with_reducible refine isi_s_tl ?_ | with_reducible refine isi_n_int ?_ | with_reducible refine isi_n_bool ?_ | with_reducible refine isi_n_tup ?_ | with_reducible refine isi_n_tl ?_ | with_reducible refine isi_t_int ?_ | with_reducible refine isi_t_bool ?_ | with_reducible refine isi_t_tup ?_ | with_reducible refine isi_t_tl ?_ | with_reducible refine isi_u_int ?_ | with_reducible refine isi_u_bool ?_ | with_reducible refine isi_u_tup ?_ | with_reducible refine isi_u_tl ?_ | ((with_reducible refine isi_l_int (xs := ?xs) ?g0 ?_); (case g0 => walk_at "pg")) | ((with_reducible refine isi_l_bool (xs := ?xs) ?g0 ?_); (case g0 => walk_at "pg")) | ((with_reducible refine isi_l_tup (xs := ?xs) ?g0 ?_); (case g0 => walk_at "pg")) | ((with_reducible refine isi_l_tl (xs := ?xs) ?g0 ?_); (case g0 => walk_at "pg")) | ((with_reducible refine isi_ty0 (a := ?a) ?g0 ?g1 ?_); (case g0 => assumption); (case g1 => decide)) | with_reducible refine n_tg ?_ | ((with_reducible refine n_lg (xs := ?xs) ?g0 ?_); (case g0 => walk_at "pg")) | ((with_reducible refine l_lg (xs := ?xs) ?g0 ?_); (case g0 => walk_at "pg")) | ((with_reducible refine i_tg (d := ?d) ?g0 ?_); (case g0 => exact rfl)) | ((with_reducible refine i_lg (xs := ?xs) (d := ?d) ?g0 ?g1 ?_); (case g0 => walk_at "pg"); (case g1 => exact rfl)) | ((with_reducible refine g_lg (xs := ?xs) ?g0 ?_); (case g0 => walk_at "pg")) | ((with_reducible refine m_tg ?g0 ?_); (case g0 => exact Nat.le_of_ble_eq_true rfl)) | ((with_reducible refine m_lg ?g0 ?_); (case g0 => exact Nat.le_of_ble_eq_true rfl)) | ((with_reducible refine n_q (f := ?f) ?g0 ?_); (case g0 => walk_at "pq")) | ((with_reducible refine l_q (f := ?f) ?g0 ?_); (case g0 => walk_at "pq")) | ((with_reducible refine t_q (f := ?f) ?g0 ?_); (case g0 => walk_at "pq")) | ((with_reducible refine i_q (f := ?f) ?g0 ?_ ?_ ?_); (case g0 => walk_at "pq")) | ((with_reducible refine g_q (f := ?f) ?g0 ?_); (case g0 => walk_at "pq")) | ((with_reducible refine isi_q_tl (f := ?f) ?g0 ?_); (case g0 => walk_at "pq")) | ((with_reducible refine st_and ?g0 ?_); (case g0 => walk_at "pst")) | fail)

local macro_rules | `(tactic| walk_at "pd1") => `(tactic| first | with_reducible refine u_w_i ?_ | with_reducible refine u_w_b ?_ | with_reducible refine u_w_s ?_ | with_reducible refine u_w_n ?_ | with_reducible refine u_w_t ?_ | with_reducible refine u_w_u ?_ | ((with_reducible refine u_w_l (xs := ?xs) ?g0 ?_); (case g0 => walk_at "pg")) | fail)
local macro_rules | `(tactic| walk_at "pd1") => `(tactic| first | with_reducible refine u_trim_t ?_ ?_ | ((with_reducible refine u_trim_l (l := ?l) ?g0 ?_ ?_); (case g0 => walk_at "pg")) | fail)
local macro_rules | `(tactic| walk_at "pd1") => `(tactic| first | with_reducible refine u_plus ?_ ?_ ?_ | fail)
local macro_rules | `(tactic| walk_at "pd1") => `(tactic| first | with_reducible refine u_scaled ?_ ?_ ?_ ?_ | fail)
local macro_rules | `(tactic| walk_at "pd1") => `(tactic| first | with_reducible refine u_multiple ?_ ?_ | fail)
local macro_rules | `(tactic| walk_at "pd1") => `(tactic| first | with_reducible refine u_variables ?_ ?_ ?_ | fail)

local macro_rules | `(tactic| walk_at "pd1") => `(tactic| first | with_reducible refine u_lw_i ?_ | fail)
local macro_rules | `(tactic| walk_at "pd1") => `(tactic| first | ((with_reducible refine u_law_pick (l := ?l) ?g0 ?_ ?_ ?_ ?_); (case g0 => walk_at "pg")) | fail)
local macro_rules | `(tactic| walk_at "pd1") => `(tactic| first | ((with_reducible refine u_law_number (l := ?l) ?g0 ?_ ?_ ?_); (case g0 => walk_at "pg")) | fail)
local macro_rules | `(tactic| walk_at "pd1") => `(tactic| first | ((with_reducible refine u_law_trim (l := ?l) ?g0 ?_ ?_ ?_); (case g0 => walk_at "pg")) | fail)
/-! ### _law_sum -/
def p__law_sum : List D → Store → Out → Prop := fun ds S o => ∃ (d e : D) (f g : List Int) (t : Int), ds = [d, e, .int t] ∧ isSq S d f ∧ isSq S e g ∧ f ≠ [] ∧ f.length ≤ 1000000 ∧ g.length ≤ 1000000 ∧ Bz 2000 t ∧ Bd 2000 g ∧ o = .val (tupI (trimL (addL f (mulL t g))))
/-- behind k turns of the first loop; of the second -/
def sumA (f : List Int) (n k : Nat) : List Int := (List.range n).map fun i => if i < k then cf f i else 0
def sumB (f g : List Int) (t : Int) (n k : Nat) : List Int := (List.range n).map fun i => cf f i + if i < k then t * cf g i else 0
theorem sumA_len (f : List Int) (n k : Nat) : (sumA f n k).length = n := by unfold sumA; rw [List.length_map, List.length_range]
theorem sumB_len (f g : List Int) (t : Int) (n k : Nat) : (sumB f g t n k).length = n := by unfold sumB; rw [List.length_map, List.length_range]
theorem sumA_zero (f : List Int) (n : Nat) : List.replicate n 0 = sumA f n 0 := by
  refine list_ext (by rw [sumA_len, List.length_replicate]) fun i => ?_
  unfold sumA
  rw [cf_rep, cf_range, if_neg (by omega : ¬ i < 0)]
theorem sumA_step (f : List Int) (n k : Nat) (hk : k < n) : (sumA f n k).set k (cf f k) = sumA f n (k + 1) := by
  refine list_ext (by rw [List.length_set, sumA_len, sumA_len]) fun i => ?_
  rw [cf_set, sumA_len]
  unfold sumA
  rw [cf_range, cf_range]
  by_cases e : k = i
  · subst e
    rw [if_pos ⟨rfl, hk⟩, if_pos hk, if_pos (by omega)]
  · rw [if_neg (fun z => e z.1)]
    by_cases h : i < n
    · rw [if_pos h, if_pos h]
      by_cases h2 : i < k
      · rw [if_pos h2, if_pos (by omega)]
      · rw [if_neg h2, if_neg (by omega)]
    · rw [if_neg h, if_neg h]
theorem sumA_end (f g : List Int) (t : Int) (n : Nat) : sumA f n f.length = sumB f g t n 0 := by
  refine list_ext (by rw [sumA_len, sumB_len]) fun i => ?_
  unfold sumA sumB
  rw [cf_range, cf_range]
  split
  · rw [if_neg (by omega : ¬ i < 0)]
    split
    · omega
    · rw [cf_out (by omega)]
      rfl
  · rfl
theorem cf_sumB (f g : List Int) (t : Int) (n k i : Nat) (hi : i < n) : cf (sumB f g t n k) i = cf f i + if i < k then t * cf g i else 0 := by
  unfold sumB
  rw [cf_range, if_pos hi]
theorem sumB_step (f g : List Int) (t : Int) (n k : Nat) (hk : k < n) : (sumB f g t n k).set k (cf (sumB f g t n k) k + t * cf g k) = sumB f g t n (k + 1) := by
  refine list_ext (by rw [List.length_set, sumB_len, sumB_len]) fun i => ?_
  rw [cf_set, sumB_len, cf_sumB _ _ _ _ _ _ hk]
  by_cases e : k = i
  · subst e
    rw [if_pos ⟨rfl, hk⟩, cf_sumB _ _ _ _ _ _ hk, if_neg (by omega), if_pos (by omega)]
    omega
  · rw [if_neg (fun z => e z.1)]
    unfold sumB
    rw [cf_range, cf_range]
    by_cases h2 : i < k
    · rw [if_pos h2, if_pos (by omega : i < k + 1)]
    · rw [if_neg h2, if_neg (by omega : ¬ i < k + 1)]
theorem sumB_end (f g : List Int) (t : Int) : sumB f g t (max f.length g.length) g.length = addL f (mulL t g) := by
  refine list_ext (by rw [sumB_len, addL_len, mulL_len]) fun i => ?_
  unfold sumB
  rw [cf_range, cf_addL, cf_mulL]
  split
  · split
    · rfl
    · rw [cf_out (l := g) (by omega), Int.mul_zero]
  · rw [cf_out (l := f) (by omega), cf_out (l := g) (by omega), Int.mul_zero]
    rfl
theorem vc__law_sum (M : Md) (h25 : M.sp 25 = FnS p__law_trim) : ∀ ds S o, p__law_sum ds S o → wpSs (M.C (excO S o)) b__law_sum (retO S o) (startD n__law_sum ds) S := by
  rintro ds S o ⟨d, e, f, g, t, rfl, hf, hg, hne, lf, lg, ht, bg, rfl⟩
  have hp := len_pos hne
  simp only [b__law_sum, startD, List.map, List.length, List.replicate, Nat.reduceAdd, Nat.reduceSub, List.cons_append, List.nil_append]
  repeat' (walk_at "pd1")
  all_goals try (walk_at "ps")
  rw [show (max (f.length : Int) (g.length : Int)).toNat = max f.length g.length by omega, sumA_zero f]
  have hN : ∀ k, (sumA f (max f.length g.length) k).length = max f.length g.length := sumA_len _ _
  have hN2 : ∀ k, (sumB f g t (max f.length g.length) k).length = max f.length g.length := sumB_len _ _ _ _
  have hS : ∀ x, S ++ [lstI [0]] ++ [x] = (S ++ [lstI [0]]) ++ [x] := fun _ => rfl
  refine FR_ind (fun k e' S' => S' = S ++ [lstI [0]] ++ [lstI (sumA f (max f.length g.length) k)] ∧ ∃ w, e' = [some d, some e, some (.int t), some (.ref (S ++ [lstI [0]]).length), w]) ⟨rfl, _, rfl⟩ ?_ ?_
  · rintro k y e' S' hy ⟨rfl, w, rfl⟩
    obtain ⟨hk, rfl⟩ := rngL_get hy
    have hk' := hN k
    repeat' (walk_at "pd1")
    all_goals try (walk_at "ps")
    refine ⟨?_, _, rfl⟩
    rw [show ((0 : Int) + k).toNat = k by omega, sumA_step _ _ _ (by omega)]
  · rintro e' S' ⟨rfl, w, rfl⟩
    rw [rngL_len, Int.toNat_natCast, sumA_end f g t]
    repeat' (walk_at "pd1")
    all_goals try (walk_at "ps")
    refine FR_ind (fun k e' S' => S' = S ++ [lstI [0]] ++ [lstI (sumB f g t (max f.length g.length) k)] ∧ ∃ w, e' = [some d, some e, some (.int t), some (.ref (S ++ [lstI [0]]).length), w]) ⟨rfl, _, rfl⟩ ?_ ?_
    · rintro k y e' S' hy ⟨rfl, w, rfl⟩
      obtain ⟨hk, rfl⟩ := rngL_get hy
      have hk' := hN2 k
      repeat' (walk_at "pd1")
      all_goals try (walk_at "ps")
      all_goals first
        | (have h1 := log_lt ht
           have h2 := log_lt (bg ((0 : Int) + k).toNat)
           omega)
        | skip
      refine ⟨?_, _, rfl⟩
      rw [show ((0 : Int) + k).toNat = k by omega, sumB_step _ _ _ _ _ (by omega)]
    · rintro e' S' ⟨rfl, w, rfl⟩
      rw [rngL_len, Int.toNat_natCast, sumB_end]
      have hl : (addL f (mulL t g)).length = max f.length g.length := by rw [addL_len, mulL_len]
      repeat' (walk_at "pd1")
      all_goals try (walk_at "ps")
      exact ne_of_len (by omega)
theorem u_law_sum {S : Store} {Q : DQ} {E : EQ} {d e : D} {f g : List Int} {t : Int} (hf : isSq S d f) (hg : isSq S e g) (hne : f ≠ []) (lf : f.length ≤ 1000000) (lg : g.length ≤ 1000000) (ht : Bz 2000 t) (bg : Bd 2000 g) (h : Q (tupI (trimL (addL f (mulL t g)))) S) : FnS p__law_sum [d, e, .int t] S Q E := ⟨_, ⟨d, e, f, g, t, rfl, hf, hg, hne, lf, lg, ht, bg, rfl⟩, h⟩
/-! ### _law_told, _law_number_told -/
def p__law_told : List D → Store → Out → Prop := fun ds S o => ∃ (d : D) (l : List Int), ds = [tupI l, d] ∧ isSq S d l ∧ l.length ≤ 16000000 ∧ o = .val (.bl true)
theorem vc__law_told (M : Md) (h22 : M.sp 22 = FnS p__law_whole) : ∀ ds S o, p__law_told ds S o → wpSs (M.C (excO S o)) b__law_told (retO S o) (startD n__law_told ds) S := by
  rintro ds S o ⟨d, l, rfl, hq, hl, rfl⟩
  simp only [b__law_told, startD, List.map, List.length, List.replicate, Nat.reduceAdd, Nat.reduceSub, List.cons_append, List.nil_append]
  repeat' (walk_at "pd1")
  all_goals try (walk_at "ps")
  all_goals first
    | (rename_i hb; exact absurd trivial hb)
    | skip
  refine FR_ind (fun k e' S' => S' = S ∧ ∃ w, e' = [some (tupI l), some d, w]) ⟨rfl, _, rfl⟩ ?_ ?_
  · rintro k y e' S' hy ⟨rfl, w, rfl⟩
    obtain ⟨hk, rfl⟩ := rngL_get hy
    repeat' (walk_at "pd1")
    all_goals try (walk_at "ps")
    all_goals first
      | (rename_i hb; exact absurd trivial hb)
      | skip
    exact ⟨rfl, _, rfl⟩
  · rintro e' S' ⟨rfl, w, rfl⟩
    repeat' (walk_at "pd1")
    all_goals try (walk_at "ps")
theorem u_law_told {S : Store} {Q : DQ} {E : EQ} {d : D} {l m : List Int} (hq : isSq S d m) (e : l = m) (hl : l.length ≤ 16000000) (h : Q (.bl true) S) : FnS p__law_told [tupI l, d] S Q E := by
  subst e
  exact ⟨_, ⟨d, l, rfl, hq, hl, rfl⟩, h⟩
def p__law_number_told : List D → Store → Out → Prop := fun ds S o => ∃ i : Int, ds = [.int i, .int i] ∧ o = .val (.bl true)
theorem vc__law_number_told (M : Md) (h22 : M.sp 22 = FnS p__law_whole) : ∀ ds S o, p__law_number_told ds S o → wpSs (M.C (excO S o)) b__law_number_told (retO S o) (startD n__law_number_told ds) S := by
  rintro ds S o ⟨i, rfl, rfl⟩
  simp only [b__law_number_told, startD, List.map, List.length, List.replicate, Nat.reduceAdd, Nat.reduceSub, List.cons_append, List.nil_append]
  repeat' (walk_at "pd1")
  all_goals try (walk_at "ps")
  simp
theorem u_law_number_told {S : Store} {Q : DQ} {E : EQ} {i j : Int} (e : i = j) (h : Q (.bl true) S) : FnS p__law_number_told [.int i, .int j] S Q E := by
  subst e
  exact ⟨_, ⟨i, rfl, rfl⟩, h⟩

end PD

set_option Elab.async false
set_option linter.all false
set_option maxRecDepth 100000
set_option maxHeartbeats 1000000
namespace PD
open PySem
local macro_rules | `(tactic| walk_at "pg") => `(tactic| first | assumption | exact get_last' _ _ | (refine get_app ?_; walk_at "pg") | fail)
local macro_rules | `(tactic| walk_at "pq") => `(tactic| first | assumption | (refine isSq.app ?_ _; walk_at "pq") | fail)
local macro_rules | `(tactic| walk_at "pst") => `(tactic| first | exact still_none | exact still_tup | exact still_kl | exact still_ref (by walk_at "pg") | exact still_q (by walk_at "pq") | (refine still_seq ?_; assumption) | fail)
local macro_rules | `(tactic| walk_at "pe") => `(tactic| first | exact Ext.refl _ | assumption | (refine Ext.trans ?_ (Ext.app _ _); walk_at "pe") | fail)
local macro_rules | `(tactic| walk_at "ps") => `(tactic| first | walk_at "pe" | rfl | ((try simp only [decide_eq_true_eq, decide_eq_false_iff_not, Bool.not_eq_true', Bool.not_eq_false', Bool.not_true, Bool.not_false, List.length_append, List.length_replicate, List.length_cons, List.length_nil, List.length_set, List.length_map, List.length_take, List.length_drop, List.length_range] at *); first | omega | (exfalso; omega)) | fail)
local macro_rules | `(tactic| walk_at "pd1") => `(tactic| first | ((with_reducible refine r_nil ?_); (try dsimp only)) | ((with_reducible refine r_ret ?_); (try dsimp only)) | ((with_reducible refine r_retN ?_); (try dsimp only)) | ((with_reducible refine r_brk ?_); (try dsimp only)) | ((with_reducible refine r_cnt ?_); (try dsimp only)) | ((with_reducible refine r_rse ?_); (try dsimp only)) | ((with_reducible refine r_pas ?_); (try dsimp only)) | ((with_reducible refine r_ex ?_); (try dsimp only)) | with_reducible refine r_seq ?_ | with_reducible refine r_asg ?_ | with_reducible refine r_ifs ?_ | with_reducible refine r_tr ?_ | with_reducible refine r_fr ?_ | ((with_reducible refine r_aug (j := ?j) ?g0 ?_); (case g0 => exact rfl)) | ((with_reducible refine r_var (d := ?d) ?g0 ?_); (case g0 => exact rfl)) | ((with_reducible refine r_call (g := ?g) ?g0 ?_); (case g0 => first | assumption | exact rfl)) | with_reducible refine r_cst ?_ | with_reducible refine r_cmp ?_ | with_reducible refine r_bin ?_ | with_reducible refine r_bi ?_ | with_reducible refine r_ix ?_ | with_reducible refine r_and ?_ | with_reducible refine r_or ?_ | with_reducible refine r_not ?_ | with_reducible refine r_ife ?_ | with_reducible refine r_neg ?_ | with_reducible refine r_sl ?_ | with_reducible refine r_tup ?_ | with_reducible refine r_lst ?_ | with_reducible refine r_lc ?_ | with_reducible refine r_chn ?_ | with_reducible refine r_bm ?_ | ((with_reducible refine r_oN ?_); (try dsimp only)) | ((with_reducible refine r_oS ?_); (try dsimp only)) | with_reducible refine r_esC ?_ | with_reducible refine r_esN ?_ | with_reducible refine r_sub ?_ | with_reducible refine r_tsC ?_ | with_reducible refine r_tsN ?_ | with_reducible refine r_iSeq ?_ | with_reducible refine r_iRng ?_ | with_reducible refine r_iEnum ?_ | with_reducible refine r_nm ?_ | ((with_reducible refine r_tp (xs := ?xs) ?g0 ?g1 ?_); (case g0 => exact rfl); (case g1 => exact rfl)) | with_reducible refine m_t0 ?_ | with_reducible refine m_t1 ?_ | with_reducible refine m_t2 ?_ | with_reducible refine m_l0 ?_ | with_reducible refine m_l1 ?_ | with_reducible refine m_l3 ?_ | with_reducible refine r_addI ?_ | with_reducible refine r_subI ?_ | with_reducible refine r_mulI ?_ ?_ | with_reducible refine r_modI ?_ ?_ | with_reducible refine a_tt ?_ ?_ | with_reducible refine r_fdivI ?_ ?_ ?_ | with_reducible refine x_t1 ?_ ?_ ?_ | with_reducible refine r_powI ?_ ?_ ?_ ?_ | ((with_reducible refine a_ll (f := ?f) (g := ?g) ?g0 ?g1 ?_ ?_); (case g0 => walk_at "pg"); (case g1 => walk_at "pg")) | ((with_reducible refine x_l1 (i := ?i) ?g0 ?_ ?_ ?_); (case g0 => walk_at "pg")) | (with_reducible refine r_on (show partD none = some none from rfl) ?_) | (with_reducible refine r_on (show partD (some (D.int _)) = some (some _) from rfl) ?_) | with_reducible refine s_tt ?_ ?_ | with_reducible refine s_tf ?_ ?_ | ((with_reducible refine s_lt (f := ?f) ?g0 ?_ ?_); (case g0 => walk_at "pg")) | ((with_reducible refine s_lf (f := ?f) ?g0 ?_ ?_); (case g0 => walk_at "pg")) | with_reducible refine n_t ?_ | with_reducible refine l_t ?_ | with_reducible refine t_t ?_ | with_reducible refine b_abs ?_ | with_reducible refine b_int ?_ | with_reducible refine b_intb ?_ | with_reducible refine b_max ?_ | with_reducible refine b_min ?_ | ((with_reducible refine n_l (f := ?f) ?g0 ?_); (case g0 => walk_at "pg")) | ((with_reducible refine l_l (f := ?f) ?g0 ?_); (case g0 => walk_at "pg")) | ((with_reducible refine t_l (f := ?f) ?g0 ?_); (case g0 => walk_at "pg")) | with_reducible refine i_tn ?_ ?_ | with_reducible refine i_t ?_ ?_ ?_ | ((with_reducible refine i_l (f := ?f) ?g0 ?_ ?_ ?_); (case g0 => walk_at "pg")) | with_reducible refine w_e ?_ ?_ ?_ | ((with_reducible refine w_l (f := ?f) ?g0 ?_ ?_ ?_); (case g0 => walk_at "pg")) | with_reducible refine p_e ?_ ?_ | ((with_reducible refine p_l (f := ?f) ?g0 ?_ ?_); (case g0 => walk_at "pg")) | with_reducible refine c_lt ?_ | with_reducible refine c_le ?_ | with_reducible refine c_gt ?_ | with_reducible refine c_ge ?_ | with_reducible refine c_eq ?_ | with_reducible refine c_ne ?_ | with_reducible refine c_is ?_ | with_reducible refine c_isn ?_ | ((with_reducible refine t_bl (fun hb => ?_) (fun hb => ?_)) <;> ((try (cases hb; done)); (try simp only [decide_eq_true_eq, decide_eq_false_iff_not, Bool.not_eq_true', Bool.not_eq_false'] at hb))) | ((with_reducible refine t_and (fun hb => ?_) (fun hb => ?_)) <;> ((try (cases hb; done)); (try simp only [decide_eq_true_eq, decide_eq_false_iff_not, Bool.not_eq_true', Bool.not_eq_false'] at hb))) | with_reducible refine t_nb ?_ | with_reducible refine t_neg ?_ | with_reducible refine on_if ?_ | with_reducible refine g_r1 ?_ ?_ ?_ | with_reducible refine g_r2 ?_ ?_ ?_ ?_ ?_ | with_reducible refine g_t ?_ | ((with_reducible refine g_l (f := ?f) ?g0 ?_); (case g0 => walk_at "pg")) | with_reducible refine o_val ?_ ?_ | ((with_reducible refine lc_end ?g0 ?_); (case g0 => first | exact rfl | skip)) | with_reducible refine o_exc ?_ ?_ ?_ | with_reducible refine o_new ?_ ?_ ?_ | with_reducible refine isi_i_int ?_ | with_reducible refine isi_i_bool ?_ | with_reducible refine isi_i_tup ?_ | with_reducible refine isi_i_tl ?_ | with_reducible refine isi_b_int ?_ | with_reducible refine isi_b_bool ?_ | with_reducible refine isi_b_tup ?_ | with_reducible refine isi_b_tl ?_ | with_reducible refine isi_s_int ?_ | with_reducible refine isi_s_bool ?_ | with_reducible refine isi_s_tup ?_ | with_reducible refine isi_s_tl ?_ | with_reducible refine isi_n_int ?_ | with_reducible refine isi_n_bool ?_ | with_reducible refine isi_n_tup ?_ | with_reducible refine isi_n_tl ?_ | with_reducible refine isi_t_int ?_ | with_reducible refine isi_t_bool ?_ | with_reducible refine isi_t_tup ?_ | with_reducible refine isi_t_tl ?_ | with_reducible refine isi_u_int ?_ | with_reducible refine isi_u_bool ?_ | with_reducible refine isi_u_tup ?_ | with_reducible refine isi_u_tl ?_ | ((with_reducible refine isi_l_int (xs := ?xs) ?g0 ?_); (case g0 => walk_at "pg")) | ((with_reducible refine isi_l_bool (xs := ?xs) ?g0 ?_); (case g0 => walk_at "pg")) | ((with_reducible refine isi_l_tup (xs := ?xs) ?g0 ?_); (case g0 => walk_at "pg")) | ((with_reducible refine isi_l_tl (xs := ?xs) ?g0 ?_); (case g0 => walk_at "pg")) | ((with_reducible refine isi_ty0 (a := ?a) ?g0 ?g1 ?_); (case g0 => assumption); (case g1 => decide)) | with_reducible refine n_tg ?_ | ((with_reducible refine n_lg (xs := ?xs) ?g0 ?_); (case g0 => walk_at "pg")) | ((with_reducible refine l_lg (xs := ?xs) ?g0 ?_); (case g0 => walk_at "pg")) | ((with_reducible refine i_tg (d := ?d) ?g0 ?_); (case g0 => exact rfl)) | ((with_reducible refine i_lg (xs := ?xs) (d := ?d) ?g0 ?g1 ?_); (case g0 => walk_at "pg"); (case g1 => exact rfl)) | ((with_reducible refine g_lg (xs := ?xs) ?g0 ?_); (case g0 => walk_at "pg")) | ((with_reducible refine m_tg ?g0 ?_); (case g0 => exact Nat.le_of_ble_eq_true rfl)) | ((with_reducible refine m_lg ?g0 ?_); (case g0 => exact Nat.le_of_ble_eq_true rfl)) | ((with_reducible refine n_q (f := ?f) ?g0 ?_); (case g0 => walk_at "pq")) | ((with_reducible refine l_q (f := ?f) ?g0 ?_); (case g0 => walk_at "pq")) | ((with_reducible refine t_q (f := ?f) ?g0 ?_); (case g0 => walk_at "pq")) | ((with_reducible refine i_q (f := ?f) ?g0 ?_ ?_ ?_); (case g0 => walk_at "pq")) | ((with_reducible refine g_q (f := ?f) ?g0 ?_); (case g0 => walk_at "pq")) | ((with_reducible refine isi_q_tl (f := ?f) ?g0 ?_); (case g0 => walk_at "pq")) | ((with_reducible refine st_and ?g0 ?_); (case g0 => walk_at "pst")) | fail)

local macro_rules | `(tactic| walk_at "pd1") => `(tactic| first | with_reducible refine u_w_i ?_ | with_reducible refine u_w_b ?_ | with_reducible refine u_w_s ?_ | with_reducible refine u_w_n ?_ | with_reducible refine u_w_t ?_ | with_reducible refine u_w_u ?_ | ((with_reducible refine u_w_l (xs := ?xs) ?g0 ?_); (case g0 => walk_at "pg")) | fail)
local macro_rules | `(tactic| walk_at "pd1") => `(tactic| first | with_reducible refine u_trim_t ?_ ?_ | ((with_reducible refine u_trim_l (l := ?l) ?g0 ?_ ?_); (case g0 => walk_at "pg")) | fail)
local macro_rules | `(tactic| walk_at "pd1") => `(tactic| first | with_reducible refine u_plus ?_ ?_ ?_ | fail)
local macro_rules | `(tactic| walk_at "pd1") => `(tactic| first | with_reducible refine u_scaled ?_ ?_ ?_ ?_ | fail)
local macro_rules | `(tactic| walk_at "pd1") => `(tactic| first | with_reducible refine u_multiple ?_ ?_ | fail)
local macro_rules | `(tactic| walk_at "pd1") => `(tactic| first | with_reducible refine u_variables ?_ ?_ ?_ | fail)

local macro_rules | `(tactic| walk_at "pd1") => `(tactic| first | with_reducible refine u_put_variable ?_ ?_ ?_ ?_ ?_ ?_ | fail)
local macro_rules | `(tactic| walk_at "pd1") => `(tactic| first | with_reducible refine u_lw_i ?_ | fail)
local macro_rules | `(tactic| walk_at "pd1") => `(tactic| first | ((with_reducible refine u_law_pick (l := ?l) ?g0 ?_ ?_ ?_ ?_); (case g0 => walk_at "pg")) | fail)
local macro_rules | `(tactic| walk_at "pd1") => `(tactic| first | ((with_reducible refine u_law_number (l := ?l) ?g0 ?_ ?_ ?_); (case g0 => walk_at "pg")) | fail)
local macro_rules | `(tactic| walk_at "pd1") => `(tactic| first | ((with_reducible refine u_law_trim (l := ?l) ?g0 ?_ ?_ ?_); (case g0 => walk_at "pg")) | fail)

/-! ### _law_put -/
def lputL (f : List Int) (x : Nat) (g : List Int) : List Int := trimL (addL (f.set (x + 1) 0) (mulL (cf f (x + 1)) g))
def p__law_put : List D → Store → Out → Prop := fun ds S o => ∃ (f g : List Int) (z : Int), ds = [tupI f, .int z, tupI g] ∧ 0 ≤ z ∧ f ≠ [] ∧ f.length ≤ 1000000 ∧ g.length ≤ 1000000 ∧ Bd 2000 f ∧ Bd 2000 g ∧ o = .val (tupI (lputL f z.toNat g))
theorem set_ne {f : List Int} {k : Nat} {x : Int} (h : f ≠ []) : f.set k x ≠ [] := ne_of_len (by rw [List.length_set]; exact len_pos h)
theorem vc__law_put (M : Md) (h26 : M.sp 26 = FnS p__law_sum) : ∀ ds S o, p__law_put ds S o → wpSs (M.C (excO S o)) b__law_put (retO S o) (startD n__law_put ds) S := by
  rintro ds S o ⟨f, g, z, rfl, hz, hne, lf, lg, bf, bg, rfl⟩
  have e1 : (z + 1).toNat = z.toNat + 1 := by omega
  simp only [b__law_put, startD, List.map, List.length, List.replicate, Nat.reduceAdd, Nat.reduceSub, List.cons_append, List.nil_append]
  repeat' (walk_at "pd1")
  all_goals try (walk_at "ps")
  all_goals (try rw [e1])
  · refine u_law_sum (.inr ⟨_, rfl, get_last _ _⟩) (.inl rfl) (set_ne hne) (by rw [List.length_set]; exact lf) lg (bf _) bg ?_
    repeat' (walk_at "pd1")
    all_goals try (walk_at "ps")
  · rename_i hb
    refine u_law_sum (.inr ⟨_, rfl, get_last _ _⟩) (.inl rfl) hne lf lg (Bz.sm (by decide) (by decide)) bg ?_
    repeat' (walk_at "pd1")
    all_goals try (walk_at "ps")
    unfold lputL
    rw [cf_out (l := f) (i := z.toNat + 1) (by omega), List.set_eq_of_length_le (by omega)]
theorem u_law_put {S : Store} {Q : DQ} {E : EQ} {f g : List Int} {z : Int} (hz : 0 ≤ z) (hne : f ≠ []) (lf : f.length ≤ 1000000) (lg : g.length ≤ 1000000) (bf : Bd 2000 f) (bg : Bd 2000 g) (h : Q (tupI (lputL f z.toNat g)) S) : FnS p__law_put [tupI f, .int z, tupI g] S Q E := ⟨_, ⟨f, g, z, rfl, hz, hne, lf, lg, bf, bg, rfl⟩, h⟩
/-! ### _law_put_all -/
def lpT (f : List Int) (fs : List (List Int)) : Nat → List Int
  | 0 => [0]
  | k + 1 => if k + 1 < f.length then trimL (addL (lpT f fs k) (mulL (cf f (k + 1)) (fs.getD k []))) else lpT f fs k
theorem lpT_len {f : List Int} {fs : List (List Int)} (h : ∀ g ∈ fs, g.length ≤ 1000000 ∧ Bd 2000 g) : ∀ k, k ≤ fs.length → (lpT f fs k).length ≤ 1000000 ∧ lpT f fs k ≠ []
  | 0, _ => ⟨by show 1 ≤ 1000000; decide, List.cons_ne_nil _ _⟩
  | k + 1, hk => by
    have ih := lpT_len (f := f) h k (by omega)
    unfold lpT
    split
    · have hg := (h _ (getD_fs (fs := fs) (k := k) (by omega))).1
      have hl : (addL (lpT f fs k) (mulL (cf f (k + 1)) (fs.getD k []))).length = max (lpT f fs k).length (fs.getD k []).length := by rw [addL_len, mulL_len]
      have hp := len_pos ih.2
      refine ⟨Nat.le_trans (trim_le _) (by omega), trim_ne (ne_of_len (by omega))⟩
    · exact ih
theorem paR_stay (f : List Int) (k : Nat) (hk : ¬ k + 1 < f.length) : paR f (k + 1) = paR f k := by
  refine list_ext (by rw [paR_len, paR_len]) fun i => ?_
  rw [cf_paR, cf_paR]
  by_cases h : 1 ≤ i ∧ i ≤ k
  · rw [if_pos h, if_pos ⟨h.1, by omega⟩]
  · rw [if_neg h]
    split
    · rw [cf_out (by omega)]
    · rfl
def lputAllL (f : List Int) (fs : List (List Int)) : List Int := trimL (addL (paR f fs.length) (mulL 1 (lpT f fs fs.length)))
def p__law_put_all : List D → Store → Out → Prop := fun ds S o => ∃ (f : List Int) (d : D) (fs : List (List Int)), ds = [tupI f, d] ∧ isFs S d fs ∧ f ≠ [] ∧ f.length ≤ 1000000 ∧ fs.length ≤ 1000000 ∧ Bd 2000 f ∧ (∀ g ∈ fs, g.length ≤ 1000000 ∧ Bd 2000 g) ∧ Bd 2000 (lpT f fs fs.length) ∧ o = .val (tupI (lputAllL f fs))
theorem vc__law_put_all (M : Md) (h26 : M.sp 26 = FnS p__law_sum) : ∀ ds S o, p__law_put_all ds S o → wpSs (M.C (excO S o)) b__law_put_all (retO S o) (startD n__law_put_all ds) S := by
  rintro ds S o ⟨f, d, fs, rfl, hq, hne, lf, lfs, bf, bfs, bt, rfl⟩
  have hp := len_pos hne
  simp only [b__law_put_all, startD, List.map, List.length, List.replicate, Nat.reduceAdd, Nat.reduceSub, List.cons_append, List.nil_append]
  repeat' (walk_at "pd1")
  refine n_fs (hq.app _) ?_
  repeat' (walk_at "pd1")
  all_goals try (walk_at "ps")
  refine FR_ind (fun k e S' => S' = S ++ [lstI (paR f k)] ∧ ∃ w, e = [some (tupI f), some d, some (.ref S.length), some (tupI (lpT f fs k)), w]) ⟨by rw [paR_zero], _, rfl⟩ ?_ ?_
  · rintro k y e S' hy ⟨rfl, w, rfl⟩
    obtain ⟨hk, rfl⟩ := rngL_get hy
    have e1 : ((0 : Int) + k + 1).toNat = k + 1 := by omega
    have e0 : ((0 : Int) + k).toNat = k := by omega
    have hl := paR_len f k
    have hg := bfs _ (getD_fs (fs := fs) (k := k) (by omega))
    have ht := lpT_len (f := f) bfs k (by omega)
    repeat' (walk_at "pd1")
    all_goals try (walk_at "ps")
    all_goals rename_i hb
    · refine i_fs (hq.app _) (by omega) (by omega) ?_
      rw [e0]
      repeat' (walk_at "pd1")
      all_goals try (walk_at "ps")
      rw [e1]
      refine u_law_sum (.inl rfl) (.inl rfl) ht.2 ht.1 hg.1 (bf _) hg.2 ?_
      repeat' (walk_at "pd1")
      all_goals try (walk_at "ps")
      rw [e1]
      refine ⟨by rw [paR_step f k (by omega)], some (.int (0 + k)), ?_⟩
      show _ = [some (tupI f), some d, some (.ref S.length), some (tupI (if k + 1 < f.length then trimL (addL (lpT f fs k) (mulL (cf f (k + 1)) (fs.getD k []))) else lpT f fs k)), some (.int (0 + k))]
      rw [if_pos (by omega)]
      rfl
    · refine ⟨by rw [paR_stay f k (by omega)], some (.int (0 + k)), ?_⟩
      show _ = [some (tupI f), some d, some (.ref S.length), some (tupI (if k + 1 < f.length then trimL (addL (lpT f fs k) (mulL (cf f (k + 1)) (fs.getD k []))) else lpT f fs k)), some (.int (0 + k))]
      rw [if_neg (by omega)]
      rfl
  · rintro e S' ⟨rfl, w, rfl⟩
    rw [rngL_len, Int.toNat_natCast]
    have hl := paR_len f fs.length
    have ht := lpT_len (f := f) bfs fs.length (Nat.le_refl _)
    repeat' (walk_at "pd1")
    refine u_law_sum (.inr ⟨_, rfl, get_last _ _⟩) (.inl rfl) (ne_of_len (by omega)) (by omega) ht.1 (Bz.sm (by decide) (by decide)) bt ?_
    repeat' (walk_at "pd1")
    all_goals try (walk_at "ps")
theorem u_law_put_all {S : Store} {Q : DQ} {E : EQ} {f : List Int} {d : D} {fs : List (List Int)} (hq : isFs S d fs) (hne : f ≠ []) (hf : f.length ≤ 1000000) (hfs : fs.length ≤ 1000000) (bf : Bd 2000 f) (bfs : ∀ g ∈ fs, g.length ≤ 1000000 ∧ Bd 2000 g) (bt : Bd 2000 (lpT f fs fs.length)) (h : Q (tupI (lputAllL f fs)) S) : FnS p__law_put_all [tupI f, d] S Q E := ⟨_, ⟨f, d, fs, rfl, hq, hne, hf, hfs, bf, bfs, bt, rfl⟩, h⟩

end PD

set_option Elab.async false
set_option linter.all false
set_option maxRecDepth 100000
set_option maxHeartbeats 1000000
namespace PD
open PySem
local macro_rules | `(tactic| walk_at "pg") => `(tactic| first | assumption | exact get_last' _ _ | (refine get_app ?_; walk_at "pg") | fail)
local macro_rules | `(tactic| walk_at "pq") => `(tactic| first | assumption | (refine isSq.app ?_ _; walk_at "pq") | fail)
local macro_rules | `(tactic| walk_at "pst") => `(tactic| first | exact still_none | exact still_tup | exact still_kl | exact still_ref (by walk_at "pg") | exact still_q (by walk_at "pq") | (refine still_seq ?_; assumption) | fail)
local macro_rules | `(tactic| walk_at "pe") => `(tactic| first | exact Ext.refl _ | assumption | (refine Ext.trans ?_ (Ext.app _ _); walk_at "pe") | fail)
local macro_rules | `(tactic| walk_at "ps") => `(tactic| first | walk_at "pe" | rfl | ((try simp only [decide_eq_true_eq, decide_eq_false_iff_not, Bool.not_eq_true', Bool.not_eq_false', Bool.not_true, Bool.not_false, List.length_append, List.length_replicate, List.length_cons, List.length_nil, List.length_set, List.length_map, List.length_take, List.length_drop, List.length_range] at *); first | omega | (exfalso; omega)) | fail)
local macro_rules | `(tactic| walk_at "pd1") => `(tactic| first | ((with_reducible refine r_nil ?_); (try dsimp only)) | ((with_reducible refine r_ret ?_); (try dsimp only)) | ((with_reducible refine r_retN ?_); (try dsimp only)) | ((with_reducible refine r_brk ?_); (try dsimp only)) | ((with_reducible refine r_cnt ?_); (try dsimp only)) | ((with_reducible refine r_rse ?_); (try dsimp only)) | ((with_reducible refine r_pas ?_); (try dsimp only)) | ((with_reducible refine r_ex ?_); (try dsimp only)) | with_reducible refine r_seq ?_ | with_reducible refine r_asg ?_ | with_reducible refine r_ifs ?_ | with_reducible refine r_tr ?_ | with_reducible refine r_fr ?_ | ((with_reducible refine r_aug (j := ?j) ?g0 ?_); (case g0 => exact rfl)) | ((with_reducible refine r_var (d := ?d) ?g0 ?_); (case g0 => exact rfl)) | ((with_reducible refine r_call (g := ?g) ?g0 ?_); (case g0 => first | assumption | exact rfl)) | with_reducible refine r_cst ?_ | with_reducible refine r_cmp ?_ | with_reducible refine r_bin ?_ | with_reducible refine r_bi ?_ | with_reducible refine r_ix ?_ | with_reducible refine r_and ?_ | with_reducible refine r_or ?_ | with_reducible refine r_not ?_ | with_reducible refine r_ife ?_ | with_reducible refine r_neg ?_ | with_reducible refine r_sl ?_ | with_reducible refine r_tup ?_ | with_reducible refine r_lst ?_ | with_reducible refine r_lc ?_ | with_reducible refine r_chn ?_ | with_reducible refine r_bm ?_ | ((with_reducible refine r_oN ?_); (try dsimp only)) | ((with_reducible refine r_oS ?_); (try dsimp only)) | with_reducible refine r_esC ?_ | with_reducible refine r_esN ?_ | with_reducible refine r_sub ?_ | with_reducible refine r_tsC ?_ | with_reducible refine r_tsN ?_ | with_reducible refine r_iSeq ?_ | with_reducible refine r_iRng ?_ | with_reducible refine r_iEnum ?_ | with_reducible refine r_nm ?_ | ((with_reducible refine r_tp (xs := ?xs) ?g0 ?g1 ?_); (case g0 => exact rfl); (case g1 => exact rfl)) | with_reducible refine m_t0 ?_ | with_reducible refine m_t1 ?_ | with_reducible refine m_t2 ?_ | with_reducible refine m_l0 ?_ | with_reducible refine m_l1 ?_ | with_reducible refine m_l3 ?_ | with_reducible refine r_addI ?_ | with_reducible refine r_subI ?_ | with_reducible refine r_mulI ?_ ?_ | with_reducible refine r_modI ?_ ?_ | with_reducible refine a_tt ?_ ?_ | with_reducible refine r_fdivI ?_ ?_ ?_ | with_reducible refine x_t1 ?_ ?_ ?_ | with_reducible refine r_powI ?_ ?_ ?_ ?_ | ((with_reducible refine a_ll (f := ?f) (g := ?g) ?g0 ?g1 ?_ ?_); (case g0 => walk_at "pg"); (case g1 => walk_at "pg")) | ((with_reducible refine x_l1 (i := ?i) ?g0 ?_ ?_ ?_); (case g0 => walk_at "pg")) | (with_reducible refine r_on (show partD none = some none from rfl) ?_) | (with_reducible refine r_on (show partD (some (D.int _)) = some (some _) from rfl) ?_) | with_reducible refine s_tt ?_ ?_ | with_reducible refine s_tf ?_ ?_ | ((with_reducible refine s_lt (f := ?f) ?g0 ?_ ?_); (case g0 => walk_at "pg")) | ((with_reducible refine s_lf (f := ?f) ?g0 ?_ ?_); (case g0 => walk_at "pg")) | with_reducible refine n_t ?_ | with_reducible refine l_t ?_ | with_reducible refine t_t ?_ | with_reducible refine b_abs ?_ | with_reducible refine b_int ?_ | with_reducible refine b_intb ?_ | with_reducible refine b_max ?_ | with_reducible refine b_min ?_ | ((with_reducible refine n_l (f := ?f) ?g0 ?_); (case g0 => walk_at "pg")) | ((with_reducible refine l_l (f := ?f) ?g0 ?_); (case g0 => walk_at "pg")) | ((with_reducible refine t_l (f := ?f) ?g0 ?_); (case g0 => walk_at "pg")) | with_reducible refine i_tn ?_ ?_ | with_reducible refine i_t ?_ ?_ ?_ | ((with_reducible refine i_l (f := ?f) ?g0 ?_ ?_ ?_); (case g0 => walk_at "pg")) | with_reducible refine w_e ?_ ?_ ?_ | ((with_reducible refine w_l (f := ?f) ?g0 ?_ ?_ ?_); (case g0 => walk_at "pg")) | with_reducible refine p_e ?_ ?_ | ((with_reducible refine p_l (f := ?f) ?g0 ?_ ?_); (case g0 => walk_at "pg")) | with_reducible refine c_lt ?_ | with_reducible refine c_le ?_ | with_reducible refine c_gt ?_ | with_reducible refine c_ge ?_ | with_reducible refine c_eq ?_ | with_reducible refine c_ne ?_ | with_reducible refine c_is ?_ | with_reducible refine c_isn ?_ | ((with_reducible refine t_bl (fun hb => ?_) (fun hb => ?_)) <;> ((try (cases hb; done)); (try simp only [decide_eq_true_eq, decide_eq_false_iff_not, Bool.not_eq_true', Bool.not_eq_false'] at hb))) | ((with_reducible refine t_and (fun hb => ?_) (fun hb => ?_)) <;> ((try (cases hb; done)); (try simp only [decide_eq_true_eq, decide_eq_false_iff_not, Bool.not_eq_true', Bool.not_eq_false'] at hb))) | with_reducible refine t_nb ?_ | with_reducible refine t_neg ?_ | with_reducible refine on_if ?_ | with_reducible refine g_r1 ?_ ?_ ?_ | with_reducible refine g_r2 ?_ ?_ ?_ ?_ ?_ | with_reducible refine g_t ?_ | ((with_reducible refine g_l (f := ?f) ?g0 ?_); (case g0 => walk_at "pg")) | with_reducible refine o_val ?_ ?_ | ((with_reducible refine lc_end ?g0 ?_); (case g0 => first | exact rfl | skip)) | with_reducible refine o_exc ?_ ?_ ?_ | with_reducible refine o_new ?_ ?_ ?_ | with_reducible refine isi_i_int ?_ | with_reducible refine isi_i_bool ?_ | with_reducible refine isi_i_tup ?_ | with_reducible refine isi_i_tl ?_ | with_reducible refine isi_b_int ?_ | with_reducible refine isi_b_bool ?_ | with_reducible refine isi_b_tup ?_ | with_reducible refine isi_b_tl ?_ | with_reducible refine isi_s_int ?_ | with_reducible refine isi_s_bool ?_ | with_reducible refine isi_s_tup ?_ | with_reducible refine isi_s_tl ?_ | with_reducible refine isi_n_int ?_ | with_reducible refine isi_n_bool ?_ | with_reducible refine isi_n_tup ?_ | with_reducible refine isi_n_tl ?_ | with_reducible refine isi_t_int ?_ | with_reducible refine isi_t_bool ?_ | with_reducible refine isi_t_tup ?_ | with_reducible refine isi_t_tl ?_ | with_reducible refine isi_u_int ?_ | with_reducible refine isi_u_bool ?_ | with_reducible refine isi_u_tup ?_ | with_reducible refine isi_u_tl ?_ | ((with_reducible refine isi_l_int (xs := ?xs) ?g0 ?_); (case g0 => walk_at "pg")) | ((with_reducible refine isi_l_bool (xs := ?xs) ?g0 ?_); (case g0 => walk_at "pg")) | ((with_reducible refine isi_l_tup (xs := ?xs) ?g0 ?_); (case g0 => walk_at "pg")) | ((with_reducible refine isi_l_tl (xs := ?xs) ?g0 ?_); (case g0 => walk_at "pg")) | ((with_reducible refine isi_ty0 (a := ?a) ?g0 ?g1 ?_); (case g0 => assumption); (case g1 => decide)) | with_reducible refine n_tg ?_ | ((with_reducible refine n_lg (xs := ?xs) ?g0 ?_); (case g0 => walk_at "pg")) | ((with_reducible refine l_lg (xs := ?xs) ?g0 ?_); (case g0 => walk_at "pg")) | ((with_reducible refine i_tg (d := ?d) ?g0 ?_); (case g0 => exact rfl)) | ((with_reducible refine i_lg (xs := ?xs) (d := ?d) ?g0 ?g1 ?_); (case g0 => walk_at "pg"); (case g1 => exact rfl)) | ((with_reducible refine g_lg (xs := ?xs) ?g0 ?_); (case g0 => walk_at "pg")) | ((with_reducible refine m_tg ?g0 ?_); (case g0 => exact Nat.le_of_ble_eq_true rfl)) | ((with_reducible refine m_lg ?g0 ?_); (case g0 => exact Nat.le_of_ble_eq_true rfl)) | ((with_reducible refine n_q (f := ?f) ?g0 ?_); (case g0 => walk_at "pq")) | ((with_reducible refine l_q (f := ?f) ?g0 ?_); (case g0 => walk_at "pq")) | ((with_reducible refine t_q (f := ?f) ?g0 ?_); (case g0 => walk_at "pq")) | ((with_reducible refine i_q (f := ?f) ?g0 ?_ ?_ ?_); (case g0 => walk_at "pq")) | ((with_reducible refine g_q (f := ?f) ?g0 ?_); (case g0 => walk_at "pq")) | ((with_reducible refine isi_q_tl (f := ?f) ?g0 ?_); (case g0 => walk_at "pq")) | ((with_reducible refine st_and ?g0 ?_); (case g0 => walk_at "pst")) | fail)

local macro_rules | `(tactic| walk_at "pd1") => `(tactic| first | with_reducible refine u_w_i ?_ | with_reducible refine u_w_b ?_ | with_reducible refine u_w_s ?_ | with_reducible refine u_w_n ?_ | with_reducible refine u_w_t ?_ | with_reducible refine u_w_u ?_ | ((with_reducible refine u_w_l (xs := ?xs) ?g0 ?_); (case g0 => walk_at "pg")) | fail)
local macro_rules | `(tactic| walk_at "pd1") => `(tactic| first | with_reducible refine u_trim_t ?_ ?_ | ((with_reducible refine u_trim_l (l := ?l) ?g0 ?_ ?_); (case g0 => walk_at "pg")) | fail)
local macro_rules | `(tactic| walk_at "pd1") => `(tactic| first | with_reducible refine u_plus ?_ ?_ ?_ | fail)
local macro_rules | `(tactic| walk_at "pd1") => `(tactic| first | with_reducible refine u_scaled ?_ ?_ ?_ ?_ | fail)
local macro_rules | `(tactic| walk_at "pd1") => `(tactic| first | with_reducible refine u_multiple ?_ ?_ | fail)
local macro_rules | `(tactic| walk_at "pd1") => `(tactic| first | with_reducible refine u_variables ?_ ?_ ?_ | fail)

local macro_rules | `(tactic| walk_at "pd1") => `(tactic| first | with_reducible refine u_put_variable ?_ ?_ ?_ ?_ ?_ ?_ | fail)
local macro_rules | `(tactic| walk_at "pd1") => `(tactic| first | with_reducible refine u_lw_i ?_ | fail)
local macro_rules | `(tactic| walk_at "pd1") => `(tactic| first | ((with_reducible refine u_law_pick (l := ?l) ?g0 ?_ ?_ ?_ ?_); (case g0 => walk_at "pg")) | fail)
local macro_rules | `(tactic| walk_at "pd1") => `(tactic| first | ((with_reducible refine u_law_number (l := ?l) ?g0 ?_ ?_ ?_); (case g0 => walk_at "pg")) | fail)
local macro_rules | `(tactic| walk_at "pd1") => `(tactic| first | ((with_reducible refine u_law_trim (l := ?l) ?g0 ?_ ?_ ?_); (case g0 => walk_at "pg")) | fail)

/-! ### _law_moved -/
/-- behind k turns, s where it is cut, b how far it moves -/
def mvE (f : List Int) (s b k i : Nat) : Int := if i = 0 then cf f 0 else if i ≤ s then (if i ≤ k then cf f i else 0) else if i ≤ s + b then 0 else if i - b ≤ k then cf f (i - b) else 0
def mvK (f : List Int) (s b k : Nat) : List Int := (List.range (f.length + b)).map (mvE f s b k)
theorem mvK_len (f : List Int) (s b k : Nat) : (mvK f s b k).length = f.length + b := by unfold mvK; rw [List.length_map, List.length_range]
theorem mv_zero (f : List Int) (s b : Nat) (hf : 0 < f.length) : (List.replicate (f.length + b) 0).set 0 (cf f 0) = mvK f s b 0 := by
  refine list_ext (by rw [mvK_len, List.length_set, List.length_replicate]) fun i => ?_
  rw [cf_set, List.length_replicate, cf_rep]
  unfold mvK
  rw [cf_range]
  by_cases h : 0 = i
  · subst h
    rw [if_pos ⟨rfl, by omega⟩, if_pos (by omega)]
    unfold mvE
    rw [if_pos rfl]
  · rw [if_neg (fun z => h z.1)]
    split
    · unfold mvE
      rw [if_neg (by omega)]
      split
      · rw [if_neg (by omega)]
      · split
        · rfl
        · rw [if_neg (by omega)]
    · rfl
theorem mv_step1 (f : List Int) (s b k : Nat) (hk : k + 1 < f.length) (h : s ≤ k) : (mvK f s b k).set (k + b + 1) (cf f (k + 1)) = mvK f s b (k + 1) := by
  refine list_ext (by rw [mvK_len, List.length_set, mvK_len]) fun i => ?_
  rw [cf_set, mvK_len]
  unfold mvK
  rw [cf_range, cf_range]
  by_cases e : k + b + 1 = i
  · subst e
    rw [if_pos ⟨rfl, by omega⟩, if_pos (by omega)]
    unfold mvE
    rw [if_neg (by omega), if_neg (by omega), if_neg (by omega), if_pos (by omega), show k + b + 1 - b = k + 1 by omega]
  · rw [if_neg (fun z => e z.1)]
    split
    · unfold mvE
      split
      · rfl
      · split
        · rw [if_pos (by omega), if_pos (by omega)]
        · split
          · rfl
          · by_cases h2 : i - b ≤ k
            · rw [if_pos h2, if_pos (by omega)]
            · rw [if_neg h2, if_neg (by omega)]
    · rfl
theorem mv_step2 (f : List Int) (s b k : Nat) (hk : k + 1 < f.length) (h : k < s) : (mvK f s b k).set (k + 1) (cf f (k + 1)) = mvK f s b (k + 1) := by
  refine list_ext (by rw [mvK_len, List.length_set, mvK_len]) fun i => ?_
  rw [cf_set, mvK_len]
  unfold mvK
  rw [cf_range, cf_range]
  by_cases e : k + 1 = i
  · subst e
    rw [if_pos ⟨rfl, by omega⟩, if_pos (by omega)]
    unfold mvE
    rw [if_neg (by omega), if_pos (by omega), if_pos (by omega)]
  · rw [if_neg (fun z => e z.1)]
    split
    · unfold mvE
      split
      · rfl
      · split
        · by_cases h2 : i ≤ k
          · rw [if_pos h2, if_pos (by omega)]
          · rw [if_neg h2, if_neg (by omega)]
        · split
          · rfl
          · rw [if_neg (by omega), if_neg (by omega)]
    · rfl
def lmovL (f : List Int) (s b : Nat) : List Int := trimL (mvK f s b (f.length - 1))
def p__law_moved : List D → Store → Out → Prop := fun ds S o => ∃ (f : List Int) (z k : Int), ds = [tupI f, .int z, .int k] ∧ 0 ≤ z ∧ 0 ≤ k ∧ k ≤ 1000 ∧ f ≠ [] ∧ f.length ≤ 100000 ∧ o = .val (tupI (lmovL f z.toNat k.toNat))
theorem vc__law_moved (M : Md) (h25 : M.sp 25 = FnS p__law_trim) : ∀ ds S o, p__law_moved ds S o → wpSs (M.C (excO S o)) b__law_moved (retO S o) (startD n__law_moved ds) S := by
  rintro ds S o ⟨f, z, k, rfl, hz, hk0, hk1, hne, hf, rfl⟩
  have hp := len_pos hne
  simp only [b__law_moved, startD, List.map, List.length, List.replicate, Nat.reduceAdd, Nat.reduceSub, List.cons_append, List.nil_append]
  repeat' (walk_at "pd1")
  all_goals try (walk_at "ps")
  rw [show ((f.length : Int) + k).toNat = f.length + k.toNat by omega, show Int.toNat 0 = 0 from rfl, mv_zero f z.toNat k.toNat hp, show ((f.length : Int) - 1).toNat = f.length - 1 by omega]
  have hN : ∀ j, (mvK f z.toNat k.toNat j).length = f.length + k.toNat := mvK_len _ _ _
  refine FR_ind (fun j e' S' => S' = S ++ [lstI [0]] ++ [lstI (mvK f z.toNat k.toNat j)] ∧ ∃ w, e' = [some (tupI f), some (.int z), some (.int k), some (.ref (S ++ [lstI [0]]).length), w]) ⟨rfl, _, rfl⟩ ?_ ?_
  · rintro j y e' S' hy ⟨rfl, w, rfl⟩
    obtain ⟨hj, rfl⟩ := rngL_get hy
    have hl := hN j
    repeat' (walk_at "pd1")
    all_goals try (walk_at "ps")
    all_goals rename_i hb
    · refine ⟨?_, _, rfl⟩
      rw [show ((0 : Int) + j + k + 1).toNat = j + k.toNat + 1 by omega, show ((0 : Int) + j + 1).toNat = j + 1 by omega, mv_step1 _ _ _ _ (by omega) (by omega)]
    · refine ⟨?_, _, rfl⟩
      rw [show ((0 : Int) + j + 1).toNat = j + 1 by omega, mv_step2 _ _ _ _ (by omega) (by omega)]
  · rintro e' S' ⟨rfl, w, rfl⟩
    rw [rngL_len]
    have hl := hN (f.length - 1)
    repeat' (walk_at "pd1")
    all_goals try (walk_at "ps")
    exact ne_of_len (by omega)
theorem u_law_moved {S : Store} {Q : DQ} {E : EQ} {f : List Int} {z k : Int} (hz : 0 ≤ z) (hk0 : 0 ≤ k) (hk1 : k ≤ 1000) (hne : f ≠ []) (hf : f.length ≤ 100000) (h : Q (tupI (lmovL f z.toNat k.toNat)) S) : FnS p__law_moved [tupI f, .int z, .int k] S Q E := ⟨_, ⟨f, z, k, rfl, hz, hk0, hk1, hne, hf, rfl⟩, h⟩
/-! ### _law_order -/
def p__law_order : List D → Store → Out → Prop := fun ds S o => ∃ f g : List Int, ds = [tupI f, tupI g] ∧ f ≠ [] ∧ g ≠ [] ∧ f.length ≤ 1000000 ∧ g.length ≤ 1000000 ∧ o = .val (.int (ordN f g 0 (max f.length g.length - 1)))
theorem sgn_lt {a b : Int} (h : ¬ a = b) : (1 : Int) - 2 * (if decide (a < b) = true then 1 else 0) = sgn a b := by
  unfold sgn
  rw [if_neg h]
  by_cases h2 : a < b
  · rw [if_pos h2, if_pos (decide_eq_true h2)]
    rfl
  · rw [if_neg h2, if_neg (by simpa using h2)]
    rfl
theorem lg2 (b : Bool) : (Int.natAbs 2).log2 + (if b = true then (1 : Int) else 0).natAbs.log2 < 1000000 := by cases b <;> decide
theorem vc__law_order (M : Md) : ∀ ds S o, p__law_order ds S o → wpSs (M.C (excO S o)) b__law_order (retO S o) (startD n__law_order ds) S := by
  rintro ds S o ⟨f, g, rfl, hf, hg, lf, lg, rfl⟩
  have hpf := len_pos hf
  have hpg := len_pos hg
  simp only [b__law_order, startD, List.map, List.length, List.replicate, Nat.reduceAdd, Nat.reduceSub, List.cons_append, List.nil_append]
  repeat' (walk_at "pd1")
  all_goals try (walk_at "ps")
  rw [show (max (f.length : Int) (g.length : Int) - 1).toNat = max f.length g.length - 1 by omega]
  generalize hn : max f.length g.length - 1 = N
  refine FR_ind (fun k e S' => S' = S ∧ (∃ u v w, e = [some (tupI f), some (tupI g), u, v, w]) ∧ k ≤ N ∧ ordN f g 0 N = ordN f g k (N - k)) ⟨rfl, ⟨_, _, _, rfl⟩, Nat.zero_le _, rfl⟩ ?_ ?_
  · rintro k y e S' hy ⟨rfl, ⟨u, v, w, rfl⟩, hk2, ho⟩
    obtain ⟨hk, rfl⟩ := rngL_get hy
    have e0 : ((1 : Int) + k).toNat = k + 1 := by omega
    obtain ⟨m, hm⟩ : ∃ m, N - k = m + 1 := ⟨N - k - 1, by omega⟩
    have ho2 : ordN f g k (N - k) = if cf f (k + 1) = cf g (k + 1) then ordN f g (k + 1) m else sgn (cf f (k + 1)) (cf g (k + 1)) := by rw [hm]; rfl
    repeat' (walk_at "pd1")
    all_goals try (walk_at "ps")
    all_goals (try rw [e0] at *)
    · exact lg2 _
    · rename_i h1
      rw [sgn_lt h1, ho, ho2, if_neg h1]
    · rename_i h1
      refine ⟨rfl, ⟨_, _, _, rfl⟩, by omega, ?_⟩
      rw [ho, ho2, if_pos h1, show N - (k + 1) = m by omega]
    · exact lg2 _
    · rename_i h0 h1
      have hz : cf g (k + 1) = 0 := cf_out (by omega)
      rw [hz] at ho2
      rw [sgn_lt h1, ho, ho2, if_neg h1]
    · rename_i h0 h1
      have hz : cf g (k + 1) = 0 := cf_out (by omega)
      refine ⟨rfl, ⟨_, _, _, rfl⟩, by omega, ?_⟩
      rw [ho, ho2, if_pos (by rw [h1, hz]), show N - (k + 1) = m by omega]
    · exact lg2 _
    · rename_i h0 h1
      have hz : cf f (k + 1) = 0 := cf_out (by omega)
      rw [hz] at ho2
      rw [sgn_lt h1, ho, ho2, if_neg h1]
    · rename_i h0 h1
      have hz : cf f (k + 1) = 0 := cf_out (by omega)
      refine ⟨rfl, ⟨_, _, _, rfl⟩, by omega, ?_⟩
      rw [ho, ho2, if_pos (by rw [hz]; exact h1), show N - (k + 1) = m by omega]
  · rintro e S' ⟨rfl, ⟨u, v, w, rfl⟩, hk2, ho⟩
    rw [rngL_len, Nat.sub_self] at ho
    have ho2 : ordN f g 0 N = sgn (cf f 0) (cf g 0) := ho
    repeat' (walk_at "pd1")
    all_goals try (walk_at "ps")
    all_goals (try rw [ho2])
    all_goals simp only [show Int.toNat 0 = 0 from rfl] at *
    · rename_i h1
      unfold sgn
      rw [if_pos h1]
    · exact lg2 _
    · rename_i h1
      rw [sgn_lt h1]
theorem u_law_order {S : Store} {Q : DQ} {E : EQ} {f g : List Int} (hf : f ≠ []) (hg : g ≠ []) (lf : f.length ≤ 1000000) (lg : g.length ≤ 1000000) (h : Q (.int (ordN f g 0 (max f.length g.length - 1))) S) : FnS p__law_order [tupI f, tupI g] S Q E := ⟨_, ⟨f, g, rfl, hf, hg, lf, lg, rfl⟩, h⟩

end PD

set_option Elab.async false
set_option linter.all false
set_option maxRecDepth 100000
set_option maxHeartbeats 1000000
namespace PD
open PySem
local macro_rules | `(tactic| walk_at "pg") => `(tactic| first | assumption | exact get_last' _ _ | (refine get_app ?_; walk_at "pg") | fail)
local macro_rules | `(tactic| walk_at "pq") => `(tactic| first | assumption | (refine isSq.app ?_ _; walk_at "pq") | fail)
local macro_rules | `(tactic| walk_at "pst") => `(tactic| first | exact still_none | exact still_tup | exact still_kl | exact still_ref (by walk_at "pg") | exact still_q (by walk_at "pq") | (refine still_seq ?_; assumption) | fail)
local macro_rules | `(tactic| walk_at "pe") => `(tactic| first | exact Ext.refl _ | assumption | (refine Ext.trans ?_ (Ext.app _ _); walk_at "pe") | fail)
local macro_rules | `(tactic| walk_at "ps") => `(tactic| first | walk_at "pe" | rfl | ((try simp only [decide_eq_true_eq, decide_eq_false_iff_not, Bool.not_eq_true', Bool.not_eq_false', Bool.not_true, Bool.not_false, List.length_append, List.length_replicate, List.length_cons, List.length_nil, List.length_set, List.length_map, List.length_take, List.length_drop, List.length_range] at *); first | omega | (exfalso; omega)) | fail)
local macro_rules | `(tactic| walk_at "pd1") => `(tactic| first | ((with_reducible refine r_nil ?_); (try dsimp only)) | ((with_reducible refine r_ret ?_); (try dsimp only)) | ((with_reducible refine r_retN ?_); (try dsimp only)) | ((with_reducible refine r_brk ?_); (try dsimp only)) | ((with_reducible refine r_cnt ?_); (try dsimp only)) | ((with_reducible refine r_rse ?_); (try dsimp only)) | ((with_reducible refine r_pas ?_); (try dsimp only)) | ((with_reducible refine r_ex ?_); (try dsimp only)) | with_reducible refine r_seq ?_ | with_reducible refine r_asg ?_ | with_reducible refine r_ifs ?_ | with_reducible refine r_tr ?_ | with_reducible refine r_fr ?_ | ((with_reducible refine r_aug (j := ?j) ?g0 ?_); (case g0 => exact rfl)) | ((with_reducible refine r_var (d := ?d) ?g0 ?_); (case g0 => exact rfl)) | ((with_reducible refine r_call (g := ?g) ?g0 ?_); (case g0 => first | assumption | exact rfl)) | with_reducible refine r_cst ?_ | with_reducible refine r_cmp ?_ | with_reducible refine r_bin ?_ | with_reducible refine r_bi ?_ | with_reducible refine r_ix ?_ | with_reducible refine r_and ?_ | with_reducible refine r_or ?_ | with_reducible refine r_not ?_ | with_reducible refine r_ife ?_ | with_reducible refine r_neg ?_ | with_reducible refine r_sl ?_ | with_reducible refine r_tup ?_ | with_reducible refine r_lst ?_ | with_reducible refine r_lc ?_ | with_reducible refine r_chn ?_ | with_reducible refine r_bm ?_ | ((with_reducible refine r_oN ?_); (try dsimp only)) | ((with_reducible refine r_oS ?_); (try dsimp only)) | with_reducible refine r_esC ?_ | with_reducible refine r_esN ?_ | with_reducible refine r_sub ?_ | with_reducible refine r_tsC ?_ | with_reducible refine r_tsN ?_ | with_reducible refine r_iSeq ?_ | with_reducible refine r_iRng ?_ | with_reducible refine r_iEnum ?_ | with_reducible refine r_nm ?_ | ((with_reducible refine r_tp (xs := ?xs) ?g0 ?g1 ?_); (case g0 => exact rfl); (case g1 => exact rfl)) | with_reducible refine m_t0 ?_ | with_reducible refine m_t1 ?_ | with_reducible refine m_t2 ?_ | with_reducible refine m_l0 ?_ | with_reducible refine m_l1 ?_ | with_reducible refine m_l3 ?_ | with_reducible refine r_addI ?_ | with_reducible refine r_subI ?_ | with_reducible refine r_mulI ?_ ?_ | with_reducible refine r_modI ?_ ?_ | with_reducible refine a_tt ?_ ?_ | with_reducible refine r_fdivI ?_ ?_ ?_ | with_reducible refine x_t1 ?_ ?_ ?_ | with_reducible refine r_powI ?_ ?_ ?_ ?_ | ((with_reducible refine a_ll (f := ?f) (g := ?g) ?g0 ?g1 ?_ ?_); (case g0 => walk_at "pg"); (case g1 => walk_at "pg")) | ((with_reducible refine x_l1 (i := ?i) ?g0 ?_ ?_ ?_); (case g0 => walk_at "pg")) | (with_reducible refine r_on (show partD none = some none from rfl) ?_) | (with_reducible refine r_on (show partD (some (D.int _)) = some (some _) from rfl) ?_) | with_reducible refine s_tt ?_ ?_ | with_reducible refine s_tf ?_ ?_ | ((with_reducible refine s_lt (f := ?f) ?g0 ?_ ?_); (case g0 => walk_at "pg")) | ((with_reducible refine s_lf (f := ?f) ?g0 ?_ ?_); (case g0 => walk_at "pg")) | with_reducible refine n_t ?_ | with_reducible refine l_t ?_ | with_reducible refine t_t ?_ | with_reducible refine b_abs ?_ | with_reducible refine b_int ?_ | with_reducible refine b_intb ?_ | with_reducible refine b_max ?_ | with_reducible refine b_min ?_ | ((with_reducible refine n_l (f := ?f) ?g0 ?_); (case g0 => walk_at "pg")) | ((with_reducible refine l_l (f := ?f) ?g0 ?_); (case g0 => walk_at "pg")) | ((with_reducible refine t_l (f := ?f) ?g0 ?_); (case g0 => walk_at "pg")) | with_reducible refine i_tn ?_ ?_ | with_reducible refine i_t ?_ ?_ ?_ | ((with_reducible refine i_l (f := ?f) ?g0 ?_ ?_ ?_); (case g0 => walk_at "pg")) | with_reducible refine w_e ?_ ?_ ?_ | ((with_reducible refine w_l (f := ?f) ?g0 ?_ ?_ ?_); (case g0 => walk_at "pg")) | with_reducible refine p_e ?_ ?_ | ((with_reducible refine p_l (f := ?f) ?g0 ?_ ?_); (case g0 => walk_at "pg")) | with_reducible refine c_lt ?_ | with_reducible refine c_le ?_ | with_reducible refine c_gt ?_ | with_reducible refine c_ge ?_ | with_reducible refine c_eq ?_ | with_reducible refine c_ne ?_ | with_reducible refine c_is ?_ | with_reducible refine c_isn ?_ | ((with_reducible refine t_bl (fun hb => ?_) (fun hb => ?_)) <;> ((try (cases hb; done)); (try simp only [decide_eq_true_eq, decide_eq_false_iff_not, Bool.not_eq_true', Bool.not_eq_false'] at hb))) | ((with_reducible refine t_and (fun hb => ?_) (fun hb => ?_)) <;> ((try (cases hb; done)); (try simp only [decide_eq_true_eq, decide_eq_false_iff_not, Bool.not_eq_true', Bool.not_eq_false'] at hb))) | with_reducible refine t_nb ?_ | with_reducible refine t_neg ?_ | with_reducible refine on_if ?_ | with_reducible refine g_r1 ?_ ?_ ?_ | with_reducible refine g_r2 ?_ ?_ ?_ ?_ ?_ | with_reducible refine g_t ?_ | ((with_reducible refine g_l (f := ?f) ?g0 ?_); (case g0 => walk_at "pg")) | with_reducible refine o_val ?_ ?_ | ((with_reducible refine lc_end ?g0 ?_); (case g0 => first | exact rfl | skip)) | with_reducible refine o_exc ?_ ?_ ?_ | with_reducible refine o_new ?_ ?_ ?_ | with_reducible refine isi_i_int ?_ | with_reducible refine isi_i_bool ?_ | with_reducible refine isi_i_tup ?_ | with_reducible refine isi_i_tl ?_ | with_reducible refine isi_b_int ?_ | with_reducible refine isi_b_bool ?_ | with_reducible refine isi_b_tup ?_ | with_reducible refine isi_b_tl ?_ | with_reducible refine isi_s_int ?_ | with_reducible refine isi_s_bool ?_ | with_reducible refine isi_s_tup ?_ | with_reducible refine isi_s_tl ?_ | with_reducible refine isi_n_int ?_ | with_reducible refine isi_n_bool ?_ | with_reducible refine isi_n_tup ?_ | with_reducible refine isi_n_tl ?_ | with_reducible refine isi_t_int ?_ | with_reducible refine isi_t_bool ?_ | with_reducible refine isi_t_tup ?_ | with_reducible refine isi_t_tl ?_ | with_reducible refine isi_u_int ?_ | with_reducible refine isi_u_bool ?_ | with_reducible refine isi_u_tup ?_ | with_reducible refine isi_u_tl ?_ | ((with_reducible refine isi_l_int (xs := ?xs) ?g0 ?_); (case g0 => walk_at "pg")) | ((with_reducible refine isi_l_bool (xs := ?xs) ?g0 ?_); (case g0 => walk_at "pg")) | ((with_reducible refine isi_l_tup (xs := ?xs) ?g0 ?_); (case g0 => walk_at "pg")) | ((with_reducible refine isi_l_tl (xs := ?xs) ?g0 ?_); (case g0 => walk_at "pg")) | ((with_reducible refine isi_ty0 (a := ?a) ?g0 ?g1 ?_); (case g0 => assumption); (case g1 => decide)) | with_reducible refine n_tg ?_ | ((with_reducible refine n_lg (xs := ?xs) ?g0 ?_); (case g0 => walk_at "pg")) | ((with_reducible refine l_lg (xs := ?xs) ?g0 ?_); (case g0 => walk_at "pg")) | ((with_reducible refine i_tg (d := ?d) ?g0 ?_); (case g0 => exact rfl)) | ((with_reducible refine i_lg (xs := ?xs) (d := ?d) ?g0 ?g1 ?_); (case g0 => walk_at "pg"); (case g1 => exact rfl)) | ((with_reducible refine g_lg (xs := ?xs) ?g0 ?_); (case g0 => walk_at "pg")) | ((with_reducible refine m_tg ?g0 ?_); (case g0 => exact Nat.le_of_ble_eq_true rfl)) | ((with_reducible refine m_lg ?g0 ?_); (case g0 => exact Nat.le_of_ble_eq_true rfl)) | ((with_reducible refine n_q (f := ?f) ?g0 ?_); (case g0 => walk_at "pq")) | ((with_reducible refine l_q (f := ?f) ?g0 ?_); (case g0 => walk_at "pq")) | ((with_reducible refine t_q (f := ?f) ?g0 ?_); (case g0 => walk_at "pq")) | ((with_reducible refine i_q (f := ?f) ?g0 ?_ ?_ ?_); (case g0 => walk_at "pq")) | ((with_reducible refine g_q (f := ?f) ?g0 ?_); (case g0 => walk_at "pq")) | ((with_reducible refine isi_q_tl (f := ?f) ?g0 ?_); (case g0 => walk_at "pq")) | ((with_reducible refine st_and ?g0 ?_); (case g0 => walk_at "pst")) | fail)
theorem len_plus : ∀ ds S o, p_plus ds S o → ds.length = 2 := by rintro _ S o ⟨f, g, rfl, _, _, rfl⟩; rfl
theorem ok_plus : ∀ ds S o, p_plus ds S o → refsLts S.length ds = true → WfS S → okO S.length o = true := by rintro _ S o ⟨f, g, rfl, _, _, rfl⟩ _ _; exact ok_t _ _
theorem len_scaled : ∀ ds S o, p_scaled ds S o → ds.length = 2 := by rintro _ S o ⟨n, f, rfl, _, _, _, rfl⟩; rfl
theorem ok_scaled : ∀ ds S o, p_scaled ds S o → refsLts S.length ds = true → WfS S → okO S.length o = true := by rintro _ S o ⟨n, f, rfl, _, _, _, rfl⟩ _ _; exact ok_t _ _
theorem len_minus : ∀ ds S o, p_minus ds S o → ds.length = 2 := by rintro _ S o ⟨f, g, rfl, _, _, _, rfl⟩; rfl
theorem ok_minus : ∀ ds S o, p_minus ds S o → refsLts S.length ds = true → WfS S → okO S.length o = true := by rintro _ S o ⟨f, g, rfl, _, _, _, rfl⟩ _ _; exact ok_t _ _
theorem ok_joined : ∀ ds S o, p_joined ds S o → refsLts S.length ds = true → WfS S → okO S.length o = true := by rintro _ S o ⟨fs, rfl, _, _, rfl⟩ _ _; exact ok_t _ _
theorem len_constant : ∀ ds S o, p_constant ds S o → ds.length = 1 := by rintro _ S o ⟨f, rfl, _, rfl⟩; rfl
theorem ok_constant : ∀ ds S o, p_constant ds S o → refsLts S.length ds = true → WfS S → okO S.length o = true := by rintro _ S o ⟨f, rfl, _, rfl⟩ _ _; rfl
theorem len_multiple : ∀ ds S o, p_multiple ds S o → ds.length = 2 := by rintro _ S o ⟨f, z, x, rfl, _, rfl⟩; rfl
theorem ok_multiple : ∀ ds S o, p_multiple ds S o → refsLts S.length ds = true → WfS S → okO S.length o = true := by rintro _ S o ⟨f, z, x, rfl, _, rfl⟩ _ _; rfl
theorem len_variables : ∀ ds S o, p_variables ds S o → ds.length = 1 := by rintro _ S o ⟨f, rfl, _, _, rfl⟩; rfl
theorem ok_variables : ∀ ds S o, p_variables ds S o → refsLts S.length ds = true → WfS S → okO S.length o = true := by rintro _ S o ⟨f, rfl, _, _, rfl⟩ _ _; exact ok_t _ _
theorem len_is_number : ∀ ds S o, p_is_number ds S o → ds.length = 1 := by rintro _ S o ⟨f, rfl, rfl⟩; rfl
theorem ok_is_number : ∀ ds S o, p_is_number ds S o → refsLts S.length ds = true → WfS S → okO S.length o = true := by rintro _ S o ⟨f, rfl, rfl⟩ _ _; rfl
theorem len_put_variable : ∀ ds S o, p_put_variable ds S o → ds.length = 3 := by rintro _ S o ⟨f, z, x, g, rfl, _, _, _, _, _, rfl⟩; rfl
theorem ok_put_variable : ∀ ds S o, p_put_variable ds S o → refsLts S.length ds = true → WfS S → okO S.length o = true := by rintro _ S o ⟨f, z, x, g, rfl, _, _, _, _, _, rfl⟩ _ _; exact ok_t _ _
theorem len_put_all : ∀ ds S o, p_put_all ds S o → ds.length = 2 := by rintro _ S o ⟨f, d, fs, rfl, _, _, _, _, _, _, rfl⟩; rfl
theorem ok_put_all : ∀ ds S o, p_put_all ds S o → refsLts S.length ds = true → WfS S → okO S.length o = true := by rintro _ S o ⟨f, d, fs, rfl, _, _, _, _, _, _, rfl⟩ _ _; exact ok_t _ _
theorem len_same_order : ∀ ds S o, p_same_order ds S o → ds.length = 2 := by rintro _ S o ⟨f, g, rfl, _, _, _, _, rfl⟩; rfl
theorem ok_same_order : ∀ ds S o, p_same_order ds S o → refsLts S.length ds = true → WfS S → okO S.length o = true := by rintro _ S o ⟨f, g, rfl, _, _, _, _, rfl⟩ _ _; rfl
theorem len__law_draws : ∀ ds S o, p__law_draws ds S o → ds.length = 1 := by rintro _ S o ⟨ns, rfl, _, rfl⟩; rfl
theorem ok__law_draws : ∀ ds S o, p__law_draws ds S o → refsLts S.length ds = true → WfS S → okO S.length o = true := by rintro _ S o ⟨ns, rfl, _, rfl⟩ _ _; exact ok_l _ _
theorem len__law_pick : ∀ ds S o, p__law_pick ds S o → ds.length = 3 := by rintro _ S o ⟨n, l, a, m, rfl, _, _, _, _, rfl⟩; rfl
theorem ok__law_pick : ∀ ds S o, p__law_pick ds S o → refsLts S.length ds = true → WfS S → okO S.length o = true := by rintro _ S o ⟨n, l, a, m, rfl, _, _, _, _, rfl⟩ _ _; rfl
theorem len__law_form_at : ∀ ds S o, p__law_form_at ds S o → ds.length = 2 := by rintro _ S o ⟨f, d, v, rfl, _, _, _, _, _, _, rfl⟩; rfl
theorem ok__law_form_at : ∀ ds S o, p__law_form_at ds S o → refsLts S.length ds = true → WfS S → okO S.length o = true := by rintro _ S o ⟨f, d, v, rfl, _, _, _, _, _, _, rfl⟩ _ _; rfl
theorem len__law_number : ∀ ds S o, p__law_number ds S o → ds.length = 2 := by rintro _ S o ⟨n, l, a, rfl, _, _, _, rfl⟩; rfl
theorem ok__law_number : ∀ ds S o, p__law_number ds S o → refsLts S.length ds = true → WfS S → okO S.length o = true := by rintro _ S o ⟨n, l, a, rfl, _, _, _, rfl⟩ _ _; rfl
theorem len__law_parts : ∀ ds S o, p__law_parts ds S o → ds.length = 3 := by rintro _ S o ⟨n, l, a, m, rfl, _, _, _, _, _, rfl⟩; rfl
theorem ok__law_parts : ∀ ds S o, p__law_parts ds S o → refsLts S.length ds = true → WfS S → okO S.length o = true := by rintro _ S o ⟨n, l, a, m, rfl, _, _, _, _, _, rfl⟩ _ _; exact ok_l _ _
theorem len__law_trim : ∀ ds S o, p__law_trim ds S o → ds.length = 1 := by rintro _ S o ⟨n, l, rfl, _, _, _, rfl⟩; rfl
theorem ok__law_trim : ∀ ds S o, p__law_trim ds S o → refsLts S.length ds = true → WfS S → okO S.length o = true := by rintro _ S o ⟨n, l, rfl, _, _, _, rfl⟩ _ _; exact ok_t _ _
theorem len__law_sum : ∀ ds S o, p__law_sum ds S o → ds.length = 3 := by rintro _ S o ⟨d, e, f, g, t, rfl, _, _, _, _, _, _, _, rfl⟩; rfl
theorem ok__law_sum : ∀ ds S o, p__law_sum ds S o → refsLts S.length ds = true → WfS S → okO S.length o = true := by rintro _ S o ⟨d, e, f, g, t, rfl, _, _, _, _, _, _, _, rfl⟩ _ _; exact ok_t _ _
theorem len__law_told : ∀ ds S o, p__law_told ds S o → ds.length = 2 := by rintro _ S o ⟨d, l, rfl, _, _, rfl⟩; rfl
theorem ok__law_told : ∀ ds S o, p__law_told ds S o → refsLts S.length ds = true → WfS S → okO S.length o = true := by rintro _ S o ⟨d, l, rfl, _, _, rfl⟩ _ _; rfl
theorem len__law_number_told : ∀ ds S o, p__law_number_told ds S o → ds.length = 2 := by rintro _ S o ⟨i, rfl, rfl⟩; rfl
theorem ok__law_number_told : ∀ ds S o, p__law_number_told ds S o → refsLts S.length ds = true → WfS S → okO S.length o = true := by rintro _ S o ⟨i, rfl, rfl⟩ _ _; rfl
theorem len__law_put : ∀ ds S o, p__law_put ds S o → ds.length = 3 := by rintro _ S o ⟨f, g, z, rfl, _, _, _, _, _, _, rfl⟩; rfl
theorem ok__law_put : ∀ ds S o, p__law_put ds S o → refsLts S.length ds = true → WfS S → okO S.length o = true := by rintro _ S o ⟨f, g, z, rfl, _, _, _, _, _, _, rfl⟩ _ _; exact ok_t _ _
theorem len__law_put_all : ∀ ds S o, p__law_put_all ds S o → ds.length = 2 := by rintro _ S o ⟨f, d, fs, rfl, _, _, _, _, _, _, _, rfl⟩; rfl
theorem ok__law_put_all : ∀ ds S o, p__law_put_all ds S o → refsLts S.length ds = true → WfS S → okO S.length o = true := by rintro _ S o ⟨f, d, fs, rfl, _, _, _, _, _, _, _, rfl⟩ _ _; exact ok_t _ _
theorem len__law_moved : ∀ ds S o, p__law_moved ds S o → ds.length = 3 := by rintro _ S o ⟨f, z, k, rfl, _, _, _, _, _, rfl⟩; rfl
theorem ok__law_moved : ∀ ds S o, p__law_moved ds S o → refsLts S.length ds = true → WfS S → okO S.length o = true := by rintro _ S o ⟨f, z, k, rfl, _, _, _, _, _, rfl⟩ _ _; exact ok_t _ _
theorem len__law_order : ∀ ds S o, p__law_order ds S o → ds.length = 2 := by rintro _ S o ⟨f, g, rfl, _, _, _, _, rfl⟩; rfl
theorem ok__law_order : ∀ ds S o, p__law_order ds S o → refsLts S.length ds = true → WfS S → okO S.length o = true := by rintro _ S o ⟨f, g, rfl, _, _, _, _, rfl⟩ _ _; rfl
theorem len__law_whole : ∀ ds S o, p__law_whole ds S o → ds.length = 1 := fun ds S o h => len_is_whole ds S o h
theorem ok__law_whole : ∀ ds S o, p__law_whole ds S o → refsLts S.length ds = true → WfS S → okO S.length o = true := fun ds S o h => ok_is_whole ds S o h
theorem len_is_form : ∀ ds S o, p_is_form ds S o → ds.length = 1 := by rintro _ S o ⟨d, rfl, _⟩; rfl
theorem ok_is_form : ∀ ds S o, p_is_form ds S o → refsLts S.length ds = true → WfS S → okO S.length o = true := by
  rintro _ S o ⟨d, rfl, (⟨l, _, _, rfl⟩ | ⟨rfl, _⟩)⟩ _ _ <;> rfl
theorem len_form_at : ∀ ds S o, p_form_at ds S o → ds.length = 2 := by rintro _ S o ⟨f, d, v, rfl, _⟩; rfl
theorem ok_form_at : ∀ ds S o, p_form_at ds S o → refsLts S.length ds = true → WfS S → okO S.length o = true := by
  rintro _ S o ⟨f, d, v, rfl, _, _, _, _, _, _, (⟨_, rfl⟩ | ⟨_, _, _, _, _, _, rfl⟩)⟩ _ _ <;> rfl
theorem len_moved : ∀ ds S o, p_moved ds S o → ds.length = 3 := by rintro _ S o ⟨f, z, s, d, a, rfl, _⟩; rfl
theorem ok_moved : ∀ ds S o, p_moved ds S o → refsLts S.length ds = true → WfS S → okO S.length o = true := by
  rintro _ S o ⟨f, z, s, d, a, rfl, _, _, _, _, (⟨k, _, _, rfl⟩ | ⟨_, rfl⟩)⟩ _ _
  · exact ok_t _ _
  · rfl

end PD

set_option Elab.async false
set_option linter.all false
set_option maxRecDepth 100000
set_option maxHeartbeats 1000000
namespace PD
open PySem
/-! ### the law's mathematics -/
theorem add_ne {f g : List Int} (h : f ≠ []) : addL f g ≠ [] := ne_of_len (by rw [addL_len]; have := len_pos h; omega)
theorem mul_ne {n : Int} {f : List Int} (h : f ≠ []) : mulL n f ≠ [] := ne_of_len (by rw [mulL_len]; exact len_pos h)
theorem norm_zero : Norm [0] := ⟨List.cons_ne_nil _ _, .inl rfl⟩
theorem cf_zero (i : Nat) : cf [0] i = 0 := by rw [cf_one]; split <;> rfl
theorem e_plus {f g : List Int} (hf : f ≠ []) : trimL (addL f g) = trimL (addL f (mulL 1 g)) := trim_ext (add_ne hf) (add_ne hf) fun i => by rw [cf_addL, cf_addL, cf_mulL]; omega
theorem e_minus {f g : List Int} (hf : f ≠ []) : trimL (addL f (trimL (mulL (-1) g))) = trimL (addL f (mulL (0 - 1) g)) := trim_ext (add_ne hf) (add_ne hf) fun i => by rw [cf_addL, cf_addL, cf_trim, cf_mulL, cf_mulL]; omega
theorem e_scaled {n : Int} {f : List Int} (hf : f ≠ []) : trimL (mulL n f) = trimL (addL [0] (mulL n f)) := trim_ext (mul_ne hf) (add_ne norm_zero.1) fun i => by rw [cf_addL, cf_zero]; omega
theorem e_join3 {f g h : List Int} (hf : f ≠ []) : joinL [f, g, h] = trimL (addL (trimL (addL f (mulL 1 g))) (mulL 1 h)) := by
  have e : joinL [f, g, h] = trimL (addL (trimL (addL (trimL (addL [0] f)) g)) h) := by simp only [joinL, List.foldl]
  rw [e]
  have h0 : trimL (addL [0] f) ≠ [] := trim_ne (add_ne norm_zero.1)
  have h1 : trimL (addL (trimL (addL [0] f)) g) ≠ [] := trim_ne (add_ne h0)
  refine trim_ext (add_ne h1) (add_ne (trim_ne (add_ne hf))) fun i => ?_
  simp only [cf_addL, cf_trim, cf_mulL, cf_zero]
  omega
theorem e_join1 {h : List Int} (hh : Norm h) : joinL [h] = h := (show joinL [h] = trimL (addL [0] h) by simp only [joinL, List.foldl]).trans <| trim_to (add_ne norm_zero.1) hh fun i => by rw [cf_addL, cf_zero]; omega
theorem e_back {f g : List Int} (hf : f ≠ []) (hg : Norm g) : trimL (addL f (trimL (addL g (trimL (mulL (-1) f))))) = g := trim_to (add_ne hf) hg fun i => by
  rw [cf_addL, cf_trim, cf_addL, cf_trim, cf_mulL]
  omega
/-- values -/
theorem ev_lin {f g p v : List Int} {n : Int} {N : Nat} (hf : f.length ≤ N + 1) (hg : g.length ≤ N + 1) (hp : p.length ≤ N + 1) (h : ∀ i, cf p i = cf f i + n * cf g i) : evL p v = evL f v + n * evL g v := by
  rw [evL_up hf, evL_up hg, evL_up hp, ← evN_mul, ← evN_add]
  exact evN_congr (h 0) fun i _ => by rw [h (i + 1)]
theorem e_put {f g : List Int} {x : Nat} (hf : Norm f) (hx : cf f (x + 1) ≠ 0 → g ≠ []) : putL f x g = lputL f x g := by
  unfold putL lputL
  have hs : f.set (x + 1) 0 ≠ [] := set_ne hf.1
  split
  · rename_i hz
    refine (trim_to (add_ne hs) hf fun i => ?_).symm
    rw [cf_addL, cf_mulL, cf_set, hz]
    split
    · rename_i h
      rw [← h.1, hz]
      omega
    · omega
  · refine trim_ext (add_ne (trim_ne hs)) (add_ne hs) fun i => ?_
    simp only [cf_addL, cf_trim, cf_mulL]
theorem e_moved {f : List Int} {s b : Nat} (hf : Norm f) : movL f s b = lmovL f s b := by
  have hp := len_pos hf.1
  unfold movL lmovL
  have hne : mvK f s b (f.length - 1) ≠ [] := ne_of_len (by rw [mvK_len]; omega)
  have hcf : ∀ i, cf (mvK f s b (f.length - 1)) i = if i ≤ s then cf f i else if i ≤ s + b then 0 else cf f (i - b) := fun i => by
    unfold mvK
    rw [cf_range]
    unfold mvE
    by_cases h1 : i ≤ s
    · rw [if_pos h1]
      split
      · split
        · rename_i h; rw [h]
        · split
          · rfl
          · exact (cf_out (by omega)).symm
      · exact (cf_out (by omega)).symm
    · rw [if_neg h1]
      split
      · rw [if_neg (by omega)]
        split
        · rfl
        · split
          · rfl
          · exact (cf_out (by omega)).symm
      · split
        · rfl
        · exact (cf_out (by omega)).symm
  split
  · rename_i h
    refine (trim_to hne hf fun i => ?_).symm
    rw [hcf]
    split
    · rfl
    · rw [cf_out (l := f) (i := i) (by omega)]
      split
      · rfl
      · exact cf_out (by omega)
  · rename_i h
    have hn : Norm (f.take (s + 1) ++ List.replicate b 0 ++ f.drop (s + 1)) := by
      have hl : (f.take (s + 1) ++ List.replicate b 0 ++ f.drop (s + 1)).length = f.length + b := by
        rw [List.length_append, List.length_append, List.length_take, List.length_drop, List.length_replicate]
        omega
      refine ⟨ne_of_len (by omega), .inr ?_⟩
      rw [hl, cf_app, if_neg (by rw [List.length_append, List.length_take, List.length_replicate]; omega), cf_drop, List.length_append, List.length_take, List.length_replicate]
      rw [show s + 1 + (f.length + b - 1 - (min (s + 1) f.length + b)) = f.length - 1 by omega]
      rcases hf.2 with q | q
      · omega
      · exact q
    refine (trim_to hne hn fun i => ?_).symm
    rw [hcf, cf_app, cf_app, List.length_append, List.length_take, List.length_replicate, show min (s + 1) f.length = s + 1 by omega]
    by_cases h1 : i ≤ s
    · rw [if_pos h1, if_pos (by omega), if_pos (by omega), cf_take, if_pos (by omega)]
    · rw [if_neg h1]
      by_cases h2 : i ≤ s + b
      · rw [if_pos h2, if_pos (by omega), if_neg (by omega), cf_rep, if_pos (by omega)]
      · rw [if_neg h2, if_neg (by omega), cf_drop, show s + 1 + (i - (s + 1 + b)) = i - b by omega]
end PD

set_option Elab.async false
set_option linter.all false
set_option maxRecDepth 100000
set_option maxHeartbeats 1000000
namespace PD
open PySem
def paC (f : List Int) (fs : List (List Int)) (k i : Nat) : Int := sumTo (fun j => cf f (j + 1) * cf (fs.getD j []) i) k
theorem cf_paT (f : List Int) (fs : List (List Int)) : ∀ k i, cf (paT f fs k) i = paC f fs k i
  | 0, i => cf_zero i
  | k + 1, i => by
    unfold paT paC
    rw [cf_trim, cf_addL, cf_trim, cf_mulL, cf_paT f fs k i, sumTo_succ]
    rfl
theorem cf_lpT (f : List Int) (fs : List (List Int)) : ∀ k i, cf (lpT f fs k) i = paC f fs k i
  | 0, i => cf_zero i
  | k + 1, i => by
    have ih := cf_lpT f fs k i
    unfold lpT paC
    rw [sumTo_succ]
    split
    · rw [cf_trim, cf_addL, cf_mulL, ih]
      rfl
    · rw [ih, cf_out (l := f) (i := k + 1) (by omega)]
      unfold paC
      omega
theorem paT_ne (f : List Int) (fs : List (List Int)) : ∀ k, paT f fs k ≠ []
  | 0 => List.cons_ne_nil _ _
  | k + 1 => by
    unfold paT
    exact trim_ne (add_ne (paT_ne f fs k))
theorem e_put_all {f : List Int} {fs : List (List Int)} (hf : f ≠ []) : putAllL f fs = lputAllL f fs := by
  unfold putAllL lputAllL
  have h1 : paR f fs.length ≠ [] := ne_of_len (by rw [paR_len]; exact len_pos hf)
  refine trim_ext (add_ne (paT_ne _ _ _)) (add_ne h1) fun i => ?_
  rw [cf_addL, cf_addL, cf_trim, cf_mulL, cf_paT, cf_lpT, cf_paR, cf_paR]
  have e1 : paC f fs (min fs.length (f.length - 1)) i = paC f fs fs.length i := by
    unfold paC
    exact (sumTo_ext (by omega) fun j h1 h2 => by rw [cf_out (l := f) (by omega)]; omega).symm
  have e2 : (if 1 ≤ i ∧ i ≤ min fs.length (f.length - 1) then (0 : Int) else cf f i) = if 1 ≤ i ∧ i ≤ fs.length then 0 else cf f i := by
    by_cases h : 1 ≤ i ∧ i ≤ fs.length
    · rw [if_pos h]
      split
      · rfl
      · exact cf_out (by omega)
    · rw [if_neg h, if_neg (by omega)]
  rw [e1, e2]
  omega
theorem e_put_none {f : List Int} (hf : Norm f) : putAllL f [] = f := by
  unfold putAllL
  refine trim_to (add_ne (paT_ne _ _ _)) hf fun i => ?_
  rw [cf_addL, cf_trim, cf_paT, cf_paR]
  have e : min ([] : List (List Int)).length (f.length - 1) = 0 := by simp
  rw [e, if_neg (by omega)]
  unfold paC
  show 0 + cf f i = cf f i
  omega
/-- one value changed -/
theorem sumTo_one {u v : Nat → Int} {x : Nat} : ∀ {n : Nat}, x < n → (∀ i, i ≠ x → u i = v i) → sumTo u n = sumTo v n + (u x - v x)
  | 0, h, _ => by omega
  | n + 1, h, hv => by
    rw [sumTo_succ, sumTo_succ]
    by_cases e : x = n
    · subst e
      rw [sumTo_congr (n := x) fun i hi => hv i (by omega)]
      omega
    · rw [sumTo_one (n := n) (by omega) hv, hv n (fun z => e z.symm)]
      omega
theorem ev_set {c : Nat → Int} {v : List Int} {x N : Nat} {w : Int} (hx : x < N) (hv : x < v.length) : evN N c (v.set x w) = evN N c v + c (x + 1) * (w - cf v x) := by
  unfold evN
  rw [sumTo_one (x := x) (u := fun i => c (i + 1) * cf (v.set x w) i) (v := fun i => c (i + 1) * cf v i) hx fun i hi => by
    try dsimp only
    rw [cf_set, if_neg (fun z => hi z.1.symm)]]
  rw [cf_set, if_pos ⟨rfl, hv⟩, Int.mul_sub]
  omega
theorem ev_put {f g p v : List Int} {x N : Nat} (hx : x < N) (hv : x < v.length) (hf : f.length ≤ N + 1) (hg : g.length ≤ N + 1) (hp : p.length ≤ N + 1) (h : ∀ i, cf p i = (if i = x + 1 then 0 else cf f i) + cf f (x + 1) * cf g i) :
    evL p v = evL f (v.set x (evL g v)) := by
  rw [evL_up (v := v) hp, evL_up (v := v.set x (evL g v)) hf, ev_set hx hv, evL_up (v := v) hg]
  have e1 : evN N (cf p) v = evN N (fun i => (if i = x + 1 then 0 else cf f i) + cf f (x + 1) * cf g i) v := evN_congr (h 0) fun i _ => by rw [h (i + 1)]
  rw [e1, evN_add, evN_mul]
  have e2 : evN N (fun i => if i = x + 1 then 0 else cf f i) v = evN N (cf f) v - cf f (x + 1) * cf v x := by
    unfold evN
    dsimp only
    rw [if_neg (by omega : ¬ 0 = x + 1)]
    rw [sumTo_one (x := x) (u := fun i => (if i + 1 = x + 1 then 0 else cf f (i + 1)) * cf v i) (v := fun i => cf f (i + 1) * cf v i) hx fun i hi => by
      try dsimp only
      rw [if_neg (by omega : ¬ i + 1 = x + 1)]]
    try dsimp only
    rw [if_pos rfl]
    omega
  rw [e2, Int.mul_sub]
  omega
end PD

set_option Elab.async false
set_option linter.all false
set_option maxRecDepth 100000
set_option maxHeartbeats 1000000
namespace PD
open PySem
local macro_rules | `(tactic| walk_at "pg") => `(tactic| first | assumption | exact get_last' _ _ | (refine get_app ?_; walk_at "pg") | fail)
local macro_rules | `(tactic| walk_at "pq") => `(tactic| first | assumption | (refine isSq.app ?_ _; walk_at "pq") | fail)
local macro_rules | `(tactic| walk_at "pst") => `(tactic| first | exact still_none | exact still_tup | exact still_kl | exact still_ref (by walk_at "pg") | exact still_q (by walk_at "pq") | (refine still_seq ?_; assumption) | fail)
local macro_rules | `(tactic| walk_at "pe") => `(tactic| first | exact Ext.refl _ | assumption | (refine Ext.trans ?_ (Ext.app _ _); walk_at "pe") | fail)
local macro_rules | `(tactic| walk_at "ps") => `(tactic| first | walk_at "pe" | rfl | ((try simp only [decide_eq_true_eq, decide_eq_false_iff_not, Bool.not_eq_true', Bool.not_eq_false', Bool.not_true, Bool.not_false, List.length_append, List.length_replicate, List.length_cons, List.length_nil, List.length_set, List.length_map, List.length_take, List.length_drop, List.length_range] at *); first | omega | (exfalso; omega)) | fail)
local macro_rules | `(tactic| walk_at "pd1") => `(tactic| first | ((with_reducible refine r_nil ?_); (try dsimp only)) | ((with_reducible refine r_ret ?_); (try dsimp only)) | ((with_reducible refine r_retN ?_); (try dsimp only)) | ((with_reducible refine r_brk ?_); (try dsimp only)) | ((with_reducible refine r_cnt ?_); (try dsimp only)) | ((with_reducible refine r_rse ?_); (try dsimp only)) | ((with_reducible refine r_pas ?_); (try dsimp only)) | ((with_reducible refine r_ex ?_); (try dsimp only)) | with_reducible refine r_seq ?_ | with_reducible refine r_asg ?_ | with_reducible refine r_ifs ?_ | with_reducible refine r_tr ?_ | with_reducible refine r_fr ?_ | ((with_reducible refine r_aug (j := ?j) ?g0 ?_); (case g0 => exact rfl)) | ((with_reducible refine r_var (d := ?d) ?g0 ?_); (case g0 => exact rfl)) | ((with_reducible refine r_call (g := ?g) ?g0 ?_); (case g0 => first | assumption | exact rfl)) | with_reducible refine r_cst ?_ | with_reducible refine r_cmp ?_ | with_reducible refine r_bin ?_ | with_reducible refine r_bi ?_ | with_reducible refine r_ix ?_ | with_reducible refine r_and ?_ | with_reducible refine r_or ?_ | with_reducible refine r_not ?_ | with_reducible refine r_ife ?_ | with_reducible refine r_neg ?_ | with_reducible refine r_sl ?_ | with_reducible refine r_tup ?_ | with_reducible refine r_lst ?_ | with_reducible refine r_lc ?_ | with_reducible refine r_chn ?_ | with_reducible refine r_bm ?_ | ((with_reducible refine r_oN ?_); (try dsimp only)) | ((with_reducible refine r_oS ?_); (try dsimp only)) | with_reducible refine r_esC ?_ | with_reducible refine r_esN ?_ | with_reducible refine r_sub ?_ | with_reducible refine r_tsC ?_ | with_reducible refine r_tsN ?_ | with_reducible refine r_iSeq ?_ | with_reducible refine r_iRng ?_ | with_reducible refine r_iEnum ?_ | with_reducible refine r_nm ?_ | ((with_reducible refine r_tp (xs := ?xs) ?g0 ?g1 ?_); (case g0 => exact rfl); (case g1 => exact rfl)) | with_reducible refine m_t0 ?_ | with_reducible refine m_t1 ?_ | with_reducible refine m_t2 ?_ | with_reducible refine m_l0 ?_ | with_reducible refine m_l1 ?_ | with_reducible refine m_l3 ?_ | with_reducible refine r_addI ?_ | with_reducible refine r_subI ?_ | with_reducible refine r_mulI ?_ ?_ | with_reducible refine r_modI ?_ ?_ | with_reducible refine a_tt ?_ ?_ | with_reducible refine r_fdivI ?_ ?_ ?_ | with_reducible refine x_t1 ?_ ?_ ?_ | with_reducible refine r_powI ?_ ?_ ?_ ?_ | ((with_reducible refine a_ll (f := ?f) (g := ?g) ?g0 ?g1 ?_ ?_); (case g0 => walk_at "pg"); (case g1 => walk_at "pg")) | ((with_reducible refine x_l1 (i := ?i) ?g0 ?_ ?_ ?_); (case g0 => walk_at "pg")) | (with_reducible refine r_on (show partD none = some none from rfl) ?_) | (with_reducible refine r_on (show partD (some (D.int _)) = some (some _) from rfl) ?_) | with_reducible refine s_tt ?_ ?_ | with_reducible refine s_tf ?_ ?_ | ((with_reducible refine s_lt (f := ?f) ?g0 ?_ ?_); (case g0 => walk_at "pg")) | ((with_reducible refine s_lf (f := ?f) ?g0 ?_ ?_); (case g0 => walk_at "pg")) | with_reducible refine n_t ?_ | with_reducible refine l_t ?_ | with_reducible refine t_t ?_ | with_reducible refine b_abs ?_ | with_reducible refine b_int ?_ | with_reducible refine b_intb ?_ | with_reducible refine b_max ?_ | with_reducible refine b_min ?_ | ((with_reducible refine n_l (f := ?f) ?g0 ?_); (case g0 => walk_at "pg")) | ((with_reducible refine l_l (f := ?f) ?g0 ?_); (case g0 => walk_at "pg")) | ((with_reducible refine t_l (f := ?f) ?g0 ?_); (case g0 => walk_at "pg")) | with_reducible refine i_tn ?_ ?_ | with_reducible refine i_t ?_ ?_ ?_ | ((with_reducible refine i_l (f := ?f) ?g0 ?_ ?_ ?_); (case g0 => walk_at "pg")) | with_reducible refine w_e ?_ ?_ ?_ | ((with_reducible refine w_l (f := ?f) ?g0 ?_ ?_ ?_); (case g0 => walk_at "pg")) | with_reducible refine p_e ?_ ?_ | ((with_reducible refine p_l (f := ?f) ?g0 ?_ ?_); (case g0 => walk_at "pg")) | with_reducible refine c_lt ?_ | with_reducible refine c_le ?_ | with_reducible refine c_gt ?_ | with_reducible refine c_ge ?_ | with_reducible refine c_eq ?_ | with_reducible refine c_ne ?_ | with_reducible refine c_is ?_ | with_reducible refine c_isn ?_ | ((with_reducible refine t_bl (fun hb => ?_) (fun hb => ?_)) <;> ((try (cases hb; done)); (try simp only [decide_eq_true_eq, decide_eq_false_iff_not, Bool.not_eq_true', Bool.not_eq_false'] at hb))) | ((with_reducible refine t_and (fun hb => ?_) (fun hb => ?_)) <;> ((try (cases hb; done)); (try simp only [decide_eq_true_eq, decide_eq_false_iff_not, Bool.not_eq_true', Bool.not_eq_false'] at hb))) | with_reducible refine t_nb ?_ | with_reducible refine t_neg ?_ | with_reducible refine on_if ?_ | with_reducible refine g_r1 ?_ ?_ ?_ | with_reducible refine g_r2 ?_ ?_ ?_ ?_ ?_ | with_reducible refine g_t ?_ | ((with_reducible refine g_l (f := ?f) ?g0 ?_); (case g0 => walk_at "pg")) | with_reducible refine o_val ?_ ?_ | ((with_reducible refine lc_end ?g0 ?_); (case g0 => first | exact rfl | skip)) | with_reducible refine o_exc ?_ ?_ ?_ | with_reducible refine o_new ?_ ?_ ?_ | with_reducible refine isi_i_int ?_ | with_reducible refine isi_i_bool ?_ | with_reducible refine isi_i_tup ?_ | with_reducible refine isi_i_tl ?_ | with_reducible refine isi_b_int ?_ | with_reducible refine isi_b_bool ?_ | with_reducible refine isi_b_tup ?_ | with_reducible refine isi_b_tl ?_ | with_reducible refine isi_s_int ?_ | with_reducible refine isi_s_bool ?_ | with_reducible refine isi_s_tup ?_ | with_reducible refine isi_s_tl ?_ | with_reducible refine isi_n_int ?_ | with_reducible refine isi_n_bool ?_ | with_reducible refine isi_n_tup ?_ | with_reducible refine isi_n_tl ?_ | with_reducible refine isi_t_int ?_ | with_reducible refine isi_t_bool ?_ | with_reducible refine isi_t_tup ?_ | with_reducible refine isi_t_tl ?_ | with_reducible refine isi_u_int ?_ | with_reducible refine isi_u_bool ?_ | with_reducible refine isi_u_tup ?_ | with_reducible refine isi_u_tl ?_ | ((with_reducible refine isi_l_int (xs := ?xs) ?g0 ?_); (case g0 => walk_at "pg")) | ((with_reducible refine isi_l_bool (xs := ?xs) ?g0 ?_); (case g0 => walk_at "pg")) | ((with_reducible refine isi_l_tup (xs := ?xs) ?g0 ?_); (case g0 => walk_at "pg")) | ((with_reducible refine isi_l_tl (xs := ?xs) ?g0 ?_); (case g0 => walk_at "pg")) | ((with_reducible refine isi_ty0 (a := ?a) ?g0 ?g1 ?_); (case g0 => assumption); (case g1 => decide)) | with_reducible refine n_tg ?_ | ((with_reducible refine n_lg (xs := ?xs) ?g0 ?_); (case g0 => walk_at "pg")) | ((with_reducible refine l_lg (xs := ?xs) ?g0 ?_); (case g0 => walk_at "pg")) | ((with_reducible refine i_tg (d := ?d) ?g0 ?_); (case g0 => exact rfl)) | ((with_reducible refine i_lg (xs := ?xs) (d := ?d) ?g0 ?g1 ?_); (case g0 => walk_at "pg"); (case g1 => exact rfl)) | ((with_reducible refine g_lg (xs := ?xs) ?g0 ?_); (case g0 => walk_at "pg")) | ((with_reducible refine m_tg ?g0 ?_); (case g0 => exact Nat.le_of_ble_eq_true rfl)) | ((with_reducible refine m_lg ?g0 ?_); (case g0 => exact Nat.le_of_ble_eq_true rfl)) | ((with_reducible refine n_q (f := ?f) ?g0 ?_); (case g0 => walk_at "pq")) | ((with_reducible refine l_q (f := ?f) ?g0 ?_); (case g0 => walk_at "pq")) | ((with_reducible refine t_q (f := ?f) ?g0 ?_); (case g0 => walk_at "pq")) | ((with_reducible refine i_q (f := ?f) ?g0 ?_ ?_ ?_); (case g0 => walk_at "pq")) | ((with_reducible refine g_q (f := ?f) ?g0 ?_); (case g0 => walk_at "pq")) | ((with_reducible refine isi_q_tl (f := ?f) ?g0 ?_); (case g0 => walk_at "pq")) | ((with_reducible refine st_and ?g0 ?_); (case g0 => walk_at "pst")) | fail)

/-! ### bounds -/
theorem Bd.trim {k : Nat} {l : List Int} (h : Bd k l) : Bd k (trimL l) := h.of fun i => cf_trim l i
theorem Bd.addL {k : Nat} {f g : List Int} (hf : Bd k f) (hg : Bd k g) : Bd (k + 1) (addL f g) := hf.add hg fun i => cf_addL f g i
theorem Bd.mulL {k m : Nat} {n : Int} {f : List Int} (hn : Bz m n) (hf : Bd k f) : Bd (m + k) (mulL n f) := Bd.mul hn hf fun i => cf_mulL n f i
theorem Bd.set {k : Nat} {f : List Int} {x : Int} (hf : Bd k f) (hx : Bz k x) (j : Nat) : Bd k (f.set j x) := ⟨fun i => by
  rw [cf_set]
  split
  · exact hx
  · exact hf i⟩
theorem Bd.app {k : Nat} {f g : List Int} (hf : Bd k f) (hg : Bd k g) : Bd k (f ++ g) := ⟨fun i => by
  rw [cf_app]
  split
  · exact hf i
  · exact hg _⟩
theorem Bd.take {k : Nat} {f : List Int} (hf : Bd k f) (n : Nat) : Bd k (f.take n) := ⟨fun i => by
  rw [cf_take]
  split
  · exact hf i
  · exact Bz.zero⟩
theorem Bd.drop {k : Nat} {f : List Int} (hf : Bd k f) (n : Nat) : Bd k (f.drop n) := ⟨fun i => by
  rw [cf_drop]
  exact hf _⟩
theorem Bd.rep {k n : Nat} {x : Int} (hx : Bz k x) : Bd k (List.replicate n x) := ⟨fun i => by
  rw [cf_rep]
  split
  · exact hx
  · exact Bz.zero⟩
theorem Bd.nil {k : Nat} : Bd k [] := ⟨fun i => by
  rw [cf_nil]
  exact Bz.zero⟩
theorem Bd.cons {k : Nat} {x : Int} {f : List Int} (hx : Bz k x) (hf : Bd k f) : Bd k (x :: f) := ⟨fun i => by
  cases i with
  | zero => exact hx
  | succ i => exact hf i⟩
theorem sumTo_bd {u : Nat → Int} {B : Nat} : ∀ {n : Nat}, (∀ i, i < n → (u i).natAbs ≤ B) → (sumTo u n).natAbs ≤ n * B
  | 0, _ => Nat.zero_le _
  | n + 1, h => by
    rw [sumTo_succ, Nat.succ_mul]
    have h1 := sumTo_bd (u := u) (n := n) fun i hi => h i (by omega)
    have h2 := h n (by omega)
    have := Int.natAbs_add_le (sumTo u n) (u n)
    omega
theorem Bz.of {k : Nat} {x : Int} {B : Nat} (h : x.natAbs ≤ B) (hB : B < 2 ^ k) : Bz k x := ⟨Nat.lt_of_le_of_lt h hB⟩
/-- a value of at most 15 parts -/
theorem evL_bd {f v : List Int} {a b : Nat} (hf : Bd a f) (hv : Bd b v) (hl : f.length ≤ 15) : Bz (a + b + 4) (evL f v) := by
  unfold evL evN
  have h1 : (sumTo (fun i => cf f (i + 1) * cf v i) (f.length - 1)).natAbs ≤ (f.length - 1) * (2 ^ a * 2 ^ b) := sumTo_bd fun i _ => by
    rw [Int.natAbs_mul]
    exact Nat.mul_le_mul (Nat.le_of_lt (hf _).h) (Nat.le_of_lt (hv _).h)
  have h2 := (hf 0).h
  have h3 := Int.natAbs_add_le (cf f 0) (sumTo (fun i => cf f (i + 1) * cf v i) (f.length - 1))
  have h4 : (f.length - 1) * (2 ^ a * 2 ^ b) ≤ 14 * (2 ^ a * 2 ^ b) := Nat.mul_le_mul_right _ (by omega)
  have h5 : 2 ^ a * 1 ≤ 2 ^ a * 2 ^ b := Nat.mul_le_mul_left _ (Nat.pow_pos (by decide))
  refine ⟨?_⟩
  have e : 2 ^ (a + b + 4) = 2 ^ a * 2 ^ b * 16 := by rw [Nat.pow_add, Nat.pow_add]
  rw [e]
  omega
/-! ### values once more -/
theorem evN_mask {c : Nat → Int} {v : List Int} {x N : Nat} (hx : x < N) : evN N (fun i => if i = x + 1 then 0 else c i) v = evN N c v - c (x + 1) * cf v x := by
  unfold evN
  (try dsimp only)
  rw [if_neg (by omega : ¬ 0 = x + 1)]
  rw [sumTo_one (x := x) (u := fun i => (if i + 1 = x + 1 then 0 else c (i + 1)) * cf v i) (v := fun i => c (i + 1) * cf v i) hx fun i hi => by
    try dsimp only
    rw [if_neg (by omega : ¬ i + 1 = x + 1)]]
  try dsimp only
  rw [if_pos rfl]
  omega
theorem ev_put_all {f g h p v : List Int} (lf : f.length ≤ 9) (lg : g.length ≤ 9) (lh : h.length ≤ 9) (lp : p.length ≤ 9) (lv : v.length = 8)
    (hp : ∀ i, cf p i = paC f [g, h, f] 3 i + if 1 ≤ i ∧ i ≤ 3 then 0 else cf f i) : evL p v = evL f (((v.set 0 (evL g v)).set 1 (evL h v)).set 2 (evL f v)) := by
  rw [evL_up (n := 8) lp, evL_up (f := f) (v := ((v.set 0 (evL g v)).set 1 (evL h v)).set 2 (evL f v)) (n := 8) lf]
  rw [ev_set (by decide) (by rw [List.length_set, List.length_set]; omega), ev_set (by decide) (by rw [List.length_set]; omega), ev_set (by decide) (by omega)]
  rw [cf_set, if_neg (by omega), cf_set, if_neg (by omega), cf_set, if_neg (by omega)]
  have e1 : evN 8 (cf p) v = evN 8 (fun i => (if i = 0 + 1 then 0 else if i = 1 + 1 then 0 else if i = 2 + 1 then 0 else cf f i) + (cf f 1 * cf g i + (cf f 2 * cf h i + cf f 3 * cf f i))) v := by
    have hc : ∀ i, cf p i = (if i = 0 + 1 then 0 else if i = 1 + 1 then 0 else if i = 2 + 1 then 0 else cf f i) + (cf f 1 * cf g i + (cf f 2 * cf h i + cf f 3 * cf f i)) := fun i => by
      rw [hp i]
      have e : paC f [g, h, f] 3 i = cf f 1 * cf g i + (cf f 2 * cf h i + cf f 3 * cf f i) := by
        unfold paC
        simp only [sumTo]
        show 0 + cf f 1 * cf g i + cf f 2 * cf h i + cf f 3 * cf f i = _
        omega
      rw [e]
      by_cases h1 : 1 ≤ i ∧ i ≤ 3
      · rw [if_pos h1]
        by_cases q1 : i = 0 + 1
        · rw [if_pos q1]; omega
        · rw [if_neg q1]
          by_cases q2 : i = 1 + 1
          · rw [if_pos q2]; omega
          · rw [if_neg q2, if_pos (by omega)]; omega
      · rw [if_neg h1, if_neg (by omega), if_neg (by omega), if_neg (by omega)]; omega
    exact evN_congr (hc 0) fun i _ => by rw [hc (i + 1)]
  rw [e1, evN_add, evN_add, evN_add, evN_mul, evN_mul, evN_mul]
  rw [evN_mask (c := fun i => if i = 1 + 1 then 0 else if i = 2 + 1 then 0 else cf f i) (by decide : 0 < 8), evN_mask (c := fun i => if i = 2 + 1 then 0 else cf f i) (by decide : 1 < 8), evN_mask (c := cf f) (by decide : 2 < 8)]
  (try dsimp only)
  rw [if_neg (by decide), if_neg (by decide), if_neg (by decide)]
  rw [evL_up (f := g) (n := 8) lg, evL_up (f := h) (n := 8) lh, evL_up (f := f) (v := v) (n := 8) lf, Int.mul_sub, Int.mul_sub, Int.mul_sub]
  simp only [Nat.zero_add, Nat.reduceAdd]
  omega
theorem sumTo_shift {u t : Nat → Int} {s b : Nat} (h1 : ∀ i, i < s → u i = t i) (h2 : ∀ i, s ≤ i → i < s + b → u i = 0) (h3 : ∀ i, s ≤ i → u (i + b) = t i) : ∀ k, sumTo u (s + k + b) = sumTo t (s + k)
  | 0 => by
    rw [Nat.add_zero, sumTo_ext (n := s) (m := s + b) (by omega) h2]
    exact sumTo_congr h1
  | k + 1 => by
    have ih := sumTo_shift h1 h2 h3 k
    rw [show s + (k + 1) + b = (s + k + b) + 1 by omega, show s + (k + 1) = (s + k) + 1 by omega, sumTo_succ, sumTo_succ, ih, h3 (s + k) (by omega)]
theorem cf_movL {f : List Int} {s b : Nat} (hf : f ≠ []) (i : Nat) : cf (movL f s b) i = if i ≤ s then cf f i else if i ≤ s + b then 0 else cf f (i - b) := by
  have hp := len_pos hf
  unfold movL
  split
  · by_cases h1 : i ≤ s
    · rw [if_pos h1]
    · rw [if_neg h1, cf_out (by omega)]
      split
      · rfl
      · exact (cf_out (by omega)).symm
  · rw [cf_app, cf_app, List.length_append, List.length_take, List.length_replicate, show min (s + 1) f.length = s + 1 by omega]
    by_cases h1 : i ≤ s
    · rw [if_pos h1, if_pos (by omega), if_pos (by omega), cf_take, if_pos (by omega)]
    · rw [if_neg h1]
      by_cases h2 : i ≤ s + b
      · rw [if_pos h2, if_pos (by omega), if_neg (by omega), cf_rep, if_pos (by omega)]
      · rw [if_neg h2, if_neg (by omega), cf_drop, show s + 1 + (i - (s + 1 + b)) = i - b by omega]
theorem movL_len {f : List Int} {s b : Nat} (hf : f ≠ []) : (movL f s b).length ≤ f.length + b := by
  have hp := len_pos hf
  unfold movL
  split
  · omega
  · rw [List.length_append, List.length_append, List.length_take, List.length_drop, List.length_replicate]
    omega
theorem movL_ne {f : List Int} {s b : Nat} (hf : f ≠ []) : movL f s b ≠ [] := by
  have hp := len_pos hf
  unfold movL
  split
  · exact hf
  · exact ne_of_len (by rw [List.length_append, List.length_append, List.length_take]; omega)
theorem ev_mov {f v : List Int} {s b : Nat} {z : Int} (hf : f ≠ []) (lf : f.length ≤ 9) (lv : v.length = 8) (hs : s ≤ 8) : evL (movL f s b) (v.take s ++ List.replicate b z ++ v.drop s) = evL f v := by
  have hl := movL_len (s := s) (b := b) hf
  rw [evL_up (f := movL f s b) (n := s + (8 - s) + b) (by omega), evL_up (f := f) (n := s + (8 - s)) (by omega)]
  unfold evN
  rw [cf_movL hf, if_pos (Nat.zero_le _)]
  rw [sumTo_shift (s := s) (b := b) (t := fun i => cf f (i + 1) * cf v i) ?_ ?_ ?_]
  · intro i hi
    (try dsimp only)
    rw [cf_movL hf, if_pos (by omega), cf_app, if_pos (by rw [List.length_append, List.length_take]; omega), cf_app, if_pos (by rw [List.length_take]; omega), cf_take, if_pos hi]
  · intro i h1 h2
    (try dsimp only)
    rw [cf_movL hf, if_neg (by omega), if_pos (by omega), Int.zero_mul]
  · intro i h1
    (try dsimp only)
    rw [cf_movL hf, if_neg (by omega), if_neg (by omega), show i + b + 1 - b = i + 1 by omega, cf_app, if_neg (by rw [List.length_append, List.length_take, List.length_replicate]; omega), cf_drop]
    rw [List.length_append, List.length_take, List.length_replicate, show s + (i + b - (min s v.length + b)) = i by omega]

/-! ### data once more -/
mutual
theorem eqv_refl : ∀ d : PyData, PyData.plain d = true → PyData.eqv d d = true
  | .none, _ => by unfold PyData.eqv; rfl
  | .bool b, _ => by unfold PyData.eqv; exact beq_self_eq_true b
  | .int b, _ => by unfold PyData.eqv; exact beq_self_eq_true b
  | .str b, _ => by unfold PyData.eqv; exact beq_self_eq_true b
  | .list xs, h => by
    unfold PyData.eqv
    unfold PyData.plain at h
    exact eqvAll_refl xs h
  | .tuple xs, h => by
    unfold PyData.eqv
    unfold PyData.plain at h
    exact eqvAll_refl xs h
  | .dict _, h => by unfold PyData.plain at h; cases h
theorem eqvAll_refl : ∀ ds : List PyData, PyData.plainAll ds = true → PyData.eqvAll ds ds = true
  | [], _ => by unfold PyData.eqvAll; rfl
  | x :: xs, h => by
    unfold PyData.plainAll at h
    obtain ⟨h1, h2⟩ := Bool.and_eq_true_iff.mp h
    unfold PyData.eqvAll
    rw [eqv_refl x h1, eqvAll_refl xs h2]
    rfl
end
theorem eqD_same {S : Store} {a b : D} {x : PyData} (ha : toPy S pyF a = some x) (hb : toPy S pyF b = some x) (hp : PyData.plain x = true) : eqD S a b = some true := by
  unfold eqD
  rw [ha, hb]
  dsimp only
  rw [eqv_refl x hp]
theorem py_ints (S : Store) (k : Nat) : ∀ l : List Int, mapO (toPy S (k + 1)) (l.map D.int) = some (l.map PyData.int)
  | [] => rfl
  | i :: l => by
    have ih := py_ints S k l
    rw [List.map_cons]
    unfold mapO
    rw [ih]
    rfl
theorem plain_ints : ∀ l : List Int, PyData.plainAll (l.map PyData.int) = true
  | [] => rfl
  | i :: l => by
    rw [List.map_cons]
    unfold PyData.plainAll
    rw [plain_ints l]
    rfl
theorem py_tupI (S : Store) (k : Nat) (f : List Int) : toPy S (k + 2) (tupI f) = some (.tuple (f.map .int)) := by
  show (mapO (toPy S (k + 1)) (f.map D.int)).map PyData.tuple = _
  rw [py_ints]
  rfl
theorem py_fs (S : Store) (k : Nat) : ∀ l : List (List Int), mapO (toPy S (k + 2)) (l.map tupI) = some (l.map fun f => PyData.tuple (f.map PyData.int))
  | [] => rfl
  | f :: l => by
    have ih := py_fs S k l
    rw [List.map_cons]
    unfold mapO
    rw [ih, py_tupI]
    rfl
theorem plain_fs : ∀ l : List (List Int), PyData.plainAll (l.map fun f => PyData.tuple (f.map PyData.int)) = true
  | [] => rfl
  | f :: l => by
    rw [List.map_cons]
    unfold PyData.plainAll
    rw [plain_fs l, Bool.and_true]
    unfold PyData.plain
    exact plain_ints f
theorem py_ref {S : Store} {n k : Nat} {xs : List D} {ys : List PyData} (h : S[n]? = some (.lst xs)) (hy : mapO (toPy S k) xs = some ys) : toPy S (k + 1) (.ref n) = some (.list ys) := by
  show (match seqOf S (.ref n) with
    | some xs => (mapO (toPy S k) xs).map PyData.list
    | none => none) = _
  rw [seq_ref h]
  dsimp only
  rw [hy]
  rfl
theorem c_ne_ll {S : Store} {n m : Nat} {l : List Int} {Kk : Bool → Prop} (hn : S[n]? = some (lstI l)) (hm : S[m]? = some (lstI l)) (h : Kk false) : onO (cmpD S .ne (.ref n) (.ref m)) Kk := by
  have e : cmpD S .ne (.ref n) (.ref m) = some false := by
    show (eqD S (.ref n) (.ref m)).map (!·) = _
    rw [eqD_same (x := .list (l.map .int)) (py_ref hn (py_ints S _ l)) (py_ref hm (py_ints S _ l)) (plain_ints l)]
    rfl
  rw [e]
  exact h
theorem c_ne_fs {S : Store} {n m : Nat} {fs : List (List Int)} {Kk : Bool → Prop} (hn : S[n]? = some (.lst (fs.map tupI))) (hm : S[m]? = some (.lst (fs.map tupI))) (h : Kk false) : onO (cmpD S .ne (.ref n) (.ref m)) Kk := by
  have e : cmpD S .ne (.ref n) (.ref m) = some false := by
    show (eqD S (.ref n) (.ref m)).map (!·) = _
    have h1 := py_ref hn (py_fs S 37 fs)
    have h2 := py_ref hm (py_fs S 37 fs)
    rw [eqD_same h1 h2 (plain_fs fs)]
    rfl
  rw [e]
  exact h
theorem c_eqb {S : Store} {a b : Bool} {Kk : Bool → Prop} (h : Kk (a == b)) : onO (cmpD S .eq (.bl a) (.bl b)) Kk := by
  have e : cmpD S .eq (.bl a) (.bl b) = some (a == b) := by
    show some (PyData.eqv (.bool a) (.bool b)) = _
    unfold PyData.eqv
    rfl
  rw [e]
  exact h

end PD

set_option Elab.async false
set_option linter.all false
set_option maxRecDepth 100000
set_option maxHeartbeats 1000000
namespace PD
open PySem
local macro_rules | `(tactic| walk_at "pg") => `(tactic| first | assumption | exact get_last' _ _ | (refine get_app ?_; walk_at "pg") | fail)
local macro_rules | `(tactic| walk_at "pq") => `(tactic| first | assumption | (refine isSq.app ?_ _; walk_at "pq") | fail)
local macro_rules | `(tactic| walk_at "pst") => `(tactic| first | exact still_none | exact still_tup | exact still_kl | exact still_ref (by walk_at "pg") | exact still_q (by walk_at "pq") | (refine still_seq ?_; assumption) | fail)
local macro_rules | `(tactic| walk_at "pe") => `(tactic| first | exact Ext.refl _ | assumption | (refine Ext.trans ?_ (Ext.app _ _); walk_at "pe") | fail)
local macro_rules | `(tactic| walk_at "ps2") => `(tactic| first | walk_at "pe" | with_reducible rfl | ((try simp only [decide_eq_true_eq, decide_eq_false_iff_not, Bool.not_eq_true', Bool.not_eq_false', Bool.not_true, Bool.not_false, List.length_append, List.length_replicate, List.length_cons, List.length_nil, List.length_set, List.length_map, List.length_take, List.length_drop, List.length_range] at *); first | omega | (exfalso; omega)) | fail)
local macro_rules | `(tactic| walk_at "ps") => `(tactic| first | walk_at "pe" | rfl | ((try simp only [decide_eq_true_eq, decide_eq_false_iff_not, Bool.not_eq_true', Bool.not_eq_false', Bool.not_true, Bool.not_false, List.length_append, List.length_replicate, List.length_cons, List.length_nil, List.length_set, List.length_map, List.length_take, List.length_drop, List.length_range] at *); first | omega | (exfalso; omega)) | fail)
local macro_rules | `(tactic| walk_at "pd1") => `(tactic| first | ((with_reducible refine r_nil ?_); (try dsimp only)) | ((with_reducible refine r_ret ?_); (try dsimp only)) | ((with_reducible refine r_retN ?_); (try dsimp only)) | ((with_reducible refine r_brk ?_); (try dsimp only)) | ((with_reducible refine r_cnt ?_); (try dsimp only)) | ((with_reducible refine r_rse ?_); (try dsimp only)) | ((with_reducible refine r_pas ?_); (try dsimp only)) | ((with_reducible refine r_ex ?_); (try dsimp only)) | with_reducible refine r_seq ?_ | with_reducible refine r_asg ?_ | with_reducible refine r_ifs ?_ | with_reducible refine r_tr ?_ | with_reducible refine r_fr ?_ | ((with_reducible refine r_aug (j := ?j) ?g0 ?_); (case g0 => exact rfl)) | ((with_reducible refine r_var (d := ?d) ?g0 ?_); (case g0 => exact rfl)) | ((with_reducible refine r_call (g := ?g) ?g0 ?_); (case g0 => first | assumption | exact rfl)) | with_reducible refine r_cst ?_ | with_reducible refine r_cmp ?_ | with_reducible refine r_bin ?_ | with_reducible refine r_bi ?_ | with_reducible refine r_ix ?_ | with_reducible refine r_and ?_ | with_reducible refine r_or ?_ | with_reducible refine r_not ?_ | with_reducible refine r_ife ?_ | with_reducible refine r_neg ?_ | with_reducible refine r_sl ?_ | with_reducible refine r_tup ?_ | with_reducible refine r_lst ?_ | with_reducible refine r_lc ?_ | with_reducible refine r_chn ?_ | with_reducible refine r_bm ?_ | ((with_reducible refine r_oN ?_); (try dsimp only)) | ((with_reducible refine r_oS ?_); (try dsimp only)) | with_reducible refine r_esC ?_ | with_reducible refine r_esN ?_ | with_reducible refine r_sub ?_ | with_reducible refine r_tsC ?_ | with_reducible refine r_tsN ?_ | with_reducible refine r_iSeq ?_ | with_reducible refine r_iRng ?_ | with_reducible refine r_iEnum ?_ | with_reducible refine r_nm ?_ | ((with_reducible refine r_tp (xs := ?xs) ?g0 ?g1 ?_); (case g0 => exact rfl); (case g1 => exact rfl)) | with_reducible refine m_t0 ?_ | with_reducible refine m_t1 ?_ | with_reducible refine m_t2 ?_ | with_reducible refine m_l0 ?_ | with_reducible refine m_l1 ?_ | with_reducible refine m_l3 ?_ | with_reducible refine r_addI ?_ | with_reducible refine r_subI ?_ | with_reducible refine r_mulI ?_ ?_ | with_reducible refine r_modI ?_ ?_ | with_reducible refine a_tt ?_ ?_ | with_reducible refine r_fdivI ?_ ?_ ?_ | with_reducible refine x_t1 ?_ ?_ ?_ | with_reducible refine r_powI ?_ ?_ ?_ ?_ | ((with_reducible refine a_ll (f := ?f) (g := ?g) ?g0 ?g1 ?_ ?_); (case g0 => walk_at "pg"); (case g1 => walk_at "pg")) | ((with_reducible refine x_l1 (i := ?i) ?g0 ?_ ?_ ?_); (case g0 => walk_at "pg")) | (with_reducible refine r_on (show partD none = some none from rfl) ?_) | (with_reducible refine r_on (show partD (some (D.int _)) = some (some _) from rfl) ?_) | with_reducible refine s_tt ?_ ?_ | with_reducible refine s_tf ?_ ?_ | ((with_reducible refine s_lt (f := ?f) ?g0 ?_ ?_); (case g0 => walk_at "pg")) | ((with_reducible refine s_lf (f := ?f) ?g0 ?_ ?_); (case g0 => walk_at "pg")) | with_reducible refine n_t ?_ | with_reducible refine l_t ?_ | with_reducible refine t_t ?_ | with_reducible refine b_abs ?_ | with_reducible refine b_int ?_ | with_reducible refine b_intb ?_ | with_reducible refine b_max ?_ | with_reducible refine b_min ?_ | ((with_reducible refine n_l (f := ?f) ?g0 ?_); (case g0 => walk_at "pg")) | ((with_reducible refine l_l (f := ?f) ?g0 ?_); (case g0 => walk_at "pg")) | ((with_reducible refine t_l (f := ?f) ?g0 ?_); (case g0 => walk_at "pg")) | with_reducible refine i_tn ?_ ?_ | with_reducible refine i_t ?_ ?_ ?_ | ((with_reducible refine i_l (f := ?f) ?g0 ?_ ?_ ?_); (case g0 => walk_at "pg")) | with_reducible refine w_e ?_ ?_ ?_ | ((with_reducible refine w_l (f := ?f) ?g0 ?_ ?_ ?_); (case g0 => walk_at "pg")) | with_reducible refine p_e ?_ ?_ | ((with_reducible refine p_l (f := ?f) ?g0 ?_ ?_); (case g0 => walk_at "pg")) | with_reducible refine c_lt ?_ | with_reducible refine c_le ?_ | with_reducible refine c_gt ?_ | with_reducible refine c_ge ?_ | with_reducible refine c_eq ?_ | with_reducible refine c_ne ?_ | with_reducible refine c_is ?_ | with_reducible refine c_isn ?_ | ((with_reducible refine t_bl (fun hb => ?_) (fun hb => ?_)) <;> ((try (cases hb; done)); (try simp only [decide_eq_true_eq, decide_eq_false_iff_not, Bool.not_eq_true', Bool.not_eq_false'] at hb))) | ((with_reducible refine t_and (fun hb => ?_) (fun hb => ?_)) <;> ((try (cases hb; done)); (try simp only [decide_eq_true_eq, decide_eq_false_iff_not, Bool.not_eq_true', Bool.not_eq_false'] at hb))) | with_reducible refine t_nb ?_ | with_reducible refine t_neg ?_ | with_reducible refine on_if ?_ | with_reducible refine g_r1 ?_ ?_ ?_ | with_reducible refine g_r2 ?_ ?_ ?_ ?_ ?_ | with_reducible refine g_t ?_ | ((with_reducible refine g_l (f := ?f) ?g0 ?_); (case g0 => walk_at "pg")) | with_reducible refine o_val ?_ ?_ | ((with_reducible refine lc_end ?g0 ?_); (case g0 => first | exact rfl | skip)) | with_reducible refine o_exc ?_ ?_ ?_ | with_reducible refine o_new ?_ ?_ ?_ | with_reducible refine isi_i_int ?_ | with_reducible refine isi_i_bool ?_ | with_reducible refine isi_i_tup ?_ | with_reducible refine isi_i_tl ?_ | with_reducible refine isi_b_int ?_ | with_reducible refine isi_b_bool ?_ | with_reducible refine isi_b_tup ?_ | with_reducible refine isi_b_tl ?_ | with_reducible refine isi_s_int ?_ | with_reducible refine isi_s_bool ?_ | with_reducible refine isi_s_tup ?_ | with_reducible refine isi_s_tl ?_ | with_reducible refine isi_n_int ?_ | with_reducible refine isi_n_bool ?_ | with_reducible refine isi_n_tup ?_ | with_reducible refine isi_n_tl ?_ | with_reducible refine isi_t_int ?_ | with_reducible refine isi_t_bool ?_ | with_reducible refine isi_t_tup ?_ | with_reducible refine isi_t_tl ?_ | with_reducible refine isi_u_int ?_ | with_reducible refine isi_u_bool ?_ | with_reducible refine isi_u_tup ?_ | with_reducible refine isi_u_tl ?_ | ((with_reducible refine isi_l_int (xs := ?xs) ?g0 ?_); (case g0 => walk_at "pg")) | ((with_reducible refine isi_l_bool (xs := ?xs) ?g0 ?_); (case g0 => walk_at "pg")) | ((with_reducible refine isi_l_tup (xs := ?xs) ?g0 ?_); (case g0 => walk_at "pg")) | ((with_reducible refine isi_l_tl (xs := ?xs) ?g0 ?_); (case g0 => walk_at "pg")) | ((with_reducible refine isi_ty0 (a := ?a) ?g0 ?g1 ?_); (case g0 => assumption); (case g1 => decide)) | with_reducible refine n_tg ?_ | ((with_reducible refine n_lg (xs := ?xs) ?g0 ?_); (case g0 => walk_at "pg")) | ((with_reducible refine l_lg (xs := ?xs) ?g0 ?_); (case g0 => walk_at "pg")) | ((with_reducible refine i_tg (d := ?d) ?g0 ?_); (case g0 => exact rfl)) | ((with_reducible refine i_lg (xs := ?xs) (d := ?d) ?g0 ?g1 ?_); (case g0 => walk_at "pg"); (case g1 => exact rfl)) | ((with_reducible refine g_lg (xs := ?xs) ?g0 ?_); (case g0 => walk_at "pg")) | ((with_reducible refine m_tg ?g0 ?_); (case g0 => exact Nat.le_of_ble_eq_true rfl)) | ((with_reducible refine m_lg ?g0 ?_); (case g0 => exact Nat.le_of_ble_eq_true rfl)) | ((with_reducible refine n_q (f := ?f) ?g0 ?_); (case g0 => walk_at "pq")) | ((with_reducible refine l_q (f := ?f) ?g0 ?_); (case g0 => walk_at "pq")) | ((with_reducible refine t_q (f := ?f) ?g0 ?_); (case g0 => walk_at "pq")) | ((with_reducible refine i_q (f := ?f) ?g0 ?_ ?_ ?_); (case g0 => walk_at "pq")) | ((with_reducible refine g_q (f := ?f) ?g0 ?_); (case g0 => walk_at "pq")) | ((with_reducible refine isi_q_tl (f := ?f) ?g0 ?_); (case g0 => walk_at "pq")) | ((with_reducible refine st_and ?g0 ?_); (case g0 => walk_at "pst")) | fail)

section
variable {S : Store} {Q : DQ} {E : EQ} {f g h l m v : List Int} {t : Int} {d : D} {n : Nat}
theorem u_ls_tt (hne : f ≠ []) (lf : f.length ≤ 1000000) (lg : g.length ≤ 1000000) (ht : Bz 2000 t) (bg : Bd 2000 g) (q : Q (tupI (trimL (addL f (mulL t g)))) S) : FnS p__law_sum [tupI f, tupI g, .int t] S Q E := u_law_sum (.inl rfl) (.inl rfl) hne lf lg ht bg q
theorem u_lt_tt (e : l = m) (hl : l.length ≤ 16000000) (q : Q (.bl true) S) : FnS p__law_told [tupI l, tupI m] S Q E := u_law_told (.inl rfl) e hl q
theorem u_lt_q (hm : S[n]? = some (lstI m)) (e : l = m) (hl : l.length ≤ 16000000) (q : Q (.bl true) S) : FnS p__law_told [tupI l, .ref n] S Q E := u_law_told (.inr ⟨n, rfl, hm⟩) e hl q
theorem u_joined (fs : List (List Int)) (hn : fs.length ≤ 100) (hl : ∀ k, (joinL (fs.take k)).length ≤ 16000000) (hf : ∀ f ∈ fs, f.length ≤ 16000000) (q : Q (tupI (joinL fs)) S) : FnS (starP 0 p_joined) (fs.map tupI) S Q E :=
  ⟨_, ⟨⟨Nat.zero_le _, by rw [List.length_map]; exact big _ (by omega)⟩, ⟨fs, rfl, hl, hf, rfl⟩⟩, q⟩
theorem join_le (N : Nat) : ∀ (fs : List (List Int)) (t : List Int), t.length ≤ N → (∀ f ∈ fs, f.length ≤ N) → (fs.foldl (fun t f => trimL (addL t f)) t).length ≤ N
  | [], t, ht, _ => ht
  | f :: fs, t, ht, hf => by
    rw [List.foldl_cons]
    exact join_le N fs _ (Nat.le_trans (trim_le _) (addL_le ht (hf f List.mem_cons_self))) fun g hg => hf g (List.mem_cons_of_mem _ hg)
theorem join_le' (fs : List (List Int)) (hf : ∀ f ∈ fs, f.length ≤ 1000000) (k : Nat) : (joinL (fs.take k)).length ≤ 16000000 := Nat.le_trans (join_le 1000000 _ _ (by show 1 ≤ 1000000; decide) fun f h => hf f (List.mem_of_mem_take h)) (by decide)
theorem u_join0 (q : Q (tupI (joinL [])) S) : FnS (starP 0 p_joined) [] S Q E := u_joined [] (by decide) (join_le' _ fun _ h => by cases h) (fun _ h => by cases h) q
theorem u_join1 (hf : f.length ≤ 1000000) (q : Q (tupI (joinL [f])) S) : FnS (starP 0 p_joined) [tupI f] S Q E := u_joined [f] (by show 1 ≤ 100; decide) (join_le' _ fun x h => by rw [List.mem_singleton.mp h]; exact hf) (fun x h => by rw [List.mem_singleton.mp h]; omega) q
theorem u_join3 (hf : f.length ≤ 1000000) (hg : g.length ≤ 1000000) (hh : h.length ≤ 1000000) (q : Q (tupI (joinL [f, g, h])) S) : FnS (starP 0 p_joined) [tupI f, tupI g, tupI h] S Q E := by
  have hm : ∀ x ∈ [f, g, h], x.length ≤ 1000000 := fun x hx => by
    simp only [List.mem_cons, List.not_mem_nil, or_false] at hx
    rcases hx with rfl | rfl | rfl <;> assumption
  exact u_joined [f, g, h] (by show 3 ≤ 100; decide) (join_le' _ hm) (fun x hx => Nat.le_trans (hm x hx) (by decide)) q
theorem u_fa_l (hv : S[n]? = some (lstI v)) (hne : f ≠ []) (hf : f.length ≤ 16000000) (lv : v.length ≤ 16000000) (bf : Bd 2000 f) (bv : Bd 2000 v) (hl : f.length ≤ v.length + 1) (q : Q (.int (evL f v)) S) : FnS p_form_at [tupI f, .ref n] S Q E := u_form_at (.inr ⟨n, rfl, hv⟩) hne hf lv bf bv hl q
theorem u_fa_t (hne : f ≠ []) (hf : f.length ≤ 16000000) (lv : v.length ≤ 16000000) (bf : Bd 2000 f) (bv : Bd 2000 v) (hl : f.length ≤ v.length + 1) (q : Q (.int (evL f v)) S) : FnS p_form_at [tupI f, tupI v] S Q E := u_form_at (.inl rfl) hne hf lv bf bv hl q
theorem u_lfa_l (hv : S[n]? = some (lstI v)) (hne : f ≠ []) (hf : f.length ≤ 16000000) (hl : f.length ≤ v.length + 1) (bf : Bd 2000 f) (bv : Bd 2000 v) (q : Q (.int (evL f v)) S) : FnS p__law_form_at [tupI f, .ref n] S Q E := u_law_form_at (.inr ⟨n, rfl, hv⟩) hne hf hl bf bv q
theorem u_lfa_t (hne : f ≠ []) (hf : f.length ≤ 16000000) (hl : f.length ≤ v.length + 1) (bf : Bd 2000 f) (bv : Bd 2000 v) (q : Q (.int (evL f v)) S) : FnS p__law_form_at [tupI f, tupI v] S Q E := u_law_form_at (.inl rfl) hne hf hl bf bv q
end

theorem x_ends {n : Option Nat} {B : DEnds} {e : DEnv} {S : Store} (h : B.nx (setN n e) S) : (endsN n B).nx e S := h
structure Fo (b : Nat) (f : List Int) : Prop where
  nm : Norm f
  ln : f.length ≤ 8
  bd : Bd b f
structure Va (b : Nat) (v : List Int) : Prop where
  ln : v.length = 8
  bd : Bd b v

local macro_rules | `(tactic| walk_at "pd1") => `(tactic| first | with_reducible refine u_w_i ?_ | with_reducible refine u_w_b ?_ | with_reducible refine u_w_s ?_ | with_reducible refine u_w_n ?_ | with_reducible refine u_w_t ?_ | with_reducible refine u_w_u ?_ | ((with_reducible refine u_w_l (xs := ?xs) ?g0 ?_); (case g0 => walk_at "pg")) | fail)
local macro_rules | `(tactic| walk_at "pd1") => `(tactic| first | with_reducible refine u_trim_t ?_ ?_ | ((with_reducible refine u_trim_l (l := ?l) ?g0 ?_ ?_); (case g0 => walk_at "pg")) | fail)
local macro_rules | `(tactic| walk_at "pd1") => `(tactic| first | with_reducible refine u_plus ?_ ?_ ?_ | fail)
local macro_rules | `(tactic| walk_at "pd1") => `(tactic| first | with_reducible refine u_scaled ?_ ?_ ?_ ?_ | fail)
local macro_rules | `(tactic| walk_at "pd1") => `(tactic| first | with_reducible refine u_multiple ?_ ?_ | fail)
local macro_rules | `(tactic| walk_at "pd1") => `(tactic| first | with_reducible refine u_variables ?_ ?_ ?_ | fail)

local macro_rules | `(tactic| walk_at "pd1") => `(tactic| first | with_reducible refine u_put_variable ?_ ?_ ?_ ?_ ?_ ?_ | fail)
local macro_rules | `(tactic| walk_at "pd1") => `(tactic| first | with_reducible refine u_lw_i ?_ | fail)
local macro_rules | `(tactic| walk_at "pd1") => `(tactic| first | ((with_reducible refine u_law_pick (l := ?l) ?g0 ?_ ?_ ?_ ?_); (case g0 => walk_at "pg")) | fail)
local macro_rules | `(tactic| walk_at "pd1") => `(tactic| first | ((with_reducible refine u_law_number (l := ?l) ?g0 ?_ ?_ ?_); (case g0 => walk_at "pg")) | fail)
local macro_rules | `(tactic| walk_at "pd1") => `(tactic| first | ((with_reducible refine u_law_trim (l := ?l) ?g0 ?_ ?_ ?_); (case g0 => walk_at "pg")) | fail)

local macro_rules | `(tactic| walk_at "pd1") => `(tactic| first | with_reducible refine u_plus ?_ ?_ ?_ | fail)
local macro_rules | `(tactic| walk_at "pd1") => `(tactic| first | with_reducible refine u_minus ?_ ?_ ?_ ?_ | fail)
local macro_rules | `(tactic| walk_at "pd1") => `(tactic| first | with_reducible refine u_ls_tt ?_ ?_ ?_ ?_ ?_ ?_ | fail)
local macro_rules | `(tactic| walk_at "pd1") => `(tactic| first | with_reducible refine u_lt_tt ?_ ?_ ?_ | ((with_reducible refine u_lt_q (m := ?m) ?g0 ?_ ?_ ?_); (case g0 => walk_at "pg")) | fail)
local macro_rules | `(tactic| walk_at "pd1") => `(tactic| first | with_reducible refine u_join3 ?_ ?_ ?_ ?_ | with_reducible refine u_join1 ?_ ?_ | with_reducible refine u_join0 ?_ | fail)
local macro_rules | `(tactic| walk_at "pd1") => `(tactic| first | with_reducible refine u_constant ?_ ?_ | fail)
local macro_rules | `(tactic| walk_at "pd1") => `(tactic| first | with_reducible refine u_fa_t ?_ ?_ ?_ ?_ ?_ ?_ ?_ | ((with_reducible refine u_fa_l (v := ?v) ?g0 ?_ ?_ ?_ ?_ ?_ ?_ ?_); (case g0 => walk_at "pg")) | fail)
local macro_rules | `(tactic| walk_at "pd1") => `(tactic| first | with_reducible refine u_lfa_t ?_ ?_ ?_ ?_ ?_ ?_ | ((with_reducible refine u_lfa_l (v := ?v) ?g0 ?_ ?_ ?_ ?_ ?_ ?_); (case g0 => walk_at "pg")) | fail)
local macro_rules | `(tactic| walk_at "pd1") => `(tactic| first | with_reducible refine u_law_number_told ?_ ?_ | fail)
local macro_rules | `(tactic| walk_at "pd1") => `(tactic| first | with_reducible refine u_law_put ?_ ?_ ?_ ?_ ?_ ?_ ?_ | fail)
local macro_rules | `(tactic| walk_at "pd1") => `(tactic| first | with_reducible refine u_law_moved ?_ ?_ ?_ ?_ ?_ ?_ | fail)
local macro_rules | `(tactic| walk_at "pd1") => `(tactic| first | with_reducible refine u_law_order ?_ ?_ ?_ ?_ ?_ | fail)
local macro_rules | `(tactic| walk_at "pd1") => `(tactic| first | with_reducible refine u_same_order ?_ ?_ ?_ ?_ ?_ | fail)
local macro_rules | `(tactic| walk_at "pd1") => `(tactic| first | with_reducible refine u_moved ?_ ?_ ?_ ?_ ?_ ?_ | fail)

local macro_rules | `(tactic| walk_at "tl") => `(tactic| first | omega | (with_reducible refine Nat.le_trans (trim_le _) ?_; walk_at "tl") | (with_reducible refine addL_le ?_ ?_ <;> walk_at "tl") | (rw [mulL_len]; walk_at "tl") | (rw [List.length_set]; walk_at "tl") | fail)
local macro_rules | `(tactic| walk_at "tn") => `(tactic| first | (with_reducible assumption) | (with_reducible refine trim_ne ?_; walk_at "tn") | (with_reducible refine add_ne ?_; walk_at "tn") | (with_reducible refine mul_ne ?_; walk_at "tn") | (with_reducible exact norm_zero.1) | fail)
local macro_rules | `(tactic| walk_at "bd") => `(tactic| first | (with_reducible assumption) | (with_reducible exact Bd.mono (by assumption) (by decide)) | (with_reducible exact Bz.up (by assumption) (by decide)) | (with_reducible exact Bz.sm (by decide) (by decide)) | fail)
local macro_rules | `(tactic| walk_at "sg") => `(tactic| first | (with_reducible assumption) | (walk_at "bd") | (walk_at "tn"; done) | (walk_at "tl"; done) | fail)

/-! ### _law_sums_hold -/
theorem join3_le {f g h : List Int} (hf : f.length ≤ 8) (hg : g.length ≤ 8) (hh : h.length ≤ 8) : (joinL [f, g, h]).length ≤ 16000000 := join_le' [f, g, h] (fun x hx => by
  simp only [List.mem_cons, List.not_mem_nil, or_false] at hx
  rcases hx with rfl | rfl | rfl <;> omega) 3
theorem join1_le {h : List Int} (hh : h.length ≤ 8) : (joinL [h]).length ≤ 16000000 := join_le' [h] (fun x hx => by rw [List.mem_singleton.mp hx]; omega) 1
theorem join0_le : (joinL []).length ≤ 16000000 := join_le' [] (fun x hx => by cases hx) 0
theorem join0_eq : joinL [] = [0] := rfl
theorem ne0 : ([0] : List Int) ≠ [] := by simp
theorem len0 : ([0] : List Int).length ≤ 1000000 := by decide
theorem lg_mul {a b : Nat} {x y : Int} (hx : Bz a x) (hy : Bz b y) (h : a + b < 1000000) : x.natAbs.log2 + y.natAbs.log2 < 1000000 := by
  have h1 := log_lt hx
  have h2 := log_lt hy
  omega
def p__law_sums_hold : List D → Store → Out → Prop := fun ds S o => ∃ (f g h v : List Int) (t : Int) (n : Nat), ds = [tupI f, tupI g, tupI h, .int t, .ref n] ∧ S[n]? = some (lstI v) ∧ Fo 200 f ∧ Fo 200 g ∧ Fo 200 h ∧ Va 200 v ∧ Bz 200 t ∧ o = .val (.bl true)
theorem vc__law_sums_hold (M : Md) (h6 : M.sp 6 = FnS p_plus) (h7 : M.sp 7 = FnS p_scaled) (h8 : M.sp 8 = FnS p_minus) (h9 : M.sp 9 = FnS (starP 0 p_joined)) (h14 : M.sp 14 = FnS p_form_at) (h21 : M.sp 21 = FnS p__law_form_at) (h26 : M.sp 26 = FnS p__law_sum) (h27 : M.sp 27 = FnS p__law_told) (h28 : M.sp 28 = FnS p__law_number_told) : ∀ ds S o, p__law_sums_hold ds S o → wpSs (M.C (excO S o)) b__law_sums_hold (retO S o) (startD n__law_sums_hold ds) S := by
  rintro ds S o ⟨f, g, h, v, t, n, rfl, hn, ff, fg, fh, vv, ht, rfl⟩
  have lf := ff.ln
  have lg := fg.ln
  have lh := fh.ln
  have lv := vv.ln
  have nf := ff.nm.1
  have ng := fg.nm.1
  have nh := fh.nm.1
  have bf := ff.bd
  have bg := fg.bd
  have bh := fh.bd
  have bv := vv.bd
  have Ef := evL_bd bf bv (by omega)
  have Eg := evL_bd bg bv (by omega)
  simp only [b__law_sums_hold, startD, List.map, List.length, List.replicate, Nat.reduceAdd, Nat.reduceSub, List.cons_append, List.nil_append]
  repeat' (walk_at "pd1")
  all_goals first
    | with_reducible exact join3_le lf lg lh
    | with_reducible exact join1_le lh
    | with_reducible exact join0_le
    | with_reducible exact join0_eq
    | with_reducible exact ne0
    | with_reducible exact len0
    | with_reducible exact lg_mul ht Eg (by decide)
    | with_reducible exact Ext.refl _
    | with_reducible rfl
    | with_reducible exact Bd.mono (Bd.trim (Bd.addL (Bd.mono bf (by decide : 200 ≤ 400)) (Bd.trim (Bd.mulL ht bg)))) (by decide)
    | with_reducible exact e_plus nf
    | with_reducible exact e_minus nf
    | with_reducible exact e_scaled nf
    | with_reducible exact e_join3 nf
    | with_reducible exact e_join1 fh.nm
    | with_reducible exact e_back nf fg.nm
    | skip
  all_goals try (walk_at "sg")
  · refine ev_lin (N := 8) (by omega) (by omega) (by walk_at "tl") fun i => ?_
    rw [cf_trim, cf_addL, cf_trim, cf_mulL]

end PD

set_option Elab.async false
set_option linter.all false
set_option maxRecDepth 100000
set_option maxHeartbeats 1000000
namespace PD
open PySem
local macro_rules | `(tactic| walk_at "pg") => `(tactic| first | assumption | exact get_last' _ _ | (refine get_app ?_; walk_at "pg") | fail)
local macro_rules | `(tactic| walk_at "pq") => `(tactic| first | assumption | (refine isSq.app ?_ _; walk_at "pq") | fail)
local macro_rules | `(tactic| walk_at "pst") => `(tactic| first | exact still_none | exact still_tup | exact still_kl | exact still_ref (by walk_at "pg") | exact still_q (by walk_at "pq") | (refine still_seq ?_; assumption) | fail)
local macro_rules | `(tactic| walk_at "pe") => `(tactic| first | exact Ext.refl _ | assumption | (refine Ext.trans ?_ (Ext.app _ _); walk_at "pe") | fail)
local macro_rules | `(tactic| walk_at "ps2") => `(tactic| first | walk_at "pe" | with_reducible rfl | ((try simp only [decide_eq_true_eq, decide_eq_false_iff_not, Bool.not_eq_true', Bool.not_eq_false', Bool.not_true, Bool.not_false, List.length_append, List.length_replicate, List.length_cons, List.length_nil, List.length_set, List.length_map, List.length_take, List.length_drop, List.length_range] at *); first | omega | (exfalso; omega)) | fail)
local macro_rules | `(tactic| walk_at "ps") => `(tactic| first | walk_at "pe" | rfl | ((try simp only [decide_eq_true_eq, decide_eq_false_iff_not, Bool.not_eq_true', Bool.not_eq_false', Bool.not_true, Bool.not_false, List.length_append, List.length_replicate, List.length_cons, List.length_nil, List.length_set, List.length_map, List.length_take, List.length_drop, List.length_range] at *); first | omega | (exfalso; omega)) | fail)
local macro_rules | `(tactic| walk_at "pd1") => `(tactic| first | ((with_reducible refine r_nil ?_); (try dsimp only)) | ((with_reducible refine r_ret ?_); (try dsimp only)) | ((with_reducible refine r_retN ?_); (try dsimp only)) | ((with_reducible refine r_brk ?_); (try dsimp only)) | ((with_reducible refine r_cnt ?_); (try dsimp only)) | ((with_reducible refine r_rse ?_); (try dsimp only)) | ((with_reducible refine r_pas ?_); (try dsimp only)) | ((with_reducible refine r_ex ?_); (try dsimp only)) | with_reducible refine r_seq ?_ | with_reducible refine r_asg ?_ | with_reducible refine r_ifs ?_ | with_reducible refine r_tr ?_ | with_reducible refine r_fr ?_ | ((with_reducible refine r_aug (j := ?j) ?g0 ?_); (case g0 => exact rfl)) | ((with_reducible refine r_var (d := ?d) ?g0 ?_); (case g0 => exact rfl)) | ((with_reducible refine r_call (g := ?g) ?g0 ?_); (case g0 => first | assumption | exact rfl)) | with_reducible refine r_cst ?_ | with_reducible refine r_cmp ?_ | with_reducible refine r_bin ?_ | with_reducible refine r_bi ?_ | with_reducible refine r_ix ?_ | with_reducible refine r_and ?_ | with_reducible refine r_or ?_ | with_reducible refine r_not ?_ | with_reducible refine r_ife ?_ | with_reducible refine r_neg ?_ | with_reducible refine r_sl ?_ | with_reducible refine r_tup ?_ | with_reducible refine r_lst ?_ | with_reducible refine r_lc ?_ | with_reducible refine r_chn ?_ | with_reducible refine r_bm ?_ | ((with_reducible refine r_oN ?_); (try dsimp only)) | ((with_reducible refine r_oS ?_); (try dsimp only)) | with_reducible refine r_esC ?_ | with_reducible refine r_esN ?_ | with_reducible refine r_sub ?_ | with_reducible refine r_tsC ?_ | with_reducible refine r_tsN ?_ | with_reducible refine r_iSeq ?_ | with_reducible refine r_iRng ?_ | with_reducible refine r_iEnum ?_ | with_reducible refine r_nm ?_ | ((with_reducible refine r_tp (xs := ?xs) ?g0 ?g1 ?_); (case g0 => exact rfl); (case g1 => exact rfl)) | with_reducible refine m_t0 ?_ | with_reducible refine m_t1 ?_ | with_reducible refine m_t2 ?_ | with_reducible refine m_l0 ?_ | with_reducible refine m_l1 ?_ | with_reducible refine m_l3 ?_ | with_reducible refine r_addI ?_ | with_reducible refine r_subI ?_ | with_reducible refine r_mulI ?_ ?_ | with_reducible refine r_modI ?_ ?_ | with_reducible refine a_tt ?_ ?_ | with_reducible refine r_fdivI ?_ ?_ ?_ | with_reducible refine x_t1 ?_ ?_ ?_ | with_reducible refine r_powI ?_ ?_ ?_ ?_ | ((with_reducible refine a_ll (f := ?f) (g := ?g) ?g0 ?g1 ?_ ?_); (case g0 => walk_at "pg"); (case g1 => walk_at "pg")) | ((with_reducible refine x_l1 (i := ?i) ?g0 ?_ ?_ ?_); (case g0 => walk_at "pg")) | (with_reducible refine r_on (show partD none = some none from rfl) ?_) | (with_reducible refine r_on (show partD (some (D.int _)) = some (some _) from rfl) ?_) | with_reducible refine s_tt ?_ ?_ | with_reducible refine s_tf ?_ ?_ | ((with_reducible refine s_lt (f := ?f) ?g0 ?_ ?_); (case g0 => walk_at "pg")) | ((with_reducible refine s_lf (f := ?f) ?g0 ?_ ?_); (case g0 => walk_at "pg")) | with_reducible refine n_t ?_ | with_reducible refine l_t ?_ | with_reducible refine t_t ?_ | with_reducible refine b_abs ?_ | with_reducible refine b_int ?_ | with_reducible refine b_intb ?_ | with_reducible refine b_max ?_ | with_reducible refine b_min ?_ | ((with_reducible refine n_l (f := ?f) ?g0 ?_); (case g0 => walk_at "pg")) | ((with_reducible refine l_l (f := ?f) ?g0 ?_); (case g0 => walk_at "pg")) | ((with_reducible refine t_l (f := ?f) ?g0 ?_); (case g0 => walk_at "pg")) | with_reducible refine i_tn ?_ ?_ | with_reducible refine i_t ?_ ?_ ?_ | ((with_reducible refine i_l (f := ?f) ?g0 ?_ ?_ ?_); (case g0 => walk_at "pg")) | with_reducible refine w_e ?_ ?_ ?_ | ((with_reducible refine w_l (f := ?f) ?g0 ?_ ?_ ?_); (case g0 => walk_at "pg")) | with_reducible refine p_e ?_ ?_ | ((with_reducible refine p_l (f := ?f) ?g0 ?_ ?_); (case g0 => walk_at "pg")) | with_reducible refine c_lt ?_ | with_reducible refine c_le ?_ | with_reducible refine c_gt ?_ | with_reducible refine c_ge ?_ | with_reducible refine c_eq ?_ | with_reducible refine c_ne ?_ | with_reducible refine c_is ?_ | with_reducible refine c_isn ?_ | ((with_reducible refine t_bl (fun hb => ?_) (fun hb => ?_)) <;> ((try (cases hb; done)); (try simp only [decide_eq_true_eq, decide_eq_false_iff_not, Bool.not_eq_true', Bool.not_eq_false'] at hb))) | ((with_reducible refine t_and (fun hb => ?_) (fun hb => ?_)) <;> ((try (cases hb; done)); (try simp only [decide_eq_true_eq, decide_eq_false_iff_not, Bool.not_eq_true', Bool.not_eq_false'] at hb))) | with_reducible refine t_nb ?_ | with_reducible refine t_neg ?_ | with_reducible refine on_if ?_ | with_reducible refine g_r1 ?_ ?_ ?_ | with_reducible refine g_r2 ?_ ?_ ?_ ?_ ?_ | with_reducible refine g_t ?_ | ((with_reducible refine g_l (f := ?f) ?g0 ?_); (case g0 => walk_at "pg")) | with_reducible refine o_val ?_ ?_ | ((with_reducible refine lc_end ?g0 ?_); (case g0 => first | exact rfl | skip)) | with_reducible refine o_exc ?_ ?_ ?_ | with_reducible refine o_new ?_ ?_ ?_ | with_reducible refine isi_i_int ?_ | with_reducible refine isi_i_bool ?_ | with_reducible refine isi_i_tup ?_ | with_reducible refine isi_i_tl ?_ | with_reducible refine isi_b_int ?_ | with_reducible refine isi_b_bool ?_ | with_reducible refine isi_b_tup ?_ | with_reducible refine isi_b_tl ?_ | with_reducible refine isi_s_int ?_ | with_reducible refine isi_s_bool ?_ | with_reducible refine isi_s_tup ?_ | with_reducible refine isi_s_tl ?_ | with_reducible refine isi_n_int ?_ | with_reducible refine isi_n_bool ?_ | with_reducible refine isi_n_tup ?_ | with_reducible refine isi_n_tl ?_ | with_reducible refine isi_t_int ?_ | with_reducible refine isi_t_bool ?_ | with_reducible refine isi_t_tup ?_ | with_reducible refine isi_t_tl ?_ | with_reducible refine isi_u_int ?_ | with_reducible refine isi_u_bool ?_ | with_reducible refine isi_u_tup ?_ | with_reducible refine isi_u_tl ?_ | ((with_reducible refine isi_l_int (xs := ?xs) ?g0 ?_); (case g0 => walk_at "pg")) | ((with_reducible refine isi_l_bool (xs := ?xs) ?g0 ?_); (case g0 => walk_at "pg")) | ((with_reducible refine isi_l_tup (xs := ?xs) ?g0 ?_); (case g0 => walk_at "pg")) | ((with_reducible refine isi_l_tl (xs := ?xs) ?g0 ?_); (case g0 => walk_at "pg")) | ((with_reducible refine isi_ty0 (a := ?a) ?g0 ?g1 ?_); (case g0 => assumption); (case g1 => decide)) | with_reducible refine n_tg ?_ | ((with_reducible refine n_lg (xs := ?xs) ?g0 ?_); (case g0 => walk_at "pg")) | ((with_reducible refine l_lg (xs := ?xs) ?g0 ?_); (case g0 => walk_at "pg")) | ((with_reducible refine i_tg (d := ?d) ?g0 ?_); (case g0 => exact rfl)) | ((with_reducible refine i_lg (xs := ?xs) (d := ?d) ?g0 ?g1 ?_); (case g0 => walk_at "pg"); (case g1 => exact rfl)) | ((with_reducible refine g_lg (xs := ?xs) ?g0 ?_); (case g0 => walk_at "pg")) | ((with_reducible refine m_tg ?g0 ?_); (case g0 => exact Nat.le_of_ble_eq_true rfl)) | ((with_reducible refine m_lg ?g0 ?_); (case g0 => exact Nat.le_of_ble_eq_true rfl)) | ((with_reducible refine n_q (f := ?f) ?g0 ?_); (case g0 => walk_at "pq")) | ((with_reducible refine l_q (f := ?f) ?g0 ?_); (case g0 => walk_at "pq")) | ((with_reducible refine t_q (f := ?f) ?g0 ?_); (case g0 => walk_at "pq")) | ((with_reducible refine i_q (f := ?f) ?g0 ?_ ?_ ?_); (case g0 => walk_at "pq")) | ((with_reducible refine g_q (f := ?f) ?g0 ?_); (case g0 => walk_at "pq")) | ((with_reducible refine isi_q_tl (f := ?f) ?g0 ?_); (case g0 => walk_at "pq")) | ((with_reducible refine st_and ?g0 ?_); (case g0 => walk_at "pst")) | fail)

local macro_rules | `(tactic| walk_at "pd1") => `(tactic| first | with_reducible refine u_w_i ?_ | with_reducible refine u_w_b ?_ | with_reducible refine u_w_s ?_ | with_reducible refine u_w_n ?_ | with_reducible refine u_w_t ?_ | with_reducible refine u_w_u ?_ | ((with_reducible refine u_w_l (xs := ?xs) ?g0 ?_); (case g0 => walk_at "pg")) | fail)
local macro_rules | `(tactic| walk_at "pd1") => `(tactic| first | with_reducible refine u_trim_t ?_ ?_ | ((with_reducible refine u_trim_l (l := ?l) ?g0 ?_ ?_); (case g0 => walk_at "pg")) | fail)
local macro_rules | `(tactic| walk_at "pd1") => `(tactic| first | with_reducible refine u_plus ?_ ?_ ?_ | fail)
local macro_rules | `(tactic| walk_at "pd1") => `(tactic| first | with_reducible refine u_scaled ?_ ?_ ?_ ?_ | fail)
local macro_rules | `(tactic| walk_at "pd1") => `(tactic| first | with_reducible refine u_multiple ?_ ?_ | fail)
local macro_rules | `(tactic| walk_at "pd1") => `(tactic| first | with_reducible refine u_variables ?_ ?_ ?_ | fail)

local macro_rules | `(tactic| walk_at "pd1") => `(tactic| first | with_reducible refine u_put_variable ?_ ?_ ?_ ?_ ?_ ?_ | fail)
local macro_rules | `(tactic| walk_at "pd1") => `(tactic| first | with_reducible refine u_lw_i ?_ | fail)
local macro_rules | `(tactic| walk_at "pd1") => `(tactic| first | ((with_reducible refine u_law_pick (l := ?l) ?g0 ?_ ?_ ?_ ?_); (case g0 => walk_at "pg")) | fail)
local macro_rules | `(tactic| walk_at "pd1") => `(tactic| first | ((with_reducible refine u_law_number (l := ?l) ?g0 ?_ ?_ ?_); (case g0 => walk_at "pg")) | fail)
local macro_rules | `(tactic| walk_at "pd1") => `(tactic| first | ((with_reducible refine u_law_trim (l := ?l) ?g0 ?_ ?_ ?_); (case g0 => walk_at "pg")) | fail)

local macro_rules | `(tactic| walk_at "pd1") => `(tactic| first | with_reducible refine u_plus ?_ ?_ ?_ | fail)
local macro_rules | `(tactic| walk_at "pd1") => `(tactic| first | with_reducible refine u_minus ?_ ?_ ?_ ?_ | fail)
local macro_rules | `(tactic| walk_at "pd1") => `(tactic| first | with_reducible refine u_ls_tt ?_ ?_ ?_ ?_ ?_ ?_ | fail)
local macro_rules | `(tactic| walk_at "pd1") => `(tactic| first | with_reducible refine u_lt_tt ?_ ?_ ?_ | ((with_reducible refine u_lt_q (m := ?m) ?g0 ?_ ?_ ?_); (case g0 => walk_at "pg")) | fail)
local macro_rules | `(tactic| walk_at "pd1") => `(tactic| first | with_reducible refine u_join3 ?_ ?_ ?_ ?_ | with_reducible refine u_join1 ?_ ?_ | with_reducible refine u_join0 ?_ | fail)
local macro_rules | `(tactic| walk_at "pd1") => `(tactic| first | with_reducible refine u_constant ?_ ?_ | fail)
local macro_rules | `(tactic| walk_at "pd1") => `(tactic| first | with_reducible refine u_fa_t ?_ ?_ ?_ ?_ ?_ ?_ ?_ | ((with_reducible refine u_fa_l (v := ?v) ?g0 ?_ ?_ ?_ ?_ ?_ ?_ ?_); (case g0 => walk_at "pg")) | fail)
local macro_rules | `(tactic| walk_at "pd1") => `(tactic| first | with_reducible refine u_lfa_t ?_ ?_ ?_ ?_ ?_ ?_ | ((with_reducible refine u_lfa_l (v := ?v) ?g0 ?_ ?_ ?_ ?_ ?_ ?_); (case g0 => walk_at "pg")) | fail)
local macro_rules | `(tactic| walk_at "pd1") => `(tactic| first | with_reducible refine u_law_number_told ?_ ?_ | fail)
local macro_rules | `(tactic| walk_at "pd1") => `(tactic| first | with_reducible refine u_law_put ?_ ?_ ?_ ?_ ?_ ?_ ?_ | fail)
local macro_rules | `(tactic| walk_at "pd1") => `(tactic| first | with_reducible refine u_law_moved ?_ ?_ ?_ ?_ ?_ ?_ | fail)
local macro_rules | `(tactic| walk_at "pd1") => `(tactic| first | with_reducible refine u_law_order ?_ ?_ ?_ ?_ ?_ | fail)
local macro_rules | `(tactic| walk_at "pd1") => `(tactic| first | with_reducible refine u_same_order ?_ ?_ ?_ ?_ ?_ | fail)
local macro_rules | `(tactic| walk_at "pd1") => `(tactic| first | with_reducible refine u_moved ?_ ?_ ?_ ?_ ?_ ?_ | fail)

local macro_rules | `(tactic| walk_at "pd1") => `(tactic| first | with_reducible refine c_eqb ?_ | fail)

local macro_rules | `(tactic| walk_at "tl") => `(tactic| first | omega | (with_reducible refine Nat.le_trans (trim_le _) ?_; walk_at "tl") | (with_reducible refine addL_le ?_ ?_ <;> walk_at "tl") | (rw [mulL_len]; walk_at "tl") | (rw [List.length_set]; walk_at "tl") | fail)
local macro_rules | `(tactic| walk_at "tn") => `(tactic| first | (with_reducible assumption) | (with_reducible refine trim_ne ?_; walk_at "tn") | (with_reducible refine add_ne ?_; walk_at "tn") | (with_reducible refine mul_ne ?_; walk_at "tn") | (with_reducible exact norm_zero.1) | fail)
local macro_rules | `(tactic| walk_at "bd") => `(tactic| first | (with_reducible assumption) | (with_reducible exact Bd.mono (by assumption) (by decide)) | (with_reducible exact Bz.up (by assumption) (by decide)) | (with_reducible exact Bz.sm (by decide) (by decide)) | fail)
local macro_rules | `(tactic| walk_at "sg") => `(tactic| first | (with_reducible assumption) | (walk_at "bd") | (walk_at "tn"; done) | (walk_at "tl"; done) | fail)

theorem u_is_number {S : Store} {Q : DQ} {E : EQ} {f : List Int} (h : Q (.bl (decide (f.length = 1))) S) : FnS p_is_number [tupI f] S Q E := ⟨_, ⟨f, rfl, rfl⟩, h⟩
local macro_rules | `(tactic| walk_at "pd1") => `(tactic| first | with_reducible refine u_is_number ?_ | fail)
/-! ### _law_reads_hold -/
def p__law_reads_hold : List D → Store → Out → Prop := fun ds S o => ∃ (f v : List Int) (n : Nat), ds = [tupI f, .ref n] ∧ S[n]? = some (lstI v) ∧ Fo 200 f ∧ Va 200 v ∧ o = .val (.bl true)
theorem vc__law_reads_hold (M : Md) (h10 : M.sp 10 = FnS p_constant) (h11 : M.sp 11 = FnS p_multiple) (h12 : M.sp 12 = FnS p_variables) (h13 : M.sp 13 = FnS p_is_number) (h14 : M.sp 14 = FnS p_form_at) (h21 : M.sp 21 = FnS p__law_form_at) (h27 : M.sp 27 = FnS p__law_told) (h28 : M.sp 28 = FnS p__law_number_told) : ∀ ds S o, p__law_reads_hold ds S o → wpSs (M.C (excO S o)) b__law_reads_hold (retO S o) (startD n__law_reads_hold ds) S := by
  rintro ds S o ⟨f, v, n, rfl, hn, ff, vv, rfl⟩
  have lf := ff.ln
  have lv := vv.ln
  have nf := ff.nm.1
  have hp := len_pos nf
  have bf := ff.bd
  have bv := vv.bd
  simp only [b__law_reads_hold, startD, List.map, List.length, List.replicate, Nat.reduceAdd, Nat.reduceSub, List.cons_append, List.nil_append]
  repeat' (walk_at "pd1")
  all_goals first
    | with_reducible exact Ext.refl _
    | with_reducible rfl
    | (walk_at "sg"; done)
    | exact (rfl : cf f 0 = cf f (Int.toNat 0))
    | skip
  refine FR_ind (fun k e S' => S' = S ∧ ∃ a b c, e = [some (tupI f), some (.ref n), a, b, c]) ⟨rfl, _, _, _, rfl⟩ ?_ ?_
  · rintro k y e S' hy ⟨rfl, a, b, c, rfl⟩
    obtain ⟨hk, rfl⟩ := rngL_get hy
    repeat' (walk_at "pd1")
    all_goals first
      | with_reducible exact Ext.refl _
      | with_reducible rfl
      | (walk_at "sg"; done)
      | skip
    · rename_i h1
      rw [show ((0 : Int) + k + 1).toNat = ((0 : Int) + k).toNat + 1 by omega]
    · exact ⟨rfl, _, _, _, rfl⟩
    · rename_i h1
      exact cf_out (by omega)
    · exact ⟨rfl, _, _, _, rfl⟩
  · rintro e S' ⟨rfl, a, b, c, rfl⟩
    repeat' (walk_at "pd1")
    all_goals first
      | with_reducible exact Ext.refl _
      | with_reducible rfl
      | (walk_at "sg"; done)
      | skip
    refine lc_ix (fun k => if (!decide (cf f (k + 1) = 0)) = true then some (.int ((k : Nat) : Int)) else none) still_none (by rw [rngL_len]; exact big _ (by omega)) (fun k d acc hd => ?_) ?_
    · obtain ⟨hk, rfl⟩ := rngL_get hd
      unfold lcStep
      repeat' (walk_at "pd1")
      all_goals try (walk_at "ps")
      all_goals rename_i hb
      all_goals rw [show ((0 : Int) + k + 1).toNat = k + 1 by omega] at hb
      · rw [if_pos (by simpa using hb)]
        congr 2
        omega
      · rw [if_neg (by simpa using hb)]
    · rw [filterMap_ifs (g := fun k => ((k : Nat) : Int)), rngL_len, show ((f.length : Int) - 1).toNat = f.length - 1 by omega]
      rw [show List.map (fun k => ((k : Nat) : Int)) (List.filter (fun k => !decide (cf f (k + 1) = 0)) (List.range (f.length - 1))) = varsL f from rfl]
      have hs : ((S' ++ [SO.lst ((varsL f).map D.int)]) : Store) = S' ++ [lstI (varsL f)] := rfl
      rw [hs]
      have hv : (varsL f).length ≤ 16000000 := by
        unfold varsL varsN
        rw [List.length_map]
        exact Nat.le_trans (List.length_filter_le _ _) (by rw [List.length_range]; omega)
      repeat' (walk_at "pd1")
      all_goals first
        | with_reducible exact Ext.refl _
        | with_reducible exact Ext.app _ _
        | with_reducible rfl
        | with_reducible assumption
        | skip
      rw [show decide (f.length = 1) = decide ((f.length : Int) = 1) from decide_eq_decide.mpr (by omega)]
      simp

end PD

set_option Elab.async false
set_option linter.all false
set_option maxRecDepth 100000
set_option maxHeartbeats 1000000
namespace PD
open PySem
local macro_rules | `(tactic| walk_at "pg") => `(tactic| first | assumption | exact get_last' _ _ | (refine get_app ?_; walk_at "pg") | fail)
local macro_rules | `(tactic| walk_at "pq") => `(tactic| first | assumption | (refine isSq.app ?_ _; walk_at "pq") | fail)
local macro_rules | `(tactic| walk_at "pst") => `(tactic| first | exact still_none | exact still_tup | exact still_kl | exact still_ref (by walk_at "pg") | exact still_q (by walk_at "pq") | (refine still_seq ?_; assumption) | fail)
local macro_rules | `(tactic| walk_at "pe") => `(tactic| first | exact Ext.refl _ | assumption | (refine Ext.trans ?_ (Ext.app _ _); walk_at "pe") | fail)
local macro_rules | `(tactic| walk_at "ps2") => `(tactic| first | walk_at "pe" | with_reducible rfl | ((try simp only [decide_eq_true_eq, decide_eq_false_iff_not, Bool.not_eq_true', Bool.not_eq_false', Bool.not_true, Bool.not_false, List.length_append, List.length_replicate, List.length_cons, List.length_nil, List.length_set, List.length_map, List.length_take, List.length_drop, List.length_range] at *); first | omega | (exfalso; omega)) | fail)
local macro_rules | `(tactic| walk_at "ps") => `(tactic| first | walk_at "pe" | rfl | ((try simp only [decide_eq_true_eq, decide_eq_false_iff_not, Bool.not_eq_true', Bool.not_eq_false', Bool.not_true, Bool.not_false, List.length_append, List.length_replicate, List.length_cons, List.length_nil, List.length_set, List.length_map, List.length_take, List.length_drop, List.length_range] at *); first | omega | (exfalso; omega)) | fail)
local macro_rules | `(tactic| walk_at "pd1") => `(tactic| first | ((with_reducible refine r_nil ?_); (try dsimp only)) | ((with_reducible refine r_ret ?_); (try dsimp only)) | ((with_reducible refine r_retN ?_); (try dsimp only)) | ((with_reducible refine r_brk ?_); (try dsimp only)) | ((with_reducible refine r_cnt ?_); (try dsimp only)) | ((with_reducible refine r_rse ?_); (try dsimp only)) | ((with_reducible refine r_pas ?_); (try dsimp only)) | ((with_reducible refine r_ex ?_); (try dsimp only)) | with_reducible refine r_seq ?_ | with_reducible refine r_asg ?_ | with_reducible refine r_ifs ?_ | with_reducible refine r_tr ?_ | with_reducible refine r_fr ?_ | ((with_reducible refine r_aug (j := ?j) ?g0 ?_); (case g0 => exact rfl)) | ((with_reducible refine r_var (d := ?d) ?g0 ?_); (case g0 => exact rfl)) | ((with_reducible refine r_call (g := ?g) ?g0 ?_); (case g0 => first | assumption | exact rfl)) | with_reducible refine r_cst ?_ | with_reducible refine r_cmp ?_ | with_reducible refine r_bin ?_ | with_reducible refine r_bi ?_ | with_reducible refine r_ix ?_ | with_reducible refine r_and ?_ | with_reducible refine r_or ?_ | with_reducible refine r_not ?_ | with_reducible refine r_ife ?_ | with_reducible refine r_neg ?_ | with_reducible refine r_sl ?_ | with_reducible refine r_tup ?_ | with_reducible refine r_lst ?_ | with_reducible refine r_lc ?_ | with_reducible refine r_chn ?_ | with_reducible refine r_bm ?_ | ((with_reducible refine r_oN ?_); (try dsimp only)) | ((with_reducible refine r_oS ?_); (try dsimp only)) | with_reducible refine r_esC ?_ | with_reducible refine r_esN ?_ | with_reducible refine r_sub ?_ | with_reducible refine r_tsC ?_ | with_reducible refine r_tsN ?_ | with_reducible refine r_iSeq ?_ | with_reducible refine r_iRng ?_ | with_reducible refine r_iEnum ?_ | with_reducible refine r_nm ?_ | ((with_reducible refine r_tp (xs := ?xs) ?g0 ?g1 ?_); (case g0 => exact rfl); (case g1 => exact rfl)) | with_reducible refine m_t0 ?_ | with_reducible refine m_t1 ?_ | with_reducible refine m_t2 ?_ | with_reducible refine m_l0 ?_ | with_reducible refine m_l1 ?_ | with_reducible refine m_l3 ?_ | with_reducible refine r_addI ?_ | with_reducible refine r_subI ?_ | with_reducible refine r_mulI ?_ ?_ | with_reducible refine r_modI ?_ ?_ | with_reducible refine a_tt ?_ ?_ | with_reducible refine r_fdivI ?_ ?_ ?_ | with_reducible refine x_t1 ?_ ?_ ?_ | with_reducible refine r_powI ?_ ?_ ?_ ?_ | ((with_reducible refine a_ll (f := ?f) (g := ?g) ?g0 ?g1 ?_ ?_); (case g0 => walk_at "pg"); (case g1 => walk_at "pg")) | ((with_reducible refine x_l1 (i := ?i) ?g0 ?_ ?_ ?_); (case g0 => walk_at "pg")) | (with_reducible refine r_on (show partD none = some none from rfl) ?_) | (with_reducible refine r_on (show partD (some (D.int _)) = some (some _) from rfl) ?_) | with_reducible refine s_tt ?_ ?_ | with_reducible refine s_tf ?_ ?_ | ((with_reducible refine s_lt (f := ?f) ?g0 ?_ ?_); (case g0 => walk_at "pg")) | ((with_reducible refine s_lf (f := ?f) ?g0 ?_ ?_); (case g0 => walk_at "pg")) | with_reducible refine n_t ?_ | with_reducible refine l_t ?_ | with_reducible refine t_t ?_ | with_reducible refine b_abs ?_ | with_reducible refine b_int ?_ | with_reducible refine b_intb ?_ | with_reducible refine b_max ?_ | with_reducible refine b_min ?_ | ((with_reducible refine n_l (f := ?f) ?g0 ?_); (case g0 => walk_at "pg")) | ((with_reducible refine l_l (f := ?f) ?g0 ?_); (case g0 => walk_at "pg")) | ((with_reducible refine t_l (f := ?f) ?g0 ?_); (case g0 => walk_at "pg")) | with_reducible refine i_tn ?_ ?_ | with_reducible refine i_t ?_ ?_ ?_ | ((with_reducible refine i_l (f := ?f) ?g0 ?_ ?_ ?_); (case g0 => walk_at "pg")) | with_reducible refine w_e ?_ ?_ ?_ | ((with_reducible refine w_l (f := ?f) ?g0 ?_ ?_ ?_); (case g0 => walk_at "pg")) | with_reducible refine p_e ?_ ?_ | ((with_reducible refine p_l (f := ?f) ?g0 ?_ ?_); (case g0 => walk_at "pg")) | with_reducible refine c_lt ?_ | with_reducible refine c_le ?_ | with_reducible refine c_gt ?_ | with_reducible refine c_ge ?_ | with_reducible refine c_eq ?_ | with_reducible refine c_ne ?_ | with_reducible refine c_is ?_ | with_reducible refine c_isn ?_ | ((with_reducible refine t_bl (fun hb => ?_) (fun hb => ?_)) <;> ((try (cases hb; done)); (try simp only [decide_eq_true_eq, decide_eq_false_iff_not, Bool.not_eq_true', Bool.not_eq_false'] at hb))) | ((with_reducible refine t_and (fun hb => ?_) (fun hb => ?_)) <;> ((try (cases hb; done)); (try simp only [decide_eq_true_eq, decide_eq_false_iff_not, Bool.not_eq_true', Bool.not_eq_false'] at hb))) | with_reducible refine t_nb ?_ | with_reducible refine t_neg ?_ | with_reducible refine on_if ?_ | with_reducible refine g_r1 ?_ ?_ ?_ | with_reducible refine g_r2 ?_ ?_ ?_ ?_ ?_ | with_reducible refine g_t ?_ | ((with_reducible refine g_l (f := ?f) ?g0 ?_); (case g0 => walk_at "pg")) | with_reducible refine o_val ?_ ?_ | ((with_reducible refine lc_end ?g0 ?_); (case g0 => first | exact rfl | skip)) | with_reducible refine o_exc ?_ ?_ ?_ | with_reducible refine o_new ?_ ?_ ?_ | with_reducible refine isi_i_int ?_ | with_reducible refine isi_i_bool ?_ | with_reducible refine isi_i_tup ?_ | with_reducible refine isi_i_tl ?_ | with_reducible refine isi_b_int ?_ | with_reducible refine isi_b_bool ?_ | with_reducible refine isi_b_tup ?_ | with_reducible refine isi_b_tl ?_ | with_reducible refine isi_s_int ?_ | with_reducible refine isi_s_bool ?_ | with_reducible refine isi_s_tup ?_ | with_reducible refine isi_s_tl ?_ | with_reducible refine isi_n_int ?_ | with_reducible refine isi_n_bool ?_ | with_reducible refine isi_n_tup ?_ | with_reducible refine isi_n_tl ?_ | with_reducible refine isi_t_int ?_ | with_reducible refine isi_t_bool ?_ | with_reducible refine isi_t_tup ?_ | with_reducible refine isi_t_tl ?_ | with_reducible refine isi_u_int ?_ | with_reducible refine isi_u_bool ?_ | with_reducible refine isi_u_tup ?_ | with_reducible refine isi_u_tl ?_ | ((with_reducible refine isi_l_int (xs := ?xs) ?g0 ?_); (case g0 => walk_at "pg")) | ((with_reducible refine isi_l_bool (xs := ?xs) ?g0 ?_); (case g0 => walk_at "pg")) | ((with_reducible refine isi_l_tup (xs := ?xs) ?g0 ?_); (case g0 => walk_at "pg")) | ((with_reducible refine isi_l_tl (xs := ?xs) ?g0 ?_); (case g0 => walk_at "pg")) | ((with_reducible refine isi_ty0 (a := ?a) ?g0 ?g1 ?_); (case g0 => assumption); (case g1 => decide)) | with_reducible refine n_tg ?_ | ((with_reducible refine n_lg (xs := ?xs) ?g0 ?_); (case g0 => walk_at "pg")) | ((with_reducible refine l_lg (xs := ?xs) ?g0 ?_); (case g0 => walk_at "pg")) | ((with_reducible refine i_tg (d := ?d) ?g0 ?_); (case g0 => exact rfl)) | ((with_reducible refine i_lg (xs := ?xs) (d := ?d) ?g0 ?g1 ?_); (case g0 => walk_at "pg"); (case g1 => exact rfl)) | ((with_reducible refine g_lg (xs := ?xs) ?g0 ?_); (case g0 => walk_at "pg")) | ((with_reducible refine m_tg ?g0 ?_); (case g0 => exact Nat.le_of_ble_eq_true rfl)) | ((with_reducible refine m_lg ?g0 ?_); (case g0 => exact Nat.le_of_ble_eq_true rfl)) | ((with_reducible refine n_q (f := ?f) ?g0 ?_); (case g0 => walk_at "pq")) | ((with_reducible refine l_q (f := ?f) ?g0 ?_); (case g0 => walk_at "pq")) | ((with_reducible refine t_q (f := ?f) ?g0 ?_); (case g0 => walk_at "pq")) | ((with_reducible refine i_q (f := ?f) ?g0 ?_ ?_ ?_); (case g0 => walk_at "pq")) | ((with_reducible refine g_q (f := ?f) ?g0 ?_); (case g0 => walk_at "pq")) | ((with_reducible refine isi_q_tl (f := ?f) ?g0 ?_); (case g0 => walk_at "pq")) | ((with_reducible refine st_and ?g0 ?_); (case g0 => walk_at "pst")) | fail)

local macro_rules | `(tactic| walk_at "pd1") => `(tactic| first | with_reducible refine u_w_i ?_ | with_reducible refine u_w_b ?_ | with_reducible refine u_w_s ?_ | with_reducible refine u_w_n ?_ | with_reducible refine u_w_t ?_ | with_reducible refine u_w_u ?_ | ((with_reducible refine u_w_l (xs := ?xs) ?g0 ?_); (case g0 => walk_at "pg")) | fail)
local macro_rules | `(tactic| walk_at "pd1") => `(tactic| first | with_reducible refine u_trim_t ?_ ?_ | ((with_reducible refine u_trim_l (l := ?l) ?g0 ?_ ?_); (case g0 => walk_at "pg")) | fail)
local macro_rules | `(tactic| walk_at "pd1") => `(tactic| first | with_reducible refine u_plus ?_ ?_ ?_ | fail)
local macro_rules | `(tactic| walk_at "pd1") => `(tactic| first | with_reducible refine u_scaled ?_ ?_ ?_ ?_ | fail)
local macro_rules | `(tactic| walk_at "pd1") => `(tactic| first | with_reducible refine u_multiple ?_ ?_ | fail)
local macro_rules | `(tactic| walk_at "pd1") => `(tactic| first | with_reducible refine u_variables ?_ ?_ ?_ | fail)

local macro_rules | `(tactic| walk_at "pd1") => `(tactic| first | with_reducible refine u_put_variable ?_ ?_ ?_ ?_ ?_ ?_ | fail)
local macro_rules | `(tactic| walk_at "pd1") => `(tactic| first | with_reducible refine u_lw_i ?_ | fail)
local macro_rules | `(tactic| walk_at "pd1") => `(tactic| first | ((with_reducible refine u_law_pick (l := ?l) ?g0 ?_ ?_ ?_ ?_); (case g0 => walk_at "pg")) | fail)
local macro_rules | `(tactic| walk_at "pd1") => `(tactic| first | ((with_reducible refine u_law_number (l := ?l) ?g0 ?_ ?_ ?_); (case g0 => walk_at "pg")) | fail)
local macro_rules | `(tactic| walk_at "pd1") => `(tactic| first | ((with_reducible refine u_law_trim (l := ?l) ?g0 ?_ ?_ ?_); (case g0 => walk_at "pg")) | fail)

local macro_rules | `(tactic| walk_at "pd1") => `(tactic| first | with_reducible refine u_plus ?_ ?_ ?_ | fail)
local macro_rules | `(tactic| walk_at "pd1") => `(tactic| first | with_reducible refine u_minus ?_ ?_ ?_ ?_ | fail)
local macro_rules | `(tactic| walk_at "pd1") => `(tactic| first | with_reducible refine u_ls_tt ?_ ?_ ?_ ?_ ?_ ?_ | fail)
local macro_rules | `(tactic| walk_at "pd1") => `(tactic| first | with_reducible refine u_lt_tt ?_ ?_ ?_ | ((with_reducible refine u_lt_q (m := ?m) ?g0 ?_ ?_ ?_); (case g0 => walk_at "pg")) | fail)
local macro_rules | `(tactic| walk_at "pd1") => `(tactic| first | with_reducible refine u_join3 ?_ ?_ ?_ ?_ | with_reducible refine u_join1 ?_ ?_ | with_reducible refine u_join0 ?_ | fail)
local macro_rules | `(tactic| walk_at "pd1") => `(tactic| first | with_reducible refine u_constant ?_ ?_ | fail)
local macro_rules | `(tactic| walk_at "pd1") => `(tactic| first | with_reducible refine u_fa_t ?_ ?_ ?_ ?_ ?_ ?_ ?_ | ((with_reducible refine u_fa_l (v := ?v) ?g0 ?_ ?_ ?_ ?_ ?_ ?_ ?_); (case g0 => walk_at "pg")) | fail)
local macro_rules | `(tactic| walk_at "pd1") => `(tactic| first | with_reducible refine u_lfa_t ?_ ?_ ?_ ?_ ?_ ?_ | ((with_reducible refine u_lfa_l (v := ?v) ?g0 ?_ ?_ ?_ ?_ ?_ ?_); (case g0 => walk_at "pg")) | fail)
local macro_rules | `(tactic| walk_at "pd1") => `(tactic| first | with_reducible refine u_law_number_told ?_ ?_ | fail)
local macro_rules | `(tactic| walk_at "pd1") => `(tactic| first | with_reducible refine u_law_put ?_ ?_ ?_ ?_ ?_ ?_ ?_ | fail)
local macro_rules | `(tactic| walk_at "pd1") => `(tactic| first | with_reducible refine u_law_moved ?_ ?_ ?_ ?_ ?_ ?_ | fail)
local macro_rules | `(tactic| walk_at "pd1") => `(tactic| first | with_reducible refine u_law_order ?_ ?_ ?_ ?_ ?_ | fail)
local macro_rules | `(tactic| walk_at "pd1") => `(tactic| first | with_reducible refine u_same_order ?_ ?_ ?_ ?_ ?_ | fail)
local macro_rules | `(tactic| walk_at "pd1") => `(tactic| first | with_reducible refine u_moved ?_ ?_ ?_ ?_ ?_ ?_ | fail)

local macro_rules | `(tactic| walk_at "pd1") => `(tactic| first | with_reducible refine c_eqb ?_ | fail)

local macro_rules | `(tactic| walk_at "tl") => `(tactic| first | omega | (with_reducible refine Nat.le_trans (trim_le _) ?_; walk_at "tl") | (with_reducible refine addL_le ?_ ?_ <;> walk_at "tl") | (rw [mulL_len]; walk_at "tl") | (rw [List.length_set]; walk_at "tl") | fail)
local macro_rules | `(tactic| walk_at "tn") => `(tactic| first | (with_reducible assumption) | (with_reducible refine trim_ne ?_; walk_at "tn") | (with_reducible refine add_ne ?_; walk_at "tn") | (with_reducible refine mul_ne ?_; walk_at "tn") | (with_reducible exact norm_zero.1) | fail)
local macro_rules | `(tactic| walk_at "bd") => `(tactic| first | (with_reducible assumption) | (with_reducible exact Bd.mono (by assumption) (by decide)) | (with_reducible exact Bz.up (by assumption) (by decide)) | (with_reducible exact Bz.sm (by decide) (by decide)) | fail)
local macro_rules | `(tactic| walk_at "sg") => `(tactic| first | (with_reducible assumption) | (walk_at "bd") | (walk_at "tn"; done) | (walk_at "tl"; done) | fail)

/-! ### _law_moves_hold -/
def p__law_moves_hold : List D → Store → Out → Prop := fun ds S o => ∃ (f v : List Int) (s b : Int) (n : Nat), ds = [tupI f, .int s, .int b, .ref n] ∧ S[n]? = some (lstI v) ∧ Fo 200 f ∧ Va 200 v ∧ 0 ≤ s ∧ s ≤ 7 ∧ 0 ≤ b ∧ b ≤ 5 ∧ o = .val (.bl true)
theorem vc__law_moves_hold (M : Md) (h14 : M.sp 14 = FnS p_form_at) (h17 : M.sp 17 = FnS p_moved) (h21 : M.sp 21 = FnS p__law_form_at) (h27 : M.sp 27 = FnS p__law_told) (h31 : M.sp 31 = FnS p__law_moved) : ∀ ds S o, p__law_moves_hold ds S o → wpSs (M.C (excO S o)) b__law_moves_hold (retO S o) (startD n__law_moves_hold ds) S := by
  rintro ds S o ⟨f, v, s, b, n, rfl, hn, ff, vv, hs0, hs1, hb0, hb1, rfl⟩
  have lf := ff.ln
  have lv := vv.ln
  have nf := ff.nm.1
  have hp := len_pos nf
  have bf := ff.bd
  have bv := vv.bd
  simp only [b__law_moves_hold, startD, List.map, List.length, List.replicate, Nat.reduceAdd, Nat.reduceSub, List.cons_append, List.nil_append]
  repeat' (walk_at "pd1")
  all_goals first
    | with_reducible exact Ext.refl _
    | with_reducible rfl
    | with_reducible exact e_moved ff.nm
    | (walk_at "sg"; done)
    | with_reducible exact movL_ne nf
    | exact Nat.le_trans (movL_len nf) (by omega)
    | (rw [List.length_append]; walk_at "pe"; done)
    | skip
  · rw [List.length_take, List.length_replicate]; omega
  · rw [List.length_append, List.length_take, List.length_replicate, List.length_drop]; omega
  · rw [List.length_append, List.length_append, List.length_take, List.length_replicate, List.length_drop]; omega
  · refine Bd.mono (k := 200) ⟨fun i => ?_⟩ (by decide)
    rw [cf_movL nf]
    split
    · exact bf _
    · split
      · exact Bz.zero
      · exact bf _
  · exact Bd.mono (k := 200) (((bv.take _).app (Bd.rep (Bz.sm (by decide) (by decide)))).app (bv.drop _)) (by decide)
  · have := movL_len (s := s.toNat) (b := b.toNat) nf
    rw [List.length_append, List.length_append, List.length_take, List.length_replicate, List.length_drop]; omega
  · walk_at "pe"
  · rw [ev_mov nf (by omega) lv (by omega)]
    simp

end PD

set_option Elab.async false
set_option linter.all false
set_option maxRecDepth 100000
set_option maxHeartbeats 1000000
namespace PD
open PySem
local macro_rules | `(tactic| walk_at "pg") => `(tactic| first | assumption | exact get_last' _ _ | (refine get_app ?_; walk_at "pg") | fail)
local macro_rules | `(tactic| walk_at "pq") => `(tactic| first | assumption | (refine isSq.app ?_ _; walk_at "pq") | fail)
local macro_rules | `(tactic| walk_at "pst") => `(tactic| first | exact still_none | exact still_tup | exact still_kl | exact still_ref (by walk_at "pg") | exact still_q (by walk_at "pq") | (refine still_seq ?_; assumption) | fail)
local macro_rules | `(tactic| walk_at "pe") => `(tactic| first | exact Ext.refl _ | assumption | (refine Ext.trans ?_ (Ext.app _ _); walk_at "pe") | fail)
local macro_rules | `(tactic| walk_at "ps2") => `(tactic| first | walk_at "pe" | with_reducible rfl | ((try simp only [decide_eq_true_eq, decide_eq_false_iff_not, Bool.not_eq_true', Bool.not_eq_false', Bool.not_true, Bool.not_false, List.length_append, List.length_replicate, List.length_cons, List.length_nil, List.length_set, List.length_map, List.length_take, List.length_drop, List.length_range] at *); first | omega | (exfalso; omega)) | fail)
local macro_rules | `(tactic| walk_at "ps") => `(tactic| first | walk_at "pe" | rfl | ((try simp only [decide_eq_true_eq, decide_eq_false_iff_not, Bool.not_eq_true', Bool.not_eq_false', Bool.not_true, Bool.not_false, List.length_append, List.length_replicate, List.length_cons, List.length_nil, List.length_set, List.length_map, List.length_take, List.length_drop, List.length_range] at *); first | omega | (exfalso; omega)) | fail)
local macro_rules | `(tactic| walk_at "pd1") => `(tactic| first | ((with_reducible refine r_nil ?_); (try dsimp only)) | ((with_reducible refine r_ret ?_); (try dsimp only)) | ((with_reducible refine r_retN ?_); (try dsimp only)) | ((with_reducible refine r_brk ?_); (try dsimp only)) | ((with_reducible refine r_cnt ?_); (try dsimp only)) | ((with_reducible refine r_rse ?_); (try dsimp only)) | ((with_reducible refine r_pas ?_); (try dsimp only)) | ((with_reducible refine r_ex ?_); (try dsimp only)) | with_reducible refine r_seq ?_ | with_reducible refine r_asg ?_ | with_reducible refine r_ifs ?_ | with_reducible refine r_tr ?_ | with_reducible refine r_fr ?_ | ((with_reducible refine r_aug (j := ?j) ?g0 ?_); (case g0 => exact rfl)) | ((with_reducible refine r_var (d := ?d) ?g0 ?_); (case g0 => exact rfl)) | ((with_reducible refine r_call (g := ?g) ?g0 ?_); (case g0 => first | assumption | exact rfl)) | with_reducible refine r_cst ?_ | with_reducible refine r_cmp ?_ | with_reducible refine r_bin ?_ | with_reducible refine r_bi ?_ | with_reducible refine r_ix ?_ | with_reducible refine r_and ?_ | with_reducible refine r_or ?_ | with_reducible refine r_not ?_ | with_reducible refine r_ife ?_ | with_reducible refine r_neg ?_ | with_reducible refine r_sl ?_ | with_reducible refine r_tup ?_ | with_reducible refine r_lst ?_ | with_reducible refine r_lc ?_ | with_reducible refine r_chn ?_ | with_reducible refine r_bm ?_ | ((with_reducible refine r_oN ?_); (try dsimp only)) | ((with_reducible refine r_oS ?_); (try dsimp only)) | with_reducible refine r_esC ?_ | with_reducible refine r_esN ?_ | with_reducible refine r_sub ?_ | with_reducible refine r_tsC ?_ | with_reducible refine r_tsN ?_ | with_reducible refine r_iSeq ?_ | with_reducible refine r_iRng ?_ | with_reducible refine r_iEnum ?_ | with_reducible refine r_nm ?_ | ((with_reducible refine r_tp (xs := ?xs) ?g0 ?g1 ?_); (case g0 => exact rfl); (case g1 => exact rfl)) | with_reducible refine m_t0 ?_ | with_reducible refine m_t1 ?_ | with_reducible refine m_t2 ?_ | with_reducible refine m_l0 ?_ | with_reducible refine m_l1 ?_ | with_reducible refine m_l3 ?_ | with_reducible refine r_addI ?_ | with_reducible refine r_subI ?_ | with_reducible refine r_mulI ?_ ?_ | with_reducible refine r_modI ?_ ?_ | with_reducible refine a_tt ?_ ?_ | with_reducible refine r_fdivI ?_ ?_ ?_ | with_reducible refine x_t1 ?_ ?_ ?_ | with_reducible refine r_powI ?_ ?_ ?_ ?_ | ((with_reducible refine a_ll (f := ?f) (g := ?g) ?g0 ?g1 ?_ ?_); (case g0 => walk_at "pg"); (case g1 => walk_at "pg")) | ((with_reducible refine x_l1 (i := ?i) ?g0 ?_ ?_ ?_); (case g0 => walk_at "pg")) | (with_reducible refine r_on (show partD none = some none from rfl) ?_) | (with_reducible refine r_on (show partD (some (D.int _)) = some (some _) from rfl) ?_) | with_reducible refine s_tt ?_ ?_ | with_reducible refine s_tf ?_ ?_ | ((with_reducible refine s_lt (f := ?f) ?g0 ?_ ?_); (case g0 => walk_at "pg")) | ((with_reducible refine s_lf (f := ?f) ?g0 ?_ ?_); (case g0 => walk_at "pg")) | with_reducible refine n_t ?_ | with_reducible refine l_t ?_ | with_reducible refine t_t ?_ | with_reducible refine b_abs ?_ | with_reducible refine b_int ?_ | with_reducible refine b_intb ?_ | with_reducible refine b_max ?_ | with_reducible refine b_min ?_ | ((with_reducible refine n_l (f := ?f) ?g0 ?_); (case g0 => walk_at "pg")) | ((with_reducible refine l_l (f := ?f) ?g0 ?_); (case g0 => walk_at "pg")) | ((with_reducible refine t_l (f := ?f) ?g0 ?_); (case g0 => walk_at "pg")) | with_reducible refine i_tn ?_ ?_ | with_reducible refine i_t ?_ ?_ ?_ | ((with_reducible refine i_l (f := ?f) ?g0 ?_ ?_ ?_); (case g0 => walk_at "pg")) | with_reducible refine w_e ?_ ?_ ?_ | ((with_reducible refine w_l (f := ?f) ?g0 ?_ ?_ ?_); (case g0 => walk_at "pg")) | with_reducible refine p_e ?_ ?_ | ((with_reducible refine p_l (f := ?f) ?g0 ?_ ?_); (case g0 => walk_at "pg")) | with_reducible refine c_lt ?_ | with_reducible refine c_le ?_ | with_reducible refine c_gt ?_ | with_reducible refine c_ge ?_ | with_reducible refine c_eq ?_ | with_reducible refine c_ne ?_ | with_reducible refine c_is ?_ | with_reducible refine c_isn ?_ | ((with_reducible refine t_bl (fun hb => ?_) (fun hb => ?_)) <;> ((try (cases hb; done)); (try simp only [decide_eq_true_eq, decide_eq_false_iff_not, Bool.not_eq_true', Bool.not_eq_false'] at hb))) | ((with_reducible refine t_and (fun hb => ?_) (fun hb => ?_)) <;> ((try (cases hb; done)); (try simp only [decide_eq_true_eq, decide_eq_false_iff_not, Bool.not_eq_true', Bool.not_eq_false'] at hb))) | with_reducible refine t_nb ?_ | with_reducible refine t_neg ?_ | with_reducible refine on_if ?_ | with_reducible refine g_r1 ?_ ?_ ?_ | with_reducible refine g_r2 ?_ ?_ ?_ ?_ ?_ | with_reducible refine g_t ?_ | ((with_reducible refine g_l (f := ?f) ?g0 ?_); (case g0 => walk_at "pg")) | with_reducible refine o_val ?_ ?_ | ((with_reducible refine lc_end ?g0 ?_); (case g0 => first | exact rfl | skip)) | with_reducible refine o_exc ?_ ?_ ?_ | with_reducible refine o_new ?_ ?_ ?_ | with_reducible refine isi_i_int ?_ | with_reducible refine isi_i_bool ?_ | with_reducible refine isi_i_tup ?_ | with_reducible refine isi_i_tl ?_ | with_reducible refine isi_b_int ?_ | with_reducible refine isi_b_bool ?_ | with_reducible refine isi_b_tup ?_ | with_reducible refine isi_b_tl ?_ | with_reducible refine isi_s_int ?_ | with_reducible refine isi_s_bool ?_ | with_reducible refine isi_s_tup ?_ | with_reducible refine isi_s_tl ?_ | with_reducible refine isi_n_int ?_ | with_reducible refine isi_n_bool ?_ | with_reducible refine isi_n_tup ?_ | with_reducible refine isi_n_tl ?_ | with_reducible refine isi_t_int ?_ | with_reducible refine isi_t_bool ?_ | with_reducible refine isi_t_tup ?_ | with_reducible refine isi_t_tl ?_ | with_reducible refine isi_u_int ?_ | with_reducible refine isi_u_bool ?_ | with_reducible refine isi_u_tup ?_ | with_reducible refine isi_u_tl ?_ | ((with_reducible refine isi_l_int (xs := ?xs) ?g0 ?_); (case g0 => walk_at "pg")) | ((with_reducible refine isi_l_bool (xs := ?xs) ?g0 ?_); (case g0 => walk_at "pg")) | ((with_reducible refine isi_l_tup (xs := ?xs) ?g0 ?_); (case g0 => walk_at "pg")) | ((with_reducible refine isi_l_tl (xs := ?xs) ?g0 ?_); (case g0 => walk_at "pg")) | ((with_reducible refine isi_ty0 (a := ?a) ?g0 ?g1 ?_); (case g0 => assumption); (case g1 => decide)) | with_reducible refine n_tg ?_ | ((with_reducible refine n_lg (xs := ?xs) ?g0 ?_); (case g0 => walk_at "pg")) | ((with_reducible refine l_lg (xs := ?xs) ?g0 ?_); (case g0 => walk_at "pg")) | ((with_reducible refine i_tg (d := ?d) ?g0 ?_); (case g0 => exact rfl)) | ((with_reducible refine i_lg (xs := ?xs) (d := ?d) ?g0 ?g1 ?_); (case g0 => walk_at "pg"); (case g1 => exact rfl)) | ((with_reducible refine g_lg (xs := ?xs) ?g0 ?_); (case g0 => walk_at "pg")) | ((with_reducible refine m_tg ?g0 ?_); (case g0 => exact Nat.le_of_ble_eq_true rfl)) | ((with_reducible refine m_lg ?g0 ?_); (case g0 => exact Nat.le_of_ble_eq_true rfl)) | ((with_reducible refine n_q (f := ?f) ?g0 ?_); (case g0 => walk_at "pq")) | ((with_reducible refine l_q (f := ?f) ?g0 ?_); (case g0 => walk_at "pq")) | ((with_reducible refine t_q (f := ?f) ?g0 ?_); (case g0 => walk_at "pq")) | ((with_reducible refine i_q (f := ?f) ?g0 ?_ ?_ ?_); (case g0 => walk_at "pq")) | ((with_reducible refine g_q (f := ?f) ?g0 ?_); (case g0 => walk_at "pq")) | ((with_reducible refine isi_q_tl (f := ?f) ?g0 ?_); (case g0 => walk_at "pq")) | ((with_reducible refine st_and ?g0 ?_); (case g0 => walk_at "pst")) | fail)

local macro_rules | `(tactic| walk_at "pd1") => `(tactic| first | with_reducible refine u_w_i ?_ | with_reducible refine u_w_b ?_ | with_reducible refine u_w_s ?_ | with_reducible refine u_w_n ?_ | with_reducible refine u_w_t ?_ | with_reducible refine u_w_u ?_ | ((with_reducible refine u_w_l (xs := ?xs) ?g0 ?_); (case g0 => walk_at "pg")) | fail)
local macro_rules | `(tactic| walk_at "pd1") => `(tactic| first | with_reducible refine u_trim_t ?_ ?_ | ((with_reducible refine u_trim_l (l := ?l) ?g0 ?_ ?_); (case g0 => walk_at "pg")) | fail)
local macro_rules | `(tactic| walk_at "pd1") => `(tactic| first | with_reducible refine u_plus ?_ ?_ ?_ | fail)
local macro_rules | `(tactic| walk_at "pd1") => `(tactic| first | with_reducible refine u_scaled ?_ ?_ ?_ ?_ | fail)
local macro_rules | `(tactic| walk_at "pd1") => `(tactic| first | with_reducible refine u_multiple ?_ ?_ | fail)
local macro_rules | `(tactic| walk_at "pd1") => `(tactic| first | with_reducible refine u_variables ?_ ?_ ?_ | fail)

local macro_rules | `(tactic| walk_at "pd1") => `(tactic| first | with_reducible refine u_put_variable ?_ ?_ ?_ ?_ ?_ ?_ | fail)
local macro_rules | `(tactic| walk_at "pd1") => `(tactic| first | with_reducible refine u_lw_i ?_ | fail)
local macro_rules | `(tactic| walk_at "pd1") => `(tactic| first | ((with_reducible refine u_law_pick (l := ?l) ?g0 ?_ ?_ ?_ ?_); (case g0 => walk_at "pg")) | fail)
local macro_rules | `(tactic| walk_at "pd1") => `(tactic| first | ((with_reducible refine u_law_number (l := ?l) ?g0 ?_ ?_ ?_); (case g0 => walk_at "pg")) | fail)
local macro_rules | `(tactic| walk_at "pd1") => `(tactic| first | ((with_reducible refine u_law_trim (l := ?l) ?g0 ?_ ?_ ?_); (case g0 => walk_at "pg")) | fail)

local macro_rules | `(tactic| walk_at "pd1") => `(tactic| first | with_reducible refine u_plus ?_ ?_ ?_ | fail)
local macro_rules | `(tactic| walk_at "pd1") => `(tactic| first | with_reducible refine u_minus ?_ ?_ ?_ ?_ | fail)
local macro_rules | `(tactic| walk_at "pd1") => `(tactic| first | with_reducible refine u_ls_tt ?_ ?_ ?_ ?_ ?_ ?_ | fail)
local macro_rules | `(tactic| walk_at "pd1") => `(tactic| first | with_reducible refine u_lt_tt ?_ ?_ ?_ | ((with_reducible refine u_lt_q (m := ?m) ?g0 ?_ ?_ ?_); (case g0 => walk_at "pg")) | fail)
local macro_rules | `(tactic| walk_at "pd1") => `(tactic| first | with_reducible refine u_join3 ?_ ?_ ?_ ?_ | with_reducible refine u_join1 ?_ ?_ | with_reducible refine u_join0 ?_ | fail)
local macro_rules | `(tactic| walk_at "pd1") => `(tactic| first | with_reducible refine u_constant ?_ ?_ | fail)
local macro_rules | `(tactic| walk_at "pd1") => `(tactic| first | with_reducible refine u_fa_t ?_ ?_ ?_ ?_ ?_ ?_ ?_ | ((with_reducible refine u_fa_l (v := ?v) ?g0 ?_ ?_ ?_ ?_ ?_ ?_ ?_); (case g0 => walk_at "pg")) | fail)
local macro_rules | `(tactic| walk_at "pd1") => `(tactic| first | with_reducible refine u_lfa_t ?_ ?_ ?_ ?_ ?_ ?_ | ((with_reducible refine u_lfa_l (v := ?v) ?g0 ?_ ?_ ?_ ?_ ?_ ?_); (case g0 => walk_at "pg")) | fail)
local macro_rules | `(tactic| walk_at "pd1") => `(tactic| first | with_reducible refine u_law_number_told ?_ ?_ | fail)
local macro_rules | `(tactic| walk_at "pd1") => `(tactic| first | with_reducible refine u_law_put ?_ ?_ ?_ ?_ ?_ ?_ ?_ | fail)
local macro_rules | `(tactic| walk_at "pd1") => `(tactic| first | with_reducible refine u_law_moved ?_ ?_ ?_ ?_ ?_ ?_ | fail)
local macro_rules | `(tactic| walk_at "pd1") => `(tactic| first | with_reducible refine u_law_order ?_ ?_ ?_ ?_ ?_ | fail)
local macro_rules | `(tactic| walk_at "pd1") => `(tactic| first | with_reducible refine u_same_order ?_ ?_ ?_ ?_ ?_ | fail)
local macro_rules | `(tactic| walk_at "pd1") => `(tactic| first | with_reducible refine u_moved ?_ ?_ ?_ ?_ ?_ ?_ | fail)

local macro_rules | `(tactic| walk_at "pd1") => `(tactic| first | with_reducible refine c_eqb ?_ | fail)

local macro_rules | `(tactic| walk_at "tl") => `(tactic| first | omega | (with_reducible refine Nat.le_trans (trim_le _) ?_; walk_at "tl") | (with_reducible refine addL_le ?_ ?_ <;> walk_at "tl") | (rw [mulL_len]; walk_at "tl") | (rw [List.length_set]; walk_at "tl") | fail)
local macro_rules | `(tactic| walk_at "tn") => `(tactic| first | (with_reducible assumption) | (with_reducible refine trim_ne ?_; walk_at "tn") | (with_reducible refine add_ne ?_; walk_at "tn") | (with_reducible refine mul_ne ?_; walk_at "tn") | (with_reducible exact norm_zero.1) | fail)
local macro_rules | `(tactic| walk_at "bd") => `(tactic| first | (with_reducible assumption) | (with_reducible exact Bd.mono (by assumption) (by decide)) | (with_reducible exact Bz.up (by assumption) (by decide)) | (with_reducible exact Bz.sm (by decide) (by decide)) | fail)
local macro_rules | `(tactic| walk_at "sg") => `(tactic| first | (with_reducible assumption) | (walk_at "bd") | (walk_at "tn"; done) | (walk_at "tl"; done) | fail)

/-! ### _law_orders_hold -/
def p__law_orders_hold : List D → Store → Out → Prop := fun ds S o => ∃ (f g : List Int), ds = [tupI f, tupI g] ∧ Fo 200 f ∧ Fo 200 g ∧ o = .val (.bl true)
theorem vc__law_orders_hold (M : Md) (h18 : M.sp 18 = FnS p_same_order) (h26 : M.sp 26 = FnS p__law_sum) (h28 : M.sp 28 = FnS p__law_number_told) (h32 : M.sp 32 = FnS p__law_order) : ∀ ds S o, p__law_orders_hold ds S o → wpSs (M.C (excO S o)) b__law_orders_hold (retO S o) (startD n__law_orders_hold ds) S := by
  rintro ds S o ⟨f, g, rfl, ff, fg, rfl⟩
  have lf := ff.ln
  have lg := fg.ln
  have nf := ff.nm.1
  have ng := fg.nm.1
  have bf := ff.bd
  have bg := fg.bd
  simp only [b__law_orders_hold, startD, List.map, List.length, List.replicate, Nat.reduceAdd, Nat.reduceSub, List.cons_append, List.nil_append]
  have b1 : Bd 200 ([1] : List Int) := Bd.cons (Bz.sm (by decide) (by decide)) Bd.nil
  have l1 : ([1] : List Int).length ≤ 1000000 := by decide
  repeat' (walk_at "pd1")
  all_goals first
    | with_reducible exact Ext.refl _
    | with_reducible rfl
    | (walk_at "sg"; done)
    | skip
  have hne : trimL (addL f (mulL 1 [1])) ≠ [] := trim_ne (add_ne nf)
  have hln : (trimL (addL f (mulL 1 [1]))).length ≤ 8 := Nat.le_trans (trim_le _) (by rw [addL_len, mulL_len]; show max f.length 1 ≤ 8; omega)
  generalize trimL (addL f (mulL 1 [1])) = p at hne hln
  refine FR_ind (fun k e S' => S' = S ++ [SO.lst [D.tup [tupI f, tupI g], D.tup [tupI g, tupI f], D.tup [tupI f, tupI f], D.tup [tupI f, tupI p]]] ∧ ∃ w, e = [some (tupI f), some (tupI g), w]) ⟨rfl, _, rfl⟩ ?_ ?_
  · rintro k y e S' hy ⟨rfl, w, rfl⟩
    have hd : ∃ q r : List Int, y = .tup [tupI q, tupI r] ∧ q ≠ [] ∧ r ≠ [] ∧ q.length ≤ 8 ∧ r.length ≤ 8 := by
      have hm := List.mem_of_getElem? hy
      simp only [List.mem_cons, List.not_mem_nil, or_false] at hm
      rcases hm with rfl | rfl | rfl | rfl
      · exact ⟨_, _, rfl, nf, ng, lf, lg⟩
      · exact ⟨_, _, rfl, ng, nf, lg, lf⟩
      · exact ⟨_, _, rfl, nf, nf, lf, lf⟩
      · exact ⟨_, _, rfl, nf, hne, lf, hln⟩
    obtain ⟨q, r, rfl, nq, nr, lq, lr⟩ := hd
    repeat' (walk_at "pd1")
    all_goals first
      | with_reducible rfl
      | (walk_at "sg"; done)
      | skip
    exact ⟨rfl, some (D.tup [tupI q, tupI r]), rfl⟩
  · rintro e S' ⟨rfl, w, rfl⟩
    repeat' (walk_at "pd1")
    all_goals try (walk_at "ps")

end PD

set_option Elab.async false
set_option linter.all false
set_option maxRecDepth 100000
set_option maxHeartbeats 1000000
namespace PD
open PySem
local macro_rules | `(tactic| walk_at "pg") => `(tactic| first | assumption | exact get_last' _ _ | (refine get_app ?_; walk_at "pg") | fail)
local macro_rules | `(tactic| walk_at "pq") => `(tactic| first | assumption | (refine isSq.app ?_ _; walk_at "pq") | fail)
local macro_rules | `(tactic| walk_at "pst") => `(tactic| first | exact still_none | exact still_tup | exact still_kl | exact still_ref (by walk_at "pg") | exact still_q (by walk_at "pq") | (refine still_seq ?_; assumption) | fail)
local macro_rules | `(tactic| walk_at "pe") => `(tactic| first | exact Ext.refl _ | assumption | (refine Ext.trans ?_ (Ext.app _ _); walk_at "pe") | fail)
local macro_rules | `(tactic| walk_at "ps2") => `(tactic| first | walk_at "pe" | with_reducible rfl | ((try simp only [decide_eq_true_eq, decide_eq_false_iff_not, Bool.not_eq_true', Bool.not_eq_false', Bool.not_true, Bool.not_false, List.length_append, List.length_replicate, List.length_cons, List.length_nil, List.length_set, List.length_map, List.length_take, List.length_drop, List.length_range] at *); first | omega | (exfalso; omega)) | fail)
local macro_rules | `(tactic| walk_at "ps") => `(tactic| first | walk_at "pe" | rfl | ((try simp only [decide_eq_true_eq, decide_eq_false_iff_not, Bool.not_eq_true', Bool.not_eq_false', Bool.not_true, Bool.not_false, List.length_append, List.length_replicate, List.length_cons, List.length_nil, List.length_set, List.length_map, List.length_take, List.length_drop, List.length_range] at *); first | omega | (exfalso; omega)) | fail)
local macro_rules | `(tactic| walk_at "pd1") => `(tactic| first | ((with_reducible refine r_nil ?_); (try dsimp only)) | ((with_reducible refine r_ret ?_); (try dsimp only)) | ((with_reducible refine r_retN ?_); (try dsimp only)) | ((with_reducible refine r_brk ?_); (try dsimp only)) | ((with_reducible refine r_cnt ?_); (try dsimp only)) | ((with_reducible refine r_rse ?_); (try dsimp only)) | ((with_reducible refine r_pas ?_); (try dsimp only)) | ((with_reducible refine r_ex ?_); (try dsimp only)) | with_reducible refine r_seq ?_ | with_reducible refine r_asg ?_ | with_reducible refine r_ifs ?_ | with_reducible refine r_tr ?_ | with_reducible refine r_fr ?_ | ((with_reducible refine r_aug (j := ?j) ?g0 ?_); (case g0 => exact rfl)) | ((with_reducible refine r_var (d := ?d) ?g0 ?_); (case g0 => exact rfl)) | ((with_reducible refine r_call (g := ?g) ?g0 ?_); (case g0 => first | assumption | exact rfl)) | with_reducible refine r_cst ?_ | with_reducible refine r_cmp ?_ | with_reducible refine r_bin ?_ | with_reducible refine r_bi ?_ | with_reducible refine r_ix ?_ | with_reducible refine r_and ?_ | with_reducible refine r_or ?_ | with_reducible refine r_not ?_ | with_reducible refine r_ife ?_ | with_reducible refine r_neg ?_ | with_reducible refine r_sl ?_ | with_reducible refine r_tup ?_ | with_reducible refine r_lst ?_ | with_reducible refine r_lc ?_ | with_reducible refine r_chn ?_ | with_reducible refine r_bm ?_ | ((with_reducible refine r_oN ?_); (try dsimp only)) | ((with_reducible refine r_oS ?_); (try dsimp only)) | with_reducible refine r_esC ?_ | with_reducible refine r_esN ?_ | with_reducible refine r_sub ?_ | with_reducible refine r_tsC ?_ | with_reducible refine r_tsN ?_ | with_reducible refine r_iSeq ?_ | with_reducible refine r_iRng ?_ | with_reducible refine r_iEnum ?_ | with_reducible refine r_nm ?_ | ((with_reducible refine r_tp (xs := ?xs) ?g0 ?g1 ?_); (case g0 => exact rfl); (case g1 => exact rfl)) | with_reducible refine m_t0 ?_ | with_reducible refine m_t1 ?_ | with_reducible refine m_t2 ?_ | with_reducible refine m_l0 ?_ | with_reducible refine m_l1 ?_ | with_reducible refine m_l3 ?_ | with_reducible refine r_addI ?_ | with_reducible refine r_subI ?_ | with_reducible refine r_mulI ?_ ?_ | with_reducible refine r_modI ?_ ?_ | with_reducible refine a_tt ?_ ?_ | with_reducible refine r_fdivI ?_ ?_ ?_ | with_reducible refine x_t1 ?_ ?_ ?_ | with_reducible refine r_powI ?_ ?_ ?_ ?_ | ((with_reducible refine a_ll (f := ?f) (g := ?g) ?g0 ?g1 ?_ ?_); (case g0 => walk_at "pg"); (case g1 => walk_at "pg")) | ((with_reducible refine x_l1 (i := ?i) ?g0 ?_ ?_ ?_); (case g0 => walk_at "pg")) | (with_reducible refine r_on (show partD none = some none from rfl) ?_) | (with_reducible refine r_on (show partD (some (D.int _)) = some (some _) from rfl) ?_) | with_reducible refine s_tt ?_ ?_ | with_reducible refine s_tf ?_ ?_ | ((with_reducible refine s_lt (f := ?f) ?g0 ?_ ?_); (case g0 => walk_at "pg")) | ((with_reducible refine s_lf (f := ?f) ?g0 ?_ ?_); (case g0 => walk_at "pg")) | with_reducible refine n_t ?_ | with_reducible refine l_t ?_ | with_reducible refine t_t ?_ | with_reducible refine b_abs ?_ | with_reducible refine b_int ?_ | with_reducible refine b_intb ?_ | with_reducible refine b_max ?_ | with_reducible refine b_min ?_ | ((with_reducible refine n_l (f := ?f) ?g0 ?_); (case g0 => walk_at "pg")) | ((with_reducible refine l_l (f := ?f) ?g0 ?_); (case g0 => walk_at "pg")) | ((with_reducible refine t_l (f := ?f) ?g0 ?_); (case g0 => walk_at "pg")) | with_reducible refine i_tn ?_ ?_ | with_reducible refine i_t ?_ ?_ ?_ | ((with_reducible refine i_l (f := ?f) ?g0 ?_ ?_ ?_); (case g0 => walk_at "pg")) | with_reducible refine w_e ?_ ?_ ?_ | ((with_reducible refine w_l (f := ?f) ?g0 ?_ ?_ ?_); (case g0 => walk_at "pg")) | with_reducible refine p_e ?_ ?_ | ((with_reducible refine p_l (f := ?f) ?g0 ?_ ?_); (case g0 => walk_at "pg")) | with_reducible refine c_lt ?_ | with_reducible refine c_le ?_ | with_reducible refine c_gt ?_ | with_reducible refine c_ge ?_ | with_reducible refine c_eq ?_ | with_reducible refine c_ne ?_ | with_reducible refine c_is ?_ | with_reducible refine c_isn ?_ | ((with_reducible refine t_bl (fun hb => ?_) (fun hb => ?_)) <;> ((try (cases hb; done)); (try simp only [decide_eq_true_eq, decide_eq_false_iff_not, Bool.not_eq_true', Bool.not_eq_false'] at hb))) | ((with_reducible refine t_and (fun hb => ?_) (fun hb => ?_)) <;> ((try (cases hb; done)); (try simp only [decide_eq_true_eq, decide_eq_false_iff_not, Bool.not_eq_true', Bool.not_eq_false'] at hb))) | with_reducible refine t_nb ?_ | with_reducible refine t_neg ?_ | with_reducible refine on_if ?_ | with_reducible refine g_r1 ?_ ?_ ?_ | with_reducible refine g_r2 ?_ ?_ ?_ ?_ ?_ | with_reducible refine g_t ?_ | ((with_reducible refine g_l (f := ?f) ?g0 ?_); (case g0 => walk_at "pg")) | with_reducible refine o_val ?_ ?_ | ((with_reducible refine lc_end ?g0 ?_); (case g0 => first | exact rfl | skip)) | with_reducible refine o_exc ?_ ?_ ?_ | with_reducible refine o_new ?_ ?_ ?_ | with_reducible refine isi_i_int ?_ | with_reducible refine isi_i_bool ?_ | with_reducible refine isi_i_tup ?_ | with_reducible refine isi_i_tl ?_ | with_reducible refine isi_b_int ?_ | with_reducible refine isi_b_bool ?_ | with_reducible refine isi_b_tup ?_ | with_reducible refine isi_b_tl ?_ | with_reducible refine isi_s_int ?_ | with_reducible refine isi_s_bool ?_ | with_reducible refine isi_s_tup ?_ | with_reducible refine isi_s_tl ?_ | with_reducible refine isi_n_int ?_ | with_reducible refine isi_n_bool ?_ | with_reducible refine isi_n_tup ?_ | with_reducible refine isi_n_tl ?_ | with_reducible refine isi_t_int ?_ | with_reducible refine isi_t_bool ?_ | with_reducible refine isi_t_tup ?_ | with_reducible refine isi_t_tl ?_ | with_reducible refine isi_u_int ?_ | with_reducible refine isi_u_bool ?_ | with_reducible refine isi_u_tup ?_ | with_reducible refine isi_u_tl ?_ | ((with_reducible refine isi_l_int (xs := ?xs) ?g0 ?_); (case g0 => walk_at "pg")) | ((with_reducible refine isi_l_bool (xs := ?xs) ?g0 ?_); (case g0 => walk_at "pg")) | ((with_reducible refine isi_l_tup (xs := ?xs) ?g0 ?_); (case g0 => walk_at "pg")) | ((with_reducible refine isi_l_tl (xs := ?xs) ?g0 ?_); (case g0 => walk_at "pg")) | ((with_reducible refine isi_ty0 (a := ?a) ?g0 ?g1 ?_); (case g0 => assumption); (case g1 => decide)) | with_reducible refine n_tg ?_ | ((with_reducible refine n_lg (xs := ?xs) ?g0 ?_); (case g0 => walk_at "pg")) | ((with_reducible refine l_lg (xs := ?xs) ?g0 ?_); (case g0 => walk_at "pg")) | ((with_reducible refine i_tg (d := ?d) ?g0 ?_); (case g0 => exact rfl)) | ((with_reducible refine i_lg (xs := ?xs) (d := ?d) ?g0 ?g1 ?_); (case g0 => walk_at "pg"); (case g1 => exact rfl)) | ((with_reducible refine g_lg (xs := ?xs) ?g0 ?_); (case g0 => walk_at "pg")) | ((with_reducible refine m_tg ?g0 ?_); (case g0 => exact Nat.le_of_ble_eq_true rfl)) | ((with_reducible refine m_lg ?g0 ?_); (case g0 => exact Nat.le_of_ble_eq_true rfl)) | ((with_reducible refine n_q (f := ?f) ?g0 ?_); (case g0 => walk_at "pq")) | ((with_reducible refine l_q (f := ?f) ?g0 ?_); (case g0 => walk_at "pq")) | ((with_reducible refine t_q (f := ?f) ?g0 ?_); (case g0 => walk_at "pq")) | ((with_reducible refine i_q (f := ?f) ?g0 ?_ ?_ ?_); (case g0 => walk_at "pq")) | ((with_reducible refine g_q (f := ?f) ?g0 ?_); (case g0 => walk_at "pq")) | ((with_reducible refine isi_q_tl (f := ?f) ?g0 ?_); (case g0 => walk_at "pq")) | ((with_reducible refine st_and ?g0 ?_); (case g0 => walk_at "pst")) | fail)

local macro_rules | `(tactic| walk_at "pd1") => `(tactic| first | with_reducible refine u_w_i ?_ | with_reducible refine u_w_b ?_ | with_reducible refine u_w_s ?_ | with_reducible refine u_w_n ?_ | with_reducible refine u_w_t ?_ | with_reducible refine u_w_u ?_ | ((with_reducible refine u_w_l (xs := ?xs) ?g0 ?_); (case g0 => walk_at "pg")) | fail)
local macro_rules | `(tactic| walk_at "pd1") => `(tactic| first | with_reducible refine u_trim_t ?_ ?_ | ((with_reducible refine u_trim_l (l := ?l) ?g0 ?_ ?_); (case g0 => walk_at "pg")) | fail)
local macro_rules | `(tactic| walk_at "pd1") => `(tactic| first | with_reducible refine u_plus ?_ ?_ ?_ | fail)
local macro_rules | `(tactic| walk_at "pd1") => `(tactic| first | with_reducible refine u_scaled ?_ ?_ ?_ ?_ | fail)
local macro_rules | `(tactic| walk_at "pd1") => `(tactic| first | with_reducible refine u_multiple ?_ ?_ | fail)
local macro_rules | `(tactic| walk_at "pd1") => `(tactic| first | with_reducible refine u_variables ?_ ?_ ?_ | fail)

local macro_rules | `(tactic| walk_at "pd1") => `(tactic| first | with_reducible refine u_put_variable ?_ ?_ ?_ ?_ ?_ ?_ | fail)
local macro_rules | `(tactic| walk_at "pd1") => `(tactic| first | with_reducible refine u_lw_i ?_ | fail)
local macro_rules | `(tactic| walk_at "pd1") => `(tactic| first | ((with_reducible refine u_law_pick (l := ?l) ?g0 ?_ ?_ ?_ ?_); (case g0 => walk_at "pg")) | fail)
local macro_rules | `(tactic| walk_at "pd1") => `(tactic| first | ((with_reducible refine u_law_number (l := ?l) ?g0 ?_ ?_ ?_); (case g0 => walk_at "pg")) | fail)
local macro_rules | `(tactic| walk_at "pd1") => `(tactic| first | ((with_reducible refine u_law_trim (l := ?l) ?g0 ?_ ?_ ?_); (case g0 => walk_at "pg")) | fail)

local macro_rules | `(tactic| walk_at "pd1") => `(tactic| first | with_reducible refine u_plus ?_ ?_ ?_ | fail)
local macro_rules | `(tactic| walk_at "pd1") => `(tactic| first | with_reducible refine u_minus ?_ ?_ ?_ ?_ | fail)
local macro_rules | `(tactic| walk_at "pd1") => `(tactic| first | with_reducible refine u_ls_tt ?_ ?_ ?_ ?_ ?_ ?_ | fail)
local macro_rules | `(tactic| walk_at "pd1") => `(tactic| first | with_reducible refine u_lt_tt ?_ ?_ ?_ | ((with_reducible refine u_lt_q (m := ?m) ?g0 ?_ ?_ ?_); (case g0 => walk_at "pg")) | fail)
local macro_rules | `(tactic| walk_at "pd1") => `(tactic| first | with_reducible refine u_join3 ?_ ?_ ?_ ?_ | with_reducible refine u_join1 ?_ ?_ | with_reducible refine u_join0 ?_ | fail)
local macro_rules | `(tactic| walk_at "pd1") => `(tactic| first | with_reducible refine u_constant ?_ ?_ | fail)
local macro_rules | `(tactic| walk_at "pd1") => `(tactic| first | with_reducible refine u_fa_t ?_ ?_ ?_ ?_ ?_ ?_ ?_ | ((with_reducible refine u_fa_l (v := ?v) ?g0 ?_ ?_ ?_ ?_ ?_ ?_ ?_); (case g0 => walk_at "pg")) | fail)
local macro_rules | `(tactic| walk_at "pd1") => `(tactic| first | with_reducible refine u_lfa_t ?_ ?_ ?_ ?_ ?_ ?_ | ((with_reducible refine u_lfa_l (v := ?v) ?g0 ?_ ?_ ?_ ?_ ?_ ?_); (case g0 => walk_at "pg")) | fail)
local macro_rules | `(tactic| walk_at "pd1") => `(tactic| first | with_reducible refine u_law_number_told ?_ ?_ | fail)
local macro_rules | `(tactic| walk_at "pd1") => `(tactic| first | with_reducible refine u_law_put ?_ ?_ ?_ ?_ ?_ ?_ ?_ | fail)
local macro_rules | `(tactic| walk_at "pd1") => `(tactic| first | with_reducible refine u_law_moved ?_ ?_ ?_ ?_ ?_ ?_ | fail)
local macro_rules | `(tactic| walk_at "pd1") => `(tactic| first | with_reducible refine u_law_order ?_ ?_ ?_ ?_ ?_ | fail)
local macro_rules | `(tactic| walk_at "pd1") => `(tactic| first | with_reducible refine u_same_order ?_ ?_ ?_ ?_ ?_ | fail)
local macro_rules | `(tactic| walk_at "pd1") => `(tactic| first | with_reducible refine u_moved ?_ ?_ ?_ ?_ ?_ ?_ | fail)

local macro_rules | `(tactic| walk_at "pd1") => `(tactic| first | with_reducible refine c_eqb ?_ | fail)

local macro_rules | `(tactic| walk_at "tl") => `(tactic| first | omega | (with_reducible refine Nat.le_trans (trim_le _) ?_; walk_at "tl") | (with_reducible refine addL_le ?_ ?_ <;> walk_at "tl") | (rw [mulL_len]; walk_at "tl") | (rw [List.length_set]; walk_at "tl") | fail)
local macro_rules | `(tactic| walk_at "tn") => `(tactic| first | (with_reducible assumption) | (with_reducible refine trim_ne ?_; walk_at "tn") | (with_reducible refine add_ne ?_; walk_at "tn") | (with_reducible refine mul_ne ?_; walk_at "tn") | (with_reducible exact norm_zero.1) | fail)
local macro_rules | `(tactic| walk_at "bd") => `(tactic| first | (with_reducible assumption) | (with_reducible exact Bd.mono (by assumption) (by decide)) | (with_reducible exact Bz.up (by assumption) (by decide)) | (with_reducible exact Bz.sm (by decide) (by decide)) | fail)
local macro_rules | `(tactic| walk_at "sg") => `(tactic| first | (with_reducible assumption) | (walk_at "bd") | (walk_at "tn"; done) | (walk_at "tl"; done) | fail)

/-! ### _law_puts_hold -/
def p__law_puts_hold : List D → Store → Out → Prop := fun ds S o => ∃ (f g h v : List Int) (x : Int) (n : Nat), ds = [tupI f, tupI g, tupI h, .int x, .ref n] ∧ S[n]? = some (lstI v) ∧ Fo 200 f ∧ Fo 200 g ∧ Fo 200 h ∧ Va 200 v ∧ 0 ≤ x ∧ x ≤ 6 ∧ o = .val (.bl true)
theorem putL_le {f g : List Int} {x N : Nat} (hf : f.length ≤ N) (hg : g.length ≤ N) : (putL f x g).length ≤ N := by
  unfold putL
  split
  · exact hf
  · refine Nat.le_trans (trim_le _) (addL_le (Nat.le_trans (trim_le _) ?_) (Nat.le_trans (trim_le _) ?_))
    · rw [List.length_set]; exact hf
    · rw [mulL_len]; exact hg
theorem putL_ne {f g : List Int} {x : Nat} (hf : f ≠ []) : putL f x g ≠ [] := by
  unfold putL
  split
  · exact hf
  · exact trim_ne (add_ne (trim_ne (set_ne hf)))
theorem cf_putL (f g : List Int) (x i : Nat) : cf (putL f x g) i = (if i = x + 1 then 0 else cf f i) + cf f (x + 1) * cf g i := by
  unfold putL
  split
  · rename_i h
    rw [h]
    by_cases e : i = x + 1
    · rw [if_pos e, e, h]; omega
    · rw [if_neg e]; omega
  · rw [cf_trim, cf_addL, cf_trim, cf_trim, cf_mulL, cf_set]
    by_cases e : i = x + 1
    · rw [if_pos e]
      by_cases h2 : x + 1 < f.length
      · rw [if_pos ⟨e.symm, h2⟩]
      · rw [if_neg (fun z => h2 z.2), cf_out (by omega)]
    · rw [if_neg e, if_neg (fun z => e z.1.symm)]
theorem putL_bd {f g : List Int} {x a b : Nat} (hf : Bd a f) (hg : Bd b g) : Bd (a + b + 1) (putL f x g) := ⟨fun i => by
  rw [cf_putL]
  refine Bz.add ?_ ((hf _).mul (hg _))
  split
  · exact Bz.zero
  · exact (hf _).up (by omega)⟩
theorem u_pa3 {S : Store} {Q : DQ} {E : EQ} {f a b c : List Int} {n : Nat} (hn : S[n]? = some (.lst [tupI a, tupI b, tupI c])) (hne : f ≠ []) (hf : f.length ≤ 8) (ha : a.length ≤ 8) (hb : b.length ≤ 8) (hc : c.length ≤ 8) (bf : Bd 200 f) (ba : Bd 200 a) (bb : Bd 200 b) (bc : Bd 200 c) (q : Q (tupI (putAllL f [a, b, c])) S) : FnS p_put_all [tupI f, .ref n] S Q E :=
  u_put_all (fs := [a, b, c]) (.inr ⟨n, rfl, hn⟩) hne (by omega) (by show 3 ≤ 1000000; decide) (bf.mono (by decide)) (fun g hg => by
    simp only [List.mem_cons, List.not_mem_nil, or_false] at hg
    rcases hg with rfl | rfl | rfl
    · exact ⟨by omega, ba.mono (by decide)⟩
    · exact ⟨by omega, bb.mono (by decide)⟩
    · exact ⟨by omega, bc.mono (by decide)⟩) q
theorem u_pa0 {S : Store} {Q : DQ} {E : EQ} {f : List Int} (hne : f ≠ []) (hf : f.length ≤ 8) (bf : Bd 200 f) (q : Q (tupI (putAllL f [])) S) : FnS p_put_all [tupI f, tupI []] S Q E :=
  u_put_all (fs := []) (.inl rfl) hne (by omega) (by show 0 ≤ 1000000; decide) (bf.mono (by decide)) (fun g hg => by cases hg) q
theorem paC_bd {f a b c : List Int} (bf : Bd 200 f) (ba : Bd 200 a) (bb : Bd 200 b) (bc : Bd 200 c) (i : Nat) : Bz 403 (paC f [a, b, c] 3 i) := by
  unfold paC
  simp only [sumTo]
  refine Bz.add (k := 402) (Bz.add (k := 401) (Bz.add (k := 400) Bz.zero ?_) ?_) ?_
  · exact (bf _).mul (ba _)
  · exact ((bf _).mul (bb _)).up (by decide)
  · exact ((bf _).mul (bc _)).up (by decide)
theorem u_lpa3 {S : Store} {Q : DQ} {E : EQ} {f a b c : List Int} {n : Nat} (hn : S[n]? = some (.lst [tupI a, tupI b, tupI c])) (hne : f ≠ []) (hf : f.length ≤ 8) (ha : a.length ≤ 8) (hb : b.length ≤ 8) (hc : c.length ≤ 8) (bf : Bd 200 f) (ba : Bd 200 a) (bb : Bd 200 b) (bc : Bd 200 c) (q : Q (tupI (lputAllL f [a, b, c])) S) : FnS p__law_put_all [tupI f, .ref n] S Q E :=
  u_law_put_all (fs := [a, b, c]) (.inr ⟨n, rfl, hn⟩) hne (by omega) (by show 3 ≤ 1000000; decide) (bf.mono (by decide)) (fun g hg => by
    simp only [List.mem_cons, List.not_mem_nil, or_false] at hg
    rcases hg with rfl | rfl | rfl
    · exact ⟨by omega, ba.mono (by decide)⟩
    · exact ⟨by omega, bb.mono (by decide)⟩
    · exact ⟨by omega, bc.mono (by decide)⟩) (Bd.mono (k := 403) ⟨fun i => by rw [cf_lpT]; exact paC_bd bf ba bb bc i⟩ (by decide)) q
theorem cf_putAll3 (f a b c : List Int) (hf : f ≠ []) (i : Nat) : cf (putAllL f [a, b, c]) i = paC f [a, b, c] 3 i + if 1 ≤ i ∧ i ≤ 3 then 0 else cf f i := by
  rw [e_put_all hf]
  unfold lputAllL
  rw [cf_trim, cf_addL, cf_mulL, cf_lpT, cf_paR]
  show _ + 1 * paC f [a, b, c] 3 i = _
  have : List.length [a, b, c] = 3 := rfl
  rw [this]
  omega
theorem putAll3_bd {f a b c : List Int} (hf : f ≠ []) (bf : Bd 200 f) (ba : Bd 200 a) (bb : Bd 200 b) (bc : Bd 200 c) : Bd 404 (putAllL f [a, b, c]) := ⟨fun i => by
  rw [cf_putAll3 _ _ _ _ hf]
  refine Bz.add (paC_bd bf ba bb bc i) ?_
  split
  · exact Bz.zero
  · exact (bf _).up (by decide)⟩
theorem paT_le {f : List Int} {fs : List (List Int)} {N : Nat} (hN : 1 ≤ N) (h : ∀ g ∈ fs, g.length ≤ N) : ∀ k, k ≤ fs.length → (paT f fs k).length ≤ N
  | 0, _ => by show 1 ≤ N; exact hN
  | k + 1, hk => by
    unfold paT
    refine Nat.le_trans (trim_le _) (addL_le (paT_le hN h k (by omega)) (Nat.le_trans (trim_le _) ?_))
    rw [mulL_len]
    exact h _ (getD_fs (by omega))
theorem putAll3_le {f a b c : List Int} (hf : f.length ≤ 8) (ha : a.length ≤ 8) (hb : b.length ≤ 8) (hc : c.length ≤ 8) : (putAllL f [a, b, c]).length ≤ 8 := by
  unfold putAllL
  refine Nat.le_trans (trim_le _) (addL_le (paT_le (by decide) (fun g hg => ?_) _ (Nat.min_le_left _ _)) (Nat.le_trans (trim_le _) (by rw [paR_len]; exact hf)))
  simp only [List.mem_cons, List.not_mem_nil, or_false] at hg
  rcases hg with rfl | rfl | rfl <;> assumption
theorem putAll3_ne (f : List Int) (fs : List (List Int)) : putAllL f fs ≠ [] := trim_ne (add_ne (paT_ne _ _ _))
theorem set3 {v : List Int} (lv : v.length = 8) (x y z : Int) : [x, y, z] ++ v.drop 3 = ((v.set 0 x).set 1 y).set 2 z := by
  match v, lv with
  | [_, _, _, _, _, _, _, _], _ => rfl
theorem c_ne_f3 {S : Store} {n m : Nat} {a b c : List Int} {Kk : Bool → Prop} (hn : S[n]? = some (.lst [tupI a, tupI b, tupI c])) (hm : S[m]? = some (.lst [tupI a, tupI b, tupI c])) (h : Kk false) : onO (cmpD S .ne (.ref n) (.ref m)) Kk := c_ne_fs (fs := [a, b, c]) hn hm h
local macro_rules | `(tactic| walk_at "pd1") => `(tactic| first | ((with_reducible refine u_pa3 (a := ?a) (b := ?b) (c := ?c) ?g0 ?_ ?_ ?_ ?_ ?_ ?_ ?_ ?_ ?_ ?_); (case g0 => walk_at "pg")) | with_reducible refine u_pa0 ?_ ?_ ?_ ?_ | ((with_reducible refine u_lpa3 (a := ?a) (b := ?b) (c := ?c) ?g0 ?_ ?_ ?_ ?_ ?_ ?_ ?_ ?_ ?_ ?_); (case g0 => walk_at "pg")) | fail)
local macro_rules | `(tactic| walk_at "pd1") => `(tactic| first | ((with_reducible refine c_ne_f3 (a := ?a) (b := ?b) (c := ?c) ?g0 ?g1 ?_); (case g0 => walk_at "pg"); (case g1 => walk_at "pg")) | fail)
theorem vc__law_puts_hold (M : Md) (h14 : M.sp 14 = FnS p_form_at) (h15 : M.sp 15 = FnS p_put_variable) (h16 : M.sp 16 = FnS p_put_all) (h21 : M.sp 21 = FnS p__law_form_at) (h27 : M.sp 27 = FnS p__law_told) (h29 : M.sp 29 = FnS p__law_put) (h30 : M.sp 30 = FnS p__law_put_all) : ∀ ds S o, p__law_puts_hold ds S o → wpSs (M.C (excO S o)) b__law_puts_hold (retO S o) (startD n__law_puts_hold ds) S := by
  rintro ds S o ⟨f, g, h, v, x, n, rfl, hn, ff, fg, fh, vv, hx0, hx1, rfl⟩
  have lf := ff.ln
  have lg := fg.ln
  have lh := fh.ln
  have lv := vv.ln
  have nf := ff.nm.1
  have ng := fg.nm.1
  have nh := fh.nm.1
  have bf := ff.bd
  have bg := fg.bd
  have bh := fh.bd
  have bv := vv.bd
  have Ef : Bz 404 (evL f v) := evL_bd bf bv (by omega)
  have Eg : Bz 404 (evL g v) := evL_bd bg bv (by omega)
  have Eh : Bz 404 (evL h v) := evL_bd bh bv (by omega)
  have ePut : evL (putL f x.toNat g) v = evL f (v.set x.toNat (evL g v)) := ev_put (N := 8) (by omega) (by omega) (by omega) (by omega) (Nat.le_trans (putL_le lf lg) (by omega)) (fun i => cf_putL f g _ i)
  simp only [b__law_puts_hold, startD, List.map, List.length, List.replicate, Nat.reduceAdd, Nat.reduceSub, List.cons_append, List.nil_append]
  repeat' (walk_at "pd1")
  all_goals first
    | with_reducible exact Ext.refl _
    | with_reducible rfl
    | with_reducible exact e_put ff.nm (fun _ => ng)
    | (walk_at "sg"; done)
    | with_reducible exact putL_ne nf
    | with_reducible exact putAll3_ne _ _
    | with_reducible exact Bd.mono (putL_bd bf bg) (by decide)
    | with_reducible exact Bd.mono (putAll3_bd nf bf bg bh bf) (by decide)
    | with_reducible exact e_put_all nf
    | with_reducible exact e_put_none ff.nm
    | with_reducible exact Nat.le_trans (putL_le lf lg) (by omega)
    | with_reducible exact Nat.le_trans (putAll3_le lf lg lh lf) (by omega)
    | with_reducible exact Bd.mono (Bd.set (bv.mono (by decide : 200 ≤ 404)) Eg _) (by decide)
    | skip
  · rw [e_put_none ff.nm]; omega
  · rw [List.length_drop]; show 3 + _ ≤ _; omega
  · rw [List.length_append, List.length_drop]; show _ ≤ 3 + (v.length - 3) + 1; omega
  · exact Bd.mono (k := 404) (Bd.app (Bd.cons Eg (Bd.cons Eh (Bd.cons Ef Bd.nil))) ((bv.drop _).mono (by decide))) (by decide)
  · walk_at "pe"
  · rw [show Int.toNat 3 = 3 from rfl, set3 lv, ev_put_all (f := f) (g := g) (h := h) (by omega) (by omega) (by omega) (Nat.le_trans (putAll3_le lf lg lh lf) (by omega)) lv (fun i => cf_putAll3 f g h f nf i)]
    simp

end PD

set_option Elab.async false
set_option linter.all false
set_option maxRecDepth 100000
set_option maxHeartbeats 1000000
namespace PD
open PySem
local macro_rules | `(tactic| walk_at "pg") => `(tactic| first | assumption | exact get_last' _ _ | (refine get_app ?_; walk_at "pg") | fail)
local macro_rules | `(tactic| walk_at "pq") => `(tactic| first | assumption | (refine isSq.app ?_ _; walk_at "pq") | fail)
local macro_rules | `(tactic| walk_at "pst") => `(tactic| first | exact still_none | exact still_tup | exact still_kl | exact still_ref (by walk_at "pg") | exact still_q (by walk_at "pq") | (refine still_seq ?_; assumption) | fail)
local macro_rules | `(tactic| walk_at "pe") => `(tactic| first | exact Ext.refl _ | assumption | (refine Ext.trans ?_ (Ext.app _ _); walk_at "pe") | fail)
local macro_rules | `(tactic| walk_at "ps2") => `(tactic| first | walk_at "pe" | with_reducible rfl | ((try simp only [decide_eq_true_eq, decide_eq_false_iff_not, Bool.not_eq_true', Bool.not_eq_false', Bool.not_true, Bool.not_false, List.length_append, List.length_replicate, List.length_cons, List.length_nil, List.length_set, List.length_map, List.length_take, List.length_drop, List.length_range] at *); first | omega | (exfalso; omega)) | fail)
local macro_rules | `(tactic| walk_at "ps") => `(tactic| first | walk_at "pe" | rfl | ((try simp only [decide_eq_true_eq, decide_eq_false_iff_not, Bool.not_eq_true', Bool.not_eq_false', Bool.not_true, Bool.not_false, List.length_append, List.length_replicate, List.length_cons, List.length_nil, List.length_set, List.length_map, List.length_take, List.length_drop, List.length_range] at *); first | omega | (exfalso; omega)) | fail)
local macro_rules | `(tactic| walk_at "pd1") => `(tactic| first | ((with_reducible refine r_nil ?_); (try dsimp only)) | ((with_reducible refine r_ret ?_); (try dsimp only)) | ((with_reducible refine r_retN ?_); (try dsimp only)) | ((with_reducible refine r_brk ?_); (try dsimp only)) | ((with_reducible refine r_cnt ?_); (try dsimp only)) | ((with_reducible refine r_rse ?_); (try dsimp only)) | ((with_reducible refine r_pas ?_); (try dsimp only)) | ((with_reducible refine r_ex ?_); (try dsimp only)) | with_reducible refine r_seq ?_ | with_reducible refine r_asg ?_ | with_reducible refine r_ifs ?_ | with_reducible refine r_tr ?_ | with_reducible refine r_fr ?_ | ((with_reducible refine r_aug (j := ?j) ?g0 ?_); (case g0 => exact rfl)) | ((with_reducible refine r_var (d := ?d) ?g0 ?_); (case g0 => exact rfl)) | ((with_reducible refine r_call (g := ?g) ?g0 ?_); (case g0 => first | assumption | exact rfl)) | with_reducible refine r_cst ?_ | with_reducible refine r_cmp ?_ | with_reducible refine r_bin ?_ | with_reducible refine r_bi ?_ | with_reducible refine r_ix ?_ | with_reducible refine r_and ?_ | with_reducible refine r_or ?_ | with_reducible refine r_not ?_ | with_reducible refine r_ife ?_ | with_reducible refine r_neg ?_ | with_reducible refine r_sl ?_ | with_reducible refine r_tup ?_ | with_reducible refine r_lst ?_ | with_reducible refine r_lc ?_ | with_reducible refine r_chn ?_ | with_reducible refine r_bm ?_ | ((with_reducible refine r_oN ?_); (try dsimp only)) | ((with_reducible refine r_oS ?_); (try dsimp only)) | with_reducible refine r_esC ?_ | with_reducible refine r_esN ?_ | with_reducible refine r_sub ?_ | with_reducible refine r_tsC ?_ | with_reducible refine r_tsN ?_ | with_reducible refine r_iSeq ?_ | with_reducible refine r_iRng ?_ | with_reducible refine r_iEnum ?_ | with_reducible refine r_nm ?_ | ((with_reducible refine r_tp (xs := ?xs) ?g0 ?g1 ?_); (case g0 => exact rfl); (case g1 => exact rfl)) | with_reducible refine m_t0 ?_ | with_reducible refine m_t1 ?_ | with_reducible refine m_t2 ?_ | with_reducible refine m_l0 ?_ | with_reducible refine m_l1 ?_ | with_reducible refine m_l3 ?_ | with_reducible refine r_addI ?_ | with_reducible refine r_subI ?_ | with_reducible refine r_mulI ?_ ?_ | with_reducible refine r_modI ?_ ?_ | with_reducible refine a_tt ?_ ?_ | with_reducible refine r_fdivI ?_ ?_ ?_ | with_reducible refine x_t1 ?_ ?_ ?_ | with_reducible refine r_powI ?_ ?_ ?_ ?_ | ((with_reducible refine a_ll (f := ?f) (g := ?g) ?g0 ?g1 ?_ ?_); (case g0 => walk_at "pg"); (case g1 => walk_at "pg")) | ((with_reducible refine x_l1 (i := ?i) ?g0 ?_ ?_ ?_); (case g0 => walk_at "pg")) | (with_reducible refine r_on (show partD none = some none from rfl) ?_) | (with_reducible refine r_on (show partD (some (D.int _)) = some (some _) from rfl) ?_) | with_reducible refine s_tt ?_ ?_ | with_reducible refine s_tf ?_ ?_ | ((with_reducible refine s_lt (f := ?f) ?g0 ?_ ?_); (case g0 => walk_at "pg")) | ((with_reducible refine s_lf (f := ?f) ?g0 ?_ ?_); (case g0 => walk_at "pg")) | with_reducible refine n_t ?_ | with_reducible refine l_t ?_ | with_reducible refine t_t ?_ | with_reducible refine b_abs ?_ | with_reducible refine b_int ?_ | with_reducible refine b_intb ?_ | with_reducible refine b_max ?_ | with_reducible refine b_min ?_ | ((with_reducible refine n_l (f := ?f) ?g0 ?_); (case g0 => walk_at "pg")) | ((with_reducible refine l_l (f := ?f) ?g0 ?_); (case g0 => walk_at "pg")) | ((with_reducible refine t_l (f := ?f) ?g0 ?_); (case g0 => walk_at "pg")) | with_reducible refine i_tn ?_ ?_ | with_reducible refine i_t ?_ ?_ ?_ | ((with_reducible refine i_l (f := ?f) ?g0 ?_ ?_ ?_); (case g0 => walk_at "pg")) | with_reducible refine w_e ?_ ?_ ?_ | ((with_reducible refine w_l (f := ?f) ?g0 ?_ ?_ ?_); (case g0 => walk_at "pg")) | with_reducible refine p_e ?_ ?_ | ((with_reducible refine p_l (f := ?f) ?g0 ?_ ?_); (case g0 => walk_at "pg")) | with_reducible refine c_lt ?_ | with_reducible refine c_le ?_ | with_reducible refine c_gt ?_ | with_reducible refine c_ge ?_ | with_reducible refine c_eq ?_ | with_reducible refine c_ne ?_ | with_reducible refine c_is ?_ | with_reducible refine c_isn ?_ | ((with_reducible refine t_bl (fun hb => ?_) (fun hb => ?_)) <;> ((try (cases hb; done)); (try simp only [decide_eq_true_eq, decide_eq_false_iff_not, Bool.not_eq_true', Bool.not_eq_false'] at hb))) | ((with_reducible refine t_and (fun hb => ?_) (fun hb => ?_)) <;> ((try (cases hb; done)); (try simp only [decide_eq_true_eq, decide_eq_false_iff_not, Bool.not_eq_true', Bool.not_eq_false'] at hb))) | with_reducible refine t_nb ?_ | with_reducible refine t_neg ?_ | with_reducible refine on_if ?_ | with_reducible refine g_r1 ?_ ?_ ?_ | with_reducible refine g_r2 ?_ ?_ ?_ ?_ ?_ | with_reducible refine g_t ?_ | ((with_reducible refine g_l (f := ?f) ?g0 ?_); (case g0 => walk_at "pg")) | with_reducible refine o_val ?_ ?_ | ((with_reducible refine lc_end ?g0 ?_); (case g0 => first | exact rfl | skip)) | with_reducible refine o_exc ?_ ?_ ?_ | with_reducible refine o_new ?_ ?_ ?_ | with_reducible refine isi_i_int ?_ | with_reducible refine isi_i_bool ?_ | with_reducible refine isi_i_tup ?_ | with_reducible refine isi_i_tl ?_ | with_reducible refine isi_b_int ?_ | with_reducible refine isi_b_bool ?_ | with_reducible refine isi_b_tup ?_ | with_reducible refine isi_b_tl ?_ | with_reducible refine isi_s_int ?_ | with_reducible refine isi_s_bool ?_ | with_reducible refine isi_s_tup ?_ | with_reducible refine isi_s_tl ?_ | with_reducible refine isi_n_int ?_ | with_reducible refine isi_n_bool ?_ | with_reducible refine isi_n_tup ?_ | with_reducible refine isi_n_tl ?_ | with_reducible refine isi_t_int ?_ | with_reducible refine isi_t_bool ?_ | with_reducible refine isi_t_tup ?_ | with_reducible refine isi_t_tl ?_ | with_reducible refine isi_u_int ?_ | with_reducible refine isi_u_bool ?_ | with_reducible refine isi_u_tup ?_ | with_reducible refine isi_u_tl ?_ | ((with_reducible refine isi_l_int (xs := ?xs) ?g0 ?_); (case g0 => walk_at "pg")) | ((with_reducible refine isi_l_bool (xs := ?xs) ?g0 ?_); (case g0 => walk_at "pg")) | ((with_reducible refine isi_l_tup (xs := ?xs) ?g0 ?_); (case g0 => walk_at "pg")) | ((with_reducible refine isi_l_tl (xs := ?xs) ?g0 ?_); (case g0 => walk_at "pg")) | ((with_reducible refine isi_ty0 (a := ?a) ?g0 ?g1 ?_); (case g0 => assumption); (case g1 => decide)) | with_reducible refine n_tg ?_ | ((with_reducible refine n_lg (xs := ?xs) ?g0 ?_); (case g0 => walk_at "pg")) | ((with_reducible refine l_lg (xs := ?xs) ?g0 ?_); (case g0 => walk_at "pg")) | ((with_reducible refine i_tg (d := ?d) ?g0 ?_); (case g0 => exact rfl)) | ((with_reducible refine i_lg (xs := ?xs) (d := ?d) ?g0 ?g1 ?_); (case g0 => walk_at "pg"); (case g1 => exact rfl)) | ((with_reducible refine g_lg (xs := ?xs) ?g0 ?_); (case g0 => walk_at "pg")) | ((with_reducible refine m_tg ?g0 ?_); (case g0 => exact Nat.le_of_ble_eq_true rfl)) | ((with_reducible refine m_lg ?g0 ?_); (case g0 => exact Nat.le_of_ble_eq_true rfl)) | ((with_reducible refine n_q (f := ?f) ?g0 ?_); (case g0 => walk_at "pq")) | ((with_reducible refine l_q (f := ?f) ?g0 ?_); (case g0 => walk_at "pq")) | ((with_reducible refine t_q (f := ?f) ?g0 ?_); (case g0 => walk_at "pq")) | ((with_reducible refine i_q (f := ?f) ?g0 ?_ ?_ ?_); (case g0 => walk_at "pq")) | ((with_reducible refine g_q (f := ?f) ?g0 ?_); (case g0 => walk_at "pq")) | ((with_reducible refine isi_q_tl (f := ?f) ?g0 ?_); (case g0 => walk_at "pq")) | ((with_reducible refine st_and ?g0 ?_); (case g0 => walk_at "pst")) | fail)

local macro_rules | `(tactic| walk_at "pd1") => `(tactic| first | with_reducible refine u_w_i ?_ | with_reducible refine u_w_b ?_ | with_reducible refine u_w_s ?_ | with_reducible refine u_w_n ?_ | with_reducible refine u_w_t ?_ | with_reducible refine u_w_u ?_ | ((with_reducible refine u_w_l (xs := ?xs) ?g0 ?_); (case g0 => walk_at "pg")) | fail)
local macro_rules | `(tactic| walk_at "pd1") => `(tactic| first | with_reducible refine u_trim_t ?_ ?_ | ((with_reducible refine u_trim_l (l := ?l) ?g0 ?_ ?_); (case g0 => walk_at "pg")) | fail)
local macro_rules | `(tactic| walk_at "pd1") => `(tactic| first | with_reducible refine u_plus ?_ ?_ ?_ | fail)
local macro_rules | `(tactic| walk_at "pd1") => `(tactic| first | with_reducible refine u_scaled ?_ ?_ ?_ ?_ | fail)
local macro_rules | `(tactic| walk_at "pd1") => `(tactic| first | with_reducible refine u_multiple ?_ ?_ | fail)
local macro_rules | `(tactic| walk_at "pd1") => `(tactic| first | with_reducible refine u_variables ?_ ?_ ?_ | fail)

local macro_rules | `(tactic| walk_at "pd1") => `(tactic| first | with_reducible refine u_put_variable ?_ ?_ ?_ ?_ ?_ ?_ | fail)
local macro_rules | `(tactic| walk_at "pd1") => `(tactic| first | with_reducible refine u_lw_i ?_ | fail)
local macro_rules | `(tactic| walk_at "pd1") => `(tactic| first | ((with_reducible refine u_law_pick (l := ?l) ?g0 ?_ ?_ ?_ ?_); (case g0 => walk_at "pg")) | fail)
local macro_rules | `(tactic| walk_at "pd1") => `(tactic| first | ((with_reducible refine u_law_number (l := ?l) ?g0 ?_ ?_ ?_); (case g0 => walk_at "pg")) | fail)
local macro_rules | `(tactic| walk_at "pd1") => `(tactic| first | ((with_reducible refine u_law_trim (l := ?l) ?g0 ?_ ?_ ?_); (case g0 => walk_at "pg")) | fail)

local macro_rules | `(tactic| walk_at "pd1") => `(tactic| first | with_reducible refine u_plus ?_ ?_ ?_ | fail)
local macro_rules | `(tactic| walk_at "pd1") => `(tactic| first | with_reducible refine u_minus ?_ ?_ ?_ ?_ | fail)
local macro_rules | `(tactic| walk_at "pd1") => `(tactic| first | with_reducible refine u_ls_tt ?_ ?_ ?_ ?_ ?_ ?_ | fail)
local macro_rules | `(tactic| walk_at "pd1") => `(tactic| first | with_reducible refine u_lt_tt ?_ ?_ ?_ | ((with_reducible refine u_lt_q (m := ?m) ?g0 ?_ ?_ ?_); (case g0 => walk_at "pg")) | fail)
local macro_rules | `(tactic| walk_at "pd1") => `(tactic| first | with_reducible refine u_join3 ?_ ?_ ?_ ?_ | with_reducible refine u_join1 ?_ ?_ | with_reducible refine u_join0 ?_ | fail)
local macro_rules | `(tactic| walk_at "pd1") => `(tactic| first | with_reducible refine u_constant ?_ ?_ | fail)
local macro_rules | `(tactic| walk_at "pd1") => `(tactic| first | with_reducible refine u_fa_t ?_ ?_ ?_ ?_ ?_ ?_ ?_ | ((with_reducible refine u_fa_l (v := ?v) ?g0 ?_ ?_ ?_ ?_ ?_ ?_ ?_); (case g0 => walk_at "pg")) | fail)
local macro_rules | `(tactic| walk_at "pd1") => `(tactic| first | with_reducible refine u_lfa_t ?_ ?_ ?_ ?_ ?_ ?_ | ((with_reducible refine u_lfa_l (v := ?v) ?g0 ?_ ?_ ?_ ?_ ?_ ?_); (case g0 => walk_at "pg")) | fail)
local macro_rules | `(tactic| walk_at "pd1") => `(tactic| first | with_reducible refine u_law_number_told ?_ ?_ | fail)
local macro_rules | `(tactic| walk_at "pd1") => `(tactic| first | with_reducible refine u_law_put ?_ ?_ ?_ ?_ ?_ ?_ ?_ | fail)
local macro_rules | `(tactic| walk_at "pd1") => `(tactic| first | with_reducible refine u_law_moved ?_ ?_ ?_ ?_ ?_ ?_ | fail)
local macro_rules | `(tactic| walk_at "pd1") => `(tactic| first | with_reducible refine u_law_order ?_ ?_ ?_ ?_ ?_ | fail)
local macro_rules | `(tactic| walk_at "pd1") => `(tactic| first | with_reducible refine u_same_order ?_ ?_ ?_ ?_ ?_ | fail)
local macro_rules | `(tactic| walk_at "pd1") => `(tactic| first | with_reducible refine u_moved ?_ ?_ ?_ ?_ ?_ ?_ | fail)

local macro_rules | `(tactic| walk_at "pd1") => `(tactic| first | with_reducible refine c_eqb ?_ | fail)

local macro_rules | `(tactic| walk_at "tl") => `(tactic| first | omega | (with_reducible refine Nat.le_trans (trim_le _) ?_; walk_at "tl") | (with_reducible refine addL_le ?_ ?_ <;> walk_at "tl") | (rw [mulL_len]; walk_at "tl") | (rw [List.length_set]; walk_at "tl") | fail)
local macro_rules | `(tactic| walk_at "tn") => `(tactic| first | (with_reducible assumption) | (with_reducible refine trim_ne ?_; walk_at "tn") | (with_reducible refine add_ne ?_; walk_at "tn") | (with_reducible refine mul_ne ?_; walk_at "tn") | (with_reducible exact norm_zero.1) | fail)
local macro_rules | `(tactic| walk_at "bd") => `(tactic| first | (with_reducible assumption) | (with_reducible exact Bd.mono (by assumption) (by decide)) | (with_reducible exact Bz.up (by assumption) (by decide)) | (with_reducible exact Bz.sm (by decide) (by decide)) | fail)
local macro_rules | `(tactic| walk_at "sg") => `(tactic| first | (with_reducible assumption) | (walk_at "bd") | (walk_at "tn"; done) | (walk_at "tl"; done) | fail)

section
variable {S : Store} {Q : DQ} {E : EQ} {i z : Int} {l : List Int} {n : Nat} {xs : List D}
theorem w_fo_t (hne : l ≠ []) (hl : l.length ≤ 16000000) (h : Q (tupI (trimL l)) S) : FnS p_form_of [tupI l] S Q E := u_formOf (.inl rfl) hne hl h
theorem w_fo_l (hn : S[n]? = some (lstI l)) (hne : l ≠ []) (hl : l.length ≤ 16000000) (h : Q (tupI (trimL l)) S) : FnS p_form_of [.ref n] S Q E := u_formOf (.inr ⟨n, rfl, hn⟩) hne hl h
theorem w_if_l (hn : S[n]? = some (.lst xs)) (h : Q (.bl false) S) : FnS p_is_form [.ref n] S Q E := u_is_form_a (ty_l hn) (by decide) h
theorem w_if_n (hl : Norm l) (h : Q (.bl true) S) : FnS p_is_form [tupI l] S Q E := by
  refine ⟨_, ⟨_, rfl, .inl ⟨l, rfl, hl.1, rfl⟩⟩, ?_⟩
  have e : (decide (l.length = 1) || !decide (cf l (l.length - 1) = 0)) = true := by
    rcases hl.2 with q | q
    · simp [q]
    · simp [q]
  rw [e]
  exact h
theorem w_if_z (hne : l ≠ []) (h : Q (.bl false) S) : FnS p_is_form [tupI (l ++ [0])] S Q E := by
  have hp := len_pos hne
  refine ⟨_, ⟨_, rfl, .inl ⟨l ++ [0], rfl, by simp, rfl⟩⟩, ?_⟩
  have e : (decide ((l ++ [0]).length = 1) || !decide (cf (l ++ [0]) ((l ++ [0]).length - 1) = 0)) = false := by
    have h1 : (l ++ [0]).length = l.length + 1 := by simp
    have h2 : cf (l ++ [0]) ((l ++ [0]).length - 1) = 0 := by
      rw [h1, cf_app, if_neg (by omega), show l.length + 1 - 1 - l.length = 0 by omega]
      rfl
    rw [h1, h1.symm, h2, h1]
    have : ¬ l.length + 1 = 1 := by omega
    simp
    exact hne
  rw [e]
  exact h
theorem w_if_0 (h : Q (.bl true) S) : FnS p_is_form [tupI [0]] S Q E := w_if_n norm_zero h
theorem w_if_b {b : Bool} (h : Q (.bl false) S) : FnS p_is_form [.tup [.bl b]] S Q E := u_is_form_x (x := .bl b) (b := "bool") rfl (by decide) h
theorem w_if_s {x : Str} (h : Q (.bl false) S) : FnS p_is_form [.str x] S Q E := u_is_form_a (a := "str") rfl (by decide) h
theorem w_vf (h0 : 0 ≤ z) (h1 : z ≤ 999) (h : Q (tupI (trimL (List.replicate (z + 1).toNat 0 ++ [i]))) S) : FnS (dflP [.int 1] p_variable_form) [.int z, .int i] S Q E := u_varF (x := z.toNat) (by omega) (by omega) (by rw [show z.toNat + 1 = (z + 1).toNat by omega]; exact h)
theorem w_vf1 (h0 : 0 ≤ z) (h1 : z ≤ 999) (h : Q (tupI (trimL (List.replicate (z + 1).toNat 0 ++ [1]))) S) : FnS (dflP [.int 1] p_variable_form) [.int z] S Q E := u_varF1 (x := z.toNat) (by omega) (by omega) (by rw [show z.toNat + 1 = (z + 1).toNat by omega]; exact h)
theorem c_isf {Kk : Bool → Prop} {x : D} {a b : Bool} (hx : x = .bl a) (h : Kk (!(a == b))) : onO (cmpD S .isn x (.bl b)) Kk := by subst hx; exact h
end
theorem norm_var {k : Nat} {i : Int} (h : i ≠ 0) : Norm (List.replicate k 0 ++ [i]) := by
  refine ⟨by simp, ?_⟩
  rcases Nat.eq_zero_or_pos k with rfl | hk
  · exact .inl rfl
  · refine .inr ?_
    have e : (List.replicate k (0 : Int) ++ [i]).length = k + 1 := by simp
    rw [e, cf_app, List.length_replicate, if_neg (by omega), show k + 1 - 1 - k = 0 by omega]
    exact h
theorem e_var0 (k : Nat) : trimL (List.replicate k 0 ++ [0]) = [0] := trim_to (by simp) norm_zero fun i => by
  rw [cf_zero (i := i), cf_app]
  split
  · rw [cf_rep]
    split <;> rfl
  · first | exact cf_zero _ | rfl
theorem zz_ne (l : List Int) : l ++ [0, 0] ≠ [] := by simp
theorem app_ne (l : List Int) (x : Int) : l ++ [x] ≠ [] := by simp
theorem trim_var {k : Nat} {i : Int} (h : k ≤ 1000000) : (trimL (List.replicate k 0 ++ [i])).length ≤ 16000000 := Nat.le_trans (trim_le _) (by rw [List.length_append, List.length_replicate]; show k + 1 ≤ _; omega)
theorem e_zz {l : List Int} (h : l ≠ []) : trimL (l ++ [0, 0]) = trimL l := trim_ext (by simp) h fun i => by
  rw [cf_app]
  split
  · rfl
  · rw [cf_out (l := l) (by omega)]
    generalize i - l.length = j
    match j with
    | 0 => rfl
    | 1 => rfl
    | j + 2 => exact cf_out (by show 2 ≤ _; omega)
local macro_rules | `(tactic| walk_at "pd1") => `(tactic| first | with_reducible refine w_fo_t ?_ ?_ ?_ | ((with_reducible refine w_fo_l (l := ?l) ?g0 ?_ ?_ ?_); (case g0 => walk_at "pg")) | with_reducible refine w_if_z ?_ ?_ | with_reducible refine u_is_form_e ?_ | with_reducible refine w_if_0 ?_ | with_reducible refine w_if_b ?_ | with_reducible refine w_if_s ?_ | ((with_reducible refine w_if_l (xs := ?xs) ?g0 ?_); (case g0 => walk_at "pg")) | with_reducible refine w_if_n ?_ ?_ | with_reducible refine u_numF_i ?_ | with_reducible refine w_vf ?_ ?_ ?_ | with_reducible refine w_vf1 ?_ ?_ ?_ | fail)
local macro_rules | `(tactic| walk_at "pd1") => `(tactic| first | ((with_reducible refine c_ne_ll (l := ?l) ?g0 ?g1 ?_); (case g0 => walk_at "pg"); (case g1 => walk_at "pg")) | fail)
/-! ### _law_made_hold -/
def p__law_made_hold : List D → Store → Out → Prop := fun ds S o => ∃ (l : List Int) (t x : Int) (n : Nat), ds = [.ref n, .int t, .int x] ∧ S[n]? = some (lstI l) ∧ l ≠ [] ∧ l.length ≤ 8 ∧ 0 ≤ x ∧ x ≤ 6 ∧ o = .val (.bl true)
theorem vc__law_made_hold (M : Md) (h0 : M.sp 0 = FnS p_is_whole) (h1 : M.sp 1 = FnS p_is_form) (h3 : M.sp 3 = FnS p_form_of) (h4 : M.sp 4 = FnS p_number_form) (h5 : M.sp 5 = FnS (dflP [.int 1] p_variable_form)) (h25 : M.sp 25 = FnS p__law_trim) (h27 : M.sp 27 = FnS p__law_told) : ∀ ds S o, p__law_made_hold ds S o → wpSs (M.C (excO S o)) b__law_made_hold (retO S o) (startD n__law_made_hold ds) S := by
  rintro ds S o ⟨l, t, x, n, rfl, hn, hne, hl, hx0, hx1, rfl⟩
  have hp := len_pos hne
  simp only [b__law_made_hold, startD, List.map, List.length, List.replicate, Nat.reduceAdd, Nat.reduceSub, List.cons_append, List.nil_append]
  repeat' (walk_at "pd1")
  all_goals first
    | with_reducible exact Ext.refl _
    | with_reducible rfl
    | with_reducible exact e_zz hne
    | with_reducible exact norm_trim hne
    | with_reducible exact trim_ne hne
    | with_reducible exact app_ne _ _
    | with_reducible exact zz_ne _
    | with_reducible exact e_var0 _
    | with_reducible exact trim_norm (norm_var (by decide))
    | (with_reducible refine trim_var ?_; omega)
    | (walk_at "sg"; done)
    | (walk_at "ps2"; done)
    | skip
  · exact Nat.le_trans (trim_le _) (by rw [List.length_append]; show l.length + 2 ≤ _; omega)
  · exact Nat.le_trans (Nat.add_le_add_right (trim_le _) _) (by show l.length + 1 ≤ _; omega)
  · rw [trim_norm (norm_var (by decide)), List.length_append, List.length_replicate]
    rfl

end PD

set_option Elab.async false
set_option linter.all false
set_option maxRecDepth 100000
set_option maxHeartbeats 1000000
namespace PD
open PySem
local macro_rules | `(tactic| walk_at "pg") => `(tactic| first | assumption | exact get_last' _ _ | (refine get_app ?_; walk_at "pg") | fail)
local macro_rules | `(tactic| walk_at "pq") => `(tactic| first | assumption | (refine isSq.app ?_ _; walk_at "pq") | fail)
local macro_rules | `(tactic| walk_at "pst") => `(tactic| first | exact still_none | exact still_tup | exact still_kl | exact still_ref (by walk_at "pg") | exact still_q (by walk_at "pq") | (refine still_seq ?_; assumption) | fail)
local macro_rules | `(tactic| walk_at "pe") => `(tactic| first | exact Ext.refl _ | assumption | (refine Ext.trans ?_ (Ext.app _ _); walk_at "pe") | fail)
local macro_rules | `(tactic| walk_at "ps2") => `(tactic| first | walk_at "pe" | with_reducible rfl | ((try simp only [decide_eq_true_eq, decide_eq_false_iff_not, Bool.not_eq_true', Bool.not_eq_false', Bool.not_true, Bool.not_false, List.length_append, List.length_replicate, List.length_cons, List.length_nil, List.length_set, List.length_map, List.length_take, List.length_drop, List.length_range] at *); first | omega | (exfalso; omega)) | fail)
local macro_rules | `(tactic| walk_at "ps") => `(tactic| first | walk_at "pe" | rfl | ((try simp only [decide_eq_true_eq, decide_eq_false_iff_not, Bool.not_eq_true', Bool.not_eq_false', Bool.not_true, Bool.not_false, List.length_append, List.length_replicate, List.length_cons, List.length_nil, List.length_set, List.length_map, List.length_take, List.length_drop, List.length_range] at *); first | omega | (exfalso; omega)) | fail)
local macro_rules | `(tactic| walk_at "pd1") => `(tactic| first | ((with_reducible refine r_nil ?_); (try dsimp only)) | ((with_reducible refine r_ret ?_); (try dsimp only)) | ((with_reducible refine r_retN ?_); (try dsimp only)) | ((with_reducible refine r_brk ?_); (try dsimp only)) | ((with_reducible refine r_cnt ?_); (try dsimp only)) | ((with_reducible refine r_rse ?_); (try dsimp only)) | ((with_reducible refine r_pas ?_); (try dsimp only)) | ((with_reducible refine r_ex ?_); (try dsimp only)) | with_reducible refine r_seq ?_ | with_reducible refine r_asg ?_ | with_reducible refine r_ifs ?_ | with_reducible refine r_tr ?_ | with_reducible refine r_fr ?_ | ((with_reducible refine r_aug (j := ?j) ?g0 ?_); (case g0 => exact rfl)) | ((with_reducible refine r_var (d := ?d) ?g0 ?_); (case g0 => exact rfl)) | ((with_reducible refine r_call (g := ?g) ?g0 ?_); (case g0 => first | assumption | exact rfl)) | with_reducible refine r_cst ?_ | with_reducible refine r_cmp ?_ | with_reducible refine r_bin ?_ | with_reducible refine r_bi ?_ | with_reducible refine r_ix ?_ | with_reducible refine r_and ?_ | with_reducible refine r_or ?_ | with_reducible refine r_not ?_ | with_reducible refine r_ife ?_ | with_reducible refine r_neg ?_ | with_reducible refine r_sl ?_ | with_reducible refine r_tup ?_ | with_reducible refine r_lst ?_ | with_reducible refine r_lc ?_ | with_reducible refine r_chn ?_ | with_reducible refine r_bm ?_ | ((with_reducible refine r_oN ?_); (try dsimp only)) | ((with_reducible refine r_oS ?_); (try dsimp only)) | with_reducible refine r_esC ?_ | with_reducible refine r_esN ?_ | with_reducible refine r_sub ?_ | with_reducible refine r_tsC ?_ | with_reducible refine r_tsN ?_ | with_reducible refine r_iSeq ?_ | with_reducible refine r_iRng ?_ | with_reducible refine r_iEnum ?_ | with_reducible refine r_nm ?_ | ((with_reducible refine r_tp (xs := ?xs) ?g0 ?g1 ?_); (case g0 => exact rfl); (case g1 => exact rfl)) | with_reducible refine m_t0 ?_ | with_reducible refine m_t1 ?_ | with_reducible refine m_t2 ?_ | with_reducible refine m_l0 ?_ | with_reducible refine m_l1 ?_ | with_reducible refine m_l3 ?_ | with_reducible refine r_addI ?_ | with_reducible refine r_subI ?_ | with_reducible refine r_mulI ?_ ?_ | with_reducible refine r_modI ?_ ?_ | with_reducible refine a_tt ?_ ?_ | with_reducible refine r_fdivI ?_ ?_ ?_ | with_reducible refine x_t1 ?_ ?_ ?_ | with_reducible refine r_powI ?_ ?_ ?_ ?_ | ((with_reducible refine a_ll (f := ?f) (g := ?g) ?g0 ?g1 ?_ ?_); (case g0 => walk_at "pg"); (case g1 => walk_at "pg")) | ((with_reducible refine x_l1 (i := ?i) ?g0 ?_ ?_ ?_); (case g0 => walk_at "pg")) | (with_reducible refine r_on (show partD none = some none from rfl) ?_) | (with_reducible refine r_on (show partD (some (D.int _)) = some (some _) from rfl) ?_) | with_reducible refine s_tt ?_ ?_ | with_reducible refine s_tf ?_ ?_ | ((with_reducible refine s_lt (f := ?f) ?g0 ?_ ?_); (case g0 => walk_at "pg")) | ((with_reducible refine s_lf (f := ?f) ?g0 ?_ ?_); (case g0 => walk_at "pg")) | with_reducible refine n_t ?_ | with_reducible refine l_t ?_ | with_reducible refine t_t ?_ | with_reducible refine b_abs ?_ | with_reducible refine b_int ?_ | with_reducible refine b_intb ?_ | with_reducible refine b_max ?_ | with_reducible refine b_min ?_ | ((with_reducible refine n_l (f := ?f) ?g0 ?_); (case g0 => walk_at "pg")) | ((with_reducible refine l_l (f := ?f) ?g0 ?_); (case g0 => walk_at "pg")) | ((with_reducible refine t_l (f := ?f) ?g0 ?_); (case g0 => walk_at "pg")) | with_reducible refine i_tn ?_ ?_ | with_reducible refine i_t ?_ ?_ ?_ | ((with_reducible refine i_l (f := ?f) ?g0 ?_ ?_ ?_); (case g0 => walk_at "pg")) | with_reducible refine w_e ?_ ?_ ?_ | ((with_reducible refine w_l (f := ?f) ?g0 ?_ ?_ ?_); (case g0 => walk_at "pg")) | with_reducible refine p_e ?_ ?_ | ((with_reducible refine p_l (f := ?f) ?g0 ?_ ?_); (case g0 => walk_at "pg")) | with_reducible refine c_lt ?_ | with_reducible refine c_le ?_ | with_reducible refine c_gt ?_ | with_reducible refine c_ge ?_ | with_reducible refine c_eq ?_ | with_reducible refine c_ne ?_ | with_reducible refine c_is ?_ | with_reducible refine c_isn ?_ | ((with_reducible refine t_bl (fun hb => ?_) (fun hb => ?_)) <;> ((try (cases hb; done)); (try simp only [decide_eq_true_eq, decide_eq_false_iff_not, Bool.not_eq_true', Bool.not_eq_false'] at hb))) | ((with_reducible refine t_and (fun hb => ?_) (fun hb => ?_)) <;> ((try (cases hb; done)); (try simp only [decide_eq_true_eq, decide_eq_false_iff_not, Bool.not_eq_true', Bool.not_eq_false'] at hb))) | with_reducible refine t_nb ?_ | with_reducible refine t_neg ?_ | with_reducible refine on_if ?_ | with_reducible refine g_r1 ?_ ?_ ?_ | with_reducible refine g_r2 ?_ ?_ ?_ ?_ ?_ | with_reducible refine g_t ?_ | ((with_reducible refine g_l (f := ?f) ?g0 ?_); (case g0 => walk_at "pg")) | with_reducible refine o_val ?_ ?_ | ((with_reducible refine lc_end ?g0 ?_); (case g0 => first | exact rfl | skip)) | with_reducible refine o_exc ?_ ?_ ?_ | with_reducible refine o_new ?_ ?_ ?_ | with_reducible refine isi_i_int ?_ | with_reducible refine isi_i_bool ?_ | with_reducible refine isi_i_tup ?_ | with_reducible refine isi_i_tl ?_ | with_reducible refine isi_b_int ?_ | with_reducible refine isi_b_bool ?_ | with_reducible refine isi_b_tup ?_ | with_reducible refine isi_b_tl ?_ | with_reducible refine isi_s_int ?_ | with_reducible refine isi_s_bool ?_ | with_reducible refine isi_s_tup ?_ | with_reducible refine isi_s_tl ?_ | with_reducible refine isi_n_int ?_ | with_reducible refine isi_n_bool ?_ | with_reducible refine isi_n_tup ?_ | with_reducible refine isi_n_tl ?_ | with_reducible refine isi_t_int ?_ | with_reducible refine isi_t_bool ?_ | with_reducible refine isi_t_tup ?_ | with_reducible refine isi_t_tl ?_ | with_reducible refine isi_u_int ?_ | with_reducible refine isi_u_bool ?_ | with_reducible refine isi_u_tup ?_ | with_reducible refine isi_u_tl ?_ | ((with_reducible refine isi_l_int (xs := ?xs) ?g0 ?_); (case g0 => walk_at "pg")) | ((with_reducible refine isi_l_bool (xs := ?xs) ?g0 ?_); (case g0 => walk_at "pg")) | ((with_reducible refine isi_l_tup (xs := ?xs) ?g0 ?_); (case g0 => walk_at "pg")) | ((with_reducible refine isi_l_tl (xs := ?xs) ?g0 ?_); (case g0 => walk_at "pg")) | ((with_reducible refine isi_ty0 (a := ?a) ?g0 ?g1 ?_); (case g0 => assumption); (case g1 => decide)) | with_reducible refine n_tg ?_ | ((with_reducible refine n_lg (xs := ?xs) ?g0 ?_); (case g0 => walk_at "pg")) | ((with_reducible refine l_lg (xs := ?xs) ?g0 ?_); (case g0 => walk_at "pg")) | ((with_reducible refine i_tg (d := ?d) ?g0 ?_); (case g0 => exact rfl)) | ((with_reducible refine i_lg (xs := ?xs) (d := ?d) ?g0 ?g1 ?_); (case g0 => walk_at "pg"); (case g1 => exact rfl)) | ((with_reducible refine g_lg (xs := ?xs) ?g0 ?_); (case g0 => walk_at "pg")) | ((with_reducible refine m_tg ?g0 ?_); (case g0 => exact Nat.le_of_ble_eq_true rfl)) | ((with_reducible refine m_lg ?g0 ?_); (case g0 => exact Nat.le_of_ble_eq_true rfl)) | ((with_reducible refine n_q (f := ?f) ?g0 ?_); (case g0 => walk_at "pq")) | ((with_reducible refine l_q (f := ?f) ?g0 ?_); (case g0 => walk_at "pq")) | ((with_reducible refine t_q (f := ?f) ?g0 ?_); (case g0 => walk_at "pq")) | ((with_reducible refine i_q (f := ?f) ?g0 ?_ ?_ ?_); (case g0 => walk_at "pq")) | ((with_reducible refine g_q (f := ?f) ?g0 ?_); (case g0 => walk_at "pq")) | ((with_reducible refine isi_q_tl (f := ?f) ?g0 ?_); (case g0 => walk_at "pq")) | ((with_reducible refine st_and ?g0 ?_); (case g0 => walk_at "pst")) | fail)

local macro_rules | `(tactic| walk_at "pd1") => `(tactic| first | with_reducible refine u_w_i ?_ | with_reducible refine u_w_b ?_ | with_reducible refine u_w_s ?_ | with_reducible refine u_w_n ?_ | with_reducible refine u_w_t ?_ | with_reducible refine u_w_u ?_ | ((with_reducible refine u_w_l (xs := ?xs) ?g0 ?_); (case g0 => walk_at "pg")) | fail)
local macro_rules | `(tactic| walk_at "pd1") => `(tactic| first | with_reducible refine u_trim_t ?_ ?_ | ((with_reducible refine u_trim_l (l := ?l) ?g0 ?_ ?_); (case g0 => walk_at "pg")) | fail)
local macro_rules | `(tactic| walk_at "pd1") => `(tactic| first | with_reducible refine u_plus ?_ ?_ ?_ | fail)
local macro_rules | `(tactic| walk_at "pd1") => `(tactic| first | with_reducible refine u_scaled ?_ ?_ ?_ ?_ | fail)
local macro_rules | `(tactic| walk_at "pd1") => `(tactic| first | with_reducible refine u_multiple ?_ ?_ | fail)
local macro_rules | `(tactic| walk_at "pd1") => `(tactic| first | with_reducible refine u_variables ?_ ?_ ?_ | fail)

local macro_rules | `(tactic| walk_at "pd1") => `(tactic| first | with_reducible refine u_put_variable ?_ ?_ ?_ ?_ ?_ ?_ | fail)
local macro_rules | `(tactic| walk_at "pd1") => `(tactic| first | with_reducible refine u_lw_i ?_ | fail)
local macro_rules | `(tactic| walk_at "pd1") => `(tactic| first | ((with_reducible refine u_law_pick (l := ?l) ?g0 ?_ ?_ ?_ ?_); (case g0 => walk_at "pg")) | fail)
local macro_rules | `(tactic| walk_at "pd1") => `(tactic| first | ((with_reducible refine u_law_number (l := ?l) ?g0 ?_ ?_ ?_); (case g0 => walk_at "pg")) | fail)
local macro_rules | `(tactic| walk_at "pd1") => `(tactic| first | ((with_reducible refine u_law_trim (l := ?l) ?g0 ?_ ?_ ?_); (case g0 => walk_at "pg")) | fail)

local macro_rules | `(tactic| walk_at "pd1") => `(tactic| first | with_reducible refine u_plus ?_ ?_ ?_ | fail)
local macro_rules | `(tactic| walk_at "pd1") => `(tactic| first | with_reducible refine u_minus ?_ ?_ ?_ ?_ | fail)
local macro_rules | `(tactic| walk_at "pd1") => `(tactic| first | with_reducible refine u_ls_tt ?_ ?_ ?_ ?_ ?_ ?_ | fail)
local macro_rules | `(tactic| walk_at "pd1") => `(tactic| first | with_reducible refine u_lt_tt ?_ ?_ ?_ | ((with_reducible refine u_lt_q (m := ?m) ?g0 ?_ ?_ ?_); (case g0 => walk_at "pg")) | fail)
local macro_rules | `(tactic| walk_at "pd1") => `(tactic| first | with_reducible refine u_join3 ?_ ?_ ?_ ?_ | with_reducible refine u_join1 ?_ ?_ | with_reducible refine u_join0 ?_ | fail)
local macro_rules | `(tactic| walk_at "pd1") => `(tactic| first | with_reducible refine u_constant ?_ ?_ | fail)
local macro_rules | `(tactic| walk_at "pd1") => `(tactic| first | with_reducible refine u_fa_t ?_ ?_ ?_ ?_ ?_ ?_ ?_ | ((with_reducible refine u_fa_l (v := ?v) ?g0 ?_ ?_ ?_ ?_ ?_ ?_ ?_); (case g0 => walk_at "pg")) | fail)
local macro_rules | `(tactic| walk_at "pd1") => `(tactic| first | with_reducible refine u_lfa_t ?_ ?_ ?_ ?_ ?_ ?_ | ((with_reducible refine u_lfa_l (v := ?v) ?g0 ?_ ?_ ?_ ?_ ?_ ?_); (case g0 => walk_at "pg")) | fail)
local macro_rules | `(tactic| walk_at "pd1") => `(tactic| first | with_reducible refine u_law_number_told ?_ ?_ | fail)
local macro_rules | `(tactic| walk_at "pd1") => `(tactic| first | with_reducible refine u_law_put ?_ ?_ ?_ ?_ ?_ ?_ ?_ | fail)
local macro_rules | `(tactic| walk_at "pd1") => `(tactic| first | with_reducible refine u_law_moved ?_ ?_ ?_ ?_ ?_ ?_ | fail)
local macro_rules | `(tactic| walk_at "pd1") => `(tactic| first | with_reducible refine u_law_order ?_ ?_ ?_ ?_ ?_ | fail)
local macro_rules | `(tactic| walk_at "pd1") => `(tactic| first | with_reducible refine u_same_order ?_ ?_ ?_ ?_ ?_ | fail)
local macro_rules | `(tactic| walk_at "pd1") => `(tactic| first | with_reducible refine u_moved ?_ ?_ ?_ ?_ ?_ ?_ | fail)

local macro_rules | `(tactic| walk_at "pd1") => `(tactic| first | with_reducible refine c_eqb ?_ | ((with_reducible refine r_efld (er := ?er) (d := ?d) ?g0 ?g1 ?_); (case g0 => exact rfl); (case g1 => exact rfl)) | ((with_reducible refine r_eisi (er := ?er) ?g0 ?_); (case g0 => exact rfl)) | with_reducible refine x_ends ?_ | fail)

local macro_rules | `(tactic| walk_at "tl") => `(tactic| first | omega | (with_reducible refine Nat.le_trans (trim_le _) ?_; walk_at "tl") | (with_reducible refine addL_le ?_ ?_ <;> walk_at "tl") | (rw [mulL_len]; walk_at "tl") | (rw [List.length_set]; walk_at "tl") | fail)
local macro_rules | `(tactic| walk_at "tn") => `(tactic| first | (with_reducible assumption) | (with_reducible refine trim_ne ?_; walk_at "tn") | (with_reducible refine add_ne ?_; walk_at "tn") | (with_reducible refine mul_ne ?_; walk_at "tn") | (with_reducible exact norm_zero.1) | fail)
local macro_rules | `(tactic| walk_at "bd") => `(tactic| first | (with_reducible assumption) | (with_reducible exact Bd.mono (by assumption) (by decide)) | (with_reducible exact Bz.up (by assumption) (by decide)) | (with_reducible exact Bz.sm (by decide) (by decide)) | fail)
local macro_rules | `(tactic| walk_at "sg") => `(tactic| first | (with_reducible assumption) | (walk_at "bd") | (walk_at "tn"; done) | (walk_at "tl"; done) | fail)

/-! ### _law_forms_refused -/
def p__law_forms_refused : List D → Store → Out → Prop := fun ds S o => ds = [] ∧ o = .val (.bl true)
theorem vc__law_forms_refused (M : Md) (h3 : M.sp 3 = FnS p_form_of) (h22 : M.sp 22 = FnS p__law_whole) (hk : M.kn 2 ["place"] = true) (h22' : M.sub 2 2 = true) (s0 : M.sub 2 0 = true) (s1 : M.sub 2 90 = true) (s2 : M.sub 2 1 = false) (s3 : M.sub 2 3 = false) : ∀ ds S o, p__law_forms_refused ds S o → wpSs (M.C (excO S o)) b__law_forms_refused (retO S o) (startD n__law_forms_refused ds) S := by
  rintro ds S o ⟨rfl, rfl⟩
  simp only [b__law_forms_refused, startD, List.map, List.length, List.replicate, Nat.reduceAdd, Nat.reduceSub, List.cons_append, List.nil_append]
  repeat' (walk_at "pd1")
  refine FR_ind (fun k e S' => S' = S ++ [lstI []] ++ [SO.lst [D.bl true]] ++ [SO.lst [D.int 1, D.non]] ++ [lstI [1]] ++
        [SO.lst [D.ref (List.length (S ++ [lstI []] ++ [SO.lst [D.bl true]] ++ [SO.lst [D.int 1, D.non]]))]] ++
      [SO.lst
          [tupI [], D.ref (List.length S), D.str (Str.ofString "ab"), D.non, D.int 7,
            D.ref (List.length (S ++ [lstI []])), D.tup [D.int 1, D.str (Str.ofString "a")],
            D.ref (List.length (S ++ [lstI []] ++ [SO.lst [D.bl true]])),
            D.ref (List.length (S ++ [lstI []] ++ [SO.lst [D.bl true]] ++ [SO.lst [D.int 1, D.non]] ++ [lstI [1]]))]] ∧ ∃ a b c, e = [a, b, c]) ⟨rfl, _, _, _, rfl⟩ ?_ ?_
  · rintro k y e S' hy ⟨hS, a, b, c, rfl⟩
    have hno : NoForm S' y := by
      have hm := List.mem_of_getElem? hy
      simp only [List.mem_cons, List.not_mem_nil, or_false] at hm
      rcases hm with rfl | rfl | rfl | rfl | rfl | rfl | rfl | rfl | rfl
      · exact .inr ⟨"tuple", [], rfl, .inl rfl, rfl, .inl rfl⟩
      · have h : S'[S.length]? = some (lstI []) := by rw [hS]; walk_at "pg"
        exact .inr ⟨"list", [], ty_l h, .inr rfl, seq_ref h, .inl rfl⟩
      · exact .inl ⟨"str", rfl, by decide, by decide⟩
      · exact .inl ⟨"NoneType", rfl, by decide, by decide⟩
      · exact .inl ⟨"int", rfl, by decide, by decide⟩
      · have h : S'[(S ++ [lstI []]).length]? = some (.lst [.bl true]) := by rw [hS]; walk_at "pg"
        exact .inr ⟨"list", [.bl true], ty_l h, .inr rfl, seq_ref h, .inr ⟨[], .bl true, [], "bool", rfl, rfl, by decide⟩⟩
      · exact .inr ⟨"tuple", _, rfl, .inl rfl, rfl, .inr ⟨[1], .str "a", [], "str", rfl, rfl, by decide⟩⟩
      · have h : S'[(S ++ [lstI []] ++ [SO.lst [D.bl true]]).length]? = some (.lst [.int 1, .non]) := by rw [hS]; walk_at "pg"
        exact .inr ⟨"list", _, ty_l h, .inr rfl, seq_ref h, .inr ⟨[1], .non, [], "NoneType", rfl, rfl, by decide⟩⟩
      · have h : S'[(S ++ [lstI []] ++ [SO.lst [D.bl true]] ++ [SO.lst [D.int 1, D.non]] ++ [lstI [1]]).length]? = some (.lst [D.ref (List.length (S ++ [lstI []] ++ [SO.lst [D.bl true]] ++ [SO.lst [D.int 1, D.non]]))]) := by rw [hS]; walk_at "pg"
        have h2 : S'[(S ++ [lstI []] ++ [SO.lst [D.bl true]] ++ [SO.lst [D.int 1, D.non]]).length]? = some (lstI [1]) := by rw [hS]; walk_at "pg"
        exact .inr ⟨"list", _, ty_l h, .inr rfl, seq_ref h, .inr ⟨[], _, [], "list", rfl, ty_l h2, by decide⟩⟩
    clear hy
    have hst : still (some (D.ref
          (List.length
            (S ++ [lstI []] ++ [SO.lst [D.bl true]] ++ [SO.lst [D.int 1, D.non]] ++ [lstI [1]] ++
              [SO.lst [D.ref (List.length (S ++ [lstI []] ++ [SO.lst [D.bl true]] ++ [SO.lst [D.int 1, D.non]]))]])),
        [tupI [], D.ref (List.length S), D.str (Str.ofString "ab"), D.non, D.int 7,
          D.ref (List.length (S ++ [lstI []])), D.tup [D.int 1, D.str (Str.ofString "a")],
          D.ref (List.length (S ++ [lstI []] ++ [SO.lst [D.bl true]])),
          D.ref (List.length (S ++ [lstI []] ++ [SO.lst [D.bl true]] ++ [SO.lst [D.int 1, D.non]] ++ [lstI [1]]))])) S' := by
      refine still_ref ?_
      rw [hS]
      exact get_last _ _
    have hE : Ext S S' := by rw [hS]; walk_at "pe"
    rw [← hS]
    revert hst
    generalize (some (D.ref (List.length _), _) : Src) = src
    intro hst
    repeat' (walk_at "pd1")
    refine u_formOf_x hno ?_
    refine ⟨hk, (show 2 < 3 by decide), fun _ => ?_, fun z => ?_⟩
    · repeat' (walk_at "pd1")
      have e1 : ([0].any fun c => (M.C (excO S (Out.val (D.bl true)))).sub (ePlace 2 0).cls c) = true := by show ([0].any fun c => M.sub 2 c) = true; simp [s0]
      have e2 : ([90].any fun c => (M.C (excO S (Out.val (D.bl true)))).sub (ePlace 2 0).cls c) = true := by show ([90].any fun c => M.sub 2 c) = true; simp [s1]
      have e3 : ([1, 3].any fun c => (M.C (excO S (Out.val (D.bl true)))).sub (ePlace 2 0).cls c) = false := by show ([1, 3].any fun c => M.sub 2 c) = false; simp [s2, s3]
      rw [e1, e2, e3]
      refine c_gen (b := false) rfl ?_
      repeat' (walk_at "pd1")
      all_goals first
        | with_reducible exact hE
        | with_reducible exact hst
        | with_reducible rfl
        | skip
      exact ⟨hst, rfl, _, _, _, rfl⟩
    · have z : M.sub 2 2 = false := z
      rw [h22'] at z
      cases z
  · rintro e S' ⟨rfl, a, b, c, rfl⟩
    repeat' (walk_at "pd1")
    all_goals try (walk_at "ps")

end PD

set_option Elab.async false
set_option linter.all false
set_option maxRecDepth 100000
set_option maxHeartbeats 1000000
namespace PD
open PySem
local macro_rules | `(tactic| walk_at "pg") => `(tactic| first | assumption | exact get_last' _ _ | (refine get_app ?_; walk_at "pg") | fail)
local macro_rules | `(tactic| walk_at "pq") => `(tactic| first | assumption | (refine isSq.app ?_ _; walk_at "pq") | fail)
local macro_rules | `(tactic| walk_at "pst") => `(tactic| first | exact still_none | exact still_tup | exact still_kl | exact still_ref (by walk_at "pg") | exact still_q (by walk_at "pq") | (refine still_seq ?_; assumption) | fail)
local macro_rules | `(tactic| walk_at "pe") => `(tactic| first | exact Ext.refl _ | assumption | (refine Ext.trans ?_ (Ext.app _ _); walk_at "pe") | fail)
local macro_rules | `(tactic| walk_at "ps2") => `(tactic| first | walk_at "pe" | with_reducible rfl | ((try simp only [decide_eq_true_eq, decide_eq_false_iff_not, Bool.not_eq_true', Bool.not_eq_false', Bool.not_true, Bool.not_false, List.length_append, List.length_replicate, List.length_cons, List.length_nil, List.length_set, List.length_map, List.length_take, List.length_drop, List.length_range] at *); first | omega | (exfalso; omega)) | fail)
local macro_rules | `(tactic| walk_at "ps") => `(tactic| first | walk_at "pe" | rfl | ((try simp only [decide_eq_true_eq, decide_eq_false_iff_not, Bool.not_eq_true', Bool.not_eq_false', Bool.not_true, Bool.not_false, List.length_append, List.length_replicate, List.length_cons, List.length_nil, List.length_set, List.length_map, List.length_take, List.length_drop, List.length_range] at *); first | omega | (exfalso; omega)) | fail)
local macro_rules | `(tactic| walk_at "pd1") => `(tactic| first | ((with_reducible refine r_nil ?_); (try dsimp only)) | ((with_reducible refine r_ret ?_); (try dsimp only)) | ((with_reducible refine r_retN ?_); (try dsimp only)) | ((with_reducible refine r_brk ?_); (try dsimp only)) | ((with_reducible refine r_cnt ?_); (try dsimp only)) | ((with_reducible refine r_rse ?_); (try dsimp only)) | ((with_reducible refine r_pas ?_); (try dsimp only)) | ((with_reducible refine r_ex ?_); (try dsimp only)) | with_reducible refine r_seq ?_ | with_reducible refine r_asg ?_ | with_reducible refine r_ifs ?_ | with_reducible refine r_tr ?_ | with_reducible refine r_fr ?_ | ((with_reducible refine r_aug (j := ?j) ?g0 ?_); (case g0 => exact rfl)) | ((with_reducible refine r_var (d := ?d) ?g0 ?_); (case g0 => exact rfl)) | ((with_reducible refine r_call (g := ?g) ?g0 ?_); (case g0 => first | assumption | exact rfl)) | with_reducible refine r_cst ?_ | with_reducible refine r_cmp ?_ | with_reducible refine r_bin ?_ | with_reducible refine r_bi ?_ | with_reducible refine r_ix ?_ | with_reducible refine r_and ?_ | with_reducible refine r_or ?_ | with_reducible refine r_not ?_ | with_reducible refine r_ife ?_ | with_reducible refine r_neg ?_ | with_reducible refine r_sl ?_ | with_reducible refine r_tup ?_ | with_reducible refine r_lst ?_ | with_reducible refine r_lc ?_ | with_reducible refine r_chn ?_ | with_reducible refine r_bm ?_ | ((with_reducible refine r_oN ?_); (try dsimp only)) | ((with_reducible refine r_oS ?_); (try dsimp only)) | with_reducible refine r_esC ?_ | with_reducible refine r_esN ?_ | with_reducible refine r_sub ?_ | with_reducible refine r_tsC ?_ | with_reducible refine r_tsN ?_ | with_reducible refine r_iSeq ?_ | with_reducible refine r_iRng ?_ | with_reducible refine r_iEnum ?_ | with_reducible refine r_nm ?_ | ((with_reducible refine r_tp (xs := ?xs) ?g0 ?g1 ?_); (case g0 => exact rfl); (case g1 => exact rfl)) | with_reducible refine m_t0 ?_ | with_reducible refine m_t1 ?_ | with_reducible refine m_t2 ?_ | with_reducible refine m_l0 ?_ | with_reducible refine m_l1 ?_ | with_reducible refine m_l3 ?_ | with_reducible refine r_addI ?_ | with_reducible refine r_subI ?_ | with_reducible refine r_mulI ?_ ?_ | with_reducible refine r_modI ?_ ?_ | with_reducible refine a_tt ?_ ?_ | with_reducible refine r_fdivI ?_ ?_ ?_ | with_reducible refine x_t1 ?_ ?_ ?_ | with_reducible refine r_powI ?_ ?_ ?_ ?_ | ((with_reducible refine a_ll (f := ?f) (g := ?g) ?g0 ?g1 ?_ ?_); (case g0 => walk_at "pg"); (case g1 => walk_at "pg")) | ((with_reducible refine x_l1 (i := ?i) ?g0 ?_ ?_ ?_); (case g0 => walk_at "pg")) | (with_reducible refine r_on (show partD none = some none from rfl) ?_) | (with_reducible refine r_on (show partD (some (D.int _)) = some (some _) from rfl) ?_) | with_reducible refine s_tt ?_ ?_ | with_reducible refine s_tf ?_ ?_ | ((with_reducible refine s_lt (f := ?f) ?g0 ?_ ?_); (case g0 => walk_at "pg")) | ((with_reducible refine s_lf (f := ?f) ?g0 ?_ ?_); (case g0 => walk_at "pg")) | with_reducible refine n_t ?_ | with_reducible refine l_t ?_ | with_reducible refine t_t ?_ | with_reducible refine b_abs ?_ | with_reducible refine b_int ?_ | with_reducible refine b_intb ?_ | with_reducible refine b_max ?_ | with_reducible refine b_min ?_ | ((with_reducible refine n_l (f := ?f) ?g0 ?_); (case g0 => walk_at "pg")) | ((with_reducible refine l_l (f := ?f) ?g0 ?_); (case g0 => walk_at "pg")) | ((with_reducible refine t_l (f := ?f) ?g0 ?_); (case g0 => walk_at "pg")) | with_reducible refine i_tn ?_ ?_ | with_reducible refine i_t ?_ ?_ ?_ | ((with_reducible refine i_l (f := ?f) ?g0 ?_ ?_ ?_); (case g0 => walk_at "pg")) | with_reducible refine w_e ?_ ?_ ?_ | ((with_reducible refine w_l (f := ?f) ?g0 ?_ ?_ ?_); (case g0 => walk_at "pg")) | with_reducible refine p_e ?_ ?_ | ((with_reducible refine p_l (f := ?f) ?g0 ?_ ?_); (case g0 => walk_at "pg")) | with_reducible refine c_lt ?_ | with_reducible refine c_le ?_ | with_reducible refine c_gt ?_ | with_reducible refine c_ge ?_ | with_reducible refine c_eq ?_ | with_reducible refine c_ne ?_ | with_reducible refine c_is ?_ | with_reducible refine c_isn ?_ | ((with_reducible refine t_bl (fun hb => ?_) (fun hb => ?_)) <;> ((try (cases hb; done)); (try simp only [decide_eq_true_eq, decide_eq_false_iff_not, Bool.not_eq_true', Bool.not_eq_false'] at hb))) | ((with_reducible refine t_and (fun hb => ?_) (fun hb => ?_)) <;> ((try (cases hb; done)); (try simp only [decide_eq_true_eq, decide_eq_false_iff_not, Bool.not_eq_true', Bool.not_eq_false'] at hb))) | with_reducible refine t_nb ?_ | with_reducible refine t_neg ?_ | with_reducible refine on_if ?_ | with_reducible refine g_r1 ?_ ?_ ?_ | with_reducible refine g_r2 ?_ ?_ ?_ ?_ ?_ | with_reducible refine g_t ?_ | ((with_reducible refine g_l (f := ?f) ?g0 ?_); (case g0 => walk_at "pg")) | with_reducible refine o_val ?_ ?_ | ((with_reducible refine lc_end ?g0 ?_); (case g0 => first | exact rfl | skip)) | with_reducible refine o_exc ?_ ?_ ?_ | with_reducible refine o_new ?_ ?_ ?_ | with_reducible refine isi_i_int ?_ | with_reducible refine isi_i_bool ?_ | with_reducible refine isi_i_tup ?_ | with_reducible refine isi_i_tl ?_ | with_reducible refine isi_b_int ?_ | with_reducible refine isi_b_bool ?_ | with_reducible refine isi_b_tup ?_ | with_reducible refine isi_b_tl ?_ | with_reducible refine isi_s_int ?_ | with_reducible refine isi_s_bool ?_ | with_reducible refine isi_s_tup ?_ | with_reducible refine isi_s_tl ?_ | with_reducible refine isi_n_int ?_ | with_reducible refine isi_n_bool ?_ | with_reducible refine isi_n_tup ?_ | with_reducible refine isi_n_tl ?_ | with_reducible refine isi_t_int ?_ | with_reducible refine isi_t_bool ?_ | with_reducible refine isi_t_tup ?_ | with_reducible refine isi_t_tl ?_ | with_reducible refine isi_u_int ?_ | with_reducible refine isi_u_bool ?_ | with_reducible refine isi_u_tup ?_ | with_reducible refine isi_u_tl ?_ | ((with_reducible refine isi_l_int (xs := ?xs) ?g0 ?_); (case g0 => walk_at "pg")) | ((with_reducible refine isi_l_bool (xs := ?xs) ?g0 ?_); (case g0 => walk_at "pg")) | ((with_reducible refine isi_l_tup (xs := ?xs) ?g0 ?_); (case g0 => walk_at "pg")) | ((with_reducible refine isi_l_tl (xs := ?xs) ?g0 ?_); (case g0 => walk_at "pg")) | ((with_reducible refine isi_ty0 (a := ?a) ?g0 ?g1 ?_); (case g0 => assumption); (case g1 => decide)) | with_reducible refine n_tg ?_ | ((with_reducible refine n_lg (xs := ?xs) ?g0 ?_); (case g0 => walk_at "pg")) | ((with_reducible refine l_lg (xs := ?xs) ?g0 ?_); (case g0 => walk_at "pg")) | ((with_reducible refine i_tg (d := ?d) ?g0 ?_); (case g0 => exact rfl)) | ((with_reducible refine i_lg (xs := ?xs) (d := ?d) ?g0 ?g1 ?_); (case g0 => walk_at "pg"); (case g1 => exact rfl)) | ((with_reducible refine g_lg (xs := ?xs) ?g0 ?_); (case g0 => walk_at "pg")) | ((with_reducible refine m_tg ?g0 ?_); (case g0 => exact Nat.le_of_ble_eq_true rfl)) | ((with_reducible refine m_lg ?g0 ?_); (case g0 => exact Nat.le_of_ble_eq_true rfl)) | ((with_reducible refine n_q (f := ?f) ?g0 ?_); (case g0 => walk_at "pq")) | ((with_reducible refine l_q (f := ?f) ?g0 ?_); (case g0 => walk_at "pq")) | ((with_reducible refine t_q (f := ?f) ?g0 ?_); (case g0 => walk_at "pq")) | ((with_reducible refine i_q (f := ?f) ?g0 ?_ ?_ ?_); (case g0 => walk_at "pq")) | ((with_reducible refine g_q (f := ?f) ?g0 ?_); (case g0 => walk_at "pq")) | ((with_reducible refine isi_q_tl (f := ?f) ?g0 ?_); (case g0 => walk_at "pq")) | ((with_reducible refine st_and ?g0 ?_); (case g0 => walk_at "pst")) | fail)

local macro_rules | `(tactic| walk_at "pd1") => `(tactic| first | with_reducible refine u_w_i ?_ | with_reducible refine u_w_b ?_ | with_reducible refine u_w_s ?_ | with_reducible refine u_w_n ?_ | with_reducible refine u_w_t ?_ | with_reducible refine u_w_u ?_ | ((with_reducible refine u_w_l (xs := ?xs) ?g0 ?_); (case g0 => walk_at "pg")) | fail)
local macro_rules | `(tactic| walk_at "pd1") => `(tactic| first | with_reducible refine u_trim_t ?_ ?_ | ((with_reducible refine u_trim_l (l := ?l) ?g0 ?_ ?_); (case g0 => walk_at "pg")) | fail)
local macro_rules | `(tactic| walk_at "pd1") => `(tactic| first | with_reducible refine u_plus ?_ ?_ ?_ | fail)
local macro_rules | `(tactic| walk_at "pd1") => `(tactic| first | with_reducible refine u_scaled ?_ ?_ ?_ ?_ | fail)
local macro_rules | `(tactic| walk_at "pd1") => `(tactic| first | with_reducible refine u_multiple ?_ ?_ | fail)
local macro_rules | `(tactic| walk_at "pd1") => `(tactic| first | with_reducible refine u_variables ?_ ?_ ?_ | fail)

local macro_rules | `(tactic| walk_at "pd1") => `(tactic| first | with_reducible refine u_put_variable ?_ ?_ ?_ ?_ ?_ ?_ | fail)
local macro_rules | `(tactic| walk_at "pd1") => `(tactic| first | with_reducible refine u_lw_i ?_ | fail)
local macro_rules | `(tactic| walk_at "pd1") => `(tactic| first | ((with_reducible refine u_law_pick (l := ?l) ?g0 ?_ ?_ ?_ ?_); (case g0 => walk_at "pg")) | fail)
local macro_rules | `(tactic| walk_at "pd1") => `(tactic| first | ((with_reducible refine u_law_number (l := ?l) ?g0 ?_ ?_ ?_); (case g0 => walk_at "pg")) | fail)
local macro_rules | `(tactic| walk_at "pd1") => `(tactic| first | ((with_reducible refine u_law_trim (l := ?l) ?g0 ?_ ?_ ?_); (case g0 => walk_at "pg")) | fail)

local macro_rules | `(tactic| walk_at "pd1") => `(tactic| first | with_reducible refine u_plus ?_ ?_ ?_ | fail)
local macro_rules | `(tactic| walk_at "pd1") => `(tactic| first | with_reducible refine u_minus ?_ ?_ ?_ ?_ | fail)
local macro_rules | `(tactic| walk_at "pd1") => `(tactic| first | with_reducible refine u_ls_tt ?_ ?_ ?_ ?_ ?_ ?_ | fail)
local macro_rules | `(tactic| walk_at "pd1") => `(tactic| first | with_reducible refine u_lt_tt ?_ ?_ ?_ | ((with_reducible refine u_lt_q (m := ?m) ?g0 ?_ ?_ ?_); (case g0 => walk_at "pg")) | fail)
local macro_rules | `(tactic| walk_at "pd1") => `(tactic| first | with_reducible refine u_join3 ?_ ?_ ?_ ?_ | with_reducible refine u_join1 ?_ ?_ | with_reducible refine u_join0 ?_ | fail)
local macro_rules | `(tactic| walk_at "pd1") => `(tactic| first | with_reducible refine u_constant ?_ ?_ | fail)
local macro_rules | `(tactic| walk_at "pd1") => `(tactic| first | with_reducible refine u_fa_t ?_ ?_ ?_ ?_ ?_ ?_ ?_ | ((with_reducible refine u_fa_l (v := ?v) ?g0 ?_ ?_ ?_ ?_ ?_ ?_ ?_); (case g0 => walk_at "pg")) | fail)
local macro_rules | `(tactic| walk_at "pd1") => `(tactic| first | with_reducible refine u_lfa_t ?_ ?_ ?_ ?_ ?_ ?_ | ((with_reducible refine u_lfa_l (v := ?v) ?g0 ?_ ?_ ?_ ?_ ?_ ?_); (case g0 => walk_at "pg")) | fail)
local macro_rules | `(tactic| walk_at "pd1") => `(tactic| first | with_reducible refine u_law_number_told ?_ ?_ | fail)
local macro_rules | `(tactic| walk_at "pd1") => `(tactic| first | with_reducible refine u_law_put ?_ ?_ ?_ ?_ ?_ ?_ ?_ | fail)
local macro_rules | `(tactic| walk_at "pd1") => `(tactic| first | with_reducible refine u_law_moved ?_ ?_ ?_ ?_ ?_ ?_ | fail)
local macro_rules | `(tactic| walk_at "pd1") => `(tactic| first | with_reducible refine u_law_order ?_ ?_ ?_ ?_ ?_ | fail)
local macro_rules | `(tactic| walk_at "pd1") => `(tactic| first | with_reducible refine u_same_order ?_ ?_ ?_ ?_ ?_ | fail)
local macro_rules | `(tactic| walk_at "pd1") => `(tactic| first | with_reducible refine u_moved ?_ ?_ ?_ ?_ ?_ ?_ | fail)

local macro_rules | `(tactic| walk_at "pd1") => `(tactic| first | with_reducible refine c_eqb ?_ | ((with_reducible refine r_efld (er := ?er) (d := ?d) ?g0 ?g1 ?_); (case g0 => exact rfl); (case g1 => exact rfl)) | ((with_reducible refine r_eisi (er := ?er) ?g0 ?_); (case g0 => exact rfl)) | with_reducible refine x_ends ?_ | fail)

local macro_rules | `(tactic| walk_at "tl") => `(tactic| first | omega | (with_reducible refine Nat.le_trans (trim_le _) ?_; walk_at "tl") | (with_reducible refine addL_le ?_ ?_ <;> walk_at "tl") | (rw [mulL_len]; walk_at "tl") | (rw [List.length_set]; walk_at "tl") | fail)
local macro_rules | `(tactic| walk_at "tn") => `(tactic| first | (with_reducible assumption) | (with_reducible refine trim_ne ?_; walk_at "tn") | (with_reducible refine add_ne ?_; walk_at "tn") | (with_reducible refine mul_ne ?_; walk_at "tn") | (with_reducible exact norm_zero.1) | fail)
local macro_rules | `(tactic| walk_at "bd") => `(tactic| first | (with_reducible assumption) | (with_reducible exact Bd.mono (by assumption) (by decide)) | (with_reducible exact Bz.up (by assumption) (by decide)) | (with_reducible exact Bz.sm (by decide) (by decide)) | fail)
local macro_rules | `(tactic| walk_at "sg") => `(tactic| first | (with_reducible assumption) | (walk_at "bd") | (walk_at "tn"; done) | (walk_at "tl"; done) | fail)

/-! ### _law_numbers_refused -/
def p__law_numbers_refused : List D → Store → Out → Prop := fun ds S o => ds = [] ∧ o = .val (.bl true)
theorem c_ne_s {S : Store} {x : Str} {Kk : Bool → Prop} (h : Kk false) : onO (cmpD S .ne (.str x) (.str x)) Kk := by
  have e : cmpD S .ne (.str x) (.str x) = some false := by
    show some (!PyData.eqv (.str x) (.str x)) = _
    unfold PyData.eqv
    rw [beq_self_eq_true]
    rfl
  rw [e]
  exact h
local macro_rules | `(tactic| walk_at "pd1") => `(tactic| first | with_reducible refine c_ne_s ?_ | fail)
/-- what the three loops ask of a thing -/
def BadNo (S : Store) (d : D) : Prop := ∃ a, tyName S d = some a ∧ a ≠ "int"
def BadPair (S : Store) (d t : D) (w : String) : Prop := ∃ a b, tyName S d = some a ∧ tyName S t = some b ∧ (((a ≠ "int" ∨ ∃ i : Int, d = .int i ∧ (i < 0 ∨ 999 < i)) ∧ w = "x") ∨ ((∃ x : Nat, d = .int x ∧ x ≤ 999) ∧ b ≠ "int" ∧ w = "times"))
theorem u_badPair {S : Store} {Q : DQ} {E : EQ} {d t : D} {w : String} (h : BadPair S d t w) (q : E (eName w) S) : FnS (dflP [.int 1] p_variable_form) [d, t] S Q E := by
  obtain ⟨a, b, h1, h2, (⟨h3, rfl⟩ | ⟨⟨x, rfl, h3⟩, h4, rfl⟩)⟩ := h
  · exact u_varF_x h1 h2 h3 q
  · exact u_varF_t h2 h3 h4 q
theorem vc__law_numbers_refused (M : Md) (h4 : M.sp 4 = FnS p_number_form) (h5 : M.sp 5 = FnS (dflP [.int 1] p_variable_form)) (h17 : M.sp 17 = FnS p_moved) (hk : M.kn 1 ["name"] = true) (h11 : M.sub 1 1 = true) : ∀ ds S o, p__law_numbers_refused ds S o → wpSs (M.C (excO S o)) b__law_numbers_refused (retO S o) (startD n__law_numbers_refused ds) S := by
  rintro ds S o ⟨rfl, rfl⟩
  simp only [b__law_numbers_refused, startD, List.map, List.length, List.replicate, Nat.reduceAdd, Nat.reduceSub, List.cons_append, List.nil_append]
  repeat' (walk_at "pd1")
  have g0 : ((S ++ [lstI [2]] ++ [SO.lst [D.bl true, D.non, D.str (Str.ofString "1"), tupI [1], D.ref (List.length S)]] : Store))[S.length]? = some (lstI [2]) := by walk_at "pg"
  have hst : still (some (D.ref (List.length (S ++ [lstI [2]])), [D.bl true, D.non, D.str (Str.ofString "1"), tupI [1], D.ref (List.length S)])) (S ++ [lstI [2]] ++ [SO.lst [D.bl true, D.non, D.str (Str.ofString "1"), tupI [1], D.ref (List.length S)]]) := still_ref (get_last _ _)
  have hno : ∀ y ∈ [D.bl true, D.non, D.str (Str.ofString "1"), tupI [1], D.ref (List.length S)], BadNo (S ++ [lstI [2]] ++ [SO.lst [D.bl true, D.non, D.str (Str.ofString "1"), tupI [1], D.ref (List.length S)]]) y := by
    intro y hm
    simp only [List.mem_cons, List.not_mem_nil, or_false] at hm
    rcases hm with rfl | rfl | rfl | rfl | rfl
    · exact ⟨"bool", rfl, by decide⟩
    · exact ⟨"NoneType", rfl, by decide⟩
    · exact ⟨"str", rfl, by decide⟩
    · exact ⟨"tuple", rfl, by decide⟩
    · exact ⟨"list", ty_l g0, by decide⟩
  have hE : Ext S (S ++ [lstI [2]] ++ [SO.lst [D.bl true, D.non, D.str (Str.ofString "1"), tupI [1], D.ref (List.length S)]]) := by walk_at "pe"
  revert hst hno hE
  generalize (S ++ [lstI [2]] ++ [SO.lst [D.bl true, D.non, D.str (Str.ofString "1"), tupI [1], D.ref (List.length S)]] : Store) = S1
  generalize [D.bl true, D.non, D.str (Str.ofString "1"), tupI [1], D.ref (List.length S)] = L1
  generalize (some (D.ref (List.length (S ++ [lstI [2]])), L1) : Src) = src
  intro hst hno hE
  refine FR_ind (fun k e S' => S' = S1 ∧ ∃ a b c d, e = [a, b, c, d]) ⟨rfl, _, _, _, _, rfl⟩ ?_ ?_
  · rintro k y e S' hy ⟨rfl, a, b, c, d, rfl⟩
    obtain ⟨a', ht, hb⟩ := hno y (List.mem_of_getElem? hy)
    repeat' (walk_at "pd1")
    refine u_numF_x ht hb ⟨hk, (show 2 < 4 by decide), fun _ => ?_, fun z => ?_⟩
    · repeat' (walk_at "pd1")
      exact ⟨hst, rfl, _, _, _, _, rfl⟩
    · have z : M.sub 1 1 = false := z
      rw [h11] at z
      cases z
  · rintro e S' ⟨rfl, a, b, c, d, rfl⟩
    repeat' (walk_at "pd1")
    have hE2 := hE.trans (Ext.app S' [.lst ([(D.int (0 - 1), D.int 1, "x"), (.bl true, .int 1, "x"), (.str "a", .bl true, "x"), (.int 1000, .int 1, "x"), (.int 3, .non, "times"), (.int 0, .bl false, "times"), (.non, .non, "x")].map fun p : D × D × String => .tup [p.1, p.2.1, .str (Str.ofString p.2.2)])])
    have hst2 : still (some (D.ref S'.length, [(D.int (0 - 1), D.int 1, "x"), (.bl true, .int 1, "x"), (.str "a", .bl true, "x"), (.int 1000, .int 1, "x"), (.int 3, .non, "times"), (.int 0, .bl false, "times"), (.non, .non, "x")].map fun p : D × D × String => .tup [p.1, p.2.1, .str (Str.ofString p.2.2)])) (S' ++ [.lst ([(D.int (0 - 1), D.int 1, "x"), (.bl true, .int 1, "x"), (.str "a", .bl true, "x"), (.int 1000, .int 1, "x"), (.int 3, .non, "times"), (.int 0, .bl false, "times"), (.non, .non, "x")].map fun p : D × D × String => .tup [p.1, p.2.1, .str (Str.ofString p.2.2)])]) := still_ref (get_last _ _)
    have hno2 : ∀ (T : Store) (y : D), y ∈ ([(D.int (0 - 1), D.int 1, "x"), (.bl true, .int 1, "x"), (.str "a", .bl true, "x"), (.int 1000, .int 1, "x"), (.int 3, .non, "times"), (.int 0, .bl false, "times"), (.non, .non, "x")].map fun p : D × D × String => D.tup [p.1, p.2.1, .str (Str.ofString p.2.2)]) → ∃ d t w, y = .tup [d, t, .str (Str.ofString w)] ∧ BadPair T d t w := by
      intro T y hm
      simp only [List.map, List.mem_cons, List.not_mem_nil, or_false] at hm
      rcases hm with rfl | rfl | rfl | rfl | rfl | rfl | rfl
      · exact ⟨_, _, _, rfl, _, _, rfl, rfl, .inl ⟨.inr ⟨_, rfl, by decide⟩, rfl⟩⟩
      · exact ⟨_, _, _, rfl, _, _, rfl, rfl, .inl ⟨.inl (by decide), rfl⟩⟩
      · exact ⟨_, _, _, rfl, _, _, rfl, rfl, .inl ⟨.inl (by decide), rfl⟩⟩
      · exact ⟨_, _, _, rfl, _, _, rfl, rfl, .inl ⟨.inr ⟨_, rfl, by decide⟩, rfl⟩⟩
      · exact ⟨_, _, _, rfl, _, _, rfl, rfl, .inr ⟨⟨3, rfl, by decide⟩, by decide, rfl⟩⟩
      · exact ⟨_, _, _, rfl, _, _, rfl, rfl, .inr ⟨⟨0, rfl, by decide⟩, by decide, rfl⟩⟩
      · exact ⟨_, _, _, rfl, _, _, rfl, rfl, .inl ⟨.inl (by decide), rfl⟩⟩
    simp only [List.map] at hE2 hst2 hno2
    generalize [D.tup [D.int (0 - 1), D.int 1, D.str (Str.ofString "x")], D.tup [D.bl true, D.int 1, D.str (Str.ofString "x")], D.tup [D.str (Str.ofString "a"), D.bl true, D.str (Str.ofString "x")], D.tup [D.int 1000, D.int 1, D.str (Str.ofString "x")], D.tup [D.int 3, D.non, D.str (Str.ofString "times")], D.tup [D.int 0, D.bl false, D.str (Str.ofString "times")], D.tup [D.non, D.non, D.str (Str.ofString "x")]] = L2 at hE2 hst2 hno2 ⊢
    generalize (S' ++ [SO.lst L2] : Store) = S2 at hE2 hst2 ⊢
    generalize (some (D.ref S'.length, L2) : Src) = src2 at hst2 ⊢
    refine FR_ind (fun k e S' => S' = S2 ∧ ∃ a b c d, e = [a, b, c, d]) ⟨rfl, _, _, _, _, rfl⟩ ?_ ?_
    · rintro k y e S3 hy ⟨rfl, a, b, c, d, rfl⟩
      obtain ⟨x1, x2, w, rfl, hb⟩ := hno2 S3 y (List.mem_of_getElem? hy)
      repeat' (walk_at "pd1")
      refine u_badPair hb ⟨hk, (show 2 < 4 by decide), fun _ => ?_, fun z => ?_⟩
      · repeat' (walk_at "pd1")
        exact ⟨hst2, rfl, _, _, _, _, rfl⟩
      · have z : M.sub 1 1 = false := z
        rw [h11] at z
        cases z
    · rintro e S3 ⟨rfl, a, b, c, d, rfl⟩
      repeat' (walk_at "pd1")
      have hE3 := hE2.trans (Ext.app S3 [.lst [.int (0 - 1), .bl true, .non, .str (Str.ofString "2")]])
      have hst3 : still (some (D.ref S3.length, [.int (0 - 1), .bl true, .non, .str (Str.ofString "2")])) (S3 ++ [.lst [.int (0 - 1), .bl true, .non, .str (Str.ofString "2")]]) := still_ref (get_last _ _)
      have hno3 : ∀ (T : Store) (y : D), y ∈ ([.int (0 - 1), .bl true, .non, .str (Str.ofString "2")] : List D) → ∃ a, tyName T y = some a ∧ (a ≠ "int" ∨ ∃ i : Int, y = .int i ∧ i < 0) := by
        intro T y hm
        simp only [List.mem_cons, List.not_mem_nil, or_false] at hm
        rcases hm with rfl | rfl | rfl | rfl
        · exact ⟨_, rfl, .inr ⟨_, rfl, by decide⟩⟩
        · exact ⟨_, rfl, .inl (by decide)⟩
        · exact ⟨_, rfl, .inl (by decide)⟩
        · exact ⟨_, rfl, .inl (by decide)⟩
      generalize ([.int (0 - 1), .bl true, .non, .str (Str.ofString "2")] : List D) = L3 at hE3 hst3 hno3 ⊢
      generalize (S3 ++ [SO.lst L3] : Store) = S4 at hE3 hst3 ⊢
      generalize (some (D.ref S3.length, L3) : Src) = src3 at hst3 ⊢
      refine FR_ind (fun k e S' => S' = S4 ∧ ∃ a b c d, e = [a, b, c, d]) ⟨rfl, _, _, _, _, rfl⟩ ?_ ?_
      · rintro k y e S5 hy ⟨rfl, a, b, c, d, rfl⟩
        obtain ⟨a', ht, hb⟩ := hno3 S5 y (List.mem_of_getElem? hy)
        repeat' (walk_at "pd1")
        refine u_moved_x (by decide) (by simp) (by decide) ht hb ⟨hk, (show 2 < 4 by decide), fun _ => ?_, fun z => ?_⟩
        · repeat' (walk_at "pd1")
          exact ⟨hst3, rfl, _, _, _, _, rfl⟩
        · have z : M.sub 1 1 = false := z
          rw [h11] at z
          cases z
      · rintro e S5 ⟨rfl, a, b, c, d, rfl⟩
        repeat' (walk_at "pd1")
        all_goals first
          | with_reducible exact hE3
          | with_reducible rfl
          | skip

end PD

set_option Elab.async false
set_option linter.all false
set_option maxRecDepth 100000
set_option maxHeartbeats 1000000
namespace PD
open PySem
local macro_rules | `(tactic| walk_at "pg") => `(tactic| first | assumption | exact get_last' _ _ | (refine get_app ?_; walk_at "pg") | fail)
local macro_rules | `(tactic| walk_at "pq") => `(tactic| first | assumption | (refine isSq.app ?_ _; walk_at "pq") | fail)
local macro_rules | `(tactic| walk_at "pst") => `(tactic| first | exact still_none | exact still_tup | exact still_kl | exact still_ref (by walk_at "pg") | exact still_q (by walk_at "pq") | (refine still_seq ?_; assumption) | fail)
local macro_rules | `(tactic| walk_at "pe") => `(tactic| first | exact Ext.refl _ | assumption | (refine Ext.trans ?_ (Ext.app _ _); walk_at "pe") | fail)
local macro_rules | `(tactic| walk_at "ps2") => `(tactic| first | walk_at "pe" | with_reducible rfl | ((try simp only [decide_eq_true_eq, decide_eq_false_iff_not, Bool.not_eq_true', Bool.not_eq_false', Bool.not_true, Bool.not_false, List.length_append, List.length_replicate, List.length_cons, List.length_nil, List.length_set, List.length_map, List.length_take, List.length_drop, List.length_range] at *); first | omega | (exfalso; omega)) | fail)
local macro_rules | `(tactic| walk_at "ps") => `(tactic| first | walk_at "pe" | rfl | ((try simp only [decide_eq_true_eq, decide_eq_false_iff_not, Bool.not_eq_true', Bool.not_eq_false', Bool.not_true, Bool.not_false, List.length_append, List.length_replicate, List.length_cons, List.length_nil, List.length_set, List.length_map, List.length_take, List.length_drop, List.length_range] at *); first | omega | (exfalso; omega)) | fail)
local macro_rules | `(tactic| walk_at "pd1") => `(tactic| first | ((with_reducible refine r_nil ?_); (try dsimp only)) | ((with_reducible refine r_ret ?_); (try dsimp only)) | ((with_reducible refine r_retN ?_); (try dsimp only)) | ((with_reducible refine r_brk ?_); (try dsimp only)) | ((with_reducible refine r_cnt ?_); (try dsimp only)) | ((with_reducible refine r_rse ?_); (try dsimp only)) | ((with_reducible refine r_pas ?_); (try dsimp only)) | ((with_reducible refine r_ex ?_); (try dsimp only)) | with_reducible refine r_seq ?_ | with_reducible refine r_asg ?_ | with_reducible refine r_ifs ?_ | with_reducible refine r_tr ?_ | with_reducible refine r_fr ?_ | ((with_reducible refine r_aug (j := ?j) ?g0 ?_); (case g0 => exact rfl)) | ((with_reducible refine r_var (d := ?d) ?g0 ?_); (case g0 => exact rfl)) | ((with_reducible refine r_call (g := ?g) ?g0 ?_); (case g0 => first | assumption | exact rfl)) | with_reducible refine r_cst ?_ | with_reducible refine r_cmp ?_ | with_reducible refine r_bin ?_ | with_reducible refine r_bi ?_ | with_reducible refine r_ix ?_ | with_reducible refine r_and ?_ | with_reducible refine r_or ?_ | with_reducible refine r_not ?_ | with_reducible refine r_ife ?_ | with_reducible refine r_neg ?_ | with_reducible refine r_sl ?_ | with_reducible refine r_tup ?_ | with_reducible refine r_lst ?_ | with_reducible refine r_lc ?_ | with_reducible refine r_chn ?_ | with_reducible refine r_bm ?_ | ((with_reducible refine r_oN ?_); (try dsimp only)) | ((with_reducible refine r_oS ?_); (try dsimp only)) | with_reducible refine r_esC ?_ | with_reducible refine r_esN ?_ | with_reducible refine r_sub ?_ | with_reducible refine r_tsC ?_ | with_reducible refine r_tsN ?_ | with_reducible refine r_iSeq ?_ | with_reducible refine r_iRng ?_ | with_reducible refine r_iEnum ?_ | with_reducible refine r_nm ?_ | ((with_reducible refine r_tp (xs := ?xs) ?g0 ?g1 ?_); (case g0 => exact rfl); (case g1 => exact rfl)) | with_reducible refine m_t0 ?_ | with_reducible refine m_t1 ?_ | with_reducible refine m_t2 ?_ | with_reducible refine m_l0 ?_ | with_reducible refine m_l1 ?_ | with_reducible refine m_l3 ?_ | with_reducible refine r_addI ?_ | with_reducible refine r_subI ?_ | with_reducible refine r_mulI ?_ ?_ | with_reducible refine r_modI ?_ ?_ | with_reducible refine a_tt ?_ ?_ | with_reducible refine r_fdivI ?_ ?_ ?_ | with_reducible refine x_t1 ?_ ?_ ?_ | with_reducible refine r_powI ?_ ?_ ?_ ?_ | ((with_reducible refine a_ll (f := ?f) (g := ?g) ?g0 ?g1 ?_ ?_); (case g0 => walk_at "pg"); (case g1 => walk_at "pg")) | ((with_reducible refine x_l1 (i := ?i) ?g0 ?_ ?_ ?_); (case g0 => walk_at "pg")) | (with_reducible refine r_on (show partD none = some none from rfl) ?_) | (with_reducible refine r_on (show partD (some (D.int _)) = some (some _) from rfl) ?_) | with_reducible refine s_tt ?_ ?_ | with_reducible refine s_tf ?_ ?_ | ((with_reducible refine s_lt (f := ?f) ?g0 ?_ ?_); (case g0 => walk_at "pg")) | ((with_reducible refine s_lf (f := ?f) ?g0 ?_ ?_); (case g0 => walk_at "pg")) | with_reducible refine n_t ?_ | with_reducible refine l_t ?_ | with_reducible refine t_t ?_ | with_reducible refine b_abs ?_ | with_reducible refine b_int ?_ | with_reducible refine b_intb ?_ | with_reducible refine b_max ?_ | with_reducible refine b_min ?_ | ((with_reducible refine n_l (f := ?f) ?g0 ?_); (case g0 => walk_at "pg")) | ((with_reducible refine l_l (f := ?f) ?g0 ?_); (case g0 => walk_at "pg")) | ((with_reducible refine t_l (f := ?f) ?g0 ?_); (case g0 => walk_at "pg")) | with_reducible refine i_tn ?_ ?_ | with_reducible refine i_t ?_ ?_ ?_ | ((with_reducible refine i_l (f := ?f) ?g0 ?_ ?_ ?_); (case g0 => walk_at "pg")) | with_reducible refine w_e ?_ ?_ ?_ | ((with_reducible refine w_l (f := ?f) ?g0 ?_ ?_ ?_); (case g0 => walk_at "pg")) | with_reducible refine p_e ?_ ?_ | ((with_reducible refine p_l (f := ?f) ?g0 ?_ ?_); (case g0 => walk_at "pg")) | with_reducible refine c_lt ?_ | with_reducible refine c_le ?_ | with_reducible refine c_gt ?_ | with_reducible refine c_ge ?_ | with_reducible refine c_eq ?_ | with_reducible refine c_ne ?_ | with_reducible refine c_is ?_ | with_reducible refine c_isn ?_ | ((with_reducible refine t_bl (fun hb => ?_) (fun hb => ?_)) <;> ((try (cases hb; done)); (try simp only [decide_eq_true_eq, decide_eq_false_iff_not, Bool.not_eq_true', Bool.not_eq_false'] at hb))) | ((with_reducible refine t_and (fun hb => ?_) (fun hb => ?_)) <;> ((try (cases hb; done)); (try simp only [decide_eq_true_eq, decide_eq_false_iff_not, Bool.not_eq_true', Bool.not_eq_false'] at hb))) | with_reducible refine t_nb ?_ | with_reducible refine t_neg ?_ | with_reducible refine on_if ?_ | with_reducible refine g_r1 ?_ ?_ ?_ | with_reducible refine g_r2 ?_ ?_ ?_ ?_ ?_ | with_reducible refine g_t ?_ | ((with_reducible refine g_l (f := ?f) ?g0 ?_); (case g0 => walk_at "pg")) | with_reducible refine o_val ?_ ?_ | ((with_reducible refine lc_end ?g0 ?_); (case g0 => first | exact rfl | skip)) | with_reducible refine o_exc ?_ ?_ ?_ | with_reducible refine o_new ?_ ?_ ?_ | with_reducible refine isi_i_int ?_ | with_reducible refine isi_i_bool ?_ | with_reducible refine isi_i_tup ?_ | with_reducible refine isi_i_tl ?_ | with_reducible refine isi_b_int ?_ | with_reducible refine isi_b_bool ?_ | with_reducible refine isi_b_tup ?_ | with_reducible refine isi_b_tl ?_ | with_reducible refine isi_s_int ?_ | with_reducible refine isi_s_bool ?_ | with_reducible refine isi_s_tup ?_ | with_reducible refine isi_s_tl ?_ | with_reducible refine isi_n_int ?_ | with_reducible refine isi_n_bool ?_ | with_reducible refine isi_n_tup ?_ | with_reducible refine isi_n_tl ?_ | with_reducible refine isi_t_int ?_ | with_reducible refine isi_t_bool ?_ | with_reducible refine isi_t_tup ?_ | with_reducible refine isi_t_tl ?_ | with_reducible refine isi_u_int ?_ | with_reducible refine isi_u_bool ?_ | with_reducible refine isi_u_tup ?_ | with_reducible refine isi_u_tl ?_ | ((with_reducible refine isi_l_int (xs := ?xs) ?g0 ?_); (case g0 => walk_at "pg")) | ((with_reducible refine isi_l_bool (xs := ?xs) ?g0 ?_); (case g0 => walk_at "pg")) | ((with_reducible refine isi_l_tup (xs := ?xs) ?g0 ?_); (case g0 => walk_at "pg")) | ((with_reducible refine isi_l_tl (xs := ?xs) ?g0 ?_); (case g0 => walk_at "pg")) | ((with_reducible refine isi_ty0 (a := ?a) ?g0 ?g1 ?_); (case g0 => assumption); (case g1 => decide)) | with_reducible refine n_tg ?_ | ((with_reducible refine n_lg (xs := ?xs) ?g0 ?_); (case g0 => walk_at "pg")) | ((with_reducible refine l_lg (xs := ?xs) ?g0 ?_); (case g0 => walk_at "pg")) | ((with_reducible refine i_tg (d := ?d) ?g0 ?_); (case g0 => exact rfl)) | ((with_reducible refine i_lg (xs := ?xs) (d := ?d) ?g0 ?g1 ?_); (case g0 => walk_at "pg"); (case g1 => exact rfl)) | ((with_reducible refine g_lg (xs := ?xs) ?g0 ?_); (case g0 => walk_at "pg")) | ((with_reducible refine m_tg ?g0 ?_); (case g0 => exact Nat.le_of_ble_eq_true rfl)) | ((with_reducible refine m_lg ?g0 ?_); (case g0 => exact Nat.le_of_ble_eq_true rfl)) | ((with_reducible refine n_q (f := ?f) ?g0 ?_); (case g0 => walk_at "pq")) | ((with_reducible refine l_q (f := ?f) ?g0 ?_); (case g0 => walk_at "pq")) | ((with_reducible refine t_q (f := ?f) ?g0 ?_); (case g0 => walk_at "pq")) | ((with_reducible refine i_q (f := ?f) ?g0 ?_ ?_ ?_); (case g0 => walk_at "pq")) | ((with_reducible refine g_q (f := ?f) ?g0 ?_); (case g0 => walk_at "pq")) | ((with_reducible refine isi_q_tl (f := ?f) ?g0 ?_); (case g0 => walk_at "pq")) | ((with_reducible refine st_and ?g0 ?_); (case g0 => walk_at "pst")) | fail)

local macro_rules | `(tactic| walk_at "pd1") => `(tactic| first | with_reducible refine u_w_i ?_ | with_reducible refine u_w_b ?_ | with_reducible refine u_w_s ?_ | with_reducible refine u_w_n ?_ | with_reducible refine u_w_t ?_ | with_reducible refine u_w_u ?_ | ((with_reducible refine u_w_l (xs := ?xs) ?g0 ?_); (case g0 => walk_at "pg")) | fail)
local macro_rules | `(tactic| walk_at "pd1") => `(tactic| first | with_reducible refine u_trim_t ?_ ?_ | ((with_reducible refine u_trim_l (l := ?l) ?g0 ?_ ?_); (case g0 => walk_at "pg")) | fail)
local macro_rules | `(tactic| walk_at "pd1") => `(tactic| first | with_reducible refine u_plus ?_ ?_ ?_ | fail)
local macro_rules | `(tactic| walk_at "pd1") => `(tactic| first | with_reducible refine u_scaled ?_ ?_ ?_ ?_ | fail)
local macro_rules | `(tactic| walk_at "pd1") => `(tactic| first | with_reducible refine u_multiple ?_ ?_ | fail)
local macro_rules | `(tactic| walk_at "pd1") => `(tactic| first | with_reducible refine u_variables ?_ ?_ ?_ | fail)

local macro_rules | `(tactic| walk_at "pd1") => `(tactic| first | with_reducible refine u_put_variable ?_ ?_ ?_ ?_ ?_ ?_ | fail)
local macro_rules | `(tactic| walk_at "pd1") => `(tactic| first | with_reducible refine u_lw_i ?_ | fail)
local macro_rules | `(tactic| walk_at "pd1") => `(tactic| first | ((with_reducible refine u_law_pick (l := ?l) ?g0 ?_ ?_ ?_ ?_); (case g0 => walk_at "pg")) | fail)
local macro_rules | `(tactic| walk_at "pd1") => `(tactic| first | ((with_reducible refine u_law_number (l := ?l) ?g0 ?_ ?_ ?_); (case g0 => walk_at "pg")) | fail)
local macro_rules | `(tactic| walk_at "pd1") => `(tactic| first | ((with_reducible refine u_law_trim (l := ?l) ?g0 ?_ ?_ ?_); (case g0 => walk_at "pg")) | fail)

local macro_rules | `(tactic| walk_at "pd1") => `(tactic| first | with_reducible refine u_plus ?_ ?_ ?_ | fail)
local macro_rules | `(tactic| walk_at "pd1") => `(tactic| first | with_reducible refine u_minus ?_ ?_ ?_ ?_ | fail)
local macro_rules | `(tactic| walk_at "pd1") => `(tactic| first | with_reducible refine u_ls_tt ?_ ?_ ?_ ?_ ?_ ?_ | fail)
local macro_rules | `(tactic| walk_at "pd1") => `(tactic| first | with_reducible refine u_lt_tt ?_ ?_ ?_ | ((with_reducible refine u_lt_q (m := ?m) ?g0 ?_ ?_ ?_); (case g0 => walk_at "pg")) | fail)
local macro_rules | `(tactic| walk_at "pd1") => `(tactic| first | with_reducible refine u_join3 ?_ ?_ ?_ ?_ | with_reducible refine u_join1 ?_ ?_ | with_reducible refine u_join0 ?_ | fail)
local macro_rules | `(tactic| walk_at "pd1") => `(tactic| first | with_reducible refine u_constant ?_ ?_ | fail)

local macro_rules | `(tactic| walk_at "pd1") => `(tactic| first | with_reducible refine u_lfa_t ?_ ?_ ?_ ?_ ?_ ?_ | ((with_reducible refine u_lfa_l (v := ?v) ?g0 ?_ ?_ ?_ ?_ ?_ ?_); (case g0 => walk_at "pg")) | fail)
local macro_rules | `(tactic| walk_at "pd1") => `(tactic| first | with_reducible refine u_law_number_told ?_ ?_ | fail)
local macro_rules | `(tactic| walk_at "pd1") => `(tactic| first | with_reducible refine u_law_put ?_ ?_ ?_ ?_ ?_ ?_ ?_ | fail)
local macro_rules | `(tactic| walk_at "pd1") => `(tactic| first | with_reducible refine u_law_moved ?_ ?_ ?_ ?_ ?_ ?_ | fail)
local macro_rules | `(tactic| walk_at "pd1") => `(tactic| first | with_reducible refine u_law_order ?_ ?_ ?_ ?_ ?_ | fail)
local macro_rules | `(tactic| walk_at "pd1") => `(tactic| first | with_reducible refine u_same_order ?_ ?_ ?_ ?_ ?_ | fail)
local macro_rules | `(tactic| walk_at "pd1") => `(tactic| first | with_reducible refine u_moved ?_ ?_ ?_ ?_ ?_ ?_ | fail)

local macro_rules | `(tactic| walk_at "pd1") => `(tactic| first | with_reducible refine c_eqb ?_ | ((with_reducible refine r_efld (er := ?er) (d := ?d) ?g0 ?g1 ?_); (case g0 => exact rfl); (case g1 => exact rfl)) | ((with_reducible refine r_eisi (er := ?er) ?g0 ?_); (case g0 => exact rfl)) | with_reducible refine x_ends ?_ | fail)

local macro_rules | `(tactic| walk_at "tl") => `(tactic| first | omega | (with_reducible refine Nat.le_trans (trim_le _) ?_; walk_at "tl") | (with_reducible refine addL_le ?_ ?_ <;> walk_at "tl") | (rw [mulL_len]; walk_at "tl") | (rw [List.length_set]; walk_at "tl") | fail)
local macro_rules | `(tactic| walk_at "tn") => `(tactic| first | (with_reducible assumption) | (with_reducible refine trim_ne ?_; walk_at "tn") | (with_reducible refine add_ne ?_; walk_at "tn") | (with_reducible refine mul_ne ?_; walk_at "tn") | (with_reducible exact norm_zero.1) | fail)
local macro_rules | `(tactic| walk_at "bd") => `(tactic| first | (with_reducible assumption) | (with_reducible exact Bd.mono (by assumption) (by decide)) | (with_reducible exact Bz.up (by assumption) (by decide)) | (with_reducible exact Bz.sm (by decide) (by decide)) | fail)
local macro_rules | `(tactic| walk_at "sg") => `(tactic| first | (with_reducible assumption) | (walk_at "bd") | (walk_at "tn"; done) | (walk_at "tl"; done) | fail)

/-! ### _law_short_refused -/
def missN (f : List Int) (m : Int) : List Nat := (varsN f).filter fun x => decide (m ≤ (x : Int))
theorem miss_nil {f : List Int} {m : Int} (h : missN f m = []) : ∀ x ∈ varsN f, (x : Int) < m := fun x hx => by
  have := List.filter_eq_nil_iff.mp h x hx
  simp at this
  exact this
theorem miss_cons {f : List Int} {m : Int} {x : Nat} {r : List Nat} (h : missN f m = x :: r) : ∃ pre post, varsN f = pre ++ x :: post ∧ (∀ y ∈ pre, (y : Int) < m) ∧ m ≤ x := by
  obtain ⟨pre, post, h1, h2, h3, _⟩ := List.filter_eq_cons_iff.mp h
  refine ⟨pre, post, h1, fun y hy => ?_, by simpa using h3⟩
  have := h2 y hy
  simp at this
  exact this
theorem evL_take {f v : List Int} {m k : Nat} (lf : f.length ≤ 9) : evL f (v.take m) = evL f (v.take m ++ List.replicate k 0) := by
  rw [evL_up (n := 8) lf, evL_up (v := v.take m ++ List.replicate k 0) (n := 8) lf]
  refine evN_congr rfl fun i _ => ?_
  rw [cf_app]
  split
  · rfl
  · rename_i h
    rw [cf_out (l := v.take m) (by omega), cf_rep]
    split <;> rfl
theorem u_fa_v {S : Store} {Q : DQ} {E : EQ} {f v : List Int} {n : Nat} (hq : S[n]? = some (lstI v)) (hne : f ≠ []) (hf : f.length ≤ 16000000) (hv : v.length ≤ 16000000) (bf : Bd 2000 f) (bv : Bd 2000 v) (hl : ∀ x ∈ varsN f, x < v.length) (h : Q (.int (evL f v)) S) : FnS p_form_at [tupI f, .ref n] S Q E :=
  ⟨_, ⟨f, _, v, rfl, .inr ⟨n, rfl, hq⟩, hne, hf, hv, bf, bv, .inl ⟨hl, rfl⟩⟩, h⟩
theorem u_fa_e {S : Store} {Q : DQ} {E : EQ} {f v : List Int} {n x : Nat} {pre post : List Nat} (hq : S[n]? = some (lstI v)) (hne : f ≠ []) (hf : f.length ≤ 16000000) (hv : v.length ≤ 16000000) (bf : Bd 2000 f) (bv : Bd 2000 v) (h1 : varsN f = pre ++ x :: post) (h2 : ∀ y ∈ pre, y < v.length) (h3 : v.length ≤ x) (h : E (ePlace 3 x) S) : FnS p_form_at [tupI f, .ref n] S Q E :=
  ⟨_, ⟨f, _, v, rfl, .inr ⟨n, rfl, hq⟩, hne, hf, hv, bf, bv, .inr ⟨pre, x, post, h1, h2, h3, rfl⟩⟩, h⟩
def p__law_short_refused : List D → Store → Out → Prop := fun ds S o => ∃ (f v : List Int) (m : Int) (n : Nat), ds = [tupI f, .ref n, .int m] ∧ S[n]? = some (lstI v) ∧ Fo 200 f ∧ Va 200 v ∧ 0 ≤ m ∧ m ≤ 7 ∧ o = .val (.bl true)
theorem vc__law_short_refused (M : Md) (h14 : M.sp 14 = FnS p_form_at) (h21 : M.sp 21 = FnS p__law_form_at) (h28 : M.sp 28 = FnS p__law_number_told) (hk : M.kn 3 ["place"] = true) (h33 : M.sub 3 3 = true) : ∀ ds S o, p__law_short_refused ds S o → wpSs (M.C (excO S o)) b__law_short_refused (retO S o) (startD n__law_short_refused ds) S := by
  rintro ds S o ⟨f, v, m, n, rfl, hn, ff, vv, hm0, hm1, rfl⟩
  have lf := ff.ln
  have lv := vv.ln
  have nf := ff.nm.1
  have hp := len_pos nf
  have bf := ff.bd
  have bv := vv.bd
  simp only [b__law_short_refused, startD, List.map, List.length, List.replicate, Nat.reduceAdd, Nat.reduceSub, List.cons_append, List.nil_append]
  repeat' (walk_at "pd1")
  all_goals first
    | with_reducible exact Ext.refl _
    | with_reducible rfl
    | (walk_at "sg"; done)
    | skip
  refine lc_ix (fun k => if (!decide (cf f (k + 1) = 0) && decide (m ≤ (k : Int))) = true then some (.int ((k : Nat) : Int)) else none) still_none (by rw [rngL_len]; exact big _ (by omega)) (fun k d acc hd => ?_) ?_
  · obtain ⟨hk, rfl⟩ := rngL_get hd
    unfold lcStep
    repeat' (walk_at "pd1")
    all_goals try (walk_at "ps")
    all_goals rename_i hb1 hb2
    all_goals rw [show ((0 : Int) + k + 1).toNat = k + 1 by omega] at hb1
    · rw [if_pos (by simp [hb1]; omega)]
      congr 2
      omega
    · rw [if_neg (by simp; omega)]
    · rw [if_neg (by simp [hb1])]
  · rw [filterMap_ifs (g := fun k => ((k : Nat) : Int)), rngL_len, show ((f.length : Int) - 1).toNat = f.length - 1 by omega]
    have em : (List.range (f.length - 1)).filter (fun k => !decide (cf f (k + 1) = 0) && decide (m ≤ (k : Int))) = missN f m := by
      unfold missN varsN
      rw [List.filter_filter]
      congr 1
      funext x
      rw [Bool.and_comm]
    rw [em]
    have lm : (missN f m).length ≤ 8 := Nat.le_trans (List.length_filter_le _ _) (Nat.le_trans (List.length_filter_le _ _) (by rw [List.length_range]; omega))
    generalize hM : missN f m = ms at lm ⊢
    have hs : ((S ++ [SO.lst ((ms.map fun k => ((k : Nat) : Int)).map D.int)]) : Store) = S ++ [lstI (ms.map fun k => ((k : Nat) : Int))] := rfl
    rw [hs]
    have hgl : ((S ++ [lstI (ms.map fun k => ((k : Nat) : Int))] ++ [lstI (List.take m.toNat v)] : Store))[(S ++ [lstI (ms.map fun k => ((k : Nat) : Int))]).length]? = some (lstI (List.take m.toNat v)) := get_last _ _
    have btk : Bd 2000 (List.take m.toNat v) := (bv.take _).mono (by decide)
    have ltk : (List.take m.toNat v).length = m.toNat := by rw [List.length_take]; omega
    repeat' (walk_at "pd1")
    · exact hm0
    cases ms with
    | nil =>
      have hx := miss_nil hM
      refine u_fa_v hgl nf (by omega) (by omega) (bf.mono (by decide)) btk (fun x hxx => by have := hx x hxx; omega) ?_
      repeat' (walk_at "pd1")
      all_goals first
        | with_reducible rfl
        | (walk_at "sg"; done)
        | (walk_at "pe"; done)
        | exact Bd.mono (k := 200) ((bv.take _).app (Bd.rep Bz.zero)) (by decide)
        | (rw [List.length_append, List.length_replicate, ltk]; show f.length ≤ _ + 8 + 1; omega)
        | (rw [List.length_replicate, ltk]; show m.toNat + 8 ≤ _; omega)
        | exact evL_take (by omega)
        | (rename_i hb; exact absurd (rfl : cf [0, evL f (List.take m.toNat v)] 0 = 0) hb)
        | (simp; done)
        | skip
    | cons x r =>
      obtain ⟨pre, post, h1, h2, h3⟩ := miss_cons hM
      refine u_fa_e hgl nf (by omega) (by omega) (bf.mono (by decide)) btk h1 (fun y hy => by have := h2 y hy; omega) (by omega) ?_
      refine ⟨hk, (show 6 < 7 by decide), fun _ => ?_, fun z => ?_⟩
      · repeat' (walk_at "pd1")
        all_goals first
          | with_reducible rfl
          | (walk_at "sg"; done)
          | (walk_at "pe"; done)
          | (rename_i hb; exact absurd (rfl : cf [1, (x : Int)] 0 = 1) hb)
          | (rename_i hb; exact absurd (Int.natCast_pos.mpr (Nat.succ_pos _)) hb)
          | exact (rfl : cf [1, (x : Int)] 1 = (x : Int))
          | (simp; done)
          | (rename_i hb _; exact absurd (Int.natCast_pos.mpr (Nat.succ_pos _)) hb)
          | skip
      · have z : M.sub 3 3 = false := z
        rw [h33] at z
        cases z

end PD

set_option Elab.async false
set_option linter.all false
set_option maxRecDepth 100000
set_option maxHeartbeats 1000000
namespace PD
open PySem
local macro_rules | `(tactic| walk_at "pg") => `(tactic| first | assumption | exact get_last' _ _ | (refine get_app ?_; walk_at "pg") | fail)
local macro_rules | `(tactic| walk_at "pq") => `(tactic| first | assumption | (refine isSq.app ?_ _; walk_at "pq") | fail)
local macro_rules | `(tactic| walk_at "pst") => `(tactic| first | exact still_none | exact still_tup | exact still_kl | exact still_ref (by walk_at "pg") | exact still_q (by walk_at "pq") | (refine still_seq ?_; assumption) | fail)
local macro_rules | `(tactic| walk_at "pe") => `(tactic| first | exact Ext.refl _ | assumption | (refine Ext.trans ?_ (Ext.app _ _); walk_at "pe") | fail)
local macro_rules | `(tactic| walk_at "ps2") => `(tactic| first | walk_at "pe" | with_reducible rfl | ((try simp only [decide_eq_true_eq, decide_eq_false_iff_not, Bool.not_eq_true', Bool.not_eq_false', Bool.not_true, Bool.not_false, List.length_append, List.length_replicate, List.length_cons, List.length_nil, List.length_set, List.length_map, List.length_take, List.length_drop, List.length_range] at *); first | omega | (exfalso; omega)) | fail)
local macro_rules | `(tactic| walk_at "ps") => `(tactic| first | walk_at "pe" | rfl | ((try simp only [decide_eq_true_eq, decide_eq_false_iff_not, Bool.not_eq_true', Bool.not_eq_false', Bool.not_true, Bool.not_false, List.length_append, List.length_replicate, List.length_cons, List.length_nil, List.length_set, List.length_map, List.length_take, List.length_drop, List.length_range] at *); first | omega | (exfalso; omega)) | fail)
local macro_rules | `(tactic| walk_at "pd1") => `(tactic| first | ((with_reducible refine r_nil ?_); (try dsimp only)) | ((with_reducible refine r_ret ?_); (try dsimp only)) | ((with_reducible refine r_retN ?_); (try dsimp only)) | ((with_reducible refine r_brk ?_); (try dsimp only)) | ((with_reducible refine r_cnt ?_); (try dsimp only)) | ((with_reducible refine r_rse ?_); (try dsimp only)) | ((with_reducible refine r_pas ?_); (try dsimp only)) | ((with_reducible refine r_ex ?_); (try dsimp only)) | with_reducible refine r_seq ?_ | with_reducible refine r_asg ?_ | with_reducible refine r_ifs ?_ | with_reducible refine r_tr ?_ | with_reducible refine r_fr ?_ | ((with_reducible refine r_aug (j := ?j) ?g0 ?_); (case g0 => exact rfl)) | ((with_reducible refine r_var (d := ?d) ?g0 ?_); (case g0 => exact rfl)) | ((with_reducible refine r_call (g := ?g) ?g0 ?_); (case g0 => first | assumption | exact rfl)) | with_reducible refine r_cst ?_ | with_reducible refine r_cmp ?_ | with_reducible refine r_bin ?_ | with_reducible refine r_bi ?_ | with_reducible refine r_ix ?_ | with_reducible refine r_and ?_ | with_reducible refine r_or ?_ | with_reducible refine r_not ?_ | with_reducible refine r_ife ?_ | with_reducible refine r_neg ?_ | with_reducible refine r_sl ?_ | with_reducible refine r_tup ?_ | with_reducible refine r_lst ?_ | with_reducible refine r_lc ?_ | with_reducible refine r_chn ?_ | with_reducible refine r_bm ?_ | ((with_reducible refine r_oN ?_); (try dsimp only)) | ((with_reducible refine r_oS ?_); (try dsimp only)) | with_reducible refine r_esC ?_ | with_reducible refine r_esN ?_ | with_reducible refine r_sub ?_ | with_reducible refine r_tsC ?_ | with_reducible refine r_tsN ?_ | with_reducible refine r_iSeq ?_ | with_reducible refine r_iRng ?_ | with_reducible refine r_iEnum ?_ | with_reducible refine r_nm ?_ | ((with_reducible refine r_tp (xs := ?xs) ?g0 ?g1 ?_); (case g0 => exact rfl); (case g1 => exact rfl)) | with_reducible refine m_t0 ?_ | with_reducible refine m_t1 ?_ | with_reducible refine m_t2 ?_ | with_reducible refine m_l0 ?_ | with_reducible refine m_l1 ?_ | with_reducible refine m_l3 ?_ | with_reducible refine r_addI ?_ | with_reducible refine r_subI ?_ | with_reducible refine r_mulI ?_ ?_ | with_reducible refine r_modI ?_ ?_ | with_reducible refine a_tt ?_ ?_ | with_reducible refine r_fdivI ?_ ?_ ?_ | with_reducible refine x_t1 ?_ ?_ ?_ | with_reducible refine r_powI ?_ ?_ ?_ ?_ | ((with_reducible refine a_ll (f := ?f) (g := ?g) ?g0 ?g1 ?_ ?_); (case g0 => walk_at "pg"); (case g1 => walk_at "pg")) | ((with_reducible refine x_l1 (i := ?i) ?g0 ?_ ?_ ?_); (case g0 => walk_at "pg")) | (with_reducible refine r_on (show partD none = some none from rfl) ?_) | (with_reducible refine r_on (show partD (some (D.int _)) = some (some _) from rfl) ?_) | with_reducible refine s_tt ?_ ?_ | with_reducible refine s_tf ?_ ?_ | ((with_reducible refine s_lt (f := ?f) ?g0 ?_ ?_); (case g0 => walk_at "pg")) | ((with_reducible refine s_lf (f := ?f) ?g0 ?_ ?_); (case g0 => walk_at "pg")) | with_reducible refine n_t ?_ | with_reducible refine l_t ?_ | with_reducible refine t_t ?_ | with_reducible refine b_abs ?_ | with_reducible refine b_int ?_ | with_reducible refine b_intb ?_ | with_reducible refine b_max ?_ | with_reducible refine b_min ?_ | ((with_reducible refine n_l (f := ?f) ?g0 ?_); (case g0 => walk_at "pg")) | ((with_reducible refine l_l (f := ?f) ?g0 ?_); (case g0 => walk_at "pg")) | ((with_reducible refine t_l (f := ?f) ?g0 ?_); (case g0 => walk_at "pg")) | with_reducible refine i_tn ?_ ?_ | with_reducible refine i_t ?_ ?_ ?_ | ((with_reducible refine i_l (f := ?f) ?g0 ?_ ?_ ?_); (case g0 => walk_at "pg")) | with_reducible refine w_e ?_ ?_ ?_ | ((with_reducible refine w_l (f := ?f) ?g0 ?_ ?_ ?_); (case g0 => walk_at "pg")) | with_reducible refine p_e ?_ ?_ | ((with_reducible refine p_l (f := ?f) ?g0 ?_ ?_); (case g0 => walk_at "pg")) | with_reducible refine c_lt ?_ | with_reducible refine c_le ?_ | with_reducible refine c_gt ?_ | with_reducible refine c_ge ?_ | with_reducible refine c_eq ?_ | with_reducible refine c_ne ?_ | with_reducible refine c_is ?_ | with_reducible refine c_isn ?_ | ((with_reducible refine t_bl (fun hb => ?_) (fun hb => ?_)) <;> ((try (cases hb; done)); (try simp only [decide_eq_true_eq, decide_eq_false_iff_not, Bool.not_eq_true', Bool.not_eq_false'] at hb))) | ((with_reducible refine t_and (fun hb => ?_) (fun hb => ?_)) <;> ((try (cases hb; done)); (try simp only [decide_eq_true_eq, decide_eq_false_iff_not, Bool.not_eq_true', Bool.not_eq_false'] at hb))) | with_reducible refine t_nb ?_ | with_reducible refine t_neg ?_ | with_reducible refine on_if ?_ | with_reducible refine g_r1 ?_ ?_ ?_ | with_reducible refine g_r2 ?_ ?_ ?_ ?_ ?_ | with_reducible refine g_t ?_ | ((with_reducible refine g_l (f := ?f) ?g0 ?_); (case g0 => walk_at "pg")) | with_reducible refine o_val ?_ ?_ | ((with_reducible refine lc_end ?g0 ?_); (case g0 => first | exact rfl | skip)) | with_reducible refine o_exc ?_ ?_ ?_ | with_reducible refine o_new ?_ ?_ ?_ | with_reducible refine isi_i_int ?_ | with_reducible refine isi_i_bool ?_ | with_reducible refine isi_i_tup ?_ | with_reducible refine isi_i_tl ?_ | with_reducible refine isi_b_int ?_ | with_reducible refine isi_b_bool ?_ | with_reducible refine isi_b_tup ?_ | with_reducible refine isi_b_tl ?_ | with_reducible refine isi_s_int ?_ | with_reducible refine isi_s_bool ?_ | with_reducible refine isi_s_tup ?_ | with_reducible refine isi_s_tl ?_ | with_reducible refine isi_n_int ?_ | with_reducible refine isi_n_bool ?_ | with_reducible refine isi_n_tup ?_ | with_reducible refine isi_n_tl ?_ | with_reducible refine isi_t_int ?_ | with_reducible refine isi_t_bool ?_ | with_reducible refine isi_t_tup ?_ | with_reducible refine isi_t_tl ?_ | with_reducible refine isi_u_int ?_ | with_reducible refine isi_u_bool ?_ | with_reducible refine isi_u_tup ?_ | with_reducible refine isi_u_tl ?_ | ((with_reducible refine isi_l_int (xs := ?xs) ?g0 ?_); (case g0 => walk_at "pg")) | ((with_reducible refine isi_l_bool (xs := ?xs) ?g0 ?_); (case g0 => walk_at "pg")) | ((with_reducible refine isi_l_tup (xs := ?xs) ?g0 ?_); (case g0 => walk_at "pg")) | ((with_reducible refine isi_l_tl (xs := ?xs) ?g0 ?_); (case g0 => walk_at "pg")) | ((with_reducible refine isi_ty0 (a := ?a) ?g0 ?g1 ?_); (case g0 => assumption); (case g1 => decide)) | with_reducible refine n_tg ?_ | ((with_reducible refine n_lg (xs := ?xs) ?g0 ?_); (case g0 => walk_at "pg")) | ((with_reducible refine l_lg (xs := ?xs) ?g0 ?_); (case g0 => walk_at "pg")) | ((with_reducible refine i_tg (d := ?d) ?g0 ?_); (case g0 => exact rfl)) | ((with_reducible refine i_lg (xs := ?xs) (d := ?d) ?g0 ?g1 ?_); (case g0 => walk_at "pg"); (case g1 => exact rfl)) | ((with_reducible refine g_lg (xs := ?xs) ?g0 ?_); (case g0 => walk_at "pg")) | ((with_reducible refine m_tg ?g0 ?_); (case g0 => exact Nat.le_of_ble_eq_true rfl)) | ((with_reducible refine m_lg ?g0 ?_); (case g0 => exact Nat.le_of_ble_eq_true rfl)) | ((with_reducible refine n_q (f := ?f) ?g0 ?_); (case g0 => walk_at "pq")) | ((with_reducible refine l_q (f := ?f) ?g0 ?_); (case g0 => walk_at "pq")) | ((with_reducible refine t_q (f := ?f) ?g0 ?_); (case g0 => walk_at "pq")) | ((with_reducible refine i_q (f := ?f) ?g0 ?_ ?_ ?_); (case g0 => walk_at "pq")) | ((with_reducible refine g_q (f := ?f) ?g0 ?_); (case g0 => walk_at "pq")) | ((with_reducible refine isi_q_tl (f := ?f) ?g0 ?_); (case g0 => walk_at "pq")) | ((with_reducible refine st_and ?g0 ?_); (case g0 => walk_at "pst")) | fail)

local macro_rules | `(tactic| walk_at "pd1") => `(tactic| first | with_reducible refine u_w_i ?_ | with_reducible refine u_w_b ?_ | with_reducible refine u_w_s ?_ | with_reducible refine u_w_n ?_ | with_reducible refine u_w_t ?_ | with_reducible refine u_w_u ?_ | ((with_reducible refine u_w_l (xs := ?xs) ?g0 ?_); (case g0 => walk_at "pg")) | fail)
local macro_rules | `(tactic| walk_at "pd1") => `(tactic| first | with_reducible refine u_trim_t ?_ ?_ | ((with_reducible refine u_trim_l (l := ?l) ?g0 ?_ ?_); (case g0 => walk_at "pg")) | fail)
local macro_rules | `(tactic| walk_at "pd1") => `(tactic| first | with_reducible refine u_plus ?_ ?_ ?_ | fail)
local macro_rules | `(tactic| walk_at "pd1") => `(tactic| first | with_reducible refine u_scaled ?_ ?_ ?_ ?_ | fail)
local macro_rules | `(tactic| walk_at "pd1") => `(tactic| first | with_reducible refine u_multiple ?_ ?_ | fail)
local macro_rules | `(tactic| walk_at "pd1") => `(tactic| first | with_reducible refine u_variables ?_ ?_ ?_ | fail)

local macro_rules | `(tactic| walk_at "pd1") => `(tactic| first | with_reducible refine u_put_variable ?_ ?_ ?_ ?_ ?_ ?_ | fail)
local macro_rules | `(tactic| walk_at "pd1") => `(tactic| first | with_reducible refine u_lw_i ?_ | fail)
local macro_rules | `(tactic| walk_at "pd1") => `(tactic| first | ((with_reducible refine u_law_pick (l := ?l) ?g0 ?_ ?_ ?_ ?_); (case g0 => walk_at "pg")) | fail)
local macro_rules | `(tactic| walk_at "pd1") => `(tactic| first | ((with_reducible refine u_law_number (l := ?l) ?g0 ?_ ?_ ?_); (case g0 => walk_at "pg")) | fail)
local macro_rules | `(tactic| walk_at "pd1") => `(tactic| first | ((with_reducible refine u_law_trim (l := ?l) ?g0 ?_ ?_ ?_); (case g0 => walk_at "pg")) | fail)

local macro_rules | `(tactic| walk_at "pd1") => `(tactic| first | with_reducible refine u_plus ?_ ?_ ?_ | fail)
local macro_rules | `(tactic| walk_at "pd1") => `(tactic| first | with_reducible refine u_minus ?_ ?_ ?_ ?_ | fail)
local macro_rules | `(tactic| walk_at "pd1") => `(tactic| first | with_reducible refine u_ls_tt ?_ ?_ ?_ ?_ ?_ ?_ | fail)
local macro_rules | `(tactic| walk_at "pd1") => `(tactic| first | with_reducible refine u_lt_tt ?_ ?_ ?_ | ((with_reducible refine u_lt_q (m := ?m) ?g0 ?_ ?_ ?_); (case g0 => walk_at "pg")) | fail)
local macro_rules | `(tactic| walk_at "pd1") => `(tactic| first | with_reducible refine u_join3 ?_ ?_ ?_ ?_ | with_reducible refine u_join1 ?_ ?_ | with_reducible refine u_join0 ?_ | fail)
local macro_rules | `(tactic| walk_at "pd1") => `(tactic| first | with_reducible refine u_constant ?_ ?_ | fail)
local macro_rules | `(tactic| walk_at "pd1") => `(tactic| first | with_reducible refine u_fa_t ?_ ?_ ?_ ?_ ?_ ?_ ?_ | ((with_reducible refine u_fa_l (v := ?v) ?g0 ?_ ?_ ?_ ?_ ?_ ?_ ?_); (case g0 => walk_at "pg")) | fail)
local macro_rules | `(tactic| walk_at "pd1") => `(tactic| first | with_reducible refine u_lfa_t ?_ ?_ ?_ ?_ ?_ ?_ | ((with_reducible refine u_lfa_l (v := ?v) ?g0 ?_ ?_ ?_ ?_ ?_ ?_); (case g0 => walk_at "pg")) | fail)
local macro_rules | `(tactic| walk_at "pd1") => `(tactic| first | with_reducible refine u_law_number_told ?_ ?_ | fail)
local macro_rules | `(tactic| walk_at "pd1") => `(tactic| first | with_reducible refine u_law_put ?_ ?_ ?_ ?_ ?_ ?_ ?_ | fail)
local macro_rules | `(tactic| walk_at "pd1") => `(tactic| first | with_reducible refine u_law_moved ?_ ?_ ?_ ?_ ?_ ?_ | fail)
local macro_rules | `(tactic| walk_at "pd1") => `(tactic| first | with_reducible refine u_law_order ?_ ?_ ?_ ?_ ?_ | fail)
local macro_rules | `(tactic| walk_at "pd1") => `(tactic| first | with_reducible refine u_same_order ?_ ?_ ?_ ?_ ?_ | fail)
local macro_rules | `(tactic| walk_at "pd1") => `(tactic| first | with_reducible refine u_moved ?_ ?_ ?_ ?_ ?_ ?_ | fail)

local macro_rules | `(tactic| walk_at "tl") => `(tactic| first | omega | (with_reducible refine Nat.le_trans (trim_le _) ?_; walk_at "tl") | (with_reducible refine addL_le ?_ ?_ <;> walk_at "tl") | (rw [mulL_len]; walk_at "tl") | (rw [List.length_set]; walk_at "tl") | fail)
local macro_rules | `(tactic| walk_at "tn") => `(tactic| first | (with_reducible assumption) | (with_reducible refine trim_ne ?_; walk_at "tn") | (with_reducible refine add_ne ?_; walk_at "tn") | (with_reducible refine mul_ne ?_; walk_at "tn") | (with_reducible exact norm_zero.1) | fail)
local macro_rules | `(tactic| walk_at "bd") => `(tactic| first | (with_reducible assumption) | (with_reducible exact Bd.mono (by assumption) (by decide)) | (with_reducible exact Bz.up (by assumption) (by decide)) | (with_reducible exact Bz.sm (by decide) (by decide)) | fail)
local macro_rules | `(tactic| walk_at "sg") => `(tactic| first | (with_reducible assumption) | (walk_at "bd") | (walk_at "tn"; done) | (walk_at "tl"; done) | fail)

/-! ### law -/
section
variable {S : Store} {Q : DQ} {E : EQ} {f g h v l ns : List Int} {t x s b m a : Int} {n : Nat}
theorem u_law_draws (hl : ns.length ≤ 63) (h : Q (.ref S.length) (S ++ [lstI (drawsL ns)])) : FnS p__law_draws [.kl (ns.map .int)] S Q E := ⟨_, ⟨ns, rfl, hl, rfl⟩, h⟩
theorem u_law_parts (hn : S[n]? = some (lstI l)) (hd : Dig l) (ha : 0 ≤ a) (hm : 0 ≤ m) (hm2 : m ≤ 1000) (h : Q (.ref S.length) (S ++ [lstI (partsL l a.toNat m.toNat)])) : FnS p__law_parts [.ref n, .int a, .int m] S Q E := ⟨_, ⟨n, l, a, m, rfl, hn, hd, ha, hm, hm2, rfl⟩, h⟩
theorem u_made (hn : S[n]? = some (lstI l)) (h1 : l ≠ []) (h2 : l.length ≤ 8) (h3 : 0 ≤ x) (h4 : x ≤ 6) (h : Q (.bl true) S) : FnS p__law_made_hold [.ref n, .int t, .int x] S Q E := ⟨_, ⟨l, t, x, n, rfl, hn, h1, h2, h3, h4, rfl⟩, h⟩
theorem u_sums (hn : S[n]? = some (lstI v)) (h1 : Fo 200 f) (h2 : Fo 200 g) (h3 : Fo 200 h) (h4 : Va 200 v) (h5 : Bz 200 t) (q : Q (.bl true) S) : FnS p__law_sums_hold [tupI f, tupI g, tupI h, .int t, .ref n] S Q E := ⟨_, ⟨f, g, h, v, t, n, rfl, hn, h1, h2, h3, h4, h5, rfl⟩, q⟩
theorem u_reads (hn : S[n]? = some (lstI v)) (h1 : Fo 200 f) (h4 : Va 200 v) (q : Q (.bl true) S) : FnS p__law_reads_hold [tupI f, .ref n] S Q E := ⟨_, ⟨f, v, n, rfl, hn, h1, h4, rfl⟩, q⟩
theorem u_puts (hn : S[n]? = some (lstI v)) (h1 : Fo 200 f) (h2 : Fo 200 g) (h3 : Fo 200 h) (h4 : Va 200 v) (h5 : 0 ≤ x) (h6 : x ≤ 6) (q : Q (.bl true) S) : FnS p__law_puts_hold [tupI f, tupI g, tupI h, .int x, .ref n] S Q E := ⟨_, ⟨f, g, h, v, x, n, rfl, hn, h1, h2, h3, h4, h5, h6, rfl⟩, q⟩
theorem u_moves (hn : S[n]? = some (lstI v)) (h1 : Fo 200 f) (h4 : Va 200 v) (h5 : 0 ≤ s) (h6 : s ≤ 7) (h7 : 0 ≤ b) (h8 : b ≤ 5) (q : Q (.bl true) S) : FnS p__law_moves_hold [tupI f, .int s, .int b, .ref n] S Q E := ⟨_, ⟨f, v, s, b, n, rfl, hn, h1, h4, h5, h6, h7, h8, rfl⟩, q⟩
theorem u_orders (h1 : Fo 200 f) (h2 : Fo 200 g) (q : Q (.bl true) S) : FnS p__law_orders_hold [tupI f, tupI g] S Q E := ⟨_, ⟨f, g, rfl, h1, h2, rfl⟩, q⟩
theorem u_fref (q : Q (.bl true) S) : FnS p__law_forms_refused [] S Q E := ⟨_, ⟨rfl, rfl⟩, q⟩
theorem u_nref (q : Q (.bl true) S) : FnS p__law_numbers_refused [] S Q E := ⟨_, ⟨rfl, rfl⟩, q⟩
theorem u_sref (hn : S[n]? = some (lstI v)) (h1 : Fo 200 f) (h4 : Va 200 v) (h5 : 0 ≤ m) (h6 : m ≤ 7) (q : Q (.bl true) S) : FnS p__law_short_refused [tupI f, .ref n, .int m] S Q E := ⟨_, ⟨f, v, m, n, rfl, hn, h1, h4, h5, h6, rfl⟩, q⟩
end
theorem numF_bz (l : List Int) (a : Nat) : Bz 200 (numF l a) := Bz.up (k := 110) ⟨numF_bd l a⟩ (by decide)
theorem parts_bd (l : List Int) (a m : Nat) : Bd 200 (partsL l a m) := ⟨fun i => by
  unfold partsL
  rw [cf_range]
  split
  · exact numF_bz _ _
  · exact Bz.zero⟩
theorem parts_len (l : List Int) (a m : Nat) : (partsL l a m).length = m + 1 := by unfold partsL; rw [List.length_map, List.length_range]
theorem parts_ne (l : List Int) (a m : Nat) : partsL l a m ≠ [] := ne_of_len (by rw [parts_len]; omega)
theorem parts_fo (l : List Int) (a : Nat) {m : Nat} (h : m ≤ 7) : Fo 200 (trimL (partsL l a m)) := ⟨norm_trim (parts_ne _ _ _), Nat.le_trans (trim_le _) (by rw [parts_len]; omega), (parts_bd _ _ _).trim⟩
theorem len__law_sums_hold : ∀ ds S o, p__law_sums_hold ds S o → ds.length = 5 := by rintro _ S o ⟨f, g, h, v, t, n, rfl, _, _, _, _, _, _, rfl⟩; rfl
theorem ok__law_sums_hold : ∀ ds S o, p__law_sums_hold ds S o → refsLts S.length ds = true → WfS S → okO S.length o = true := by rintro _ S o ⟨f, g, h, v, t, n, rfl, _, _, _, _, _, _, rfl⟩ _ _; rfl
theorem len__law_reads_hold : ∀ ds S o, p__law_reads_hold ds S o → ds.length = 2 := by rintro _ S o ⟨f, v, n, rfl, _, _, _, rfl⟩; rfl
theorem ok__law_reads_hold : ∀ ds S o, p__law_reads_hold ds S o → refsLts S.length ds = true → WfS S → okO S.length o = true := by rintro _ S o ⟨f, v, n, rfl, _, _, _, rfl⟩ _ _; rfl
theorem len__law_puts_hold : ∀ ds S o, p__law_puts_hold ds S o → ds.length = 5 := by rintro _ S o ⟨f, g, h, v, x, n, rfl, _, _, _, _, _, _, _, rfl⟩; rfl
theorem ok__law_puts_hold : ∀ ds S o, p__law_puts_hold ds S o → refsLts S.length ds = true → WfS S → okO S.length o = true := by rintro _ S o ⟨f, g, h, v, x, n, rfl, _, _, _, _, _, _, _, rfl⟩ _ _; rfl
theorem len__law_moves_hold : ∀ ds S o, p__law_moves_hold ds S o → ds.length = 4 := by rintro _ S o ⟨f, v, s, b, n, rfl, _, _, _, _, _, _, _, rfl⟩; rfl
theorem ok__law_moves_hold : ∀ ds S o, p__law_moves_hold ds S o → refsLts S.length ds = true → WfS S → okO S.length o = true := by rintro _ S o ⟨f, v, s, b, n, rfl, _, _, _, _, _, _, _, rfl⟩ _ _; rfl
theorem len__law_orders_hold : ∀ ds S o, p__law_orders_hold ds S o → ds.length = 2 := by rintro _ S o ⟨f, g, rfl, _, _, rfl⟩; rfl
theorem ok__law_orders_hold : ∀ ds S o, p__law_orders_hold ds S o → refsLts S.length ds = true → WfS S → okO S.length o = true := by rintro _ S o ⟨f, g, rfl, _, _, rfl⟩ _ _; rfl
theorem len__law_made_hold : ∀ ds S o, p__law_made_hold ds S o → ds.length = 3 := by rintro _ S o ⟨l, t, x, n, rfl, _, _, _, _, _, rfl⟩; rfl
theorem ok__law_made_hold : ∀ ds S o, p__law_made_hold ds S o → refsLts S.length ds = true → WfS S → okO S.length o = true := by rintro _ S o ⟨l, t, x, n, rfl, _, _, _, _, _, rfl⟩ _ _; rfl
theorem len__law_forms_refused : ∀ ds S o, p__law_forms_refused ds S o → ds.length = 0 := by rintro _ S o ⟨rfl, rfl⟩; rfl
theorem ok__law_forms_refused : ∀ ds S o, p__law_forms_refused ds S o → refsLts S.length ds = true → WfS S → okO S.length o = true := by rintro _ S o ⟨rfl, rfl⟩ _ _; rfl
theorem len__law_numbers_refused : ∀ ds S o, p__law_numbers_refused ds S o → ds.length = 0 := by rintro _ S o ⟨rfl, rfl⟩; rfl
theorem ok__law_numbers_refused : ∀ ds S o, p__law_numbers_refused ds S o → refsLts S.length ds = true → WfS S → okO S.length o = true := by rintro _ S o ⟨rfl, rfl⟩ _ _; rfl
theorem len__law_short_refused : ∀ ds S o, p__law_short_refused ds S o → ds.length = 3 := by rintro _ S o ⟨f, v, m, n, rfl, _, _, _, _, _, rfl⟩; rfl
theorem ok__law_short_refused : ∀ ds S o, p__law_short_refused ds S o → refsLts S.length ds = true → WfS S → okO S.length o = true := by rintro _ S o ⟨f, v, m, n, rfl, _, _, _, _, _, rfl⟩ _ _; rfl
local macro_rules | `(tactic| walk_at "pd1") => `(tactic| first | with_reducible refine u_law_draws ?_ ?_ | ((with_reducible refine u_law_parts (l := ?l) ?g0 ?_ ?_ ?_ ?_ ?_); (case g0 => walk_at "pg")) | ((with_reducible refine u_made (l := ?l) ?g0 ?_ ?_ ?_ ?_ ?_); (case g0 => walk_at "pg")) | ((with_reducible refine u_sums (v := ?v) ?g0 ?_ ?_ ?_ ?_ ?_ ?_); (case g0 => walk_at "pg")) | ((with_reducible refine u_reads (v := ?v) ?g0 ?_ ?_ ?_); (case g0 => walk_at "pg")) | ((with_reducible refine u_puts (v := ?v) ?g0 ?_ ?_ ?_ ?_ ?_ ?_ ?_); (case g0 => walk_at "pg")) | ((with_reducible refine u_moves (v := ?v) ?g0 ?_ ?_ ?_ ?_ ?_ ?_ ?_); (case g0 => walk_at "pg")) | with_reducible refine u_orders ?_ ?_ ?_ | with_reducible refine u_fref ?_ | with_reducible refine u_nref ?_ | ((with_reducible refine u_sref (v := ?v) ?g0 ?_ ?_ ?_ ?_ ?_); (case g0 => walk_at "pg")) | fail)
theorem vc_law (M : Md) (h19 : M.sp 19 = FnS p__law_draws) (h20 : M.sp 20 = FnS p__law_pick) (h23 : M.sp 23 = FnS p__law_number) (h24 : M.sp 24 = FnS p__law_parts) (h25 : M.sp 25 = FnS p__law_trim) (h33 : M.sp 33 = FnS p__law_sums_hold) (h34 : M.sp 34 = FnS p__law_reads_hold) (h35 : M.sp 35 = FnS p__law_puts_hold) (h36 : M.sp 36 = FnS p__law_moves_hold) (h37 : M.sp 37 = FnS p__law_orders_hold) (h38 : M.sp 38 = FnS p__law_made_hold) (h39 : M.sp 39 = FnS p__law_forms_refused) (h40 : M.sp 40 = FnS p__law_numbers_refused) (h41 : M.sp 41 = FnS p__law_short_refused) : ∀ ds S o, pLaw ds S o → wpSs (M.C (excO S o)) b_law (retO S o) (startD n_law ds) S := by
  rintro ds S o ⟨ns, rfl, hl, rfl⟩
  have hd := dig_draws ns
  have r0 := pickF_rng (drawsL ns) (Int.toNat 0) 7 (by decide)
  have r1 := pickF_rng (drawsL ns) (Int.toNat 1) 7 (by decide)
  have r2 := pickF_rng (drawsL ns) (Int.toNat 2) 7 (by decide)
  have r3 := pickF_rng (drawsL ns) (Int.toNat 3) 7 (by decide)
  have r6 := pickF_rng (drawsL ns) (Int.toNat 6) 8 (by decide)
  have r7 := pickF_rng (drawsL ns) (Int.toNat 7) 6 (by decide)
  have r8 := pickF_rng (drawsL ns) (Int.toNat 8) 8 (by decide)
  have hf := parts_fo (drawsL ns) (Int.toNat 10) (show (pickF (drawsL ns) (Int.toNat 0) 7).toNat ≤ 7 by omega)
  have hg := parts_fo (drawsL ns) (Int.toNat 24) (show (pickF (drawsL ns) (Int.toNat 1) 7).toNat ≤ 7 by omega)
  have hh := parts_fo (drawsL ns) (Int.toNat 38) (show (pickF (drawsL ns) (Int.toNat 2) 7).toNat ≤ 7 by omega)
  have pl := parts_len (drawsL ns) (Int.toNat 10) (pickF (drawsL ns) (Int.toNat 0) 7).toNat
  have pg := parts_len (drawsL ns) (Int.toNat 24) (pickF (drawsL ns) (Int.toNat 1) 7).toNat
  have ph := parts_len (drawsL ns) (Int.toNat 38) (pickF (drawsL ns) (Int.toNat 2) 7).toNat
  simp only [b_law, startD, List.map, List.length, List.replicate, Nat.reduceAdd, Nat.reduceSub, List.cons_append, List.nil_append]
  repeat' (walk_at "pd1")
  all_goals first
    | with_reducible exact hd
    | with_reducible exact hf
    | with_reducible exact hg
    | with_reducible exact hh
    | with_reducible exact numF_bz _ _
    | with_reducible exact parts_ne _ _ _
    | (walk_at "sg"; done)
    | skip
  refine lc_ix (fun k => some (.int (numF (drawsL ns) (52 + 2 * k)))) still_none (by rw [rngL_len]; exact big _ (by decide)) (fun k d acc hdk => ?_) ?_
  · obtain ⟨hk, rfl⟩ := rngL_get hdk
    have hk8 : k < 8 := hk
    unfold lcStep
    repeat' (walk_at "pd1")
    all_goals first
      | with_reducible exact hd
      | skip
    · have h2 : Bz 10 ((0 : Int) + k) := ⟨by omega⟩
      exact lg_mul (a := 4) ⟨by decide⟩ h2 (by decide)
    · omega
    · rw [show ((52 : Int) + 2 * (0 + k)).toNat = 52 + 2 * k by omega]
  · rw [filterMap_ints (g := fun k => numF (drawsL ns) (52 + 2 * k)), rngL_len]
    have hv : Va 200 ((List.range (Int.toNat 8)).map fun k => numF (drawsL ns) (52 + 2 * k)) := ⟨by rw [List.length_map, List.length_range]; rfl, ⟨fun i => by
      rw [cf_range]
      split
      · exact numF_bz _ _
      · exact Bz.zero⟩⟩
    generalize (List.range (Int.toNat 8)).map (fun k => numF (drawsL ns) (52 + 2 * k)) = v at hv ⊢
    have hs : ∀ T : Store, ((T ++ [SO.lst (v.map D.int)]) : Store) = T ++ [lstI v] := fun _ => rfl
    rw [hs]
    repeat' (walk_at "pd1")
    all_goals first
      | with_reducible exact hd
      | with_reducible exact hf
      | with_reducible exact hg
      | with_reducible exact hh
      | with_reducible exact hv
      | with_reducible exact numF_bz _ _
      | with_reducible exact parts_ne _ _ _
      | with_reducible rfl
      | omega
      | (walk_at "pe"; done)
      | skip

end PD


set_option Elab.async false
set_option linter.all false
set_option maxRecDepth 100000
set_option maxHeartbeats 4000000
namespace PD
open PySem PySem.Spec PyProof.Rows L2
def spK : Nat → DSp := fun i => match i with
  | 0 => FnS p_is_whole
  | 1 => FnS p_is_form
  | 2 => FnS p__form_trimmed
  | 3 => FnS p_form_of
  | 4 => FnS p_number_form
  | 5 => FnS (dflP [.int 1] p_variable_form)
  | 6 => FnS p_plus
  | 7 => FnS p_scaled
  | 8 => FnS p_minus
  | 9 => FnS (starP 0 p_joined)
  | 10 => FnS p_constant
  | 11 => FnS p_multiple
  | 12 => FnS p_variables
  | 13 => FnS p_is_number
  | 14 => FnS p_form_at
  | 15 => FnS p_put_variable
  | 16 => FnS p_put_all
  | 17 => FnS p_moved
  | 18 => FnS p_same_order
  | 19 => FnS p__law_draws
  | 20 => FnS p__law_pick
  | 21 => FnS p__law_form_at
  | 22 => FnS p__law_whole
  | 23 => FnS p__law_number
  | 24 => FnS p__law_parts
  | 25 => FnS p__law_trim
  | 26 => FnS p__law_sum
  | 27 => FnS p__law_told
  | 28 => FnS p__law_number_told
  | 29 => FnS p__law_put
  | 30 => FnS p__law_put_all
  | 31 => FnS p__law_moved
  | 32 => FnS p__law_order
  | 33 => FnS p__law_sums_hold
  | 34 => FnS p__law_reads_hold
  | 35 => FnS p__law_puts_hold
  | 36 => FnS p__law_moves_hold
  | 37 => FnS p__law_orders_hold
  | 38 => FnS p__law_made_hold
  | 39 => FnS p__law_forms_refused
  | 40 => FnS p__law_numbers_refused
  | 41 => FnS p__law_short_refused
  | 42 => FnS pLaw
  | _ => fun _ _ _ _ => False
def subK (a b : Nat) : Bool := [(0, 0), (0, 90), (0, 91), (1, 0), (1, 1), (1, 90), (1, 91), (2, 0), (2, 2), (2, 90), (2, 91), (3, 0), (3, 3), (3, 90), (3, 91)].contains (a, b)
def knL : List (Nat × List Str) := [(1, ["name"]), (2, ["place"]), (3, ["place"])]
def MK : Md := ⟨fnK, othK, spK, subK, fun k fs => decide ((k, fs) ∈ knL)⟩
def inK (i m : Nat) : Stmt := match topK i with
  | .ClassDef (body := b) .. => b.getD m (.Pass ⟨0, 0, 0, 0⟩)
  | s => s
theorem isc_1 : FnScope ["self", "name"] ["self", "name"] (defScope (inK 2 0)) := ⟨by kernel_rfl, by kernel_rfl, by kernel_rfl, by decide +kernel, rfl, by decide +kernel, by decide +kernel⟩
theorem ihc_1 : initL ["self", "name"] (defScope (inK 2 0)) (defBody (inK 2 0)) = some [(Str.ofString "name", 1)] := by kernel_rfl
theorem isc_2 : FnScope ["self", "place"] ["self", "place"] (defScope (inK 3 0)) := ⟨by kernel_rfl, by kernel_rfl, by kernel_rfl, by decide +kernel, rfl, by decide +kernel, by decide +kernel⟩
theorem ihc_2 : initL ["self", "place"] (defScope (inK 3 0)) (defBody (inK 3 0)) = some [(Str.ofString "place", 1)] := by kernel_rfl
theorem isc_3 : FnScope ["self", "place"] ["self", "place"] (defScope (inK 4 0)) := ⟨by kernel_rfl, by kernel_rfl, by kernel_rfl, by decide +kernel, rfl, by decide +kernel, by decide +kernel⟩
theorem ihc_3 : initL ["self", "place"] (defScope (inK 4 0)) (defBody (inK 4 0)) = some [(Str.ofString "place", 1)] := by kernel_rfl
theorem all_mk {P : Program} {w : World} {K : PySem.W.Frag} {h : Heap} {mg : Str → Option Value} {fa : Addr} (X : K.In h) (G0 : h.Ns mainGlobals mg) (hfa : mg "law" = some (.ref fa)) {f0 f1 f2 f3 f4 f5 f6 f7 f8 f9 f10 f11 f12 f13 f14 f15 f16 f17 f18 f19 f20 f21 f22 f23 f24 f25 f26 f27 f28 f29 f30 f31 f32 f33 f34 f35 f36 f37 f38 f39 f40 f41 f42 C0 C1 I1 C2 I2 C3 I3 : Addr} {tk_FORM_LAST : Tok}
    (d0 : DefF K "is_whole" (topK 7) f0)
    (d1 : DefF K "is_form" (topK 8) f1)
    (d2 : DefF K "_form_trimmed" (topK 9) f2)
    (d3 : DefF K "form_of" (topK 10) f3)
    (d4 : DefF K "number_form" (topK 11) f4)
    (d5 : DefD K "variable_form" (topK 12) [V.int 1] f5)
    (d6 : DefF K "plus" (topK 13) f6)
    (d7 : DefF K "scaled" (topK 14) f7)
    (d8 : DefF K "minus" (topK 15) f8)
    (d9 : DefF K "joined" (topK 16) f9)
    (d10 : DefF K "constant" (topK 17) f10)
    (d11 : DefF K "multiple" (topK 18) f11)
    (d12 : DefF K "variables" (topK 19) f12)
    (d13 : DefF K "is_number" (topK 20) f13)
    (d14 : DefF K "form_at" (topK 21) f14)
    (d15 : DefF K "put_variable" (topK 22) f15)
    (d16 : DefF K "put_all" (topK 23) f16)
    (d17 : DefF K "moved" (topK 24) f17)
    (d18 : DefF K "same_order" (topK 25) f18)
    (d19 : DefF K "_law_draws" (topK 27) f19)
    (d20 : DefF K "_law_pick" (topK 28) f20)
    (d21 : DefF K "_law_form_at" (topK 29) f21)
    (d22 : DefF K "_law_whole" (topK 30) f22)
    (d23 : DefF K "_law_number" (topK 31) f23)
    (d24 : DefF K "_law_parts" (topK 32) f24)
    (d25 : DefF K "_law_trim" (topK 33) f25)
    (d26 : DefF K "_law_sum" (topK 34) f26)
    (d27 : DefF K "_law_told" (topK 35) f27)
    (d28 : DefF K "_law_number_told" (topK 36) f28)
    (d29 : DefF K "_law_put" (topK 37) f29)
    (d30 : DefF K "_law_put_all" (topK 38) f30)
    (d31 : DefF K "_law_moved" (topK 39) f31)
    (d32 : DefF K "_law_order" (topK 40) f32)
    (d33 : DefF K "_law_sums_hold" (topK 41) f33)
    (d34 : DefF K "_law_reads_hold" (topK 42) f34)
    (d35 : DefF K "_law_puts_hold" (topK 43) f35)
    (d36 : DefF K "_law_moves_hold" (topK 44) f36)
    (d37 : DefF K "_law_orders_hold" (topK 45) f37)
    (d38 : DefF K "_law_made_hold" (topK 46) f38)
    (d39 : DefF K "_law_forms_refused" (topK 47) f39)
    (d40 : DefF K "_law_numbers_refused" (topK 48) f40)
    (d41 : DefF K "_law_short_refused" (topK 49) f41)
    (d42 : DefF K "law" (topK 50) f42)
    (e0 : ClsF K "ShapeError" C0)
    (e1 : ExcF K "BadNumber" "BadNumber.__init__" (inK 2 0) ["name"] C1 I1)
    (e2 : ExcF K "BadForm" "BadForm.__init__" (inK 3 0) ["place"] C2 I2)
    (e3 : ExcF K "BadValue" "BadValue.__init__" (inK 4 0) ["place"] C3 I3)
    (z_isinstance : PySem.W.nsIn K mainGlobals "isinstance" = some none)
    (z_int : PySem.W.nsIn K mainGlobals "int" = some none)
    (z_bool : PySem.W.nsIn K mainGlobals "bool" = some none)
    (z_tuple : PySem.W.nsIn K mainGlobals "tuple" = some none)
    (z_len : PySem.W.nsIn K mainGlobals "len" = some none)
    (z_list : PySem.W.nsIn K mainGlobals "list" = some none)
    (z_FORM_LAST : PySem.W.nsIn K mainGlobals "_FORM_LAST" = some (some (.int 999 tk_FORM_LAST)))
    (z_enumerate : PySem.W.nsIn K mainGlobals "enumerate" = some none)
    (z_range : PySem.W.nsIn K mainGlobals "range" = some none)
    (z_min : PySem.W.nsIn K mainGlobals "min" = some none)
    (z_max : PySem.W.nsIn K mainGlobals "max" = some none)
    (z_abs : PySem.W.nsIn K mainGlobals "abs" = some none)
    (z_ValueError : PySem.W.nsIn K mainGlobals "ValueError" = some none)
    (s_1_2 : PySem.W.subIn K (.ref C1) (.ref C2) = some false)
    (s_1_1 : PySem.W.subIn K (.ref C1) (.ref C1) = some true)
    (s_1_3 : PySem.W.subIn K (.ref C1) (.ref C3) = some false)
    (s_1_0 : PySem.W.subIn K (.ref C1) (.ref C0) = some true)
    (s_1_90 : PySem.W.subIn K (.ref C1) (.type "ValueError") = some true)
    (s_2_2 : PySem.W.subIn K (.ref C2) (.ref C2) = some true)
    (s_2_1 : PySem.W.subIn K (.ref C2) (.ref C1) = some false)
    (s_2_3 : PySem.W.subIn K (.ref C2) (.ref C3) = some false)
    (s_2_0 : PySem.W.subIn K (.ref C2) (.ref C0) = some true)
    (s_2_90 : PySem.W.subIn K (.ref C2) (.type "ValueError") = some true)
    (s_3_2 : PySem.W.subIn K (.ref C3) (.ref C2) = some false)
    (s_3_1 : PySem.W.subIn K (.ref C3) (.ref C1) = some false)
    (s_3_3 : PySem.W.subIn K (.ref C3) (.ref C3) = some true)
    (s_3_0 : PySem.W.subIn K (.ref C3) (.ref C0) = some true)
    (s_3_90 : PySem.W.subIn K (.ref C3) (.type "ValueError") = some true)
    (b_ValueError : PySem.W.subIn K (.type "ValueError") (.type "BaseException") = some true)
    (r_0 : PySem.W.subIn K (.ref C0) (.ref C0) = some true)
    (r_1 : PySem.W.subIn K (.ref C1) (.ref C1) = some true)
    (r_2 : PySem.W.subIn K (.ref C2) (.ref C2) = some true)
    (r_3 : PySem.W.subIn K (.ref C3) (.ref C3) = some true)
    : ∃ fd : FuncData, (∀ (s : Shared) (v : Value), BindsTo s fd ⟨[v], []⟩ [("script", v)]) ∧ ∀ base : Heap, K.In base → base.Ns mainGlobals mg → FnOk P w K mg base (L2.CX P w) 45 fa fd ["script"] (spLawR K) := by
  obtain rfl : fa = f42 := by
    have e := hfa.symm.trans (PySem.W.mg_of X G0 d42.ns)
    cases e
    rfl
  obtain ⟨fdL, FL, dfL⟩ := d42.fn
  obtain ⟨oc, od, kV, doc, pm, an, cdv, ct, osl, eL, lkL, cdL⟩ := FL.ex
  refine ⟨fdL, fun s v => ?_, fun base KX G => ?_⟩
  · subst eL
    exact .of_eq rfl
  · have O : MdOk MK (caOf [C0, C1, C2, C3]) P w K mg base := by
      refine ⟨?_, ?_, ?_, ?_⟩
      · rintro Y rfl rfl x g hx
        simp only [MK, othK, List.map, List.mem_cons, List.not_mem_nil, or_false, Prod.mk.injEq] at hx
        rcases hx with ⟨rfl, rfl⟩ | ⟨rfl, rfl⟩ | ⟨rfl, rfl⟩ | ⟨rfl, rfl⟩ | ⟨rfl, rfl⟩ | ⟨rfl, rfl⟩ | ⟨rfl, rfl⟩ | ⟨rfl, rfl⟩ | ⟨rfl, rfl⟩ | ⟨rfl, rfl⟩ | ⟨rfl, rfl⟩ | ⟨rfl, rfl⟩ | ⟨rfl, rfl⟩ | ⟨rfl, rfl⟩ | ⟨rfl, rfl⟩ | ⟨rfl, rfl⟩ | ⟨rfl, rfl⟩
        · exact ⟨PySem.W.mg_none_of KX G z_isinstance, by kernel_rfl⟩
        · exact ⟨PySem.W.mg_none_of KX G z_int, by kernel_rfl⟩
        · exact ⟨PySem.W.mg_none_of KX G z_bool, by kernel_rfl⟩
        · exact ⟨PySem.W.mg_none_of KX G z_tuple, by kernel_rfl⟩
        · exact ⟨PySem.W.mg_none_of KX G z_len, by kernel_rfl⟩
        · exact PySem.W.mg_of KX G e2.ns
        · exact ⟨PySem.W.mg_none_of KX G z_list, by kernel_rfl⟩
        · exact PySem.W.mg_of KX G e1.ns
        · exact ⟨_, .int 999, PySem.W.mg_of KX G z_FORM_LAST, ⟨_, rfl⟩, fun H β => .int _⟩
        · exact ⟨PySem.W.mg_none_of KX G z_enumerate, rfl⟩
        · exact ⟨PySem.W.mg_none_of KX G z_range, rfl⟩
        · exact PySem.W.mg_of KX G e3.ns
        · exact ⟨PySem.W.mg_none_of KX G z_min, by kernel_rfl⟩
        · exact ⟨PySem.W.mg_none_of KX G z_max, by kernel_rfl⟩
        · exact ⟨PySem.W.mg_none_of KX G z_abs, by kernel_rfl⟩
        · exact PySem.W.mg_of KX G e0.ns
        · exact ⟨PySem.W.mg_none_of KX G z_ValueError, by kernel_rfl⟩
      · intro x g hx
        simp only [MK, othK, List.map, List.mem_cons, List.not_mem_nil, or_false, Prod.mk.injEq] at hx
        rcases hx with ⟨rfl, rfl⟩ | ⟨rfl, rfl⟩ | ⟨rfl, rfl⟩ | ⟨rfl, rfl⟩ | ⟨rfl, rfl⟩ | ⟨rfl, rfl⟩ | ⟨rfl, rfl⟩ | ⟨rfl, rfl⟩ | ⟨rfl, rfl⟩ | ⟨rfl, rfl⟩ | ⟨rfl, rfl⟩ | ⟨rfl, rfl⟩ | ⟨rfl, rfl⟩ | ⟨rfl, rfl⟩ | ⟨rfl, rfl⟩ | ⟨rfl, rfl⟩ | ⟨rfl, rfl⟩ <;> rfl
      · rintro Y rfl rfl rfl rfl rfl hr x k fs hx
        simp only [MK, othK, List.map, List.mem_cons, List.not_mem_nil, or_false, Prod.mk.injEq] at hx
        rcases hx with ⟨rfl, hx⟩ | ⟨rfl, hx⟩ | ⟨rfl, hx⟩ | ⟨rfl, hx⟩ | ⟨rfl, hx⟩ | ⟨rfl, hx⟩ | ⟨rfl, hx⟩ | ⟨rfl, hx⟩ | ⟨rfl, hx⟩ | ⟨rfl, hx⟩ | ⟨rfl, hx⟩ | ⟨rfl, hx⟩ | ⟨rfl, hx⟩ | ⟨rfl, hx⟩ | ⟨rfl, hx⟩ | ⟨rfl, hx⟩ | ⟨rfl, hx⟩
        · cases hx
        · cases hx
        · cases hx
        · cases hx
        · cases hx
        · cases hx
          obtain ⟨fd, F, df⟩ := e2.fn
          exact rok_of e2.T (PySem.W.mg_of KX G e2.ns) (by decide +kernel) e2.iC e2.tI (init_fn e2.T F isc_2 ihc_2 rfl rfl rfl (List.cons_ne_nil _ _) (by decide) e2.no) (F.binds fun _ _ _ _ _ _ us hl => match us, hl with | [_, _], _ => rfl) (by decide +kernel) (by decide) hr
        · cases hx
        · cases hx
          obtain ⟨fd, F, df⟩ := e1.fn
          exact rok_of e1.T (PySem.W.mg_of KX G e1.ns) (by decide +kernel) e1.iC e1.tI (init_fn e1.T F isc_1 ihc_1 rfl rfl rfl (List.cons_ne_nil _ _) (by decide) e1.no) (F.binds fun _ _ _ _ _ _ us hl => match us, hl with | [_, _], _ => rfl) (by decide +kernel) (by decide) hr
        · cases hx
        · cases hx
        · cases hx
        · cases hx
          obtain ⟨fd, F, df⟩ := e3.fn
          exact rok_of e3.T (PySem.W.mg_of KX G e3.ns) (by decide +kernel) e3.iC e3.tI (init_fn e3.T F isc_3 ihc_3 rfl rfl rfl (List.cons_ne_nil _ _) (by decide) e3.no) (F.binds fun _ _ _ _ _ _ us hl => match us, hl with | [_, _], _ => rfl) (by decide +kernel) (by decide) hr
        · cases hx
        · cases hx
        · cases hx
        · cases hx
        · cases hx
      · intro k fs hk
        have hk := of_decide_eq_true hk
        simp only [knL, List.mem_cons, List.not_mem_nil, or_false, Prod.mk.injEq] at hk
        rcases hk with ⟨rfl, rfl⟩ | ⟨rfl, rfl⟩ | ⟨rfl, rfl⟩
        · refine ⟨e1.xf, e1.kx, e1.no, fun x g j hx hj => ?_⟩
          simp only [MK, othK, List.map, List.mem_cons, List.not_mem_nil, or_false, Prod.mk.injEq] at hx
          rcases hx with ⟨rfl, rfl⟩ | ⟨rfl, rfl⟩ | ⟨rfl, rfl⟩ | ⟨rfl, rfl⟩ | ⟨rfl, rfl⟩ | ⟨rfl, rfl⟩ | ⟨rfl, rfl⟩ | ⟨rfl, rfl⟩ | ⟨rfl, rfl⟩ | ⟨rfl, rfl⟩ | ⟨rfl, rfl⟩ | ⟨rfl, rfl⟩ | ⟨rfl, rfl⟩ | ⟨rfl, rfl⟩ | ⟨rfl, rfl⟩ | ⟨rfl, rfl⟩ | ⟨rfl, rfl⟩
          · cases hj
          · cases hj
          · cases hj
          · cases hj
          · cases hj
          · cases hj; exact ⟨exm_own e2.T.exC e2.xf.hdC e2.T.tyC s_1_2, kit_own (cls_some e2.xf.hdC) e2.T.tyC s_1_2 r_2⟩
          · cases hj
          · cases hj; exact ⟨exm_own e1.T.exC e1.xf.hdC e1.T.tyC s_1_1, kit_own (cls_some e1.xf.hdC) e1.T.tyC s_1_1 r_1⟩
          · cases hj
          · cases hj
          · cases hj
          · cases hj; exact ⟨exm_own e3.T.exC e3.xf.hdC e3.T.tyC s_1_3, kit_own (cls_some e3.xf.hdC) e3.T.tyC s_1_3 r_3⟩
          · cases hj
          · cases hj
          · cases hj
          · cases hj; exact ⟨exm_own e0.exC e0.hd e0.ty s_1_0, kit_own (cls_some e0.hd) e0.ty s_1_0 r_0⟩
          · cases hj; exact ⟨exm_ty b_ValueError (by decide +kernel) s_1_90, kit_ty (by decide +kernel) s_1_90⟩
        · refine ⟨e2.xf, e2.kx, e2.no, fun x g j hx hj => ?_⟩
          simp only [MK, othK, List.map, List.mem_cons, List.not_mem_nil, or_false, Prod.mk.injEq] at hx
          rcases hx with ⟨rfl, rfl⟩ | ⟨rfl, rfl⟩ | ⟨rfl, rfl⟩ | ⟨rfl, rfl⟩ | ⟨rfl, rfl⟩ | ⟨rfl, rfl⟩ | ⟨rfl, rfl⟩ | ⟨rfl, rfl⟩ | ⟨rfl, rfl⟩ | ⟨rfl, rfl⟩ | ⟨rfl, rfl⟩ | ⟨rfl, rfl⟩ | ⟨rfl, rfl⟩ | ⟨rfl, rfl⟩ | ⟨rfl, rfl⟩ | ⟨rfl, rfl⟩ | ⟨rfl, rfl⟩
          · cases hj
          · cases hj
          · cases hj
          · cases hj
          · cases hj
          · cases hj; exact ⟨exm_own e2.T.exC e2.xf.hdC e2.T.tyC s_2_2, kit_own (cls_some e2.xf.hdC) e2.T.tyC s_2_2 r_2⟩
          · cases hj
          · cases hj; exact ⟨exm_own e1.T.exC e1.xf.hdC e1.T.tyC s_2_1, kit_own (cls_some e1.xf.hdC) e1.T.tyC s_2_1 r_1⟩
          · cases hj
          · cases hj
          · cases hj
          · cases hj; exact ⟨exm_own e3.T.exC e3.xf.hdC e3.T.tyC s_2_3, kit_own (cls_some e3.xf.hdC) e3.T.tyC s_2_3 r_3⟩
          · cases hj
          · cases hj
          · cases hj
          · cases hj; exact ⟨exm_own e0.exC e0.hd e0.ty s_2_0, kit_own (cls_some e0.hd) e0.ty s_2_0 r_0⟩
          · cases hj; exact ⟨exm_ty b_ValueError (by decide +kernel) s_2_90, kit_ty (by decide +kernel) s_2_90⟩
        · refine ⟨e3.xf, e3.kx, e3.no, fun x g j hx hj => ?_⟩
          simp only [MK, othK, List.map, List.mem_cons, List.not_mem_nil, or_false, Prod.mk.injEq] at hx
          rcases hx with ⟨rfl, rfl⟩ | ⟨rfl, rfl⟩ | ⟨rfl, rfl⟩ | ⟨rfl, rfl⟩ | ⟨rfl, rfl⟩ | ⟨rfl, rfl⟩ | ⟨rfl, rfl⟩ | ⟨rfl, rfl⟩ | ⟨rfl, rfl⟩ | ⟨rfl, rfl⟩ | ⟨rfl, rfl⟩ | ⟨rfl, rfl⟩ | ⟨rfl, rfl⟩ | ⟨rfl, rfl⟩ | ⟨rfl, rfl⟩ | ⟨rfl, rfl⟩ | ⟨rfl, rfl⟩
          · cases hj
          · cases hj
          · cases hj
          · cases hj
          · cases hj
          · cases hj; exact ⟨exm_own e2.T.exC e2.xf.hdC e2.T.tyC s_3_2, kit_own (cls_some e2.xf.hdC) e2.T.tyC s_3_2 r_2⟩
          · cases hj
          · cases hj; exact ⟨exm_own e1.T.exC e1.xf.hdC e1.T.tyC s_3_1, kit_own (cls_some e1.xf.hdC) e1.T.tyC s_3_1 r_1⟩
          · cases hj
          · cases hj
          · cases hj
          · cases hj; exact ⟨exm_own e3.T.exC e3.xf.hdC e3.T.tyC s_3_3, kit_own (cls_some e3.xf.hdC) e3.T.tyC s_3_3 r_3⟩
          · cases hj
          · cases hj
          · cases hj
          · cases hj; exact ⟨exm_own e0.exC e0.hd e0.ty s_3_0, kit_own (cls_some e0.hd) e0.ty s_3_0 r_0⟩
          · cases hj; exact ⟨exm_ty b_ValueError (by decide +kernel) s_3_90, kit_ty (by decide +kernel) s_3_90⟩
    have D0 : Done MK (caOf [C0, C1, C2, C3]) P w K mg base 0 := Done.zero
    obtain ⟨fd0, F0, df0⟩ := d0.fn
    have G0 := fn_gc (fs := p_is_whole) (i := 0) O D0 F0 sc_0 hc_0 (len_is_whole) (ok_is_whole) (vc_is_whole MK )
    have D1 := D0.succ (PySem.W.mg_of KX G d0.ns) F0.kp (fn_all G0 (F0.binds (ps := ["thing"]) fun _ _ _ _ _ _ us hl => match us, hl with | [_], _ => rfl))
    obtain ⟨fd1, F1, df1⟩ := d1.fn
    have G1 := fn_gc (fs := p_is_form) (i := 1) O D1 F1 sc_1 hc_1 (len_is_form) (ok_is_form) (vc_is_form MK rfl)
    have D2 := D1.succ (PySem.W.mg_of KX G d1.ns) F1.kp (fn_all G1 (F1.binds (ps := ["thing"]) fun _ _ _ _ _ _ us hl => match us, hl with | [_], _ => rfl))
    obtain ⟨fd2, F2, df2⟩ := d2.fn
    have G2 := fn_gc (fs := p__form_trimmed) (i := 2) O D2 F2 sc_2 hc_2 (len__form_trimmed) (ok__form_trimmed) (vc__form_trimmed MK )
    have D3 := D2.succ (PySem.W.mg_of KX G d2.ns) F2.kp (fn_all G2 (F2.binds (ps := ["parts"]) fun _ _ _ _ _ _ us hl => match us, hl with | [_], _ => rfl))
    obtain ⟨fd3, F3, df3⟩ := d3.fn
    have G3 := fn_gc (fs := p_form_of) (i := 3) O D3 F3 sc_3 hc_3 (len_form_of) (ok_form_of) (vc_form_of MK rfl rfl)
    have D4 := D3.succ (PySem.W.mg_of KX G d3.ns) F3.kp (fn_all G3 (F3.binds (ps := ["thing"]) fun _ _ _ _ _ _ us hl => match us, hl with | [_], _ => rfl))
    obtain ⟨fd4, F4, df4⟩ := d4.fn
    have G4 := fn_gc (fs := p_number_form) (i := 4) O D4 F4 sc_4 hc_4 (len_number_form) (ok_number_form) (vc_number_form MK rfl)
    have D5 := D4.succ (PySem.W.mg_of KX G d4.ns) F4.kp (fn_all G4 (F4.binds (ps := ["c"]) fun _ _ _ _ _ _ us hl => match us, hl with | [_], _ => rfl))
    obtain ⟨fd5, F5⟩ := d5.fn
    have G5 := fn_gcD (fs := p_variable_form) (i := 5) O D5 F5 sc_5 hc_5 (len_variable_form) (ok_variable_form) (vc_variable_form MK rfl rfl)
    obtain ⟨ds5, v5, b5⟩ := F5.binds1 (ps := ["x", "times"]) 1 0 (List.cons_ne_nil _ _) rfl (fun T kV doc pm an cdv ct us its h1 h2 => match us, h1, its, h2 with | [_], _, [_], _ => ⟨_, rfl, rfl⟩)
    obtain ⟨ws5, u5, c5⟩ := F5.binds1 (ps := ["x", "times"]) 2 1 (List.cons_ne_nil _ _) rfl (fun T kV doc pm an cdv ct us its h1 h2 => match us, h1, its, h2 with | [_, _], _, [_], _ => ⟨_, rfl, rfl⟩)
    have D6 := D5.succ (PySem.W.mg_of KX G d5.ns) F5.kp (fn_dflP (fn_dfl G5 c5 u5 fun H β => .nil) (fn_dfl G5 b5 v5 fun H β => .cons (.int _) .nil))
    obtain ⟨fd6, F6, df6⟩ := d6.fn
    have G6 := fn_gc (fs := p_plus) (i := 6) O D6 F6 sc_6 hc_6 (len_plus) (ok_plus) (vc_plus MK rfl)
    have D7 := D6.succ (PySem.W.mg_of KX G d6.ns) F6.kp (fn_all G6 (F6.binds (ps := ["f", "g"]) fun _ _ _ _ _ _ us hl => match us, hl with | [_, _], _ => rfl))
    obtain ⟨fd7, F7, df7⟩ := d7.fn
    have G7 := fn_gc (fs := p_scaled) (i := 7) O D7 F7 sc_7 hc_7 (len_scaled) (ok_scaled) (vc_scaled MK rfl)
    have D8 := D7.succ (PySem.W.mg_of KX G d7.ns) F7.kp (fn_all G7 (F7.binds (ps := ["n", "f"]) fun _ _ _ _ _ _ us hl => match us, hl with | [_, _], _ => rfl))
    obtain ⟨fd8, F8, df8⟩ := d8.fn
    have G8 := fn_gc (fs := p_minus) (i := 8) O D8 F8 sc_8 hc_8 (len_minus) (ok_minus) (vc_minus MK rfl rfl)
    have D9 := D8.succ (PySem.W.mg_of KX G d8.ns) F8.kp (fn_all G8 (F8.binds (ps := ["f", "g"]) fun _ _ _ _ _ _ us hl => match us, hl with | [_, _], _ => rfl))
    obtain ⟨fd9, F9, df9⟩ := d9.fn
    have D10 := D9.succ (PySem.W.mg_of KX G d9.ns) F9.kp (fn_star_gc (fs := p_joined) (ps := []) (i := 9) O D9 F9 sc_9 (fun _ _ _ _ _ _ us rest hl => match us, hl, rest with | [], _, [] => rfl | [], _, _ :: _ => rfl) hc_9 (ok_joined) (vc_joined MK rfl))
    obtain ⟨fd10, F10, df10⟩ := d10.fn
    have G10 := fn_gc (fs := p_constant) (i := 10) O D10 F10 sc_10 hc_10 (len_constant) (ok_constant) (vc_constant MK )
    have D11 := D10.succ (PySem.W.mg_of KX G d10.ns) F10.kp (fn_all G10 (F10.binds (ps := ["f"]) fun _ _ _ _ _ _ us hl => match us, hl with | [_], _ => rfl))
    obtain ⟨fd11, F11, df11⟩ := d11.fn
    have G11 := fn_gc (fs := p_multiple) (i := 11) O D11 F11 sc_11 hc_11 (len_multiple) (ok_multiple) (vc_multiple MK )
    have D12 := D11.succ (PySem.W.mg_of KX G d11.ns) F11.kp (fn_all G11 (F11.binds (ps := ["f", "x"]) fun _ _ _ _ _ _ us hl => match us, hl with | [_, _], _ => rfl))
    obtain ⟨fd12, F12, df12⟩ := d12.fn
    have G12 := fn_gc (fs := p_variables) (i := 12) O D12 F12 sc_12 hc_12 (len_variables) (ok_variables) (vc_variables MK )
    have D13 := D12.succ (PySem.W.mg_of KX G d12.ns) F12.kp (fn_all G12 (F12.binds (ps := ["f"]) fun _ _ _ _ _ _ us hl => match us, hl with | [_], _ => rfl))
    obtain ⟨fd13, F13, df13⟩ := d13.fn
    have G13 := fn_gc (fs := p_is_number) (i := 13) O D13 F13 sc_13 hc_13 (len_is_number) (ok_is_number) (vc_is_number MK )
    have D14 := D13.succ (PySem.W.mg_of KX G d13.ns) F13.kp (fn_all G13 (F13.binds (ps := ["f"]) fun _ _ _ _ _ _ us hl => match us, hl with | [_], _ => rfl))
    obtain ⟨fd14, F14, df14⟩ := d14.fn
    have G14 := fn_gc (fs := p_form_at) (i := 14) O D14 F14 sc_14 hc_14 (len_form_at) (ok_form_at) (vc_form_at MK rfl)
    have D15 := D14.succ (PySem.W.mg_of KX G d14.ns) F14.kp (fn_all G14 (F14.binds (ps := ["f", "value"]) fun _ _ _ _ _ _ us hl => match us, hl with | [_, _], _ => rfl))
    obtain ⟨fd15, F15, df15⟩ := d15.fn
    have G15 := fn_gc (fs := p_put_variable) (i := 15) O D15 F15 sc_15 hc_15 (len_put_variable) (ok_put_variable) (vc_put_variable MK rfl rfl rfl rfl)
    have D16 := D15.succ (PySem.W.mg_of KX G d15.ns) F15.kp (fn_all G15 (F15.binds (ps := ["f", "x", "g"]) fun _ _ _ _ _ _ us hl => match us, hl with | [_, _, _], _ => rfl))
    obtain ⟨fd16, F16, df16⟩ := d16.fn
    have G16 := fn_gc (fs := p_put_all) (i := 16) O D16 F16 sc_16 hc_16 (len_put_all) (ok_put_all) (vc_put_all MK rfl rfl rfl)
    have D17 := D16.succ (PySem.W.mg_of KX G d16.ns) F16.kp (fn_all G16 (F16.binds (ps := ["f", "forms"]) fun _ _ _ _ _ _ us hl => match us, hl with | [_, _], _ => rfl))
    obtain ⟨fd17, F17, df17⟩ := d17.fn
    have G17 := fn_gc (fs := p_moved) (i := 17) O D17 F17 sc_17 hc_17 (len_moved) (ok_moved) (vc_moved MK rfl)
    have D18 := D17.succ (PySem.W.mg_of KX G d17.ns) F17.kp (fn_all G17 (F17.binds (ps := ["f", "start", "by"]) fun _ _ _ _ _ _ us hl => match us, hl with | [_, _, _], _ => rfl))
    obtain ⟨fd18, F18, df18⟩ := d18.fn
    have G18 := fn_gc (fs := p_same_order) (i := 18) O D18 F18 sc_18 hc_18 (len_same_order) (ok_same_order) (vc_same_order MK rfl)
    have D19 := D18.succ (PySem.W.mg_of KX G d18.ns) F18.kp (fn_all G18 (F18.binds (ps := ["f", "g"]) fun _ _ _ _ _ _ us hl => match us, hl with | [_, _], _ => rfl))
    obtain ⟨fd19, F19, df19⟩ := d19.fn
    have G19 := fn_gc (fs := p__law_draws) (i := 19) O D19 F19 sc_19 hc_19 (len__law_draws) (ok__law_draws) (vc__law_draws MK )
    have D20 := D19.succ (PySem.W.mg_of KX G d19.ns) F19.kp (fn_all G19 (F19.binds (ps := ["script"]) fun _ _ _ _ _ _ us hl => match us, hl with | [_], _ => rfl))
    obtain ⟨fd20, F20, df20⟩ := d20.fn
    have G20 := fn_gc (fs := p__law_pick) (i := 20) O D20 F20 sc_20 hc_20 (len__law_pick) (ok__law_pick) (vc__law_pick MK )
    have D21 := D20.succ (PySem.W.mg_of KX G d20.ns) F20.kp (fn_all G20 (F20.binds (ps := ["drawn", "at", "many"]) fun _ _ _ _ _ _ us hl => match us, hl with | [_, _, _], _ => rfl))
    obtain ⟨fd21, F21, df21⟩ := d21.fn
    have G21 := fn_gc (fs := p__law_form_at) (i := 21) O D21 F21 sc_21 hc_21 (len__law_form_at) (ok__law_form_at) (vc__law_form_at MK )
    have D22 := D21.succ (PySem.W.mg_of KX G d21.ns) F21.kp (fn_all G21 (F21.binds (ps := ["form", "value"]) fun _ _ _ _ _ _ us hl => match us, hl with | [_, _], _ => rfl))
    obtain ⟨fd22, F22, df22⟩ := d22.fn
    have G22 := fn_gc (fs := p__law_whole) (i := 22) O D22 F22 sc_22 hc_22 (len__law_whole) (ok__law_whole) (vc__law_whole MK )
    have D23 := D22.succ (PySem.W.mg_of KX G d22.ns) F22.kp (fn_all G22 (F22.binds (ps := ["thing"]) fun _ _ _ _ _ _ us hl => match us, hl with | [_], _ => rfl))
    obtain ⟨fd23, F23, df23⟩ := d23.fn
    have G23 := fn_gc (fs := p__law_number) (i := 23) O D23 F23 sc_23 hc_23 (len__law_number) (ok__law_number) (vc__law_number MK rfl)
    have D24 := D23.succ (PySem.W.mg_of KX G d23.ns) F23.kp (fn_all G23 (F23.binds (ps := ["drawn", "at"]) fun _ _ _ _ _ _ us hl => match us, hl with | [_, _], _ => rfl))
    obtain ⟨fd24, F24, df24⟩ := d24.fn
    have G24 := fn_gc (fs := p__law_parts) (i := 24) O D24 F24 sc_24 hc_24 (len__law_parts) (ok__law_parts) (vc__law_parts MK rfl)
    have D25 := D24.succ (PySem.W.mg_of KX G d24.ns) F24.kp (fn_all G24 (F24.binds (ps := ["drawn", "at", "many"]) fun _ _ _ _ _ _ us hl => match us, hl with | [_, _, _], _ => rfl))
    obtain ⟨fd25, F25, df25⟩ := d25.fn
    have G25 := fn_gc (fs := p__law_trim) (i := 25) O D25 F25 sc_25 hc_25 (len__law_trim) (ok__law_trim) (vc__law_trim MK )
    have D26 := D25.succ (PySem.W.mg_of KX G d25.ns) F25.kp (fn_all G25 (F25.binds (ps := ["parts"]) fun _ _ _ _ _ _ us hl => match us, hl with | [_], _ => rfl))
    obtain ⟨fd26, F26, df26⟩ := d26.fn
    have G26 := fn_gc (fs := p__law_sum) (i := 26) O D26 F26 sc_26 hc_26 (len__law_sum) (ok__law_sum) (vc__law_sum MK rfl)
    have D27 := D26.succ (PySem.W.mg_of KX G d26.ns) F26.kp (fn_all G26 (F26.binds (ps := ["f", "g", "times"]) fun _ _ _ _ _ _ us hl => match us, hl with | [_, _, _], _ => rfl))
    obtain ⟨fd27, F27, df27⟩ := d27.fn
    have G27 := fn_gc (fs := p__law_told) (i := 27) O D27 F27 sc_27 hc_27 (len__law_told) (ok__law_told) (vc__law_told MK rfl)
    have D28 := D27.succ (PySem.W.mg_of KX G d27.ns) F27.kp (fn_all G27 (F27.binds (ps := ["thing", "due"]) fun _ _ _ _ _ _ us hl => match us, hl with | [_, _], _ => rfl))
    obtain ⟨fd28, F28, df28⟩ := d28.fn
    have G28 := fn_gc (fs := p__law_number_told) (i := 28) O D28 F28 sc_28 hc_28 (len__law_number_told) (ok__law_number_told) (vc__law_number_told MK rfl)
    have D29 := D28.succ (PySem.W.mg_of KX G d28.ns) F28.kp (fn_all G28 (F28.binds (ps := ["thing", "due"]) fun _ _ _ _ _ _ us hl => match us, hl with | [_, _], _ => rfl))
    obtain ⟨fd29, F29, df29⟩ := d29.fn
    have G29 := fn_gc (fs := p__law_put) (i := 29) O D29 F29 sc_29 hc_29 (len__law_put) (ok__law_put) (vc__law_put MK rfl)
    have D30 := D29.succ (PySem.W.mg_of KX G d29.ns) F29.kp (fn_all G29 (F29.binds (ps := ["f", "x", "g"]) fun _ _ _ _ _ _ us hl => match us, hl with | [_, _, _], _ => rfl))
    obtain ⟨fd30, F30, df30⟩ := d30.fn
    have G30 := fn_gc (fs := p__law_put_all) (i := 30) O D30 F30 sc_30 hc_30 (len__law_put_all) (ok__law_put_all) (vc__law_put_all MK rfl)
    have D31 := D30.succ (PySem.W.mg_of KX G d30.ns) F30.kp (fn_all G30 (F30.binds (ps := ["f", "forms"]) fun _ _ _ _ _ _ us hl => match us, hl with | [_, _], _ => rfl))
    obtain ⟨fd31, F31, df31⟩ := d31.fn
    have G31 := fn_gc (fs := p__law_moved) (i := 31) O D31 F31 sc_31 hc_31 (len__law_moved) (ok__law_moved) (vc__law_moved MK rfl)
    have D32 := D31.succ (PySem.W.mg_of KX G d31.ns) F31.kp (fn_all G31 (F31.binds (ps := ["f", "start", "by"]) fun _ _ _ _ _ _ us hl => match us, hl with | [_, _, _], _ => rfl))
    obtain ⟨fd32, F32, df32⟩ := d32.fn
    have G32 := fn_gc (fs := p__law_order) (i := 32) O D32 F32 sc_32 hc_32 (len__law_order) (ok__law_order) (vc__law_order MK )
    have D33 := D32.succ (PySem.W.mg_of KX G d32.ns) F32.kp (fn_all G32 (F32.binds (ps := ["f", "g"]) fun _ _ _ _ _ _ us hl => match us, hl with | [_, _], _ => rfl))
    obtain ⟨fd33, F33, df33⟩ := d33.fn
    have G33 := fn_gc (fs := p__law_sums_hold) (i := 33) O D33 F33 sc_33 hc_33 (len__law_sums_hold) (ok__law_sums_hold) (vc__law_sums_hold MK rfl rfl rfl rfl rfl rfl rfl rfl rfl)
    have D34 := D33.succ (PySem.W.mg_of KX G d33.ns) F33.kp (fn_all G33 (F33.binds (ps := ["f", "g", "h", "n", "value"]) fun _ _ _ _ _ _ us hl => match us, hl with | [_, _, _, _, _], _ => rfl))
    obtain ⟨fd34, F34, df34⟩ := d34.fn
    have G34 := fn_gc (fs := p__law_reads_hold) (i := 34) O D34 F34 sc_34 hc_34 (len__law_reads_hold) (ok__law_reads_hold) (vc__law_reads_hold MK rfl rfl rfl rfl rfl rfl rfl rfl)
    have D35 := D34.succ (PySem.W.mg_of KX G d34.ns) F34.kp (fn_all G34 (F34.binds (ps := ["f", "value"]) fun _ _ _ _ _ _ us hl => match us, hl with | [_, _], _ => rfl))
    obtain ⟨fd35, F35, df35⟩ := d35.fn
    have G35 := fn_gc (fs := p__law_puts_hold) (i := 35) O D35 F35 sc_35 hc_35 (len__law_puts_hold) (ok__law_puts_hold) (vc__law_puts_hold MK rfl rfl rfl rfl rfl rfl rfl)
    have D36 := D35.succ (PySem.W.mg_of KX G d35.ns) F35.kp (fn_all G35 (F35.binds (ps := ["f", "g", "h", "x", "value"]) fun _ _ _ _ _ _ us hl => match us, hl with | [_, _, _, _, _], _ => rfl))
    obtain ⟨fd36, F36, df36⟩ := d36.fn
    have G36 := fn_gc (fs := p__law_moves_hold) (i := 36) O D36 F36 sc_36 hc_36 (len__law_moves_hold) (ok__law_moves_hold) (vc__law_moves_hold MK rfl rfl rfl rfl rfl)
    have D37 := D36.succ (PySem.W.mg_of KX G d36.ns) F36.kp (fn_all G36 (F36.binds (ps := ["f", "start", "by", "value"]) fun _ _ _ _ _ _ us hl => match us, hl with | [_, _, _, _], _ => rfl))
    obtain ⟨fd37, F37, df37⟩ := d37.fn
    have G37 := fn_gc (fs := p__law_orders_hold) (i := 37) O D37 F37 sc_37 hc_37 (len__law_orders_hold) (ok__law_orders_hold) (vc__law_orders_hold MK rfl rfl rfl rfl)
    have D38 := D37.succ (PySem.W.mg_of KX G d37.ns) F37.kp (fn_all G37 (F37.binds (ps := ["f", "g"]) fun _ _ _ _ _ _ us hl => match us, hl with | [_, _], _ => rfl))
    obtain ⟨fd38, F38, df38⟩ := d38.fn
    have G38 := fn_gc (fs := p__law_made_hold) (i := 38) O D38 F38 sc_38 hc_38 (len__law_made_hold) (ok__law_made_hold) (vc__law_made_hold MK rfl rfl rfl rfl rfl rfl rfl)
    have D39 := D38.succ (PySem.W.mg_of KX G d38.ns) F38.kp (fn_all G38 (F38.binds (ps := ["parts", "n", "x"]) fun _ _ _ _ _ _ us hl => match us, hl with | [_, _, _], _ => rfl))
    obtain ⟨fd39, F39, df39⟩ := d39.fn
    have G39 := fn_gc (fs := p__law_forms_refused) (i := 39) O D39 F39 sc_39 hc_39 (len__law_forms_refused) (ok__law_forms_refused) (vc__law_forms_refused MK rfl rfl (by decide +kernel) (by decide +kernel) (by decide +kernel) (by decide +kernel) (by decide +kernel) (by decide +kernel))
    have D40 := D39.succ (PySem.W.mg_of KX G d39.ns) F39.kp (fn_all G39 (F39.binds (ps := []) fun _ _ _ _ _ _ us hl => match us, hl with | [], _ => rfl))
    obtain ⟨fd40, F40, df40⟩ := d40.fn
    have G40 := fn_gc (fs := p__law_numbers_refused) (i := 40) O D40 F40 sc_40 hc_40 (len__law_numbers_refused) (ok__law_numbers_refused) (vc__law_numbers_refused MK rfl rfl rfl (by decide +kernel) (by decide +kernel))
    have D41 := D40.succ (PySem.W.mg_of KX G d40.ns) F40.kp (fn_all G40 (F40.binds (ps := []) fun _ _ _ _ _ _ us hl => match us, hl with | [], _ => rfl))
    obtain ⟨fd41, F41, df41⟩ := d41.fn
    have G41 := fn_gc (fs := p__law_short_refused) (i := 41) O D41 F41 sc_41 hc_41 (len__law_short_refused) (ok__law_short_refused) (vc__law_short_refused MK rfl rfl rfl (by decide +kernel) (by decide +kernel))
    have D42 := D41.succ (PySem.W.mg_of KX G d41.ns) F41.kp (fn_all G41 (F41.binds (ps := ["f", "value", "many"]) fun _ _ _ _ _ _ us hl => match us, hl with | [_, _, _], _ => rfl))
    have G42 := fn_gc (fs := pLaw) (i := 42) O D42 FL sc_42 hc_42 (fun _ _ _ ⟨_, h, _⟩ => by rw [h]; rfl) (fun _ _ _ ⟨_, _, _, h⟩ _ _ => by rw [h]; rfl) (vc_law MK rfl rfl rfl rfl rfl rfl rfl rfl rfl rfl rfl rfl rfl rfl)
    exact G42.imp (law_sp _)
end PD

set_option Elab.async false
set_option maxRecDepth 100000
open PySem PySem.W PyProof.Rows
set_option maxHeartbeats 0 in
theorem PySem.Challenge.cw_shapestold_k00_forms_go_along_holds : PySem.Challenge.rw_shapestold_k00_forms_go_along.Holds := by
  w_on; o_law; k_head; (case hw => w_witness2)
  k_fill
  refine L2.walk_of (l := PySem.Challenge.rw_shapestold_k00_forms_go_along) (n := 63) (k := 45) (x := "script") (CX := fun w => L2.CX PySem.Challenge.rw_shapestold_k00_forms_go_along.prog w) (sp := fun w => PD.spLawR _) rfl (by decide) rfl ⟨rfl, by decide, by decide⟩ (fun w h Y => PySem.W.kIn_of Y) ?F (fun _ _ a ns hl hO hS => PD.law_only hO hS hl) (fun _ _ _ _ _ h => PD.cx_false h)
  case F =>
    intro w mg fa h KX G hmg
    refine' PD.all_mk KX G hmg ?d0 ?d1 ?d2 ?d3 ?d4 ?d5 ?d6 ?d7 ?d8 ?d9 ?d10 ?d11 ?d12 ?d13 ?d14 ?d15 ?d16 ?d17 ?d18 ?d19 ?d20 ?d21 ?d22 ?d23 ?d24 ?d25 ?d26 ?d27 ?d28 ?d29 ?d30 ?d31 ?d32 ?d33 ?d34 ?d35 ?d36 ?d37 ?d38 ?d39 ?d40 ?d41 ?d42 ?e0 ?e1 ?e2 ?e3 ?z_isinstance ?z_int ?z_bool ?z_tuple ?z_len ?z_list ?z_FORM_LAST ?z_enumerate ?z_range ?z_min ?z_max ?z_abs ?z_ValueError ?s_1_2 ?s_1_1 ?s_1_3 ?s_1_0 ?s_1_90 ?s_2_2 ?s_2_1 ?s_2_3 ?s_2_0 ?s_2_90 ?s_3_2 ?s_3_1 ?s_3_3 ?s_3_0 ?s_3_90 ?b_ValueError ?r_0 ?r_1 ?r_2 ?r_3
    (case d0 => refine' PD.defF_mk ?a ?l ?c ?k; (case a => k_is); (case l => k_is); (case c => k_is); (case k => k_is))
    (case d1 => refine' PD.defF_mk ?a ?l ?c ?k; (case a => k_is); (case l => k_is); (case c => k_is); (case k => k_is))
    (case d2 => refine' PD.defF_mk ?a ?l ?c ?k; (case a => k_is); (case l => k_is); (case c => k_is); (case k => k_is))
    (case d3 => refine' PD.defF_mk ?a ?l ?c ?k; (case a => k_is); (case l => k_is); (case c => k_is); (case k => k_is))
    (case d4 => refine' PD.defF_mk ?a ?l ?c ?k; (case a => k_is); (case l => k_is); (case c => k_is); (case k => k_is))
    (case d5 => refine' PD.defD_mk ?a ?l ?c ?k ?t ?d ?v ?hne; (case a => k_is); (case l => k_is); (case c => k_is); (case k => k_is); (case t => k_is); (case d => rfl); (case v => exact .cons ⟨_, rfl⟩ .nil); (case hne => exact List.cons_ne_nil _ _))
    (case d6 => refine' PD.defF_mk ?a ?l ?c ?k; (case a => k_is); (case l => k_is); (case c => k_is); (case k => k_is))
    (case d7 => refine' PD.defF_mk ?a ?l ?c ?k; (case a => k_is); (case l => k_is); (case c => k_is); (case k => k_is))
    (case d8 => refine' PD.defF_mk ?a ?l ?c ?k; (case a => k_is); (case l => k_is); (case c => k_is); (case k => k_is))
    (case d9 => refine' PD.defF_mk ?a ?l ?c ?k; (case a => k_is); (case l => k_is); (case c => k_is); (case k => k_is))
    (case d10 => refine' PD.defF_mk ?a ?l ?c ?k; (case a => k_is); (case l => k_is); (case c => k_is); (case k => k_is))
    (case d11 => refine' PD.defF_mk ?a ?l ?c ?k; (case a => k_is); (case l => k_is); (case c => k_is); (case k => k_is))
    (case d12 => refine' PD.defF_mk ?a ?l ?c ?k; (case a => k_is); (case l => k_is); (case c => k_is); (case k => k_is))
    (case d13 => refine' PD.defF_mk ?a ?l ?c ?k; (case a => k_is); (case l => k_is); (case c => k_is); (case k => k_is))
    (case d14 => refine' PD.defF_mk ?a ?l ?c ?k; (case a => k_is); (case l => k_is); (case c => k_is); (case k => k_is))
    (case d15 => refine' PD.defF_mk ?a ?l ?c ?k; (case a => k_is); (case l => k_is); (case c => k_is); (case k => k_is))
    (case d16 => refine' PD.defF_mk ?a ?l ?c ?k; (case a => k_is); (case l => k_is); (case c => k_is); (case k => k_is))
    (case d17 => refine' PD.defF_mk ?a ?l ?c ?k; (case a => k_is); (case l => k_is); (case c => k_is); (case k => k_is))
    (case d18 => refine' PD.defF_mk ?a ?l ?c ?k; (case a => k_is); (case l => k_is); (case c => k_is); (case k => k_is))
    (case d19 => refine' PD.defF_mk ?a ?l ?c ?k; (case a => k_is); (case l => k_is); (case c => k_is); (case k => k_is))
    (case d20 => refine' PD.defF_mk ?a ?l ?c ?k; (case a => k_is); (case l => k_is); (case c => k_is); (case k => k_is))
    (case d21 => refine' PD.defF_mk ?a ?l ?c ?k; (case a => k_is); (case l => k_is); (case c => k_is); (case k => k_is))
    (case d22 => refine' PD.defF_mk ?a ?l ?c ?k; (case a => k_is); (case l => k_is); (case c => k_is); (case k => k_is))
    (case d23 => refine' PD.defF_mk ?a ?l ?c ?k; (case a => k_is); (case l => k_is); (case c => k_is); (case k => k_is))
    (case d24 => refine' PD.defF_mk ?a ?l ?c ?k; (case a => k_is); (case l => k_is); (case c => k_is); (case k => k_is))
    (case d25 => refine' PD.defF_mk ?a ?l ?c ?k; (case a => k_is); (case l => k_is); (case c => k_is); (case k => k_is))
    (case d26 => refine' PD.defF_mk ?a ?l ?c ?k; (case a => k_is); (case l => k_is); (case c => k_is); (case k => k_is))
    (case d27 => refine' PD.defF_mk ?a ?l ?c ?k; (case a => k_is); (case l => k_is); (case c => k_is); (case k => k_is))
    (case d28 => refine' PD.defF_mk ?a ?l ?c ?k; (case a => k_is); (case l => k_is); (case c => k_is); (case k => k_is))
    (case d29 => refine' PD.defF_mk ?a ?l ?c ?k; (case a => k_is); (case l => k_is); (case c => k_is); (case k => k_is))
    (case d30 => refine' PD.defF_mk ?a ?l ?c ?k; (case a => k_is); (case l => k_is); (case c => k_is); (case k => k_is))
    (case d31 => refine' PD.defF_mk ?a ?l ?c ?k; (case a => k_is); (case l => k_is); (case c => k_is); (case k => k_is))
    (case d32 => refine' PD.defF_mk ?a ?l ?c ?k; (case a => k_is); (case l => k_is); (case c => k_is); (case k => k_is))
    (case d33 => refine' PD.defF_mk ?a ?l ?c ?k; (case a => k_is); (case l => k_is); (case c => k_is); (case k => k_is))
    (case d34 => refine' PD.defF_mk ?a ?l ?c ?k; (case a => k_is); (case l => k_is); (case c => k_is); (case k => k_is))
    (case d35 => refine' PD.defF_mk ?a ?l ?c ?k; (case a => k_is); (case l => k_is); (case c => k_is); (case k => k_is))
    (case d36 => refine' PD.defF_mk ?a ?l ?c ?k; (case a => k_is); (case l => k_is); (case c => k_is); (case k => k_is))
    (case d37 => refine' PD.defF_mk ?a ?l ?c ?k; (case a => k_is); (case l => k_is); (case c => k_is); (case k => k_is))
    (case d38 => refine' PD.defF_mk ?a ?l ?c ?k; (case a => k_is); (case l => k_is); (case c => k_is); (case k => k_is))
    (case d39 => refine' PD.defF_mk ?a ?l ?c ?k; (case a => k_is); (case l => k_is); (case c => k_is); (case k => k_is))
    (case d40 => refine' PD.defF_mk ?a ?l ?c ?k; (case a => k_is); (case l => k_is); (case c => k_is); (case k => k_is))
    (case d41 => refine' PD.defF_mk ?a ?l ?c ?k; (case a => k_is); (case l => k_is); (case c => k_is); (case k => k_is))
    (case d42 => refine' PD.defF_mk ?a ?l ?c ?k; (case a => k_is); (case l => k_is); (case c => k_is); (case k => k_is))
    (case e0 => refine' ⟨?h1, ?h2, ?h3, ?h4⟩; (case h1 => k_is); (case h2 => k_is); (case h3 => k_is); (case h4 => k_is))
    (case e1 => refine' PD.excF_mk ?h1 ?h2 ?hbm ?h3 ?h4 ?h5 ?h6 ?h7 ?h8 ?h9 ?ha ?hn ?ht ?hm ?no ?iC ?tI ?l ?c ?k ?isC; (case h1 => k_is); (case h2 => k_is); (case hbm => decide +kernel); (case h3 => k_is); (case h4 => k_is); (case h5 => k_is); (case h6 => k_is); (case h7 => k_is); (case h8 => k_is); (case h9 => k_is); (case ha => k_is); (case hn => k_is); (case ht => k_is); (case hm => k_is); (case no => intro f hf; simp only [List.mem_cons, List.not_mem_nil, or_false] at hf; subst hf; k_is); (case iC => k_is); (case tI => k_is); (case l => k_is); (case c => k_is); (case k => k_is); (case isC => k_is))
    (case e2 => refine' PD.excF_mk ?h1 ?h2 ?hbm ?h3 ?h4 ?h5 ?h6 ?h7 ?h8 ?h9 ?ha ?hn ?ht ?hm ?no ?iC ?tI ?l ?c ?k ?isC; (case h1 => k_is); (case h2 => k_is); (case hbm => decide +kernel); (case h3 => k_is); (case h4 => k_is); (case h5 => k_is); (case h6 => k_is); (case h7 => k_is); (case h8 => k_is); (case h9 => k_is); (case ha => k_is); (case hn => k_is); (case ht => k_is); (case hm => k_is); (case no => intro f hf; simp only [List.mem_cons, List.not_mem_nil, or_false] at hf; subst hf; k_is); (case iC => k_is); (case tI => k_is); (case l => k_is); (case c => k_is); (case k => k_is); (case isC => k_is))
    (case e3 => refine' PD.excF_mk ?h1 ?h2 ?hbm ?h3 ?h4 ?h5 ?h6 ?h7 ?h8 ?h9 ?ha ?hn ?ht ?hm ?no ?iC ?tI ?l ?c ?k ?isC; (case h1 => k_is); (case h2 => k_is); (case hbm => decide +kernel); (case h3 => k_is); (case h4 => k_is); (case h5 => k_is); (case h6 => k_is); (case h7 => k_is); (case h8 => k_is); (case h9 => k_is); (case ha => k_is); (case hn => k_is); (case ht => k_is); (case hm => k_is); (case no => intro f hf; simp only [List.mem_cons, List.not_mem_nil, or_false] at hf; subst hf; k_is); (case iC => k_is); (case tI => k_is); (case l => k_is); (case c => k_is); (case k => k_is); (case isC => k_is))
    (case z_isinstance => k_is)
    (case z_int => k_is)
    (case z_bool => k_is)
    (case z_tuple => k_is)
    (case z_len => k_is)
    (case z_list => k_is)
    (case z_FORM_LAST => k_is)
    (case z_enumerate => k_is)
    (case z_range => k_is)
    (case z_min => k_is)
    (case z_max => k_is)
    (case z_abs => k_is)
    (case z_ValueError => k_is)
    (case s_1_2 => k_is)
    (case s_1_1 => k_is)
    (case s_1_3 => k_is)
    (case s_1_0 => k_is)
    (case s_1_90 => k_is)
    (case s_2_2 => k_is)
    (case s_2_1 => k_is)
    (case s_2_3 => k_is)
    (case s_2_0 => k_is)
    (case s_2_90 => k_is)
    (case s_3_2 => k_is)
    (case s_3_1 => k_is)
    (case s_3_3 => k_is)
    (case s_3_0 => k_is)
    (case s_3_90 => k_is)
    (case b_ValueError => k_is)
    (case r_0 => first | rfl | k_is)
    (case r_1 => first | rfl | k_is)
    (case r_2 => first | rfl | k_is)
    (case r_3 => first | rfl | k_is)

