import PyProof.Rows.All
import Wide.All
import OpenK.AllK
import Wide.FinOn
import HandS.ForMost
import HandS.Wide
import HandS.ForExc
import HandS.More
import HandS.Deep
import HandS.TupAny
import HandS.IsInst
import HandS.Style
import HandS.RaiseMore
import HandS.Text
import HandS.WordsDict
import HandS.FStr
import HandS.Walk
import HandS.ExcField
import HandS.ExcIs
import HandS.Defaults
import HandS.Property
import KE.KOpsOwn
import HandS.ExcSuper
import HandS.ExcInit
import KE.KSuper
import HandS.HeadHook1
import HandS.HeadHook2
import KE.KStateDown
import HandS.Head0
import HandS.Head1
import HandS.Head2
import HandS.HeadEnd
import PySem.Challenge.RW_shimcard_k01_form_values
set_option Elab.async false
set_option linter.all false
set_option maxRecDepth 100000
set_option maxHeartbeats 0
namespace VE
open PySem L2

/-- frozen values -/
inductive D where
  | non | bl (b : Bool) | int (i : Int) | str (s : Str)
  | tup (xs : List D) | lst (xs : List D)
  | dct (ks : List Key) (vs : List D)
  | obj (c : Nat) (vs : List D)
  | glo (g : Nat)
  | exn

/-- what a slot or a field owns -/
inductive Cell where
  | val (d : D)
  | lst (xs : List D)
  | dct (ks : List Key) (vs : List D)
  | lck
inductive O where
  | cell (c : Cell)
  | obj (c : Nat) (cs : List Cell)

def Cell.d : Cell → D
  | .val d => d
  | .lst xs => .lst xs
  | .dct ks vs => .dct ks vs
  | .lck => .exn
def O.frz : O → D
  | .cell c => c.d
  | .obj c cs => .obj c (cs.map Cell.d)
abbrev O.v (d : D) : O := .cell (.val d)
def O.isV : O → Bool
  | .cell (.val _) => true
  | _ => false

def O.isDct : O → Bool
  | .cell (.dct _ _) => true
  | _ => false

abbrev Env := List (Option O)
def gt (env : Env) (i : Nat) : Option O := match env[i]? with
  | some o => o
  | none => none

/-- an exception: its class, its fields -/
structure X where
  c : Nat
  fs : List D

inductive Out (α : Type) where
  | ok (a : α) (env : Env)
  | exc (x : X) (env : Env)
  | bad
def Out.bind {α β : Type} : Out α → (α → Env → Out β) → Out β
  | .ok a env, f => f a env
  | .exc x env, _ => .exc x env
  | .bad, _ => .bad
def Out.map {α β : Type} (f : α → β) : Out α → Out β
  | .ok a env => .ok (f a) env
  | .exc x env => .exc x env
  | .bad => .bad
inductive FOut where
  | ok (r : O) (fin : List O)
  | exc (x : X) (fin : List O)
  | bad
/-- what stands around a def's body: the calls, the makings, the kept slots, the exception that is handled -/
structure Ge where
  C : Nat → List O → FOut
  M : Nat → List O → FOut
  lk : List Bool
  xl : List Nat
  xc : Option (Nat × X)
def lift {α : Type} (o : Option α) (env : Env) : Out α := match o with
  | some a => .ok a env
  | none => .bad

abbrev Calls := Nat → List O → FOut

inductive Ty where
  | int | bool | str | tup | lst
  deriving DecidableEq
inductive B1 where
  | neg | notB | isN | notN | isT | isF | notT | notF
  | len | sum | all | any | int | str | sortS | tupL | lstL | dctC | abs | maxL | minL | maxD | minD
  | isi (t : Ty) | isC (c : Nat)
  deriving DecidableEq
inductive B2 where
  | add | sub | mul | div | mod | pow | shl
  | addS | catL | catT
  | lt | le | gt | ge | eq | ne
  | inQ | notInQ | inT | notInT | inS | notInS | inK | notInK
  | ix | ixS | ixK
  | index | join | split | part | max2 | min2 | eqK
  deriving DecidableEq
/-- how a def is called -/
inductive CK where
  | fn | meth (c : Nat) | prop (c : Nat) | inst (c : Nat) | op (o : Operator) (c : Nat) | rop (o : Operator) (c : Nat) | neg (c : Nat)
  | cmp (o : CmpOp) (c : Nat) | rcmp (o : CmpOp) (c : Nat) | has (c : Nat) | hasNot (c : Nat)
  deriving DecidableEq
/-- the class that the first operand must be of, ahead of the others -/
def CK.fst : CK → Option Nat
  | .meth c => some c
  | .prop c => some c
  | .inst c => some c
  | .neg c => some c
  | _ => none
/-- the class that self must be of, behind all -/
def CK.slf : CK → Option Nat
  | .op _ c => some c
  | .rop _ c => some c
  | .cmp _ c => some c
  | .rcmp _ c => some c
  | .has c => some c
  | .hasNot c => some c
  | _ => none
inductive Tgt where
  | one (i : Nat)
  | many (is : List Nat)
  deriving DecidableEq
inductive ItK where
  | lst | tup | str | dct | rng1 | rng2 | rng3 | enum | zip | rev | dyn
  deriving DecidableEq

inductive E where
  | var (i : Nat) | mv (i : Nat) | plc (i : Nat) | plcf (i c f : Nat) | io (i : Nat)
  | k (d : D) | glo (g : Nat) | gstr (g : Nat) (s : Str)
  | b1 (o : B1) (a : E) | b2 (o : B2) (a b : E) | bd (os : List B2) (a b : E) | chain (o p : B2) (a b c : E)
  | own (op : Operator) (os : List B2) (c f rf : Nat) (a b : E) | ownc (op : CmpOp) (os : List B2) (c f rf : Nat) (a b : E) | own1 (c f : Nat) (a : E)
  | and (a b : E) | or (a b : E) | ite (c a b : E)
  | slc (a : E) (lo hi : Option E)
  | fld (a : E) (c f : Nat)
  | tup (es : List E) | lst (es : List E) | dct (ks : List Str) (es : List E)
  | call (k : CK) (f : Nat) (es : List E) (kw : Nat) (dfl : List D)
  | make (c : Nat) (f : Nat) (es : List E) (dfl : List D)
  | prop (es : List E) (c f : Nat)
  | has (ng : Bool) (c f : Nat) (a : E) (i : Nat)
  | comp (elt : E) (t : Tgt) (ik : ItK) (its : List E) (cond : Option E)
  | pop (i : Nat) (f : Option (Nat × Nat))
  | fst (es : List E)
  | efld (i k f : Nat) | eisi (i c : Nat)

def litems : D → Option (List D)
  | .lst xs => some xs
  | .tup xs => some xs
  | _ => none
mutual
def D.py : D → Option PyData
  | .non => some .none
  | .bl b => some (.bool b)
  | .int i => some (.int i)
  | .str s => some (.str s)
  | .tup xs => (D.pys xs).map .tuple
  | .lst xs => (D.pys xs).map .list
  | _ => none
def D.pys : List D → Option (List PyData)
  | [] => some []
  | x :: xs => match D.py x, D.pys xs with
    | some p, some ps => some (p :: ps)
    | _, _ => none
end
/-- ==, where both are plain data -/
def eqD (a b : D) : Option Bool := match a.py, b.py with
  | some p, some q => if SeqAt.shaped p && SeqAt.shaped q then some (PyData.eqv p q) else none
  | _, _ => none
def asInt : D → Option Int
  | .int i => some i
  | _ => none
def asStr : D → Option Str
  | .str s => some s
  | _ => none
def asBl : D → Option Bool
  | .bl b => some b
  | _ => none
def allOf {α : Type} (f : D → Option α) : List D → Option (List α)
  | [] => some []
  | x :: xs => match f x, allOf f xs with
    | some a, some as => some (a :: as)
    | _, _ => none
def kD : Key → D
  | .inl i => .int i
  | .inr s => .str s
def keyOf : D → Option Key
  | .int i => some (.inl i)
  | .str s => some (.inr s)
  | _ => none
def look : List Key → List D → Key → Option D
  | k :: ks, v :: vs, x => if k = x then some v else look ks vs x
  | _, _, _ => none
/-- the dict with the key stored: keys, values -/
def rep : List Key → List D → Key → D → List D
  | k :: ks, v :: vs, x, d => (if k = x then d else v) :: rep ks vs x d
  | _, _, _, _ => []
def put (ks : List Key) (vs : List D) (x : Key) (d : D) : List Key × List D := if ks.any (fun k => decide (k = x)) then (ks, rep ks vs x d) else (ks ++ [x], vs ++ [d])
/-- texts in order, by insertion -/
def leS (a b : Str) : Bool := decide (a.cps.toList ≤ b.cps.toList)
def insS (x : Str) : List Str → List Str
  | [] => [x]
  | y :: ys => if leS x y then x :: y :: ys else y :: insS x ys
def sortS : List Str → List Str
  | [] => []
  | x :: xs => insS x (sortS xs)
def mulOk (i j : Int) : Bool := decide ((-(2 ^ 64) < i ∧ i < 2 ^ 64) ∨ (-(2 ^ 64) < j ∧ j < 2 ^ 64)) || decide (i.natAbs.log2 + j.natAbs.log2 < 1000000)
def divOk (j : Int) : Bool := decide (0 < j ∧ j.natAbs.log2 < 9000)
def maxI : Int → List Int → Int
  | m, [] => m
  | m, x :: xs => maxI (if x > m then x else m) xs
def minI : Int → List Int → Int
  | m, [] => m
  | m, x :: xs => minI (if x < m then x else m) xs
def tyIs : Ty → D → Option Bool
  | t, .non => some false
  | t, .bl _ => some (decide (t = .bool ∨ t = .int))
  | t, .int _ => some (decide (t = .int))
  | t, .str _ => some (decide (t = .str))
  | t, .tup _ => some (decide (t = .tup))
  | t, .lst _ => some (decide (t = .lst))
  | t, .obj _ _ => some false
  | _, _ => none
def len? (n : Nat) : Option O := if n ≤ sizeLine then some (.v (.int n)) else none
def newL (xs : List D) : Option O := if xs.length ≤ sizeLine then some (.cell (.lst xs)) else none
def newT (xs : List D) : Option O := if xs.length ≤ sizeLine then some (.v (.tup xs)) else none
def isNonD : D → Bool
  | .non => true
  | _ => false
def b1 : B1 → D → Option O
  | .neg, .int i => some (.v (.int (-i)))
  | .notB, .bl b => some (.v (.bl (!b)))
  | .isN, d => some (.v (.bl (isNonD d)))
  | .notN, d => some (.v (.bl (!isNonD d)))
  | .isT, d => (asBl d).map fun b => .v (.bl b)
  | .isF, d => (asBl d).map fun b => .v (.bl (!b))
  | .notT, d => (asBl d).map fun b => .v (.bl (!b))
  | .notF, d => (asBl d).map fun b => .v (.bl b)
  | .len, .str s => len? s.length
  | .len, .dct ks _ => some (.v (.int ks.length))
  | .len, d => (litems d).bind fun xs => len? xs.length
  | .sum, .lst xs => (allOf asInt xs).map fun is => .v (.int is.sum)
  | .all, .lst xs => (allOf asBl xs).map fun bs => .v (.bl (bs.all id))
  | .any, .lst xs => (allOf asBl xs).map fun bs => .v (.bl (bs.any id))
  | .int, .int i => some (.v (.int i))
  | .int, .bl b => some (.v (.int (if b then 1 else 0)))
  | .int, .str s => if s.length ≤ 640 then (PySem.intText? s).map fun n => .v (.int n) else none
  | .str, .str s => some (.v (.str s))
  | .str, .int i => if i.natAbs.log2 < 1920 then some (.v (.str (toString i))) else none
  | .sortS, .lst xs => (allOf asStr xs).bind fun ss => if ss.length < 64 then some (.cell (.lst ((sortS ss).map .str))) else none
  | .tupL, .lst xs => newT xs
  | .tupL, .tup xs => newT xs
  | .lstL, .lst xs => newL xs
  | .lstL, .tup xs => newL xs
  | .dctC, .dct ks vs => some (.cell (.dct ks vs))
  | .abs, .int i => some (.v (.int (if i < 0 then -i else i)))
  | .maxL, .lst xs => (allOf asInt xs).bind fun is => match is with | i :: r => some (.v (.int (maxI i r))) | [] => none
  | .minL, .lst xs => (allOf asInt xs).bind fun is => match is with | i :: r => some (.v (.int (minI i r))) | [] => none
  | .maxD, .lst xs => (allOf asInt xs).bind fun is => match is with | i :: r => some (.v (.int (maxI i r))) | [] => some (.v .non)
  | .minD, .lst xs => (allOf asInt xs).bind fun is => match is with | i :: r => some (.v (.int (minI i r))) | [] => some (.v .non)
  | .isi t, d => (tyIs t d).map fun b => .v (.bl b)
  | .isC c, .obj c' _ => some (.v (.bl (decide (c = c'))))
  | .isC _, .int _ => some (.v (.bl false))
  | _, _ => none
/-- x in a list of data; the first place of x -/
def inP (x : D) (xs : List D) : Option Bool := match x.py, D.pys xs with
  | some d, some ds => if SeqAt.shaped d && SeqAt.shaped (.list ds) then some (ds.any fun z => PyData.eqv z d) else none
  | _, _ => none
def firstP (d : PyData) : List PyData → Nat → Option Nat
  | [], _ => none
  | z :: zs, n => if PyData.eqv z d then some n else firstP d zs (n + 1)
def indexP (x : D) (xs : List D) : Option Nat := match x.py, D.pys xs with
  | some d, some ds => if SeqAt.shaped d && SeqAt.shaped (.list ds) then firstP d ds 0 else none
  | _, _ => none
/-- x in a tuple of ints, of texts -/
def inTup (x : D) (xs : List D) : Option Bool := match x with
  | .int i => (allOf asInt xs).map fun is => decide (i ∈ is)
  | .str s => (allOf asStr xs).map fun ss => decide (s ∈ ss)
  | _ => none
def cut (xs : List D) (lo hi : Option Int) : List D := (xs.drop (HT.sIx xs.length 0 lo)).take (HT.sIx xs.length xs.length hi - HT.sIx xs.length 0 lo)
def bO (b : Bool) : Option O := some (.v (.bl b))
def iO (i : Int) : Option O := some (.v (.int i))
/-- alike, whole numbers all -/
def eqKI : List D → List D → Bool
  | [], [] => true
  | .int i :: vs, .int j :: ws => decide (i = j) && eqKI vs ws
  | _, _ => false
def b2 : B2 → D → D → Option O
  | .add, .int i, .int j => iO (i + j)
  | .sub, .int i, .int j => iO (i - j)
  | .mul, .int i, .int j => if mulOk i j then iO (i * j) else none
  | .div, .int i, .int j => if divOk j then iO (i / j) else none
  | .mod, .int i, .int j => if 0 < j then iO (i % j) else none
  | .pow, .int i, .int j => if 0 ≤ j ∧ j ≤ 1000000 ∧ i.natAbs < 2 ^ 64 then iO (i ^ j.toNat) else none
  | .shl, .int i, .int j => if 0 ≤ j ∧ j ≤ 1000000 ∧ i.natAbs < 2 ^ 64 then iO (i * 2 ^ j.toNat) else none
  | .addS, .str a, .str b => if a.length + b.length ≤ sizeLine then some (.v (.str (a ++ b))) else none
  | .catL, .lst a, .lst b => if a.length + b.length ≤ sizeLine then some (.cell (.lst (a ++ b))) else none
  | .catT, .tup a, .tup b => if a.length + b.length ≤ sizeLine ∧ a ≠ [] then some (.v (.tup (a ++ b))) else none
  | .lt, .int i, .int j => bO (decide (i < j))
  | .le, .int i, .int j => bO (decide (i ≤ j))
  | .gt, .int i, .int j => bO (decide (j < i))
  | .ge, .int i, .int j => bO (decide (j ≤ i))
  | .eq, a, b => (eqD a b).bind bO
  | .ne, a, b => (eqD a b).bind fun r => bO (!r)
  | .inQ, x, .lst xs => (inP x xs).bind bO
  | .notInQ, x, .lst xs => (inP x xs).bind fun r => bO (!r)
  | .inT, x, .tup xs => (inTup x xs).bind bO
  | .notInT, x, .tup xs => (inTup x xs).bind fun r => bO (!r)
  | .inS, .str a, .str b => bO (!(Builtin.Str.occurrences b a 0 b.length 1).isEmpty)
  | .notInS, .str a, .str b => bO (!(!(Builtin.Str.occurrences b a 0 b.length 1).isEmpty))
  | .inK, x, .dct ks vs => (keyOf x).bind fun k => bO (look ks vs k).isSome
  | .notInK, x, .dct ks vs => (keyOf x).bind fun k => bO (!(look ks vs k).isSome)
  | .ix, d, .int i => (litems d).bind fun xs => (atI xs i).map O.v
  | .ixS, .str s, .int i => if s.length ≤ sizeLine then (atI s.cps.toList i).map fun c => .v (.str ⟨#[c]⟩) else none
  | .ixK, .dct ks vs, x => (keyOf x).bind fun k => (look ks vs k).map O.v
  | .index, .lst xs, x => (indexP x xs).bind fun n => iO n
  | .join, .str s, d => (litems d).bind fun xs => (allOf asStr xs).bind fun ys => if (ys.map (·.length)).sum + ys.length * s.length ≤ 16777216 then some (.v (.str (Txt.join s ys))) else none
  | .split, .str s, .str t => if t.length ≠ 0 ∧ s.length + 2 ≤ sizeLine then some (.cell (.lst ((Txt.split s t).map .str))) else none
  | .part, .str s, .str t => if t.length ≠ 0 ∧ s.length ≤ sizeLine then some (.v (.tup [.str (Txt.partition s t).1, .str (Txt.partition s t).2.1, .str (Txt.partition s t).2.2])) else none
  | .eqK, .dct ks vs, .dct ls ws => if ks = ls ∧ eqKI vs ws = true ∧ ks.Nodup then bO true else none
  | .max2, .int i, .int j => iO (if j > i then j else i)
  | .min2, .int i, .int j => iO (if j < i then j else i)
  | _, _, _ => none
/-- what is asked of the first operand ahead of the second -/
def pre : B2 → D → Bool
  | .join, .str _ => true
  | .split, .str _ => true
  | .part, .str _ => true
  | .index, .lst _ => true
  | .join, _ => false
  | .split, _ => false
  | .part, _ => false
  | .index, _ => false
  | _, _ => true
/-- the first operation that fits -/
def pick : List B2 → D → D → Option O
  | [], _, _ => none
  | o :: os, x, y => match b2 o x y with
    | some r => some r
    | none => pick os x y
/-- whose operator it is: the first operand's, the second one's, nobody's -/
inductive Side where
  | fst | snd | no | bad
def ownSide (c : Nat) : D → D → Side
  | .obj k _, .obj l _ => if k = c ∧ l = c then .fst else .bad
  | .obj k _, .int _ => if k = c then .fst else .bad
  | .int _, .obj k _ => if k = c then .snd else .bad
  | .obj _ _, _ => .bad
  | _, .obj _ _ => .bad
  | _, _ => .no
def slcD (d : D) (lo hi : Option Int) : Option O := match d with
  | .lst xs => some (.cell (.lst (cut xs lo hi)))
  | .tup xs => some (.v (.tup (cut xs lo hi)))
  | .str s => if s.length ≤ sizeLine then some (.v (.str (cutS s lo hi))) else none
  | _ => none
def fldD (d : D) (c f : Nat) : Option O := match d with
  | .obj c' vs => if c = c' then (vs[f]?).map O.v else none
  | _ => none
def rng (a : Int) (c : Int) : Nat → List D
  | 0 => []
  | n + 1 => .int a :: rng (a + c) c n
def enumD : Nat → List D → List D
  | _, [] => []
  | n, x :: xs => .tup [.int n, x] :: enumD (n + 1) xs
def zipD : List D → List D → List D
  | x :: xs, y :: ys => .tup [x, y] :: zipD xs ys
  | _, _ => []
def big (i : Int) : Bool := decide (-(2 ^ 62) ≤ i ∧ i < 2 ^ 62)
/-- what a for walks -/
def itD : ItK → List D → Option (List D)
  | .lst, [.lst xs] => some xs
  | .dyn, [.lst xs] => some xs
  | .dyn, [.tup xs] => some xs
  | .dyn, [.str s] => some (s.cps.toList.map fun c => .str ⟨#[c]⟩)
  | .tup, [.tup xs] => some xs
  | .str, [.str s] => some (s.cps.toList.map fun c => .str ⟨#[c]⟩)
  | .dct, [.dct ks _] => some (ks.map kD)
  | .rng1, [.int j] => if big j then some (rng 0 1 j.toNat) else none
  | .rng2, [.int i, .int j] => if big i && big j then some (rng i 1 (j - i).toNat) else none
  | .enum, [.lst xs] => some (enumD 0 xs)
  | .zip, [.lst xs, .lst ys] => if xs.length = ys.length then some (zipD xs ys) else none
  | .rev, [.lst xs] => some xs.reverse
  | _, _ => none
def txtOf : D → Option Str
  | .str s => if s.length ≤ sizeLine then some s else none
  | .int i => if i.natAbs.log2 < 1920 then some (toString i) else none
  | _ => none
def glue : Str → List D → Option Str
  | acc, [] => some acc
  | acc, d :: ds => (txtOf d).bind fun y => if (acc ++ y).length ≤ sizeLine then glue (acc ++ y) ds else none

def setS (env : Env) (i : Nat) (o : O) : Env := env.set i (some o)
/-- the lock: a parameter's slot that owns what the caller owns -/
def okAsg (lk : List Bool) (i : Nat) : Bool := match lk[i]? with
  | some true => false
  | _ => true
def asgMany : List Nat → List D → Env → Option Env
  | [], [], env => some env
  | i :: is, d :: ds, env => asgMany is ds (setS env i (.v d))
  | _, _, _ => none
def asgT (lk : List Bool) (t : Tgt) (d : D) (env : Env) : Option Env := match t with
  | .one i => if okAsg lk i then some (setS env i (.v d)) else none
  | .many is => if is.all (okAsg lk) then (match d with
    | .tup xs => asgMany is xs env
    | _ => none) else none
def tslots : Tgt → List Nat
  | .one i => [i]
  | .many is => is
def wipeE (env : Env) : List Nat → Env
  | [] => env
  | i :: is => (wipeE env is).set i none
/-- the slots of a comprehension's own names as they were ahead of it -/
def restore (old : Env) : List Nat → Env → Env
  | [], env => env
  | i :: is, env => (restore old is env).set i (gt old i)

/-- a dict that is walked stands in a slot, locked -/
def lockS (ik : ItK) (its : List E) : Option (Option Nat) := match ik, its with
  | .dct, [.plc i] => some (some i)
  | .dct, _ => none
  | _, _ => some none
def lockOk (l : Option Nat) (env : Env) : Bool := match l with
  | none => true
  | some i => match gt env i with
    | some o => o.isDct
    | none => false
def lockE (l : Option Nat) (env : Env) : Env := match l with
  | some i => setS env i (.cell .lck)
  | none => env
def unlockE (l : Option Nat) (old env : Env) : Env := match l with
  | some i => env.set i (gt old i)
  | none => env
/-- a snapshot of a place -/
def snap (env : Env) (i : Nat) : Option D := (gt env i).map O.frz
def snapF (env : Env) (i c f : Nat) : Option D := match gt env i with
  | some (.obj c' cs) => if c = c' then (cs[f]?).map Cell.d else none
  | some (.cell (.val (.obj c' vs))) => if c = c' then vs[f]? else none
  | _ => none
/-- a value that is looked at only -/
def bor (e : E) (r : Out O) (env : Env) : Out D := match e with
  | .plc i => lift (snap env i) env
  | .plcf i c f => lift (snapF env i c f) env
  | _ => r.map O.frz

def O.cls : O → Option Nat
  | .obj c _ => some c
  | .cell (.val (.obj c _)) => some c
  | _ => none
def clsOk (ck : Option Nat) (o : Option O) : Bool := match ck with
  | none => true
  | some c => decide (o.bind O.cls = some c)
/-- the error classes: 0 ValueError, 1 CardError, the others below it -/
def subC (c d : Nat) : Bool := decide (c = d ∨ d = 0 ∨ (d = 1 ∧ c ≠ 0))
/-- an argument: a new thing, or a slot by reference -/
inductive A where
  | t (o : O)
  | s (i : Nat)
def argO (env : Env) : List A → Option (List O)
  | [] => some []
  | .t o :: r => (argO env r).map (o :: ·)
  | .s i :: r => match gt env i, argO env r with
    | some o, some os => some (o :: os)
    | _, _ => none
def argsS : List A → List Nat
  | [] => []
  | .t _ :: r => argsS r
  | .s i :: r => i :: argsS r
def backA : List A → List O → Env → Env
  | .s i :: r, o :: os, env => backA r os (setS env i o)
  | .t _ :: r, _ :: os, env => backA r os env
  | _, _, env => env
def runCall (C : Calls) (k : CK) (f : Nat) (as : List A) (dfl : List D) (env : Env) : Out O :=
  if (argsS as).Nodup then match argO env as with
    | some os => if clsOk k.slf os.head? then (match C f (os ++ dfl.map O.v) with
      | .ok r fin => .ok r (backA as fin env)
      | .exc x fin => .exc x (backA as fin env)
      | .bad => .bad) else .bad
    | none => .bad
  else .bad
/-- a new object, by its __init__ -/
def runMake (C : Calls) (c f : Nat) (as : List A) (dfl : List D) (env : Env) : Out O :=
  if (argsS as).Nodup then match argO env as with
    | some os => match C f (.obj c [] :: (os ++ dfl.map O.v)) with
      | .ok (.cell (.val .non)) (o :: fin) => .ok o (backA as fin env)
      | .exc x (_ :: fin) => .exc x (backA as fin env)
      | _ => .bad
    | none => .bad
  else .bad
def turnArgs (k : CK) (as : List A) : List A := match k, as with
  | .rop _ _, [a, b] => [b, a]
  | .rcmp _ _, [a, b] => [b, a]
  | .has _, [a, b] => [b, a]
  | .hasNot _, [a, b] => [b, a]
  | _, as => as
def popAt (env : Env) (i : Nat) (f : Option (Nat × Nat)) : Option (D × Env) := match f, gt env i with
  | none, some (.cell (.lst xs)) => (xs.getLast?).map fun d => (d, setS env i (.cell (.lst xs.dropLast)))
  | some (k, f), some (.obj c cs) => if k = c then (match cs[f]? with
    | some (.lst xs) => (xs.getLast?).map fun d => (d, setS env i (.obj c (cs.set f (.lst xs.dropLast))))
    | _ => none) else none
  | _, _ => none

section
variable (g : Ge)
/-- an exception in there is out of reach -/
def noX {α : Type} : Out α → Out α
  | .exc _ _ => .bad
  | r => r
def compGo (lk : List Bool) (elt cond : Env → Out D) (t : Tgt) : List D → Env → List D → Out (List D)
  | [], env, acc => .ok acc env
  | d :: ds, env, acc => match asgT lk t d env with
    | none => .bad
    | some env1 => (cond env1).bind fun b env2 => match b with
      | .bl true => (elt env2).bind fun y env3 => if acc.length < sizeLine then compGo lk elt cond t ds (wipeE env3 (tslots t)) (acc ++ [y]) else .bad
      | .bl false => compGo lk elt cond t ds (wipeE env2 (tslots t)) acc
      | _ => .bad
mutual
def evO : E → Env → Out O
  | .var i, env => match gt env i with
    | some (.cell (.val d)) => .ok (.v d) env
    | some o => .ok (.v o.frz) (setS env i (.v o.frz))
    | none => .bad
  | .mv i, env => match gt env i with
    | some (.cell (.val d)) => .ok (.v d) env
    | some o => if okAsg g.lk i then .ok o (env.set i none) else .bad
    | none => .bad
  | .plc _, _ => .bad
  | .plcf i c f, env => match gt env i with
    | some (.obj c' cs) => if c = c' then (match cs[f]? with
      | some (.val d) => .ok (.v d) env
      | _ => .bad) else .bad
    | some (.cell (.val (.obj c' vs))) => if c = c' then lift ((vs[f]?).map O.v) env else .bad
    | _ => .bad
  | .io _, _ => .bad
  | .k d, env => .ok (.v d) env
  | .glo g, env => .ok (.v (.glo g)) env
  | .gstr _ s, env => .ok (.v (.str s)) env
  | .b1 o a, env => (bor a (evO a env) env).bind fun x env1 => lift (b1 o x) env1
  | .b2 o a b, env => (bor a (evO a env) env).bind fun x env1 => if pre o x then (bor b (evO b env1) env1).bind fun y env2 => lift (b2 o x y) env2 else .bad
  | .bd os a b, env => (bor a (evO a env) env).bind fun x env1 => (bor b (evO b env1) env1).bind fun y env2 => lift (pick os x y) env2
  | .own _ os c f rf a b, env => ((evO a env).map O.frz).bind fun x env1 => ((evO b env1).map O.frz).bind fun y env2 => match ownSide c x y with
    | .fst => runCall g.C .fn f [.t (.v x), .t (.v y)] [] env2
    | .snd => runCall g.C .fn rf [.t (.v y), .t (.v x)] [] env2
    | .no => lift (pick os x y) env2
    | .bad => .bad
  | .ownc _ os c f rf a b, env => ((evO a env).map O.frz).bind fun x env1 => ((evO b env1).map O.frz).bind fun y env2 => match ownSide c x y with
    | .fst => runCall g.C .fn f [.t (.v x), .t (.v y)] [] env2
    | .snd => runCall g.C .fn rf [.t (.v y), .t (.v x)] [] env2
    | .no => lift (pick os x y) env2
    | .bad => .bad
  | .own1 c f a, env => ((evO a env).map O.frz).bind fun x env1 => match x with
    | .obj k _ => if k = c then runCall g.C .fn f [.t (.v x)] [] env1 else .bad
    | .int i => .ok (.v (.int (-i))) env1
    | _ => .bad
  | .chain o p a b c, env => (bor a (evO a env) env).bind fun x env1 => (bor b (evO b env1) env1).bind fun y env2 => match b2 o x y with
    | some (.cell (.val (.bl true))) => (bor c (evO c env2) env2).bind fun z env3 => lift (b2 p y z) env3
    | some (.cell (.val (.bl false))) => .ok (.v (.bl false)) env2
    | _ => .bad
  | .and a b, env => ((evO a env).map O.frz).bind fun x env1 => match x with
    | .bl true => ((evO b env1).map O.frz).bind fun y env2 => match y with
      | .bl r => .ok (.v (.bl r)) env2
      | _ => .bad
    | .bl false => .ok (.v (.bl false)) env1
    | _ => .bad
  | .or a b, env => ((evO a env).map O.frz).bind fun x env1 => match x with
    | .bl false => ((evO b env1).map O.frz).bind fun y env2 => match y with
      | .bl r => .ok (.v (.bl r)) env2
      | _ => .bad
    | .bl true => .ok (.v (.bl true)) env1
    | _ => .bad
  | .ite c a b, env => ((evO c env).map O.frz).bind fun x env1 => match x with
    | .bl true => evO a env1
    | .bl false => evO b env1
    | _ => .bad
  | .slc a lo hi, env => (bor a (evO a env) env).bind fun x env1 => (evP lo env1).bind fun l env2 => (evP hi env2).bind fun h env3 => lift (slcD x l h) env3
  | .fld a c f, env => ((evO a env).map O.frz).bind fun x env1 => lift (fldD x c f) env1
  | .tup es, env => (evDs es env).bind fun xs env1 => lift (newT xs) env1
  | .lst es, env => (evDs es env).bind fun xs env1 => lift (newL xs) env1
  | .dct ks es, env => (evDs es env).bind fun xs env1 => if ks.length = xs.length ∧ ks.Nodup ∧ ks.length ≤ 15 then .ok (.cell (.dct (ks.map .inr) xs)) env1 else .bad
  | .call k f es _ dfl, env => (evAs k.fst es env).bind fun as env1 => runCall g.C k f (turnArgs k as) dfl env1
  | .prop es c f, env => (evAs (some c) es env).bind fun as env1 => noX (runCall g.M (.prop c) f as [] env1)
  | .make c f es dfl, env => (evAs none es env).bind fun as env1 => runMake g.M c f as dfl env1
  | .comp elt t ik its cond, env => (evBs its env).bind fun ds env1 => match itD ik ds with
    | none => .bad
    | some xs => match lockS ik its with
      | none => .bad
      | some l => if lockOk l env1 then (noX (compGo g.lk (fun e => (evO elt e).map O.frz) (evC cond) t xs (wipeE (lockE l env1) (tslots t)) [])).bind fun r env2 => .ok (.cell (.lst r)) (unlockE l env1 (restore (lockE l env1) (tslots t) env2)) else .bad
  | .has ng c f a i, env => ((evO a env).map O.frz).bind fun x env1 => if clsOk (some c) (gt env1 i) then (runCall g.C .fn f [.s i, .t (.v x)] [] env1).bind fun r env2 => match r with
    | .cell (.val (.bl b)) => .ok (.v (.bl (if ng then !b else b))) env2
    | _ => .bad else .bad
  | .pop i f, env => match popAt env i f with
    | some (d, env1) => .ok (.v d) env1
    | none => .bad
  | .fst es, env => (evDs es env).bind fun xs env1 => lift ((glue ⟨#[]⟩ xs).map fun s => .v (.str s)) env1
  | .efld i k f, env => match g.xc with
    | some (j, x) => if j = i ∧ x.c = k then lift ((x.fs[f]?).map O.v) env else .bad
    | none => .bad
  | .eisi i c, env => match g.xc with
    | some (j, x) => if j = i then .ok (.v (.bl (subC x.c c))) env else .bad
    | none => .bad
def evDs : List E → Env → Out (List D)
  | [], env => .ok [] env
  | e :: es, env => ((evO e env).map O.frz).bind fun x env1 => (evDs es env1).bind fun xs env2 => .ok (x :: xs) env2
def evBs : List E → Env → Out (List D)
  | [], env => .ok [] env
  | e :: es, env => (bor e (evO e env) env).bind fun x env1 => (evBs es env1).bind fun xs env2 => .ok (x :: xs) env2
def evAs : Option Nat → List E → Env → Out (List A)
  | ck, [], env => match ck with
    | some _ => .bad
    | none => .ok [] env
  | ck, .io i :: es, env => if (gt env i).isSome && clsOk ck (gt env i) then (evAs none es env).bind fun xs env1 => .ok (.s i :: xs) env1 else .bad
  | ck, e :: es, env => (evO e env).bind fun x env1 => if clsOk ck (some x) then (evAs none es env1).bind fun xs env2 => .ok (.t x :: xs) env2 else .bad
def evP : Option E → Env → Out (Option Int)
  | none, env => .ok none env
  | some e, env => ((evO e env).map O.frz).bind fun x env1 => match x with
    | .int i => .ok (some i) env1
    | _ => .bad
def evC : Option E → Env → Out D
  | none, env => .ok (.bl true) env
  | some e, env => (evO e env).map O.frz
end
end

inductive S where
  | asg (i : Nat) (e : E) (frz : Bool)
  | asgT (is : List Nat) (e : E)
  | setIx (i : Nat) (ix e : E) | setK (i : Nat) (k e : E) | setX (i : Nat) (k e : E) | setF (i k f : Nat) (e : E)
  | aug (i : Nat) (neg : Bool) (e : E)
  | app (i : Nat) (f : Option (Nat × Nat)) (e : E) | ext (i : Nat) (f : Option (Nat × Nat)) (e : E) | clear (i : Nat)
  | expr (e : E)
  | ret (e : E) | ret0
  | ifS (c : E) (a b : List S)
  | forS (t : Tgt) (ik : ItK) (its : List E) (body : List S)
  | whileS (fuel : Nat) (c : E) (body : List S)
  | brk | cont | pass
  | raise (c : Nat) (es : List E)
  | tryS (body : List S) (hs : List (Nat × Option Nat × List S))
inductive SOut where
  | nx (env : Env)
  | ret (o : O) (env : Env)
  | brk (env : Env)
  | cont (env : Env)
  | exc (x : X) (env : Env)
  | bad
def SOut.of {α : Type} : Out α → (α → Env → SOut) → SOut
  | .ok a env, f => f a env
  | .exc x env, _ => .exc x env
  | .bad, _ => .bad
def SOut.then : SOut → (Env → SOut) → SOut
  | .nx env, f => f env
  | r, _ => r
def putIx (env : Env) (i : Nat) (ix : Int) (d : D) : Option Env := match gt env i with
  | some (.cell (.lst xs)) => (ixN xs.length ix).map fun j => setS env i (.cell (.lst (xs.set j d)))
  | _ => none
def putK (env : Env) (i : Nat) (k : D) (d : D) : Option Env := match gt env i, keyOf k with
  | some (.cell (.dct ks vs)), some x => if ks.length < sizeLine then some (setS env i (.cell (.dct (put ks vs x d).1 (put ks vs x d).2))) else none
  | _, _ => none
def putF (env : Env) (i k f : Nat) (c : Cell) : Option Env := match gt env i with
  | some (.obj cl cs) => if k ≠ cl then none else if f < cs.length then some (setS env i (.obj cl (cs.set f c))) else if f = cs.length ∧ f < 100 then some (setS env i (.obj cl (cs ++ [c]))) else none
  | _ => none
def growAt (env : Env) (i : Nat) (f : Option (Nat × Nat)) (ds : List D) : Option Env := match f, gt env i with
  | none, some (.cell (.lst xs)) => if xs.length + ds.length ≤ sizeLine then some (setS env i (.cell (.lst (xs ++ ds)))) else none
  | some (k, f), some (.obj c cs) => if k = c then (match cs[f]? with
    | some (.lst xs) => if xs.length + ds.length ≤ sizeLine then some (setS env i (.obj c (cs.set f (.lst (xs ++ ds))))) else none
    | _ => none) else none
  | _, _ => none
/-- a list of one's own stands there -/
def O.isLst : O → Bool
  | .cell (.lst _) => true
  | _ => false
def Cell.isLst : Cell → Bool
  | .lst _ => true
  | _ => false
def lstAt (env : Env) (i : Nat) (f : Option (Nat × Nat)) : Bool := match f, gt env i with
  | none, some o => o.isLst
  | some (k, f), some (.obj c cs) => decide (k = c) && (match cs[f]? with
    | some x => x.isLst
    | none => false)
  | _, _ => false
def dctAt (env : Env) (i : Nat) : Bool := match gt env i with
  | some o => o.isDct
  | none => false
def liftS (o : Option Env) : SOut := match o with
  | some env => .nx env
  | none => .bad
def forGo (lk : List Bool) (t : Tgt) (body : Env → SOut) : List D → Env → SOut
  | [], env => .nx env
  | d :: ds, env => match asgT lk t d env with
    | none => .bad
    | some env1 => match body env1 with
      | .nx env2 => forGo lk t body ds env2
      | .cont env2 => forGo lk t body ds env2
      | .brk env2 => .nx env2
      | r => r
def whileGo (c : Env → Out D) (body : Env → SOut) : Nat → Env → SOut
  | 0, _ => .bad
  | n + 1, env => SOut.of (c env) fun b env1 => match b with
    | .bl false => .nx env1
    | .bl true => (match body env1 with
      | .nx env2 => whileGo c body n env2
      | .cont env2 => whileGo c body n env2
      | .brk env2 => .nx env2
      | r => r)
    | _ => .bad
/-- the handlers of a try -/
def pickH : List (Nat × Option Nat × List S) → Nat → Option (Option Nat × List S)
  | [], _ => none
  | (c, o, b) :: r, x => if subC x c then some (o, b) else pickH r x
def Ge.nox (g : Ge) : Ge := { g with xc := none }
def unbind (o : Option Nat) (r : SOut) : SOut := match o, r with
  | some i, .nx env => .nx (env.set i none)
  | some i, .ret v env => .ret v (env.set i none)
  | some i, .brk env => .brk (env.set i none)
  | some i, .cont env => .cont (env.set i none)
  | _, .exc _ _ => .bad
  | none, r => r
  | _, _ => .bad
mutual
def evS (g : Ge) : S → Env → SOut
  | .asg i e fz, env => SOut.of (evO g e env) fun o env1 => if okAsg g.lk i then .nx (setS env1 i (if fz then .v o.frz else o)) else .bad
  | .asgT is e, env => SOut.of ((evO g e env).map O.frz) fun d env1 => liftS (asgT g.lk (.many is) d env1)
  | .setIx i ix e, env => SOut.of ((evO g e env).map O.frz) fun d env1 => if lstAt env1 i none then SOut.of ((evO g ix env1).map O.frz) fun k env2 => match k with
    | .int n => liftS (putIx env2 i n d)
    | _ => .bad else .bad
  | .setK i k e, env => SOut.of ((evO g e env).map O.frz) fun d env1 => if dctAt env1 i then SOut.of ((evO g k env1).map O.frz) fun x env2 => liftS (putK env2 i x d) else .bad
  | .setX i k e, env => SOut.of ((evO g e env).map O.frz) fun d env1 => if lstAt env1 i none then (SOut.of ((evO g k env1).map O.frz) fun k env2 => match k with
    | .int n => liftS (putIx env2 i n d)
    | _ => .bad) else if dctAt env1 i then SOut.of ((evO g k env1).map O.frz) fun x env2 => liftS (putK env2 i x d) else .bad
  | .setF i k f e, env => SOut.of (evO g e env) fun o env1 => match o with
    | .cell x => liftS (putF env1 i k f x)
    | .obj c cs => liftS (putF env1 i k f (.val (O.frz (.obj c cs))))
  | .aug i ng e, env => match gt env i with
    | some (.cell (.val (.int a))) => SOut.of ((evO g e env).map O.frz) fun d env1 => match d with
      | .int b => if okAsg g.lk i then .nx (setS env1 i (.v (.int (if ng then a - b else a + b)))) else .bad
      | _ => .bad
    | _ => .bad
  | .app i f e, env => if lstAt env i f then SOut.of ((evO g e env).map O.frz) fun d env1 => liftS (growAt env1 i f [d]) else .bad
  | .ext i f e, env => if lstAt env i f then SOut.of ((evO g e env).map O.frz) fun d env1 => match d with
    | .lst xs => liftS (growAt env1 i f xs)
    | _ => .bad else .bad
  | .clear i, env => match gt env i with
    | some (.cell (.lst _)) => .nx (setS env i (.cell (.lst [])))
    | _ => .bad
  | .expr e, env => SOut.of (evO g e env) fun _ env1 => .nx env1
  | .ret e, env => SOut.of (evO g e env) fun o env1 => .ret o env1
  | .ret0, env => .ret (.v .non) env
  | .ifS c a b, env => SOut.of ((evO g c env).map O.frz) fun d env1 => match d with
    | .bl true => evSs g a env1
    | .bl false => evSs g b env1
    | _ => .bad
  | .forS t ik its body, env => SOut.of (evBs g its env) fun ds env1 => match itD ik ds, lockS ik its with
    | some xs, some none => forGo g.lk t (evSs g body) xs env1
    | some xs, some (some i) => if lockOk (some i) env1 = false then .bad else (match forGo g.lk t (evSs g body) xs (lockE (some i) env1) with
      | .nx env2 => .nx (unlockE (some i) env1 env2)
      | .ret o env2 => .ret o (unlockE (some i) env1 env2)
      | _ => .bad)
    | _, _ => .bad
  | .whileS n c body, env => whileGo (fun e => (evO g c e).map O.frz) (evSs g body) n env
  | .brk, env => .brk env
  | .cont, env => .cont env
  | .pass, env => .nx env
  | .raise c es, env => SOut.of (evDs g es env) fun ds env1 => match g.xc with
    | none => .exc ⟨c, ds.reverse⟩ env1
    | some _ => .bad
  | .tryS body hs, env => match evSs g body env with
    | .exc x env1 => if g.xl.contains x.c then evH g x hs env1 else .bad
    | r => r
def evH (g : Ge) (x : X) : List (Nat × Option Nat × List S) → Env → SOut
  | [], env => .exc x env
  | (c, o, b) :: r, env => if subC x.c c then (match o with
    | some i => unbind (some i) (evSs { g with xc := some (i, x) } b (setS env i (.v .exn)))
    | none => unbind none (evSs { g with xc := some (1000000, x) } b env)) else evH g x r env
def evSs (g : Ge) : List S → Env → SOut
  | [], env => .nx env
  | s :: ss, env => (evS g s env).then fun env1 => evSs g ss env1
end
end VE

namespace VE
open PySem PySem.Spec
                     PyProof.Rows L2

/-- what is fixed: the written part, the classes' and globals' addresses, the classes' fields -/
structure Sta where
  K : PySem.W.Frag
  cn : Nat → Addr
  gn : Nat → Addr
  fs : Nat → List Str
  cl : List Nat

abbrev Fz := Addr → Prop
def KL (K : PySem.W.Frag) (a : Addr) (xs : List V) : Prop := ∃ (o : Obj) (its : Array Value) (n : Nat), K.lookup a = some o ∧ o.cls = .type "list" ∧ o.dict = none ∧ o.data = .seq its n ∧ its.size ≤ sizeLine ∧ Vals xs its.toList
def KT (K : PySem.W.Frag) (a : Addr) (xs : List V) : Prop := ∃ (o : Obj) (its : Array Value) (n : Nat), K.lookup a = some o ∧ o.cls = .type "tuple" ∧ o.data = .seq its n ∧ its.size ≤ sizeLine ∧ Vals xs its.toList
def FL (S : Sta) (F : Fz) (H : Hp) (a : Addr) (xs : List V) : Prop := (F a ∧ Rd H a (.lst xs)) ∨ KL S.K a xs
def FT (S : Sta) (F : Fz) (H : Hp) (a : Addr) (xs : List V) : Prop := (F a ∧ Rd H a (.tup xs)) ∨ KT S.K a xs
theorem FL.sq {S : Sta} {F : Fz} {H : Hp} {a : Addr} {xs : List V} (h : FL S F H a xs) : SqL S.K H a xs := h.elim (fun z => .inl z.2) .inr
theorem FT.sq {S : Sta} {F : Fz} {H : Hp} {a : Addr} {xs : List V} (h : FT S F H a xs) : SqT S.K H a xs := h.elim (fun z => .inl z.2) .inr

mutual
def RepD (S : Sta) (F : Fz) (H : Hp) : D → V → Prop
  | .non, v => v = .non
  | .bl b, v => v = .bl b
  | .int i, v => v = .int i
  | .str s, v => v = .str s
  | .tup xs, v => ∃ a vs, v = .ref a ∧ FT S F H a vs ∧ RepDs S F H xs vs
  | .lst xs, v => ∃ a vs, v = .ref a ∧ FL S F H a vs ∧ RepDs S F H xs vs
  | .dct ks ds, v => ∃ (a : Addr) (kvs : List (Key × V)), v = .ref a ∧ (F a ∧ H a = some (.dK kvs)) ∧ kvs.map (·.1) = ks ∧ RepDs S F H ds (kvs.map (·.2))
  | .obj c ds, v => ∃ (a dx : Addr) (vs : List V), v = .ref a ∧ (F a ∧ H a = some (.ins (S.cn c) dx ((S.fs c).zip vs))) ∧ (vs.length ≤ (S.fs c).length ∧ c ∈ S.cl) ∧ RepDs S F H ds vs
  | .glo g, v => v = .ref (S.gn g)
  | .exn, v => ∃ a, v = .ref a
def RepDs (S : Sta) (F : Fz) (H : Hp) : List D → List V → Prop
  | [], vs => vs = []
  | d :: ds, vs => ∃ v vr, vs = v :: vr ∧ RepD S F H d v ∧ RepDs S F H ds vr
end
/-- more is frozen, what was frozen stands -/
structure Ext (F : Fz) (H : Hp) (F' : Fz) (H' : Hp) : Prop where
  f : ∀ b, F b → F' b
  h : ∀ b, F b → H' b = H b
theorem Ext.refl {F : Fz} {H : Hp} : Ext F H F H := ⟨fun _ h => h, fun _ _ => rfl⟩
theorem Ext.trans {F F1 F2 : Fz} {H H1 H2 : Hp} (a : Ext F H F1 H1) (b : Ext F1 H1 F2 H2) : Ext F H F2 H2 := ⟨fun x h => b.f x (a.f x h), fun x h => (b.h x (a.f x h)).trans (a.h x h)⟩
section
variable {S : Sta} {F F' : Fz} {H H' : Hp}
theorem FL.mono {a : Addr} {xs : List V} (e : Ext F H F' H') (h : FL S F H a xs) : FL S F' H' a xs := by
  rcases h with ⟨h1, h2⟩ | h
  · refine .inl ⟨e.f a h1, ?_⟩
    unfold Rd
    rw [e.h a h1]
    exact h2
  · exact .inr h
theorem FT.mono {a : Addr} {xs : List V} (e : Ext F H F' H') (h : FT S F H a xs) : FT S F' H' a xs := by
  rcases h with ⟨h1, h2⟩ | h
  · refine .inl ⟨e.f a h1, ?_⟩
    unfold Rd
    rw [e.h a h1]
    exact h2
  · exact .inr h
mutual
theorem RepD.mono (e : Ext F H F' H') : ∀ (d : D) (v : V), RepD S F H d v → RepD S F' H' d v
  | .non, _, h => h
  | .bl _, _, h => h
  | .int _, _, h => h
  | .str _, _, h => h
  | .glo _, _, h => h
  | .exn, _, h => h
  | .tup xs, v, h => by
    obtain ⟨a, vs, e1, h1, h2⟩ := h
    exact ⟨a, vs, e1, h1.mono e, RepDs.mono e xs vs h2⟩
  | .lst xs, v, h => by
    obtain ⟨a, vs, e1, h1, h2⟩ := h
    exact ⟨a, vs, e1, h1.mono e, RepDs.mono e xs vs h2⟩
  | .dct ks ds, v, h => by
    obtain ⟨a, kvs, e1, ⟨f1, h1⟩, k1, h2⟩ := h
    exact ⟨a, kvs, e1, ⟨e.f a f1, by rw [e.h a f1]; exact h1⟩, k1, RepDs.mono e ds _ h2⟩
  | .obj c ds, v, h => by
    obtain ⟨a, dx, vs, e1, ⟨f1, h1⟩, l1, h2⟩ := h
    exact ⟨a, dx, vs, e1, ⟨e.f a f1, by rw [e.h a f1]; exact h1⟩, l1, RepDs.mono e ds _ h2⟩
theorem RepDs.mono (e : Ext F H F' H') : ∀ (ds : List D) (vs : List V), RepDs S F H ds vs → RepDs S F' H' ds vs
  | [], _, h => h
  | d :: ds, vs, h => by
    obtain ⟨v, vr, e1, h1, h2⟩ := h
    exact ⟨v, vr, e1, RepD.mono e d v h1, RepDs.mono e ds vr h2⟩
end
theorem RepDs.length : ∀ {ds : List D} {vs : List V}, RepDs S F H ds vs → ds.length = vs.length
  | [], _, h => by cases (show _ = [] from h); rfl
  | d :: ds, vs, h => by
    obtain ⟨v, vr, rfl, _, h2⟩ := h
    rw [List.length_cons, List.length_cons, RepDs.length h2]
theorem RepDs.get : ∀ {ds : List D} {vs : List V} {i : Nat} {d : D}, RepDs S F H ds vs → ds[i]? = some d → ∃ v, vs[i]? = some v ∧ RepD S F H d v
  | [], _, _, _, _, e => by simp at e
  | d :: ds, vs, 0, x, h, e => by
    obtain ⟨v, vr, rfl, h1, _⟩ := h
    simp at e; subst e
    exact ⟨v, rfl, h1⟩
  | d :: ds, vs, i + 1, x, h, e => by
    obtain ⟨v, vr, rfl, _, h2⟩ := h
    obtain ⟨w, e1, e2⟩ := RepDs.get (i := i) h2 (by simpa using e)
    exact ⟨w, by simpa using e1, e2⟩
theorem RepDs.app : ∀ {ds es : List D} {vs ws : List V}, RepDs S F H ds vs → RepDs S F H es ws → RepDs S F H (ds ++ es) (vs ++ ws)
  | [], _, _, _, h, g => by cases (show _ = [] from h); exact g
  | d :: ds, _, vs, _, h, g => by
    obtain ⟨v, vr, rfl, h1, h2⟩ := h
    exact ⟨v, vr ++ _, rfl, h1, RepDs.app h2 g⟩
theorem RepDs.set {d : D} {v : V} (r : RepD S F H d v) : ∀ {ds : List D} {vs : List V} (i : Nat), RepDs S F H ds vs → RepDs S F H (ds.set i d) (vs.set i v)
  | [], _, _, h => by cases (show _ = [] from h); exact rfl
  | x :: ds, vs, 0, h => by
    obtain ⟨w, vr, rfl, _, h2⟩ := h
    exact ⟨v, vr, rfl, r, h2⟩
  | x :: ds, vs, i + 1, h => by
    obtain ⟨w, vr, rfl, h1, h2⟩ := h
    exact ⟨w, vr.set i v, rfl, h1, RepDs.set r i h2⟩
theorem RepDs.take : ∀ {ds : List D} {vs : List V} (n : Nat), RepDs S F H ds vs → RepDs S F H (ds.take n) (vs.take n)
  | _, _, 0, _ => by simp [RepDs]
  | [], _, n + 1, h => by cases (show _ = [] from h); exact rfl
  | d :: ds, vs, n + 1, h => by
    obtain ⟨v, vr, rfl, h1, h2⟩ := h
    exact ⟨v, vr.take n, rfl, h1, RepDs.take n h2⟩
theorem RepDs.drop : ∀ {ds : List D} {vs : List V} (n : Nat), RepDs S F H ds vs → RepDs S F H (ds.drop n) (vs.drop n)
  | _, _, 0, h => h
  | [], _, n + 1, h => by cases (show _ = [] from h); exact rfl
  | d :: ds, vs, n + 1, h => by
    obtain ⟨v, vr, rfl, h1, h2⟩ := h
    exact RepDs.drop n h2
theorem RepDs.rev : ∀ {ds : List D} {vs : List V}, RepDs S F H ds vs → RepDs S F H ds.reverse vs.reverse
  | [], _, h => by cases (show _ = [] from h); exact rfl
  | d :: ds, vs, h => by
    obtain ⟨v, vr, rfl, h1, h2⟩ := h
    rw [List.reverse_cons,
                          List.reverse_cons]
    exact RepDs.app (RepDs.rev h2) ⟨v, [], rfl, h1, rfl⟩
end

inductive TC where
  | val (d : D) (v : V)
  | lst (a : Addr) (ds : List D)
  | dct (a : Addr) (ks : List Key) (ds : List D)
  | lck (a : Addr) (od : Obj) (kvs : List (Key × V)) (ds : List D)
inductive T where
  | cell (c : TC)
  | obj (a dx : Addr) (c : Nat) (cs : List TC)
def TC.v : TC → V
  | .val _ v => v
  | .lst a _ => .ref a
  | .dct a _ _ => .ref a
  | .lck a _ _ _ => .ref a
def TC.c : TC → Cell
  | .val d _ => .val d
  | .lst _ ds => .lst ds
  | .dct _ ks ds => .dct ks ds
  | .lck _ _ _ _ => .lck
def TC.ads : TC → List Addr
  | .val _ _ => []
  | .lst a _ => [a]
  | .dct a _ _ => [a]
  | .lck a _ _ _ => [a]
def T.v : T → V
  | .cell c => c.v
  | .obj a _ _ _ => .ref a
def T.o : T → O
  | .cell c => .cell c.c
  | .obj _ _ c cs => .obj c (cs.map TC.c)
def T.ads : T → List Addr
  | .cell c => c.ads
  | .obj a _ _ cs => a :: cs.flatMap TC.ads
def TC.ok (S : Sta) (F : Fz) (H : Hp) : TC → Prop
  | .val d v => RepD S F H d v
  | .lst a ds => ∃ vs, H a = some (.lst vs) ∧ RepDs S F H ds vs
  | .dct a ks ds => ∃ kvs : List (Key × V), H a = some (.dK kvs) ∧ kvs.map (·.1) = ks ∧ RepDs S F H ds (kvs.map (·.2))
  | .lck a od kvs ds => H a = some (.frz od (.dK kvs)) ∧ RepDs S F H ds (kvs.map (·.2))
def T.ok (S : Sta) (F : Fz) (H : Hp) : T → Prop
  | .cell c => c.ok S F H
  | .obj a dx c cs => H a = some (.ins (S.cn c) dx ((S.fs c).zip (cs.map TC.v))) ∧ (cs.length ≤ (S.fs c).length ∧ c ∈ S.cl) ∧ ∀ x ∈ cs, x.ok S F H
abbrev T.val (d : D) (v : V) : T := .cell (.val d v)

section
variable {S : Sta} {F F' : Fz} {H H' : Hp}
theorem TC.ok.mono (e : Ext F H F' H') {c : TC} (k : ∀ a ∈ c.ads, H' a = H a) (h : c.ok S F H) : c.ok S F' H' := by
  cases c with
  | val d v => exact RepD.mono e d v h
  | lst a ds =>
    obtain ⟨vs, h1, h2⟩ := h
    exact ⟨vs, by rw [k a (by simp [TC.ads])]; exact h1, RepDs.mono e ds vs h2⟩
  | dct a ks ds =>
    obtain ⟨kvs, h1, h2, h3⟩ := h
    exact ⟨kvs, by rw [k a (by simp [TC.ads])]; exact h1, h2, RepDs.mono e ds _ h3⟩
  | lck a od kvs ds =>
    obtain ⟨h1, h3⟩ := h
    exact ⟨by rw [k a (by simp [TC.ads])]; exact h1, RepDs.mono e ds _ h3⟩
theorem T.ok.mono (e : Ext F H F' H') {t : T} (k : ∀ a ∈ t.ads, H' a = H a) (h : t.ok S F H) : t.ok S F' H' := by
  cases t with
  | cell c => exact TC.ok.mono e k h
  | obj a dx c cs =>
    obtain ⟨h1, h2, h3⟩ := h
    refine ⟨by rw [k a (by simp [T.ads])]; exact h1, h2, fun x hx => TC.ok.mono e (fun b hb => k b ?_) (h3 x hx)⟩
    exact List.mem_cons_of_mem _ (List.mem_flatMap.mpr ⟨x, hx, hb⟩)
/-- an owned address holds something -/
theorem TC.ok.tracked {c : TC} (h : c.ok S F H) {a : Addr} (ha : a ∈ c.ads) : ∃ o, H a = some o := by
  cases c with
  | val d v => simp [TC.ads] at ha
  | lst b ds =>
    obtain ⟨vs, h1, _⟩ := h
    simp [TC.ads] at ha; subst ha
    exact ⟨_, h1⟩
  | dct b ks ds =>
    obtain ⟨kvs, h1, _⟩ := h
    simp [TC.ads] at ha; subst ha
    exact ⟨_, h1⟩
  | lck b od kvs ds =>
    obtain ⟨h1, _⟩ := h
    simp [TC.ads] at ha; subst ha
    exact ⟨_, h1⟩
theorem T.ok.tracked {t : T} (h : t.ok S F H) {a : Addr} (ha : a ∈ t.ads) : ∃ o, H a = some o := by
  cases t with
  | cell c => exact TC.ok.tracked h ha
  | obj b dx c cs =>
    obtain ⟨h1, _, h3⟩ := h
    rcases List.mem_cons.mp
                           ha with e | ha
    · subst e; exact ⟨_, h1⟩
    · obtain ⟨x, hx, hb⟩ := List.mem_flatMap.mp ha
      exact (h3 x hx).tracked hb
/-- frozen: its addresses go to the frozen ones -/
theorem TC.ok.rep {c : TC} (h : c.ok S F H) (hf : ∀ b, F b → F' b) (ha : ∀ a ∈ c.ads, F' a) : RepD S F' H c.c.d c.v := by
  have e : Ext F H F' H := ⟨hf, fun _ _ => rfl⟩
  cases c with
  | val d v => exact RepD.mono e d v h
  | lst a ds =>
    obtain ⟨vs, h1, h2⟩ := h
    exact ⟨a, vs, rfl, .inl ⟨ha a (by simp [TC.ads]), .inl h1⟩, RepDs.mono e ds vs h2⟩
  | dct a ks ds =>
    obtain ⟨kvs, h1, h2, h3⟩ := h
    exact ⟨a, kvs, rfl, ⟨ha a (by simp [TC.ads]), h1⟩, h2, RepDs.mono e ds _ h3⟩
  | lck a od ks ds => exact ⟨a, rfl⟩
theorem reps_of {cs : List TC} (h : ∀ x ∈ cs, x.ok S F H) (hf : ∀ b, F b → F' b) (ha : ∀ x ∈ cs, ∀ a ∈ x.ads, F' a) : RepDs S F' H (cs.map fun c => c.c.d) (cs.map TC.v) := by
  induction cs with
  | nil => exact rfl
  | cons c cs ih => exact ⟨_, _, rfl, (h c List.mem_cons_self).rep hf (ha c List.mem_cons_self), ih (fun x hx => h x (List.mem_cons_of_mem _ hx)) fun x hx => ha x (List.mem_cons_of_mem _ hx)⟩
theorem T.ok.rep {t : T} (h : t.ok S F H) (hf : ∀ b, F b → F' b) (ha : ∀ a ∈ t.ads, F' a) : RepD S F' H t.o.frz t.v := by
  cases t with
  | cell c => exact TC.ok.rep h hf ha
  | obj a dx c cs =>
    obtain ⟨h1, h2, h3⟩ := h
    refine ⟨a, dx, cs.map TC.v, rfl, ⟨ha a (by simp [T.ads]), h1⟩, ⟨by simpa using h2.1, h2.2⟩, ?_⟩
    have := reps_of h3 hf fun x hx b hb => ha b (List.mem_cons_of_mem _ (List.mem_flatMap.mpr ⟨x, hx, hb⟩))
    simpa [List.map_map, Function.comp_def] using this
end

/-- an exception's fields stand -/
def ExcAt (S : Sta) (F : Fz) (H : Hp) (x : VE.X) (d : Option Addr) : Prop := ∃ vs, RepDs S F H x.fs vs ∧ vs.length = (S.fs x.c).length ∧ ((x.fs = [] ∧ d = none) ∨ ∃ dd, d = some dd ∧ F dd ∧ H dd = some (.xd ((S.fs x.c).zip vs)))
theorem ExcAt.mono {S : Sta} {F F' : Fz} {H H' : Hp} {x : VE.X} {d : Option Addr} (e : Ext F H F' H') (h : ExcAt S F H x d) : ExcAt S F' H' x d := by
  obtain ⟨vs, h1, h2, h3⟩ := h
  refine ⟨vs, RepDs.mono e _ _ h1, h2, h3.imp id fun ⟨dd, e1, e2, e3⟩ => ⟨dd, e1, e.f _ e2, by rw [e.h _ e2]; exact e3⟩⟩
/-- what stood at the def's entry: the heap, the frozen, what the arguments own -/
structure Amb where
  H : Hp
  F : Fz
  A : Fz
abbrev Ld := List (Option T)
structure Good (S : Sta) (am : Amb) (F : Fz) (H : Hp) (tl : Ld) : Prop where
  ok : ∀ (i : Nat) (t : T), tl[i]? = some (some t) → t.ok S F H
  nd : ∀ (i : Nat) (t : T), tl[i]? = some (some t) → t.ads.Nodup
  dj : ∀ (i j : Nat) (t u : T), i ≠ j → tl[i]? = some (some t) → tl[j]? = some (some u) → ∀ a ∈ t.ads, a ∉ u.ads
  nf : ∀ (i : Nat) (t : T), tl[i]? = some (some t) → ∀ a ∈ t.ads, ¬ F a
  tr : ∀ b, F b → ∃ o, H b = some o
  a1 : ∀ b o, am.H b = some o → ¬ am.A b → H b = some o
  a2 : ∀ b, am.F b → F b
  a3 : ∀ b, F b → am.F b ∨ am.A b ∨ am.H b = none
  a4 : ∀ (i : Nat) (t : T), tl[i]? = some (some t) → ∀ a ∈ t.ads, am.A a ∨ am.H a = none

section
variable {S : Sta} {am : Amb} {F : Fz} {H : Hp} {tl : Ld}
theorem get_app {tl : Ld} {t : T} {i : Nat} {u : T} (h : (tl ++ [some t])[i]? = some (some u)) : tl[i]? = some (some u) ∨ (i = tl.length ∧ u = t) := by
  by_cases hi : i < tl.length
  · rw [List.getElem?_append_left hi] at h
    exact .inl h
  · rw [List.getElem?_append_right (by omega)] at h
    cases e : i - tl.length with
    | zero =>
      rw [e] at h
      simp at h
      exact .inr ⟨by omega, h.symm⟩
    | succ k => rw [e] at h; simp at h
theorem lt_of {tl : Ld} {i : Nat} {u : T} (h : tl[i]? = some (some u)) : i < tl.length := (List.getElem?_eq_some_iff.mp h).1
/-- the heap changes off all that is owned and frozen: a new thing is laid -/
theorem Good.fresh (g : Good S am F H tl) {p : Addr} (hp : H p = none) : (¬ F p) ∧ (∀ (i : Nat) (t : T), tl[i]? = some (some t) → p ∉ t.ads) ∧ am.H p = none ∨ (¬ F p ∧ (∀ (i : Nat) (t : T), tl[i]? = some (some t) → p ∉ t.ads) ∧ am.A p) := by
  have h1 : ¬ F p := fun h => by obtain ⟨o, e⟩ := g.tr p h; rw [hp] at e; cases e
  have h2 : ∀ (i : Nat) (t : T), tl[i]? = some (some t) → p ∉ t.ads := fun i t e ha => by
    obtain ⟨o, e2⟩ := (g.ok i t e).tracked ha
    rw [hp] at e2; cases e2
  cases q : am.H p with
  | none => exact .inl ⟨h1, h2, rfl⟩
  | some o =>
    by_cases hA : am.A p
    · exact .inr ⟨h1, h2, hA⟩
    · rw [g.a1 p o q hA] at hp; cases hp
theorem upd_ext {F : Fz} {H : Hp} {p : Addr} {o : HO} (h : ¬ F p) : Ext F H F (upd H p o) := ⟨fun _ h => h, fun b hb => upd_ne fun e => h (e ▸ hb)⟩
def addF (F : Fz) (P : Fz) : Fz := fun b => F b ∨ P b
theorem addF_ext {F P : Fz} {H : Hp} : Ext F H (addF F P) H := ⟨fun _ h => .inl h, fun _ _ => rfl⟩
theorem am_of (g : Good S am F H tl) {p : Addr} (hp : H p = none) : am.A p ∨ am.H p = none := by
  rcases g.fresh hp with ⟨_, _, h⟩ | ⟨_, _, h⟩
  · exact .inr h
  · exact .inl h
theorem Good.noF (g : Good S am F H tl) {p : Addr} (hp : H p = none) : ¬ F p := by
  rcases g.fresh hp with ⟨h, _⟩ | ⟨h, _⟩ <;> exact h
theorem Good.noO (g : Good S am F H tl) {p : Addr} (hp : H p = none) : ∀ (i : Nat) (t : T), tl[i]? = some (some t) → p ∉ t.ads := by
  rcases g.fresh hp with ⟨_, h, _⟩ | ⟨_, h, _⟩ <;> exact h
/-- laid: H p becomes o; nothing new in the ledger -/
theorem Good.laid (g : Good S am F H tl) {p : Addr} {o : HO} (hp : H p = none) : Good S am F (upd H p o) tl where
  ok := fun i t e => (g.ok i t e).mono (upd_ext (g.noF hp)) fun a ha => upd_ne fun q => g.noO hp i t e (q ▸ ha)
  nd := g.nd
  dj := g.dj
  nf := g.nf
  tr := fun b hb => by
    obtain ⟨u, e⟩ := g.tr b hb
    refine ⟨u, ?_⟩
    have ne : b ≠ p := fun q => by rw [q] at hb; exact g.noF hp hb
    rw [upd_ne ne]
    exact e
  a1 := fun b u e hA => by
    have := g.a1 b u e hA
    rw [upd_ne (ne_of_none this hp)]
    exact this
  a2 := g.a2
  a3 := g.a3
  a4 := g.a4
/-- more is frozen: addresses that nobody owns, tracked, the arguments' or new -/
theorem Good.freeze (g : Good S am F H tl) {P : Fz} (h1 : ∀ b, P b → ∃ o, H b = some o) (h2 : ∀ b, P b → am.A b ∨ am.H b = none) (h3 : ∀ (i : Nat) (t : T), tl[i]? = some (some t) → ∀ a ∈ t.ads, ¬ P a) : Good S am (addF F P) H tl where
  ok := fun i t e => (g.ok i t e).mono addF_ext fun _ _ => rfl
  nd := g.nd
  dj := g.dj
  nf := fun i t e a ha h => h.elim (g.nf i t e a ha) (h3 i t e a ha)
  tr := fun b hb => hb.elim (g.tr b) (h1 b)
  a1 := g.a1
  a2 := fun b hb => .inl (g.a2 b hb)
  a3 := fun b hb => hb.elim (g.a3 b) fun h => .inr (h2 b h)
  a4 := g.a4
/-- a new entry -/
theorem Good.push (g : Good S am F H tl) {t : T} (h1 : t.ok S F H) (h2 : t.ads.Nodup) (h3 : ∀ (i : Nat) (u : T), tl[i]? = some (some u) → ∀ a ∈ t.ads, a ∉ u.ads) (h4 : ∀ a ∈ t.ads, ¬ F a) (h5 : ∀ a ∈ t.ads, am.A a ∨ am.H a = none) : Good S am F H (tl ++ [some t]) where
  ok := fun i u e => (get_app e).elim (g.ok i u) fun ⟨_, q⟩ => q ▸ h1
  nd := fun i u e => (get_app e).elim (g.nd i u) fun ⟨_, q⟩ => q ▸ h2
  dj := fun i j u w hij e1 e2 a ha hb => by
    rcases get_app e1 with c1 | ⟨i1, c1⟩ <;> rcases get_app e2 with c2 | ⟨i2, c2⟩
    · exact g.dj i j u w hij c1 c2 a ha hb
    · rw [c2] at hb; exact h3 i u c1 a hb ha
    · rw [c1] at ha; exact h3 j w c2 a ha hb
    · exact hij (i1.trans i2.symm)
  nf := fun i u e => (get_app e).elim (g.nf i u) fun ⟨_, q⟩ => q ▸ h4
  tr := g.tr
  a1 := g.a1
  a2 := g.a2
  a3 := g.a3
  a4 := fun i u e => (get_app e).elim (g.a4 i u) fun ⟨_, q⟩ => q ▸ h5
theorem Good.pushV (g : Good S am F H tl) {d : D} {v : V} (h : RepD S F H d v) : Good S am F H (tl ++ [some (T.val d v)]) :=
  g.push h (by simp [T.ads, TC.ads]) (fun _ _ _ a ha => by simp [T.ads, TC.ads] at ha) (fun a ha => by simp [T.ads, TC.ads] at ha) fun a ha => by simp [T.ads, TC.ads] at ha
/-- entries chosen from others, each at most once -/
theorem Good.sel (g : Good S am F H tl) {tl' : Ld} (f : Nat → Nat) (h : ∀ (i : Nat) (t : T), tl'[i]? = some (some t) → tl[f i]? = some (some t)) (inj : ∀ (i j : Nat) (t u : T), tl'[i]? = some (some t) → tl'[j]? = some (some u) → f i = f j → i = j) : Good S am F H tl' where
  ok := fun i t e => g.ok _ t (h i t e)
  nd := fun i t e => g.nd _ t (h i t e)
  dj := fun i j t u hij e1 e2 => g.dj _ _ t u (fun q => hij (inj i j t u e1 e2 q)) (h i t e1) (h j u e2)
  nf := fun i t e => g.nf _ t (h i t e)
  tr := g.tr
  a1 := g.a1
  a2 := g.a2
  a3 := g.a3
  a4 := fun i t e => g.a4 _ t (h i t e)
theorem Good.take (g : Good S am F H tl) (n : Nat) : Good S am F H (tl.take n) := g.sel id (fun i t e => by
    rw [List.getElem?_take] at e
    split at e
    · exact e
    · cases e) fun _ _ _ _ _ _ q => q
/-- an entry goes -/
theorem Good.drop (g : Good S am F H tl) (i : Nat) : Good S am F H (tl.set i none) := g.sel id (fun j t e => by
    by_cases q : i = j
    · subst q
      rw [List.getElem?_set] at e
      simp at e
    · rw [List.getElem?_set_ne q] at e
      exact e) fun _ _ _ _ _ _ q => q
/-- an entry is replaced by one that owns no more, where the heap is changed at its own addresses alone -/
theorem Good.write (g : Good S am F H tl) {j : Nat} {t t' : T} {H' : Hp} (hj : tl[j]? = some (some t)) (sub : ∀ a ∈ t'.ads, a ∈ t.ads) (nd : t'.ads.Nodup) (keep : ∀ b, b ∉ t.ads → H' b = H b) (ok : t'.ok S F H') : Good S am F H' (tl.set j (some t')) := by
  have cse : ∀ (i : Nat) (u : T), (tl.set j (some t'))[i]? = some (some u) → (i = j ∧ u = t') ∨ (i ≠ j ∧ tl[i]? = some (some u)) := fun i u e => by
    by_cases q : j = i
    · subst q
      rw [List.getElem?_set] at e
      simp [lt_of hj] at e
      exact .inl ⟨rfl, e.symm⟩
    · rw [List.getElem?_set_ne q] at e
      exact .inr ⟨fun z => q z.symm, e⟩
  have fz : ∀ b, F b → H' b = H b := fun b hb => keep b fun hb' => g.nf j t hj b hb' hb
  refine ⟨fun i u e => ?_, fun i u e => ?_, fun i k u w hik e1 e2 a ha hb => ?_, fun i u e => ?_, fun b hb => ?_, fun b o e hA => ?_, g.a2, g.a3, fun i u e => ?_⟩
  · rcases cse i u e with ⟨_, q⟩ | ⟨hi, q⟩
    · rw [q]; exact ok
    · exact (g.ok i u q).mono ⟨fun _ h => h, fz⟩ fun a ha => keep a fun hb => g.dj i j u t hi q hj a ha hb
  · rcases cse i u e with ⟨_, q⟩ | ⟨hi, q⟩
    · rw [q]; exact nd
    · exact g.nd i u q
  · rcases cse i u e1 with ⟨i1, q1⟩ | ⟨i1, q1⟩ <;> rcases cse k w e2 with ⟨i2, q2⟩ | ⟨i2, q2⟩
    · exact hik (i1.trans i2.symm)
    · rw [q1] at ha; exact g.dj j k t w (fun z => i2 z.symm) hj q2 a (sub a ha) hb
    · rw [q2] at hb; exact g.dj j i t u (fun z => i1 z.symm) hj q1 a (sub a hb) ha
    · exact g.dj i k u w hik q1 q2 a ha hb
  · rcases cse i u e with ⟨_, q⟩ | ⟨hi, q⟩
    · rw [q]; exact fun a ha => g.nf j t hj a (sub a ha)
    · exact g.nf i u q
  · obtain ⟨o, e⟩ := g.tr b hb
    exact ⟨o, by rw [fz b hb]; exact e⟩
  · have e1 := g.a1 b o e hA
    refine (keep b fun hb => ?_).trans e1
    rcases g.a4 j t hj b hb with h | h
    · exact hA h
    · rw [h] at e; cases e
  · rcases cse i u e with ⟨_, q⟩ | ⟨hi, q⟩
    · rw [q]; exact fun a ha => g.a4 j t hj a (sub a ha)
    · exact g.a4 i u q
/-- an entry is frozen where it stands -/
theorem Good.frz (g : Good S am F H tl) {j : Nat} {t : T} (hj : tl[j]? = some (some t)) : Good S am (addF F fun b => b ∈ t.ads) H (tl.set j (some (T.val t.o.frz t.v))) := by
  have g1 : Good S am F H (tl.set j none) := g.drop j
  have g2 : Good S am (addF F fun b => b ∈ t.ads) H (tl.set j none) := by
    refine g1.freeze (fun b hb => (g.ok j t hj).tracked hb) (fun b hb => g.a4 j t hj b hb) fun i u e a ha hb => ?_
    by_cases q : j = i
    · subst q
      rw [List.getElem?_set] at e
      simp at e
    · rw [List.getElem?_set_ne q] at e
      exact g.dj i j u t (fun z => q z.symm) e hj a ha hb
  have r : RepD S (addF F fun b => b ∈ t.ads) H t.o.frz t.v := (g.ok j t hj).rep (fun _ h => .inl h) fun a ha => .inr ha
  have cse : ∀ (i : Nat) (u : T), (tl.set j (some (T.val t.o.frz t.v)))[i]? = some (some u) → (i = j ∧ u = T.val t.o.frz t.v) ∨ ((tl.set j none)[i]? = some (some u)) := fun i u e => by
    by_cases q : j = i
    · subst q
      rw [List.getElem?_set] at e
      simp [lt_of hj] at e
      exact .inl ⟨rfl, e.symm⟩
    · rw [List.getElem?_set_ne q] at e
      exact .inr (by rw [List.getElem?_set_ne q]; exact e)
  have noads : ∀ a, a ∉ (T.val t.o.frz t.v).ads := fun a h => by simp [T.ads, TC.ads] at h
  refine ⟨fun i u e => ?_, fun i u e => ?_, fun i k u w hik e1 e2 a ha hb => ?_, fun i u e a ha => ?_, g2.tr, g2.a1, g2.a2, g2.a3, fun i u e a ha => ?_⟩
  · rcases cse i u e with ⟨_, q⟩ | q
    · rw [q]; exact r
    · exact g2.ok i u q
  · rcases cse i u e with ⟨_, q⟩ | q
    · rw [q]; simp [T.ads, TC.ads]
    · exact g2.nd i u q
  · rcases cse i u e1 with ⟨i1, q1⟩ | q1
    · rw [q1] at ha; exact noads a ha
    · rcases cse k w e2 with ⟨i2, q2⟩ | q2
      · rw [q2] at hb; exact noads a hb
      · exact g2.dj i k u w hik q1 q2 a ha hb
  · rcases cse i u e with ⟨_, q⟩ | q
    · rw [q] at ha; exact absurd ha (noads a)
    · exact g2.nf i u q a ha
  · rcases cse i u e with ⟨_, q⟩ | q
    · rw [q] at ha; exact absurd ha (noads a)
    · exact g2.a4 i u q a ha
end
end VE

namespace VE
open PySem PySem.Spec
                     PyProof.Rows L2

structure Cc where
  X : Cx
  S : Sta
  am : Amb
  W : WX
  G : Ge
  lv : Nat → Option V
  xa : Addr
  xd : Option Addr
abbrev Cc.n (c : Cc) : Nat := c.X.N.length
def era (n : Nat) (tl : Ld) : Env := (tl.take n).map fun o => o.map T.o
structure Sim (c : Cc) (F : Fz) (tl : Ld) (σ : L2.St) (H : Hp) : Prop where
  g : Good c.S c.am F H tl
  len : c.n ≤ tl.length
  sl : ∀ (i : Nat) (t : T), i < c.n → tl[i]? = some (some t) → σ[i]? = some (some t.v)
  lo : ∀ (i : Nat) (v : V), c.lv i = some v → i < c.n ∧ ∃ t : T, tl[i]? = some (some t) ∧ t.v = v
  xe : ∀ q, c.G.xc = some q → ExcAt c.S F H q.2 c.xd
  ln : σ.length = c.n
/-- the ledger grows; old temporaries and the kept slots stand -/
structure Stp (n : Nat) (kp : Nat → Prop) (tl tl' : Ld) : Prop where
  len : tl.length ≤ tl'.length
  tmp : ∀ i, n ≤ i → i < tl.length → tl'[i]? = tl[i]?
  kep : ∀ i, i < n → kp i → tl'[i]? = tl[i]?
theorem Stp.refl {n : Nat} {kp : Nat → Prop} {tl : Ld} : Stp n kp tl tl := ⟨Nat.le_refl _, fun _ _ _ => rfl, fun _ _ _ => rfl⟩
theorem Stp.trans {n : Nat} {kp kp1 kp2 : Nat → Prop} {t0 t1 t2 : Ld} (a : Stp n kp1 t0 t1) (b : Stp n kp2 t1 t2) (h : ∀ i, kp i → kp1 i ∧ kp2 i) : Stp n kp t0 t2 :=
  ⟨Nat.le_trans a.len b.len, fun i h1 h2 => (b.tmp i h1 (Nat.lt_of_lt_of_le h2 a.len)).trans (a.tmp i h1 h2), fun i h1 h2 => (b.kep i h1 (h i h2).2).trans (a.kep i h1 (h i h2).1)⟩
theorem Stp.mono {n : Nat} {kp kp' : Nat → Prop} {t0 t1 : Ld} (a : Stp n kp t0 t1) (h : ∀ i, kp' i → kp i) : Stp n kp' t0 t1 := ⟨a.len, a.tmp, fun i h1 h2 => a.kep i h1 (h i h2)⟩
theorem Stp.push {n : Nat} {kp : Nat → Prop} {tl : Ld} {o : Option T} (hn : n ≤ tl.length) : Stp n kp tl (tl ++ [o]) :=
  ⟨by simp, fun i _ h => List.getElem?_append_left h, fun i h _ => List.getElem?_append_left (Nat.lt_of_lt_of_le h hn)⟩

/-- behind a run that raises -/
def OnX (c : Cc) (σ : L2.St) (tl : Ld) (x : VE.X) (env : Env) : Prop := ∀ (F' : Fz) (H' : Hp) (tl' : Ld) (d : Option Addr), Sim c F' tl' σ H' → Stp c.n (fun _ => False) tl tl' → era c.n tl' = env → ExcAt c.S F' H' x d → c.W (.ref (c.S.cn x.c)) d σ H'
/-- a run that hands on a thing -/
def RunO (c : Cc) (kp : Nat → Prop) (σ : L2.St) (tl : Ld) (r : Out O) (Q : VK) : Prop := match r with
  | .ok o env => ∀ (F' : Fz) (H' : Hp) (tl' : Ld) (j : Nat) (t : T), Sim c F' tl' σ H' → Stp c.n kp tl tl' → era c.n tl' = env → tl.length ≤ j → tl'[j]? = some (some t) → t.o = o → Q t.v H'
  | .exc x env => OnX c σ tl x env
  | .bad => False
def tE (c : Cc) (kp : Nat → Prop) (m : Env → Out O) : TE := fun σ H Q => ∃ F tl, Sim c F tl σ H ∧ RunO c kp σ tl (m (era c.n tl)) Q
/-- what is looked at: an entry, a field of an entry -/
inductive Rf where
  | ix (j : Nat) | fl (j f : Nat)
def Rf.j : Rf → Nat
  | .ix j => j
  | .fl j _ => j
def Rf.at (tl : Ld) (d : D) (v : V) : Rf → Prop
  | .ix j => ∃ t : T, tl[j]? = some (some t) ∧ t.o.frz = d ∧ t.v = v
  | .fl j f => ∃ (a dx : Addr) (cl : Nat) (cs : List TC) (x : TC), tl[j]? = some (some (.obj a dx cl cs)) ∧ cs[f]? = some x ∧ x.c.d = d ∧ x.v = v
theorem Rf.at_of {tl tl' : Ld} {d : D} {v : V} {r : Rf} (h : r.at tl d v) (e : tl'[r.j]? = tl[r.j]?) : r.at tl' d v := by
  cases r with
  | ix j => obtain ⟨t, h1, h2⟩ := h; exact ⟨t, e.trans h1, h2⟩
  | fl j f => obtain ⟨a, dx, cl, cs, x, h1, h2⟩ := h; exact ⟨a, dx, cl, cs, x, e.trans h1, h2⟩
theorem Rf.lt {tl : Ld} {d : D} {v : V} {r : Rf} (h : r.at tl d v) : r.j < tl.length := by
  cases r with
  | ix j => obtain ⟨t, h1, h2⟩ := h; exact lt_of h1
  | fl j f => obtain ⟨a, dx, cl, cs, x, h1, h2⟩ := h; exact lt_of h1
/-- the slot that a place stands in -/
def plS : E → Option Nat
  | .plc i => some i
  | .plcf i _ _ => some i
  | _ => none
def RunB (c : Cc) (kp : Nat → Prop) (pl : Option Nat) (σ : L2.St) (tl : Ld) (r : Out D) (Q : VK) : Prop := match r with
  | .ok d env => ∀ (F' : Fz) (H' : Hp) (tl' : Ld) (r : Rf) (v : V), Sim c F' tl' σ H' → Stp c.n kp tl tl' → era c.n tl' = env → r.at tl' d v → (tl.length ≤ r.j ∨ pl = some r.j) → Q v H'
  | .exc x env => OnX c σ tl x env
  | .bad => False
def tB (c : Cc) (kp : Nat → Prop) (pl : Option Nat) (m : Env → Out D) : TE := fun σ H Q => ∃ F tl, Sim c F tl σ H ∧ RunB c kp pl σ tl (m (era c.n tl)) Q

theorem PE.imp {X : Cx} {e : Expr} {t t' : TE} (h : PE X e t) (i : ∀ σ H Q, t' σ H Q → t σ H Q) : PE X e t' := ⟨fun pins s σ H Q I q => h.run pins s σ H Q I (i σ H Q q)⟩

section
variable {n : Nat} {tl : Ld}
theorem era_get {i : Nat} : (era n tl)[i]? = if i < n then (tl[i]?).map (fun o => o.map T.o) else none := by
  unfold era
  rw [List.getElem?_map, List.getElem?_take]
  split <;> rfl
theorem gt_era {i : Nat} {o : O} (h : gt (era n tl) i = some o) : i < n ∧ ∃ t : T, tl[i]? = some (some t) ∧ t.o = o := by
  unfold gt at h
  rw [era_get] at h
  by_cases hi : i < n
  · rw [if_pos hi] at h
    refine ⟨hi, ?_⟩
    cases e : tl[i]? with
    | none => rw
                [e] at h; cases h
    | some x =>
      rw [e] at h
      cases x with
      | none => cases h
      | some t => exact ⟨t, rfl, Option.some.inj h⟩
  · rw [if_neg hi] at h; cases h
theorem gt_of {i : Nat} {t : T} (hi : i < n) (h : tl[i]? = some (some t)) : gt (era n tl) i = some t.o := by
  unfold gt
  rw [era_get, if_pos hi, h]
  rfl
theorem era_push {o : Option T} (h : n ≤ tl.length) : era n (tl ++ [o]) = era n tl := by
  unfold era
  rw [List.take_append_of_le_length h]
theorem era_set {i : Nat} {o : Option T} : era n (tl.set i o) = if i < n then (era n tl).set i (o.map T.o) else era n tl := by
  unfold era
  by_cases h : i < n
  · rw [if_pos h, List.take_set, List.map_set]
  · rw [if_neg h, List.take_set, List.set_eq_of_length_le (by rw [List.length_take]; omega)]
theorem era_ext {tl' : Ld} (h : ∀ i, i < n → tl'[i]? = tl[i]?) : era n tl' = era n tl := by
  refine List.ext_getElem? fun i => ?_
  rw [era_get, era_get]
  split
  · rw [h i (by assumption)]
  · rfl
end

section
variable {c : Cc} {F : Fz} {tl : Ld} {σ : L2.St} {H : Hp}
theorem Sim.push (s : Sim c F tl σ H) {t : T} (g : Good c.S c.am F H (tl ++ [some t])) : Sim c F (tl ++ [some t]) σ H where
  g := g
  len := by rw [List.length_append]; have := s.len; omega
  sl := fun i u hi e => s.sl i u hi (by rw [List.getElem?_append_left (Nat.lt_of_lt_of_le hi s.len)] at e; exact e)
  lo := fun i v e => by
    obtain ⟨h0, t, h1, h2⟩ := s.lo i v e
    exact ⟨h0, t, by rw [List.getElem?_append_left (lt_of h1)]; exact h1, h2⟩
  xe := s.xe
  ln := s.ln
theorem Sim.pushV (s : Sim c F tl σ H) {d : D} {v : V} (r : RepD c.S F H d v) : Sim c F (tl ++ [some (T.val d v)]) σ H := s.push (s.g.pushV r)
/-- the heap grows -/
theorem Sim.laid (s : Sim c F tl σ H) {p : Addr} {o : HO} (hp : H p = none) : Sim c F tl σ (upd H p o) := ⟨s.g.laid hp, s.len, s.sl, s.lo, fun q e => (s.xe q e).mono (upd_ext (s.g.noF hp)), s.ln⟩
/-- a new thing that is frozen at once -/
theorem Sim.newF (s : Sim c F tl σ H) {p : Addr} {o : HO} (hp : H p = none) : Sim c (addF F (· = p)) tl σ (upd H p o) := by
  have s1 := s.laid (o := o) hp
  refine ⟨s1.g.freeze (fun b hb => ?_) (fun b hb => ?_) (fun i t e a ha hb => ?_), s.len, s.sl, s.lo, fun q e => (s1.xe q e).mono addF_ext, s.ln⟩
  · exact ⟨o, by rw [show b = p from hb, upd_same]⟩
  · rw [show b = p from hb]; exact am_of s.g hp
  · exact s.g.noO hp i t e (by rw [← show a = p from hb]; exact ha)
theorem Sim.extF (s : Sim c F tl σ H) {p : Addr} {o : HO} (hp : H p = none) : Ext F H (addF F (· = p)) (upd H p o) :=
  ⟨fun _ h => .inl h, fun b hb => upd_ne fun q => s.g.noF hp (q ▸ hb)⟩
/-- a new thing that is owned -/
theorem Sim.newO (s : Sim c F tl σ H) {p : Addr} {o : HO} {x : TC} (hp : H p = none) (hx : x.ads = [p]) (ok : x.ok c.S F (upd H p o)) : Sim c F (tl ++ [some (.cell x)]) σ (upd H p o) := by
  have s1 := s.laid (o := o) hp
  have ha : (T.cell x).ads = [p] := hx
  refine s1.push (s1.g.push ok (by rw [ha]; simp) (fun i u e a hm => ?_) (fun a hm => ?_) fun a hm => ?_)
  · rw [ha, List.mem_singleton] at hm
    rw [hm]; exact s.g.noO hp i u e
  · rw [ha, List.mem_singleton] at hm
    rw [hm]; exact s.g.noF hp
  · rw [ha, List.mem_singleton] at hm
    rw [hm]; exact am_of s.g hp
/-- an entry is frozen where it stands -/
theorem Sim.frz (s : Sim c F tl σ H) {j : Nat} {t : T} (hj : tl[j]? = some (some t)) : Sim c (addF F fun b => b ∈ t.ads) (tl.set j (some (T.val t.o.frz t.v))) σ H where
  g := s.g.frz hj
  len := by rw [List.length_set]; exact s.len
  sl := fun i u hi e => by
    by_cases q : j = i
    · subst q
      rw [List.getElem?_set] at e
      simp [lt_of hj] at e
      subst e
      exact s.sl j t hi hj
    · rw [List.getElem?_set_ne q] at e
      exact s.sl i u hi e
  lo := fun i v e => by
    obtain ⟨h0, u, h1, h2⟩ := s.lo i v e
    by_cases q : j = i
    · subst q
      rw [hj] at h1
      cases h1
      exact ⟨h0, T.val t.o.frz t.v, by rw [List.getElem?_set]; simp [lt_of hj], h2⟩
    · exact ⟨h0, u, by rw [List.getElem?_set_ne q]; exact h1, h2⟩
  xe := fun q e => (s.xe q e).mono addF_ext
  ln := s.ln
/-- an entry is written: its own root stands -/
theorem Sim.write (s : Sim c F tl σ H) {j : Nat} {t t' : T} {H' : Hp} (hj : tl[j]? = some (some t)) (hv : t'.v = t.v) (sub : ∀ a ∈ t'.ads, a ∈ t.ads) (nd : t'.ads.Nodup) (keep : ∀ b, b ∉ t.ads → H' b = H b) (ok : t'.ok c.S F H') : Sim c F (tl.set j (some t')) σ H' where
  g := s.g.write hj sub nd keep ok
  len := by rw [List.length_set]; exact s.len
  sl := fun i u hi e => by
    by_cases q : j = i
    · subst q
      rw [List.getElem?_set] at e
      simp [lt_of hj] at e
      subst e
      rw [hv]
      exact s.sl j t hi hj
    · rw [List.getElem?_set_ne q] at e
      exact s.sl i u hi e
  lo := fun i v e => by
    obtain ⟨h0, u, h1, h2⟩ := s.lo i v e
    by_cases q : j = i
    · subst q
      rw [hj] at h1
      cases h1
      exact ⟨h0, t', by rw [List.getElem?_set]; simp [lt_of hj], hv.trans h2⟩
    · exact ⟨h0, u, by rw [List.getElem?_set_ne q]; exact h1, h2⟩
  xe := fun q e => (s.xe q e).mono ⟨fun _ h => h, fun b hb => keep b fun hb' => s.g.nf j t hj b hb' hb⟩
  ln := s.ln
theorem Sim.take (s : Sim c F tl σ H) {m : Nat} (h : c.n ≤ m) : Sim c F (tl.take m) σ H := by
  have hg : ∀ i (t : T), (tl.take m)[i]? = some (some t) → tl[i]? = some (some t) := fun i t e => by
    rw [List.getElem?_take] at e
    split at e
    · exact e
    · cases e
  by_cases hm : m ≤ tl.length
  · refine ⟨s.g.take m, by rw [List.length_take]; omega, fun i t hi e => s.sl i t hi (hg i t e), fun i v e => ?_, s.xe, s.ln⟩
    obtain ⟨h0, t, h1, h2⟩ := s.lo i v e
    exact ⟨h0, t, by rw [List.getElem?_take, if_pos (by omega)]; exact h1, h2⟩
  · rw [List.take_of_length_le (by omega)]; exact s
end
end VE

namespace VE
open PySem PySem.Spec
                     PyProof.Rows L2

/-- a value that may be looked at now -/
def RepB (S : Sta) (F : Fz) (H : Hp) : D → V → Prop
  | .tup xs, v => ∃ a vs, v = .ref a ∧ SqT S.K H a vs ∧ RepDs S F H xs vs
  | .lst xs, v => ∃ a vs, v = .ref a ∧ SqL S.K H a vs ∧ RepDs S F H xs vs
  | .dct ks ds, v => ∃ (a : Addr) (kvs : List (Key × V)), v = .ref a ∧ H a = some (.dK kvs) ∧ kvs.map (·.1) = ks ∧ RepDs S F H ds (kvs.map (·.2))
  | .obj c ds, v => ∃ (a dx : Addr) (vs : List V), v = .ref a ∧ H a = some (.ins (S.cn c) dx ((S.fs c).zip vs)) ∧ (vs.length ≤ (S.fs c).length ∧ c ∈ S.cl) ∧ RepDs S F H ds vs
  | d, v => RepD S F H d v
theorem RepD.b {S : Sta} {F : Fz} {H : Hp} {d : D} {v : V} (h : RepD S F H d v) : RepB S F H d v := by
  cases d with
  | tup xs => obtain ⟨a, vs, e, h1, h2⟩ := h; exact ⟨a, vs, e, h1.sq, h2⟩
  | lst xs => obtain ⟨a, vs, e, h1, h2⟩ := h; exact ⟨a, vs, e, h1.sq, h2⟩
  | dct ks ds => obtain ⟨a, kvs, e, ⟨_, h1⟩, h2⟩ := h; exact ⟨a, kvs, e, h1, h2⟩
  | obj c ds => obtain ⟨a, dx, vs, e, ⟨_, h1⟩, h2⟩ := h; exact ⟨a, dx, vs, e, h1, h2⟩
  | _ => exact h
theorem TC.ok.b {S : Sta} {F : Fz} {H : Hp} {x : TC} (h : x.ok S F H) : RepB S F H x.c.d x.v := by
  cases x with
  | val d v => exact RepD.b h
  | lst a ds => obtain ⟨vs, h1, h2⟩ := h; exact ⟨a, vs, rfl, .inl (.inl h1), h2⟩
  | dct a ks ds => obtain ⟨kvs, h1, h2, h3⟩ := h; exact ⟨a, kvs, rfl, h1, h2, h3⟩
  | lck a od ks ds => exact ⟨a, rfl⟩
/-- an own object is looked at only field by field, or by its class -/
def IsObj (d : D) : Prop := match d with
  | .obj _ _ => True
  | _ => False
theorem Rf.rep {S : Sta} {am : Amb} {F : Fz} {H : Hp} {tl : Ld} {d : D} {v : V} {r : Rf} (g : Good S am F H tl) (h : r.at tl d v) : RepB S F H d v ∨ (∃ (a dx : Addr) (c : Nat) (cs : List TC), d = .obj c (cs.map fun x => x.c.d) ∧ v = .ref a ∧ H a = some (.ins (S.cn c) dx ((S.fs c).zip (cs.map TC.v))) ∧ c ∈ S.cl) := by
  cases r with
  | ix j =>
    obtain ⟨t, h1, h2, h3⟩ := h
    have ok := g.ok j t h1
    cases t with
    | cell x => subst h2; subst h3; exact .inl (TC.ok.b ok)
    | obj a dx c cs =>
      subst h2; subst h3
      exact .inr ⟨a, dx, c, cs, by simp [T.o, O.frz, List.map_map, Function.comp_def], rfl, ok.1, ok.2.1.2⟩
  | fl j f =>
    obtain ⟨a, dx, cl, cs, x, h1, h2, h3, h4⟩ := h
    subst h3; subst h4
    exact .inl ((g.ok j _ h1).2.2 x (List.mem_of_getElem? h2)).b
theorem RepB.noObj {S : Sta} {am : Amb} {F : Fz} {H : Hp} {tl : Ld} {d : D} {v : V} {r : Rf} (g : Good S am F H tl) (h : r.at tl d v) (n : ¬ IsObj d) : RepB S F H d v := by
  rcases r.rep g h with z | ⟨a, dx, c, cs, e, _⟩
  · exact z
  · subst e; exact absurd trivial n

section
variable {c : Cc} {kp : Nat → Prop} {σ : L2.St} {tl tl' : Ld} {Q : VK}
theorem OnX.adv {x : VE.X} {env : Env} (h : OnX c σ tl x env) (s : Stp c.n (fun _ => False) tl tl') : OnX c σ tl' x env := fun F' H' t2 d a b e1 e2 => h F' H' t2 d a (s.trans b fun _ z => z.elim) e1 e2
theorem RunO.adv {r : Out O} (h : RunO c kp σ tl r Q) (s : Stp c.n kp tl tl') : RunO c kp σ tl' r Q := by
  cases r with
  | ok o env => exact fun F' H' t2 j t a b e1 e2 e3 e4 => h F' H' t2 j t a (s.trans b fun _ z => ⟨z, z⟩) e1 (Nat.le_trans s.len e2) e3 e4
  | exc x env => exact OnX.adv (show OnX c σ tl x env from h) (s.mono fun _ z => z.elim)
  | bad => exact h
/-- the end: a value that stands -/
theorem RunO.val {F : Fz} {H : Hp} {d : D} {v : V} (s : Sim c F tl σ H) (r : RepD c.S F H d v) (h : RunO c kp σ tl (.ok (.v d) (era c.n tl)) Q) : Q v H :=
  h F H (tl ++ [some (T.val d v)]) tl.length (T.val d v) (s.pushV r) (Stp.push s.len) (era_push s.len) (Nat.le_refl _) (by simp) rfl
/-- the end: a new frozen thing -/
theorem RunO.newF {F : Fz} {H : Hp} {d : D} {p : Addr} {o : HO} (s : Sim c F tl σ H) (hp : H p = none) (r : RepD c.S (addF F (· = p)) (upd H p o) d (.ref p)) (h : RunO c kp σ tl (.ok (.v d) (era c.n tl)) Q) : Q (.ref p) (upd H p o) :=
  RunO.val (s.newF hp) r h
/-- the end: a new owned thing -/
theorem RunO.newO {F : Fz} {H : Hp} {x : TC} {p : Addr} {o : HO} (s : Sim c F tl σ H) (hp : H p = none) (hx : x.ads = [p]) (ok : x.ok c.S F (upd H p o)) (h : RunO c kp σ tl (.ok (.cell x.c) (era c.n tl)) Q) : Q x.v (upd H p o) :=
  h F _ (tl ++ [some (.cell x)]) tl.length (.cell x) (s.newO hp hx ok) (Stp.push s.len) (era_push s.len) (Nat.le_refl _) (by simp) rfl
theorem RunO.lst {F : Fz} {H : Hp} {p : Addr} {ds : List D} {vs : List V} (s : Sim c F tl σ H) (hp : H p = none) (r : RepDs c.S F H ds vs) (h : RunO c kp σ tl (.ok (.cell (.lst ds)) (era c.n tl)) Q) : Q (.ref p) (upd H p (.lst vs)) :=
  RunO.newO (x := .lst p ds) s hp rfl ⟨vs, upd_same, RepDs.mono (upd_ext (s.g.noF hp)) ds vs r⟩ h
theorem RunO.tup {F : Fz} {H : Hp} {p : Addr} {ds : List D} {vs : List V} (s : Sim c F tl σ H) (hp : H p = none) (r : RepDs c.S F H ds vs) (h : RunO c kp σ tl (.ok (.v (.tup ds)) (era c.n tl)) Q) : Q (.ref p) (upd H p (.tup vs)) :=
  RunO.newF (d := .tup ds) s hp ⟨p, vs, rfl, .inl ⟨.inr rfl, .inl upd_same⟩, RepDs.mono (s.extF hp) ds vs r⟩ h

theorem tB_of {X : Cx} {e : Expr} {m : Env → Out O} (h : PE X e (tE c kp m)) : PE X e (tB c kp none fun env => (m env).map O.frz) := by
  refine PE.imp h fun σ H Q ⟨F, tl, s, r⟩ => ⟨F, tl, s, ?_⟩
  dsimp only at r
  cases e1 : m (era c.n tl) with
  | ok o env =>
    rw [e1] at r
    exact fun F' H' tl' j t a b e2 e3 e4 e5 => r F' H' tl' (.ix j) t.v a b e2 ⟨t, e4, by rw [e5], rfl⟩ (.inl e3)
  | exc x env => rw [e1] at r; exact r
  | bad => rw [e1] at r; exact r

/-- one operand: f runs on at its value -/
def Fin1 (c : Cc) (kp : Nat → Prop) (σ : L2.St) (f : D → Env → Out O) (Q : VK) (x : V) (H : Hp) : Prop := ∃ F tl d r, Sim c F tl σ H ∧ Rf.at tl d x r ∧ RunO c kp σ tl (f d (era c.n tl)) Q
def Fin2 (c : Cc) (kp : Nat → Prop) (pa pb : Option Nat) (σ : L2.St) (f : D → D → Env → Out O) (Q : VK) (x y : V) (H : Hp) : Prop := ∃ F tl d1 d2 r1 r2, Sim c F tl σ H ∧ Rf.at tl d1 x r1 ∧ Rf.at tl d2 y r2 ∧ RunO c kp σ tl (f d1 d2 (era c.n tl)) Q ∧ (c.n ≤ r1.j ∨ pa = some r1.j) ∧ (c.n ≤ r2.j ∨ pb = some r2.j)
theorem seq1 {pa : Option Nat} {ma : Env → Out D} {f : D → Env → Out O} {H : Hp} (h : tE c kp (fun env => (ma env).bind f) σ H Q) : tB c kp pa ma σ H (Fin1 c kp σ f Q) := by
  obtain ⟨F, tl, s, r⟩ := h
  refine ⟨F, tl, s, ?_⟩
  dsimp only at r
  cases e1 : ma (era c.n tl) with
  | ok d env =>
    rw [e1] at r
    intro F' H' tl' r1 v a b e2 e3 _
    refine ⟨F', tl', d, r1, a, e3, ?_⟩
    have r : RunO c kp σ tl (f d env) Q := r
    rw [← e2] at r
    exact r.adv b
  | exc x env => rw [e1] at r; exact r
  | bad => rw [e1] at r; exact r
theorem Rf.later {tl tl' : Ld} {n m : Nat} {kp : Nat → Prop} {pa : Option Nat} {d : D} {v : V} {r : Rf} (h : r.at tl d v) (b : Stp n kp tl tl') (hn : n ≤ m) (hr : m ≤ r.j ∨ pa = some r.j) (hp : ∀ i, pa = some i → kp i) : r.at tl' d v := by
  refine Rf.at_of h ?_
  by_cases q : r.j < n
  · rcases hr with z | z
    · omega
    · exact b.kep _ q (hp _ z)
  · exact b.tmp _ (by omega) (Rf.lt h)
theorem seq2 {kpa kpb : Nat → Prop} {pa pb : Option Nat} {ma mb : Env → Out D} {f : D → D → Env → Out O} {H : Hp} (h : tE c kp (fun env => (ma env).bind fun x env1 => (mb env1).bind fun y env2 => f x y env2) σ H Q)
    (k1 : ∀ i, kp i → kpa i) (k2 : ∀ i, kp i → kpb i) (hp : ∀ i, pa = some i → kpb i) : tB c kpa pa ma σ H fun x H1 => tB c kpb pb mb σ H1 fun y H2 => Fin2 c kp pa pb σ f Q x y H2 := by
  obtain ⟨F, tl, s, r⟩ := h
  refine ⟨F, tl, s, ?_⟩
  dsimp only at r
  cases e1 : ma (era c.n tl) with
  | exc x env => rw [e1] at r; exact r
  | bad => rw [e1] at r; exact r
  | ok d env =>
    rw [e1] at r
    have r : RunO c kp σ tl ((mb env).bind fun y env2 => f d y env2) Q := r
    intro F' H' tl1 r1 v a b e2 e3 e4
    rw [← e2] at r
    have r' := r.adv (b.mono k1)
    refine ⟨F', tl1, a, ?_⟩
    cases e5 : mb (era c.n tl1) with
    | exc x env => rw [e5] at r'; exact r'
    | bad => rw [e5] at r'; exact r'
    | ok d2 env2 =>
      rw [e5] at r'
      have r' : RunO c kp σ tl1 (f d d2 env2) Q := r'
      intro F2 H2 tl2 r2 w a2 b2 e6 e7 e8
      rw [← e6] at r'
      exact ⟨F2, tl2, d, d2, r1, r2, a2, Rf.later e3 b2 s.len e4 hp, e7, r'.adv (b2.mono k2), e4.imp (fun z => Nat.le_trans s.len z) id, e8.imp (fun z => Nat.le_trans a.len z) id⟩
end

section
variable {c : Cc} {kp : Nat → Prop}
/-- a value that the heap does not matter for -/
theorem s_k {e : Expr} {d : D} {v : V} (h : PE c.X e (tC v)) (r : ∀ F H, RepD c.S F H d v) : PE c.X e (tE c kp fun env => .ok (.v d) env) :=
  PE.imp h fun σ H Q ⟨F, tl, s, q⟩ => RunO.val s (r F H) q
theorem getE {env : Env} {i : Nat} {o : O} (h : env[i]? = some (some o)) : setS env i o = env := by
  unfold setS
  refine List.ext_getElem?
                          fun j => ?_
  by_cases q : i = j
  · subst q
    rw [List.getElem?_set_self (List.getElem?_eq_some_iff.mp h).1, h]
  · rw [List.getElem?_set_ne q]
theorem s_var {e : Expr} {i : Nat} (h : PE c.X e (tVar i)) (hk : ∀ j, kp j → j ≠ i) : PE c.X e (tE c kp (evO c.G (.var i))) := by
  refine PE.imp h fun σ H Q ⟨F, tl, s, q⟩ => ?_
  unfold evO at q
  cases e1 : gt (era c.n tl) i with
  | none => rw [e1] at q; exact q.elim
  | some o =>
    rw [e1] at q
    obtain ⟨hi, t, ht, rfl⟩ := gt_era e1
    refine ⟨t.v, s.sl i t hi ht, ?_⟩
    have ok := s.g.ok i t ht
    have main : RunO c kp σ tl (.ok (.v t.o.frz) (setS (era c.n tl) i (.v t.o.frz))) Q → Q t.v H := fun q => by
      have s2 := s.frz ht
      have e2 : (tl.set i (some (T.val t.o.frz t.v)))[i]? = some (some (T.val t.o.frz t.v)) := by
        rw [List.getElem?_set]; simp [lt_of ht]
      have rp : RepD c.S _ H t.o.frz t.v := s2.g.ok i _ e2
      have st : Stp c.n kp tl (tl.set i (some (T.val t.o.frz t.v))) := ⟨by simp, fun j h1 _ => List.getElem?_set_ne (by omega), fun j _ h2 => List.getElem?_set_ne fun q => hk j h2 q.symm⟩
      have e3 : era c.n (tl.set i (some (T.val t.o.frz t.v))) = setS (era c.n tl) i (.v t.o.frz) := by
        rw [era_set, if_pos hi]; rfl
      rw [← e3] at q
      exact RunO.val s2 rp (q.adv st)
    cases t with
    | obj a dx cl cs => exact main q
    | cell x =>
      cases x with
      | val d v => exact RunO.val s ok q
      | lst a ds => exact main q
      | dct a ks ds => exact main q
      | lck a od ks ds => exact main q
theorem s_plc {e : Expr} {i : Nat} (h : PE c.X e (tVar i)) : PE c.X e (tB c kp (some i) fun env => bor (.plc i) (evO c.G (.plc i) env) env) := by
  refine PE.imp h fun σ H Q ⟨F, tl, s, q⟩ => ?_
  have q : RunB c kp (some i) σ tl (lift ((gt (era c.n tl) i).map O.frz) (era c.n tl)) Q := q
  cases e1 : gt (era c.n tl) i with
  | none => rw [e1] at q; exact q.elim
  | some o =>
    rw [e1] at q
    obtain ⟨hi, t, ht, rfl⟩ := gt_era e1
    exact ⟨t.v, s.sl i t hi ht, q F H tl (.ix i) t.v s Stp.refl rfl ⟨t, ht, rfl, rfl⟩ (.inr rfl)⟩
end
end VE

namespace VE
open PySem PySem.Spec
                     PyProof.Rows L2

/-- what an operation's rule asks is what the evaluator says -/
def Op2 (c : Cc) (o : B2) (r : R2) : Prop := ∀ (kp : Nat → Prop) (σ : L2.St) (tl : Ld) (F : Fz) (H : Hp) (d1 d2 : D) (r1 r2 : Rf) (x y : V) (res : O) (Q : VK), Sim c F tl σ H → Rf.at tl d1 x r1 → Rf.at tl d2 y r2 → b2 o d1 d2 = some res → RunO c kp σ tl (.ok res (era c.n tl)) Q → r x y H Q
def Op1 (c : Cc) (o : B1) (r : V → Hp → VK → Prop) : Prop := ∀ (kp : Nat → Prop) (σ : L2.St) (tl : Ld) (F : Fz) (H : Hp) (d : D) (r1 : Rf) (x : V) (res : O) (Q : VK), Sim c F tl σ H → Rf.at tl d x r1 → b1 o d = some res → RunO c kp σ tl (.ok res (era c.n tl)) Q → r x H Q

section
variable {c : Cc} {kp kp' : Nat → Prop} {σ : L2.St} {tl : Ld} {H : Hp} {Q Q' : VK}
theorem RunB.imp {pl : Option Nat} {r : Out D} (h : RunB c kp pl σ tl r Q) (i : ∀ v H, Q v H → Q' v H) : RunB c kp pl σ tl r Q' := by
  cases r with
  | ok d env => exact fun F' H' tl' r v a b e1 e2 e3 => i _ _ (h F' H' tl' r v a b e1 e2 e3)
  | exc x env => exact h
  | bad => exact h
theorem tB.imp {pl : Option Nat} {m : Env → Out D} (h : tB c kp pl m σ H Q) (i : ∀ v H, Q v H → Q' v H) : tB c kp pl m σ H Q' := by
  obtain ⟨F, tl, s, r⟩ := h
  exact ⟨F, tl, s, r.imp i⟩
/-- fewer slots are told to be kept -/
theorem tB.less {pl : Option Nat} {m : Env → Out D} {e : Expr} {X : Cx} (h : PE X e (tB c kp pl m)) (k : ∀ i, kp' i → kp i) : PE X e (tB c kp' pl m) := by
  refine PE.imp h fun σ H Q ⟨F, tl, s, r⟩ => ⟨F, tl, s, ?_⟩
  cases e1 : m (era c.n tl) with
  | ok d env =>
    rw [e1] at r
    exact fun F' H' tl' r1 v a b e2 e3 e4 => r F' H' tl' r1 v a (b.mono k) e2 e3 e4
  | exc x env => rw [e1] at r; exact r
  | bad => rw [e1] at r; exact r
end

section
variable {c : Cc} {kp kpa kpb : Nat → Prop} {e a b : Expr} {ma mb : E}
abbrev bB (c : Cc) (m : E) : Env → Out D := fun env => bor m (evO c.G m env) env
theorem s_op2 {o : B2} {r : R2} (ho : Op2 c o r) (hpre : ∀ d, pre o d = true) (ha : PE c.X a (tB c kpa (plS ma) (bB c ma))) (hb : PE c.X b (tB c kpb (plS mb) (bB c mb)))
    (mk : ∀ {ta tb : TE}, PE c.X a ta → PE c.X b tb → PE c.X e (tOp r ta tb)) (k1 : ∀ i, kp i → kpa i) (k2 : ∀ i, kp i → kpb i) (hp : ∀ i, plS ma = some i → kpb i) : PE c.X e (tE c kp (evO c.G (.b2 o ma mb))) := by
  refine PE.imp (mk ha hb) fun σ H Q h => ?_
  have q := seq2 (c := c) (kp := kp) (pa := plS ma) (pb := plS mb) (ma := bB c ma) (mb := bB c mb) (f := fun x y env => lift (b2 o x y) env) (show tE c kp (fun env => (bB c ma env).bind fun x env1 => (bB c mb env1).bind fun y env2 => lift (b2 o x y) env2) σ H Q by
    obtain ⟨F, tl, s, r⟩ := h
    refine ⟨F, tl, s, ?_⟩
    unfold evO at r
    simp only [hpre, if_true] at r
    exact r) k1 k2 hp
  refine tB.imp q fun x H1 q => tB.imp q fun y H2 ⟨F, tl, d1, d2, r1, r2, s, e1, e2, q, _, _⟩ => ?_
  dsimp only at q
  cases e3 : b2 o d1 d2 with
  | none => rw [e3] at q; exact q.elim
  | some res =>
    rw [e3] at q
    exact ho kp σ tl F H2 d1 d2 r1 r2 x y res Q s e1 e2 e3 q
theorem s_op1 {o : B1} {r : V → Hp → VK → Prop} (ho : Op1 c o r) (ha : PE c.X a (tB c kp (plS ma) (bB c ma))) (mk : ∀ {ta : TE}, PE c.X a ta → PE c.X e (tUn r ta)) : PE c.X e (tE c kp (evO c.G (.b1 o ma))) := by
  refine PE.imp (mk ha) fun σ H Q h => ?_
  have q := seq1 (c := c) (kp := kp) (pa := plS ma) (ma := bB c ma) (f := fun x env => lift (b1 o x) env) (show tE c kp (fun env => (bB c ma env).bind fun x env1 => lift (b1 o x) env1) σ H Q by
    obtain ⟨F, tl, s, r⟩ := h
    refine ⟨F, tl, s, ?_⟩
    unfold evO at r
    exact r)
  refine tB.imp q fun x H1 ⟨F, tl, d1, r1, s, e1, q⟩ => ?_
  dsimp only at q
  cases e3 : b1 o d1 with
  | none => rw [e3] at q; exact q.elim
  | some res =>
    rw [e3] at q
    exact ho kp σ tl F H1 d1 r1 x res Q s e1 e3 q
end

section
variable {c : Cc} {F : Fz} {tl : Ld} {σ : L2.St} {H : Hp} {x : V} {r : Rf}
theorem at_b (s : Sim c F tl σ H) {d : D} (h : Rf.at tl d x r) (n : ¬ IsObj d) : RepB c.S F H d x := RepB.noObj s.g h n
theorem at_int (s : Sim c F tl σ H) {i : Int} (h : Rf.at tl (.int i) x r) : x = .int i := at_b s h id
theorem at_str (s : Sim c F tl σ H) {z : Str} (h : Rf.at tl (.str z) x r) : x = .str z := at_b s h id
theorem at_bl (s : Sim c F tl σ H) {b : Bool} (h : Rf.at tl (.bl b) x r) : x = .bl b := at_b s h id
theorem at_lst (s : Sim c F tl σ H) {xs : List D} (h : Rf.at tl (.lst xs) x r) : ∃ a vs, x = .ref a ∧ SqL c.S.K H a vs ∧ RepDs c.S F H xs vs := at_b s h id
theorem at_tup (s : Sim c F tl σ H) {xs : List D} (h : Rf.at tl (.tup xs) x r) : ∃ a vs, x = .ref a ∧ SqT c.S.K H a vs ∧ RepDs c.S F H xs vs := at_b s h id
theorem at_dct (s : Sim c F tl σ H) {ks : List Key} {ds : List D} (h : Rf.at tl (.dct ks ds) x r) : ∃ (a : Addr) (kvs : List (Key × V)), x = .ref a ∧ H a = some (.dK kvs) ∧ kvs.map (·.1) = ks ∧ RepDs c.S F H ds (kvs.map (·.2)) := at_b s h id
/-- what cannot be owned -/
def Plain (d : D) : Prop := match d with
  | .lst _ => False
  | .dct _ _ => False
  | .obj _ _ => False
  | .exn => False
  | _ => True
theorem tc_plain {S : Sta} {y : TC} (ok : y.ok S F H) (p : Plain y.c.d) : RepD S F H y.c.d y.v := by
  cases y with
  | val d v => exact ok
  | lst a ds => exact p.elim
  | dct a ks ds => exact p.elim
  | lck a od ks ds => exact p.elim
theorem at_rep (s : Sim c F tl σ H) {d : D} (h : Rf.at tl d x r) (p : Plain d) : RepD c.S F H d x := by
  cases r with
  | ix j =>
    obtain ⟨t, h1, h2, h3⟩ := h
    have ok := s.g.ok j t h1
    cases t with
    | cell y => subst h2; subst h3; exact tc_plain ok p
    | obj a dx c cs => subst h2; exact p.elim
  | fl j f =>
    obtain ⟨a, dx, cl, cs, y, h1, h2, h3, h4⟩ := h
    subst h3; subst h4
    exact tc_plain ((s.g.ok j _ h1).2.2 y (List.mem_of_getElem? h2)) p
theorem ints_of {S : Sta} : ∀ {xs : List D} {vs : List V} {is : List Int}, RepDs S F H xs vs → allOf asInt xs = some is → vs = is.map V.int
  | [], vs, is, h, e => by cases (show vs = [] from h); cases e; rfl
  | d :: ds, vs, is, h, e => by
    obtain ⟨v, vr, rfl, h1, h2⟩ := h
    unfold allOf at e
    cases d with
    | int i =>
      cases e2 : allOf asInt ds with
      | none => rw [e2] at e; cases e
      | some js =>
        rw [e2] at e
        cases e
        cases (show v = .int i from h1)
        rw [ints_of h2 e2, List.map_cons]
    | _ => cases e
theorem strs_of {S : Sta} : ∀ {xs : List D} {vs : List V} {is : List Str}, RepDs S F H xs vs → allOf asStr xs = some is → vs = is.map V.str
  | [], vs, is, h, e => by cases (show vs = [] from h); cases e; rfl
  | d :: ds, vs, is, h, e => by
    obtain ⟨v, vr, rfl, h1, h2⟩ := h
    unfold allOf at e
    cases d with
    | str i =>
      cases e2 : allOf asStr ds with
      | none => rw [e2] at e; cases e
      | some js =>
        rw [e2] at e
        cases e
        cases (show v = .str i from h1)
        rw [strs_of h2 e2, List.map_cons]
    | _ => cases e
theorem bls_of {S : Sta} : ∀ {xs : List D} {vs : List V} {is : List Bool}, RepDs S F H xs vs → allOf asBl xs = some is → vs = is.map V.bl
  | [], vs, is, h, e => by cases (show vs = [] from h); cases e; rfl
  | d :: ds, vs, is, h, e => by
    obtain ⟨v, vr, rfl, h1, h2⟩ := h
    unfold allOf at e
    cases d with
    | bl i =>
      cases e2 : allOf asBl ds with
      | none => rw [e2] at e; cases e
      | some js =>
        rw [e2] at e
        cases e
        cases (show v = .bl i from h1)
        rw [bls_of h2 e2, List.map_cons]
    | _ => cases e
mutual
theorem dp_of {S : Sta} : ∀ (d : D) (v : V) (p : PyData), RepD S F H d v → d.py = some p → Dp S.K H v p
  | .non, v, p, h, e => by cases (show v = _ from h); cases e; exact .non
  | .bl b, v, p, h, e => by cases (show v = _ from h); cases e; exact .bl b
  | .int b, v, p, h, e => by cases (show v = _ from h); cases e; exact .int b
  | .str b, v, p, h, e => by cases (show v = _ from h); cases e; exact .str b
  | .tup xs, v, p, h, e => by
    obtain ⟨a, vs, rfl, h1, h2⟩ := h
    unfold D.py at e
    cases e2 : D.pys xs with
    | none => rw [e2] at e; cases e
    | some ps => rw [e2] at e; cases e; exact .tup h1.sq (dps_of xs vs ps h2 e2)
  | .lst xs, v, p, h, e => by
    obtain ⟨a, vs, rfl, h1, h2⟩ := h
    unfold D.py at e
    cases e2 : D.pys xs with
    | none => rw [e2] at e; cases e
    | some ps => rw [e2] at e; cases e; exact .lst h1.sq (dps_of xs vs ps h2 e2)
  | .dct _ _, v, p, h, e => by cases e
  | .obj _ _, v, p, h, e => by cases e
  | .glo _, v, p, h, e => by cases e
  | .exn, v, p, h, e => by cases e
theorem dps_of {S : Sta} : ∀ (ds : List D) (vs : List V) (ps : List PyData), RepDs S F H ds vs → D.pys ds = some ps → DpAll S.K H vs ps
  | [], vs, ps, h, e => by cases (show vs = _ from h); cases e; exact .nil
  | d :: ds, vs, ps, h, e => by
    obtain ⟨v, vr, rfl, h1, h2⟩ := h
    unfold D.pys at e
    cases e1 : d.py with
    | none => rw [e1] at e; cases e
    | some q =>
      cases e2 : D.pys ds with
      | none => rw [e1, e2] at e; cases e
      | some qs => rw [e1, e2] at e; cases e; exact .cons (dp_of d v q h1 e1) (dps_of ds vr qs h2 e2)
end
theorem dpB {S : Sta} {d : D} {v : V} {p : PyData} (h : RepB S F H d v) (e : d.py = some p) : Dp S.K H v p := by
  cases d with
  | tup xs =>
    obtain ⟨a, vs, rfl, h1, h2⟩ := h
    unfold D.py at e
    cases e2 : D.pys xs with
    | none => rw [e2] at e; cases e
    | some ps => rw [e2] at e; cases e; exact .tup h1 (dps_of xs vs ps h2 e2)
  | lst xs =>
    obtain ⟨a, vs, rfl, h1, h2⟩ := h
    unfold D.py at e
    cases e2 : D.pys xs with
    | none => rw [e2] at e; cases e
    | some ps => rw [e2] at e; cases e; exact .lst h1 (dps_of xs vs ps h2 e2)
  | dct _ _ => cases e
  | obj _ _ => cases e
  | _ => exact dp_of _ v p h e
theorem py_noObj {d : D} {p : PyData} (e : d.py = some p) : ¬ IsObj d := by
  cases d with
  | obj _ _ => cases e
  | _ => exact id
end

section
variable {c : Cc} {kp : Nat → Prop} {σ : L2.St} {tl : Ld} {Q : VK} {F : Fz} {H : Hp}
theorem RunO.int {i : Int} (s : Sim c F tl σ H) (h : RunO c kp σ tl (.ok (.v (.int i)) (era c.n tl)) Q) : Q (.int i) H := RunO.val (d := .int i) s rfl h
theorem RunO.str {i : Str} (s : Sim c F tl σ H) (h : RunO c kp σ tl (.ok (.v (.str i)) (era c.n tl)) Q) : Q (.str i) H := RunO.val (d := .str i) s rfl h
theorem RunO.bl {i : Bool} (s : Sim c F tl σ H) (h : RunO c kp σ tl (.ok (.v (.bl i)) (era c.n tl)) Q) : Q (.bl i) H := RunO.val (d := .bl i) s rfl h
theorem RunO.non (s : Sim c F tl σ H) (h : RunO c kp σ tl (.ok (.v .non) (era c.n tl)) Q) : Q .non H := RunO.val (d := .non) s rfl h
end

section
variable {c : Cc}
theorem o_int {o : B2} {g : Int → Int → Int} {P : Int → Int → Prop} (h : ∀ d1 d2 res, b2 o d1 d2 = some res → ∃ i j, d1 = .int i ∧ d2 = .int j ∧ P i j ∧ res = .v (.int (g i j))) : Op2 c o (rI P fun i j => .int (g i j)) := by
  intro kp σ tl F H d1 d2 r1 r2 x y res Q s e1 e2 e3 q
  obtain ⟨i, j, rfl, rfl, hp, rfl⟩ := h d1 d2 res e3
  exact ⟨i, j, at_int s e1, at_int s e2, hp, RunO.int s q⟩
theorem o_int0 {o : B2} {g : Int → Int → Int} (h : ∀ d1 d2 res, b2 o d1 d2 = some res → ∃ i j, d1 = .int i ∧ d2 = .int j ∧ res = .v (.int (g i j))) : Op2 c o (rI0 fun i j => .int (g i j)) := by
  intro kp σ tl F H d1 d2 r1 r2 x y res Q s e1 e2 e3 q
  obtain ⟨i, j, rfl, rfl, rfl⟩ := h d1 d2 res e3
  exact ⟨i, j, at_int s e1, at_int s e2, RunO.int s q⟩
theorem o_cmp {o : B2} {g : Int → Int → Bool} (h : ∀ d1 d2 res, b2 o d1 d2 = some res → ∃ i j, d1 = .int i ∧ d2 = .int j ∧ res = .v (.bl (g i j))) : Op2 c o (rI0 fun i j => .bl (g i j)) := by
  intro kp σ tl F H d1 d2 r1 r2 x y res Q s e1 e2 e3 q
  obtain ⟨i, j, rfl, rfl, rfl⟩ := h d1 d2 res e3
  exact ⟨i, j, at_int s e1, at_int s e2, RunO.bl s q⟩

theorem mulOk_ok {i j : Int} (h : mulOk i j = true) : IntMulOk i j := by
  unfold mulOk at h
  rcases Bool.or_eq_true_iff.mp
                               h with h | h
  · exact CMul.ok (show (-(2 ^ 64) < i ∧ i < 2 ^ 64) ∨ (-(2 ^ 64) < j ∧ j < 2 ^ 64) from of_decide_eq_true h)
  · exact CMulW.ok (show i.natAbs.log2 + j.natAbs.log2 < 1000000 from of_decide_eq_true h)
theorem op_mulA {X : Cx} : OpR X (binaryOp .Mult) (rI (fun i j => mulOk i j = true) fun i j => .int (i * j)) := opI fun _ _ _ _ _ _ _ hc q => mul_int q (mulOk_ok hc)
theorem op_divA {X : Cx} : OpR X (binaryOp .FloorDiv) (rI (fun _ j => divOk j = true) fun i j => .int (i / j)) := opI fun i j _ _ _ _ _ hc q => by
  have h : 0 < j ∧ j.natAbs.log2 < 9000 := of_decide_eq_true hc
  exact floordiv_int (by omega) (by rw [Int.fdiv_eq_ediv_of_nonneg i (by omega)]; exact q) (.inl (PyProof.noPylong_of_log2 h.2))
theorem o_add : Op2 c .add (rI0 fun i j => .int (i + j)) := o_int0 fun d1 d2 res e => by
  cases d1 <;> cases d2 <;> first
    | (cases e; exact ⟨_, _, rfl, rfl, rfl⟩)
    | cases e
theorem o_sub : Op2 c .sub (rI0 fun i j => .int (i - j)) := o_int0 fun d1 d2 res e => by
  cases d1 <;> cases d2 <;> first
    | (cases e; exact ⟨_, _, rfl, rfl, rfl⟩)
    | cases e
theorem o_mul : Op2 c .mul (rI (fun i j => mulOk i j = true) fun i j => .int (i * j)) := o_int fun d1 d2 res e => by
  cases d1 with
  | int i => cases d2 with
    | int j =>
      have e : (if mulOk i j then iO (i * j) else none) = some res := e
      split at e
      · cases e; exact ⟨_, _, rfl, rfl, by assumption, rfl⟩
      · cases e
    | _ => cases e
  | _ => cases d2 <;> cases e
theorem o_div : Op2 c .div (rI (fun _ j => divOk j = true) fun i j => .int (i / j)) := o_int fun d1 d2 res e => by
  cases d1 with
  | int i => cases d2 with
    | int j =>
      have e : (if divOk j then iO (i / j) else none) = some res := e
      split at e
      · cases e; exact ⟨_, _, rfl, rfl, by assumption, rfl⟩
      · cases e
    | _ => cases e
  | _ => cases d2 <;> cases e
theorem o_mod : Op2 c .mod (rI (fun _ j => 0 < j) fun i j => .int (i % j)) := o_int fun d1 d2 res e => by
  cases d1 with
  | int i => cases d2 with
    | int j =>
      have e : (if 0 < j then iO (i % j) else none) = some res := e
      split at e
      · cases e; exact ⟨_, _, rfl, rfl, by assumption, rfl⟩
      · cases e
    | _ => cases e
  | _ => cases d2 <;> cases e
theorem o_pow : Op2 c .pow (rI CPow fun i j => .int (i ^ j.toNat)) := o_int fun d1 d2 res e => by
  cases d1 with
  | int i => cases d2 with
    | int j =>
      have e : (if 0 ≤ j ∧ j ≤ 1000000 ∧ i.natAbs < 2 ^ 64 then iO (i ^ j.toNat) else none) = some res := e
      split at e
      · cases e; exact ⟨_, _, rfl, rfl, by assumption, rfl⟩
      · cases e
    | _ => cases e
  | _ => cases d2 <;> cases e
theorem o_shl : Op2 c .shl (rI CPow fun i j => .int (i * 2 ^ j.toNat)) := o_int fun d1 d2 res e => by
  cases d1 with
  | int i => cases d2 with
    | int j =>
      have e : (if 0 ≤ j ∧ j ≤ 1000000 ∧ i.natAbs < 2 ^ 64 then iO (i * 2 ^ j.toNat) else none) = some res := e
      split at e
      · cases e; exact ⟨_, _, rfl, rfl, by assumption, rfl⟩
      · cases e
    | _ => cases e
  | _ => cases d2 <;> cases e
theorem o_lt : Op2 c .lt (rI0 fun i j => .bl (decide (i < j))) := o_cmp fun d1 d2 res e => by
  cases d1 <;> cases d2 <;> first
    | (cases e; exact ⟨_, _, rfl, rfl, rfl⟩)
    | cases e
theorem o_le : Op2 c .le (rI0 fun i j => .bl (decide (i ≤ j))) := o_cmp fun d1 d2 res e => by
  cases d1 <;> cases d2 <;> first
    | (cases e; exact ⟨_, _, rfl, rfl, rfl⟩)
    | cases e
theorem o_gt : Op2 c .gt (rI0 fun i j => .bl (decide (j < i))) := o_cmp fun d1 d2 res e => by
  cases d1 <;> cases d2 <;> first
    | (cases e; exact ⟨_, _, rfl, rfl, rfl⟩)
    | cases e
theorem o_ge : Op2 c .ge (rI0 fun i j => .bl (decide (j ≤ i))) := o_cmp fun d1 d2 res e => by
  cases d1 <;> cases d2 <;> first
    | (cases e; exact ⟨_, _, rfl, rfl, rfl⟩)
    | cases e
theorem o_neg : Op1 c .neg (rU fun i => .int (-i)) := by
  intro kp σ tl F H d r1 x res Q s e1 e3 q
  cases d with
  | int i => cases e3; exact ⟨i, at_int s e1, RunO.int s q⟩
  | _ => cases e3
theorem o_addS : Op2 c .addS (fun x y H Q => ∃ i j, x = .str i ∧ y = .str j ∧ i.length + j.length ≤ sizeLine ∧ Q (.str (i ++ j)) H) := by
  intro kp σ tl F H d1 d2 r1 r2 x y res Q s e1 e2 e3 q
  cases d1 with
  | str a => cases d2 with
    | str b =>
      have e : (if a.length + b.length ≤ sizeLine then some (O.v (.str (a ++ b))) else none) = some res := e3
      split at e
      · cases e; exact ⟨a, b, at_str s e1, at_str s e2, by assumption, RunO.str s q⟩
      · cases e
    | _ => cases e3
  | _ => cases d2 <;> cases e3
theorem o_inS : Op2 c .inS (fun x y H Q => ∃ i j, x = .str i ∧ y = .str j ∧ Q (.bl (!(Builtin.Str.occurrences j i 0 j.length 1).isEmpty)) H) := by
  intro kp σ tl F H d1 d2 r1 r2 x y res Q s e1 e2 e3 q
  cases d1 with
  | str a => cases d2 with
    | str b => cases e3; exact ⟨a, b, at_str s e1, at_str s e2, RunO.bl s q⟩
    | _ => cases e3
  | _ => cases d2 <;> cases e3
theorem o_notInS : Op2 c .notInS (fun x y H Q => ∃ i j, x = .str i ∧ y = .str j ∧ Q (.bl (!(!(Builtin.Str.occurrences j i 0 j.length 1).isEmpty))) H) := by
  intro kp σ tl F H d1 d2 r1 r2 x y res Q s e1 e2 e3 q
  cases d1 with
  | str a => cases d2 with
    | str b => cases e3; exact ⟨a, b, at_str s e1, at_str s e2, RunO.bl s q⟩
    | _ => cases e3
  | _ => cases d2 <;> cases e3
def rCatS (K : PySem.W.Frag) : R2 := fun x y H Q => ∃ l b xs zs, x = .ref l ∧ y = .ref b ∧ SqL K H l xs ∧ SqL K H b zs ∧ xs.length + zs.length ≤ sizeLine ∧ ∀ p, H p = none → Q (.ref p) (upd H p (.lst (xs ++ zs)))
theorem plain_cut {h : Heap} {a : Addr} {its : Array Value} (p : PlainL h a its) : ∃ (n : Nat) (sl : Array (Option Value)), h.get? a = some { cls := .type "list", dict := none, data := .seq its n, slots := sl } := by
  obtain ⟨⟨cl, dd, dt, sl⟩, n, h1, h2, h3, h4⟩ := p
  simp only at h2 h3 h4
  subst h2 h3 h4
  exact ⟨n, sl, h1⟩
theorem op_catS {X : Cx} : OpR X (binaryOp .Add) (rCatS X.K) := by
  intro pins s σ H x
                    y v u Q I rx ry h
  obtain ⟨l, b, xs, zs, rfl,
                            rfl, hH, hB, hz, q⟩ := h
  cases rx
  cases ry
  obtain ⟨its, r, pl, hl⟩ := I.list hH
  obtain ⟨its2, r2, pl2, hl2⟩ := I.list hB
  obtain ⟨n, sl, e⟩ := plain_cut pl
  obtain ⟨n2, sl2, e2⟩ := plain_cut pl2
  have l1 := r.length
  have l2 := r2.length
  have ea : its.toArray ++ its2.toArray = (its ++ its2).toArray := by
                                                                     simp
  refine concat_meets ⟨_, e, rfl⟩ ⟨_, e2, rfl⟩ noFill_list_add seq_list_add PySem.F.slot_list_add PySem.F.entry_list_add (PySem.F.args_list_add_2 _ _) (list_addW l b its.toArray its2.toArray n n2 none none sl sl2 (by simp only [List.size_toArray]; omega)) ⟨e, e2, ?_⟩
  rw [ea]
  exact ⟨.ref _, _, I.lnew (t' := s.toks) (r.append r2)
                                                       (by rw [List.length_append]; omega), rfl, q _ I.fresh⟩
theorem o_catL (hK : c.S.K = c.X.K) : Op2 c .catL (rCatS c.X.K) := by
  intro kp σ tl F H d1 d2 r1 r2 x y res Q s e1 e2 e3 q
  cases d1 with
  | lst a => cases d2 with
    | lst b =>
      have e : (if a.length + b.length ≤ sizeLine then some (O.cell (.lst (a ++ b))) else none) = some res := e3
      split at e
      · cases e
        obtain ⟨p1, v1, rfl, h1, h2⟩ := at_lst s e1
        obtain ⟨p2, v2, rfl, h3, h4⟩ := at_lst s e2
        rw [hK] at h1 h3
        refine ⟨p1, p2, v1, v2, rfl, rfl, h1, h3, ?_, fun p hp => RunO.lst s hp (RepDs.app h2 h4) q⟩
        rw [← RepDs.length h2, ← RepDs.length h4]; assumption
      · cases e
    | _ => cases e3
  | _ => cases d2 <;> cases e3
theorem o_catT (hK : c.S.K = c.X.K) : Op2 c .catT (rCatT c.X.K) := by
  intro kp σ tl F H d1 d2 r1 r2 x y res Q s e1 e2 e3 q
  cases d1 with
  | tup a => cases d2 with
    | tup b =>
      have e : (if a.length + b.length ≤ sizeLine ∧ a ≠ [] then some (O.v (.tup (a ++ b))) else none) = some res := e3
      by_cases z : a.length + b.length ≤ sizeLine ∧ a ≠ []
      · rw [if_pos z] at e
        cases e
        obtain ⟨p1, v1, rfl, h1, h2⟩ := at_tup s e1
        obtain ⟨p2, v2, rfl, h3, h4⟩ := at_tup s e2
        rw [hK] at h1 h3
        have l1 := RepDs.length h2
        have l2 := RepDs.length h4
        refine ⟨p1, p2, v1, v2, rfl, rfl, h1, h3, fun hv => z.2 ?_, by omega, fun hv => ?_, fun _ p hp => RunO.tup s hp (RepDs.app h2 h4) q⟩
        · rw [hv] at l1; exact List.length_eq_zero_iff.mp l1
        · have hb : b = [] := by rw [hv] at l2; exact List.length_eq_zero_iff.mp l2
          rw [hb, List.append_nil] at q
          exact RunO.val s (at_rep s e1 trivial) q
      · rw [if_neg z] at e; cases e
    | _ => cases e3
  | _ => cases d2 <;> cases e3
theorem o_eq (hK : c.S.K = c.X.K) : Op2 c .eq (rEqD c.X.K) := by
  intro kp σ tl F H d1 d2 r1 r2 x y res Q s e1 e2 e3 q
  have e3 : (eqD d1 d2).bind bO = some res := e3
  unfold eqD at e3
  cases p1 : d1.py with
  | none => rw [p1] at e3; cases e3
  | some p =>
    cases p2 : d2.py with
    | none => rw [p1, p2] at e3; cases e3
    | some p' =>
      rw [p1, p2] at e3
      dsimp only at e3
      by_cases z : (SeqAt.shaped p && SeqAt.shaped p') = true
      · rw [if_pos z] at e3
        cases e3
        obtain ⟨z1, z2⟩ := Bool.and_eq_true_iff.mp z
        have r := dpB (at_b s e1 (py_noObj p1)) p1
        have r' := dpB (at_b s e2 (py_noObj p2)) p2
        rw [hK] at r r'
        exact ⟨p, p', r, r', z1, z2, RunO.bl s q⟩
      · rw [if_neg z] at e3; cases e3
theorem eqKI_rep {S : Sta} {F : Fz} {H : Hp} : ∀ {ds es : List D} {vs ws : List V}, eqKI ds es = true → RepDs S F H ds vs → RepDs S F H es ws → vs = ws ∧ ∀ v ∈ vs, flatB v = true
  | [], [], vs, ws, _, h1, h2 => by
    have h1 : vs = [] := h1
    have h2 : ws = [] := h2
    subst h1 h2
    exact ⟨rfl, by simp⟩
  | [], e :: es, vs, ws, h, _, _ => by cases e <;> (unfold eqKI at h; cases h)
  | d :: ds, [], vs, ws, h, _, _ => by cases d <;> (unfold eqKI at h; cases h)
  | d :: ds, e :: es, vs, ws, h, h1, h2 => by
    cases d with
    | int i => cases e with
      | int j =>
        unfold eqKI at h
        rw [Bool.and_eq_true] at h
        obtain ⟨v, vr, rfl, a1, a2⟩ := h1
        obtain ⟨w, wr, rfl, b1, b2⟩ := h2
        have a1 : v = .int i := a1
        have b1 : w = .int j := b1
        obtain ⟨e1, e2⟩ := eqKI_rep h.2 a2 b2
        have hij : i = j := of_decide_eq_true h.1
        refine ⟨by rw [a1, b1, hij, e1], fun z hz => ?_⟩
        rcases List.mem_cons.mp hz with q | q
        · rw [q, a1]; rfl
        · exact e2 z q
      | _ => unfold eqKI at h; cases h
    | _ => unfold eqKI at h; cases h
theorem kvs_ext {xs ys : List (Key × V)} (h1 : xs.map (·.1) = ys.map (·.1)) (h2 : xs.map (·.2) = ys.map (·.2)) : xs = ys := by
  induction xs generalizing ys with
  | nil => cases ys with
    | nil => rfl
    | cons y ys => cases h1
  | cons x xs ih => cases ys with
    | nil => cases h1
    | cons y ys =>
      rw [List.map_cons, List.map_cons, List.cons.injEq] at h1 h2
      rw [ih h1.2 h2.2, Prod.ext h1.1 h2.1]
theorem o_eqK : Op2 c .eqK (fun x y H Q => ∃ a b kvs, x = .ref a ∧ y = .ref b ∧ H a = some (.dK kvs) ∧ H b = some (.dK kvs) ∧ (kvs.map (·.1)).Nodup ∧ (∀ p ∈ kvs, flatB p.2 = true) ∧ Q (.bl true) H) := by
  intro kp σ tl F H d1 d2 r1 r2 x y res Q s e1 e2 e3 q
  cases d1 with
  | dct ks vs => cases d2 with
    | dct ls ws =>
      have e3 : (if ks = ls ∧ eqKI vs ws = true ∧ ks.Nodup then bO true else none) = some res := e3
      by_cases z : ks = ls ∧ eqKI vs ws = true ∧ ks.Nodup
      · rw [if_pos z] at e3
        cases e3
        obtain ⟨a, kvs, rfl, h1, h2, h3⟩ := at_dct s e1
        obtain ⟨b, lws, rfl, g1, g2, g3⟩ := at_dct s e2
        obtain ⟨z1, z2⟩ := eqKI_rep z.2.1 h3 g3
        have e : kvs = lws := kvs_ext (by rw [h2, g2, z.1]) z1
        subst e
        refine ⟨a, b, kvs, rfl, rfl, h1, g1, by rw [h2]; exact z.2.2, fun p hp => z2 _ (List.mem_map_of_mem hp), RunO.bl s q⟩
      · rw [if_neg z] at e3; cases e3
    | _ => cases e3
  | _ => cases d2 <;> cases e3
theorem o_ne (hK : c.S.K = c.X.K) : Op2 c .ne (rNeD c.X.K) := by
  intro kp σ tl F H d1 d2 r1 r2 x y res Q s e1 e2 e3 q
  have e3 : (eqD d1 d2).bind (fun r => bO (!r)) = some res := e3
  unfold eqD at e3
  cases p1 : d1.py with
  | none => rw [p1] at e3; cases e3
  | some p =>
    cases p2 : d2.py with
    | none => rw [p1, p2] at e3; cases e3
    | some p' =>
      rw [p1, p2] at e3
      dsimp only at e3
      by_cases z : (SeqAt.shaped p && SeqAt.shaped p') = true
      · rw [if_pos z] at e3
        cases e3
        obtain ⟨z1, z2⟩ := Bool.and_eq_true_iff.mp z
        have r := dpB (at_b s e1 (py_noObj p1)) p1
        have r' := dpB (at_b s e2 (py_noObj p2)) p2
        rw [hK] at r r'
        exact ⟨p, p', r, r', z1, z2, RunO.bl s q⟩
      · rw [if_neg z] at e3; cases e3
end
end VE

namespace VE
open PySem PySem.Spec
                     PyProof.Rows L2

def tOpP (p : V → Hp → Prop) (r : R2) (ta tb : TE) : TE := fun σ H Q => ta σ H fun x H1 => p x H1 ∧ tb σ H1 fun y H2 => r x y H2 Q
def Pre (c : Cc) (o : B2) (p : V → Hp → Prop) : Prop := ∀ (σ : L2.St) (tl : Ld) (F : Fz) (H : Hp) (d : D) (r : Rf) (x : V), Sim c F tl σ H → Rf.at tl d x r → pre o d = true → p x H
section
variable {c : Cc} {kp kpa kpb : Nat → Prop} {e a b : Expr} {ma mb : E}
theorem s_op2P {o : B2} {r : R2} {p : V → Hp → Prop} (ho : Op2 c o r) (hpre : Pre c o p) (ha : PE c.X a (tB c kpa (plS ma) (bB c ma))) (hb : PE c.X b (tB c kpb (plS mb) (bB c mb)))
    (mk : ∀ {ta tb : TE}, PE c.X a ta → PE c.X b tb → PE c.X e (tOpP p r ta tb)) (k1 : ∀ i, kp i → kpa i) (k2 : ∀ i, kp i → kpb i) (hp : ∀ i, plS ma = some i → kpb i) : PE c.X e (tE c kp (evO c.G (.b2 o ma mb))) := by
  refine PE.imp (mk ha hb) fun σ H Q ⟨F, tl, s, q⟩ => ⟨F, tl, s, ?_⟩
  unfold evO at q
  cases e1 : bor ma (evO c.G ma (era c.n tl)) (era c.n tl) with
  | exc x env =>
    rw [show bB c ma (era c.n tl) = _ from e1]
    rw [e1] at q; exact q
  | bad => rw [e1] at q; exact q.elim
  | ok d env =>
    rw [show bB c ma (era c.n tl) = _ from e1]
    rw [e1] at q
    have q : RunO c kp σ tl (if pre o d = true then (bor mb (evO c.G mb env) env).bind fun y env2 => lift (b2 o d y) env2 else .bad) Q := q
    by_cases hz : pre o d = true
    · rw [if_pos hz] at q
      intro F' H' tl1 r1 v s1 st1 e2 at1 or1
      rw [← e2] at q
      have q' := q.adv (st1.mono k1)
      refine ⟨hpre σ tl1 F' H' d r1 v s1 at1 hz, F', tl1, s1, ?_⟩
      cases e5 : bor mb (evO c.G mb (era c.n tl1)) (era c.n tl1) with
      | exc x env =>
        rw [show bB c mb (era c.n tl1) = _ from e5]
        rw [e5] at q'; exact q'
      | bad => rw [e5] at q'; exact q'.elim
      | ok d2 env2 =>
        rw [show bB c mb (era c.n tl1) = _ from e5]
        rw [e5] at q'
        have q' : RunO c kp σ tl1 (lift (b2 o d d2) env2) Q := q'
        intro F2 H2 tl2 r2 w s2 st2 e6 at2 _
        rw [← e6] at q'
        have q2 := q'.adv (st2.mono k2)
        cases e7 : b2 o d d2 with
        | none => rw [e7] at q2; exact q2.elim
        | some res =>
          rw [e7] at q2
          exact ho kp σ tl2 F2 H2 d d2 r1 r2 v w res Q s2 (Rf.later at1 st2 s.len or1 hp) at2 e7 q2
    · rw [if_neg hz] at q
      exact q.elim
end
theorem pre_str {c : Cc} {o : B2} (h : ∀ d, pre o d = true → ∃ s, d = .str s) : Pre c o (fun x _ => ∃ a, x = .str a) := fun σ tl F H d r x s ha hz => by
  obtain ⟨z, rfl⟩ := h d hz
  exact ⟨z, at_str s ha⟩

theorem pys_list {xs : List D} {ps : List PyData} (h : D.pys xs = some ps) : (D.lst xs).py = some (.list ps) := by
  show (D.pys xs).map PyData.list = _
  rw [h]; rfl
section
variable {c : Cc}
theorem o_inQ (hK : c.S.K = c.X.K) : Op2 c .inQ (rInD c.X.K) := by
  intro kp σ tl F H d1 d2 r1 r2 x y res Q s e1 e2 e3 q
  cases d2 with
  | lst xs =>
    have e3 : (inP d1 xs).bind bO = some res := e3
    unfold inP at e3
    cases p1 : d1.py with
    | none => rw [p1] at e3; cases e3
    | some p =>
      cases p2 : D.pys xs with
      | none => rw [p1, p2] at e3; cases e3
      | some ps =>
        rw [p1, p2] at e3
        dsimp only at e3
        by_cases z : (SeqAt.shaped p && SeqAt.shaped (.list ps)) = true
        · rw [if_pos z] at e3
          cases e3
          obtain ⟨z1, z2⟩ := Bool.and_eq_true_iff.mp z
          have r := dpB (at_b s e1 (py_noObj p1)) p1
          have r' := dpB (at_b s e2 id) (pys_list p2)
          rw [hK] at r r'
          exact ⟨p, ps, r, r', z1, z2, RunO.bl s q⟩
        · rw [if_neg z] at e3; cases e3
  | _ => cases e3
theorem o_notInQ (hK : c.S.K = c.X.K) : Op2 c .notInQ (rNotInD c.X.K) := by
  intro kp σ tl F H d1 d2 r1 r2 x y res Q s e1 e2 e3 q
  cases d2 with
  | lst xs =>
    have e3 : (inP d1 xs).bind (fun r => bO (!r)) = some res := e3
    unfold inP at e3
    cases p1 : d1.py with
    | none => rw [p1] at e3; cases e3
    | some p =>
      cases p2 : D.pys xs with
      | none => rw [p1, p2] at e3; cases e3
      | some ps =>
        rw [p1, p2] at e3
        dsimp only at e3
        by_cases z : (SeqAt.shaped p && SeqAt.shaped (.list ps)) = true
        · rw [if_pos z] at e3
          cases e3
          obtain ⟨z1, z2⟩ := Bool.and_eq_true_iff.mp z
          have r := dpB (at_b s e1 (py_noObj p1)) p1
          have r' := dpB (at_b s e2 id) (pys_list p2)
          rw [hK] at r r'
          exact ⟨p, ps, r, r', z1, z2, RunO.bl s q⟩
        · rw [if_neg z] at e3; cases e3
  | _ => cases e3
theorem flat_ints : ∀ is : List Int, (is.map V.int).all flatV = true
  | [] => rfl
  | i :: r => by rw [List.map_cons, List.all_cons, flat_ints r]; rfl
theorem flat_strs : ∀ is : List Str, (is.map V.str).all flatV = true
  | [] => rfl
  | i :: r => by rw [List.map_cons, List.all_cons, flat_strs r]; rfl
theorem inV_ints (i : Int) : ∀ is : List Int, inV (.int i) (is.map V.int) = decide (i ∈ is)
  | [] => by simp [inV]
  | j :: r => by
    have h := inV_ints i r
    unfold inV at h ⊢
    rw [List.map_cons, List.any_cons, h]
    show (j == i || decide (i ∈ r)) = _
    by_cases e : j = i
    · subst e; simp
    · have e' : (j == i) = false := beq_eq_false_iff_ne.mpr e
      rw [e', Bool.false_or]
      by_cases m : i ∈ r
      · simp [m]
      · rw [decide_eq_false m]
        exact (decide_eq_false fun z => (List.mem_cons.mp z).elim (fun q => e q.symm) m).symm
theorem inV_strs (i : Str) : ∀ is : List Str, inV (.str i) (is.map V.str) = decide (i ∈ is)
  | [] => by simp [inV]
  | j :: r => by
    have h := inV_strs i r
    unfold inV at h ⊢
    rw [List.map_cons, List.any_cons, h]
    show (j == i || decide (i ∈ r)) = _
    by_cases e : j = i
    · subst e; simp
    · have e' : (j == i) = false := beq_eq_false_iff_ne.mpr e
      rw [e', Bool.false_or]
      by_cases m : i ∈ r
      · simp [m]
      · rw [decide_eq_false m]
        exact (decide_eq_false fun z => (List.mem_cons.mp z).elim (fun q => e q.symm) m).symm
theorem tup_in {neg : Bool} {o : B2} (hK : c.S.K = c.X.K) (ho : ∀ d1 d2 res, b2 o d1 d2 = some res → ∃ xs r, d2 = .tup xs ∧ inTup d1 xs = some r ∧ res = .v (.bl (if neg then !r else r))) : Op2 c o (rIn c.X.K neg) := by
  intro kp σ tl F H d1 d2 r1 r2 x y res Q s e1 e2 e3 q
  obtain ⟨xs, r, rfl, e4, rfl⟩ := ho d1 d2 res e3
  obtain ⟨p, vs, rfl, h1, h2⟩ := at_tup s e2
  rw [hK] at h1
  have q := RunO.bl s q
  cases d1 with
  | int i =>
    cases e5 : allOf asInt xs with
    | none => unfold inTup at e4; rw [e5] at e4; cases e4
    | some is =>
      unfold inTup at e4; rw [e5] at e4
      have e4 : decide (i ∈ is) = r := Option.some.inj e4
      have hv := ints_of h2 e5
      subst hv
      obtain rfl := at_int s e1
      refine ⟨p, _, rfl, .inr h1, rfl, flat_ints is, ?_⟩
      rw [inV_ints, e4]
      exact q
  | str i =>
    cases e5 : allOf asStr xs with
    | none => unfold inTup at e4; rw [e5] at e4; cases e4
    | some is =>
      unfold inTup at e4; rw [e5] at e4
      have e4 : decide (i ∈ is) = r := Option.some.inj e4
      have hv := strs_of h2 e5
      subst hv
      obtain rfl := at_str s e1
      refine ⟨p, _, rfl, .inr h1, rfl, flat_strs is, ?_⟩
      rw [inV_strs, e4]
      exact q
  | _ => cases e4
theorem o_inT (hK : c.S.K = c.X.K) : Op2 c .inT (rIn c.X.K false) := tup_in hK fun d1 d2 res e => by
  cases d2 with
  | tup xs =>
    have e : (inTup d1 xs).bind bO = some res := e
    cases e2 : inTup d1 xs with
    | none => rw [e2] at e; cases e
    | some r => rw [e2] at e; cases e; exact ⟨xs, r, rfl, e2, rfl⟩
  | _ => cases e
theorem o_notInT (hK : c.S.K = c.X.K) : Op2 c .notInT (rIn c.X.K true) := tup_in hK fun d1 d2 res e => by
  cases d2 with
  | tup xs =>
    have e : (inTup d1 xs).bind (fun r => bO (!r)) = some res := e
    cases e2 : inTup d1 xs with
    | none => rw [e2] at e; cases e
    | some r => rw [e2] at e; cases e; exact ⟨xs, r, rfl, e2, rfl⟩
  | _ => cases e
theorem look_val {S : Sta} {F : Fz} {H : Hp} : ∀ {kvs : List (Key × V)} {ds : List D} (k : Key), RepDs S F H ds (kvs.map (·.2)) →
    (look (kvs.map (·.1)) ds k = none ∧ valV kvs k = none) ∨ ∃ d v, look (kvs.map (·.1)) ds k = some d ∧ valV kvs k = some v ∧ RepD S F H d v
  | [], ds, k, h => by
    cases ds with
    | nil => exact .inl
                       ⟨rfl, rfl⟩
    | cons d r => obtain ⟨v, vr, e, _⟩ := h; cases e
  | p :: kvs, [], k, h => by
    have h : p.2 :: kvs.map (·.2) = [] := h
    cases h
  | p :: kvs, d :: ds, k, h => by
    obtain ⟨v, vr, e, h1, h2⟩ := h
    have e : p.2 :: kvs.map (·.2) = v :: vr := e
    injection e with e1 e2
    subst e1; subst e2
    rw [List.map_cons]
    show ((if p.1 = k then some d else look (kvs.map (·.1)) ds k) = none ∧ _) ∨ ∃ d' v', (if p.1 = k then some d else look (kvs.map (·.1)) ds k) = some d' ∧ _
    by_cases z : p.1 = k
    · rw [if_pos z]
      exact .inr ⟨d, p.2, rfl, valV_pos z, h1⟩
    · rw [if_neg z, valV_neg z]
      exact look_val k h2
theorem key_V {F : Fz} {tl : Ld} {σ : L2.St} {H : Hp} {d : D} {k : Key} {x : V} {r : Rf} (s : Sim c F tl σ H) (h : Rf.at tl d x r) (e : keyOf d = some k) : x = kV k := by
  cases d with
  | int i => cases e; exact at_int s h
  | str i => cases e; exact at_str s h
  | _ => cases e
def rDIn (neg : Bool) : R2 := fun y x H Q => ∃ a o, x = .ref a ∧ DGet H a y o ∧ Q (.bl (if neg then !o.isSome else o.isSome)) H
theorem o_inKg {o : B2} {neg : Bool} (ho : ∀ d1 d2 res, b2 o d1 d2 = some res → ∃ ks vs k, d2 = .dct ks vs ∧ keyOf d1 = some k ∧ res = .v (.bl (if neg then !(look ks vs k).isSome else (look ks vs k).isSome))) : Op2 c o (rDIn neg) := by
  intro kp σ tl F H d1 d2 r1 r2 x y res Q s e1 e2 e3 q
  obtain ⟨ks, vs, k, rfl, e4, rfl⟩ := ho d1 d2 res e3
  obtain ⟨a, kvs, rfl, h1, h2, h3⟩ := at_dct s e2
  have hx := key_V s e1 e4
  subst hx
  subst h2
  refine ⟨a, valV kvs k, rfl, DGet.k h1, ?_⟩
  have q := RunO.bl s q
  rcases look_val k h3 with ⟨z1, z2⟩ | ⟨d, v, z1, z2, _⟩
  · rw [z1] at q; rw [z2]; exact q
  · rw [z1] at q; rw [z2]; exact q
theorem o_inK : Op2 c .inK (rDIn false) := o_inKg fun d1 d2 res e => by
  cases d2 with
  | dct ks vs =>
    have e : (keyOf d1).bind (fun k => bO (look ks vs k).isSome) = some res := e
    cases e2 : keyOf d1 with
    | none => rw [e2] at e; cases e
    | some r => rw [e2] at e; cases e; exact ⟨ks, vs, r, rfl, rfl, rfl⟩
  | _ => cases e
theorem o_notInK : Op2 c .notInK (rDIn true) := o_inKg fun d1 d2 res e => by
  cases d2 with
  | dct ks vs =>
    have e : (keyOf d1).bind (fun k => bO (!(look ks vs k).isSome)) = some res := e
    cases e2 : keyOf d1 with
    | none => rw [e2] at e; cases e
    | some r => rw [e2] at e; cases e; exact ⟨ks, vs, r, rfl, rfl, rfl⟩
  | _ => cases e
theorem o_ixK : Op2 c .ixK (fun x y H Q => ∃ a v, x = .ref a ∧ DGet H a y (some v) ∧ Q v H) := by
  intro kp σ tl F H d1 d2 r1 r2 x y res Q s e1 e2 e3 q
  cases d1 with
  | dct ks vs =>
    have e : (keyOf d2).bind (fun k => (look ks vs k).map O.v) = some res := e3
    cases e4 : keyOf d2 with
    | none => rw [e4] at e; cases e
    | some k =>
      rw [e4] at e
      obtain ⟨a, kvs, rfl, h1, h2, h3⟩ := at_dct s e1
      have hx := key_V s e2 e4
      subst hx
      subst h2
      rcases look_val k h3 with ⟨z1, z2⟩ | ⟨d, v, z1, z2, r⟩
      · have e : (look (kvs.map (·.1)) vs k).map O.v = some res := e
        rw [z1] at e; cases e
      · have e : (look (kvs.map (·.1)) vs k).map O.v = some res := e
        rw [z1] at e; cases e
        refine ⟨a, v, rfl, ?_, RunO.val s r q⟩
        rw [← z2]
        exact DGet.k h1
  | _ => cases e3
theorem atI_rep {S : Sta} {F : Fz} {H : Hp} {xs : List D} {vs : List V} {i : Int} {d : D} (h : RepDs S F H xs vs) (e : atI xs i = some d) : ∃ v, atI vs i = some v ∧ RepD S F H d v := by
  unfold atI at e ⊢
  rw [← RepDs.length h]
  cases e2 : ixN xs.length i with
  | none => rw [e2] at e; cases e
  | some j =>
    rw [e2] at e
    obtain ⟨v, h1, h2⟩ := RepDs.get h (show xs[j]? = some d from e)
    exact ⟨v, h1, h2⟩
theorem o_ix (hK : c.S.K = c.X.K) : Op2 c .ix (rIx c.X.K) := by
  intro kp σ tl F H d1 d2 r1 r2 x y res Q s e1 e2 e3 q
  cases d2 with
  | int i =>
    have e3 : (litems d1).bind (fun xs => (atI xs i).map O.v) = some res := e3
    obtain rfl := at_int s e2
    cases d1 with
    | lst xs =>
      have e3 : (atI xs i).map O.v = some res := e3
      cases e4 : atI xs i with
      | none => rw
                  [e4] at e3; cases e3
      | some d =>
        rw [e4] at e3; cases e3
        obtain ⟨a, vs, rfl, h1, h2⟩ := at_lst s e1
        rw [hK] at h1
        obtain ⟨v, h3, h4⟩ := atI_rep h2 e4
        exact .inl ⟨a, vs, i, v, rfl, rfl, h1, h3, RunO.val s h4 q⟩
    | tup xs =>
      have e3 : (atI xs i).map O.v = some res := e3
      cases e4 : atI xs i with
      | none => rw
                  [e4] at e3; cases e3
      | some d =>
        rw [e4] at e3; cases e3
        obtain ⟨a, vs, rfl, h1, h2⟩ := at_tup s e1
        rw [hK] at h1
        obtain ⟨v, h3, h4⟩ := atI_rep h2 e4
        exact .inr (.inl ⟨a, vs, i, v, rfl, rfl, h1, h3, RunO.val s h4 q⟩)
    | _ => cases e3
  | _ => cases d1 <;> cases e3
theorem o_ixS : Op2 c .ixS (rIx c.X.K) := by
  intro kp σ tl F H d1 d2 r1 r2 x y res Q s e1 e2 e3 q
  cases d1 with
  | str z => cases d2 with
    | int i =>
      have e3 : (if z.length ≤ sizeLine then (atI z.cps.toList i).map fun c => O.v (.str ⟨#[c]⟩) else none) = some res := e3
      split at e3
      · cases e4 : atI z.cps.toList i with
        | none => rw
                    [e4] at e3; cases e3
        | some d =>
          rw [e4] at e3; cases e3
          exact .inr (.inr ⟨z, i, d, at_str s e1, at_int s e2, by assumption, e4, RunO.str s q⟩)
      · cases e3
    | _ => cases e3
  | _ => cases d2 <;> cases e3
theorem firstP_ok (d : PyData) : ∀ (ds : List PyData) (n m : Nat), firstP d ds n = some m → ∃ j z, m = n + j ∧ ds[j]? = some z ∧ PyData.eqv z d = true ∧ ∀ (k : Nat) (z' : PyData), k < j → ds[k]? = some z' → PyData.eqv z' d = false
  | [], n, m, h => by cases h
  | z :: zs, n, m, h => by
    have h : (if PyData.eqv z d = true then some n else firstP d zs (n + 1)) = some m := h
    by_cases e : PyData.eqv z d = true
    · rw [if_pos e] at h
      cases h
      exact ⟨0, z, rfl, rfl, e, fun k _ hk => absurd hk (Nat.not_lt_zero k)⟩
    · rw [if_neg e] at h
      obtain ⟨j, w, h1, h2, h3, h4⟩ := firstP_ok d zs (n + 1) m h
      refine ⟨j + 1, w, by omega, h2, h3, fun k z' hk hz => ?_⟩
      cases k with
      | zero => cases hz; exact Bool.eq_false_iff.mpr e
      | succ k => exact h4 k z' (by omega) hz
theorem o_index (hK : c.S.K = c.X.K) : Op2 c .index (fun x y H Q => rIndexD c.X.K x [y] H Q) := by
  intro kp σ tl F H d1 d2 r1 r2 x y res Q s e1 e2 e3 q
  cases d1 with
  | lst xs =>
    have e3 : (indexP d2 xs).bind (fun n => iO n) = some res := e3
    unfold indexP at e3
    cases p1 : d2.py with
    | none => rw [p1] at e3; cases e3
    | some p =>
      cases p2 : D.pys xs with
      | none => rw [p1, p2] at e3; cases e3
      | some ps =>
        rw [p1, p2] at e3
        dsimp only at e3
        by_cases z : (SeqAt.shaped p && SeqAt.shaped (.list ps)) = true
        · rw [if_pos z] at e3
          cases e4 : firstP p ps 0 with
          | none => rw
                      [e4] at e3; cases e3
          | some n =>
            rw [e4] at e3
            cases e3
            obtain ⟨z1, z2⟩ := Bool.and_eq_true_iff.mp z
            have r := dpB (at_b s e2 (py_noObj p1)) p1
            have r' := dpB (at_b s e1 id) (pys_list p2)
            rw [hK] at r r'
            obtain ⟨j, w, h1, h2, h3, h4⟩ := firstP_ok p ps 0 n e4
            obtain rfl : n = j := by omega
            obtain ⟨a, vs, rfl, _⟩ := at_lst s e1
            exact ⟨a, y, p, ps, n, w, rfl, rfl, r', r, z2, z1, h2, h3, h4, RunO.int s q⟩
        · rw [if_neg z] at e3; cases e3
  | _ => cases e3
theorem pre_index (hK : c.S.K = c.X.K) : Pre c .index (fun x H => tyV c.X.K "list" x H) := fun σ tl F H d r x s ha hz => by
  cases d with
  | lst xs =>
    obtain ⟨a, vs, rfl, h1, _⟩ := at_lst s ha
    rw [hK] at h1
    exact .inl ⟨rfl, vs, h1⟩
  | _ => cases hz
theorem o_join (hK : c.S.K = c.X.K) : Op2 c .join (fun x y H Q => ∃ a p, ∃ ys : List Str, x = .str a ∧ [y] = [.ref p] ∧ (SqL c.X.K H p (ys.map V.str) ∨ SqT c.X.K H p (ys.map V.str)) ∧ (ys.map (·.length)).sum + ys.length * a.length ≤ 16777216 ∧ Q (.str (Txt.join a ys)) H) := by
  intro kp σ tl F H d1 d2 r1 r2 x y res Q s e1 e2 e3 q
  cases d1 with
  | str z =>
    have e3 : (litems d2).bind (fun xs => (allOf asStr xs).bind fun ys => if (ys.map (·.length)).sum + ys.length * z.length ≤ 16777216 then some (O.v (.str (Txt.join z ys))) else none) = some res := e3
    obtain rfl := at_str s e1
    have main : ∀ xs, (litems d2) = some xs → ∃ ys : List Str, allOf asStr xs = some ys ∧ (ys.map (·.length)).sum + ys.length * z.length ≤ 16777216 ∧ res = O.v (.str (Txt.join z ys)) := fun xs h => by
      rw [h] at e3
      have e3 : ((allOf asStr xs).bind fun ys => if (ys.map (·.length)).sum + ys.length * z.length ≤ 16777216 then some (O.v (.str (Txt.join z ys))) else none) = some res := e3
      cases e4 : allOf asStr xs with
      | none => rw
                  [e4] at e3; cases e3
      | some ys =>
        rw [e4] at e3
        have e3 : (if (ys.map (·.length)).sum + ys.length * z.length ≤ 16777216 then some (O.v (.str (Txt.join z ys))) else none) = some res := e3
        split at e3
        · cases e3; exact ⟨ys, rfl, by assumption, rfl⟩
        · cases e3
    cases d2 with
    | lst xs =>
      obtain ⟨ys, h1, h2, rfl⟩ := main xs rfl
      obtain ⟨p, vs, rfl, h3, h4⟩ := at_lst s e2
      rw [hK] at h3
      have hv := strs_of h4 h1
      subst hv
      exact ⟨z, p, ys, rfl, rfl, .inl h3, h2, RunO.str s q⟩
    | tup xs =>
      obtain ⟨ys, h1, h2, rfl⟩ := main xs rfl
      obtain ⟨p, vs, rfl, h3, h4⟩ := at_tup s e2
      rw [hK] at h3
      have hv := strs_of h4 h1
      subst hv
      exact ⟨z, p, ys, rfl, rfl, .inr h3, h2, RunO.str s q⟩
    | _ => cases e3
  | _ => cases e3
theorem reps_strs {S : Sta} {F : Fz} {H : Hp} : ∀ ys : List Str, RepDs S F H (ys.map D.str) (ys.map V.str)
  | [] => rfl
  | y :: ys => ⟨.str y, ys.map V.str, rfl, rfl, reps_strs ys⟩
theorem o_split : Op2 c .split (fun x y H Q => ∃ a b, x = .str a ∧ [y] = [.str b] ∧ (b.length == 0) = false ∧ a.length + 2 ≤ sizeLine ∧ rNewStrs (Txt.split a b) H Q) := by
  intro kp σ tl F H d1 d2 r1 r2 x y res Q s e1 e2 e3 q
  cases d1 with
  | str z => cases d2 with
    | str w =>
      have e3 : (if w.length ≠ 0 ∧ z.length + 2 ≤ sizeLine then some (O.cell (.lst ((Txt.split z w).map .str))) else none) = some res := e3
      by_cases h : w.length ≠ 0 ∧ z.length + 2 ≤ sizeLine
      · rw [if_pos h] at e3
        cases e3
        obtain rfl := at_str s e1
        obtain rfl := at_str s e2
        exact ⟨z, w, rfl, rfl, beq_eq_false_iff_ne.mpr h.1, h.2, fun p hp => RunO.lst s hp (reps_strs _) q⟩
      · rw [if_neg h] at e3; cases e3
    | _ => cases e3
  | _ => cases d2 <;> cases e3
theorem o_part : Op2 c .part (fun x y H Q => ∃ a b, x = .str a ∧ [y] = [.str b] ∧ (b.length == 0) = false ∧ a.length ≤ sizeLine ∧ ∀ p, H p = none → Q (.ref p) (upd H p (.tup [.str (Txt.partition a b).1, .str (Txt.partition a b).2.1, .str (Txt.partition a b).2.2]))) := by
  intro kp σ tl F H d1 d2 r1 r2 x y res Q s e1 e2 e3 q
  cases d1 with
  | str z => cases d2 with
    | str w =>
      have e3 : (if w.length ≠ 0 ∧ z.length ≤ sizeLine then some (O.v (.tup [.str (Txt.partition z w).1, .str (Txt.partition z w).2.1, .str (Txt.partition z w).2.2])) else none) = some res := e3
      by_cases h : w.length ≠ 0 ∧ z.length ≤ sizeLine
      · rw [if_pos h] at e3
        cases e3
        obtain rfl := at_str s e1
        obtain rfl := at_str s e2
        refine ⟨z, w, rfl, rfl, beq_eq_false_iff_ne.mpr h.1, h.2, fun p hp => RunO.tup s hp ?_ q⟩
        exact ⟨_, _, rfl, rfl, _, _, rfl, rfl, _, _, rfl, rfl, rfl⟩
      · rw [if_neg h] at e3; cases e3
    | _ => cases e3
  | _ => cases d2 <;> cases e3
theorem o_max2 : Op2 c .max2 (fun x y H Q => ∃ i j, [x, y] = [.int i, .int j] ∧ Q (.int (if j > i then j else i)) H) := by
  intro kp σ tl F H d1 d2 r1 r2 x y res Q s e1 e2 e3 q
  cases d1 with
  | int i => cases d2 with
    | int j =>
      cases e3
      obtain rfl := at_int s e1
      obtain rfl := at_int s e2
      exact ⟨i, j, rfl, RunO.int s q⟩
    | _ => cases e3
  | _ => cases d2 <;> cases e3
theorem o_min2 : Op2 c .min2 (fun x y H Q => ∃ i j, [x, y] = [.int i, .int j] ∧ Q (.int (if j < i then j else i)) H) := by
  intro kp σ tl F H d1 d2 r1 r2 x y res Q s e1 e2 e3 q
  cases d1 with
  | int i => cases d2 with
    | int j =>
      cases e3
      obtain rfl := at_int s e1
      obtain rfl := at_int s e2
      exact ⟨i, j, rfl, RunO.int s q⟩
    | _ => cases e3
  | _ => cases d2 <;> cases e3
end
end VE

namespace VE
open PySem PySem.Spec
                     PyProof.Rows L2

section
variable {c : Cc}
abbrev R1 := V → Hp → VK → Prop
theorem o1_b {o : B1} {r : R1} {g : Bool → Bool} (ho : ∀ d res, b1 o d = some res → ∃ b, d = .bl b ∧ res = .v (.bl (g b))) (hr : ∀ b H (Q : VK), Q (.bl (g b)) H → r (.bl b) H Q) : Op1 c o r := by
  intro kp σ tl F H d r1 x res Q s e1 e3 q
  obtain ⟨b, rfl, rfl⟩ := ho d res e3
  obtain rfl := at_bl s e1
  exact hr b H Q (RunO.bl s q)
theorem o_notB : Op1 c .notB (fun x H Q => ∃ c, x = .bl c ∧ Q (.bl (!c)) H) := o1_b (g := fun b => !b) (fun d res e => by
  cases d with
  | bl b => cases e; exact ⟨b, rfl, rfl⟩
  | _ => cases e) fun b H Q q => ⟨b, rfl, q⟩
theorem o_isT : Op1 c .isT (fun x H Q => rIsB x (.bl true) H Q) := o1_b (g := fun b => b) (fun d res e => by
  cases d with
  | bl b => cases e; exact ⟨b, rfl, rfl⟩
  | _ => cases e) fun b H Q q => ⟨b, true, rfl, rfl, by cases b <;> exact q⟩
theorem o_isF : Op1 c .isF (fun x H Q => rIsB x (.bl false) H Q) := o1_b (g := fun b => !b) (fun d res e => by
  cases d with
  | bl b => cases e; exact ⟨b, rfl, rfl⟩
  | _ => cases e) fun b H Q q => ⟨b, false, rfl, rfl, by cases b <;> exact q⟩
theorem o_notT : Op1 c .notT (fun x H Q => rNotB x (.bl true) H Q) := o1_b (g := fun b => !b) (fun d res e => by
  cases d with
  | bl b => cases e; exact ⟨b, rfl, rfl⟩
  | _ => cases e) fun b H Q q => ⟨b, true, rfl, rfl, by cases b <;> exact q⟩
theorem o_notF : Op1 c .notF (fun x H Q => rNotB x (.bl false) H Q) := o1_b (g := fun b => b) (fun d res e => by
  cases d with
  | bl b => cases e; exact ⟨b, rfl, rfl⟩
  | _ => cases e) fun b H Q q => ⟨b, false, rfl, rfl, by cases b <;> exact q⟩
/-- None or not -/
theorem nonD {F : Fz} {tl : Ld} {σ : L2.St} {H : Hp} {d : D} {x : V} {r : Rf} (s : Sim c F tl σ H) (h : Rf.at tl d x r) : decide (x = .non) = isNonD d := by
  rcases r.rep s.g h with z | ⟨a, dx, k, cs, rfl, rfl, _⟩
  · cases d with
    | non => rw [show x = .non from z]; rfl
    | bl b => rw [show x = .bl b from z]; rfl
    | int b => rw [show x = .int b from z]; rfl
    | str b => rw [show x = .str b from z]; rfl
    | tup xs => obtain ⟨a, vs, rfl, _⟩ := z; rfl
    | lst xs => obtain ⟨a, vs, rfl, _⟩ := z; rfl
    | dct ks xs => obtain ⟨a, vs, rfl, _⟩ := z; rfl
    | obj k xs => obtain ⟨a, dx, vs, rfl, _⟩ := z; rfl
    | glo g => rw [show x = .ref _ from z]; rfl
    | exn => obtain ⟨a, rfl⟩ := z; rfl
  · rfl
theorem o_isN : Op1 c .isN (fun x H Q => Q (.bl (decide (x = .non))) H) := by
  intro kp σ tl F H d r1 x res Q s e1 e3 q
  have e3 : some (O.v (.bl (isNonD d))) = some res := by rw [← e3]; cases d <;> rfl
  cases e3
  rw [nonD s e1]
  exact RunO.bl s q
theorem o_notN : Op1 c .notN (fun x H Q => Q (.bl (!decide (x = .non))) H) := by
  intro kp σ tl F H d r1 x res Q s e1 e3 q
  have e3 : some (O.v (.bl (!isNonD d))) = some res := by rw [← e3]; cases d <;> rfl
  cases e3
  rw [nonD s e1]
  exact RunO.bl s q
def rLen (K : PySem.W.Frag) : List V → Hp → VK → Prop := fun xs H Q => (∃ z, xs = [.str z] ∧ z.length ≤ sizeLine ∧ Q (.int z.length) H) ∨ (∃ p ys, xs = [.ref p] ∧ (SqL K H p ys ∨ SqT K H p ys) ∧ Q (.int ys.length) H) ∨ ∃ a kvs, xs = [V.ref a] ∧ H a = some (.dK kvs) ∧ Q (.int kvs.length) H
theorem cr_len {X : Cx} : CallR X (.builtin "len") (rLen X.K) := CallR.or call_len_str (CallR.or call_len_seq call_lenD)
theorem len_ok {n : Nat} {res : O} (h : len? n = some res) : res = .v (.int n) ∧ n ≤ sizeLine := by
  unfold len? at h
  split at h
  · cases h; exact ⟨rfl, by assumption⟩
  · cases h
theorem o_len (hK : c.S.K = c.X.K) : Op1 c .len (fun x H Q => rLen c.X.K [x] H Q) := by
  intro kp σ tl F H d r1 x res Q s e1 e3 q
  cases d with
  | str z =>
    obtain ⟨rfl, hz⟩ := len_ok (show len? z.length = some res from e3)
    obtain rfl := at_str s e1
    exact .inl ⟨z, rfl, hz, RunO.int s q⟩
  | lst xs =>
    obtain ⟨rfl, hz⟩ := len_ok (show len? xs.length = some res from e3)
    obtain ⟨a, vs, rfl, h1, h2⟩ := at_lst s e1
    rw [hK] at h1
    rw [RepDs.length h2] at q
    exact .inr (.inl ⟨a, vs, rfl, .inl h1, RunO.int s q⟩)
  | tup xs =>
    obtain ⟨rfl, hz⟩ := len_ok (show len? xs.length = some res from e3)
    obtain ⟨a, vs, rfl, h1, h2⟩ := at_tup s e1
    rw [hK] at h1
    rw [RepDs.length h2] at q
    exact .inr (.inl ⟨a, vs, rfl, .inr h1, RunO.int s q⟩)
  | dct ks xs =>
    cases e3
    obtain ⟨a, kvs, rfl, h1, h2, h3⟩ := at_dct s e1
    subst h2
    rw [List.length_map] at q
    exact .inr (.inr ⟨a, kvs, rfl, h1, RunO.int s q⟩)
  | _ => cases e3
theorem o_sum (hK : c.S.K = c.X.K) : Op1 c .sum (fun x H Q => rSum c.X.K [x] H Q) := by
  intro kp σ tl F H d r1 x res Q s e1 e3 q
  cases d with
  | lst xs =>
    have e3 : (allOf asInt xs).map (fun is => O.v (.int is.sum)) = some res := e3
    cases e4 : allOf asInt xs with
    | none => rw
                [e4] at e3; cases e3
    | some is =>
      rw [e4] at e3; cases e3
      obtain ⟨a, vs, rfl, h1, h2⟩ := at_lst s e1
      rw [hK] at h1
      have hv := ints_of h2 e4
      subst hv
      exact ⟨a, is, rfl, h1, RunO.int s q⟩
  | _ => cases e3
theorem o_all (hK : c.S.K = c.X.K) : Op1 c .all (fun x H Q => rAll c.X.K [x] H Q) := by
  intro kp σ tl F H d r1 x res Q s e1 e3 q
  cases d with
  | lst xs =>
    have e3 : (allOf asBl xs).map (fun bs => O.v (.bl (bs.all id))) = some res := e3
    cases e4 : allOf asBl xs with
    | none => rw
                [e4] at e3; cases e3
    | some is =>
      rw [e4] at e3; cases e3
      obtain ⟨a, vs, rfl, h1, h2⟩ := at_lst s e1
      rw [hK] at h1
      have hv := bls_of h2 e4
      subst hv
      exact ⟨a, is, rfl, h1, RunO.bl s q⟩
  | _ => cases e3
theorem o_any (hK : c.S.K = c.X.K) : Op1 c .any (fun x H Q => rAny c.X.K [x] H Q) := by
  intro kp σ tl F H d r1 x res Q s e1 e3 q
  cases d with
  | lst xs =>
    have e3 : (allOf asBl xs).map (fun bs => O.v (.bl (bs.any id))) = some res := e3
    cases e4 : allOf asBl xs with
    | none => rw
                [e4] at e3; cases e3
    | some is =>
      rw [e4] at e3; cases e3
      obtain ⟨a, vs, rfl, h1, h2⟩ := at_lst s e1
      rw [hK] at h1
      have hv := bls_of h2 e4
      subst hv
      exact ⟨a, is, rfl, h1, RunO.bl s q⟩
  | _ => cases e3
def rIntA : List V → Hp → VK → Prop := fun xs H Q => ((∃ i, xs = [.int i] ∧ Q (.int i) H) ∨ ∃ k, xs = [.bl k] ∧ Q (.int (if k then 1 else 0)) H) ∨ ∃ a n, xs = [.str a] ∧ PySem.intText? a = some n ∧ a.length ≤ 640 ∧ Q (.int n) H
theorem cr_int {X : Cx} : CallR X (.type "int") rIntA := CallR.or call_int1 call_int_str
theorem o_intA : Op1 c .int (fun x H Q => rIntA [x] H Q) := by
  intro kp σ tl F H d r1 x res Q s e1 e3 q
  cases d with
  | int i => cases e3; obtain rfl := at_int s e1; exact .inl (.inl ⟨i, rfl, RunO.int s q⟩)
  | bl b => cases e3; obtain rfl := at_bl s e1; exact .inl (.inr ⟨b, rfl, RunO.int s q⟩)
  | str z =>
    have e3 : (if z.length ≤ 640 then (PySem.intText? z).map fun n => O.v (.int n) else none) = some res := e3
    split at e3
    · cases e4 : PySem.intText? z with
      | none => rw
                  [e4] at e3; cases e3
      | some n =>
        rw [e4] at e3; cases e3
        obtain rfl := at_str s e1
        exact .inr ⟨z, n, rfl, e4, by assumption, RunO.int s q⟩
    · cases e3
  | _ => cases e3
def rStrA : List V → Hp → VK → Prop := fun xs H Q => (∃ i, xs = [.int i] ∧ i.natAbs.log2 < 1920 ∧ Q (.str (toString i)) H) ∨ ∃ a, xs = [.str a] ∧ Q (.str a) H
theorem cr_str {X : Cx} : CallR X (.type "str") rStrA := CallR.or call_str_int SkE.call_str_str
theorem o_strA : Op1 c .str (fun x H Q => rStrA [x] H Q) := by
  intro kp σ tl F H d r1 x res Q s e1 e3 q
  cases d with
  | int i =>
    have e3 : (if i.natAbs.log2 < 1920 then some (O.v (.str (toString i))) else none) = some res := e3
    split at e3
    · cases e3; obtain rfl := at_int s e1; exact .inl ⟨i, rfl, by assumption, RunO.str s q⟩
    · cases e3
  | str z => cases e3; obtain rfl := at_str s e1; exact .inr ⟨z, rfl, RunO.str s q⟩
  | _ => cases e3
theorem o_abs : Op1 c .abs (fun x H Q => ∃ i, [x] = [.int i] ∧ Q (.int (if i < 0 then -i else i)) H) := by
  intro kp σ tl F H d r1 x res Q s e1 e3 q
  cases d with
  | int i => cases e3; obtain rfl := at_int s e1; exact ⟨i, rfl, RunO.int s q⟩
  | _ => cases e3
theorem maxI_mem : ∀ (m : Int) (xs : List Int), maxI m xs ∈ m :: xs ∧ ∀ y ∈ m :: xs, y ≤ maxI m xs
  | m, [] => ⟨List.mem_cons_self, fun y h => by
    rw [List.mem_singleton] at h
    rw [h]; exact Int.le_refl _⟩
  | m, x :: xs => by
    unfold maxI
    obtain ⟨h1, h2⟩ := maxI_mem (if x > m then x else m) xs
    refine ⟨?_, fun y hy => ?_⟩
    · rcases List.mem_cons.mp h1 with e | e
      · rw [e]
        by_cases z : x > m
        · rw [if_pos z]; exact List.mem_cons_of_mem _ List.mem_cons_self
        · rw [if_neg z]; exact List.mem_cons_self
      · exact List.mem_cons_of_mem _ (List.mem_cons_of_mem _ e)
    · have h3 := h2 _ List.mem_cons_self
      rcases List.mem_cons.mp
                             hy with e | hy
      · subst e
        refine Int.le_trans ?_ h3
        split <;> omega
      · rcases List.mem_cons.mp hy with e | hy
        · subst e
          refine Int.le_trans ?_ h3
          split <;> omega
        · exact h2 y (List.mem_cons_of_mem _ hy)
theorem minI_mem : ∀ (m : Int) (xs : List Int), minI m xs ∈ m :: xs ∧ ∀ y ∈ m :: xs, minI m xs ≤ y
  | m, [] => ⟨List.mem_cons_self, fun y h => by
    rw [List.mem_singleton] at h
    rw [h]; exact Int.le_refl _⟩
  | m, x :: xs => by
    unfold minI
    obtain ⟨h1, h2⟩ := minI_mem (if x < m then x else m) xs
    refine ⟨?_, fun y hy => ?_⟩
    · rcases List.mem_cons.mp h1 with e | e
      · rw [e]
        by_cases z : x < m
        · rw [if_pos z]; exact List.mem_cons_of_mem _ List.mem_cons_self
        · rw [if_neg z]; exact List.mem_cons_self
      · exact List.mem_cons_of_mem _ (List.mem_cons_of_mem _ e)
    · have h3 := h2 _ List.mem_cons_self
      rcases List.mem_cons.mp
                             hy with e | hy
      · subst e
        refine Int.le_trans h3 ?_
        split <;> omega
      · rcases List.mem_cons.mp hy with e | hy
        · subst e
          refine Int.le_trans h3 ?_
          split <;> omega
        · exact h2 y (List.mem_cons_of_mem _ hy)
theorem o_maxL (hK : c.S.K = c.X.K) : Op1 c .maxL (fun x H Q => rMax c.X.K [x] H Q) := by
  intro kp σ tl F H d r1 x res Q s e1 e3 q
  cases d with
  | lst xs =>
    have e3 : ((allOf asInt xs).bind fun is => match is with | i :: r => some (O.v (.int (maxI i r))) | [] => none) = some res := e3
    cases e4 : allOf asInt xs with
    | none => rw
                [e4] at e3; cases e3
    | some is =>
      rw [e4] at e3
      cases is with
      | nil => cases e3
      | cons i is =>
        cases e3
        obtain ⟨a, vs, rfl, h1, h2⟩ := at_lst s e1
        rw [hK] at h1
        have hv := ints_of h2 e4
        subst hv
        refine ⟨a, i :: is, rfl, h1, by simp, fun m hm hb => ?_⟩
        obtain ⟨z1, z2⟩ := maxI_mem i is
        have : m = maxI i is := Int.le_antisymm (z2 m hm) (hb _ z1)
        subst this
        exact RunO.int s q
  | _ => cases e3
theorem o_minL (hK : c.S.K = c.X.K) : Op1 c .minL (fun x H Q => rMin c.X.K [x] H Q) := by
  intro kp σ tl F H d r1 x res Q s e1 e3 q
  cases d with
  | lst xs =>
    have e3 : ((allOf asInt xs).bind fun is => match is with | i :: r => some (O.v (.int (minI i r))) | [] => none) = some res := e3
    cases e4 : allOf asInt xs with
    | none => rw
                [e4] at e3; cases e3
    | some is =>
      rw [e4] at e3
      cases is with
      | nil => cases e3
      | cons i is =>
        cases e3
        obtain ⟨a, vs, rfl, h1, h2⟩ := at_lst s e1
        rw [hK] at h1
        have hv := ints_of h2 e4
        subst hv
        refine ⟨a, i :: is, rfl, h1, by simp, fun m hm hb => ?_⟩
        obtain ⟨z1, z2⟩ := minI_mem i is
        have : m = minI i is := Int.le_antisymm (hb _ z1) (z2 m hm)
        subst this
        exact RunO.int s q
  | _ => cases e3
theorem leS_iff (a b : Str) : leS a b = true ↔ ltCps b.cps.toList a.cps.toList = false := by
  unfold leS
  rw [ltCps_eq]
  simp [List.not_lt]
theorem insS_perm (x : Str) : ∀ l : List Str, (insS x l).Perm (x :: l)
  | [] => List.Perm.refl _
  | y :: ys => by
    unfold insS
    split
    · exact List.Perm.refl _
    · exact ((insS_perm x ys).cons y).trans (List.Perm.swap x y ys)
theorem sortS_perm : ∀ l : List Str, (sortS l).Perm l
  | [] => List.Perm.refl _
  | x :: xs => (insS_perm x (sortS xs)).trans ((sortS_perm xs).cons x)
abbrev LeS (a b : Str) : Prop := a.cps.toList ≤ b.cps.toList
theorem insS_sorted (x : Str) : ∀ l : List Str, l.Pairwise LeS → (insS x l).Pairwise LeS
  | [], _ => by simp [insS]
  | y :: ys, h => by
    unfold insS
    obtain ⟨h1, h2⟩ :=
                      List.pairwise_cons.mp h
    by_cases z : leS x y = true
    · rw [if_pos z]
      have z' : LeS x y := of_decide_eq_true z
      exact List.pairwise_cons.mpr ⟨fun w hw => by
        rcases List.mem_cons.mp hw with e | hw
        · rw [e]; exact z'
        · exact List.le_trans z' (h1 w hw), h⟩
    · rw [if_neg z]
      have z' : LeS y x := by
        have := of_decide_eq_false (Bool.eq_false_iff.mpr z)
        exact (List.le_total _ _).resolve_left this
      refine List.pairwise_cons.mpr ⟨fun w hw => ?_, insS_sorted x ys h2⟩
      rcases List.mem_cons.mp ((insS_perm x ys).mem_iff.mp hw) with e | hw
      · rw [e]; exact z'
      · exact h1 w hw
theorem sortS_sorted : ∀ l : List Str, (sortS l).Pairwise LeS
  | [] => List.Pairwise.nil
  | x :: xs => insS_sorted x (sortS xs) (sortS_sorted xs)
theorem leS_antisymm {a b : Str} (h1 : LeS a b) (h2 : LeS b a) : a = b := TL.ext_tl (List.le_antisymm h1 h2)
theorem rising_pw : ∀ (p : Str) (l : List Str), risingS p l = true → (p :: l).Pairwise LeS
  | p, [], _ => by simp
  | p, x :: r, h => by
    unfold risingS at h
    obtain ⟨h1, h2⟩ := Bool.and_eq_true_iff.mp h
    have ih := rising_pw x r h2
    have hpx : LeS p x := by
      have : ltCps x.cps.toList p.cps.toList = false := by simpa using h1
      exact of_decide_eq_true ((leS_iff p x).mpr this)
    refine List.pairwise_cons.mpr ⟨fun w hw => ?_, ih⟩
    rcases List.mem_cons.mp hw with e | hw
    · rw [e]; exact hpx
    · exact List.le_trans hpx ((List.pairwise_cons.mp ih).1 w hw)
theorem sorted_eq {ys xs : List Str} (h1 : ys.Perm xs) (h2 : sortedS ys = true) : ys = sortS xs := by
  have hp : ys.Pairwise LeS := by
    cases ys with
    | nil => exact List.Pairwise.nil
    | cons y r => exact rising_pw y r h2
  exact List.Perm.eq_of_pairwise (fun a b _ _ z1 z2 => leS_antisymm z1 z2) hp (sortS_sorted xs) (h1.trans (sortS_perm xs).symm)
theorem o_sortS (hK : c.S.K = c.X.K) : Op1 c .sortS (fun x H Q => rSortedS c.X.K [x] H Q) := by
  intro kp σ tl F H d r1 x res Q s e1 e3 q
  cases d with
  | lst xs =>
    have e3 : ((allOf asStr xs).bind fun ss => if ss.length < 64 then some (O.cell (.lst ((VE.sortS ss).map .str))) else none) = some res := e3
    cases e4 : allOf asStr xs with
    | none => rw
                [e4] at e3; cases e3
    | some ss =>
      rw [e4] at e3
      have e3 : (if ss.length < 64 then some (O.cell (.lst ((VE.sortS ss).map .str))) else none) = some res := e3
      split at e3
      · cases e3
        obtain ⟨a, vs, rfl, h1, h2⟩ := at_lst s e1
        rw [hK] at h1
        have hv := strs_of h2 e4
        subst hv
        refine ⟨a, ss, rfl, h1, by assumption, fun ys p hy hs hp => ?_⟩
        rw [sorted_eq hy hs]
        exact RunO.lst s hp (reps_strs _) q
      · cases e3
  | _ => cases e3
theorem newL_ok {xs : List D} {res : O} (h : newL xs = some res) : res = .cell (.lst xs) ∧ xs.length ≤ sizeLine := by
  unfold newL at h
  split at h
  · cases h; exact ⟨rfl, by assumption⟩
  · cases h
theorem newT_ok {xs : List D} {res : O} (h : newT xs = some res) : res = .v (.tup xs) ∧ xs.length ≤ sizeLine := by
  unfold newT at h
  split at h
  · cases h; exact ⟨rfl, by assumption⟩
  · cases h
theorem o_tupL (hK : c.S.K = c.X.K) : Op1 c .tupL (fun x H Q => ∃ p ys, [x] = [.ref p] ∧ ((SqL c.X.K H p ys ∧ ∀ l, H l = none → Q (.ref l) (upd H l (.tup ys))) ∨ (SqT c.X.K H p ys ∧ Q (.ref p) H))) := by
  intro kp σ tl F H d r1 x res Q s e1 e3 q
  cases d with
  | lst xs =>
    obtain ⟨rfl, _⟩ := newT_ok (show newT xs = some res from e3)
    obtain ⟨a, vs, rfl, h1, h2⟩ := at_lst s e1
    rw [hK] at h1
    exact ⟨a, vs, rfl, .inl ⟨h1, fun l hl => RunO.tup s hl h2 q⟩⟩
  | tup xs =>
    obtain ⟨rfl, _⟩ := newT_ok (show newT xs = some res from e3)
    have rp := at_rep s e1 trivial
    obtain ⟨a, vs, rfl, h1, h2⟩ := at_tup s e1
    rw [hK] at h1
    exact ⟨a, vs, rfl, .inr ⟨h1, RunO.val s rp q⟩⟩
  | _ => cases e3
theorem o_lstL (hK : c.S.K = c.X.K) : Op1 c .lstL (fun x H Q => ∃ p ys, [x] = [.ref p] ∧ (SqL c.X.K H p ys ∨ SqT c.X.K H p ys) ∧ ∀ l, H l = none → Q (.ref l) (upd H l (.lst ys))) := by
  intro kp σ tl F H d r1 x res Q s e1 e3 q
  cases d with
  | lst xs =>
    obtain ⟨rfl, _⟩ := newL_ok (show newL xs = some res from e3)
    obtain ⟨a, vs, rfl, h1, h2⟩ := at_lst s e1
    rw [hK] at h1
    exact ⟨a, vs, rfl, .inl h1, fun l hl => RunO.lst s hl h2 q⟩
  | tup xs =>
    obtain ⟨rfl, _⟩ := newL_ok (show newL xs = some res from e3)
    obtain ⟨a, vs, rfl, h1, h2⟩ := at_tup s e1
    rw [hK] at h1
    exact ⟨a, vs, rfl, .inr h1, fun l hl => RunO.lst s hl h2 q⟩
  | _ => cases e3
theorem o_dctC : Op1 c .dctC (fun x H Q => ∃ (a : Addr) (kvs : List (Key × V)), [x] = [.ref a] ∧ Rd H a (.dK kvs) ∧ ∀ p, H p = none → Q (.ref p) (upd H p (.dK kvs))) := by
  intro kp σ tl F H d r1 x res Q s e1 e3 q
  cases d with
  | dct ks xs =>
    cases e3
    obtain ⟨a, kvs, rfl, h1, h2, h3⟩ := at_dct s e1
    refine ⟨a, kvs, rfl, .of h1, fun p hp => ?_⟩
    exact RunO.newO (x := .dct p ks xs) s hp rfl ⟨kvs, upd_same, h2, RepDs.mono (upd_ext (s.g.noF hp)) xs _ h3⟩ q
  | _ => cases e3
end
end VE

namespace VE
open PySem PySem.Spec
                     PyProof.Rows L2

theorem PT.imp {X : Cx} {e : Expr} {t t' : TT} (h : PT X e t) (i : ∀ σ H Q, t' σ H Q → t σ H Q) : PT X e t' := ⟨fun pins s σ H Q I q => h.run pins s σ H Q I (i σ H Q q)⟩
theorem PA.imp {X : Cx} {e : List Expr} {t t' : TA} (h : PA X e t) (i : ∀ σ H Q, t' σ H Q → t σ H Q) : PA X e t' := ⟨fun pos pins s σ H Q I q => h.run pos pins s σ H Q I (i σ H Q q)⟩
theorem cmp_test {l : Expr} {op : CmpOp} {r : Expr} {pos : Pos} {env : PySem.Env} {whole : Sem Value} : isTrue (.Compare l [op] [r] pos) env whole = (eval (.Compare l [op] [r] pos) env >>= fun c => holding [c] (truthy c)) := by
  rw [isTrue_Compare1, eval_Compare1]
  simp only [bind_assoc]
theorem pt_cmp1 {X : Cx} {l r : Expr} {op : CmpOp} {pos : Pos} {t : TE} (h : PE X (.Compare l [op] [r] pos) t) : PT X (.Compare l [op] [r] pos) (tTest t) := by
  refine ⟨fun pins s
                    σ H Q I hw => ?_⟩
  rw [cmp_test]
  refine wpAny_bind (thn (h.run pins s σ H _ I hw) fun v s1 ⟨x, H1, I1, r1, q1⟩ => ?_)
  obtain ⟨d, rfl, q⟩ := q1
  cases r1
  exact wpAny_holding (wpAny_truthy_bool ⟨H1, I1, q⟩)

theorem pw_of {X : Cx} {op : BoolOp} {es : List Expr} {pos : Pos} {t : TT} (h : PT X (.BoolOp op es pos) t) : PW X (.BoolOp op es pos) t := ⟨fun wh pins s σ H Q I q => h.run pins s σ H Q I q⟩
theorem pt_ofW {X : Cx} {e : Expr} {t : TT} (h : PW X e t) : PT X e t := ⟨fun pins s σ H Q I q => h.run _ pins s σ H Q I q⟩
theorem pt_and {X : Cx} {a b : Expr} {rest : List Expr} {pos : Pos} {t u : TT} (ha : PT X a t) (hb : PT X (.BoolOp .And (b :: rest) pos) u) : PT X (.BoolOp .And (a :: b :: rest) pos) (tAnd t u) := pt_ofW (pw_and ha (pw_of hb))
theorem pt_or {X : Cx} {a b : Expr} {rest : List Expr} {pos : Pos} {t u : TT} (ha : PT X a t) (hb : PT X (.BoolOp .Or (b :: rest) pos) u) : PT X (.BoolOp .Or (a :: b :: rest) pos) (tOr t u) := pt_ofW (pw_or ha (pw_of hb))
theorem pt_one {X : Cx} {op : BoolOp} {a : Expr} {pos : Pos} {t : TT} (ha : PT X a t) : PT X (.BoolOp op [a] pos) t := by
  cases op
  · exact pt_ofW (pw_and1 ha)
  · exact pt_ofW (pw_or1 ha)
theorem map_bind {α β γ : Type} (o : Out α) (f : α → β) (g : β → Env → Out γ) : (o.map f).bind g = o.bind fun a env => g (f a) env := by cases o <;> rfl
section
variable {c : Cc} {kp kpa kpb : Nat → Prop} {σ : L2.St} {Q : VK}
/-- the value of a first step -/
def FinO (c : Cc) (kp : Nat → Prop) (σ : L2.St) (f : O → Env → Out O) (Q : VK) (x : V) (H : Hp) : Prop := ∃ (F : Fz) (tl : Ld) (j : Nat) (t : T), Sim c F tl σ H ∧ tl[j]? = some (some t) ∧ t.v = x ∧ RunO c kp σ tl (f t.o (era c.n tl)) Q
theorem seqE {ma : Env → Out O} {f : O → Env → Out O} {H : Hp} (h : tE c kp (fun env => (ma env).bind f) σ H Q) (k : ∀ i, kp i → kpa i) : tE c kpa ma σ H (FinO c kp σ f Q) := by
  obtain ⟨F, tl, s, r⟩ := h
  refine ⟨F, tl, s, ?_⟩
  dsimp only at r
  cases e1 : ma (era c.n tl) with
  | ok o env =>
    rw [e1] at r
    have r : RunO c kp σ tl (f o env) Q := r
    intro F' H' tl' j t s1 st1 e2 hj e3 e4
    refine ⟨F', tl', j, t, s1, e3, rfl, ?_⟩
    rw [e4, e2]
    exact r.adv (st1.mono k)
  | exc x env => rw [e1] at r; exact r
  | bad => rw [e1] at r; exact r
theorem RunO.imp {tl : Ld} {r : Out O} {Q' : VK} (h : RunO c kp σ tl r Q) (i : ∀ v H, Q v H → Q' v H) : RunO c kp σ tl r Q' := by
  cases r with
  | ok o env => exact fun F' H' tl' j t a b e1 e2 e3 e4 => i _ _ (h F' H' tl' j t a b e1 e2 e3 e4)
  | exc x env => exact h
  | bad => exact h
theorem tE.imp {m : Env → Out O} {H : Hp} {Q' : VK} (h : tE c kp m σ H Q) (i : ∀ v H, Q v H → Q' v H) : tE c kp m σ H Q' := by
  obtain ⟨F, tl, s, r⟩ := h
  exact ⟨F, tl, s, r.imp i⟩
theorem RunO.less {tl : Ld} {r : Out O} (h : RunO c kp σ tl r Q) (k : ∀ i, kp i → kpa i) : RunO c kpa σ tl r Q := by
  cases r with
  | ok o env => exact fun F' H' tl' j t a b e1 e2 e3 e4 => h F' H' tl' j t a (b.mono k) e1 e2 e3 e4
  | exc x env => exact h
  | bad => exact h
theorem tE.less {m : Env → Out O} {H : Hp} (h : tE c kp m σ H Q) (k : ∀ i, kp i → kpa i) : tE c kpa m σ H Q := by
  obtain ⟨F, tl, s, r⟩ := h
  exact ⟨F, tl, s, r.less k⟩
/-- a bool that was handed on -/
theorem bl_of {F : Fz} {tl : Ld} {H : Hp} {j : Nat} {t : T} {b : Bool} (s : Sim c F tl σ H) (h : tl[j]? = some (some t)) (e : t.o.frz = .bl b) : t.v = .bl b :=
  at_bl s (r := .ix j) ⟨t, h, e, rfl⟩
/-- the end of a connective -/
def boolO (d : D) (env : Env) : Out O := match d with
  | .bl r => .ok (.v (.bl r)) env
  | _ => .bad
theorem end_bool {m : Env → Out O} {F : Fz} {tl : Ld} {H : Hp} (s : Sim c F tl σ H) (h : RunO c kp σ tl (((m (era c.n tl)).map O.frz).bind boolO) Q) (k : ∀ i, kp i → kpa i) : tE c kpa m σ H fun x H1 => ∃ b, x = .bl b ∧ Q x H1 := by
  refine ⟨F, tl, s, ?_⟩
  cases e1 : m (era c.n tl) with
  | ok o env =>
    rw [e1] at h
    have h : RunO c kp σ tl (boolO o.frz env) Q := h
    intro F' H' tl' j t s1 st1 e2 hj e3 e4
    cases e5 : o.frz with
    | bl b =>
      rw [e5] at h
      have h : RunO c kp σ tl (.ok (.v (.bl b)) env) Q := h
      have hv := bl_of s1 e3 (by rw [e4]; exact e5)
      rw [← e2] at h
      refine ⟨b, hv, ?_⟩
      rw [hv]
      exact RunO.bl s1 (h.adv (st1.mono k))
    | _ => rw [e5] at h; exact h.elim
  | exc x env => rw [e1] at h; exact h
  | bad => rw [e1] at h; exact h
end

/-- what is to be shown of an expression -/
structure Snd (c : Cc) (kp : Nat → Prop) (e : Expr) (m : E) : Prop where
  pe : PE c.X e (tE c kp (evO c.G m))
  pt : PT c.X e (tTest (tE c kp (evO c.G m)))
theorem tTest_imp {t t' : TE} (h : ∀ σ H Q, t' σ H Q → t σ H Q) : ∀ σ H Q, tTest t' σ H Q → tTest t σ H Q := fun σ H Q q => h σ H _ q
section
variable {c : Cc} {kp kpa kpb : Nat → Prop} {e a b' : Expr} {m ma mb : E}
theorem Snd.of (h : PE c.X e (tE c kp (evO c.G m))) (he : ∀ whole, isTrue e c.X.env whole = (do let v ← whole; standAt e.pos; holding [v] (truthy v))) : Snd c kp e m :=
  ⟨h, PT.imp (pt_val h he) fun σ H Q q => q⟩
theorem Snd.cmp {l r : Expr} {op : CmpOp} {pos : Pos} (h : PE c.X (.Compare l [op] [r] pos) (tE c kp (evO c.G m))) : Snd c kp (.Compare l [op] [r] pos) m := ⟨h, pt_cmp1 h⟩
theorem Snd.less (h : Snd c kpa e m) (k : ∀ i, kp i → kpa i) : Snd c kp e m := ⟨PE.imp h.pe fun σ H Q q => q.less k, PT.imp h.pt fun σ H Q q => tE.less (show tE c kp _ σ H _ from q) k⟩
theorem Snd.b (h : Snd c kp e m) : PE c.X e (tB c kp none fun env => (evO c.G m env).map O.frz) := tB_of h.pe
theorem plS_bB (h : plS m = none) : (fun env => (evO c.G m env).map O.frz) = bB c m := by
  cases m <;> first | rfl | cases h
theorem Snd.bb (h : Snd c kp e m) (hm : plS m = none) : PE c.X e (tB c kp (plS m) (bB c m)) := by
  have := h.b
  rw [plS_bB hm] at this
  rw [hm]
  exact this
theorem rd_not (hp : plS ma = none) : ∀ σ H Q, tE c kp (evO c.G (.b1 .notB ma)) σ H Q → tE c kp (evO c.G ma) σ H fun x H1 => ∃ k, x = .bl k ∧ Q (.bl (!k)) H1 := fun σ H Q h => by
  have h : tE c kp (fun env => (evO c.G ma env).bind fun o env1 => lift (b1 .notB o.frz) env1) σ H Q := by
    obtain ⟨F, tl, s, r⟩ := h
    refine ⟨F, tl, s, ?_⟩
    unfold evO at r
    have e0 : ∀ env, bor ma (evO c.G ma env) env = (evO c.G ma env).map O.frz := fun env => (congrFun (plS_bB (c := c) hp) env).symm
    rw [e0, map_bind] at r
    exact r
  refine tE.imp (seqE h fun _ z => z) fun x H1 ⟨F, tl, j, t, s, e1, e2, r⟩ => ?_
  dsimp only at r
  cases e3 : t.o.frz with
  | bl k =>
    rw [e3] at r
    have r : RunO c kp σ tl (.ok (.v (.bl (!k))) (era c.n tl)) Q := r
    have hv := bl_of s e1 e3
    rw [e2] at hv
    exact ⟨k, hv, RunO.bl s r⟩
  | _ => rw [e3] at r; exact r.elim
theorem s_not {pos : Pos} (ha : Snd c kp a ma) (hp : plS ma = none) : Snd c kp (.UnaryOp .Not a pos) (.b1 .notB ma) :=
  ⟨PE.imp (pe_not ha.pe) (rd_not hp), PT.imp (pt_not ha.pt) fun σ H Q q => tE.imp (rd_not hp σ H _ q) fun x H1 ⟨k, e1, k2, e2, q⟩ => ⟨k, e1, by cases e2; exact q⟩⟩
theorem rd_and (k1 : ∀ i, kp i → kpa i) (k2 : ∀ i, kp i → kpb i) : ∀ σ H Q, tE c kp (evO c.G (.and ma mb)) σ H Q → tE c kpa (evO c.G ma) σ H fun x H1 => ∃ k, x = .bl k ∧ if k = true then tE c kpb (evO c.G mb) σ H1 (fun y H2 => ∃ b, y = .bl b ∧ Q y H2) else Q (.bl false) H1 := fun σ H Q h => by
  have h : tE c kp (fun env => (evO c.G ma env).bind fun o env1 => match o.frz with
    | .bl true => ((evO c.G mb env1).map O.frz).bind boolO
    | .bl false => .ok (.v (.bl false)) env1
    | _ => .bad) σ H Q := by
    obtain ⟨F, tl, s, r⟩ := h
    refine ⟨F, tl, s, ?_⟩
    unfold evO at r
    rw [map_bind] at r
    exact r
  refine tE.imp (seqE h k1) fun x H1 ⟨F, tl, j, t, s, e1, e2, r⟩ => ?_
  dsimp only at r
  cases e3 : t.o.frz with
  | bl k =>
    rw [e3] at r
    have hv := bl_of s e1 e3
    rw [e2] at hv
    refine ⟨k, hv, ?_⟩
    cases k with
    | true => rw [if_pos rfl]; exact end_bool s r k2
    | false => rw [if_neg (by simp)]; exact RunO.bl s r
  | _ => rw [e3] at r; exact r.elim
theorem s_and {pos : Pos} {rest : List Expr} (ha : Snd c kpa a ma) (hb : Snd c kpb (.BoolOp .And (b' :: rest) pos) mb) (k1 : ∀ i, kp i → kpa i) (k2 : ∀ i, kp i → kpb i) : Snd c kp (.BoolOp .And (a :: b' :: rest) pos) (.and ma mb) :=
  ⟨PE.imp (pe_and ha.pe hb.pe) fun σ H Q q => tE.imp (rd_and k1 k2 σ H Q q) fun x H1 ⟨k, e1, z⟩ => ⟨k, e1, by
      cases k with
      | true => rw [if_pos rfl] at z ⊢; exact tE.imp z fun y H2 ⟨_, _, q⟩ => q
      | false => exact z⟩,
   PT.imp (pt_and ha.pt hb.pt) fun σ H Q q => tE.imp (rd_and k1 k2 σ H _ q) fun x H1 ⟨k, e1, z⟩ => ⟨k, e1, by
      cases k with
      | true => rw [if_pos rfl] at z ⊢; exact tE.imp z fun y H2 ⟨_, _, q⟩ => q
      | false => rw [if_neg (by simp)] at z ⊢; obtain ⟨k, e, q⟩ := z; cases e; exact q⟩⟩
theorem rd_or (k1 : ∀ i, kp i → kpa i) (k2 : ∀ i, kp i → kpb i) : ∀ σ H Q, tE c kp (evO c.G (.or ma mb)) σ H Q → tE c kpa (evO c.G ma) σ H fun x H1 => ∃ k, x = .bl k ∧ if k = true then Q (.bl true) H1 else tE c kpb (evO c.G mb) σ H1 (fun y H2 => ∃ b, y = .bl b ∧ Q y H2) := fun σ H Q h => by
  have h : tE c kp (fun env => (evO c.G ma env).bind fun o env1 => match o.frz with
    | .bl false => ((evO c.G mb env1).map O.frz).bind boolO
    | .bl true => .ok (.v (.bl true)) env1
    | _ => .bad) σ H Q := by
    obtain ⟨F, tl, s, r⟩ := h
    refine ⟨F, tl, s, ?_⟩
    unfold evO at r
    rw [map_bind] at r
    exact r
  refine tE.imp (seqE h k1) fun x H1 ⟨F, tl, j, t, s, e1, e2, r⟩ => ?_
  dsimp only at r
  cases e3 : t.o.frz with
  | bl k =>
    rw [e3] at r
    have hv := bl_of s e1 e3
    rw [e2] at hv
    refine ⟨k, hv, ?_⟩
    cases k with
    | true => rw [if_pos rfl]; exact RunO.bl s r
    | false => rw [if_neg (by simp)]; exact end_bool s r k2
  | _ => rw [e3] at r; exact r.elim
theorem s_or {pos : Pos} {rest : List Expr} (ha : Snd c kpa a ma) (hb : Snd c kpb (.BoolOp .Or (b' :: rest) pos) mb) (k1 : ∀ i, kp i → kpa i) (k2 : ∀ i, kp i → kpb i) : Snd c kp (.BoolOp .Or (a :: b' :: rest) pos) (.or ma mb) :=
  ⟨PE.imp (pe_or ha.pe hb.pe) fun σ H Q q => tE.imp (rd_or k1 k2 σ H Q q) fun x H1 ⟨k, e1, z⟩ => ⟨k, e1, by
      cases k with
      | false => rw [if_neg (by simp)] at z ⊢; exact tE.imp z fun y H2 ⟨_, _, q⟩ => q
      | true => exact z⟩,
   PT.imp (pt_or ha.pt hb.pt) fun σ H Q q => tE.imp (rd_or k1 k2 σ H _ q) fun x H1 ⟨k, e1, z⟩ => ⟨k, e1, by
      cases k with
      | false => rw [if_neg (by simp)] at z ⊢; exact tE.imp z fun y H2 ⟨_, _, q⟩ => q
      | true => rw [if_pos rfl] at z ⊢; obtain ⟨k, e, q⟩ := z; cases e; exact q⟩⟩
theorem s_one {op : BoolOp} {pos : Pos} (ha : Snd c kp a ma) : Snd c kp (.BoolOp op [a] pos) ma := ⟨pe_one ha.pe, pt_one ha.pt⟩
theorem s_ite {mc : E} {k3 : Expr} {kpc : Nat → Prop} {pos : Pos} (hc : Snd c kpc k3 mc) (ha : Snd c kpa a ma) (hb : Snd c kpb b' mb) (k1 : ∀ i, kp i → kpc i) (k2 : ∀ i, kp i → kpa i) (k4 : ∀ i, kp i → kpb i) : PE c.X (.IfExp k3 a b' pos) (tE c kp (evO c.G (.ite mc ma mb))) := by
  refine PE.imp (pe_ifExp hc.pt ha.pe hb.pe) fun σ H Q h => ?_
  have h : tE c kp (fun env => (evO c.G mc env).bind fun o env1 => match o.frz with
    | .bl true => evO c.G ma env1
    | .bl false => evO c.G mb env1
    | _ => .bad) σ H Q := by
    obtain ⟨F, tl, s, r⟩ := h
    refine ⟨F, tl, s, ?_⟩
    unfold evO at r
    rw [map_bind] at r
    exact r
  refine tE.imp (seqE h k1) fun x H1 ⟨F, tl, j, t, s, e1, e2, r⟩ => ?_
  dsimp only at r
  cases e3 : t.o.frz with
  | bl k =>
    rw [e3] at r
    have hv := bl_of s e1 e3
    rw [e2] at hv
    refine ⟨k, hv, ?_⟩
    cases k with
    | true => rw [if_pos rfl]; exact ⟨F, tl, s, r.less k2⟩
    | false => rw [if_neg (by simp)]; exact ⟨F, tl, s, r.less k4⟩
  | _ => rw [e3] at r; exact r.elim
/-- a < b <= c -/
theorem s_chain {o p : B2} {op op' : CmpOp} {r r' : R2} {mc : E} {k3 : Expr} {kpc : Nat → Prop} {pos : Pos} (ho : Op2 c o r) (hp : Op2 c p r') (or : OpR c.X (compareOp op) r) (pr : OpR c.X (compareOp op') r')
    (ha : PE c.X a (tB c kpa (plS ma) (bB c ma))) (hb : PE c.X b' (tB c kpb (plS mb) (bB c mb))) (hc : PE c.X k3 (tB c kpc (plS mc) (bB c mc))) (hm : lastMarks [op, op'] [b', k3] = false)
    (k1 : ∀ i, kp i → kpa i) (k2 : ∀ i, kp i → kpb i) (k4 : ∀ i, kp i → kpc i) (p1 : ∀ i, plS ma = some i → kpb i) (p2 : ∀ i, plS mb = some i → kpc i) : Snd c kp (.Compare a [op, op'] [b', k3] pos) (.chain o p ma mb mc) := by
  have rd : ∀ σ H Q, tE c kp (evO c.G (.chain o p ma mb mc)) σ H Q → tChain r r' (tB c kpa (plS ma) (bB c ma)) (tB c kpb (plS mb) (bB c mb)) (tB c kpc (plS mc) (bB c mc)) σ H Q := fun σ H Q h => by
    have q := seq2 (c := c) (kp := kp) (kpa := kpa) (kpb := kpb) (pa := plS ma) (pb := plS mb) (ma := bB c ma) (mb := bB c mb) (f := fun x y env2 => match b2 o x y with
      | some (.cell (.val (.bl true))) => (bB c mc env2).bind fun z env3 => lift (b2 p y z) env3
      | some (.cell (.val (.bl false))) => .ok (.v (.bl false)) env2
      | _ => .bad) (Q := Q) (σ := σ) (H := H) (by
        obtain ⟨F, tl, s, r⟩ := h
        refine ⟨F, tl, s, ?_⟩
        unfold evO at r
        exact r) k1 k2 p1
    refine tB.imp q fun x H1 q => tB.imp q fun y H2 ⟨F, tl, d1, d2, r1, r2, s, e1, e2, q, _, o2⟩ => ?_
    dsimp only at q
    cases e3 : b2 o d1 d2 with
    | none => rw [e3] at q; exact q.elim
    | some res =>
      rw [e3] at q
      refine ho (fun _ => True) σ tl F H2 d1 d2 r1 r2 x y res _ s e1 e2 e3 ?_
      cases res with
      | obj c cs => exact q.elim
      | cell cc => cases cc with
        | lst xs => exact q.elim
        | dct ks xs => exact q.elim
        | lck => exact q.elim
        | val d => cases d with
          | bl b => cases b with
            | false =>
              intro F' H' tl' j t s1 st1 e4 hj e5 e6
              have hv := bl_of s1 e5 (by rw [e6]; rfl)
              have q : RunO c kp σ tl (.ok (.v (.bl false)) (era c.n tl)) Q := q
              rw [← e4] at q
              refine ⟨false, hv, ?_⟩
              rw [if_neg (by simp)]
              exact RunO.bl s1 (q.adv (st1.mono fun _ _ => trivial))
            | true =>
              intro F' H' tl' j t s1 st1 e4 hj e5 e6
              have hv := bl_of s1 e5 (by rw [e6]; rfl)
              have q : RunO c kp σ tl ((bB c mc (era c.n tl)).bind fun z env3 => lift (b2 p d2 z) env3) Q := q
              rw [← e4] at q
              refine ⟨true, hv, ?_⟩
              rw [if_pos rfl]
              have q' := q.adv (st1.mono fun _ _ => trivial)
              refine ⟨F', tl', s1, ?_⟩
              cases e7 : bB c mc (era c.n tl') with
              | exc x env => rw [e7] at q'; exact q'
              | bad => rw [e7] at q'; exact q'
              | ok d3 env3 =>
                rw [e7] at q'
                have q' : RunO c kp σ tl' (lift (b2 p d2 d3) env3) Q := q'
                intro F2 H2 tl2 r3 w s2 st2 e8 at3 or3
                rw [← e8] at q'
                have q2 := q'.adv (st2.mono k4)
                cases e9 : b2 p d2 d3 with
                | none => rw [e9] at q2; exact q2.elim
                | some res =>
                  rw [e9] at q2
                  have at2 := Rf.later (Rf.later e2 st1 (Nat.le_refl _) o2 fun _ _ => trivial) st2 (Nat.le_refl _) o2 p2
                  exact hp kp σ tl2 F2 H2 d2 d3 r2 r3 y w res Q s2 at2 at3 e9 q2
          | _ => exact q.elim
  exact ⟨PE.imp (pe_chain or pr ha hb hc hm) rd, PT.imp (pt_chain or pr ha hb hc hm) fun σ H Q q => rd σ H _ q⟩
end
end VE

namespace VE
open PySem PySem.Spec
                     PyProof.Rows L2

def isStar : Expr → Bool
  | .Starred _ _ => true
  | _ => false
def isSup : Expr → Bool
  | .Call (.Name _ _) [] [] _ => true
  | _ => false
/-- a run, with any end -/
def RunK {α : Type} (c : Cc) (kp : Nat → Prop) (σ : L2.St) (tl : Ld) (r : Out α) (K : α → Fz → Hp → Ld → Prop) : Prop := match r with
  | .ok a env => ∀ (F' : Fz) (H' : Hp) (tl' : Ld), Sim c F' tl' σ H' → Stp c.n kp tl tl' → era c.n tl' = env → K a F' H' tl'
  | .exc x env => OnX c σ tl x env
  | .bad => False
section
variable {c : Cc} {kp kpa kpb : Nat → Prop} {σ : L2.St} {tl : Ld} {α β : Type}
theorem RunK.adv {tl' : Ld} {r : Out α} {K : α → Fz → Hp → Ld → Prop} (h : RunK c kp σ tl r K) (s : Stp c.n kp tl tl') : RunK c kp σ tl' r K := by
  cases r with
  | ok o env => exact fun F' H' t2 a b e1 => h F' H' t2 a (s.trans b fun _ z => ⟨z, z⟩) e1
  | exc x env => exact OnX.adv (show OnX c σ tl x env from h) (s.mono fun _ z => z.elim)
  | bad => exact h
theorem RunK.less {r : Out α} {K : α → Fz → Hp → Ld → Prop} (h : RunK c kp σ tl r K) (k : ∀ i, kp i → kpa i) : RunK c kpa σ tl r K := by
  cases r with
  | ok o env => exact fun F' H' t2 a b e1 => h F' H' t2 a (b.mono k) e1
  | exc x env => exact h
  | bad => exact h
theorem RunK.imp {r : Out α} {K K' : α → Fz → Hp → Ld → Prop} (h : RunK c kp σ tl r K) (i : ∀ a F H tl', Sim c F tl' σ H → Stp c.n kp tl tl' → K a F H tl' → K' a F H tl') : RunK c kp σ tl r K' := by
  cases r with
  | ok o env => exact fun F' H' t2 a b e1 => i _ _ _ _ a b (h F' H' t2 a b e1)
  | exc x env => exact h
  | bad => exact h
theorem RunK.bind {m : Out α} {f : α → Env → Out β} {K : β → Fz → Hp → Ld → Prop} (h : RunK c kp σ tl (m.bind f) K) : RunK c kp σ tl m fun a _ _ tl' => RunK c kp σ tl' (f a (era c.n tl')) K := by
  cases m with
  | ok a env =>
    intro F' H' tl' s st e
    rw [e]
    exact RunK.adv (show RunK c kp σ tl (f a env) K from h) st
  | exc x env => exact h
  | bad => exact h
abbrev KO (tl : Ld) (Q : VK) : O → Fz → Hp → Ld → Prop := fun o _ H' tl' => ∀ (j : Nat) (t : T), tl.length ≤ j → tl'[j]? = some (some t) → t.o = o → Q t.v H'
theorem RunO.k {r : Out O} {Q : VK} (h : RunO c kp σ tl r Q) : RunK c kp σ tl r (KO tl Q) := by
  cases r with
  | ok o env => exact fun F' H' tl' s st e j t h1 h2 h3 => h F' H' tl' j t s st e h1 h2 h3
  | exc x env => exact h
  | bad => exact h
theorem RunK.o {r : Out O} {Q : VK} (h : RunK c kp σ tl r (KO tl Q)) : RunO c kp σ tl r Q := by
  cases r with
  | ok o env => exact fun F' H' tl' j t s st e h1 h2 h3 => h F' H' tl' s st e j t h1 h2 h3
  | exc x env => exact h
  | bad => exact h
/-- the same end, told of a longer ledger -/
theorem RunK.oAt {tl0 : Ld} {r : Out O} {Q : VK} (h : RunK c kp σ tl r (KO tl0 Q)) (l : tl0.length ≤ tl.length) : RunO c kp σ tl r Q :=
  RunK.o (h.imp fun a F H tl' _ _ k j t h1 h2 h3 => k j t (Nat.le_trans l h1) h2 h3)
/-- the value at a new entry -/
abbrev KD (tl : Ld) (Q : VK) : D → Fz → Hp → Ld → Prop := fun d _ H' tl' => ∀ (j : Nat) (v : V), tl.length ≤ j → tl'[j]? = some (some (T.val d v)) → Q v H'
def tD (c : Cc) (kp : Nat → Prop) (m : Env → Out D) : TE := fun σ H Q => ∃ F tl, Sim c F tl σ H ∧ RunK c kp σ tl (m (era c.n tl)) (KD tl Q)
/-- an entry behind the first is frozen -/
theorem Sim.frzT {F : Fz} {H : Hp} {tl' : Ld} {j : Nat} {t : T} (s : Sim c F tl' σ H) (st : Stp c.n kp tl tl') (n : c.n ≤ tl.length) (hj : tl.length ≤ j) (ht : tl'[j]? = some (some t)) :
    Sim c (addF F fun b => b ∈ t.ads) (tl'.set j (some (T.val t.o.frz t.v))) σ H ∧ Stp c.n kp tl (tl'.set j (some (T.val t.o.frz t.v))) ∧ era c.n (tl'.set j (some (T.val t.o.frz t.v))) = era c.n tl' ∧ (tl'.set j (some (T.val t.o.frz t.v)))[j]? = some (some (T.val t.o.frz t.v)) := by
  refine ⟨s.frz ht, ⟨by rw [List.length_set]; exact st.len, fun i h1 h2 => ?_, fun i h1 h2 => ?_⟩, ?_, ?_⟩
  · rw [List.getElem?_set_ne (by omega)]; exact st.tmp i h1 h2
  · rw [List.getElem?_set_ne (by omega)]; exact st.kep i h1 h2
  · rw [era_set, if_neg (by omega)]
  · rw [List.getElem?_set]; simp [lt_of ht]
theorem tD_of {X : Cx} {e : Expr} {m : Env → Out O} (h : PE X e (tE c kp m)) : PE X e (tD c kp fun env => (m env).map O.frz) := by
  refine PE.imp h fun σ H Q ⟨F, tl, s, r⟩ => ⟨F, tl, s, ?_⟩
  dsimp only at r
  cases e1 : m (era c.n tl) with
  | ok o env =>
    rw [e1] at r
    intro F' H' tl' j t s1 st1 e2 hj ht ho
    obtain ⟨s2, st2, e3, h3⟩ := s1.frzT st1 s.len hj ht
    rw [ho] at s2 st2 e3 h3
    exact r _ _ _ s2 st2 (e3.trans e2) j t.v hj h3
  | exc x env => rw [e1] at r; exact r
  | bad => rw [e1] at r; exact r
theorem Snd.d {e : Expr} {m : E} (h : Snd c kp e m) : PE c.X e (tD c kp fun env => (evO c.G m env).map O.frz) := tD_of h.pe
/-- an entry that is a value: what it is now -/
theorem Sim.rep {F : Fz} {H : Hp} {j : Nat} {d : D} {v : V} (s : Sim c F tl σ H) (h : tl[j]? = some (some (T.val d v))) : RepD c.S F H d v := s.g.ok j _ h
/-- a first step by value -/
theorem stepD {m : Env → Out D} {f : D → Env → Out β} {K : β → Fz → Hp → Ld → Prop} {F : Fz} {H : Hp} {Q' : VK} (s : Sim c F tl σ H) (h : RunK c kp σ tl ((m (era c.n tl)).bind f) K) (k : ∀ i, kp i → kpa i)
    (go : ∀ (F' : Fz) (H' : Hp) (tl' : Ld) (j : Nat) (d : D) (v : V), Sim c F' tl' σ H' → Stp c.n kpa tl tl' → tl.length ≤ j → tl'[j]? = some (some (T.val d v)) → RunK c kp σ tl' (f d (era c.n tl')) K → Q' v H') : tD c kpa m σ H Q' :=
  ⟨F, tl, s, (RunK.bind h).less k |>.imp fun d F' H' tl' s1 st1 r j v hj hv => go F' H' tl' j d v s1 st1 hj hv r⟩

def tDs (c : Cc) (kp : Nat → Prop) (m : Env → Out (List D)) : TA := fun σ H Q => ∃ F tl, Sim c F tl σ H ∧ RunK c kp σ tl (m (era c.n tl)) fun ds F' H' _ => ∀ vs, RepDs c.S F' H' ds vs → Q vs H'
theorem noStar {e : Expr} {es : List Expr} {env : PySem.Env} (h : isStar e = false) : starEach (e :: es) env = (false, eval e env) :: starEach es env := by
  cases e <;> first | rfl | cases h
theorem a_nil : PA c.X [] (tDs c kp (evDs c.G [])) := PA.imp pa_nil fun σ H Q ⟨F, tl, s, r⟩ => by
  unfold evDs at r
  exact r F H tl s Stp.refl rfl [] rfl
theorem a_cons {e : Expr} {es : List Expr} {m : E} {ms : List E} (h : PE c.X e (tD c kpa fun env => (evO c.G m env).map O.frz)) (hr : PA c.X es (tDs c kpb (evDs c.G ms))) (hs : isStar e = false) (k1 : ∀ i, kp i → kpa i) (k2 : ∀ i, kp i → kpb i) : PA c.X (e :: es) (tDs c kp (evDs c.G (m :: ms))) := by
  refine PA.imp (pa_cons h hr (noStar hs)) fun σ H Q ⟨F, tl, s, r⟩ => ?_
  unfold evDs at r
  refine stepD s r k1 fun F1 H1 tl1 j d v s1 st1 hj hv r1 => ⟨F1, tl1, s1, ?_⟩
  refine (RunK.bind r1).less k2 |>.imp fun ds F2 H2 tl2 s2 st2 r2 vs hvs => ?_
  have hj2 : tl2[j]? = some (some (T.val d v)) := (st2.tmp j (Nat.le_trans s.len hj) (lt_of hv)).trans hv
  exact r2 F2 H2 tl2 s2 Stp.refl rfl (v :: vs) ⟨v, vs, rfl, s2.rep hj2, hvs⟩
theorem s_tup {es : List Expr} {ms : List E} {k : Nat} {pos : Pos} (h : PA c.X es (tDs c kp (evDs c.G ms))) : PE c.X (.Tuple es k pos) (tE c kp (evO c.G (.tup ms))) := by
  refine PE.imp (pe_tup h) fun σ H Q ⟨F, tl, s, r⟩ => ?_
  unfold evO at r
  refine ⟨F, tl, s, (RunK.bind (RunO.k r)).imp fun ds F' H' tl' s' st' r' vs hvs => ?_⟩
  have r' := RunK.oAt r' st'.len
  cases e : newT ds with
  | none => rw [e] at r'; exact r'.elim
  | some o =>
    rw [e] at r'
    obtain ⟨rfl, hz⟩ := newT_ok e
    rw [RepDs.length hvs] at hz
    exact ⟨hz, fun p hp => RunO.tup s' hp hvs r'⟩
theorem s_lst {es : List Expr} {ms : List E} {pos : Pos} (h : PA c.X es (tDs c kp (evDs c.G ms))) : PE c.X (.List es pos) (tE c kp (evO c.G (.lst ms))) := by
  refine PE.imp (pe_lst h) fun σ H Q ⟨F, tl, s, r⟩ => ?_
  unfold evO at r
  refine ⟨F, tl, s, (RunK.bind (RunO.k r)).imp fun ds F' H' tl' s' st' r' vs hvs => ?_⟩
  have r' := RunK.oAt r' st'.len
  cases e : newL ds with
  | none => rw [e] at r'; exact r'.elim
  | some o =>
    rw [e] at r'
    obtain ⟨rfl, hz⟩ := newL_ok e
    rw [RepDs.length hvs] at hz
    exact ⟨hz, fun p hp => RunO.lst s' hp hvs r'⟩
def tP (c : Cc) (kp : Nat → Prop) (m : Env → Out (Option Int)) : TO := fun σ H Q => ∃ F tl, Sim c F tl σ H ∧ RunK c kp σ tl (m (era c.n tl)) fun o _ H' _ => Q o H'
theorem p_none : PO c.X none (tP c kp (evP c.G none)) := by
  refine ⟨fun pins s σ H Q I q => po_none.run pins s σ H Q I ?_⟩
  obtain ⟨F, tl, s', r⟩ := q
  unfold evP at r
  exact r F H tl s' Stp.refl rfl
theorem p_some {e : Expr} {m : E} (h : PE c.X e (tD c kp fun env => (evO c.G m env).map O.frz)) : PO c.X (some e) (tP c kp (evP c.G (some m))) := by
  refine ⟨fun pins s σ H Q I q => (po_some h).run pins s σ H Q I ?_⟩
  obtain ⟨F, tl, s', r⟩ := q
  unfold evP at r
  refine stepD s' r (fun _ z => z) fun F1 H1 tl1 j d v s1 st1 hj hv r1 => ?_
  cases d with
  | int i =>
    have : v = .int i := s1.rep hv
    exact ⟨i, this, r1 F1 H1 tl1 s1 Stp.refl rfl⟩
  | _ => exact r1.elim
def rSlX (K : PySem.W.Frag) : V → Option Int → Option Int → Hp → VK → Prop := fun x lo hi H Q => rSlL K x lo hi H Q ∨ rSlA K x lo hi H Q ∨ rSlS x lo hi H Q
theorem sl_X {X : Cx} : SlR X (rSlX X.K) := SlR.or sl_list (SlR.or sl_tupA sl_str)
theorem RepDs.cut {S : Sta} {F : Fz} {H : Hp} {ds : List D} {vs : List V} (h : RepDs S F H ds vs) (lo hi : Option Int) : RepDs S F H (VE.cut ds lo hi) (cutV vs lo hi) := by
  unfold VE.cut cutV
  rw [← RepDs.length h]
  exact RepDs.take _ (RepDs.drop _ h)
theorem cut_whole {ds : List D} {lo hi : Option Int} (h : HT.sIx ds.length 0 lo = 0 ∧ HT.sIx ds.length ds.length hi = ds.length) : cut ds lo hi = ds := by
  unfold cut
  rw [h.1, h.2, List.drop_zero, Nat.sub_zero, List.take_length]
theorem slc_ok {F : Fz} {H : Hp} {d : D} {x : V} {r : Rf} {lo hi : Option Int} {res : O} {Q : VK} (hK : c.S.K = c.X.K) (s : Sim c F tl σ H) (h : Rf.at tl d x r) (e : slcD d lo hi = some res) (q : RunO c kp σ tl (.ok res (era c.n tl)) Q) : rSlX c.X.K x lo hi H Q := by
  cases d with
  | lst xs =>
    cases e
    obtain ⟨a, vs, rfl, h1, h2⟩ := at_lst s h
    rw [hK] at h1
    exact .inl ⟨a, vs, rfl, h1, fun p hp => RunO.lst s hp (h2.cut lo hi) q⟩
  | tup xs =>
    cases e
    have rp := at_rep s h trivial
    obtain ⟨a, vs, rfl, h1, h2⟩ := at_tup s h
    rw [hK] at h1
    refine .inr (.inl ⟨a, vs, rfl, h1, fun w => ?_, fun _ p hp => RunO.tup s hp (h2.cut lo hi) q⟩)
    rw [← RepDs.length h2] at w
    rw [cut_whole w] at q
    exact RunO.val s rp q
  | str z =>
    have e : (if z.length ≤ sizeLine then some (O.v (.str (cutS z lo hi))) else none) = some res := e
    split at e
    · cases e
      obtain rfl := at_str s h
      exact .inr (.inr ⟨z, rfl, by assumption, RunO.str s q⟩)
    · cases e
  | _ => cases e
theorem RunB.k {pl : Option Nat} {r : Out D} {Q : VK} (h : RunK c kp σ tl r fun d F' H' tl' => ∀ (r : Rf) (v : V), Rf.at tl' d v r → (tl.length ≤ r.j ∨ pl = some r.j) → Q v H') : RunB c kp pl σ tl r Q := by
  cases r with
  | ok d env => exact fun F' H' tl' r v s st e h1 h2 => h F' H' tl' s st e r v h1 h2
  | exc x env => exact h
  | bad => exact h
theorem s_slc {a : Expr} {lo hi : Option Expr} {ma : E} {ml mh : Option E} {pos p2 : Pos} {kpc : Nat → Prop} (hK : c.S.K = c.X.K) (ha : PE c.X a (tB c kpa (plS ma) (bB c ma))) (hl : PO c.X lo (tP c kpb (evP c.G ml))) (hh : PO c.X hi (tP c kpc (evP c.G mh)))
    (k1 : ∀ i, kp i → kpa i) (k2 : ∀ i, kp i → kpb i) (k3 : ∀ i, kp i → kpc i) (p1 : ∀ i, plS ma = some i → kpb i) (p3 : ∀ i, plS ma = some i → kpc i) : PE c.X (.Subscript a (.Slice lo hi none p2) pos) (tE c kp (evO c.G (.slc ma ml mh))) := by
  refine PE.imp (pe_slice sl_X ha hl hh) fun σ H Q ⟨F, tl, s, r⟩ => ⟨F, tl, s, ?_⟩
  unfold evO at r
  refine RunB.k ((RunK.bind (RunO.k (show RunO c kp σ tl ((bB c ma (era c.n tl)).bind _) Q from r))).less k1 |>.imp fun d F1 H1 tl1 s1 st1 r1 rf v h1 o1 => ⟨F1, tl1, s1, ?_⟩)
  refine (RunK.bind r1).less k2 |>.imp fun l F2 H2 tl2 s2 st2 r2 => ⟨F2, tl2, s2, ?_⟩
  refine (RunK.bind r2).less k3 |>.imp fun u F3 H3 tl3 s3 st3 r3 => ?_
  have o1 : c.n ≤ rf.j ∨ plS ma = some rf.j := o1.imp (fun z => Nat.le_trans s.len z) id
  have at2 := Rf.later (Rf.later h1 st2 (Nat.le_refl _) o1 p1) st3 (Nat.le_refl _) o1 p3
  have r3 := RunK.oAt r3 (Nat.le_trans st1.len (Nat.le_trans st2.len st3.len))
  cases e : slcD d l u with
  | none => rw [e] at r3; exact r3.elim
  | some res => rw [e] at r3; exact slc_ok hK s3 at2 e r3
theorem noSup {e : Expr} {f : Str} {env : PySem.Env} {w : Sem Value} (h : isSup e = false) : attributeBase e f env w = w := by
  unfold attributeBase
  split
  · cases h
  · rfl
theorem zip_lookup {nm : Str} {v : V} : ∀ {ns : List Str} {vs : List V} {f : Nat}, ns.Nodup → ns[f]? = some nm → vs[f]? = some v → (ns.zip vs).lookup nm = some v
  | [], _, _, _, e, _ => by simp at e
  | n :: ns, [], f, _, _, e => by simp at e
  | n :: ns, w :: vs, 0, _, e1, e2 => by
    simp at e1 e2
    subst e1; subst e2
    simp [List.zip_cons_cons, List.lookup]
  | n :: ns, w :: vs, f + 1, nd, e1, e2 => by
    simp at e1 e2
    have hm : nm ∈ ns := List.mem_of_getElem? e1
    have hne : (nm == n) = false := beq_eq_false_iff_ne.mpr fun q => (List.nodup_cons.mp nd).1 (q ▸ hm)
    rw [List.zip_cons_cons, List.lookup_cons, hne]
    exact zip_lookup (List.nodup_cons.mp nd).2 e1 e2
/-- what the classes' objects must say -/
structure FC (S : Sta) : Prop where
  nd : ∀ c ∈ S.cl, (S.fs c).Nodup
  cls : ∀ c ∈ S.cl, Cls S.K (S.cn c)
  no : ∀ c ∈ S.cl, ∀ f ∈ S.fs c, NoAttr S.K (S.cn c) f
  sm : ∀ c ∈ S.cl, (S.fs c).length < 1000
theorem s_fld {e : Expr} {m : E} {k f : Nat} {nm : Str} {pos : Pos} (hK : c.S.K = c.X.K) (fc : FC c.S) (h : PE c.X e (tD c kp fun env => (evO c.G m env).map O.frz)) (hb : isSup e = false) (hf : (c.S.fs k)[f]? = some nm) : PE c.X (.Attribute e nm pos) (tE c kp (evO c.G (.fld m k f))) := by
  refine PE.imp (pe_fld h (noSup hb)) fun σ H Q ⟨F, tl, s, r⟩ => ?_
  unfold evO at r
  refine stepD s (RunO.k r) (fun _ z => z) fun F1 H1 tl1 j d v s1 st1 hj hv r1 => ?_
  have r1 := RunK.oAt r1 st1.len
  cases d with
  | obj k' ds =>
    obtain ⟨a, dx, vs, rfl, ⟨_, h1⟩, ⟨h2, h3⟩, h4⟩ := s1.rep hv
    have r1 : RunO c kp σ tl1 (lift (if k = k' then (ds[f]?).map O.v else none) (era c.n tl1)) Q := r1
    by_cases hk : k = k'
    · subst hk
      rw [if_pos rfl] at r1
      cases e1 : ds[f]? with
      | none => rw [e1] at r1; exact r1.elim
      | some d =>
        rw [e1] at r1
        obtain ⟨w, e2, e3⟩ := RepDs.get h4 e1
        rw [← hK]
        exact ⟨a, _, dx, _, w, rfl, h1, fc.cls k h3, fc.no k h3 nm (List.mem_of_getElem? hf), zip_lookup (fc.nd k h3) hf e2, RunO.val s1 e3 r1⟩
    · rw [if_neg hk] at r1; exact r1.elim
  | _ => exact r1.elim
theorem o_get {S : Sta} {F : Fz} {H : Hp} {a dx : Addr} {k f : Nat} {cs : List TC} {x : TC} {nm : Str} (fc : FC S) (ok : (T.obj a dx k cs).ok S F H) (hx : cs[f]? = some x) (hf : (S.fs k)[f]? = some nm) : H a = some (.ins (S.cn k) dx ((S.fs k).zip (cs.map TC.v))) ∧ k ∈ S.cl ∧ ((S.fs k).zip (cs.map TC.v)).lookup nm = some x.v := by
  obtain ⟨h1, ⟨h2, h3⟩, h4⟩ := ok
  exact ⟨h1, h3, zip_lookup (fc.nd k h3) hf (by rw [List.getElem?_map, hx]; rfl)⟩
/-- the field of a place, looked at -/
theorem s_plcfB {x : Expr} {i k f : Nat} {nm : Str} {pos : Pos} (hK : c.S.K = c.X.K) (fc : FC c.S) (h : PE c.X x (tVar i)) (hb : isSup x = false) (hf : (c.S.fs k)[f]? = some nm) : PE c.X (.Attribute x nm pos) (tB c kp (some i) (bB c (.plcf i k f))) := by
  refine PE.imp (pe_fld h (noSup hb)) fun σ H Q ⟨F, tl, s, r⟩ => ?_
  have r : RunB c kp (some i) σ tl (lift (snapF (era c.n tl) i k f) (era c.n tl)) Q := r
  unfold snapF at r
  cases e1 : gt (era c.n tl) i with
  | none => rw [e1] at r; exact r.elim
  | some o =>
    rw [e1] at r
    obtain ⟨hi, t, ht, rfl⟩ := gt_era e1
    refine ⟨t.v, s.sl i t hi ht, ?_⟩
    have ok := s.g.ok i t ht
    cases t with
    | obj a dx k' cs =>
      have r : RunB c kp (some i) σ tl (lift (if k = k' then ((cs.map TC.c)[f]?).map Cell.d else none) (era c.n tl)) Q := r
      by_cases hk : k = k'
      · subst hk
        rw [if_pos rfl, List.getElem?_map] at r
        cases e2 : cs[f]? with
        | none => rw [e2] at r; exact r.elim
        | some x =>
          rw [e2] at r
          obtain ⟨g1, g2, g3⟩ := o_get fc ok e2 hf
          rw [← hK]
          exact ⟨a, _, dx, _, x.v, rfl, g1, fc.cls k g2, fc.no k g2 nm (List.mem_of_getElem? hf), g3, r F H tl (.fl i f) x.v s Stp.refl rfl ⟨a, dx, k, cs, x, ht, e2, rfl, rfl⟩ (.inr rfl)⟩
      · rw [if_neg hk] at r; exact r.elim
    | cell y =>
      cases y with
      | val d v => cases d with
        | obj k' ds =>
          have rr : RunB c kp (some i) σ tl (lift (if k = k' then ds[f]? else none) (era c.n tl)) Q := r
          clear r
          obtain ⟨a, dx, vs, rfl, ⟨_, h1⟩, ⟨h2, h3⟩, h4⟩ := (show RepD c.S F H (.obj k' ds) v from ok)
          by_cases hk : k = k'
          · subst hk
            rw [if_pos rfl] at rr
            cases e2 : ds[f]? with
            | none => rw [e2] at rr; exact rr.elim
            | some d =>
              rw [e2] at rr
              obtain ⟨w, e3, e4⟩ := RepDs.get h4 e2
              rw [← hK]
              refine ⟨a, _, dx, _, w, rfl, h1, fc.cls k h3, fc.no k h3 nm (List.mem_of_getElem? hf), zip_lookup (fc.nd k h3) hf e3, ?_⟩
              exact rr F H (tl ++ [some (T.val d w)]) (.ix tl.length) w (s.pushV e4) (Stp.push s.len) (era_push s.len) ⟨T.val d w, by simp, rfl, rfl⟩ (.inl (Nat.le_refl _))
          · rw [if_neg hk] at rr; exact rr.elim
        | _ => exact r.elim
      | _ => exact r.elim
/-- .. and handed on, where it is a value -/
theorem s_plcf {x : Expr} {i k f : Nat} {nm : Str} {pos : Pos} (hK : c.S.K = c.X.K) (fc : FC c.S) (h : PE c.X x (tVar i)) (hb : isSup x = false) (hf : (c.S.fs k)[f]? = some nm) : PE c.X (.Attribute x nm pos) (tE c kp (evO c.G (.plcf i k f))) := by
  refine PE.imp (pe_fld h (noSup hb)) fun σ H Q ⟨F, tl, s, r⟩ => ?_
  unfold evO at r
  cases e1 : gt (era c.n tl) i with
  | none => rw [e1] at r; exact r.elim
  | some o =>
    rw [e1] at r
    obtain ⟨hi, t, ht, rfl⟩ := gt_era e1
    refine ⟨t.v, s.sl i t hi ht, ?_⟩
    have ok := s.g.ok i t ht
    cases t with
    | obj a dx k' cs =>
      have r : RunO c kp σ tl (if k = k' then (match (cs.map TC.c)[f]? with
        | some (.val d) => .ok (.v d) (era c.n tl)
        | _ => .bad) else .bad) Q := r
      by_cases hk : k = k'
      · subst hk
        rw [if_pos rfl, List.getElem?_map] at r
        cases e2 : cs[f]? with
        | none => rw [e2] at r; exact r.elim
        | some x =>
          rw [e2] at r
          obtain ⟨g1, g2, g3⟩ := o_get fc ok e2 hf
          rw [← hK]
          refine ⟨a, _, dx, _, x.v, rfl, g1, fc.cls k g2, fc.no k g2 nm (List.mem_of_getElem? hf), g3, ?_⟩
          cases x with
          | val d v => exact RunO.val s (ok.2.2 _ (List.mem_of_getElem? e2)) r
          | lst b ds => exact r.elim
          | dct b ks ds => exact r.elim
          | lck b od ks ds => exact r.elim
      · rw [if_neg hk] at r; exact r.elim
    | cell y =>
      cases y with
      | val d v => cases d with
        | obj k' ds =>
          have rr : RunO c kp σ tl (if k = k' then lift ((ds[f]?).map O.v) (era c.n tl) else .bad) Q := r
          clear r
          obtain ⟨a, dx, vs, rfl, ⟨_, h1⟩, ⟨h2, h3⟩, h4⟩ := (show RepD c.S F H (.obj k' ds) v from ok)
          by_cases hk : k = k'
          · subst hk
            rw [if_pos rfl] at rr
            cases e2 : ds[f]? with
            | none => rw [e2] at rr; exact rr.elim
            | some d =>
              rw [e2] at rr
              obtain ⟨w, e3, e4⟩ := RepDs.get h4 e2
              rw [← hK]
              exact ⟨a, _, dx, _, w, rfl, h1, fc.cls k h3, fc.no k h3 nm (List.mem_of_getElem? hf), zip_lookup (fc.nd k h3) hf e3, RunO.val s e4 rr⟩
          · rw [if_neg hk] at rr; exact rr.elim
        | _ => exact r.elim
      | _ => exact r.elim
end
end VE

namespace VE
open PySem PySem.Spec
                     PyProof.Rows L2

/-- what is fixed of the def -/
structure Fx (c : Cc) : Prop where
  hK : c.S.K = c.X.K
  nn : c.X.N.Nodup
  fc : FC c.S
  lk : ∀ (i : Nat) (v : V), c.lv i = some v → c.G.lk[i]? = some true
  tk : Takes c.X c.W
theorem Fx.free {c : Cc} (f : Fx c) {i : Nat} (h : okAsg c.G.lk i = true) : c.lv i = none := by
  cases e : c.lv i with
  | none => rfl
  | some v =>
    have := f.lk i v e
    unfold okAsg at h
    rw [this] at h
    cases h

section
variable {c : Cc} {kp kpa kpb : Nat → Prop} {F : Fz} {tl : Ld} {σ : L2.St} {H : Hp} {S : Sta} {am : Amb}
theorem Good.setV (g : Good S am F H tl) {i : Nat} {d : D} {v : V} (r : RepD S F H d v) : Good S am F H (tl.set i (some (T.val d v))) := by
  have cse : ∀ (k : Nat) (u : T), (tl.set i (some (T.val d v)))[k]? = some (some u) → (k = i ∧ u = T.val d v) ∨ (k ≠ i ∧ tl[k]? = some (some u)) := fun k u e => by
    by_cases q : i = k
    · subst q
      rw [List.getElem?_set] at e
      by_cases hl : i < tl.length
      · simp [hl] at e; exact .inl ⟨rfl, e.symm⟩
      · simp [hl] at e
    · rw [List.getElem?_set_ne q] at e
      exact .inr ⟨fun z => q z.symm, e⟩
  have noads : ∀ a, a ∉ (T.val d v).ads := fun a h => by simp [T.ads, TC.ads] at h
  refine ⟨fun k u e => ?_, fun k u e => ?_, fun k l u w hkl e1 e2 a ha hb => ?_, fun k u e a ha => ?_, g.tr, g.a1, g.a2, g.a3, fun k u e a ha => ?_⟩
  · rcases cse k u e with ⟨_, q⟩ | ⟨_, q⟩
    · rw [q]; exact r
    · exact g.ok k u q
  · rcases cse k u e with ⟨_, q⟩ | ⟨_, q⟩
    · rw [q]; simp [T.ads, TC.ads]
    · exact g.nd k u q
  · rcases cse k u e1 with ⟨_, q1⟩ | ⟨_, q1⟩
    · rw [q1] at ha; exact noads a ha
    · rcases cse l w e2 with ⟨_, q2⟩ | ⟨_, q2⟩
      · rw [q2] at hb; exact noads a hb
      · exact g.dj k l u w hkl q1 q2 a ha hb
  · rcases cse k u e with ⟨_, q⟩ | ⟨_, q⟩
    · rw [q] at ha; exact absurd ha (noads a)
    · exact g.nf k u q a ha
  · rcases cse k u e with ⟨_, q⟩ | ⟨_, q⟩
    · rw [q] at ha; exact absurd ha (noads a)
    · exact g.a4 k u q a ha
/-- an entry goes to another place -/
theorem Good.move (g : Good S am F H tl) {i j : Nat} {o : Option T} (hj : tl[j]? = some o) (hij : i ≠ j) : Good S am F H ((tl.set i o).set j none) := by
  have key : ∀ (k : Nat) (u : T), ((tl.set i o).set j none)[k]? = some (some u) → tl[if k = i then j else k]? = some (some u) ∧ k ≠ j := fun k u e => by
    by_cases q : j = k
    · subst q
      rw [List.getElem?_set] at e
      split at e
      · split at e <;> cases e
      · exact absurd rfl (by assumption)
    · rw [List.getElem?_set_ne q] at e
      by_cases z : k = i
      · subst z
        rw [List.getElem?_set] at e
        simp only [if_true] at e ⊢
        split at e
        · rw [hj]; exact ⟨e, fun w => q w.symm⟩
        · cases e
      · rw [if_neg z]
        rw [List.getElem?_set_ne (fun w => z w.symm)] at e
        exact ⟨e, fun w => q w.symm⟩
  exact g.sel (fun k => if k = i then j else k) (fun k u e => (key k u e).1) fun k l u w e1 e2 q => by
    have h1 := (key k u e1).2
    have h2 := (key l w e2).2
    split at q <;> split at q <;> omega
theorem get_set {α : Type} {l : List (Option α)} {i k : Nat} {o : Option α} {u : α} (e : (l.set i o)[k]? = some (some u)) : (k = i ∧ o = some u ∧ i < l.length) ∨ (k ≠ i ∧ l[k]? = some (some u)) := by
  by_cases q : i = k
  · subst q
    rw [List.getElem?_set] at e
    by_cases hl : i < l.length
    · simp [hl] at e; exact .inl ⟨rfl, e, hl⟩
    · simp [hl] at e
  · rw [List.getElem?_set_ne q] at e
    exact .inr ⟨fun z => q z.symm, e⟩
/-- a slot is set to a value -/
theorem Sim.setV (s : Sim c F tl σ H) {i : Nat} {d : D} {v : V} (r : RepD c.S F H d v) (hi : i < c.n) (hl : c.lv i = none) : Sim c F (tl.set i (some (T.val d v))) (σ.set i (some v)) H where
  g := s.g.setV r
  len := by rw [List.length_set]; exact s.len
  sl := fun k t hk e => by
    rcases get_set e with ⟨q, q2, _⟩ | ⟨q, q2⟩
    · subst q; cases q2
      rw [List.getElem?_set]; simp [s.ln, hi, T.v, TC.v]
    · rw [List.getElem?_set_ne (fun z => q z.symm)]; exact s.sl k t hk q2
  lo := fun k w e => by
    obtain ⟨h0, t, h1, h2⟩ := s.lo k w e
    have q : i ≠ k := fun z => by rw [z, e] at hl; cases hl
    exact ⟨h0, t, by rw [List.getElem?_set_ne q]; exact h1, h2⟩
  xe := s.xe
  ln := by rw [List.length_set]; exact s.ln
theorem era_set' {n i : Nat} {o : Option T} : era n (tl.set i o) = (era n tl).set i (o.map T.o) := by
  rw [era_set]
  split
  · rfl
  · rw [List.set_eq_of_length_le]
    unfold era
    rw [List.length_map, List.length_take]
    omega
theorem Stp.set {n i : Nat} {o : Option T} (h : i < n) (k : ∀ j, kp j → j ≠ i) : Stp n kp tl (tl.set i o) :=
  ⟨by simp, fun j h1 _ => List.getElem?_set_ne (by omega), fun j _ h2 => List.getElem?_set_ne fun q => k j h2 q.symm⟩

def gNames : List Nat → TGs
  | [] => gNil
  | i :: is => gCons (gName i) (gNames is)
def gT (K : PySem.W.Frag) : Tgt → TG
  | .one i => gName i
  | .many is => gTup K is.length (gNames is)
theorem asg_many (fx : Fx c) : ∀ (is : List Nat) (ds : List D) (vs : List V) (tl : Ld) (σ : L2.St) (env' : Env) (R : L2.St → Hp → Prop), Sim c F tl σ H → RepDs c.S F H ds vs → (∀ i ∈ is, i < c.n) → is.all (okAsg c.G.lk) = true → asgMany is ds (era c.n tl) = some env' →
    (∀ j, kp j → j ∉ is) → (∀ (tl' : Ld) (σ' : L2.St), Sim c F tl' σ' H → Stp c.n kp tl tl' → era c.n tl' = env' → (∀ j, j ∉ is → σ'[j]? = σ[j]?) → R σ' H) → gNames is vs σ H R
  | [], [], vs, tl, σ, env', R, s, r, _, _, e, _, go => by
    cases (show vs = [] from r)
    cases e
    exact ⟨rfl, go tl σ s Stp.refl rfl fun _ _ => rfl⟩
  | [], d :: ds, vs, tl, σ, env', R, s, r, _, _, e, _, go => by cases e
  | i :: is, [], vs, tl, σ, env', R, s, r, _, _, e, _, go => by cases e
  | i :: is, d :: ds, vs, tl, σ, env', R, s, r, hi, hk, e, hp, go => by
    obtain ⟨v, vr, rfl, r1, r2⟩ := r
    have e : asgMany is ds (setS (era c.n tl) i (.v d)) = some env' := e
    obtain ⟨k1, k2⟩ := Bool.and_eq_true_iff.mp (show (okAsg c.G.lk i && is.all (okAsg c.G.lk)) = true from hk)
    have hin := hi i List.mem_cons_self
    have s1 := s.setV r1 hin (fx.free k1)
    have st1 : Stp c.n kp tl (tl.set i (some (T.val d v))) := Stp.set hin fun j hj q => hp j hj (by rw [q]; exact List.mem_cons_self)
    refine ⟨v, vr, rfl, ?_⟩
    refine asg_many fx is ds vr _ (σ.set i (some v)) env' R s1 r2 (fun j hj => hi j (List.mem_cons_of_mem _ hj)) k2 (by rw [era_set']; exact e) (fun j hj q => hp j hj (List.mem_cons_of_mem _ q)) fun tl' σ' s2 st2 e2 e3 => ?_
    refine go tl' σ' s2 (st1.trans st2 fun _ z => ⟨z, z⟩) e2 fun j hj => ?_
    rw [e3 j fun q => hj (List.mem_cons_of_mem _ q)]
    exact List.getElem?_set_ne fun q => hj (by rw [← q]; exact List.mem_cons_self)
theorem asg_t (fx : Fx c) {t : Tgt} {d : D} {v : V} {env' : Env} {R : L2.St → Hp → Prop} (s : Sim c F tl σ H) (r : RepD c.S F H d v) (hi : ∀ i ∈ tslots t, i < c.n) (e : asgT c.G.lk t d (era c.n tl) = some env') (hp : ∀ j, kp j → j ∉ tslots t)
    (go : ∀ (tl' : Ld) (σ' : L2.St), Sim c F tl' σ' H → Stp c.n kp tl tl' → era c.n tl' = env' → (∀ j, j ∉ tslots t → σ'[j]? = σ[j]?) → R σ' H) : gT c.X.K t v σ H R := by
  cases t with
  | one i =>
    have e : (if okAsg c.G.lk i then some (setS (era c.n tl) i (.v d)) else none) = some env' := e
    split at e
    · cases e
      have hin := hi i List.mem_cons_self
      refine go _ (σ.set i (some v)) (s.setV r hin (fx.free (by assumption))) (Stp.set hin fun j hj q => hp j hj (by rw [q]; exact List.mem_cons_self)) ?_ fun j hj => List.getElem?_set_ne fun q => hj (by rw [← q]; exact List.mem_cons_self)
      rw [era_set']; rfl
    · cases e
  | many is =>
    have e : (if is.all (okAsg c.G.lk) then (match d with
      | .tup xs => asgMany is xs (era c.n tl)
      | _ => none) else none) = some env' := e
    split at e
    · cases d with
      | tup xs =>
        obtain ⟨a, vs, rfl, h1, h2⟩ := r
        have hl : ∀ (is : List Nat) (xs : List D) (en : Env), asgMany is xs en = some env' → xs.length = is.length := by
          intro is
          induction is with
          | nil => intro xs en e; cases xs with
            | nil => rfl
            | cons _ _ => cases e
          | cons i is ih => intro xs en e; cases xs with
            | nil => cases e
            | cons x xs => rw [List.length_cons, List.length_cons, ih xs _ e]
        have q := h1.sq
        rw [fx.hK] at q
        exact ⟨a, vs, rfl, q, by rw [← RepDs.length h2]; exact hl is xs _ e, asg_many fx is xs vs tl σ env' R s h2 hi (by assumption) e hp go⟩
      | _ => cases e
    · cases e

/-- J gives the values xs, one by one, as long as the ledger's kept entries stand -/
def WalkD (c : Cc) (kp : Nat → Prop) (tl : Ld) (J : It) (xs : List D) : Prop := ∀ (F2 : Fz) (tl2 : Ld) (σ2 : L2.St) (H2 : Hp), Sim c F2 tl2 σ2 H2 → Stp c.n kp tl tl2 →
  (∀ i, i < xs.length → J.go i H2 ∧ ∀ x H', J.yld i H2 x H' → ∃ F3 d, xs[i]? = some d ∧ Sim c F3 tl2 σ2 H' ∧ RepD c.S F3 H' d x) ∧ J.stop xs.length H2
/-- the reading of an iterable -/
def tI (c : Cc) (kp kq : Nat → Prop) (ik : ItK) (its : Env → Out (List D)) : TI := fun σ H R => ∃ F tl, Sim c F tl σ H ∧ RunK c kp σ tl (its (era c.n tl)) fun ds F' H' tl' => ∃ xs, itD ik ds = some xs ∧ ∀ J, WalkD c kq tl' J xs → R J H'
theorem rep_at {xs : List D} {vs : List V} {i : Nat} (h : RepDs S F H xs vs) (hi : i < xs.length) : ∃ d v, xs[i]? = some d ∧ vs[i]? = some v ∧ RepD S F H d v := by
  obtain ⟨v, h1, h2⟩ := RepDs.get h (show xs[i]? = some xs[i] by simp [hi])
  exact ⟨_, v, by simp [hi], h1, h2⟩
theorem i_lst {a : Expr} {ma : E} {tg : Expr} (fx : Fx c) (ha : PE c.X a (tB c kpa (plS ma) (bB c ma))) (k1 : ∀ i, kp i → kpa i) (hp : ∀ i, plS ma = some i → kpb i) : PI c.X tg a (tI c kp kpb .lst (evBs c.G [ma])) := by
  refine ⟨fun pins s σ H R I q => (pi_list ha).run pins s σ H R I ?_⟩
  obtain ⟨F, tl, s', r⟩ := q
  refine ⟨F, tl, s', ?_⟩
  unfold evBs at r
  refine RunB.k ((RunK.bind (show RunK c kp σ tl ((bB c ma (era c.n tl)).bind _) _ from r)).less k1 |>.imp fun d F1 H1 tl1 s1 st1 r1 rf v h1 o1 => ?_)
  obtain ⟨xs, e, q⟩ := r1 F1 H1 tl1 s1 Stp.refl rfl
  cases d with
  | lst ds =>
    cases e
    have o1 : c.n ≤ rf.j ∨ plS ma = some rf.j := o1.imp (fun z => Nat.le_trans s'.len z) id
    obtain ⟨p, vs, rfl, h2, h3⟩ := at_lst s1 h1
    rw [fx.hK] at h2
    refine ⟨p, rfl, ⟨vs, h2⟩, q _ fun F2 tl2 σ2 H2 s2 st2 => ?_⟩
    obtain ⟨p', vs', e', h4, h5⟩ := at_lst s2 (Rf.later h1 st2 (Nat.le_refl _) o1 hp)
    cases e'
    rw [fx.hK] at h4
    refine ⟨fun i hi => ?_, vs', h4, by rw [RepDs.length h5]; exact Nat.le_refl _⟩
    obtain ⟨d, v, g1, g2, g3⟩ := rep_at h5 hi
    refine ⟨⟨vs', v, h4, g2⟩, fun x H' y => ?_⟩
    obtain ⟨rfl, y⟩ := y
    have := y vs' h4
    rw [g2] at this
    cases this
    exact ⟨F2, d, g1, s2, g3⟩
  | _ => cases e
theorem i_tup {a : Expr} {ma : E} {tg : Expr} (fx : Fx c) (ha : PE c.X a (tB c kpa (plS ma) (bB c ma))) (k1 : ∀ i, kp i → kpa i) (hp : ∀ i, plS ma = some i → kpb i) : PI c.X tg a (tI c kp kpb .tup (evBs c.G [ma])) := by
  refine ⟨fun pins s σ H R I q => (pi_tup ha).run pins s σ H R I ?_⟩
  obtain ⟨F, tl, s', r⟩ := q
  refine ⟨F, tl, s', ?_⟩
  unfold evBs at r
  refine RunB.k ((RunK.bind (show RunK c kp σ tl ((bB c ma (era c.n tl)).bind _) _ from r)).less k1 |>.imp fun d F1 H1 tl1 s1 st1 r1 rf v h1 o1 => ?_)
  obtain ⟨xs, e, q⟩ := r1 F1 H1 tl1 s1 Stp.refl rfl
  cases d with
  | tup ds =>
    cases e
    have o1 : c.n ≤ rf.j ∨ plS ma = some rf.j := o1.imp (fun z => Nat.le_trans s'.len z) id
    obtain ⟨p, vs, rfl, h2, h3⟩ := at_tup s1 h1
    rw [fx.hK] at h2
    refine ⟨p, rfl, ⟨vs, h2⟩, q _ fun F2 tl2 σ2 H2 s2 st2 => ?_⟩
    obtain ⟨p', vs', e', h4, h5⟩ := at_tup s2 (Rf.later h1 st2 (Nat.le_refl _) o1 hp)
    cases e'
    rw [fx.hK] at h4
    refine ⟨fun i hi => ?_, vs', h4, by rw [RepDs.length h5]; exact Nat.le_refl _⟩
    obtain ⟨d, v, g1, g2, g3⟩ := rep_at h5 hi
    refine ⟨⟨vs', v, h4, g2⟩, fun x H' y => ?_⟩
    obtain ⟨rfl, y⟩ := y
    have := y vs' h4
    rw [g2] at this
    cases this
    exact ⟨F2, d, g1, s2, g3⟩
  | _ => cases e
theorem i_str {a : Expr} {ma : E} {tg : Expr} (ha : PE c.X a (tB c kpa (plS ma) (bB c ma))) (k1 : ∀ i, kp i → kpa i) : PI c.X tg a (tI c kp kpb .str (evBs c.G [ma])) := by
  refine ⟨fun pins s σ H R I q => (pi_str ha).run pins s σ H R I ?_⟩
  obtain ⟨F, tl, s', r⟩ := q
  refine ⟨F, tl, s', ?_⟩
  unfold evBs at r
  refine RunB.k ((RunK.bind (show RunK c kp σ tl ((bB c ma (era c.n tl)).bind _) _ from r)).less k1 |>.imp fun d F1 H1 tl1 s1 st1 r1 rf v h1 o1 => ?_)
  obtain ⟨xs, e, q⟩ := r1 F1 H1 tl1 s1 Stp.refl rfl
  cases d with
  | str z =>
    cases e
    obtain rfl := at_str s1 h1
    refine ⟨z, rfl, q _ fun F2 tl2 σ2 H2 s2 st2 => ?_⟩
    have hz : (z.cps.toList.map fun c => D.str ⟨#[c]⟩).length = z.cps.size := by simp
    refine ⟨fun i hi => ⟨(show i < z.cps.size by rw [← hz]; exact hi), fun x H' y => ?_⟩, (show z.cps.size ≤ _ by rw [hz]; exact Nat.le_refl _)⟩
    obtain ⟨rfl, w, e1, rfl⟩ := y
    refine ⟨F2, .str ⟨#[w]⟩, ?_, s2, rfl⟩
    rw [List.getElem?_map, Array.getElem?_toList, e1]; rfl
  | _ => cases e
theorem rng_get : ∀ (n : Nat) (a st : Int) (i : Nat), i < n → (rng a st n)[i]? = some (.int (a + i * st))
  | 0, _, _, _, h => by omega
  | n + 1, a, st, 0, _ => by simp [rng]
  | n + 1, a, st, i + 1, h => by
    have := rng_get n (a + st) st i (by omega)
    unfold rng
    rw [List.getElem?_cons_succ, this]
    congr 2
    rw [Int.natCast_add, Int.add_mul]
    omega
theorem rng_len : ∀ (n : Nat) (a st : Int), (rng a st n).length = n
  | 0, _, _ => rfl
  | n + 1, a, st => by unfold rng; rw [List.length_cons, rng_len n]
theorem big_ok {i : Int} (h : big i = true) : -(2 ^ 62) ≤ i ∧ i < 2 ^ 62 := of_decide_eq_true h
theorem walk_rng {lo : Int} {n : Nat} : WalkD c kp tl (Itr lo n) (rng lo 1 n) := fun F2 tl2 σ2 H2 s2 st2 => by
  refine ⟨fun i hi => ?_, by rw [rng_len]; exact Nat.le_refl _⟩
  rw [rng_len] at hi
  refine ⟨hi, fun x H' y => ?_⟩
  obtain ⟨rfl, rfl⟩ := y
  exact ⟨F2, .int (lo + i), by rw [rng_get n lo 1 i hi, Int.mul_one], s2, rfl⟩
/-- one look, two looks, as arguments -/
theorem a_b1 {e : Expr} {m : E} (h : PE c.X e (tB c kpa (plS m) (bB c m))) (hs : isStar e = false) (k1 : ∀ i, kp i → kpa i) {σ : L2.St} {H : Hp} {Q : List V → Hp → Prop} {tl : Ld} {F : Fz} {R : List D → Fz → Hp → Ld → Prop}
    (s : Sim c F tl σ H) (r : RunK c kp σ tl (evBs c.G [m] (era c.n tl)) R) (go : ∀ (F1 : Fz) (H1 : Hp) (tl1 : Ld) (d : D) (rf : Rf) (v : V), Sim c F1 tl1 σ H1 → Stp c.n kpa tl tl1 → Rf.at tl1 d v rf → (c.n ≤ rf.j ∨ plS m = some rf.j) → R [d] F1 H1 tl1 → Q [v] H1) : tCons (tB c kpa (plS m) (bB c m)) tNil σ H Q := by
  unfold evBs at r
  refine ⟨F, tl, s, ?_⟩
  refine RunB.k ((RunK.bind (show RunK c kp σ tl ((bB c m (era c.n tl)).bind _) _ from r)).less k1 |>.imp fun d F1 H1 tl1 s1 st1 r1 rf v h1 o1 => ?_)
  exact go F1 H1 tl1 d rf v s1 st1 h1 (o1.imp (fun z => Nat.le_trans s.len z) id) (r1 F1 H1 tl1 s1 Stp.refl rfl)
theorem a_b2 {e e' : Expr} {m m' : E} (h : PE c.X e (tB c kpa (plS m) (bB c m))) (h' : PE c.X e' (tB c kpb (plS m') (bB c m'))) (k1 : ∀ i, kp i → kpa i) (k2 : ∀ i, kp i → kpb i) (hp : ∀ i, plS m = some i → kpb i) {σ : L2.St} {H : Hp} {Q : List V → Hp → Prop} {tl : Ld} {F : Fz} {R : List D → Fz → Hp → Ld → Prop}
    (s : Sim c F tl σ H) (r : RunK c kp σ tl (evBs c.G [m, m'] (era c.n tl)) R) (go : ∀ (F1 : Fz) (H1 : Hp) (tl1 : Ld) (d d' : D) (rf rf' : Rf) (v v' : V), Sim c F1 tl1 σ H1 → Rf.at tl1 d v rf → Rf.at tl1 d' v' rf' → (c.n ≤ rf.j ∨ plS m = some rf.j) → (c.n ≤ rf'.j ∨ plS m' = some rf'.j) → R [d, d'] F1 H1 tl1 → Q [v, v'] H1) :
    tCons (tB c kpa (plS m) (bB c m)) (tCons (tB c kpb (plS m') (bB c m')) tNil) σ H Q := by
  unfold evBs at r
  refine ⟨F, tl, s, ?_⟩
  refine RunB.k ((RunK.bind (show RunK c kp σ tl ((bB c m (era c.n tl)).bind _) _ from r)).less k1 |>.imp fun d F1 H1 tl1 s1 st1 r1 rf v h1 o1 => ?_)
  refine ⟨F1, tl1, s1, ?_⟩
  have r3 := RunK.bind r1
  unfold evBs at r3
  refine RunB.k ((RunK.bind (show RunK c kp σ tl1 ((bB c m' (era c.n tl1)).bind _) _ from r3)).less k2 |>.imp fun d' F2 H2 tl2 s2 st2 r2 rf' v' h2 o2 => ?_)
  unfold evBs at r2
  have o1 : c.n ≤ rf.j ∨ plS m = some rf.j := o1.imp (fun z => Nat.le_trans s.len z) id
  exact go F2 H2 tl2 d d' rf rf' v v' s2 (Rf.later h1 st2 (Nat.le_refl _) o1 hp) h2 o1 (o2.imp (fun z => Nat.le_trans s1.len z) id) ((r2 F2 H2 tl2 s2 Stp.refl rfl) F2 H2 tl2 s2 Stp.refl rfl)
theorem i_rng1 {a tg : Expr} {ma : E} {p pos : Pos} (hg : Gl c.X "range") (hm : c.X.mg "range" = none) (ha : PE c.X a (tB c kpa (plS ma) (bB c ma))) (hs : isStar a = false) (k1 : ∀ i, kp i → kpa i) : PI c.X tg (.Call (.Name "range" p) [a] [] pos) (tI c kp kpb .rng1 (evBs c.G [ma])) := by
  refine ⟨fun pins s σ H R I q => (pi_range1 hg hm (pa_cons ha pa_nil (noStar hs)) (noStar hs)).run pins s σ H R I ?_⟩
  obtain ⟨F, tl, s', r⟩ := q
  refine a_b1 ha hs k1 s' r fun F1 H1 tl1 d rf v s1 st1 h1 o1 r1 => ?_
  obtain ⟨xs, e, q⟩ := r1
  cases d with
  | int j =>
    have e : (if big j then some (rng 0 1 j.toNat) else none) = some xs := e
    split at e
    · cases e
      obtain rfl := at_int s1 h1
      obtain ⟨b1, b2⟩ := big_ok (i := j) (by assumption)
      exact ⟨j, rfl, b1, b2, q _ walk_rng⟩
    · cases e
  | _ => cases e
theorem i_rng2 {a b tg : Expr} {ma mb : E} {p pos : Pos} {kpc : Nat → Prop} (hg : Gl c.X "range") (hm : c.X.mg "range" = none) (ha : PE c.X a (tB c kpa (plS ma) (bB c ma))) (hb : PE c.X b (tB c kpc (plS mb) (bB c mb))) (hs : isStar a = false) (hs2 : isStar b = false) (k1 : ∀ i, kp i → kpa i) (k2 : ∀ i, kp i → kpc i) (hp : ∀ i, plS ma = some i → kpc i) :
    PI c.X tg (.Call (.Name "range" p) [a, b] [] pos) (tI c kp kpb .rng2 (evBs c.G [ma, mb])) := by
  refine ⟨fun pins s σ H R I q => (pi_range2 hg hm (pa_cons ha (pa_cons hb pa_nil (noStar hs2)) (noStar hs)) (by rw [noStar hs, noStar hs2]; rfl) (noStar hs2)).run pins s σ H R I ?_⟩
  obtain ⟨F, tl, s', r⟩ := q
  refine a_b2 ha hb k1 k2 hp s' r fun F1 H1 tl1 d d' rf rf' v v' s1 h1 h2 _ _ r1 => ?_
  obtain ⟨xs, e, q⟩ := r1
  cases d with
  | int i => cases d' with
    | int j =>
      have e : (if big i && big j then some (rng i 1 (j - i).toNat) else none) = some xs := e
      split at e
      · cases e
        rename_i hb
        obtain ⟨b1, b2⟩ := Bool.and_eq_true_iff.mp hb
        obtain rfl := at_int s1 h1
        obtain rfl := at_int s1 h2
        exact ⟨i, j, rfl, ⟨(big_ok b1).1, (big_ok b1).2, (big_ok b2).1, (big_ok b2).2⟩, q _ walk_rng⟩
      · cases e
    | _ => cases e
  | _ => cases d' <;> cases e
theorem i_rev {a tg : Expr} {ma : E} {p pos : Pos} (fx : Fx c) (hg : Gl c.X "reversed") (hm : c.X.mg "reversed" = none) (ha : PE c.X a (tB c kpa (plS ma) (bB c ma))) (hs : isStar a = false) (k1 : ∀ i, kp i → kpa i) (hp : ∀ i, plS ma = some i → kpb i) : PI c.X tg (.Call (.Name "reversed" p) [a] [] pos) (tI c kp kpb .rev (evBs c.G [ma])) := by
  refine ⟨fun pins s σ H R I q => (pi_reversed hg hm (pa_cons ha pa_nil (noStar hs)) (noStar hs)).run pins s σ H R I ?_⟩
  obtain ⟨F, tl, s', r⟩ := q
  refine a_b1 ha hs k1 s' r fun F1 H1 tl1 d rf v s1 st1 h1 o1 r1 => ?_
  obtain ⟨xs, e, q⟩ := r1
  cases d with
  | lst ds =>
    cases e
    obtain ⟨p, vs, rfl, h2, h3⟩ := at_lst s1 h1
    rw [fx.hK] at h2
    refine ⟨p, vs, rfl, h2, q _ fun F2 tl2 σ2 H2 s2 st2 => ?_⟩
    obtain ⟨p', vs', e', h4, h5⟩ := at_lst s2 (Rf.later h1 st2 (Nat.le_refl _) o1 hp)
    cases e'
    rw [fx.hK] at h4
    have l1 := RepDs.length h3
    have l2 := RepDs.length h5
    have l3 : ds.reverse.length = ds.length := List.length_reverse
    refine ⟨fun i hi => ?_, (show vs.length ≤ _ by omega)⟩
    rw [l3] at hi
    obtain ⟨d, v, g1, g2, g3⟩ := rep_at h5 (i := ds.length - 1 - i) (by omega)
    refine ⟨⟨by omega, vs', v, h4, by rw [← l1]; exact g2⟩, fun x H' y => ?_⟩
    obtain ⟨rfl, y⟩ := y
    have := y vs' h4
    rw [← l1, g2] at this
    cases this
    refine ⟨F2, d, ?_, s2, g3⟩
    rw [List.getElem?_reverse (by omega)]
    exact g1
  | _ => cases e
/-- a new pair of values -/
theorem pair_new {F2 : Fz} {tl2 : Ld} {σ2 : L2.St} {H2 : Hp} {T0 : Addr} {d1 d2 : D} {x y : V} (s : Sim c F2 tl2 σ2 H2) (hT : H2 T0 = none) (h1 : RepD c.S F2 H2 d1 x) (h2 : RepD c.S F2 H2 d2 y) :
    Sim c (addF F2 (· = T0)) tl2 σ2 (upd H2 T0 (.tup [x, y])) ∧ RepD c.S (addF F2 (· = T0)) (upd H2 T0 (.tup [x, y])) (.tup [d1, d2]) (.ref T0) := by
  refine ⟨s.newF hT, T0, [x, y], rfl, .inl ⟨.inr rfl, .inl upd_same⟩, ?_⟩
  exact ⟨x, [y], rfl, RepD.mono (s.extF hT) _ _ h1, y, [], rfl, RepD.mono (s.extF hT) _ _ h2, rfl⟩
theorem enum_get : ∀ (xs : List D) (n i : Nat) (d : D), xs[i]? = some d → (enumD n xs)[i]? = some (.tup [.int ((n + i : Nat) : Int), d])
  | [], _, _, _, h => by
                        simp at h
  | x :: xs, n, 0, d, h => by
    simp at h; subst h
    rfl
  | x :: xs, n, i + 1, d, h => by
    have := enum_get xs (n + 1) i d (by simpa using h)
    unfold enumD
    rw [List.getElem?_cons_succ, this]
    have e : n + 1 + i = n + (i + 1) := by omega
    rw [e]
theorem enum_len : ∀ (xs : List D) (n : Nat), (enumD n xs).length = xs.length
  | [], _ => rfl
  | x :: xs, n => by unfold enumD; rw [List.length_cons, enum_len xs, List.length_cons]
theorem i_enum {a : Expr} {ma : E} {p pos tpos : Pos} {elts : List Expr} {kk : Nat} (fx : Fx c) (hg : Gl c.X "enumerate") (hm : c.X.mg "enumerate" = none) (ha : PE c.X a (tB c kpa (plS ma) (bB c ma))) (hs : isStar a = false) (k1 : ∀ i, kp i → kpa i) (hp : ∀ i, plS ma = some i → kpb i) : PI c.X (.Tuple elts kk tpos) (.Call (.Name "enumerate" p) [a] [] pos) (tI c kp kpb .enum (evBs c.G [ma])) := by
  refine ⟨fun pins s σ H R I q => (pi_enum hg hm (pa_cons ha pa_nil (noStar hs)) (noStar hs)).run pins s σ H R I ?_⟩
  obtain ⟨F, tl, s', r⟩ := q
  refine a_b1 ha hs k1 s' r fun F1 H1 tl1 d rf v s1 st1 h1 o1 r1 => ?_
  obtain ⟨xs, e, q⟩ := r1
  cases d with
  | lst ds =>
    cases e
    obtain ⟨p, vs, rfl, h2, h3⟩ := at_lst s1 h1
    rw [fx.hK] at h2
    refine ⟨p, vs, rfl, h2, q _ fun F2 tl2 σ2 H2 s2 st2 => ?_⟩
    obtain ⟨p', vs', e', h4, h5⟩ := at_lst s2 (Rf.later h1 st2 (Nat.le_refl _) o1 hp)
    cases e'
    rw [fx.hK] at h4
    rw [enum_len]
    refine ⟨fun i hi => ?_, vs', h4, by rw [RepDs.length h5]; exact Nat.le_refl _⟩
    obtain ⟨d, v, g1, g2, g3⟩ := rep_at h5 hi
    refine ⟨⟨vs', v, h4, g2⟩, fun x H' y => ?_⟩
    obtain ⟨T0, w, rfl, hT, rfl, y⟩ := y
    have := y vs' h4
    rw [g2] at this
    cases this
    obtain ⟨s3, r3⟩ := pair_new s2 hT (d1 := .int (i : Nat)) (x := .int (i : Nat)) rfl g3
    refine ⟨_, _, enum_get ds 0 i d g1, s3, ?_⟩
    rw [Nat.zero_add]
    exact r3
  | _ => cases e
theorem zip_get : ∀ (xs ys : List D) (i : Nat) (d e : D), xs[i]? = some d → ys[i]? = some e → (zipD xs ys)[i]? = some (.tup [d, e])
  | [], _, _, _, _, h, _ => by
                              simp at h
  | x :: xs, [], _, _, _, _, h => by simp at h
  | x :: xs, y :: ys, 0, d, e, h, h' => by
    simp at h h'; subst h; subst h'
    rfl
  | x :: xs, y :: ys, i + 1, d, e, h, h' => zip_get xs ys i d e (by simpa using h) (by simpa using h')
theorem zip_len : ∀ (xs ys : List D), xs.length = ys.length → (zipD xs ys).length = xs.length
  | [], _, _ => rfl
  | x :: xs, [], h => by cases h
  | x :: xs, y :: ys, h => by unfold zipD; rw [List.length_cons, zip_len xs ys (Nat.succ.inj h), List.length_cons]
theorem i_zip {a b : Expr} {ma mb : E} {p pos tpos : Pos} {elts : List Expr} {kk : Nat} {kpc : Nat → Prop} (fx : Fx c) (hg : Gl c.X "zip") (hm : c.X.mg "zip" = none) (ha : PE c.X a (tB c kpa (plS ma) (bB c ma))) (hb : PE c.X b (tB c kpc (plS mb) (bB c mb))) (hs : isStar a = false) (hs2 : isStar b = false) (k1 : ∀ i, kp i → kpa i) (k2 : ∀ i, kp i → kpc i) (hp : ∀ i, plS ma = some i → kpc i)
    (hq : ∀ i, plS ma = some i → kpb i) (hq2 : ∀ i, plS mb = some i → kpb i) : PI c.X (.Tuple elts kk tpos) (.Call (.Name "zip" p) [a, b] [] pos) (tI c kp kpb .zip (evBs c.G [ma, mb])) := by
  refine ⟨fun pins s σ H R I q => (pi_zip hg hm (pa_cons ha (pa_cons hb pa_nil (noStar hs2)) (noStar hs)) (noStar hs) (by rw [noStar hs2]; rfl)).run pins s σ H R I ?_⟩
  obtain ⟨F, tl, s', r⟩ := q
  refine a_b2 ha hb k1 k2 hp s' r fun F1 H1 tl1 d d' rf rf' v v' s1 h1 h2 o1 o2 r1 => ?_
  obtain ⟨xs, e, q⟩ := r1
  cases d with
  | lst ds => cases d' with
    | lst es =>
      have e : (if ds.length = es.length then some (zipD ds es) else none) = some xs := e
      split at e
      · cases e
        rename_i hl
        obtain ⟨p, vs, rfl, h3, h4⟩ := at_lst s1 h1
        obtain ⟨p2, ws, rfl, h5, h6⟩ := at_lst s1 h2
        rw [fx.hK] at h3 h5
        refine ⟨p, p2, vs, ws, rfl, h3, h5, q _ fun F2 tl2 σ2 H2 s2 st2 => ?_⟩
        obtain ⟨p', vs', e', g1, g2⟩ := at_lst s2 (Rf.later h1 st2 (Nat.le_refl _) o1 hq)
        cases e'
        obtain ⟨p', ws', e', g3, g4⟩ := at_lst s2 (Rf.later h2 st2 (Nat.le_refl _) o2 hq2)
        cases e'
        rw [fx.hK] at g1 g3
        rw [zip_len _ _ hl]
        refine ⟨fun i hi => ?_, vs', ws', g1, g3, .inl (by rw [RepDs.length g2]; exact Nat.le_refl _)⟩
        obtain ⟨d, v, a1, a2, a3⟩ := rep_at g2 hi
        obtain ⟨e, w, b1, b2, b3⟩ := rep_at g4 (i := i) (by omega)
        refine ⟨⟨vs', ws', v, w, g1, g3, a2, b2⟩, fun x H' y => ?_⟩
        obtain ⟨T0, x1, x2, rfl, hT, rfl, y1, y2⟩ := y
        have z1 := y1 vs' g1
        have z2 := y2 ws' g3
        rw [a2] at z1
        rw [b2] at z2
        cases z1
        cases z2
        obtain ⟨s3, r3⟩ := pair_new s2 hT a3 b3
        exact ⟨_, _, zip_get ds es i d e a1 b1, s3, r3⟩
      · cases e
    | _ => cases e
  | _ => cases d' <;> cases e
end
end VE

namespace VE
open PySem PySem.Spec
                     PyProof.Rows L2

def getL (tl : Ld) (v : Nat) : Option T := match tl[v]? with
  | some o => o
  | none => none
/-- own slots are put aside -/
def stash (tl : Ld) : List Nat → Ld
  | [] => tl
  | v :: vs => (stash tl vs).set v none ++ [getL (stash tl vs) v]
def unst (base : Nat) (tl2 : Ld) : List Nat → Ld
  | [] => tl2
  | v :: vs => ((unst base tl2 vs).set v (getL (unst base tl2 vs) (base + vs.length))).set (base + vs.length) none
section
variable {S : Sta} {am : Amb} {F : Fz} {H : Hp} {tl tl2 : Ld} {base : Nat}
theorem stash_len : ∀ vs : List Nat, (stash tl vs).length = tl.length + vs.length
  | [] => rfl
  | v :: vs => by unfold stash; rw [List.length_append, List.length_set, stash_len vs]; simp; omega
theorem unst_len : ∀ vs : List Nat, (unst base tl2 vs).length = tl2.length
  | [] => rfl
  | v :: vs => by unfold unst; rw [List.length_set, List.length_set, unst_len vs]
theorem getL_some {v : Nat} {o : Option T} (h : tl[v]? = some o) : getL tl v = o := by unfold getL; rw [h]
theorem get_getL {l : Ld} {i : Nat} (h : i < l.length) : l[i]? = some (getL l i) := by
  have z : l[i]? = some l[i] := by simp [h]
  rw [z]; unfold getL; rw [z]
theorem stash_low {i : Nat} (hi : i < tl.length) : ∀ {vs : List Nat}, i ∉ vs → (stash tl vs)[i]? = tl[i]?
  | [], _ => rfl
  | v :: vs, h => by
    have h1 : v ≠ i := fun q => h (by rw [q]; exact List.mem_cons_self)
    have h2 : i ∉ vs := fun q => h (List.mem_cons_of_mem _ q)
    unfold stash
    rw [List.getElem?_append_left (by rw [List.length_set, stash_len]; omega), List.getElem?_set_ne h1]
    exact stash_low hi h2
theorem stash_own {i : Nat} (hi : i < tl.length) : ∀ {vs : List Nat}, i ∈ vs → (stash tl vs)[i]? = some none
  | [], h => by simp at h
  | v :: vs, h => by
    unfold stash
    rw [List.getElem?_append_left (by rw [List.length_set, stash_len]; omega)]
    by_cases q : v = i
    · subst q
      rw [List.getElem?_set_self (by rw [stash_len]; omega)]
    · rw [List.getElem?_set_ne q]
      rcases List.mem_cons.mp
                             h with z | z
      · exact absurd z.symm q
      · exact stash_own hi z
/-- what was put aside: v, by its place from the end -/
theorem stash_tmp : ∀ {vs : List Nat}, vs.Nodup → (∀ v ∈ vs, v < tl.length) → ∀ (pre suf : List Nat) (v : Nat), vs = pre ++ v :: suf → (stash tl vs)[tl.length + suf.length]? = some (getL tl v)
  | [], _, _, pre, suf, v, h => by simp at h
  | w :: vs, nd, hb, pre, suf, v, h => by
    have hw := hb w List.mem_cons_self
    unfold stash
    cases pre with
    | nil =>
      injection h with h1 h2
      subst h1; subst h2
      rw [List.getElem?_append_right (by rw [List.length_set, stash_len]; omega), List.length_set, stash_len]
      simp only [Nat.sub_self, List.getElem?_cons_zero]
      congr 1
      exact getL_some ((stash_low hw (List.nodup_cons.mp nd).1).trans (by
        have : tl[w]? = some (tl[w]) := by simp [hw]
        rw [this]
        unfold getL
        rw [this]))
    | cons p pre =>
      injection h with h1 h2
      have hlen : suf.length < vs.length := by rw [h2]; simp; omega
      rw [List.getElem?_append_left (by rw [List.length_set, stash_len]; omega), List.getElem?_set_ne (by omega)]
      exact stash_tmp (List.nodup_cons.mp nd).2 (fun u hu => hb u (List.mem_cons_of_mem _ hu)) pre suf v h2
theorem Good.stash (g : Good S am F H tl) : ∀ (vs : List Nat), (∀ v ∈ vs, v < tl.length) → Good S am F H (stash tl vs)
  | [], _ => g
  | v :: vs, hb => by
    have hv := hb v List.mem_cons_self
    have ih := Good.stash g vs fun u hu => hb u (List.mem_cons_of_mem _ hu)
    have g1 : Good S am F H (VE.stash tl vs ++ [none]) := ih.sel id (fun i t e => by
      by_cases q : i < (VE.stash tl vs).length
      · rw [List.getElem?_append_left q] at e; exact e
      · rw [List.getElem?_append_right (by omega)] at e
        cases z : i - (VE.stash tl vs).length with
        | zero => rw [z] at e; cases e
        | succ k => rw [z] at e; simp at e) fun _ _ _ _ _ _ q => q
    have hl := stash_len (tl := tl) vs
    have hv2 : v < (VE.stash tl vs).length := by omega
    have e0 : (VE.stash tl vs)[v]? = some (getL (VE.stash tl vs) v) := by
      have z : (VE.stash tl vs)[v]? = some (VE.stash tl vs)[v] := by simp [hv2]
      rw [z]; unfold getL; rw [z]
    have g2 := g1.move (i := (VE.stash tl vs).length) (j := v) (o := getL (VE.stash tl vs) v) (by rw [List.getElem?_append_left hv2]; exact e0) (by omega)
    have e2 : ((VE.stash tl vs ++ [none]).set (VE.stash tl vs).length (getL (VE.stash tl vs) v)).set v none = VE.stash tl (v :: vs) := by
      show _ = (VE.stash tl vs).set v none ++ [getL (VE.stash tl vs) v]
      rw [List.set_append_right _ _ (Nat.le_refl _), Nat.sub_self, List.set_cons_zero, List.set_append_left _ _ hv2]
    rw [e2] at g2
    exact g2
theorem Good.unst (g : Good S am F H tl2) : ∀ (vs : List Nat), (∀ v ∈ vs, v < base) → base + vs.length ≤ tl2.length → Good S am F H (unst base tl2 vs)
  | [], _, _ => g
  | v :: vs, hb, hl => by
    have hv := hb v List.mem_cons_self
    have ih := Good.unst g vs (fun u hu => hb u (List.mem_cons_of_mem _ hu)) (by simp at hl; omega)
    have hl2 := unst_len (base := base) (tl2 := tl2) vs
    have e0 : (VE.unst base tl2 vs)[base + vs.length]? = some (getL (VE.unst base tl2 vs) (base + vs.length)) := get_getL (by simp at hl; omega)
    exact ih.move e0 (by omega)
theorem unst_get {i : Nat} : ∀ {vs : List Nat}, vs.Nodup → (∀ v ∈ vs, v < base) → base + vs.length ≤ tl2.length → (i < base → i ∉ vs → (unst base tl2 vs)[i]? = tl2[i]?) ∧ (base + vs.length ≤ i → (unst base tl2 vs)[i]? = tl2[i]?) ∧ (base ≤ i → i < base + vs.length → (unst base tl2 vs)[i]? = some none) ∧
    ∀ (pre suf : List Nat), vs = pre ++ i :: suf → (unst base tl2 vs)[i]? = some (getL tl2 (base + suf.length))
  | [], _, _, _ => ⟨fun _ _ => rfl, fun _ => rfl, fun h1 h2 => by simp at h2; omega, fun pre suf h => by simp at h⟩
  | v :: vs, nd', hb, hl => by
    have hv := hb v List.mem_cons_self
    obtain ⟨nv, nd2⟩ := List.nodup_cons.mp nd'
    simp only [List.length_cons] at hl
    obtain ⟨a1, a2, a3, a4⟩ := unst_get (i := i) nd2 (fun u hu => hb u (List.mem_cons_of_mem _ hu)) (by omega)
    have hl2 := unst_len (base := base) (tl2 := tl2) vs
    refine ⟨fun h1 h2 => ?_, fun h1 => ?_, fun h1 h2 => ?_, fun pre suf h => ?_⟩
    · unfold VE.unst
      rw [List.getElem?_set_ne (by omega), List.getElem?_set_ne (fun q => h2 (by rw [q]; exact List.mem_cons_self))]
      exact a1 h1 fun q => h2 (List.mem_cons_of_mem _ q)
    · simp only [List.length_cons] at h1
      unfold VE.unst
      rw [List.getElem?_set_ne (by omega), List.getElem?_set_ne (by omega)]
      exact a2 (by omega)
    · simp only [List.length_cons] at h2
      unfold VE.unst
      by_cases q : base + vs.length = i
      · rw [← q, List.getElem?_set_self (by rw [List.length_set]; omega)]
      · rw [List.getElem?_set_ne q, List.getElem?_set_ne (by omega)]
        exact a3 h1 (by omega)
    · unfold VE.unst
      cases pre with
      | nil =>
        injection h with h1 h2
        subst h1; subst h2
        rw [List.getElem?_set_ne (by omega), List.getElem?_set_self (by omega)]
        congr 1
        unfold getL
        rw [(unst_get (i := base + vs.length) nd2 (fun u hu => hb u (List.mem_cons_of_mem _ hu)) (by omega)).2.1 (Nat.le_refl _)]
      | cons p pre =>
        injection h with h1 h2
        subst h1
        have him : i ∈ vs := by rw [h2]; simp
        have hib := hb i (List.mem_cons_of_mem _ him)
        rw [List.getElem?_set_ne (by omega), List.getElem?_set_ne (fun q => nv (by rw [q]; exact him))]
        exact a4 pre suf h2
end

section
variable {c : Cc} {kp kq : Nat → Prop} {F : Fz} {H : Hp} {tl tl2 : Ld} {σ : L2.St} {vs : List Nat}
theorem era_app {n : Nat} {l r : Ld} (h : n ≤ l.length) : era n (l ++ r) = era n l := by
  unfold era
  rw [List.take_append_of_le_length h]
theorem era_stash (hn : c.n ≤ tl.length) : ∀ vs : List Nat, era c.n (stash tl vs) = wipeE (era c.n tl) vs
  | [] => rfl
  | v :: vs => by
    unfold stash wipeE
    rw [era_app (by rw [List.length_set, stash_len]; omega), era_set', era_stash hn vs]
    rfl
theorem Sim.stash (s : Sim c F tl σ H) (hb : ∀ v ∈ vs, v < c.n) (hv : ∀ v ∈ vs, c.lv v = none) : Sim c F (stash tl vs) (wipe σ vs) H where
  g := s.g.stash vs fun v h => Nat.lt_of_lt_of_le (hb v h) s.len
  len := by rw [stash_len]; have := s.len; omega
  sl := fun i t hi e => by
    have hl : i < tl.length := Nat.lt_of_lt_of_le hi s.len
    by_cases h : i ∈ vs
    · rw [stash_own hl h] at e; cases e
    · rw [stash_low hl h] at e
      rw [wipe_out h]
      exact s.sl i t hi e
  lo := fun i v e => by
    obtain ⟨h0, t, h1, h2⟩ := s.lo i v e
    have h : i ∉ vs := fun q => by rw [hv i q] at e; cases e
    exact ⟨h0, t, by rw [stash_low (lt_of h1) h]; exact h1, h2⟩
  xe := s.xe
  ln := by rw [wipe_length]; exact s.ln
theorem Stp.stash (hn : c.n ≤ tl.length) (hb : ∀ v ∈ vs, v < c.n) (hk : ∀ i, kp i → i ∉ vs) : Stp c.n kp tl (stash tl vs) :=
  ⟨by rw [stash_len]; omega, fun i h1 h2 => stash_low h2 fun q => by have := hb i q; omega, fun i h1 h2 => stash_low (by omega) (hk i h2)⟩
theorem split_of {i : Nat} : ∀ {vs : List Nat}, i ∈ vs → ∃ pre suf, vs = pre ++ i :: suf
  | [], h => by simp at h
  | v :: vs, h => by
    rcases List.mem_cons.mp
                           h with q | q
    · exact ⟨[], vs, by rw [q]; rfl⟩
    · obtain ⟨p, s, e⟩ := split_of q
      exact ⟨v :: p, s, by rw [e]; rfl⟩
theorem unst_own (s : c.n ≤ tl.length) (nd : vs.Nodup) (hb : ∀ v ∈ vs, v < c.n) (st : Stp c.n kq (VE.stash tl vs) tl2) {i : Nat} (hi : i ∈ vs) : (unst tl.length tl2 vs)[i]? = some (getL tl i) := by
  obtain ⟨pre, suf, e⟩ := split_of hi
  have hl := st.len
  rw [stash_len] at hl
  have hb' : ∀ v ∈ vs, v < tl.length := fun v h => Nat.lt_of_lt_of_le (hb v h) s
  have hs : suf.length < vs.length := by rw [e]; simp; omega
  rw [(unst_get (i := i) nd hb' hl).2.2.2 pre suf e]
  congr 1
  have q := stash_tmp nd hb' pre suf i e
  exact getL_some ((st.tmp (tl.length + suf.length) (by omega) (by rw [stash_len]; omega)).trans q)
/-- .. and put back -/
theorem Sim.unst (s : Sim c F tl σ H') (s2 : Sim c F2 tl2 (wipe σ vs) H) (st : Stp c.n kq (VE.stash tl vs) tl2) (nd : vs.Nodup) (hb : ∀ v ∈ vs, v < c.n) (hv : ∀ v ∈ vs, c.lv v = none) : Sim c F2 (unst tl.length tl2 vs) σ H := by
  have hl := st.len
  rw [stash_len] at hl
  have hb' : ∀ v ∈ vs, v < tl.length := fun v h => Nat.lt_of_lt_of_le (hb v h) s.len
  refine ⟨s2.g.unst vs hb' hl, by rw [unst_len]; exact s2.len, fun i t hi e => ?_, fun i v e => ?_, s2.xe, s.ln⟩
  · have hil : i < tl.length := Nat.lt_of_lt_of_le hi s.len
    by_cases h : i ∈ vs
    · rw [unst_own s.len nd hb st h] at e
      have e : getL tl i = some t := Option.some.inj e
      exact s.sl i t hi (by rw [get_getL hil, e])
    · rw [(unst_get (i := i) nd hb' hl).1 hil h] at e
      have := s2.sl i t hi e
      rw [wipe_out h] at this
      exact this
  · obtain ⟨h0, t, h1, h2⟩ := s2.lo i v e
    have h : i ∉ vs := fun q => by rw [hv i q] at e; cases e
    exact ⟨h0, t, by rw [(unst_get (i := i) nd hb' hl).1 (Nat.lt_of_lt_of_le h0 s.len) h]; exact h1, h2⟩
theorem Stp.unst (hn : c.n ≤ tl.length) (st : Stp c.n kq (VE.stash tl vs) tl2) (nd : vs.Nodup) (hb : ∀ v ∈ vs, v < c.n) (hk : ∀ i, kp i → i ∉ vs ∧ kq i) : Stp c.n kp tl (unst tl.length tl2 vs) := by
  have hl := st.len
  rw [stash_len] at hl
  have hb' : ∀ v ∈ vs, v < tl.length := fun v h => Nat.lt_of_lt_of_le (hb v h) hn
  refine ⟨by rw [unst_len]; omega, fun i h1 h2 => ?_, fun i h1 h2 => ?_⟩
  · have h : i ∉ vs := fun q => by have := hb i q; omega
    rw [(unst_get (i := i) nd hb' hl).1 h2 h, st.tmp i h1 (by rw [stash_len]; omega), stash_low h2 h]
  · obtain ⟨h, h3⟩ := hk i h2
    rw [(unst_get (i := i) nd hb' hl).1 (by omega) h, st.kep i h1 h3, stash_low (by omega) h]
theorem era_unst (hn : c.n ≤ tl.length) (st : Stp c.n kq (VE.stash tl vs) tl2) (nd : vs.Nodup) (hb : ∀ v ∈ vs, v < c.n) : era c.n (unst tl.length tl2 vs) = restore (era c.n tl) vs (era c.n tl2) := by
  have key : ∀ (ws : List Nat) (pre : List Nat), vs = pre ++ ws → era c.n (VE.unst tl.length tl2 ws) = restore (era c.n tl) ws (era c.n tl2) := by
    intro ws
    induction ws with
    | nil => intro pre _; rfl
    | cons v ws ih =>
      intro pre e
      have hl := st.len
      rw [stash_len] at hl
      have hlen : ws.length < vs.length := by rw [e]; simp; omega
      have hb' : ∀ v ∈ vs, v < tl.length := fun v h => Nat.lt_of_lt_of_le (hb v h) hn
      have hsub : ∀ u ∈ ws, u ∈ vs := fun u hu => by rw [e]; simp [hu]
      have hvm : v ∈ vs := by rw [e]; simp
      have ndw : ws.Nodup := by
        rw [e] at nd
        exact (List.nodup_cons.mp (List.nodup_append.mp nd).2.1).2
      unfold VE.unst restore
      rw [era_set, if_neg (by omega), era_set', ih (pre ++ [v]) (by rw [e]; simp)]
      congr 1
      have q1 : getL (VE.unst tl.length tl2 ws) (tl.length + ws.length) = getL tl v := by
        refine getL_some ?_
        rw [(unst_get (i := tl.length + ws.length) ndw (fun u hu => hb' u (hsub u hu)) (by omega)).2.1 (Nat.le_refl _), st.tmp _ (by omega) (by rw [stash_len]; omega)]
        exact stash_tmp nd hb' pre ws v e
      rw [q1]
      unfold gt
      rw [era_get, if_pos (hb v hvm), get_getL (hb' v hvm)]
      rfl
  exact key vs [] rfl
end
end VE

namespace VE
open PySem PySem.Spec
                     PyProof.Rows L2

/-- the same def, seen from within a block; exceptions are out of reach -/
abbrev Cc.bk (c : Cc) : Cc := { c with W := fun _ _ _ _ => False }
abbrev Cc.at (c : Cc) (X' : Cx) : Cc := { c with X := X' }
theorem Sim.bk {c : Cc} {F : Fz} {tl : Ld} {σ : L2.St} {H : Hp} (s : Sim c F tl σ H) : Sim c.bk F tl σ H := ⟨s.g, s.len, s.sl, s.lo, s.xe, s.ln⟩
theorem Sim.ubk {c : Cc} {F : Fz} {tl : Ld} {σ : L2.St} {H : Hp} (s : Sim c.bk F tl σ H) : Sim c F tl σ H := ⟨s.g, s.len, s.sl, s.lo, s.xe, s.ln⟩
theorem Cc.at_n {c : Cc} {X' : Cx} (h : X'.N = c.X.N) : (c.at X').n = c.n := congrArg List.length h
theorem Sim.at {c : Cc} {X' : Cx} {F : Fz} {tl : Ld} {σ : L2.St} {H : Hp} (h : X'.N = c.X.N) : Sim (c.at X') F tl σ H ↔ Sim c F tl σ H := by
  have e : (c.at X').n = c.n := Cc.at_n h
  constructor
  · intro s
    exact ⟨s.g, by rw [← e]; exact s.len, fun i t hi => s.sl i t (by rw [e]; exact hi), fun i v q => by
      obtain ⟨h0, z⟩ := s.lo i v q
      exact ⟨by rw [← e]; exact h0, z⟩, s.xe, by rw [← e]; exact s.ln⟩
  · intro s
    exact ⟨s.g, by rw [e]; exact s.len, fun i t hi => s.sl i t (by rw [← e]; exact hi), fun i v q => by
      obtain ⟨h0, z⟩ := s.lo i v q
      exact ⟨by rw [e]; exact h0, z⟩, s.xe, by rw [e]; exact s.ln⟩
theorem OnX.at {c : Cc} {X' : Cx} {tl : Ld} {σ : L2.St} {x : VE.X} {env : Env} (h : X'.N = c.X.N) (q : OnX c σ tl x env) : OnX (c.at X') σ tl x env := fun F' H' tl' d s st e ex => by
  have e0 : (c.at X').n = c.n := Cc.at_n h
  exact q F' H' tl' d ((Sim.at h).mp s) (by rw [← e0]; exact st) (by rw [← e0]; exact e) ex
theorem RunK.at {α : Type} {c : Cc} {X' : Cx} {kp : Nat → Prop} {tl : Ld} {σ : L2.St} {r : Out α} {K : α → Fz → Hp → Ld → Prop} (h : X'.N = c.X.N) (q : RunK c kp σ tl r K) : RunK (c.at X') kp σ tl r K := by
  have e0 : (c.at X').n = c.n := Cc.at_n h
  cases r with
  | ok a env => exact fun F' H' tl' s st e => q F' H' tl' ((Sim.at h).mp s) (by rw [← e0]; exact st) (by rw [← e0]; exact e)
  | exc x env => exact OnX.at h q
  | bad => exact q
theorem tD_at {c : Cc} {X' : Cx} {kp : Nat → Prop} {m : Env → Out D} {σ : L2.St} {H : Hp} {Q : VK} (h : X'.N = c.X.N) (q : tD c kp m σ H Q) : tD (c.at X') kp m σ H Q := by
  obtain ⟨F, tl, s, r⟩ := q
  exact ⟨F, tl, (Sim.at h).mpr s, by rw [Cc.at_n h]; exact RunK.at h r⟩
theorem tE_at {c : Cc} {X' : Cx} {kp : Nat → Prop} {m : Env → Out O} {σ : L2.St} {H : Hp} {Q : VK} (h : X'.N = c.X.N) (q : tE c kp m σ H Q) : tE (c.at X') kp m σ H Q := by
  obtain ⟨F, tl, s, r⟩ := q
  exact ⟨F, tl, (Sim.at h).mpr s, RunK.o (by rw [Cc.at_n h]; exact RunK.at h (RunO.k r))⟩
def wipeL (tl : Ld) : List Nat → Ld
  | [] => tl
  | v :: vs => (wipeL tl vs).set v none
section
variable {c : Cc} {kp kq ke : Nat → Prop} {F : Fz} {H : Hp} {tl tl2 : Ld} {σ : L2.St} {vs : List Nat}
theorem wipeL_len : ∀ vs : List Nat, (wipeL tl vs).length = tl.length
  | [] => rfl
  | v :: vs => by unfold wipeL; rw [List.length_set, wipeL_len vs]
theorem wipeL_out {i : Nat} : ∀ {vs : List Nat}, i ∉ vs → (wipeL tl vs)[i]? = tl[i]?
  | [], _ => rfl
  | v :: vs, h => by
    unfold wipeL
    rw [List.getElem?_set_ne fun q => h (by rw [q]; exact List.mem_cons_self)]
    exact wipeL_out fun q => h (List.mem_cons_of_mem _ q)
theorem wipeL_in {i : Nat} {t : T} : ∀ {vs : List Nat}, i ∈ vs → (wipeL tl vs)[i]? ≠ some (some t)
  | [], h => by simp at h
  | v :: vs, h => fun e => by
    unfold wipeL at e
    rcases get_set e with ⟨_, q, _⟩ | ⟨q, q2⟩
    · cases q
    · rcases List.mem_cons.mp h with z | z
      · exact q z
      · exact wipeL_in z q2
theorem era_wipe : ∀ vs : List Nat, era c.n (wipeL tl vs) = wipeE (era c.n tl) vs
  | [] => rfl
  | v :: vs => by unfold wipeL wipeE; rw [era_set', era_wipe vs]; rfl
theorem Sim.wipe (s : Sim c F tl σ H) (hv : ∀ v ∈ vs, c.lv v = none) : Sim c F (wipeL tl vs) (wipe σ vs) H where
  g := s.g.sel id (fun i t e => by
    by_cases h : i ∈ vs
    · exact absurd e (wipeL_in h)
    · rw [wipeL_out h] at e; exact e) fun _ _ _ _ _ _ q => q
  len := by rw [wipeL_len]; exact s.len
  sl := fun i t hi e => by
    by_cases h : i ∈ vs
    · exact absurd e (wipeL_in h)
    · rw [wipeL_out h] at e
      rw [wipe_out h]
      exact s.sl i t hi e
  lo := fun i v e => by
    obtain ⟨h0, t, h1, h2⟩ := s.lo i v e
    have h : i ∉ vs := fun q => by rw [hv i q] at e; cases e
    exact ⟨h0, t, by rw [wipeL_out h]; exact h1, h2⟩
  xe := s.xe
  ln := by rw [wipe_length]; exact s.ln
theorem wipe_in {σ : L2.St} {i : Nat} (hi : i < σ.length) : ∀ {vs : List Nat}, i ∈ vs → (L2.wipe σ vs)[i]? = some none
  | [], h => by simp at h
  | v :: vs, h => by
    unfold L2.wipe
    by_cases q : v = i
    · subst q; rw [List.getElem?_set_self (by rw [wipe_length]; exact hi)]
    · rw [List.getElem?_set_ne q]
      rcases List.mem_cons.mp
                             h with z | z
      · exact absurd z.symm q
      · exact wipe_in hi z
theorem wipe_eq {σ σ' : L2.St} (hl : σ'.length = σ.length) (h : ∀ j, j ∉ vs → σ'[j]? = σ[j]?) : L2.wipe σ' vs = L2.wipe σ vs := by
  refine List.ext_getElem? fun i => ?_
  by_cases hv : i ∈ vs
  · by_cases hi : i < σ.length
    · rw [wipe_in hi hv, wipe_in (by omega) hv]
    · rw [List.getElem?_eq_none (by rw [wipe_length]; omega), List.getElem?_eq_none (by rw [wipe_length]; omega)]
  · rw [wipe_out hv, wipe_out hv, h i hv]
/-- the reading of a condition -/
def tCd (c : Cc) (kp : Nat → Prop) : Option E → TT
  | none => tYes
  | some m => tTest (tE c kp (evO c.G m))
theorem lc_ok (fx : Fx c) {elt : E} {cond : Option E} {t : Tgt} {xs r : List D} {env2 : Env} {J : It} {D0 : Addr} {Q : VK} (s : Sim c F tl σ H) (w : WalkD c kq tl J xs) (hD : H D0 = none) (nd : (tslots t).Nodup) (hb : ∀ v ∈ tslots t, v < c.n) (hv : (tslots t).all (okAsg c.G.lk) = true)
    (k1 : ∀ i, kp i → ke i ∧ i ∉ tslots t) (k2 : ∀ i, kq i → ke i ∧ i ∉ tslots t)
    (e : compGo c.G.lk (fun e => (evO c.G elt e).map O.frz) (evC c.G cond) t xs (wipeE (era c.n tl) (tslots t)) [] = .ok r env2)
    (go : ∀ (F' : Fz) (H' : Hp) (tl' : Ld) (j : Nat), Sim c F' tl' σ H' → Stp c.n kp tl tl' → era c.n tl' = restore (era c.n tl) (tslots t) env2 → tl.length ≤ j → tl'[j]? = some (some (.cell (.lst D0 r))) → Q (.ref D0) H') :
    ∃ W : Nat → Nat → Hp → Prop, (∃ m, W 0 m (upd H D0 (.lst []))) ∧ ∀ i m H, W i m H → (J.stop i H ∧ Q (.ref D0) H) ∨ (J.go i H ∧ ∃ Nx : Hp → Prop, (∀ H', Nx H' → ∃ m', m' < m ∧ W (i + 1) m' H') ∧ ∀ x H', J.yld i H x H' →
      gT c.X.K t x (wipe σ (tslots t)) H' fun σ2 H2 => wipe σ2 (tslots t) = wipe σ (tslots t) ∧ tCd c.bk ke cond σ2 H2 fun b H3 =>
        if b = true then tD c.bk ke (fun e => (evO c.G elt e).map O.frz) σ2 H3 fun y H4 => ∃ acc, H4 D0 = some (.lst acc) ∧ acc.length < sizeLine ∧ Nx (upd H4 D0 (.lst (acc ++ [y]))) else Nx H3) := by
  let vs := tslots t
  have hlv : ∀ v ∈ vs, c.lv v = none := fun v h => fx.free (List.all_eq_true.mp hv v h)
  let jD := (stash tl vs).length
  have hjD : jD = tl.length + vs.length := stash_len vs
  let ke' : Nat → Prop := fun i => ke i ∧ i ∉ vs
  let run : List D → Env → List D → Out (List D) := compGo c.G.lk (fun e => (evO c.G elt e).map O.frz) (evC c.G cond) t
  let Pv : Nat → Hp → Prop := fun i H => ∃ (F2 : Fz) (tl2 : Ld) (acc : List D), Sim c F2 tl2 (wipe σ vs) H ∧ Stp c.n ke' (stash tl vs) tl2 ∧ tl2[jD]? = some (some (.cell (.lst D0 acc))) ∧ run (xs.drop i) (era c.n tl2) acc = .ok r env2
  have s0 := s.stash hb hlv
  have st0 : Stp c.n kq tl (stash tl vs) := Stp.stash s.len hb fun i h => (k2 i h).2
  have P0 : Pv 0 (upd H D0 (.lst [])) := by
    refine ⟨F, stash tl vs ++ [some (.cell (.lst D0 []))], [], s0.newO (x := .lst D0 []) hD rfl ⟨[], upd_same, rfl⟩, Stp.push s0.len, by simp [jD], ?_⟩
    rw [era_push s0.len, era_stash s.len]
    exact e
  -- a turn's end: what was put into the list, the own slots wiped
  have turnEnd : ∀ (i : Nat) (F5 : Fz) (tl5 : Ld) (σ5 : L2.St) (H5 : Hp) (acc : List D), Sim c F5 tl5 σ5 H5 → wipe σ5 vs = wipe σ vs → Stp c.n ke' (stash tl vs) tl5 → tl5[jD]? = some (some (.cell (.lst D0 acc))) → run (xs.drop (i + 1)) (wipeE (era c.n tl5) vs) acc = .ok r env2 → Pv (i + 1) H5 := by
    intro i F5 tl5 σ5 H5 acc s5 ew st5 h5 q
    refine ⟨F5, wipeL tl5 vs, acc, ew ▸ s5.wipe hlv, ⟨by rw [wipeL_len]; exact st5.len, fun i h1 h2 => ?_, fun i h1 h2 => ?_⟩, ?_, by rw [era_wipe]; exact q⟩
    · rw [wipeL_out fun z => by have := hb i z; omega]; exact st5.tmp i h1 h2
    · rw [wipeL_out h2.2]; exact st5.kep i h1 h2
    · rw [wipeL_out fun z => by have := hb jD z; have := s.len; omega]; exact h5
  refine ⟨fun i m H => m = xs.length - i ∧ i ≤ xs.length ∧ Pv i H, ⟨xs.length, by simp, Nat.zero_le _, P0⟩, ?_⟩
  rintro i m H2 ⟨rfl, hi, F2, tl2, acc, s2, st2, h2, q2⟩
  have stw : Stp c.n kq tl tl2 := st0.trans st2 fun i h => ⟨h, k2 i h⟩
  obtain ⟨wgo, wstop⟩ := w F2 tl2 (wipe σ vs) H2 s2 stw
  by_cases hlt : i < xs.length
  · obtain ⟨g1, g2⟩ := wgo i hlt
    refine .inr ⟨g1, Pv (i + 1), fun H' p => ⟨xs.length - (i + 1), by omega, rfl, hlt, p⟩, fun x H' y => ?_⟩
    obtain ⟨F3, d, hd, s3, r3⟩ := g2 x H' y
    have ed : xs.drop i = d :: xs.drop (i + 1) := by
      rw [List.drop_eq_getElem_cons
                                   hlt]
      congr 1
      have := hd
      rw [List.getElem?_eq_getElem hlt] at this
      exact Option.some.inj this
    have q3 : run (d :: xs.drop (i + 1)) (era c.n tl2) acc = .ok r env2 := by rw [← ed]; exact q2
    have q3 : (match asgT c.G.lk t d (era c.n tl2) with
      | none => (Out.bad : Out (List D))
      | some env1 => (evC c.G cond env1).bind fun b env2 => match b with
        | .bl true => ((evO c.G elt env2).map O.frz).bind fun y env3 => if acc.length < sizeLine then run (xs.drop (i + 1)) (wipeE env3 vs) (acc ++ [y]) else .bad
        | .bl false => run (xs.drop (i + 1)) (wipeE env2 vs) acc
        | _ => .bad) = .ok r env2 := q3
    cases ea : asgT c.G.lk t d (era c.n tl2) with
    | none => rw [ea] at q3; cases q3
    | some env1 =>
      rw [ea] at q3
      have q3 : ((evC c.G cond env1).bind fun b env2 => match b with
        | .bl true => ((evO c.G elt env2).map O.frz).bind fun y env3 => if acc.length < sizeLine then run (xs.drop (i + 1)) (wipeE env3 vs) (acc ++ [y]) else .bad
        | .bl false => run (xs.drop (i + 1)) (wipeE env2 vs) acc
        | _ => .bad) = .ok r env2 := q3
      refine asg_t fx (kp := ke') s3 r3 hb ea (fun j hj => hj.2) fun tl4 σ4 s4 st4 e4 e5 => ?_
      have ew : wipe σ4 vs = wipe σ vs := by
        rw [wipe_eq (by rw [s4.ln, wipe_length, s.ln]) e5]
        exact wipe_eq (wipe_length _ _) fun j hj => wipe_out hj
      refine ⟨ew, ?_⟩
      have hjl : jD < tl4.length := by
        have := lt_of h2
        have := st4.len
        omega
      have h4 : tl4[jD]? = some (some (.cell (.lst D0 acc))) := (st4.tmp jD (by have := s.len; omega) (lt_of h2)).trans h2
      have st4' : Stp c.n ke' (stash tl vs) tl4 := st2.trans st4 fun _ z => ⟨z, z⟩
      -- the element
      have elem : ∀ (F5 : Fz) (tl5 : Ld) (H5 : Hp), Sim c F5 tl5 σ4 H5 → Stp c.n ke' (stash tl vs) tl5 → tl5[jD]? = some (some (.cell (.lst D0 acc))) → (((evO c.G elt (era c.n tl5)).map O.frz).bind fun y env3 => if acc.length < sizeLine then run (xs.drop (i + 1)) (wipeE env3 vs) (acc ++ [y]) else .bad) = .ok r env2 →
          tD c.bk ke (fun e => (evO c.G elt e).map O.frz) σ4 H5 fun y H4 => ∃ acc, H4 D0 = some (.lst acc) ∧ acc.length < sizeLine ∧ Pv (i + 1) (upd H4 D0 (.lst (acc ++ [y]))) := by
        intro F5 tl5 H5 s5 st5 h5 q5
        refine ⟨F5, tl5, s5.bk, ?_⟩
        show RunK c.bk ke σ4 tl5 ((evO c.G elt (era c.n tl5)).map O.frz) _
        cases ee : (evO c.G elt (era c.n tl5)).map O.frz with
        | bad => rw [ee] at q5; cases q5
        | exc x env => rw [ee] at q5; cases q5
        | ok y env3 =>
          rw [ee] at q5
          have q5 : (if acc.length < sizeLine then run (xs.drop (i + 1)) (wipeE env3 vs) (acc ++ [y]) else .bad) = .ok r env2 := q5
          split at q5
          · intro F6 H6 tl6 s6 st6 e6 j v hj hv6
            have s6 := s6.ubk
            have h6 : tl6[jD]? = some (some (.cell (.lst D0 acc))) := (st6.tmp jD (by have := s.len; show c.n ≤ jD; omega) (lt_of h5)).trans h5
            obtain ⟨vacc, a1, a2⟩ := (s6.g.ok jD _ h6 : (T.cell (.lst D0 acc)).ok c.S F6 H6)
            have al := RepDs.length a2
            refine ⟨vacc, a1, by omega, ?_⟩
            have nF : ¬ F6 D0 := s6.g.nf jD _ h6 D0 (by simp [T.ads, TC.ads])
            have s7 : Sim c F6 (tl6.set jD (some (.cell (.lst D0 (acc ++ [y]))))) σ4 (upd H6 D0 (.lst (vacc ++ [v]))) := by
              refine s6.write h6 rfl (fun a ha => ha) (by simp [T.ads, TC.ads]) (fun b hb => upd_ne fun z => hb (by rw [z]; simp [T.ads, TC.ads])) ⟨vacc ++ [v], upd_same, ?_⟩
              exact RepDs.app (RepDs.mono (upd_ext nF) _ _ a2) ⟨v, [], rfl, RepD.mono (upd_ext nF) _ _ (s6.rep hv6), rfl⟩
            refine turnEnd i F6 _ σ4 _ (acc ++ [y]) s7 ew ?_ ?_ ?_
            · refine ⟨by rw [List.length_set]; exact Nat.le_trans st5.len st6.len, fun k z1 z2 => ?_, fun k z1 z2 => ?_⟩
              · have : k < jD := z2
                rw [List.getElem?_set_ne (by omega), st6.tmp k z1 (Nat.lt_of_lt_of_le z2 st5.len)]
                exact st5.tmp k z1 z2
              · have : c.n ≤ jD := by have := s.len; omega
                rw [List.getElem?_set_ne (by omega), st6.kep k z1 z2.1]
                exact st5.kep k z1 z2
            · rw [List.getElem?_set_self (lt_of h6)]
            · rw [era_set, if_neg (by have := s.len; omega)]
              have e6 : era c.n tl6 = env3 := e6
              rw [e6]
              exact q5
          · cases q5
      cases cond with
      | none =>
        have q3 : (((evO c.G elt env1).map O.frz).bind fun y env3 => if acc.length < sizeLine then run (xs.drop (i + 1)) (wipeE env3 vs) (acc ++ [y]) else .bad) = .ok r env2 := by
          unfold evC at q3
          exact q3
        have q := elem F3 tl4 H' s4 st4' h4 (by rw [e4]; exact q3)
        simp only [tCd, tYes, if_true]
        exact q
      | some mc =>
        unfold evC at q3
        refine ⟨F3, tl4, s4.bk, ?_⟩
        show RunO c.bk ke σ4 tl4 (evO c.G mc (era c.n tl4)) _
        rw [e4]
        cases ec : evO c.G mc env1 with
        | bad => rw [ec] at q3; cases q3
        | exc x env => rw [ec] at q3; cases q3
        | ok o env3 =>
          rw [ec] at q3
          intro F6 H6 tl6 j6 t6 s6 st6 e6 hj6 ht6 ho6
          have s6 := s6.ubk
          have e6 : era c.n tl6 = env3 := e6
          have st6' : Stp c.n ke' (stash tl vs) tl6 := st4'.trans st6 fun _ z => ⟨z, z.1⟩
          have h6 : tl6[jD]? = some (some (.cell (.lst D0 acc))) := (st6.tmp jD (by have := s.len; show c.n ≤ jD; omega) (lt_of h4)).trans h4
          have q3 : (match o.frz with
            | .bl true => ((evO c.G elt env3).map O.frz).bind fun y env3 => if acc.length < sizeLine then run (xs.drop (i + 1)) (wipeE env3 vs) (acc ++ [y]) else .bad
            | .bl false => run (xs.drop (i + 1)) (wipeE env3 vs) acc
            | _ => .bad) = .ok r env2 := q3
          cases eo : o.frz with
          | bl b =>
            rw [eo] at q3
            have hv6 := bl_of s6 ht6 (by rw [ho6]; exact eo)
            refine ⟨b, hv6, ?_⟩
            cases b with
            | true =>
              rw [if_pos rfl]
              exact elem F6 tl6 H6 s6 st6' h6 (by rw [e6]; exact q3)
            | false =>
              rw [if_neg (by simp)]
              exact turnEnd i F6 tl6 σ4 H6 acc s6 ew st6' h6 (by rw [e6]; exact q3)
          | _ => rw [eo] at q3; cases q3
  · have ei : i = xs.length := by omega
    subst ei
    refine .inl ⟨wstop, ?_⟩
    rw [List.drop_length] at q2
    have q2 : (Out.ok acc (era c.n tl2) : Out (List D)) = .ok r env2 := q2
    injection q2 with q3 q4
    subst q3
    have hl := st2.len
    rw [stash_len] at hl
    refine go F2 H2 (unst tl.length tl2 vs) jD (s.unst s2 st2 nd hb hlv) (Stp.unst s.len st2 nd hb fun i h => ⟨(k1 i h).2, k1 i h⟩) ?_ (by omega) ?_
    · rw [era_unst s.len st2 nd hb, q4]
    · rw [(unst_get (i := jD) nd (fun v h => Nat.lt_of_lt_of_le (hb v h) s.len) hl).2.1 (show tl.length + vs.length ≤ jD by omega)]
      exact h2
/-- the reading of a comprehension -/
theorem rd_comp (fx : Fx c) {elt : E} {cond : Option E} {t : Tgt} {ik : ItK} {its : List E} (hl : lockS ik its = some none) (nd : (tslots t).Nodup) (hb : ∀ v ∈ tslots t, v < c.n) (hv : (tslots t).all (okAsg c.G.lk) = true) {ki : Nat → Prop}
    (k0 : ∀ i, kp i → ki i) (k1 : ∀ i, kp i → ke i ∧ i ∉ tslots t) (k2 : ∀ i, kq i → ke i ∧ i ∉ tslots t) : ∀ σ H Q, tE c kp (evO c.G (.comp elt t ik its cond)) σ H Q → tLc (tI c ki kq ik (evBs c.G its)) (gT c.X.K t) (tCd c.bk ke cond) (tD c.bk ke (fun e => (evO c.G elt e).map O.frz)) (tslots t) σ H Q := by
  rintro σ H Q ⟨F, tl, s, r⟩
  unfold evO at r
  refine ⟨F, tl, s, (RunK.bind (RunO.k r)).less k0 |>.imp fun ds F1 H1 tl1 s1 st1 r1 => ?_⟩
  have r1 := RunK.oAt r1 st1.len
  cases e1 : itD ik ds with
  | none => rw [e1] at r1; exact r1.elim
  | some xs =>
    rw [e1, hl] at r1
    refine ⟨xs, rfl, fun J w D0 hD => ?_⟩
    have r1 : RunO c kp σ tl1 ((noX (compGo c.G.lk (fun e => (evO c.G elt e).map O.frz) (evC c.G cond) t xs (wipeE (era c.n tl1) (tslots t)) [])).bind fun r env2 => .ok (.cell (.lst r)) (restore (era c.n tl1) (tslots t) env2)) Q := r1
    cases e2 : compGo c.G.lk (fun e => (evO c.G elt e).map O.frz) (evC c.G cond) t xs (wipeE (era c.n tl1) (tslots t)) [] with
    | bad => rw [e2] at r1; exact r1.elim
    | exc x env => rw [e2] at r1; exact r1.elim
    | ok rr env2 =>
      rw [e2] at r1
      have r1 : RunO c kp σ tl1 (.ok (.cell (.lst rr)) (restore (era c.n tl1) (tslots t) env2)) Q := r1
      exact lc_ok fx s1 w hD nd hb hv k1 k2 e2 fun F' H' tl' j s' st' e' hj ht => r1 F' H' tl' j _ s' st' e' hj ht rfl
/-- a block of the def -/
def IsBlk (X : Cx) (scope : Scope) (X' : Cx) : Prop := ∃ (s : Shared) (H : Hp) (C : Addr) (cl : List (Str × Addr)) (fp : List Addr), X' = X.blk s H scope (compEnvC scope cl C X.env) fp
theorem IsBlk.N {X X' : Cx} {scope : Scope} (h : IsBlk X scope X') : X'.N = X.N := by
  obtain ⟨s, H, C, cl, fp, rfl⟩ := h; rfl
/-- the parts of a comprehension, judged in the block -/
structure CompP (c : Cc) (ke : Nat → Prop) (scope : Scope) (elt tg : Expr) (ifs : List Expr) (melt : E) (t : Tgt) (cond : Option E) : Prop where
  hg : ∀ X', IsBlk c.X scope X' → PG X' tg (gT X'.K t)
  hc : ∀ X', IsBlk c.X scope X' → PTs X' ifs (tCd (c.bk.at X') ke cond)
  he : ∀ X', IsBlk c.X scope X' → PE X' elt (tE (c.bk.at X') ke (evO c.G melt))
theorem PTs.imp {X : Cx} {e : List Expr} {t t' : TT} (h : PTs X e t) (i : ∀ σ H Q, t' σ H Q → t σ H Q) : PTs X e t' := ⟨fun pins s σ H Q I q => h.run pins s σ H Q I (i σ H Q q)⟩
theorem CompP.ct {scope : Scope} {elt tg : Expr} {ifs : List Expr} {melt : E} {t : Tgt} {cond : Option E} (p : CompP c ke scope elt tg ifs melt t cond) : ∀ X', IsBlk c.X scope X' → PTs X' ifs (tCd c.bk ke cond) := fun X' h => by
  refine PTs.imp (p.hc X' h) fun σ H Q q => ?_
  cases cond with
  | none => exact q
  | some m => exact tE_at (c := c.bk) h.N q
theorem CompP.et {scope : Scope} {elt tg : Expr} {ifs : List Expr} {melt : E} {t : Tgt} {cond : Option E} (p : CompP c ke scope elt tg ifs melt t cond) : ∀ X', IsBlk c.X scope X' → PE X' elt (tD c.bk ke fun e => (evO c.G melt e).map O.frz) := fun X' h =>
  PE.imp (tD_of (p.he X' h)) fun σ H Q q => tD_at (c := c.bk) h.N q
theorem s_comp (fx : Fx c) {elt tg iter : Expr} {ifs : List Expr} {scope : Scope} {own : List (Str × Nat)} {pos : Pos} {melt : E} {cond : Option E} {t : Tgt} {ik : ItK} {its : List E} {ki : Nat → Prop} (hcalm : c.X.calm = true) (hi : PI c.X tg iter (tI c ki kq ik (evBs c.G its))) (ok : BlkOk c.X.N c.X.env.scope scope own) (ho : own.map (·.2) = tslots t)
    (p : CompP c ke scope elt tg ifs melt t cond) (hs : ∀ x, foldedSetIterable iter c.X.env x = pure x) (hl : lockS ik its = some none) (nd : (tslots t).Nodup) (hb : ∀ v ∈ tslots t, v < c.n) (hv : (tslots t).all (okAsg c.G.lk) = true)
    (k0 : ∀ i, kp i → ki i) (k1 : ∀ i, kp i → ke i ∧ i ∉ tslots t) (k2 : ∀ i, kq i → ke i ∧ i ∉ tslots t) : PE c.X (.ListComp elt [⟨tg, iter, ifs, 0⟩] scope pos) (tE c kp (evO c.G (.comp melt t ik its cond))) := by
  refine PE.imp (pe_lc hcalm fx.nn hi ok (g := gT c.X.K t) (fun s H C cl fp => p.hg _ ⟨s, H, C, cl, fp, rfl⟩) (fun s H C cl fp => p.ct _ ⟨s, H, C, cl, fp, rfl⟩) (fun s H C cl fp => p.et _ ⟨s, H, C, cl, fp, rfl⟩) hs) fun σ H Q q => ?_
  rw [ho]
  exact rd_comp fx hl nd hb hv k0 k1 k2 σ H Q q
end
end VE

namespace VE
open PySem PySem.Spec
                     PyProof.Rows L2

section
variable {c : Cc} {kp kq ke : Nat → Prop} {F : Fz} {H : Hp} {tl : Ld} {σ : L2.St}
theorem Sim.lock (s : Sim c F tl σ H) {i : Nat} {a : Addr} {ks : List Key} {ds : List D} {kvs : List (Key × V)} (h : tl[i]? = some (some (.cell (.dct a ks ds)))) (hr : RepDs c.S F H ds (kvs.map (·.2))) (od : Obj) :
    Sim c F (tl.set i (some (.cell (.lck a od kvs ds)))) σ (upd H a (.frz od (.dK kvs))) := by
  have nF : ¬ F a := s.g.nf i _ h a (by simp [T.ads, TC.ads])
  exact s.write h rfl (fun b hb => hb) (by simp [T.ads, TC.ads]) (fun b hb => upd_ne fun z => hb (by rw [z]; simp [T.ads, TC.ads])) ⟨upd_same, RepDs.mono (upd_ext nF) _ _ hr⟩
theorem Sim.unlock (s : Sim c F tl σ H) {i : Nat} {a : Addr} {od : Obj} {ds : List D} {kvs : List (Key × V)} (h : tl[i]? = some (some (.cell (.lck a od kvs ds)))) :
    H a = some (.frz od (.dK kvs)) ∧ Sim c F (tl.set i (some (.cell (.dct a (kvs.map (·.1)) ds)))) σ (upd H a (.dK kvs)) := by
  have nF : ¬ F a := s.g.nf i _ h a (by simp [T.ads, TC.ads])
  obtain ⟨h1, h2⟩ := (show (T.cell (.lck a od kvs ds)).ok c.S F H from s.g.ok i _ h)
  exact ⟨h1, s.write h rfl (fun b hb => hb) (by simp [T.ads, TC.ads]) (fun b hb => upd_ne fun z => hb (by rw [z]; simp [T.ads, TC.ads])) ⟨kvs, upd_same, rfl, RepDs.mono (upd_ext nF) _ _ h2⟩⟩
theorem kD_rep {S : Sta} (k : Key) : RepD S F H (kD k) (kV k) := by cases k <;> rfl
theorem walk_lck {i : Nat} {a : Addr} {od : Obj} {ds : List D} {kvs : List (Key × V)} (hi : i < c.n) (h : tl[i]? = some (some (.cell (.lck a od kvs ds)))) (hk : kq i) : WalkD c kq tl (Itk a od kvs) ((kvs.map (·.1)).map kD) := fun F2 tl2 σ2 H2 s2 st2 => by
  have h2 : tl2[i]? = some (some (.cell (.lck a od kvs ds))) := (st2.kep i hi hk).trans h
  obtain ⟨h1, _⟩ := (show (T.cell (.lck a od kvs ds)).ok c.S F2 H2 from s2.g.ok i _ h2)
  have hl : ((kvs.map (·.1)).map kD).length = kvs.length := by simp
  refine ⟨fun j hj => ?_, h1, (show kvs.length ≤ _ by rw [hl]; exact Nat.le_refl _)⟩
  rw [hl] at hj
  refine ⟨⟨h1, hj⟩, fun x H' y => ?_⟩
  obtain ⟨rfl, k, v, e1, rfl⟩ := y
  exact ⟨F2, kD k, by simp [e1], s2, kD_rep k⟩
theorem rd_compD (fx : Fx c) {elt : E} {cond : Option E} {t : Tgt} {i : Nat} (hin : i < c.n) (nd : (tslots t).Nodup) (hb : ∀ v ∈ tslots t, v < c.n) (hv : (tslots t).all (okAsg c.G.lk) = true) (hi : ke i ∧ i ∉ tslots t)
    (k1 : ∀ j, kp j → ke j ∧ j ∉ tslots t) (k3 : ∀ j, kp j → j ≠ i) : ∀ σ H Q, tE c kp (evO c.G (.comp elt t .dct [.plc i] cond)) σ H Q → tLockE (tLc (iKeys (tVar i)) (gT c.X.K t) (tCd c.bk ke cond) (tD c.bk ke (fun e => (evO c.G elt e).map O.frz)) (tslots t)) σ H Q := by
  rintro σ H Q ⟨F, tl, s, r⟩
  unfold evO at r
  have r : RunO c kp σ tl (((lift (snap (era c.n tl) i) (era c.n tl)).bind fun x env1 => (evBs c.G [] env1).bind fun xs env2 => .ok (x :: xs) env2).bind fun ds env1 => match itD .dct ds with
    | none => .bad
    | some xs => if lockOk (some i) env1 then (noX (compGo c.G.lk (fun e => (evO c.G elt e).map O.frz) (evC c.G cond) t xs (wipeE (lockE (some i) env1) (tslots t)) [])).bind fun r env2 => .ok (.cell (.lst r)) (unlockE (some i) env1 (restore (lockE (some i) env1) (tslots t) env2)) else .bad) Q := by
      have e0 : evBs c.G [.plc i] (era c.n tl) = (lift (snap (era c.n tl) i) (era c.n tl)).bind fun x env1 => (evBs c.G [] env1).bind fun xs env2 => .ok (x :: xs) env2 := by
        unfold evBs; rfl
      rw [e0] at r
      exact r
  unfold snap at r
  cases e1 : gt (era c.n tl) i with
  | none => rw [e1] at r; exact r.elim
  | some o =>
    obtain ⟨_, tt, ht, rfl⟩ := gt_era e1
    rw [e1] at r
    unfold evBs at r
    have r : RunO c kp σ tl (match itD .dct [tt.o.frz] with
      | none => .bad
      | some xs => if lockOk (some i) (era c.n tl) then (noX (compGo c.G.lk (fun e => (evO c.G elt e).map O.frz) (evC c.G cond) t xs (wipeE (lockE (some i) (era c.n tl)) (tslots t)) [])).bind fun r env2 => .ok (.cell (.lst r)) (unlockE (some i) (era c.n tl) (restore (lockE (some i) (era c.n tl)) (tslots t) env2)) else .bad) Q := r
    have hlk : lockOk (some i) (era c.n tl) = tt.o.isDct := by
      show (match gt (era c.n tl) i with | some o => o.isDct | none => false) = _
      rw [e1]
    rw [hlk] at r
    cases tt with
    | obj a dx k cs => exact r.elim
    | cell y =>
      cases y with
      | val d v => exfalso; revert r; cases itD .dct [(T.cell (.val d v)).o.frz] <;> exact id
      | lst a ds => exact r.elim
      | lck a od kvs ds => exact r.elim
      | dct a ks ds =>
        obtain ⟨kvs, g1, g2, g3⟩ := (show (T.cell (.dct a ks ds)).ok c.S F H from s.g.ok i _ ht)
        refine ⟨a, .dK kvs, g1, trivial, fun od => ?_⟩
        have r : RunO c kp σ tl ((noX (compGo c.G.lk (fun e => (evO c.G elt e).map O.frz) (evC c.G cond) t (ks.map kD) (wipeE (lockE (some i) (era c.n tl)) (tslots t)) [])).bind fun r env2 => .ok (.cell (.lst r)) (unlockE (some i) (era c.n tl) (restore (lockE (some i) (era c.n tl)) (tslots t) env2))) Q := r
        refine ⟨.ref a, s.sl i _ hin ht, a, od, rfl, .inl ⟨kvs, upd_same, fun D0 hD => ?_⟩⟩
        have sk := s.lock ht g3 od
        have hk : (tl.set i (some (.cell (.lck a od kvs ds))))[i]? = some (some (.cell (.lck a od kvs ds))) := List.getElem?_set_self (lt_of ht)
        have ek : era c.n (tl.set i (some (.cell (.lck a od kvs ds)))) = lockE (some i) (era c.n tl) := by rw [era_set']; rfl
        subst g2
        cases e2 : compGo c.G.lk (fun e => (evO c.G elt e).map O.frz) (evC c.G cond) t ((kvs.map (·.1)).map kD) (wipeE (lockE (some i) (era c.n tl)) (tslots t)) [] with
        | bad => rw [e2] at r; exact r.elim
        | exc x env => rw [e2] at r; exact r.elim
        | ok rr env2 =>
          rw [e2] at r
          have r : RunO c kp σ tl (.ok (.cell (.lst rr)) (unlockE (some i) (era c.n tl) (restore (lockE (some i) (era c.n tl)) (tslots t) env2))) Q := r
          refine lc_ok (Q := fun v H' => H' a = some (.frz od (.dK kvs)) ∧ Q v (upd H' a (.dK kvs))) (kp := fun j => kp j ∨ j = i) (kq := fun j => j = i) fx sk (walk_lck hin hk rfl) hD nd hb hv (fun j hj => hj.elim (k1 j) fun z => by rw [z]; exact hi) (fun j hj => by rw [hj]; exact hi) (by rw [ek]; exact e2) fun F' H' tl' j s' st' e' hj ht' => ?_
          have h' : tl'[i]? = some (some (.cell (.lck a od kvs ds))) := (st'.kep i hin (.inr rfl)).trans hk
          obtain ⟨u1, u2⟩ := s'.unlock h'
          refine ⟨u1, ?_⟩
          have jn : j ≠ i := by rw [List.length_set] at hj; have := s.len; omega
          refine r F' _ (tl'.set i (some (.cell (.dct a (kvs.map (·.1)) ds)))) j (.cell (.lst D0 rr)) u2 ?_ ?_ (by rw [List.length_set] at hj; exact hj) (by rw [List.getElem?_set_ne fun z => jn z.symm]; exact ht') rfl
          · refine ⟨by rw [List.length_set]; exact Nat.le_trans (by simp) st'.len, fun k z1 z2 => ?_, fun k z1 z2 => ?_⟩
            · rw [List.getElem?_set_ne (by omega), st'.tmp k z1 (by rw [List.length_set]; exact z2), List.getElem?_set_ne (by omega)]
            · have := k3 k z2
              rw [List.getElem?_set_ne fun z => this z.symm, st'.kep k z1 (.inl z2), List.getElem?_set_ne fun z => this z.symm]
          · rw [era_set', e', ek]
            show _ = (restore (lockE (some i) (era c.n tl)) (tslots t) env2).set i (gt (era c.n tl) i)
            rw [e1]
            rfl
theorem s_compD (fx : Fx c) {elt tg x : Expr} {ifs : List Expr} {scope : Scope} {own : List (Str × Nat)} {pos : Pos} {melt : E} {cond : Option E} {t : Tgt} {i : Nat} (hcalm : c.X.calm = true) (hx : PE c.X x (tVar i)) (hin : i < c.n) (ok : BlkOk c.X.N c.X.env.scope scope own) (ho : own.map (·.2) = tslots t)
    (p : CompP c ke scope elt tg ifs melt t cond) (hs : ∀ z, foldedSetIterable x c.X.env z = pure z) (nd : (tslots t).Nodup) (hb : ∀ v ∈ tslots t, v < c.n) (hv : (tslots t).all (okAsg c.G.lk) = true) (hi : ke i ∧ i ∉ tslots t)
    (k1 : ∀ j, kp j → ke j ∧ j ∉ tslots t) (k3 : ∀ j, kp j → j ≠ i) : PE c.X (.ListComp elt [⟨tg, x, ifs, 0⟩] scope pos) (tE c kp (evO c.G (.comp melt t .dct [.plc i] cond))) := by
  refine PE.imp (pe_lock (pe_lc hcalm fx.nn (pi_keys hx) ok (g := gT c.X.K t) (fun s H C cl fp => p.hg _ ⟨s, H, C, cl, fp, rfl⟩) (fun s H C cl fp => p.ct _ ⟨s, H, C, cl, fp, rfl⟩) (fun s H C cl fp => p.et _ ⟨s, H, C, cl, fp, rfl⟩) hs)) fun σ H Q q => ?_
  rw [ho]
  exact rd_compD fx hin nd hb hv hi k1 k3 σ H Q q
theorem s_mv (fx : Fx c) {e : Expr} {i : Nat} (h : PE c.X e (tVar i)) (k : ∀ j, kp j → j ≠ i) : PE c.X e (tE c kp (evO c.G (.mv i))) := by
  refine PE.imp h fun σ H Q ⟨F, tl, s, q⟩ => ?_
  unfold evO at q
  cases e1 : gt (era c.n tl) i with
  | none => rw [e1] at q; exact q.elim
  | some o =>
    rw [e1] at q
    obtain ⟨hi, t, ht, rfl⟩ := gt_era e1
    refine ⟨t.v, s.sl i t hi ht, ?_⟩
    have main : RunO c kp σ tl (if okAsg c.G.lk i then .ok t.o ((era c.n tl).set i none) else .bad) Q → Q t.v H := fun q => by
      split at q
      · rename_i hk
        have g1 : Good c.S c.am F H (tl ++ [none]) := s.g.sel id (fun j u e => by
          by_cases z : j < tl.length
          · rw [List.getElem?_append_left z] at e; exact e
          · rw [List.getElem?_append_right (by omega)] at e
            cases w : j - tl.length with
            | zero => rw [w] at e; cases e
            | succ k => rw [w] at e; simp at e) fun _ _ _ _ _ _ z => z
        have hl := lt_of ht
        have g2 := g1.move (i := tl.length) (j := i) (o := some t) (by rw [List.getElem?_append_left hl]; exact ht) (by omega)
        have e2 : ((tl ++ [none]).set tl.length (some t)).set i none = tl.set i none ++ [some t] := by
          rw [List.set_append_right _ _ (Nat.le_refl _), Nat.sub_self, List.set_cons_zero, List.set_append_left _ _ hl]
        rw [e2] at g2
        have s2 : Sim c F (tl.set i none ++ [some t]) σ H := by
          refine ⟨g2, by rw [List.length_append, List.length_set]; have := s.len; omega, fun j u hj e => ?_, fun j v e => ?_, s.xe, s.ln⟩
          · rw [List.getElem?_append_left (by rw [List.length_set]; have := s.len; omega)] at e
            rcases get_set e with ⟨_, z, _⟩ | ⟨_, z⟩
            · cases z
            · exact s.sl j u hj z
          · obtain ⟨h0, u, h1, h2⟩ := s.lo j v e
            have z : i ≠ j := fun z => by
              have := fx.free hk
              rw [z, e] at this; cases this
            exact ⟨h0, u, by rw [List.getElem?_append_left (by rw [List.length_set]; exact lt_of h1), List.getElem?_set_ne z]; exact h1, h2⟩
        refine q F H _ tl.length t s2 ⟨by rw [List.length_append, List.length_set]; omega, fun j z1 z2 => ?_, fun j z1 z2 => ?_⟩ ?_ (Nat.le_refl _) ?_ rfl
        · rw [List.getElem?_append_left (by rw [List.length_set]; exact z2), List.getElem?_set_ne (by omega)]
        · rw [List.getElem?_append_left (by rw [List.length_set]; have := s.len; omega), List.getElem?_set_ne fun z => k j z2 z.symm]
        · rw [era_app (by rw [List.length_set]; exact s.len), era_set']; rfl
        · rw [List.getElem?_append_right (by rw [List.length_set]; exact Nat.le_refl _), List.length_set, Nat.sub_self]; rfl
      · exact q.elim
    cases t with
    | obj a dx cl cs => exact main q
    | cell x =>
      cases x with
      | val d v => exact RunO.val s (s.g.ok i _ ht) q
      | lst a ds => exact main q
      | dct a ks ds => exact main q
      | lck a od ks ds => exact main q

theorem s_dct0 {pos : Pos} : PE c.X (.Dict [] [] pos) (tE c kp (evO c.G (.dct [] []))) := by
  refine PE.imp pe_dnewK fun σ H Q ⟨F, tl, s, r⟩ p hp => ?_
  unfold evO evDs at r
  have r : RunO c kp σ tl (.ok (.cell (.dct [] [])) (era c.n tl)) Q := r
  exact RunO.newO (x := .dct p [] []) s hp rfl ⟨[], upd_same, rfl, rfl⟩ r
theorem s_dct1 {ke1 ve : Expr} {d : D} {v : V} {k : Str} {pos : Pos} (hk : PE c.X ke1 (tC (.str k))) (hv : PE c.X ve (tC v)) (hr : ∀ F H, RepD c.S F H d v) : PE c.X (.Dict [some ke1] [ve] pos) (tE c kp (evO c.G (.dct [k] [.k d]))) := by
  refine PE.imp (pe_disp (pps_cons hk hv pps_nil) rfl rfl (by simp) (by simp)) fun σ H Q ⟨F, tl, s, r⟩ p hp => ?_
  refine ⟨upd_same, [(.inr k, v)], rfl, by simp, ?_⟩
  unfold evO evDs evDs evO at r
  have r : RunO c kp σ tl (if ([k] : List Str).length = ([d] : List D).length ∧ ([k] : List Str).Nodup ∧ ([k] : List Str).length ≤ 15 then .ok (.cell (.dct [.inr k] [d])) (era c.n tl) else .bad) Q := r
  rw [if_pos ⟨rfl, by simp, by simp⟩] at r
  rw [upd_upd]
  exact RunO.newO (x := .dct p [.inr k] [d]) s hp rfl ⟨[(.inr k, v)], upd_same, rfl, v, [], rfl, hr _ _, rfl⟩ r
theorem c_neg {e : Expr} {i : Int} {pos : Pos} (h : PE c.X e (tC (.int i))) : PE c.X (.UnaryOp .USub e pos) (tC (.int (-i))) :=
  PE.imp (pe_un un_neg h) fun σ H Q q => ⟨i, rfl, q⟩
theorem s_efld {x : Expr} {i k f : Nat} {nm : Str} {pos : Pos} {X0 : Cx} {oe : Obj} {pn : List (Addr × Obj)} (fx : Fx c) (hX : c.X = X0.suite c.xa ((c.xa, oe) :: pn)) (hx : PE c.X x (tVar i)) {q : VE.X} (hxc : c.G.xc = some (i, q)) (T : XfC c.X.K (c.S.cn q.c)) (hno : q.c = k → PySem.W.findIn c.X.K (.ref (c.S.cn q.c)) nm = some none)
    (hz : Zc (.ref (c.S.cn q.c)) c.xd oe) (hf : ∃ vs, oe.data = .fields vs) (hb : isSup x = false) (hlv : c.lv i = some (.ref c.xa)) (hn : (c.S.fs k)[f]? = some nm) (nd : (c.S.fs k).Nodup) : PE c.X (.Attribute x nm pos) (tE c kp (evO c.G (.efld i k f))) := by
  by_cases hq : q.c = k
  · have main : PE (X0.suite c.xa ((c.xa, oe) :: pn)) (.Attribute x nm pos) (tXf c.xa (.ref (c.S.cn q.c)) c.xd (c.S.cn q.c) nm (tVar i)) := by
      have hno := hno hq
      rw [hX] at T hno hx
      exact pe_xf T hno hz hf hx (noSup hb)
    rw [← hX] at main
    refine PE.imp main fun σ H Q ⟨F, tl, s, r⟩ => ?_
    unfold evO at r
    rw [hxc] at r
    have r : RunO c kp σ tl (if i = i ∧ q.c = k then lift ((q.fs[f]?).map O.v) (era c.n tl) else .bad) Q := r
    rw [if_pos ⟨rfl, hq⟩] at r
    obtain ⟨h0, t, ht, hv⟩ := s.lo i _ hlv
    refine ⟨.ref c.xa, by rw [← hv]; exact s.sl i t h0 ht, rfl, rfl, ?_⟩
    obtain ⟨vs, e1, e2, e3⟩ := s.xe _ hxc
    cases e4 : q.fs[f]? with
    | none => rw [e4] at r; exact r.elim
    | some d =>
      rw [e4] at r
      obtain ⟨v, e5, e6⟩ := RepDs.get e1 e4
      rcases e3 with ⟨e3, _⟩ | ⟨dd, z1, z2, z3⟩
      · rw [show q.fs = [] from e3] at e4; simp at e4
      · have z3 : H dd = some (.xd ((c.S.fs q.c).zip vs)) := z3
        rw [hq] at z3
        exact ⟨dd, _, v, z1, z3, zip_lookup nd hn e5, RunO.val s e6 r⟩
  · exact ⟨fun pins s σ H Q I ⟨F, tl, _, r⟩ => by
      unfold evO at r
      rw [hxc] at r
      have r : RunO c kp σ tl (if i = i ∧ q.c = k then lift ((q.fs[f]?).map O.v) (era c.n tl) else .bad) Q := r
      rw [if_neg (fun z => hq z.2)] at r
      exact r.elim⟩
end
end VE

namespace VE
open PySem PySem.Spec
                     PyProof.Rows L2

/-- the arguments' own addresses -/
def adsOf (ts : List T) : Fz := fun b => ∃ t ∈ ts, b ∈ t.ads
def amOf (H : Hp) (F : Fz) (ts : List T) : Amb := ⟨H, F, adsOf ts⟩
/-- a def's promise: what the evaluator says -/
def spF (S : Sta) (C : Calls) (f : Nat) : Sp := fun vs H Q E => ∃ (F : Fz) (ts : List T), vs = ts.map T.v ∧ Good S (amOf H F ts) F H (ts.map some) ∧ match C f (ts.map T.o) with
  | .ok r fin => ∀ (F' : Fz) (H' : Hp) (ts' : List T) (t : T), Good S (amOf H F ts) F' H' ((ts' ++ [t]).map some) → ts'.map T.v = ts.map T.v → ts'.map T.o = fin → t.o = r → Q t.v H'
  | .exc x fin => ∀ (F' : Fz) (H' : Hp) (ts' : List T) (d : Option Addr), Good S (amOf H F ts) F' H' (ts'.map some) → ts'.map T.v = ts.map T.v → ts'.map T.o = fin → ExcAt S F' H' x d → E (.ref (S.cn x.c)) d H'
  | .bad => False

/-- where the arguments stand: as, their values, their places -/
def AtA (n : Nat) (σ : L2.St) (tl : Ld) : Nat → List A → List V → List Nat → Prop
  | _, [], vs, js => vs = [] ∧ js = []
  | lo, .t o :: as, vs, js => ∃ v vr j jr, vs = v :: vr ∧ js = j :: jr ∧ lo ≤ j ∧ (∃ t : T, tl[j]? = some (some t) ∧ t.o = o ∧ t.v = v) ∧ AtA n σ tl (j + 1) as vr jr
  | lo, .s i :: as, vs, js => ∃ v vr jr, vs = v :: vr ∧ js = i :: jr ∧ i < n ∧ σ[i]? = some (some v) ∧ AtA n σ tl lo as vr jr
section
variable {n : Nat} {σ : L2.St} {tl : Ld}
theorem AtA.later {tl' : Ld} (hs : ∀ i, n ≤ i → i < tl.length → tl'[i]? = tl[i]?) : ∀ {as : List A} {lo : Nat} {vs : List V} {js : List Nat}, n ≤ lo → AtA n σ tl lo as vs js → AtA n σ tl' lo as vs js
  | [], _, _, _, _, h => h
  | .t o :: as, lo, vs, js, hl, h => by
    obtain ⟨v, vr, j, jr, e1, e2, h1, ⟨t, h2, h3⟩, h4⟩ := h
    exact ⟨v, vr, j, jr, e1, e2, h1, ⟨t, (hs j (by omega) (lt_of h2)).trans h2, h3⟩, AtA.later hs (by omega) h4⟩
  | .s i :: as, lo, vs, js, hl, h => by
    obtain ⟨v, vr, jr, e1, e2, h1, h2, h3⟩ := h
    exact ⟨v, vr, jr, e1, e2, h1, h2, AtA.later hs hl h3⟩
theorem AtA.mono : ∀ {as : List A} {lo lo' : Nat} {vs : List V} {js : List Nat}, lo' ≤ lo → AtA n σ tl lo as vs js → AtA n σ tl lo' as vs js
  | [], _, _, _, _, _, h => h
  | .t o :: as, lo, lo', vs, js, hl, h => by
    obtain ⟨v, vr, j, jr, e1, e2, h1, h2, h4⟩ := h
    exact ⟨v, vr, j, jr, e1, e2, by omega, h2, h4⟩
  | .s i :: as, lo, lo', vs, js, hl, h => by
    obtain ⟨v, vr, jr, e1, e2, h1, h2, h3⟩ := h
    exact ⟨v, vr, jr, e1, e2, h1, h2, AtA.mono hl h3⟩
theorem AtA.mem : ∀ {as : List A} {lo : Nat} {vs : List V} {js : List Nat}, AtA n σ tl lo as vs js → ∀ j ∈ js, lo ≤ j ∨ (j < n ∧ j ∈ argsS as)
  | [], _, _, _, h, j, hj => by rw [h.2] at hj; simp at hj
  | .t o :: as, lo, vs, js, h, j, hj => by
    obtain ⟨v, vr, j', jr, e1, e2, h1, h2, h4⟩ := h
    rw [e2] at hj
    rcases List.mem_cons.mp hj with q | q
    · exact .inl (by omega)
    · rcases AtA.mem h4 j q with z | z
      · exact .inl (by omega)
      · exact .inr z
  | .s i :: as, lo, vs, js, h, j, hj => by
    obtain ⟨v, vr, jr, e1, e2, h1, h2, h3⟩ := h
    rw [e2] at hj
    rcases List.mem_cons.mp hj with q | q
    · exact .inr ⟨by omega, by rw [q]; exact List.mem_cons_self⟩
    · rcases AtA.mem h3 j q with z | z
      · exact .inl z
      · exact .inr ⟨z.1, List.mem_cons_of_mem _ z.2⟩
theorem AtA.nodup : ∀ {as : List A} {lo : Nat} {vs : List V} {js : List Nat}, n ≤ lo → (argsS as).Nodup → AtA n σ tl lo as vs js → js.Nodup
  | [], _, _, _, _, _, h => by rw [h.2]; exact List.nodup_nil
  | .t o :: as, lo, vs, js, hl, nd, h => by
    obtain ⟨v, vr, j, jr, e1, e2, h1, h2, h4⟩ := h
    rw [e2]
    refine List.nodup_cons.mpr ⟨fun q => ?_, AtA.nodup (as := as) (lo := j + 1) (by omega) nd h4⟩
    rcases AtA.mem h4 j q with z | z
    · omega
    · omega
  | .s i :: as, lo, vs, js, hl, nd, h => by
    obtain ⟨v, vr, jr, e1, e2, h1, h2, h3⟩ := h
    obtain ⟨n1, n2⟩ :=
                      List.nodup_cons.mp nd
    rw [e2]
    refine List.nodup_cons.mpr ⟨fun q => ?_, AtA.nodup hl n2 h3⟩
    rcases AtA.mem h3 i q with z | z
    · omega
    · exact n1 z.2
/-- the things at places -/
def TsAt (tl : Ld) : List Nat → List T → Prop
  | [], ts => ts = []
  | j :: js, ts => ∃ t tr, ts = t :: tr ∧ tl[j]? = some (some t) ∧ TsAt tl js tr
theorem TsAt.len : ∀ {js : List Nat} {ts : List T}, TsAt tl js ts → ts.length = js.length
  | [], _, h => by cases (show _ = _ from h); rfl
  | j :: js, ts, h => by obtain ⟨t, tr, rfl, _, h2⟩ := h; rw [List.length_cons, List.length_cons, TsAt.len h2]
theorem TsAt.get : ∀ {js : List Nat} {ts : List T}, TsAt tl js ts → ∀ (k j : Nat), js[k]? = some j → ∃ t, ts[k]? = some t ∧ tl[j]? = some (some t)
  | [], _, h, k, j, e => by simp at e
  | j' :: js, ts, h, 0, j, e => by
    obtain ⟨t, tr, rfl, h1, h2⟩ := h
    simp at e; subst e
    exact ⟨t, rfl, h1⟩
  | j' :: js, ts, h, k + 1, j, e => by
    obtain ⟨t, tr, rfl, h1, h2⟩ := h
    obtain ⟨u, g1, g2⟩ := TsAt.get h2 k j (by simpa using e)
    exact ⟨u, by simpa using g1, g2⟩
theorem TsAt.get' : ∀ {js : List Nat} {ts : List T}, TsAt tl js ts → ∀ (k : Nat) (t : T), ts[k]? = some t → ∃ j, js[k]? = some j ∧ tl[j]? = some (some t)
  | [], _, h, k, t, e => by cases (show _ = _ from h); simp at e
  | j' :: js, ts, h, 0, t, e => by
    obtain ⟨u, tr, rfl, h1, h2⟩ := h
    simp at e; subst e
    exact ⟨j', rfl, h1⟩
  | j' :: js, ts, h, k + 1, t, e => by
    obtain ⟨u, tr, rfl, h1, h2⟩ := h
    obtain ⟨j, g1, g2⟩ := TsAt.get' h2 k t (by simpa using e)
    exact ⟨j, by simpa using g1, g2⟩
end
section
variable {c : Cc} {σ : L2.St} {tl : Ld} {F : Fz} {H : Hp}
/-- the arguments as things -/
theorem AtA.things (s : Sim c F tl σ H) : ∀ {as : List A} {lo : Nat} {vs : List V} {js : List Nat} {os : List O}, AtA c.n σ tl lo as vs js → argO (era c.n tl) as = some os → ∃ ts, TsAt tl js ts ∧ ts.map T.v = vs ∧ ts.map T.o = os
  | [], _, _, _, os, h, e => by
    obtain ⟨rfl, rfl⟩ := h
    cases e
    exact ⟨[], rfl, rfl, rfl⟩
  | .t o :: as, lo, vs, js, os, h, e => by
    obtain ⟨v, vr, j, jr, rfl, rfl, h1, ⟨t, h2, h3, h3'⟩, h4⟩ := h
    have e : (argO (era c.n tl) as).map (o :: ·) = some os := e
    cases e2 : argO (era c.n tl) as with
    | none => rw [e2] at e; cases e
    | some os' =>
      rw [e2] at e; cases e
      obtain ⟨ts, g1, g2, g3⟩ := AtA.things s h4 e2
      exact ⟨t :: ts, ⟨t, ts, rfl, h2, g1⟩, by rw [List.map_cons, h3', g2], by rw [List.map_cons, h3, g3]⟩
  | .s i :: as, lo, vs, js, os, h, e => by
    obtain ⟨v, vr, jr, rfl, rfl, h1, h2, h3⟩ := h
    have e : (match gt (era c.n tl) i, argO (era c.n tl) as with
      | some o, some os => some (o :: os)
      | _, _ => none) = some os := e
    cases e1 : gt (era c.n tl) i with
    | none => rw [e1] at e; cases e
    | some o =>
      cases e2 : argO (era c.n tl) as with
      | none => rw [e1, e2] at e; cases e
      | some os' =>
        rw [e1, e2] at e; cases e
        obtain ⟨hi, t, ht, rfl⟩ := gt_era e1
        obtain ⟨ts, g1, g2, g3⟩ := AtA.things s h3 e2
        have q := s.sl i t hi ht
        rw [h2] at q
        cases q
        exact ⟨t :: ts, ⟨t, ts, rfl, ht, g1⟩, by rw [List.map_cons, g2], by rw [List.map_cons, g3]⟩
/-- what the callee finds -/
theorem Good.args {S : Sta} {am : Amb} (g : Good S am F H tl) {js : List Nat} {ts ws : List T} (nd : js.Nodup) (h : TsAt tl js ts) (hw : ∀ t ∈ ws, ∃ d v, t = T.val d v ∧ RepD S F H d v) : Good S (amOf H F (ts ++ ws)) F H ((ts ++ ws).map some) := by
  have key : ∀ (k : Nat) (t : T), ((ts ++ ws).map some)[k]? = some (some t) → (∃ j, js[k]? = some j ∧ tl[j]? = some (some t)) ∨ (∃ d v, t = T.val d v ∧ RepD S F H d v) := fun k t e => by
    rw [List.getElem?_map] at e
    cases e2 : (ts ++ ws)[k]? with
    | none => rw [e2] at e; cases e
    | some u =>
      rw [e2] at e
      cases e
      by_cases hk : k < ts.length
      · rw [List.getElem?_append_left hk] at e2
        exact .inl (h.get' k t e2)
      · rw [List.getElem?_append_right (by omega)] at e2
        exact .inr (hw t (List.mem_of_getElem? e2))
  have noads : ∀ (d : D) (v : V) (a : Addr), a ∉ (T.val d v).ads := fun d v a h => by simp [T.ads, TC.ads] at h
  refine ⟨fun k t e => ?_, fun k t e => ?_, fun k l t u hkl e1 e2 a ha hb => ?_, fun k t e a ha => ?_, g.tr, fun _ _ e _ => e, fun _ h => h, fun _ h => .inl h, fun k t e a ha => ?_⟩
  · rcases key k t e with ⟨j, _, q⟩ | ⟨d, v, rfl, q⟩
    · exact g.ok j t q
    · exact q
  · rcases key k t e with ⟨j, _, q⟩ | ⟨d, v, rfl, q⟩
    · exact g.nd j t q
    · simp [T.ads, TC.ads]
  · rcases key k t e1 with ⟨j, p1, q1⟩ | ⟨d, v, rfl, _⟩
    · rcases key l u e2 with ⟨j', p2, q2⟩ | ⟨d, v, rfl, _⟩
      · refine g.dj j j' t u (fun z => hkl ?_) q1 q2 a ha hb
        subst z
        exact (List.getElem?_inj (List.getElem?_eq_some_iff.mp p1).1 nd).mp (p1.trans p2.symm)
      · exact noads d v a hb
    · exact noads d v a ha
  · rcases key k t e with ⟨j, _, q⟩ | ⟨d, v, rfl, q⟩
    · exact g.nf j t q a ha
    · exact absurd ha (noads d v a)
  · rw [List.getElem?_map] at e
    cases e2 : (ts ++ ws)[k]? with
    | none => rw [e2] at e; cases e
    | some u =>
      rw [e2] at e
      cases e
      exact .inl ⟨t, List.mem_of_getElem? e2, ha⟩
/-- the caller's ledger behind a call -/
def setAll (tl : Ld) : List Nat → List T → Ld
  | j :: js, t :: ts => setAll (tl.set j (some t)) js ts
  | _, _ => tl
theorem setAll_len : ∀ {js : List Nat} {ts : List T} {tl : Ld}, (setAll tl js ts).length = tl.length
  | [], _, _ => rfl
  | j :: js, [], _ => rfl
  | j :: js, t :: ts, tl => by unfold setAll; rw [setAll_len, List.length_set]
theorem setAll_out {i : Nat} : ∀ {js : List Nat} {ts : List T} {tl : Ld}, i ∉ js → (setAll tl js ts)[i]? = tl[i]?
  | [], _, _, _ => rfl
  | j :: js, [], _, _ => rfl
  | j :: js, t :: ts, tl, h => by
    unfold setAll
    rw [setAll_out fun q => h (List.mem_cons_of_mem _ q)]
    exact List.getElem?_set_ne fun q => h (by rw [q]; exact List.mem_cons_self)
theorem setAll_in : ∀ {js : List Nat} {ts : List T} {tl : Ld}, js.Nodup → (∀ j ∈ js, j < tl.length) → ts.length = js.length → ∀ (k j : Nat), js[k]? = some j → ∃ t, ts[k]? = some t ∧ (setAll tl js ts)[j]? = some (some t)
  | [], _, _, _, _, _, k, j, e => by simp at e
  | j' :: js, [], _, _, _, hl, k, j, e => by simp at hl
  | j' :: js, t :: ts, tl, nd, hb, hl, 0, j, e => by
    simp at e; subst e
    obtain ⟨n1, n2⟩ :=
                      List.nodup_cons.mp nd
    refine ⟨t, rfl, ?_⟩
    unfold setAll
    rw [setAll_out n1, List.getElem?_set_self (hb j' List.mem_cons_self)]
  | j' :: js, t :: ts, tl, nd, hb, hl, k + 1, j, e => by
    obtain ⟨n1, n2⟩ :=
                      List.nodup_cons.mp nd
    obtain ⟨u, g1, g2⟩ := setAll_in (tl := tl.set j' (some t)) n2 (fun j hj => by rw [List.length_set]; exact hb j (List.mem_cons_of_mem _ hj)) (by simpa using hl) k j (by simpa using e)
    exact ⟨u, by simpa using g1, by unfold setAll; exact g2⟩
theorem mem_get {α : Type} {l : List α} {x : α} (h : x ∈ l) : ∃ k : Nat, l[k]? = some x := by
  obtain ⟨k, hk, e⟩ := List.getElem_of_mem h
  exact ⟨k, by rw [List.getElem?_eq_getElem hk, e]⟩
/-- what was in the caller's ledger, what the callee left: together -/
theorem Good.called {S : Sta} {am : Amb} {F' : Fz} {H' : Hp} (g : Good S am F H tl) {js : List Nat} {ts ws ts' : List T} {rest : List T} (nd : js.Nodup) (h : TsAt tl js ts) (hw : ∀ t ∈ ws, t.ads = []) (g2 : Good S (amOf H F (ts ++ ws)) F' H' ((ts' ++ rest).map some)) (hl : ts'.length = js.length) :
    Good S am F' H' (setAll tl js ts' ++ rest.map some) ∧ Ext F H F' H' := by
  have hb : ∀ j ∈ js, j < tl.length := fun j hj => by
    obtain ⟨k, e⟩ := mem_get hj
    obtain ⟨t, _, q⟩ := h.get k j e
    exact lt_of q
  have hA : ∀ b, adsOf (ts ++ ws) b → ∃ j t, j ∈ js ∧ tl[j]? = some (some t) ∧ b ∈ t.ads := fun b ⟨t, ht, hb'⟩ => by
    rcases List.mem_append.mp ht with q | q
    · obtain ⟨k, e⟩ := mem_get q
      obtain ⟨j, e1, e2⟩ := h.get' k t e
      exact ⟨j, t, List.mem_of_getElem? e1, e2, hb'⟩
    · rw [hw t q] at hb'; simp at hb'
  have hA2 : ∀ (j : Nat) (t : T), j ∈ js → tl[j]? = some (some t) → ∀ b ∈ t.ads, adsOf (ts ++ ws) b := fun j t hj e b hb' => by
    obtain ⟨k, e1⟩ := mem_get hj
    obtain ⟨u, e2, e3⟩ := h.get k j e1
    rw [e] at e3
    cases e3
    exact ⟨t, List.mem_append_left _ (List.mem_of_getElem? e2), hb'⟩
  have nA : ∀ b, F b → ¬ adsOf (ts ++ ws) b := fun b hb' hA' => by
    obtain ⟨j, t, _, e, q⟩ := hA b hA'
    exact g.nf j t e b q hb'
  have ext : Ext F H F' H' := ⟨g2.a2, fun b hb' => by
    obtain ⟨o, e⟩ := g.tr b hb'
    rw [e]
    exact g2.a1 b o e (nA b hb')⟩
  -- an entry that is no argument's
  have kept : ∀ (i : Nat) (t : T), i ∉ js → tl[i]? = some (some t) → ∀ b ∈ t.ads, H' b = H b := fun i t hi e b hb' => by
    obtain ⟨o, eo⟩ := (g.ok i t e).tracked hb'
    rw [eo]
    refine g2.a1 b o eo fun hA' => ?_
    obtain ⟨j, u, hj, e2, q⟩ := hA b hA'
    exact g.dj i j t u (fun z => hi (z ▸ hj)) e e2 b hb' q
  -- what stands at an argument's place, behind
  have cse : ∀ (i : Nat) (t : T), (setAll tl js ts' ++ rest.map some)[i]? = some (some t) → (i ∉ js ∧ tl[i]? = some (some t) ∧ i < tl.length) ∨ (∃ k, ((ts' ++ rest).map some)[k]? = some (some t) ∧ ((k < js.length ∧ js[k]? = some i) ∨ (js.length ≤ k ∧ i = tl.length + (k - js.length)))) := fun i t e => by
    by_cases hi : i < tl.length
    · rw [List.getElem?_append_left (by rw [setAll_len]; exact hi)] at e
      by_cases hj : i ∈ js
      · obtain ⟨k, ek⟩ := mem_get hj
        obtain ⟨u, e1, e2⟩ := setAll_in nd hb hl k i ek
        rw [e] at e2
        cases e2
        have hk := (List.getElem?_eq_some_iff.mp e1).1
        exact .inr ⟨k, by rw [List.getElem?_map, List.getElem?_append_left hk, e1]; rfl, .inl ⟨by omega, ek⟩⟩
      · rw [setAll_out hj] at e
        exact .inl ⟨hj, e, hi⟩
    · rw [List.getElem?_append_right (by rw [setAll_len]; omega), setAll_len] at e
      refine .inr ⟨js.length + (i - tl.length), ?_, .inr ⟨by omega, by omega⟩⟩
      rw [List.map_append, List.getElem?_append_right (by rw [List.length_map]; omega), List.length_map, hl]
      rw [show js.length + (i - tl.length) - js.length = i - tl.length by omega]
      exact e
  have apart : ∀ (i : Nat) (t : T) (k : Nat) (u : T), i ∉ js → tl[i]? = some (some t) → ((ts' ++ rest).map some)[k]? = some (some u) → ∀ b ∈ t.ads, b ∉ u.ads := fun i t k u hi e e2 b hb1 hb2 => by
    obtain ⟨o, eo⟩ := (g.ok i t e).tracked hb1
    rcases g2.a4 k u e2 b hb2 with q | q
    · obtain ⟨j, w, hj, e3, q2⟩ := hA b q
      exact g.dj i j t w (fun z => hi (z ▸ hj)) e e3 b hb1 q2
    · have : H b = none := q
      rw [eo] at this; cases this
  refine ⟨⟨fun i t e => ?_, fun i t e => ?_, fun i j t u hij e1 e2 a ha hb' => ?_, fun i t e a ha => ?_, g2.tr, fun b o e hA' => ?_, fun b hb' => g2.a2 b (g.a2 b hb'), fun b hb' => ?_, fun i t e a ha => ?_⟩, ext⟩
  · rcases cse i t e with ⟨hi, q, _⟩ | ⟨k, q, _⟩
    · exact (g.ok i t q).mono ext (kept i t hi q)
    · exact g2.ok k t q
  · rcases cse i t e with ⟨hi, q, _⟩ | ⟨k, q, _⟩
    · exact g.nd i t q
    · exact g2.nd k t q
  · rcases cse i t e1 with ⟨hi, q1, _⟩ | ⟨k, q1, w1⟩ <;> rcases cse j u e2 with ⟨hj, q2, _⟩ | ⟨l, q2, w2⟩
    · exact g.dj i j t u hij q1 q2 a ha hb'
    · exact apart i t l u hi q1 q2 a ha hb'
    · exact apart j u k t hj q2 q1 a hb' ha
    · refine g2.dj k l t u (fun z => hij ?_) q1 q2 a ha hb'
      subst z
      rcases w1 with ⟨l1, w1⟩ | ⟨l1, w1⟩ <;> rcases w2 with ⟨l2, w2⟩ | ⟨l2, w2⟩
      · rw [w1] at w2; exact Option.some.inj w2
      · omega
      · omega
      · omega
  · rcases cse i t e with ⟨hi, q, _⟩ | ⟨k, q, _⟩
    · intro hF
      obtain ⟨o, eo⟩ := (g.ok i t q).tracked ha
      rcases g2.a3 a hF with z | z | z
      · exact g.nf i t q a ha z
      · obtain ⟨j, w, hj, e3, q2⟩ := hA a z
        exact g.dj i j t w (fun y => hi (y ▸ hj)) q e3 a ha q2
      · have : H a = none := z
        rw [eo] at this; cases this
    · exact g2.nf k t q a ha
  · have e1 := g.a1 b o e hA'
    refine g2.a1 b o e1 fun hA2' => ?_
    obtain ⟨j, t, _, e3, q⟩ := hA b hA2'
    rcases g.a4 j t e3 b q with z | z
    · exact hA' z
    · rw [z] at e; cases e
  · rcases g2.a3 b hb' with z | z | z
    · exact g.a3 b z
    · obtain ⟨j, t, _, e3, q⟩ := hA b z
      exact .inr (g.a4 j t e3 b q)
    · exact .inr (am_of g z)
  · rcases cse i t e with ⟨hi, q, _⟩ | ⟨k, q, _⟩
    · exact g.a4 i t q a ha
    · rcases g2.a4 k t q a ha with z | z
      · obtain ⟨j, w, _, e3, q2⟩ := hA a z
        exact g.a4 j w e3 a q2
      · exact am_of g z
end
end VE

namespace VE
open PySem PySem.Spec
                     PyProof.Rows L2

section
variable {c : Cc} {kp kpa kpb : Nat → Prop} {F : Fz} {H : Hp} {tl : Ld} {σ : L2.St}
def isIo : E → Bool
  | .io _ => true
  | _ => false
theorem evAs_cons {g : Ge} {ck : Option Nat} {m : E} {ms : List E} {env : Env} (h : isIo m = false) : evAs g ck (m :: ms) env = (evO g m env).bind fun x env1 => if clsOk ck (some x) then (evAs g none ms env1).bind fun xs env2 => .ok (.t x :: xs) env2 else .bad := by
  rw [evAs]
  intro i e
  rw [e] at h
  cases h
def ioS : List E → List Nat
  | [] => []
  | .io i :: r => i :: ioS r
  | _ :: r => ioS r
/-- the reading of arguments -/
def KA (c : Cc) (σ : L2.St) (tl : Ld) (Q : List V → Hp → Prop) : List A → Fz → Hp → Ld → Prop := fun as _ H' tl' => ∀ vs js, AtA c.n σ tl' tl.length as vs js → Q vs H'
def tAs (c : Cc) (kp : Nat → Prop) (m : Env → Out (List A)) : TA := fun σ H Q => ∃ F tl, Sim c F tl σ H ∧ RunK c kp σ tl (m (era c.n tl)) (KA c σ tl Q)
theorem as_nil : PA c.X [] (tAs c kp (evAs c.G none [])) := PA.imp pa_nil fun σ H Q ⟨F, tl, s, r⟩ => by
  unfold evAs at r
  exact r F H tl s Stp.refl rfl [] [] ⟨rfl, rfl⟩
theorem as_io {e : Expr} {es : List Expr} {i : Nat} {ms : List E} (h : PE c.X e (tVar i)) (hi : i < c.n) (hs : isStar e = false) (hr : PA c.X es (tAs c kp (evAs c.G none ms))) : PA c.X (e :: es) (tAs c kp (evAs c.G none (.io i :: ms))) := by
  refine PA.imp (pa_cons h hr (noStar hs)) fun σ H Q ⟨F, tl, s, r⟩ => ?_
  unfold evAs at r
  have r : RunK c kp σ tl (if (gt (era c.n tl) i).isSome && clsOk none (gt (era c.n tl) i) then (evAs c.G none ms (era c.n tl)).bind fun xs env1 => .ok (.s i :: xs) env1 else .bad) (KA c σ tl Q) := r
  cases e1 : gt (era c.n tl) i with
  | none => rw [e1] at r; exact r.elim
  | some o =>
    rw [e1] at r
    have r : RunK c kp σ tl ((evAs c.G none ms (era c.n tl)).bind fun xs env1 => .ok (.s i :: xs) env1) (KA c σ tl Q) := r
    obtain ⟨_, t, ht, _⟩ := gt_era e1
    have hv := s.sl i t hi ht
    refine ⟨t.v, hv, F, tl, s, ?_⟩
    refine (RunK.bind r).imp fun as F' H' tl' s' st' r' vs js h => ?_
    exact r' F' H' tl' s' Stp.refl rfl (t.v :: vs) (i :: js) ⟨t.v, vs, js, rfl, rfl, hi, hv, h⟩
theorem as_e {e : Expr} {es : List Expr} {m : E} {ms : List E} (h : PE c.X e (tE c kpa (evO c.G m))) (hm : isIo m = false) (hs : isStar e = false) (hr : PA c.X es (tAs c kpb (evAs c.G none ms))) (k1 : ∀ i, kp i → kpa i) (k2 : ∀ i, kp i → kpb i) : PA c.X (e :: es) (tAs c kp (evAs c.G none (m :: ms))) := by
  refine PA.imp (pa_cons h hr (noStar hs)) fun σ H Q ⟨F, tl, s, r⟩ => ?_
  rw [evAs_cons hm] at r
  refine ⟨F, tl, s, RunK.o ((RunK.bind r).less k1 |>.imp fun o F1 H1 tl1 s1 st1 r1 j t hj ht ho => ?_)⟩
  have r1 : RunK c kp σ tl1 ((evAs c.G none ms (era c.n tl1)).bind fun xs env2 => .ok (.t o :: xs) env2) (KA c σ tl Q) := r1
  refine ⟨F1, tl1, s1, (RunK.bind r1).less k2 |>.imp fun as F2 H2 tl2 s2 st2 r2 vs js h => ?_⟩
  have hn := s.len
  have h2 : tl2[j]? = some (some t) := (st2.tmp j (by omega) (lt_of ht)).trans ht
  exact r2 F2 H2 tl2 s2 Stp.refl rfl (t.v :: vs) (j :: js) ⟨t.v, vs, j, js, rfl, rfl, hj, ⟨t, h2, ho, rfl⟩, AtA.mono (lt_of ht) h⟩

theorem AtA.slots {n : Nat} {tl : Ld} : ∀ {as : List A} {lo : Nat} {vs : List V} {js : List Nat}, AtA n σ tl lo as vs js → as.length = js.length
  | [], _, _, _, h => by rw [h.2]; rfl
  | .t o :: as, lo, vs, js, h => by
    obtain ⟨v, vr, j, jr, e1, e2, h1, h2, h4⟩ := h
    rw [e2, List.length_cons, List.length_cons, AtA.slots h4]
  | .s i :: as, lo, vs, js, h => by
    obtain ⟨v, vr, jr, e1, e2, h1, h2, h3⟩ := h
    rw [e2, List.length_cons, List.length_cons, AtA.slots h3]
theorem era_back {n : Nat} {tl0 : Ld} : ∀ {as : List A} {lo : Nat} {vs : List V} {js : List Nat} {ts : List T} {ex : List O} {tl : Ld}, n ≤ lo → AtA n σ tl0 lo as vs js → ts.length = js.length → era n (setAll tl js ts) = backA as (ts.map T.o ++ ex) (era n tl)
  | [], lo, vs, js, ts, ex, tl, hl, h, e => by
    obtain ⟨_, rfl⟩ := h
    rw [show setAll tl [] ts = tl by cases ts <;> rfl]
    unfold backA
    rfl
  | .t o :: as, lo, vs, js, ts, ex, tl, hl, h, e => by
    obtain ⟨v, vr, j, jr, e1, rfl, h1, h2, h4⟩ := h
    cases ts with
    | nil => cases e
    | cons t ts =>
      have ih := era_back (ts := ts) (ex := ex) (tl := tl.set j (some t)) (show n ≤ j + 1 by omega) h4 (Nat.succ.inj e)
      show era n (setAll (tl.set j (some t)) jr ts) = backA as (ts.map T.o ++ ex) (era n tl)
      rw [ih, era_set, if_neg (by omega)]
  | .s i :: as, lo, vs, js, ts, ex, tl, hl, h, e => by
    obtain ⟨v, vr, jr, e1, rfl, h1, h2, h3⟩ := h
    cases ts with
    | nil => cases e
    | cons t ts =>
      have ih := era_back (ts := ts) (ex := ex) (tl := tl.set i (some t)) hl h3 (Nat.succ.inj e)
      show era n (setAll (tl.set i (some t)) jr ts) = backA as (ts.map T.o ++ ex) (setS (era n tl) i t.o)
      rw [ih, era_set']
      rfl
theorem Sim.calledG {tl1 : Ld} {as : List A} {js : List Nat} {ts ws ts' rest : List T} {F' : Fz} {H' : Hp} (s : Sim c F tl1 σ H) (st : Stp c.n kpa tl tl1) (hn : c.n ≤ tl.length) (k1 : ∀ i, kp i → kpa i) (k2 : ∀ i, kp i → i ∉ argsS as) (hm : ∀ j ∈ js, tl.length ≤ j ∨ (j < c.n ∧ j ∈ argsS as)) (ndj : js.Nodup)
    (h : TsAt tl1 js ts) (hw : ∀ t ∈ ws, t.ads = []) (g2 : Good c.S (amOf H F (ts ++ ws)) F' H' ((ts' ++ rest).map some)) (hv : ts'.map T.v = ts.map T.v) :
    Sim c F' (setAll tl1 js ts' ++ rest.map some) σ H' ∧ Stp c.n kp tl (setAll tl1 js ts' ++ rest.map some) := by
  have hlen : ts'.length = js.length := by
    have := congrArg List.length hv
    rw [List.length_map, List.length_map] at this
    rw [this, h.len]
  obtain ⟨g3, ext⟩ := s.g.called ndj h hw g2 hlen
  have hb : ∀ j ∈ js, j < tl1.length := fun j hj => by
    obtain ⟨k, e⟩ := mem_get hj
    obtain ⟨t, _, q⟩ := h.get k j e
    exact lt_of q
  have hlow : ∀ (i : Nat), i < tl1.length → (setAll tl1 js ts' ++ rest.map some)[i]? = (setAll tl1 js ts')[i]? := fun i hi => List.getElem?_append_left (by rw [setAll_len]; exact hi)
  -- the same root at an argument's place
  have root : ∀ (i : Nat), i ∈ js → ∃ t u : T, tl1[i]? = some (some t) ∧ (setAll tl1 js ts')[i]? = some (some u) ∧ u.v = t.v := fun i hi => by
    obtain ⟨k, e⟩ := mem_get hi
    obtain ⟨t, e1, e2⟩ := h.get k i e
    obtain ⟨u, e3, e4⟩ := setAll_in ndj hb hlen k i e
    refine ⟨t, u, e2, e4, ?_⟩
    have q := congrArg (fun l => l[k]?) hv
    simp only [List.getElem?_map, e1, e3] at q
    exact Option.some.inj q
  refine ⟨⟨g3, by rw [List.length_append, setAll_len]; have := s.len; omega, fun i u hi e => ?_, fun i v e => ?_, fun q e => (s.xe q e).mono ext, s.ln⟩, ⟨by rw [List.length_append, setAll_len]; have := st.len; omega, fun i h1 h2 => ?_, fun i h1 h2 => ?_⟩⟩
  · have hil : i < tl1.length := Nat.lt_of_lt_of_le hi s.len
    rw [hlow i hil] at e
    by_cases hj : i ∈ js
    · obtain ⟨t, w, e1, e2, e3⟩ := root i hj
      rw [e] at e2
      cases e2
      rw [e3]
      exact s.sl i t hi e1
    · rw [setAll_out hj] at e
      exact s.sl i u hi e
  · obtain ⟨h0, t, h1, h2⟩ := s.lo i v e
    have hil : i < tl1.length := lt_of h1
    by_cases hj : i ∈ js
    · obtain ⟨t', w, e1, e2, e3⟩ := root i hj
      rw [h1] at e1
      cases e1
      exact ⟨h0, w, by rw [hlow i hil]; exact e2, e3.trans h2⟩
    · exact ⟨h0, t, by rw [hlow i hil, setAll_out hj]; exact h1, h2⟩
  · have hl := st.len
    rw [hlow i (by omega), setAll_out fun q => ?_]
    · exact st.tmp i h1 h2
    · rcases hm i q with z | z <;> omega
  · have hl := st.len
    rw [hlow i (by omega), setAll_out fun q => ?_]
    · exact st.kep i h1 (k1 i h2)
    · rcases hm i q with z | z
      · omega
      · exact k2 i h2 z.2
theorem Sim.called {tl1 : Ld} {as : List A} {vs : List V} {js : List Nat} {ts ws ts' rest : List T} {F' : Fz} {H' : Hp} {ex : List O} (s : Sim c F tl1 σ H) (st : Stp c.n kpa tl tl1) (hn : c.n ≤ tl.length) (k1 : ∀ i, kp i → kpa i) (k2 : ∀ i, kp i → i ∉ argsS as) (at_ : AtA c.n σ tl1 tl.length as vs js) (nd : (argsS as).Nodup)
    (h : TsAt tl1 js ts) (hw : ∀ t ∈ ws, t.ads = []) (g2 : Good c.S (amOf H F (ts ++ ws)) F' H' ((ts' ++ rest).map some)) (hv : ts'.map T.v = ts.map T.v) :
    Sim c F' (setAll tl1 js ts' ++ rest.map some) σ H' ∧ Stp c.n kp tl (setAll tl1 js ts' ++ rest.map some) ∧ era c.n (setAll tl1 js ts' ++ rest.map some) = backA as (ts'.map T.o ++ ex) (era c.n tl1) := by
  have hlen : ts'.length = js.length := by
    have := congrArg List.length hv
    rw [List.length_map, List.length_map] at this
    rw [this, h.len]
  obtain ⟨s2, st2⟩ := s.calledG (as := as) st hn k1 k2 at_.mem (AtA.nodup hn nd at_) h hw g2 hv
  refine ⟨s2, st2, ?_⟩
  rw [era_app (by rw [setAll_len]; exact s.len)]
  exact era_back hn at_ hlen
end
end VE

namespace VE
open PySem PySem.Spec
                     PyProof.Rows L2

section
variable {c : Cc} {kp kpa kpb : Nat → Prop} {F : Fz} {H : Hp} {tl : Ld} {σ : L2.St}
theorem RunK.bind0 {α β : Type} {m : Out α} {f : α → Env → Out β} {K : β → Fz → Hp → Ld → Prop} (h : RunK c kp σ tl (m.bind f) K) : RunK c kp σ tl m fun a _ _ tl' => RunK c kp σ tl (f a (era c.n tl')) K := by
  cases m with
  | ok a env =>
    intro F' H' tl' s st e
    rw [e]
    exact h
  | exc x env => exact h
  | bad => exact h
theorem dfl_ws {S : Sta} : ∀ {ds : List D} {vs : List V}, RepDs S F H ds vs → ∃ ws : List T, ws.map T.v = vs ∧ ws.map T.o = ds.map O.v ∧ ∀ t ∈ ws, ∃ d v, t = T.val d v ∧ RepD S F H d v
  | [], vs, h => ⟨[], by rw [show vs = [] from h]; rfl, rfl, fun t ht => by simp at ht⟩
  | d :: ds, vs, h => by
    obtain ⟨v, vr, rfl, h1, h2⟩ := h
    obtain ⟨ws, g1, g2, g3⟩ := dfl_ws h2
    refine ⟨T.val d v :: ws, by rw [List.map_cons, g1]; rfl, by rw [List.map_cons, g2]; rfl, fun t ht => ?_⟩
    rcases List.mem_cons.mp ht with q | q
    · exact ⟨d, v, q, h1⟩
    · exact g3 t q
theorem val_ads {d : D} {v : V} : (T.val d v).ads = [] := rfl
abbrev EW (c : Cc) (σ : L2.St) : XK := fun cls d H' => c.W cls d σ H'
theorem split_at {α β : Type} {f : α → β} : ∀ {xs : List α} {as bs : List β}, xs.map f = as ++ bs → ∃ x1 x2, xs = x1 ++ x2 ∧ x1.map f = as ∧ x2.map f = bs
  | xs, [], bs, h => ⟨[], xs, rfl, rfl, h⟩
  | [], a :: as, bs, h => by cases h
  | x :: xs, a :: as, bs, h => by
    injection h with h1 h2
    obtain ⟨x1, x2, e, g1, g2⟩ := split_at (xs := xs) h2
    exact ⟨x :: x1, x2, by rw [e]; rfl, by rw [List.map_cons, h1, g1], g2⟩
/-- the promise asked of the def is what the evaluator says -/
theorem call_sp {C : Calls} {k : CK} {f : Nat} {tl1 : Ld} {as : List A} {vs : List V} {js : List Nat} {dfl : List D} {dvs : List V} {Q : VK} (s : Sim c F tl1 σ H) (st : Stp c.n kpa tl tl1) (hn : c.n ≤ tl.length) (k1 : ∀ i, kp i → kpa i) (k2 : ∀ i, kp i → i ∉ argsS as) (at_ : AtA c.n σ tl1 tl.length as vs js)
    (hd : RepDs c.S F H dfl dvs) (r : RunK c kp σ tl (runCall C k f as dfl (era c.n tl1)) (KO tl Q)) : spF c.S C f (vs ++ dvs) H Q (EW c σ) := by
  unfold runCall at r
  by_cases nd : (argsS as).Nodup
  · rw [if_pos nd] at r
    cases e1 : argO (era c.n tl1) as with
    | none => rw [e1] at r; exact r.elim
    | some os =>
      rw [e1] at r
      have r : RunK c kp σ tl (if clsOk k.slf os.head? then (match C f (os ++ dfl.map O.v) with
        | .ok r fin => .ok r (backA as fin (era c.n tl1))
        | .exc x fin => .exc x (backA as fin (era c.n tl1))
        | .bad => .bad) else .bad) (KO tl Q) := r
      split at r
      · obtain ⟨ts, g1, g2, g3⟩ := at_.things s e1
        obtain ⟨ws, w1, w2, w3⟩ := dfl_ws hd
        have hw : ∀ t ∈ ws, t.ads = [] := fun t ht => by obtain ⟨d, v, rfl, _⟩ := w3 t ht; rfl
        have ndj := AtA.nodup hn nd at_
        refine ⟨F, ts ++ ws, by rw [List.map_append, g2, w1], s.g.args ndj g1 w3, ?_⟩
        rw [show (ts ++ ws).map T.o = os ++ dfl.map O.v by rw [List.map_append, g3, w2]]
        cases e2 : C f (os ++ dfl.map O.v) with
        | bad => rw [e2] at r; exact r.elim
        | ok res fin =>
          rw [e2] at r
          intro F' H' ts' t gd hv ho ht
          obtain ⟨t1, t2, rfl, v1, v2⟩ := split_at (hv.trans (List.map_append ..))
          rw [List.append_assoc] at gd
          obtain ⟨s2, st2, e3⟩ := s.called (ex := t2.map T.o) st hn k1 k2 at_ nd g1 hw gd v1
          rw [← List.map_append, ho] at e3
          have r : ∀ (F' : Fz) (H' : Hp) (tl' : Ld), Sim c F' tl' σ H' → Stp c.n kp tl tl' → era c.n tl' = backA as fin (era c.n tl1) → KO tl Q res F' H' tl' := r
          refine r F' H' _ s2 st2 e3 (tl1.length + t2.length) t (Nat.le_trans st.len (by omega)) ?_ ht
          rw [List.getElem?_append_right (by rw [setAll_len]; omega), setAll_len, Nat.add_sub_cancel_left, List.map_append, List.getElem?_append_right (by rw [List.length_map]; omega), List.length_map, Nat.sub_self]
          rfl
        | exc x fin =>
          rw [e2] at r
          intro F' H' ts' d gd hv ho hx
          obtain ⟨t1, t2, rfl, v1, v2⟩ := split_at (hv.trans (List.map_append ..))
          obtain ⟨s2, st2, e3⟩ := s.called (ex := t2.map T.o) (kp := fun _ => False) st hn (fun _ z => z.elim) (fun _ z => z.elim) at_ nd g1 hw gd v1
          rw [← List.map_append, ho] at e3
          exact r F' H' _ d s2 st2 e3 hx
      · exact r.elim
  · rw [if_neg nd] at r
    exact r.elim
/-- a call of a def, its exceptions taken by the state -/
theorem run_fnT {X : Cx} {W : WX} {k : Nat} {f : Addr} {fd : FuncData} {ps : List Str} {sp : Sp} {dvs : List V} {ds : List Value} {pins : List (Addr × Obj)} {σ : L2.St} {H : Hp} {s : Shared} {Q : VK} {us : List Value} {vs : List V} (tk : Takes X W)
    (F : FnOk X.prog X.w X.K X.mg X.base (CX X.prog X.w) k f fd ps sp) (hr : Room k X.A) (hb : Binds X.K fd ps ds) (hd : Vals dvs ds) (I : L2.Inv X pins σ H s) (r : Vals vs us) (h : sp (vs ++ dvs) H Q fun cls d H' => W cls d σ H') :
    wpAny (model X.prog X.w) X.A (call (.ref
                                            f) us) (EP X pins σ Q) X.xe s := by
  have rel := r.append hd
  have hl : (us ++ ds).length = ps.length := (rel.length.symm).trans (F.len _ _ _ _ h)
  have go := F.run X.A X.stack s H ⟨us, []⟩ (us ++ ds) (vs ++ dvs) Q _ hr I.env0 (hb s us I.kIn hl) rel h
  refine wpAny_call (codeAny_mono go fun res s' hq => ?_)
  match res, hq with
  | .error e, hq => exact tk _ _ (XE.of_call I (fun _ _ _ z => z) hq)
  | .ok (.ret u), hq => exact I.after hq
theorem ioA : ∀ (ms : List E) (ck : Option Nat) (env env' : Env) (as : List A), evAs c.G ck ms env = .ok as env' → argsS as = ioS ms
  | [], ck, env, env', as, h => by
    unfold evAs at h
    cases ck with
    | none => cases h; rfl
    | some k => cases h
  | m :: ms, ck, env, env', as, h => by
    by_cases hm : isIo m = true
    · obtain ⟨i, rfl⟩ : ∃ i, m = .io i := by
        cases m <;> first
          | exact ⟨_, rfl⟩
          | (simp [isIo] at hm)
      unfold evAs at h
      split at h
      · cases e2 : evAs c.G none ms env with
        | bad => rw [e2] at h; cases h
        | exc x e => rw [e2] at h; cases h
        | ok as' e' =>
          rw [e2] at h
          cases h
          show i :: argsS as' = i :: ioS ms
          rw [ioA ms none env _ as' e2]
      · cases h
    · have hm' : isIo m = false := Bool.eq_false_iff.mpr hm
      rw [evAs_cons hm'] at h
      have hio : ioS (m :: ms) = ioS ms := by cases m <;> first | rfl | cases hm'
      rw [hio]
      cases e1 : evO c.G m env with
      | bad => rw [e1] at h; cases h
      | exc x e => rw [e1] at h; cases h
      | ok o env1 =>
        rw [e1] at h
        have h : (if clsOk ck (some o) then (evAs c.G none ms env1).bind fun xs env2 => .ok (.t o :: xs) env2 else .bad) = .ok as env' := h
        split at h
        · cases e2 : evAs c.G none ms env1 with
          | bad => rw [e2] at h; cases h
          | exc x e => rw [e2] at h; cases h
          | ok as' e' =>
            rw [e2] at h
            cases h
            show argsS as' = ioS ms
            exact ioA ms none env1 _ as' e2
        · cases h
theorem RunK.withEq {α : Type} {r : Out α} {K : α → Fz → Hp → Ld → Prop} (h : ∀ a env, r = .ok a env → RunK c kp σ tl (.ok a env) K) (h2 : ∀ x env, r = .exc x env → OnX c σ tl x env) (h3 : r ≠ .bad) : RunK c kp σ tl r K := by
  cases r with
  | ok a env => exact h a env rfl
  | exc x env => exact h2 x env rfl
  | bad => exact absurd rfl h3
/-- the arguments, then the def -/
theorem args_sp {k : CK} {f : Nat} {ms : List E} {dfl : List D} {dvs : List V} {Q : VK} (s : Sim c F tl σ H) (hdf : ∀ F H, RepDs c.S F H dfl dvs) (k1 : ∀ i, kp i → kpa i) (k2 : ∀ i, kp i → i ∉ ioS ms) (tr : ∀ as, turnArgs k as = as)
    (r : RunK c kp σ tl ((evAs c.G none ms (era c.n tl)).bind fun as env1 => runCall c.G.C k f (turnArgs k as) dfl env1) (KO tl Q)) : tAs c kpa (evAs c.G none ms) σ H fun vs H1 => spF c.S c.G.C f (vs ++ dvs) H1 Q (EW c σ) := by
  refine ⟨F, tl, s, ?_⟩
  have r0 := RunK.bind0 r
  cases e : evAs c.G none ms (era c.n tl) with
  | bad => rw [e] at r; exact r.elim
  | exc x env => rw [e] at r; exact r
  | ok as env =>
    rw [e] at r0
    intro F1 H1 tl1 s1 st1 e1 vs js at_
    have r1 := r0 F1 H1 tl1 s1 (st1.mono k1) e1
    dsimp only at r1
    rw [tr as] at r1
    exact call_sp s1 st1 s.len k1 (fun i hi => by rw [ioA ms none _ _ as e]; exact k2 i hi) at_ (hdf F1 H1) r1
theorem plain_back {pos : Pos} {env : PySem.Env} : ∀ {es : List Expr}, es.all (fun e => !isStar e) = true → (backTo pos (starEach es env)).any (·.1) = false
  | [], _ => rfl
  | e :: es, h => by
    obtain ⟨h1, h2⟩ := Bool.and_eq_true_iff.mp (show (!isStar e && es.all fun e => !isStar e) = true from h)
    rw [noStar (by simpa using h1)]
    show (false || (backTo pos (starEach es env)).any (·.1)) = false
    rw [plain_back h2]; rfl
theorem s_call {k : Nat} {fa : Addr} {fd : FuncData} {ps : List Str} {f : Nat} {x : Str} {p pos : Pos} {e : Expr} {es : List Expr} {ms : List E} {kw : Nat} {dfl : List D} {dvs : List V} {ds : List Value} (fx : Fx c) (FF : FnOk c.X.prog c.X.w c.X.K c.X.mg c.X.base (CX c.X.prog c.X.w) k fa fd ps (spF c.S c.G.C f)) (hr : Room k c.X.A)
    (hg : Gl c.X x) (hm : c.X.mg x = some (.ref fa)) (hk : PySem.W.keepIn c.X.K (.ref fa) = true) (hb : Binds c.X.K fd ps ds) (hd : Vals dvs ds) (hdf : ∀ F H, RepDs c.S F H dfl dvs) (ha : PA c.X (e :: es) (tAs c kpa (evAs c.G none ms))) (hdb : (x == ("__debug__" : Str)) = false)
    (hs : isStar e = false) (hss : es.all (fun e => !isStar e) = true) (k1 : ∀ i, kp i → kpa i) (k2 : ∀ i, kp i → i ∉ ioS ms) : PE c.X (.Call (.Name x p) (e :: es) [] pos) (tE c kp (evO c.G (.call .fn f ms kw dfl))) := by
  refine ⟨fun pins s σ H Q I ⟨F, tl, s0, r⟩ => wpAny_Call_Name_kw (ld_glob I hg hm ?_ hdb)⟩
  unfold evO at r
  have q := args_sp (k := .fn) s0 hdf k1 k2 (fun _ => rfl) (RunO.k r)
  refine PySem.W.callWith_K (h₀ := c.X.base) I.ok.mod.kin hk (thn (ha.run pos pins s σ H _ I q) fun us s1 ⟨vs, H1, I1, rv, q1⟩ => ⟨I1.kIn, ?_⟩) (noStar hs) (plain_back hss)
  exact run_fnT fx.tk FF hr hb hd I1 rv q1
theorem s_call0 {k : Nat} {fa : Addr} {fd : FuncData} {ps : List Str} {f : Nat} {x : Str} {p pos : Pos} {kw : Nat} {dfl : List D} {dvs : List V} {ds : List Value} (fx : Fx c) (FF : FnOk c.X.prog c.X.w c.X.K c.X.mg c.X.base (CX c.X.prog c.X.w) k fa fd ps (spF c.S c.G.C f)) (hr : Room k c.X.A)
    (hg : Gl c.X x) (hm : c.X.mg x = some (.ref fa)) (hk : PySem.W.keepIn c.X.K (.ref fa) = true) (hb : Binds c.X.K fd ps ds) (hd : Vals dvs ds) (hdf : ∀ F H, RepDs c.S F H dfl dvs) (hdb : (x == ("__debug__" : Str)) = false) : PE c.X (.Call (.Name x p) [] [] pos) (tE c kp (evO c.G (.call .fn f [] kw dfl))) := by
  refine ⟨fun pins s σ H Q I ⟨F, tl, s0, r⟩ => wpAny_Call_Name_kw (ld_glob I hg hm ?_ hdb)⟩
  unfold evO at r
  obtain ⟨F1, tl1, s1, r1⟩ := args_sp (k := .fn) (kpa := kp) s0 hdf (fun _ z => z) (fun _ _ => by simp [ioS]) (fun _ => rfl) (RunO.k r)
  unfold evAs at r1
  have q := r1 F1 H tl1 s1 Stp.refl rfl [] [] ⟨rfl, rfl⟩
  exact PySem.W.callWith_K0 I.kIn hk (run_fnT (us := []) fx.tk FF hr hb hd I .nil q)
end
end VE

namespace VE
open PySem PySem.Spec
                     PyProof.Rows L2

theorem meth_eval {o : Expr} {m : Str} {apos pos : Pos} {es : List Expr} {env : PySem.Env} (h : isSup o = false) (hs : es.all (fun e => !isStar e) = true) (hn : es.length < 29) (hl : (apos.endLine == pos.line) = true) :
    eval (.Call (.Attribute o m apos) es [] pos) env = (do
      let ov ← eval o env
      standAt apos.atName
      let (f, first) ← holding [ov] (getMethod ov m (do return (← importBound o env).getD true))
      callWith pos f first (backTo pos (starEach es env)) (backToKw pos (keywordEach [] env))) := by
  have e0 : eval (.Call (.Attribute o m apos) es [] pos) env = (do
      let ov ← attributeBase o m env (eval o env)
      standAt apos.atName
      methodCall o m apos pos env ov (es.length + 0) (backTo pos (starEach es env)) (backToKw pos (keywordEach [] env))) := rfl
  have hform : methodCallForm (es.length + 0) (backTo pos (starEach es env)) (backToKw pos (keywordEach [] env)) = true := by
    unfold methodCallForm
    have h1 : (backTo pos (starEach es env)).all (fun x => !x.1) = true := by
      have q := plain_back (pos := pos) (env := env) hs
      rw [List.all_eq_not_any_not]
      simpa using q
    simp only [h1, Bool.true_and]
    simp [backToKw, keywordEach]
    omega
  rw [e0, noSup h]
  unfold methodCall
                   calleeOf methodCallPos
  rw [hform]
  simp [hl]

section
variable {c : Cc} {kp kpa kpb : Nat → Prop} {F : Fz} {H : Hp} {tl : Ld} {σ : L2.St}
theorem zip_no {nm : Str} : ∀ {ns : List Str} {vs : List V}, nm ∉ ns → (ns.zip vs).lookup nm = none
  | [], _, _ => rfl
  | n :: ns, [], _ => rfl
  | n :: ns, v :: vs, h => by
    have h1 : (nm == n) = false := beq_eq_false_iff_ne.mpr fun q => h (by rw [q]; exact List.mem_cons_self)
    rw [List.zip_cons_cons, List.lookup_cons, h1]
    exact zip_no fun q => h (List.mem_cons_of_mem _ q)
/-- a thing of a class -/
theorem obj_at {S : Sta} {t : T} {k : Nat} (ok : t.ok S F H) (h : t.o.cls = some k) : ∃ a dx vs, t.v = .ref a ∧ H a = some (.ins (S.cn k) dx ((S.fs k).zip vs)) ∧ k ∈ S.cl := by
  cases t with
  | obj a dx k' cs =>
    have : k' = k := Option.some.inj h
    subst this
    exact ⟨a, dx, _, rfl, ok.1, ok.2.1.2⟩
  | cell y =>
    cases y with
    | val d v => cases d with
      | obj k' ds =>
        have : k' = k := Option.some.inj h
        subst this
        obtain ⟨a, dx, vs, e, ⟨_, h1⟩, ⟨_, h2⟩, _⟩ := (show RepD S F H (.obj k' ds) v from ok)
        exact ⟨a, dx, vs, e, h1, h2⟩
      | _ => cases h
    | _ => cases h
/-- what a receiver must be, then the arguments, then the def -/
def Recv (c : Cc) (kpb : Nat → Prop) (σ : L2.St) (kc f : Nat) (ms : List E) (dvs : List V) (Q : VK) (x : V) (H1 : Hp) : Prop := ∃ a dx vs, x = .ref a ∧ H1 a = some (.ins (c.S.cn kc) dx ((c.S.fs kc).zip vs)) ∧ kc ∈ c.S.cl ∧
  tAs c kpb (evAs c.G none ms) σ H1 fun us H2 => spF c.S c.G.C f (x :: (us ++ dvs)) H2 Q (EW c σ)
theorem rd_meth {ck : CK} {kc f : Nat} {mo : E} {ms : List E} {kw : Nat} {dfl : List D} {dvs : List V} {Q : VK} (hck : ck.fst = some kc) (tr : ∀ as, turnArgs ck as = as) (hm : isIo mo = false) (hdf : ∀ F H, RepDs c.S F H dfl dvs) (k1 : ∀ i, kp i → kpa i) (k2 : ∀ i, kp i → kpb i) (k3 : ∀ i, kp i → i ∉ ioS ms)
    (h : tE c kp (evO c.G (.call ck f (mo :: ms) kw dfl)) σ H Q) : tE c kpa (evO c.G mo) σ H (Recv c kpb σ kc f ms dvs Q) := by
  obtain ⟨F, tl, s, r⟩ := h
  unfold evO at r
  rw [hck] at r
  have r0 := RunK.bind0 (RunO.k r)
  rw [evAs_cons hm] at r0
  refine ⟨F, tl, s, RunK.o ((RunK.bind r0).less k1 |>.imp fun o F1 H1 tl1 s1 st1 r1 j t hj ht ho => ?_)⟩
  split at r1
  · rename_i hcls
    have hc : o.cls = some kc := by
      unfold clsOk at hcls
      exact of_decide_eq_true hcls
    obtain ⟨a, dx, vs, e1, e2, e3⟩ := obj_at (s1.g.ok j t ht) (by rw [ho]; exact hc)
    refine ⟨a, dx, vs, e1, e2, e3, F1, tl1, s1, ?_⟩
    have r2 := RunK.bind0 r1
    cases e : evAs c.G none ms (era c.n tl1) with
    | bad => rw [e] at r1; exact r1.elim
    | exc x env =>
      rw [e] at r1
      exact OnX.adv (show OnX c σ tl1 x env from r1) Stp.refl
    | ok as env =>
      rw [e] at r1
      intro F2 H2 tl2 s2 st2 e4 us js at_
      have r1 : RunK c kp σ tl1 (.ok (.t o :: as) env) _ := r1
      have r3 := r1 F2 H2 tl2 s2 (st2.mono k2) e4
      dsimp only at r3
      rw [tr] at r3
      have hn := s.len
      have h2 : tl2[j]? = some (some t) := (st2.tmp j (by omega) (lt_of ht)).trans ht
      have at2 : AtA c.n σ tl2 tl.length (.t o :: as) (t.v :: us) (j :: js) := ⟨t.v, us, j, js, rfl, rfl, hj, ⟨t, h2, ho, rfl⟩, AtA.mono (lt_of ht) at_⟩
      have stt : Stp c.n (fun i => kpa i ∧ kpb i) tl tl2 := st1.trans st2 fun i hi => hi
      have := call_sp (kp := kp) s2 stt s.len (fun i hi => ⟨k1 i hi, k2 i hi⟩) (fun i hi => by
        show i ∉ argsS as
        rw [ioA ms none _ _ as e]
        exact k3 i hi) at2 (hdf F2 H2) r3
      exact this
  · exact r1.elim
theorem rd_methS {ck : CK} {kc f i : Nat} {ms : List E} {kw : Nat} {dfl : List D} {dvs : List V} {Q : VK} (hck : ck.fst = some kc) (tr : ∀ as, turnArgs ck as = as) (hi : i < c.n) (hdf : ∀ F H, RepDs c.S F H dfl dvs) (k2 : ∀ i, kp i → kpb i) (k3 : ∀ j, kp j → j ∉ i :: ioS ms)
    (h : tE c kp (evO c.G (.call ck f (.io i :: ms) kw dfl)) σ H Q) : tVar i σ H (Recv c kpb σ kc f ms dvs Q) := by
  obtain ⟨F, tl, s, r⟩ := h
  unfold evO at r
  rw [hck] at r
  have r0 := RunK.bind0 (RunO.k r)
  unfold evAs at r0
  split at r0
  · rename_i hcls
    obtain ⟨hc1, hc2⟩ := Bool.and_eq_true_iff.mp hcls
    cases e1 : gt (era c.n tl) i with
    | none => rw [e1] at hc1; cases hc1
    | some o =>
      rw [e1] at hc2
      have hc : o.cls = some kc := by
        unfold clsOk at hc2
        exact of_decide_eq_true hc2
      obtain ⟨_, t, ht, rfl⟩ := gt_era e1
      have hv := s.sl i t hi ht
      obtain ⟨a, dx, vs, g1, g2, g3⟩ := obj_at (s.g.ok i t ht) hc
      refine ⟨t.v, hv, a, dx, vs, g1, g2, g3, F, tl, s, ?_⟩
      cases e : evAs c.G none ms (era c.n tl) with
      | bad => rw [e] at r0; exact r0.elim
      | exc x env => rw [e] at r0; exact r0
      | ok as env =>
        rw [e] at r0
        intro F2 H2 tl2 s2 st2 e4 us js at_
        have r0 : RunK c kp σ tl (.ok (.s i :: as) env) _ := r0
        have r3 := r0 F2 H2 tl2 s2 (st2.mono k2) e4
        dsimp only at r3
        rw [tr] at r3
        have at2 : AtA c.n σ tl2 tl.length (.s i :: as) (t.v :: us) (i :: js) := ⟨t.v, us, js, rfl, rfl, hi, hv, at_⟩
        have := call_sp (kp := kp) s2 st2 s.len k2 (fun j hj => by
          show j ∉ i :: argsS as
          rw [ioA ms none _ _ as e]
          exact k3 j hj) at2 (hdf F2 H2) r3
        exact this
  · exact r0.elim
theorem s_methG {k kc f : Nat} {fa : Addr} {fd : FuncData} {ps : List Str} {o e : Expr} {m : Str} {apos pos : Pos} {es : List Expr} {ms : List E} {dvs : List V} {ds : List Value} {to t : TE} (fx : Fx c) (FF : FnOk c.X.prog c.X.w c.X.K c.X.mg c.X.base (CX c.X.prog c.X.w) k fa fd ps (spF c.S c.G.C f)) (hr : Room k c.X.A)
    (hmm : Meth c.X.K (c.S.cn kc) m fa) (hno : m ∉ c.S.fs kc) (hb : Binds c.X.K fd ps ds) (hd : Vals dvs ds) (ho : PE c.X o to) (ha : PA c.X (e :: es) (tAs c kpb (evAs c.G none ms)))
    (h0 : isSup o = false) (hs : isStar e = false) (hss : es.all (fun e => !isStar e) = true) (hn : es.length < 28) (hl : (apos.endLine == pos.line) = true) (rd : ∀ σ H Q, t σ H Q → to σ H (Recv c kpb σ kc f ms dvs Q)) : PE c.X (.Call (.Attribute o m apos) (e :: es) [] pos) t := by
  refine ⟨fun pins s σ H Q I q => PySem.W.methodCall_KW (thn (ho.run pins s σ H _ I (rd σ H Q q)) fun u s1 ⟨x, H1, I1, rx, a, dx, vs, ex, ea, hcl, q1⟩ => ?_) (meth_eval h0 (by simp only [List.all_cons, hs, hss]; rfl) (by rw [List.length_cons]; omega) hl)⟩
  subst ex
  obtain rfl : u =
                  Value.ref a := rx
  refine getmeth_ok I1 ea (fx.hK ▸ fx.fc.cls kc hcl) hmm (zip_no hno) ?_
  refine PySem.W.callWith_K (first := [.ref a]) (h₀ := c.X.base) I.ok.mod.kin hmm.kp (thn (ha.run pos pins s1 σ H1 _ I1 q1) fun us s2 ⟨ws, H2, I2, rv, q2⟩ => ⟨I2.kIn, ?_⟩) (noStar hs) (plain_back hss)
  exact run_fnT (us := .ref a :: us) (vs := .ref a :: ws) fx.tk FF hr hb hd I2 (.cons rfl rv) q2
theorem s_methG0 {k kc f : Nat} {fa : Addr} {fd : FuncData} {ps : List Str} {o : Expr} {m : Str} {apos pos : Pos} {dvs : List V} {ds : List Value} {to t : TE} (fx : Fx c) (FF : FnOk c.X.prog c.X.w c.X.K c.X.mg c.X.base (CX c.X.prog c.X.w) k fa fd ps (spF c.S c.G.C f)) (hr : Room k c.X.A)
    (hmm : Meth c.X.K (c.S.cn kc) m fa) (hno : m ∉ c.S.fs kc) (hb : Binds c.X.K fd ps ds) (hd : Vals dvs ds) (ho : PE c.X o to) (h0 : isSup o = false) (hl : (apos.endLine == pos.line) = true) (rd : ∀ σ H Q, t σ H Q → to σ H (Recv c kpb σ kc f [] dvs Q)) : PE c.X (.Call (.Attribute o m apos) [] [] pos) t := by
  refine ⟨fun pins s σ H Q I q => PySem.W.methodCall_KW (thn (ho.run pins s σ H _ I (rd σ H Q q)) fun u s1 ⟨x, H1, I1, rx, a, dx, vs, ex, ea, hcl, F1, tl1, s1', q1⟩ => ?_) (meth_eval h0 rfl (by simp) hl)⟩
  subst ex
  obtain rfl : u =
                  Value.ref a := rx
  unfold evAs at q1
  have q2 := q1 F1 H1 tl1 s1' Stp.refl rfl [] [] ⟨rfl, rfl⟩
  refine getmeth_ok I1 ea (fx.hK ▸ fx.fc.cls kc hcl) hmm (zip_no hno) ?_
  exact PySem.W.callWith_K0 (first := [.ref a]) I1.kIn hmm.kp (run_fnT (us := [.ref a]) (vs := [.ref a]) fx.tk FF hr hb hd I1 (.cons rfl .nil) q2)
end
end VE

namespace VE
open PySem PySem.Spec
                     PyProof.Rows L2

section
variable {c : Cc} {kp kpa kpb : Nat → Prop} {F : Fz} {H : Hp} {tl : Ld} {σ : L2.St}
/-- a new object, without attributes yet, in the ledger -/
theorem Sim.newI (s : Sim c F tl σ H) {x dx : Addr} {k : Nat} (hx : H x = none) (hdx : H dx = none) (hne : dx ≠ x) (hk : k ∈ c.S.cl) : Sim c F (tl ++ [some (.obj x dx k [])]) σ (upd (upd H dx (.own x)) x (.ins (c.S.cn k) dx [])) := by
  have hx1 : upd H dx (.own x) x = none := by rw [upd_ne fun q => hne q.symm]; exact hx
  have s1 := s.laid (o := .own x) hdx
  have s2 := s1.laid (o := .ins (c.S.cn k) dx []) hx1
  have ha : ∀ a, a ∈ (T.obj x dx k []).ads → a = x := fun a h => by simpa [T.ads] using h
  refine s2.push (s2.g.push ⟨?_, ⟨Nat.zero_le _, hk⟩, fun y hy => by simp at hy⟩ (by simp [T.ads]) (fun i u e a hm => ?_) (fun a hm => ?_) fun a hm => ?_)
  · rw [show ((c.S.fs k).zip (([] : List TC).map TC.v)) = [] by simp]
    exact upd_same
  · rw [ha a hm]; exact s1.g.noO hx1 i u e
  · rw [ha a hm]; exact s1.g.noF hx1
  · rw [ha a hm]; exact am_of s1.g hx1
theorem make_sp {C : Calls} {k f : Nat} {tl1 : Ld} {as : List A} {vs : List V} {js : List Nat} {dfl : List D} {dvs : List V} {Q : VK} (s : Sim c F tl1 σ H) (st : Stp c.n kpa tl tl1) (hn : c.n ≤ tl.length) (k1 : ∀ i, kp i → kpa i) (k2 : ∀ i, kp i → i ∉ argsS as) (at_ : AtA c.n σ tl1 tl.length as vs js)
    (hd : ∀ F H, RepDs c.S F H dfl dvs) (hk : k ∈ c.S.cl) (r : RunK c kp σ tl (runMake C k f as dfl (era c.n tl1)) (KO tl Q)) : ∀ x dx, H x = none → H dx = none → dx ≠ x →
    spF c.S C f (.ref x :: (vs ++ dvs)) (upd (upd H dx (.own x)) x (.ins (c.S.cn k) dx [])) (fun v H2 => v = .non ∧ Q (.ref x) H2) (EW c σ) := by
  intro x dx hx hdx hne
  have s2 := s.newI hx hdx hne hk
  unfold runMake at r
  by_cases nd : (argsS as).Nodup
  · rw [if_pos nd] at r
    cases e1 : argO (era c.n tl1) as with
    | none => rw [e1] at r; exact r.elim
    | some os =>
      rw [e1] at r
      dsimp only at r
      obtain ⟨ts, g1, g2, g3⟩ := at_.things s e1
      obtain ⟨ws, w1, w2, w3⟩ := dfl_ws (hd F (upd (upd H dx (.own x)) x (.ins (c.S.cn k) dx [])))
      have hw : ∀ t ∈ ws, t.ads = [] := fun t ht => by obtain ⟨d, v, rfl, _⟩ := w3 t ht; rfl
      have hlow : ∀ j ∈ js, j < tl1.length := fun j hj => by
        obtain ⟨q, e⟩ := mem_get hj
        obtain ⟨t, _, z⟩ := g1.get q j e
        exact lt_of z
      -- the new object is an argument like others: the first
      have at2 : AtA c.n σ (tl1 ++ [some (T.obj x dx k [])]) tl.length as vs js := at_.later (fun i _ h => List.getElem?_append_left h) hn
      have gx : (tl1 ++ [some (T.obj x dx k [])])[tl1.length]? = some (some (.obj x dx k [])) := by simp
      have gts : TsAt (tl1 ++ [some (T.obj x dx k [])]) js ts := by
        have key : ∀ (js : List Nat) (ts : List T), TsAt tl1 js ts → TsAt (tl1 ++ [some (T.obj x dx k [])]) js ts := by
          intro js
          induction js with
          | nil => intro ts h; exact h
          | cons j js ih =>
            intro ts h
            obtain ⟨t, tr, e, h1, h2⟩ := h
            exact ⟨t, tr, e, by rw [List.getElem?_append_left (lt_of h1)]; exact h1, ih tr h2⟩
        exact key js ts g1
      have ndj := AtA.nodup hn nd at_
      have ndx : (tl1.length :: js).Nodup := List.nodup_cons.mpr ⟨fun q => Nat.lt_irrefl _ (hlow _ q), ndj⟩
      have gall : TsAt (tl1 ++ [some (T.obj x dx k [])]) (tl1.length :: js) (.obj x dx k [] :: ts) := ⟨_, ts, rfl, gx, gts⟩
      refine ⟨F, .obj x dx k [] :: ts ++ ws, ?_, s2.g.args ndx gall w3, ?_⟩
      · rw [List.map_append, List.map_cons, g2, w1]; rfl
      · rw [show (T.obj x dx k [] :: ts ++ ws).map T.o = .obj k [] :: (os ++ dfl.map O.v) by rw [List.map_append, List.map_cons, g3, w2]; rfl]
        have fin2 : ∀ {F' : Fz} {H' : Hp} {t0 : T} {t1 t2 rest : List T}, Good c.S (amOf (upd (upd H dx (.own x)) x (.ins (c.S.cn k) dx [])) F (T.obj x dx k [] :: ts ++ ws)) F' H' ((t0 :: t1 ++ (t2 ++ rest)).map some) → t0.v = .ref x → t1.map T.v = ts.map T.v →
            Sim c F' (setAll (tl1 ++ [some (T.obj x dx k [])]) (tl1.length :: js) (t0 :: t1) ++ (t2 ++ rest).map some) σ H' ∧ Stp c.n kp tl (setAll (tl1 ++ [some (T.obj x dx k [])]) (tl1.length :: js) (t0 :: t1) ++ (t2 ++ rest).map some) ∧
            era c.n (setAll (tl1 ++ [some (T.obj x dx k [])]) (tl1.length :: js) (t0 :: t1) ++ (t2 ++ rest).map some) = backA as (t1.map T.o ++ t2.map T.o) (era c.n tl1) ∧
            (setAll (tl1 ++ [some (T.obj x dx k [])]) (tl1.length :: js) (t0 :: t1) ++ (t2 ++ rest).map some)[tl1.length]? = some (some t0) := by
          intro F' H' t0 t1 t2 rest gd hv0 hv1
          have hl1 : t1.length = js.length := by
            have := congrArg List.length hv1
            rw [List.length_map, List.length_map] at this
            rw [this, g1.len]
          have stp : Stp c.n kpa tl (tl1 ++ [some (T.obj x dx k [])]) := st.trans (Stp.push s.len) fun _ z => ⟨z, z⟩
          obtain ⟨s3, st3⟩ := s2.calledG (as := as) stp hn k1 k2 (fun j hj => by
            rcases List.mem_cons.mp hj with q | q
            · exact .inl (by rw [q]; exact st.len)
            · exact at2.mem j q) ndx gall hw gd (by rw [List.map_cons, List.map_cons, hv0, hv1]; rfl)
          refine ⟨s3, st3, ?_, ?_⟩
          · rw [era_app (by rw [setAll_len, List.length_append]; have := s.len; omega)]
            show era c.n (setAll ((tl1 ++ [some (T.obj x dx k [])]).set tl1.length (some t0)) js t1) = _
            rw [era_back hn at2 hl1, era_set, if_neg (by have := s.len; omega), era_push s.len]
          · rw [List.getElem?_append_left (by rw [setAll_len, List.length_append]; simp)]
            show (setAll ((tl1 ++ [some (T.obj x dx k [])]).set tl1.length (some t0)) js t1)[tl1.length]? = _
            rw [setAll_out (fun q => Nat.lt_irrefl _ (hlow _ q)), List.getElem?_set_self (by simp)]
        have cut1 : ∀ {ts' : List T}, ts'.map T.v = (T.obj x dx k [] :: ts ++ ws).map T.v → ∃ t0 t1 t2, ts' = t0 :: t1 ++ t2 ∧ t0.v = .ref x ∧ t1.map T.v = ts.map T.v := by
          intro ts' hv
          rw [List.map_append] at hv
          obtain ⟨ta, t2, rfl, v1, v2⟩ := split_at hv
          cases ta with
          | nil => cases v1
          | cons t0 t1 =>
            injection v1 with v3 v4
            exact ⟨t0, t1, t2, rfl, v3, v4⟩
        cases e2 : C f (.obj k [] :: (os ++ dfl.map O.v)) with
        | bad => rw [e2] at r; exact r.elim
        | exc q fin =>
          rw [e2] at r
          intro F' H' ts' d gd hv ho hq
          obtain ⟨t0, t1, t2, rfl, v1, v2⟩ := cut1 hv
          subst ho
          rw [show t0 :: t1 ++ t2 = t0 :: t1 ++ (t2 ++ []) by rw [List.append_nil]] at gd
          obtain ⟨s3, st3, e3, _⟩ := fin2 gd v1 v2
          rw [← List.map_append] at e3
          have r : OnX c σ tl q (backA as ((t1 ++ t2).map T.o) (era c.n tl1)) := r
          exact r F' H' _ d s3 (st3.mono fun _ z => z.elim) e3 hq
        | ok res fin =>
          rw [e2] at r
          intro F' H' ts' t gd hv ho ht
          obtain ⟨t0, t1, t2, rfl, v1, v2⟩ := cut1 hv
          subst ho
          subst ht
          rw [List.append_assoc] at gd
          obtain ⟨s3, st3, e3, e4⟩ := fin2 gd v1 v2
          rw [← List.map_append] at e3
          have hlt : (setAll (tl1 ++ [some (T.obj x dx k [])]) (tl1.length :: js) (t0 :: t1) ++ (t2 ++ [t]).map some)[tl1.length + 1 + t2.length]? = some (some t) := by
            rw [List.getElem?_append_right (by rw [setAll_len, List.length_append]; simp), setAll_len, List.length_append, List.map_append, List.getElem?_append_right (by simp)]
            simp
          cases t with
          | obj a b k' cs => exact r.elim
          | cell y => cases y with
            | val d v => cases d with
              | non =>
                have hv : v = .non := s3.g.ok _ _ hlt
                have r : RunK c kp σ tl (.ok t0.o (backA as ((t1 ++ t2).map T.o) (era c.n tl1))) (KO tl Q) := r
                refine ⟨hv, ?_⟩
                rw [← v1]
                exact r F' H' _ s3 st3 e3 tl1.length t0 st.len e4 rfl
              | _ => exact r.elim
            | _ => exact r.elim
  · rw [if_neg nd] at r
    exact r.elim
theorem run_makeT {X : Cx} {W : WX} {k : Nat} {C f : Addr} {fd : FuncData} {ps : List Str} {sp : Sp} {dvs : List V} {ds : List Value} {pins : List (Addr × Obj)} {σ : L2.St} {H : Hp} {s : Shared} {Q : VK} {us : List Value} {vs : List V} (tk : Takes X W) (M : Mk X.K C f)
    (FF : FnOk X.prog X.w X.K X.mg X.base (CX X.prog X.w) k f fd ps sp) (hr : Room (k + 1) X.A) (hb : Binds X.K fd ps ds) (hd : Vals dvs ds) (I : L2.Inv X pins σ H s) (r : Vals vs us)
    (h : ∀ x dx, H x = none → H dx = none → dx ≠ x → sp (.ref x :: (vs ++ dvs)) (upd (upd H dx (.own x)) x (.ins C dx [])) (fun v H2 => v = .non ∧ Q (.ref x) H2) fun cls d H' => W cls d σ H') : wpAny (model X.prog X.w) X.A (call (.ref C) us) (EP X pins σ Q) X.xe s := by
  have hq := h (s.heap.objs.size + 1) s.heap.objs.size (I.hok.fresh (Nat.le_succ
                                                                                _)) (I.hok.fresh (Nat.le_refl _)) (Nat.ne_of_lt (Nat.lt_succ_self _))
  have J := Inv.made (C := C) I
  have rel : Vals (V.ref (s.heap.objs.size + 1) :: (vs ++ dvs)) (Value.ref (s.heap.objs.size + 1) :: (us ++ ds)) := .cons rfl (r.append hd)
  have hl : (Value.ref (s.heap.objs.size + 1) :: us ++ ds).length = ps.length := (rel.length.symm).trans (FF.len _ _ _ _ hq)
  have go := FF.run _ X.stack _ _ ⟨Value.ref (s.heap.objs.size + 1) :: us, []⟩ (Value.ref (s.heap.objs.size + 1) :: (us ++ ds)) _ _ _ (hr.make C us []) (J.env0.make C us []) (hb _ (Value.ref (s.heap.objs.size + 1) :: us) J.kIn hl) rel hq
  refine wpAny_call (make_map (f := f) I.kIn M.makes M.init (beq_iff_eq.mp M.fn) (codeAny_mono go fun res s' hq' => ?_))
  match res, hq' with
  | .error e, hq' => exact tk _ _ (XE.of_call J (fun _ _ _ z => z) hq')
  | .ok (.ret u), hq' =>
    obtain ⟨v, H', I3, rv, ev, q3⟩ := J.after hq'
    subst ev
    exact ⟨rv, ⟨V.ref (s.heap.objs.size
                                       + 1), H', I3, rfl, q3⟩⟩
/-- the arguments, then the making -/
theorem args_mk {k f : Nat} {ms : List E} {dfl : List D} {dvs : List V} {Q : VK} (s : Sim c F tl σ H) (hdf : ∀ F H, RepDs c.S F H dfl dvs) (hk : k ∈ c.S.cl) (k1 : ∀ i, kp i → kpa i) (k2 : ∀ i, kp i → i ∉ ioS ms)
    (r : RunK c kp σ tl ((evAs c.G none ms (era c.n tl)).bind fun as env1 => runMake c.G.M k f as dfl env1) (KO tl Q)) : tAs c kpa (evAs c.G none ms) σ H fun vs H1 => ∀ x dx, H1 x = none → H1 dx = none → dx ≠ x →
      spF c.S c.G.M f (.ref x :: (vs ++ dvs)) (upd (upd H1 dx (.own x)) x (.ins (c.S.cn k) dx [])) (fun v H2 => v = .non ∧ Q (.ref x) H2) (EW c σ) := by
  refine ⟨F, tl, s, ?_⟩
  have r0 := RunK.bind0 r
  cases e : evAs c.G none ms (era c.n tl) with
  | bad => rw [e] at r; exact r.elim
  | exc x env => rw [e] at r; exact r
  | ok as env =>
    rw [e] at r0
    intro F1 H1 tl1 s1 st1 e1 vs js at_
    have r1 := r0 F1 H1 tl1 s1 (st1.mono k1) e1
    exact make_sp s1 st1 s.len k1 (fun i hi => by rw [ioA ms none _ _ as e]; exact k2 i hi) at_ hdf hk r1
theorem s_make {k kc f : Nat} {fa : Addr} {fd : FuncData} {ps : List Str} {x : Str} {p pos : Pos} {e : Expr} {es : List Expr} {ms : List E} {dfl : List D} {dvs : List V} {ds : List Value} (fx : Fx c) (M : Mk c.X.K (c.S.cn kc) fa) (FF : FnOk c.X.prog c.X.w c.X.K c.X.mg c.X.base (CX c.X.prog c.X.w) k fa fd ps (spF c.S c.G.M f)) (hr : Room (k + 1) c.X.A)
    (hg : Gl c.X x) (hm : c.X.mg x = some (.ref (c.S.cn kc))) (hcl : kc ∈ c.S.cl) (hb : Binds c.X.K fd ps ds) (hd : Vals dvs ds) (hdf : ∀ F H, RepDs c.S F H dfl dvs) (ha : PA c.X (e :: es) (tAs c kpa (evAs c.G none ms))) (hdb : (x == ("__debug__" : Str)) = false)
    (hs : isStar e = false) (hss : es.all (fun e => !isStar e) = true) (k1 : ∀ i, kp i → kpa i) (k2 : ∀ i, kp i → i ∉ ioS ms) : PE c.X (.Call (.Name x p) (e :: es) [] pos) (tE c kp (evO c.G (.make kc f ms dfl))) := by
  refine ⟨fun pins s σ H Q I ⟨F, tl, s0, r⟩ => wpAny_Call_Name_kw (ld_glob I hg hm ?_ hdb)⟩
  unfold evO at r
  have q := args_mk s0 hdf hcl k1 k2 (RunO.k r)
  refine PySem.W.callWith_K (h₀ := c.X.base) I.ok.mod.kin M.kp (thn (ha.run pos pins s σ H _ I q) fun us s1 ⟨vs, H1, I1, rv, q1⟩ => ⟨I1.kIn, ?_⟩) (noStar hs) (plain_back hss)
  exact run_makeT fx.tk M FF hr hb hd I1 rv q1
theorem s_make0 {k kc f : Nat} {fa : Addr} {fd : FuncData} {ps : List Str} {x : Str} {p pos : Pos} {dfl : List D} {dvs : List V} {ds : List Value} (fx : Fx c) (M : Mk c.X.K (c.S.cn kc) fa) (FF : FnOk c.X.prog c.X.w c.X.K c.X.mg c.X.base (CX c.X.prog c.X.w) k fa fd ps (spF c.S c.G.M f)) (hr : Room (k + 1) c.X.A)
    (hg : Gl c.X x) (hm : c.X.mg x = some (.ref (c.S.cn kc))) (hcl : kc ∈ c.S.cl) (hb : Binds c.X.K fd ps ds) (hd : Vals dvs ds) (hdf : ∀ F H, RepDs c.S F H dfl dvs) (hdb : (x == ("__debug__" : Str)) = false) : PE c.X (.Call (.Name x p) [] [] pos) (tE c kp (evO c.G (.make kc f [] dfl))) := by
  refine ⟨fun pins s σ H Q I ⟨F, tl, s0, r⟩ => wpAny_Call_Name_kw (ld_glob I hg hm ?_ hdb)⟩
  unfold evO at r
  obtain ⟨F1, tl1, s1, r1⟩ := args_mk (kpa := kp) s0 hdf hcl (fun _ z => z) (fun _ _ => by simp [ioS]) (RunO.k r)
  unfold evAs at r1
  have q := r1 F1 H tl1 s1 Stp.refl rfl [] [] ⟨rfl, rfl⟩
  exact PySem.W.callWith_K0 I.kIn M.kp (run_makeT (us := []) fx.tk M FF hr hb hd I .nil q)
end
end VE

namespace VE
open PySem PySem.Spec
                     PyProof.Rows L2

section
variable {c : Cc} {kp kpa kpb : Nat → Prop} {F : Fz} {H : Hp} {tl : Ld} {σ : L2.St}
/-- exceptions out of reach -/
abbrev noE : XK := fun _ _ _ => False
theorem passes_no {X : Cx} : Passes (CX X.prog X.w) X.nox noE := fun pins σ H s e s' I h => by
  obtain ⟨_, _, _, _, _, _, _, _, _, _, _, _, q⟩ := h
  exact q.elim
def nxC (C : Calls) : Calls := fun f os => match C f os with
  | .exc _ _ => .bad
  | r => r
theorem noX_run {C : Calls} {k : CK} {f : Nat} {as : List A} {dfl : List D} {env : Env} : noX (runCall C k f as dfl env) = runCall (nxC C) k f as dfl env := by
  unfold runCall nxC
  split
  · cases argO env as with
    | none => rfl
    | some os =>
      dsimp only
      split
      · cases C f (os ++ dfl.map O.v) <;> rfl
      · rfl
  · rfl
theorem spF_nx {S : Sta} {C : Calls} {f : Nat} {vs : List V} {Q : VK} {E E' : XK} (h : spF S (nxC C) f vs H Q E) : spF S C f vs H Q E' := by
  obtain ⟨F0, ts, g1, g2, g3⟩ := h
  refine ⟨F0, ts, g1, g2, ?_⟩
  unfold nxC at g3
  cases e : C f (ts.map T.o) with
  | bad => rw [e] at g3; exact g3.elim
  | ok res fin => rw [e] at g3; exact g3
  | exc x fin => rw [e] at g3; exact g3.elim
/-- self, then the getter -/
def RecvP (c : Cc) (kc f : Nat) (Q : VK) (x : V) (H1 : Hp) : Prop := ∃ a dx fs, x = .ref a ∧ H1 a = some (.ins (c.S.cn kc) dx fs) ∧ spF c.S c.G.M f (.ref a :: []) H1 Q noE
theorem rd_propS {kc f i : Nat} {Q : VK} (hi : i < c.n) (k3 : ∀ j, kp j → j ≠ i) (h : tE c kp (evO c.G (.prop [.io i] kc f)) σ H Q) : tVar i σ H (RecvP c kc f Q) := by
  obtain ⟨F, tl, s, r⟩ := h
  unfold evO evAs evAs at r
  have r : RunO c kp σ tl ((if (gt (era c.n tl) i).isSome && clsOk (some kc) (gt (era c.n tl) i) then (Out.ok [A.s i] (era c.n tl) : Out (List A)) else Out.bad).bind fun as env1 => noX (runCall c.G.M (.prop kc) f as [] env1)) Q := r
  split at r
  · rename_i hcls
    obtain ⟨hc1, hc2⟩ := Bool.and_eq_true_iff.mp hcls
    cases e1 : gt (era c.n tl) i with
    | none => rw [e1] at hc1; cases hc1
    | some o =>
      rw [e1] at hc2
      have hc : o.cls = some kc := by
        unfold clsOk at hc2
        exact of_decide_eq_true hc2
      obtain ⟨_, t, ht, rfl⟩ := gt_era e1
      have hv := s.sl i t hi ht
      obtain ⟨a, dx, vs, g1, g2, g3⟩ := obj_at (s.g.ok i t ht) hc
      refine ⟨t.v, hv, a, dx, _, g1, g2, ?_⟩
      have r : RunO c kp σ tl (noX (runCall c.G.M (.prop kc) f [.s i] [] (era c.n tl))) Q := r
      rw [noX_run] at r
      have q := call_sp (dfl := []) (dvs := []) (kpa := kp) (as := [.s i]) (js := [i]) (vs := [t.v]) s Stp.refl s.len (fun _ z => z) (fun j hj => by
        show j ∉ [i]
        simp
        exact k3 j hj) ⟨t.v, [], [], rfl, rfl, hi, hv, rfl, rfl⟩ rfl (RunO.k r)
      rw [g1] at q
      exact spF_nx q
  · exact r.elim
theorem rd_prop {kc f : Nat} {mo : E} {Q : VK} (hm : isIo mo = false) (h : tE c kp (evO c.G (.prop [mo] kc f)) σ H Q) : tE c kp (evO c.G mo) σ H (RecvP c kc f Q) := by
  obtain ⟨F, tl, s, r⟩ := h
  unfold evO at r
  have r0 := RunK.bind0 (RunO.k r)
  rw [evAs_cons hm] at r0
  refine ⟨F, tl, s, RunK.o ((RunK.bind r0).imp fun o F1 H1 tl1 s1 st1 r1 j t hj ht ho => ?_)⟩
  split at r1
  · rename_i hcls
    have hc : o.cls = some kc := by
      unfold clsOk at hcls
      exact of_decide_eq_true hcls
    obtain ⟨a, dx, vs, e1, e2, e3⟩ := obj_at (s1.g.ok j t ht) (by rw [ho]; exact hc)
    refine ⟨a, dx, _, e1, e2, ?_⟩
    unfold evAs at r1
    have r2 : RunK c kp σ tl (noX (runCall c.G.M (.prop kc) f [.t o] [] (era c.n tl1))) (KO tl Q) := r1 F1 H1 tl1 s1 Stp.refl rfl
    rw [noX_run] at r2
    have q := call_sp (dfl := []) (dvs := []) (as := [.t o]) (js := [j]) (vs := [t.v]) s1 st1 s.len (fun _ z => z) (fun j hj => by simp [argsS]) ⟨t.v, [], j, [], rfl, rfl, hj, ⟨t, ht, ho, rfl⟩, rfl, rfl⟩ rfl r2
    rw [e1] at q
    exact spF_nx q
  · exact r1.elim
theorem s_propG {k kc f : Nat} {p g : Addr} {fd : FuncData} {ps : List Str} {o : Expr} {m : Str} {pos : Pos} {to t : TE} (fx : Fx c) (FF : FnOk c.X.prog c.X.w c.X.K c.X.mg c.X.base (CX c.X.prog c.X.w) k g fd ps (spF c.S c.G.M f)) (hr : Room (k + 1) c.X.A)
    (hcl : kc ∈ c.S.cl) (hp : PropOf c.X.K (c.S.cn kc) m p g) (hb : Binds c.X.K fd ps []) (ho : PE c.X o to) (h0 : isSup o = false) (rd : ∀ σ H Q, t σ H Q → to σ H (RecvP c kc f Q)) : PE c.X (.Attribute o m pos) t :=
  PE.imp (pe_prop ho (fx.hK ▸ fx.fc.cls kc hcl) hp FF hr hb .nil passes_no (noSup h0)) fun σ H Q q => rd σ H Q q
end
end VE

namespace VE
open PySem PySem.Spec
                     PyProof.Rows L2

/-- behind a statement that raises -/
def OnS (c : Cc) (tl : Ld) (x : VE.X) (env : Env) : Prop := ∀ (F' : Fz) (H' : Hp) (tl' : Ld) (σ' : L2.St) (d : Option Addr), Sim c F' tl' σ' H' → Stp c.n (fun _ => False) tl tl' → era c.n tl' = env → ExcAt c.S F' H' x d → c.W (.ref (c.S.cn x.c)) d σ' H'
/-- a statement's run -/
def RunS (c : Cc) (kp : Nat → Prop) (tl : Ld) (r : SOut) (D : Ends) : Prop := match r with
  | .nx env => ∀ (F' : Fz) (H' : Hp) (tl' : Ld) (σ' : L2.St), Sim c F' tl' σ' H' → Stp c.n kp tl tl' → era c.n tl' = env → D.nx σ' H'
  | .ret o env => ∀ (F' : Fz) (H' : Hp) (tl' : Ld) (σ' : L2.St) (j : Nat) (t : T), Sim c F' tl' σ' H' → Stp c.n kp tl tl' → era c.n tl' = env → tl.length ≤ j → tl'[j]? = some (some t) → t.o = o → D.rt t.v H'
  | .brk env => ∀ (F' : Fz) (H' : Hp) (tl' : Ld) (σ' : L2.St), Sim c F' tl' σ' H' → Stp c.n kp tl tl' → era c.n tl' = env → D.bk σ' H'
  | .cont env => ∀ (F' : Fz) (H' : Hp) (tl' : Ld) (σ' : L2.St), Sim c F' tl' σ' H' → Stp c.n kp tl tl' → era c.n tl' = env → D.ct σ' H'
  | .exc x env => OnS c tl x env
  | .bad => False
def tS (c : Cc) (kp : Nat → Prop) (m : Env → SOut) : TS := fun D σ H => ∃ F tl, Sim c F tl σ H ∧ RunS c kp tl (m (era c.n tl)) D
theorem PS.imp {X : Cx} {st : Stmt} {t t' : TS} (h : PS X st t) (i : ∀ D σ H, t' D σ H → t D σ H) : PS X st t' := ⟨fun pins s σ H D I q => h.run pins s σ H D I (i D σ H q)⟩
theorem PSs.imp {X : Cx} {st : List Stmt} {t t' : TS} (h : PSs X st t) (i : ∀ D σ H, t' D σ H → t D σ H) : PSs X st t' := ⟨fun pins s σ H D I q => h.run pins s σ H D I (i D σ H q)⟩
section
variable {c : Cc} {kp kpa kpb : Nat → Prop} {F : Fz} {H : Hp} {tl : Ld} {σ : L2.St} {D : Ends}
theorem OnS.adv {tl' : Ld} {x : VE.X} {env : Env} (h : OnS c tl x env) (s : Stp c.n (fun _ => False) tl tl') : OnS c tl' x env := fun F' H' t2 σ' d a b e1 e2 => h F' H' t2 σ' d a (s.trans b fun _ z => z.elim) e1 e2
theorem OnS.at {x : VE.X} {env : Env} (h : OnS c tl x env) : OnX c σ tl x env := fun F' H' t2 d a b e1 e2 => h F' H' t2 σ d a b e1 e2
theorem RunS.adv {tl' : Ld} {r : SOut} (h : RunS c kp tl r D) (s : Stp c.n kp tl tl') : RunS c kp tl' r D := by
  cases r with
  | nx env => exact fun F' H' t2 σ' a b e => h F' H' t2 σ' a (s.trans b fun _ z => ⟨z, z⟩) e
  | ret o env => exact fun F' H' t2 σ' j t a b e h1 h2 h3 => h F' H' t2 σ' j t a (s.trans b fun _ z => ⟨z, z⟩) e (Nat.le_trans s.len h1) h2 h3
  | brk env => exact fun F' H' t2 σ' a b e => h F' H' t2 σ' a (s.trans b fun _ z => ⟨z, z⟩) e
  | cont env => exact fun F' H' t2 σ' a b e => h F' H' t2 σ' a (s.trans b fun _ z => ⟨z, z⟩) e
  | exc x env => exact OnS.adv (show OnS c tl x env from h) (s.mono fun _ z => z.elim)
  | bad => exact h
theorem RunS.less {r : SOut} (h : RunS c kp tl r D) (k : ∀ i, kp i → kpa i) : RunS c kpa tl r D := by
  cases r with
  | nx env => exact fun F' H' t2 σ' a b e => h F' H' t2 σ' a (b.mono k) e
  | ret o env => exact fun F' H' t2 σ' j t a b e => h F' H' t2 σ' j t a (b.mono k) e
  | brk env => exact fun F' H' t2 σ' a b e => h F' H' t2 σ' a (b.mono k) e
  | cont env => exact fun F' H' t2 σ' a b e => h F' H' t2 σ' a (b.mono k) e
  | exc x env => exact h
  | bad => exact h
theorem tS.less {m : Env → SOut} (h : tS c kp m D σ H) (k : ∀ i, kp i → kpa i) : tS c kpa m D σ H := by
  obtain ⟨F, tl, s, r⟩ := h
  exact ⟨F, tl, s, r.less k⟩
/-- an expression first -/
theorem RunS.of {α : Type} {m : Out α} {f : α → Env → SOut} (h : RunS c kp tl (SOut.of m f) D) : RunK c kp σ tl m fun a _ _ tl' => RunS c kp tl' (f a (era c.n tl')) D := by
  cases m with
  | ok a env =>
    intro F' H' tl' s st e
    rw [e]
    exact RunS.adv (show RunS c kp tl (f a env) D from h) st
  | exc x env => exact OnS.at h
  | bad => exact h
/-- .. its ledger told from the beginning -/
theorem RunS.of0 {α : Type} {m : Out α} {f : α → Env → SOut} (h : RunS c kp tl (SOut.of m f) D) : RunK c kp σ tl m fun a _ _ tl' => RunS c kp tl (f a (era c.n tl')) D := by
  cases m with
  | ok a env =>
    intro F' H' tl' s st e
    rw [e]
    exact h
  | exc x env => exact OnS.at h
  | bad => exact h
theorem ss_nil : PSs c.X [] (tS c kp (evSs c.G [])) := PSs.imp pss_nil fun D σ H ⟨F, tl, s, r⟩ => by
  unfold evSs at r
  exact r F H tl σ s Stp.refl rfl
theorem ss_cons {st : Stmt} {rest : List Stmt} {m : S} {ms : List S} (h1 : PS c.X st (tS c kpa (evS c.G m))) (h2 : PSs c.X rest (tS c kpb (evSs c.G ms))) (k1 : ∀ i, kp i → kpa i) (k2 : ∀ i, kp i → kpb i) : PSs c.X (st :: rest) (tS c kp (evSs c.G (m :: ms))) := by
  refine PSs.imp (pss_cons h1 h2) fun D σ H ⟨F, tl, s, r⟩ => ⟨F, tl, s, ?_⟩
  unfold evSs at r
  cases e : evS c.G m (era c.n tl) with
  | nx env =>
    rw [e] at r
    have r : RunS c kp tl (evSs c.G ms env) D := r
    intro F' H' tl' σ' s' st' e'
    refine ⟨F', tl', s', ?_⟩
    rw [e']
    exact (r.adv (st'.mono k1)).less k2
  | ret o env => rw [e] at r; exact RunS.less (r := .ret o env) r k1
  | brk env => rw [e] at r; exact RunS.less (r := .brk env) r k1
  | cont env => rw [e] at r; exact RunS.less (r := .cont env) r k1
  | exc x env => rw [e] at r; exact r
  | bad => rw [e] at r; exact r
theorem s_pass {pos : Pos} : PS c.X (.Pass pos) (tS c kp (evS c.G .pass)) := PS.imp ps_pass fun D σ H ⟨F, tl, s, r⟩ => by
  unfold evS at r
  exact r F H tl σ s Stp.refl rfl
theorem s_break {pos : Pos} : PS c.X (.Break pos) (tS c kp (evS c.G .brk)) := PS.imp ps_break fun D σ H ⟨F, tl, s, r⟩ => by
  unfold evS at r
  exact r F H tl σ s Stp.refl rfl
theorem s_continue {pos : Pos} : PS c.X (.Continue pos) (tS c kp (evS c.G .cont)) := PS.imp ps_continue fun D σ H ⟨F, tl, s, r⟩ => by
  unfold evS at r
  exact r F H tl σ s Stp.refl rfl
theorem s_expr {e : Expr} {m : E} {pos : Pos} (he : PE c.X e (tE c kp (evO c.G m))) (hs : swapsWith e none pos.line c.X.env = pure false) : PS c.X (.Expr e pos) (tS c kp (evS c.G (.expr m))) := by
  refine PS.imp (ps_expr he hs) fun D σ H ⟨F, tl, s, r⟩ => ⟨F, tl, s, ?_⟩
  unfold evS at r
  exact RunK.o ((RunS.of r).imp fun o F' H' tl' s' st' r' j t _ _ _ => r' F' H' tl' σ s' Stp.refl rfl)
theorem s_ret {e : Expr} {m : E} {pos : Pos} (he : PE c.X e (tE c kp (evO c.G m))) : PS c.X (.Return (some e) pos) (tS c kp (evS c.G (.ret m))) := by
  refine PS.imp (ps_ret he) fun D σ H ⟨F, tl, s, r⟩ => ⟨F, tl, s, ?_⟩
  unfold evS at r
  cases e1 : evO c.G m (era c.n tl) with
  | ok o env =>
    rw [e1] at r
    intro F' H' tl' j t s' st' e' hj ht ho
    have r : RunS c kp tl (.ret o env) D := r
    exact r F' H' tl' σ j t s' st' e' hj ht ho
  | exc x env => rw [e1] at r; exact OnS.at r
  | bad => rw [e1] at r; exact r
theorem s_ret0 {pos : Pos} : PS c.X (.Return none pos) (tS c kp (evS c.G .ret0)) := PS.imp ps_retN fun D σ H ⟨F, tl, s, r⟩ => by
  unfold evS at r
  exact r F H (tl ++ [some (T.val .non .non)]) σ tl.length (T.val .non .non) (s.pushV rfl) (Stp.push s.len) (era_push s.len) (Nat.le_refl _) (by simp) rfl
theorem s_if {e : Expr} {a b : List Stmt} {m : E} {ma mb : List S} {pos : Pos} {kpc : Nat → Prop} (he : Snd c kpc e m) (ha : PSs c.X a (tS c kpa (evSs c.G ma))) (hb : PSs c.X b (tS c kpb (evSs c.G mb))) (k1 : ∀ i, kp i → kpc i) (k2 : ∀ i, kp i → kpa i) (k3 : ∀ i, kp i → kpb i) : PS c.X (.If e a b pos) (tS c kp (evS c.G (.ifS m ma mb))) := by
  refine PS.imp (ps_if he.pt ha hb) fun D σ H ⟨F, tl, s, r⟩ => ⟨F, tl, s, ?_⟩
  unfold evS at r
  have r0 := RunS.of (σ := σ) r
  cases e1 : evO c.G m (era c.n tl) with
  | bad => rw [e1] at r; exact r
  | exc x env => rw [e1] at r; exact OnS.at r
  | ok o env =>
    rw [e1] at r0
    intro F' H' tl' j t s' st' e' hj ht ho
    have r1 := r0 F' H' tl' s' (st'.mono k1) e'
    cases eo : o.frz with
    | bl k =>
      rw [eo] at r1
      have hv := bl_of s' ht (by rw [ho]; exact eo)
      refine ⟨k, hv, ?_⟩
      cases k with
      | true => rw [if_pos rfl]; exact ⟨F', tl', s', RunS.less r1 k2⟩
      | false => rw [if_neg (by simp)]; exact ⟨F', tl', s', RunS.less r1 k3⟩
    | _ => rw [eo] at r1; exact r1.elim
theorem s_never {st : Stmt} : PS c.X st (tS c kp fun _ => .bad) := PS.imp ps_never fun D σ H ⟨F, tl, s, r⟩ => r
end
end VE

namespace VE
open PySem PySem.Spec
                     PyProof.Rows L2

section
variable {c : Cc} {kp kpa kpb : Nat → Prop} {F : Fz} {H : Hp} {tl : Ld} {σ : L2.St} {D : Ends}
/-- a thing goes from its temporary place to a slot -/
theorem Sim.put (s : Sim c F tl σ H) {i j : Nat} {t : T} (hj : tl[j]? = some (some t)) (hn : c.n ≤ j) (hi : i < c.n) (hl : c.lv i = none) : Sim c F ((tl.set i (some t)).set j none) (σ.set i (some t.v)) H where
  g := s.g.move hj (by omega)
  len := by rw [List.length_set, List.length_set]; exact s.len
  sl := fun k u hk e => by
    rcases get_set e with ⟨_, z, _⟩ | ⟨_, e⟩
    · cases z
    · rcases get_set e with ⟨q, q2, _⟩ | ⟨q, q2⟩
      · subst q; cases q2
        rw [List.getElem?_set_self (by rw [s.ln]; exact hk)]
      · rw [List.getElem?_set_ne (fun z => q z.symm)]
        exact s.sl k u hk q2
  lo := fun k w e => by
    obtain ⟨h0, u, h1, h2⟩ := s.lo k w e
    have q : i ≠ k := fun z => by rw [z, e] at hl; cases hl
    exact ⟨h0, u, by rw [List.getElem?_set_ne (by omega), List.getElem?_set_ne q]; exact h1, h2⟩
  xe := s.xe
  ln := by rw [List.length_set]; exact s.ln
theorem s_asgG {st : Stmt} {i : Nat} {m : E} {fz : Bool} {te : TE} (fx : Fx c) (h : PS c.X st (tAsg te (gName i))) (hi : i < c.n) (rd : ∀ σ H Q, tE c kpa (evO c.G m) σ H Q → te σ H Q) (k1 : ∀ j, kp j → kpa j) (k2 : ∀ j, kp j → j ≠ i) : PS c.X st (tS c kp (evS c.G (.asg i m fz))) := by
  refine PS.imp h fun D σ H ⟨F, tl, s, r⟩ => rd σ H _ ⟨F, tl, s, ?_⟩
  unfold evS at r
  refine RunK.o ((RunS.of0 r).less k1 |>.imp fun o F' H' tl' s' st' r' j t hj ht ho => ?_)
  have r' : RunS c kp tl (if okAsg c.G.lk i then .nx (setS (era c.n tl') i (if fz then .v o.frz else o)) else .bad) D := r'
  split at r'
  · rename_i hok
    have hl := fx.free hok
    have hn := s.len
    subst ho
    cases fz with
    | true =>
      obtain ⟨s2, st2, e2, h2⟩ := s'.frzT st' s.len hj ht
      have s3 := s2.setV (s2.rep h2) hi hl
      refine r' _ H' _ _ s3 ⟨by rw [List.length_set]; exact st2.len, fun k z1 z2 => ?_, fun k z1 z2 => ?_⟩ ?_
      · rw [List.getElem?_set_ne (by omega)]; exact st2.tmp k z1 z2
      · rw [List.getElem?_set_ne fun q => k2 k z2 q.symm]; exact st2.kep k z1 (k1 k z2)
      · rw [era_set', e2]; rfl
    | false =>
      refine r' F' H' _ _ (s'.put ht (by omega) hi hl) ⟨by rw [List.length_set, List.length_set]; exact st'.len, fun k z1 z2 => ?_, fun k z1 z2 => ?_⟩ ?_
      · rw [List.getElem?_set_ne (by omega), List.getElem?_set_ne (by omega)]; exact st'.tmp k z1 z2
      · rw [List.getElem?_set_ne (by omega), List.getElem?_set_ne fun q => k2 k z2 q.symm]; exact st'.kep k z1 (k1 k z2)
      · rw [era_set, if_neg (by omega), era_set']; rfl
  · exact r'.elim
theorem s_asg {x : Str} {e : Expr} {i : Nat} {m : E} {fz : Bool} {pos pos' : Pos} (fx : Fx c) (hx : c.X.N[i]? = some x) (hl : Loc c.X.env.scope x) (he : PE c.X e (tE c kpa (evO c.G m))) (hs : swapsWith e (some (.Name x pos')) pos.line c.X.env = pure false) (hf : c.X.fn x = true ∨ c.X.env.scope.names.lookup x = some .local) (k1 : ∀ j, kp j → kpa j) (k2 : ∀ j, kp j → j ≠ i) :
    PS c.X (.Assign [.Name x pos'] e pos) (tS c kp (evS c.G (.asg i m fz))) :=
  s_asgG fx (ps_set fx.nn hx hl he hs hf) (List.getElem?_eq_some_iff.mp hx).1 (fun _ _ _ q => q) k1 k2
/-- several names -/
theorem s_asgT {tg e : Expr} {is : List Nat} {m : E} {pos : Pos} (fx : Fx c) (he : PE c.X e (tE c kpa (evO c.G m))) (hg : PG c.X tg (gT c.X.K (.many is))) (hs : swapsWithSole [tg] e pos.line c.X.env = pure false) (h : ∀ te, PE c.X e te → PS c.X (.Assign [tg] e pos) (tAsg te (gT c.X.K (.many is)))) (hi : ∀ i ∈ is, i < c.n) (k1 : ∀ j, kp j → kpa j) (k2 : ∀ j, kp j → j ∉ is) :
    PS c.X (.Assign [tg] e pos) (tS c kp (evS c.G (.asgT is m))) := by
  refine PS.imp (h _ (tD_of he)) fun D σ H ⟨F, tl, s, r⟩ => ⟨F, tl, s, ?_⟩
  unfold evS at r
  refine (RunS.of r).less k1 |>.imp fun d F1 H1 tl1 s1 st1 r1 j v hj hv => ?_
  cases e1 : asgT c.G.lk (.many is) d (era c.n tl1) with
  | none => rw [e1] at r1; exact r1.elim
  | some env' =>
    rw [e1] at r1
    exact asg_t fx s1 (s1.rep hv) hi e1 k2 fun tl' σ' s2 st2 e2 _ => r1 F1 H1 tl' σ' s2 st2 e2
end
end VE

namespace VE
open PySem PySem.Spec
                     PyProof.Rows L2

section
variable {c : Cc} {kp kq kb ki : Nat → Prop} {F : Fz} {H : Hp} {tl : Ld} {σ : L2.St} {D : Ends}
theorem for_ok (fx : Fx c) {body : Env → SOut} {t : Tgt} {xs : List VE.D} {J : It} (s : Sim c F tl σ H) (w : WalkD c kq tl J xs) (hb : ∀ v ∈ tslots t, v < c.n) (k1 : ∀ i, kp i → kb i) (k2 : ∀ i, kq i → kb i) (k3 : ∀ i, kb i → i ∉ tslots t)
    (r : RunS c kp tl (forGo c.G.lk t body xs (era c.n tl)) D) :
    ∃ W : Nat → Nat → L2.St → Hp → Prop, (∃ m, W 0 m σ H) ∧ ∀ i m σ H, W i m σ H → (J.stop i H ∧ D.nx σ H) ∨ (J.go i H ∧ ∃ N : L2.St → Hp → Prop, (∀ σ' H', N σ' H' → ∃ m', m' < m ∧ W (i + 1) m' σ' H') ∧
      ∀ x H', J.yld i H x H' → gT c.X.K t x σ H' fun σ2 H2 => tS c kb body { D with nx := N, ct := N, bk := D.nx } σ2 H2) := by
  let Pv : Nat → L2.St → Hp → Prop := fun i σ H => ∃ (F2 : Fz) (tl2 : Ld), Sim c F2 tl2 σ H ∧ Stp c.n kb tl tl2 ∧ RunS c kp tl2 (forGo c.G.lk t body (xs.drop i) (era c.n tl2)) D
  refine ⟨fun i m σ H => m = xs.length - i ∧ i ≤ xs.length ∧ Pv i σ H, ⟨xs.length, by simp, Nat.zero_le _, F, tl, s, Stp.refl, r⟩, ?_⟩
  rintro i m σ2 H2 ⟨rfl, hi, F2, tl2, s2, st2, q2⟩
  obtain ⟨wgo, wstop⟩ := w F2 tl2 σ2 H2 s2 (st2.mono k2)
  by_cases hlt : i < xs.length
  · obtain ⟨g1, g2⟩ := wgo i hlt
    refine .inr ⟨g1, Pv (i + 1), fun σ' H' p => ⟨xs.length - (i + 1), by omega, rfl, hlt, p⟩, fun x H' y => ?_⟩
    obtain ⟨F3, d, hd, s3, r3⟩ := g2 x H' y
    have ed : xs.drop i = d :: xs.drop (i + 1) := by
      rw [List.drop_eq_getElem_cons
                                   hlt]
      congr 1
      have := hd
      rw [List.getElem?_eq_getElem hlt] at this
      exact Option.some.inj this
    rw [ed] at q2
    have q3 : RunS c kp tl2 (match asgT c.G.lk t d (era c.n tl2) with
      | none => .bad
      | some env1 => match body env1 with
        | .nx env2 => forGo c.G.lk t body (xs.drop (i + 1)) env2
        | .cont env2 => forGo c.G.lk t body (xs.drop (i + 1)) env2
        | .brk env2 => .nx env2
        | r => r) D := q2
    cases ea : asgT c.G.lk t d (era c.n tl2) with
    | none => rw [ea] at q3; exact q3.elim
    | some env1 =>
      rw [ea] at q3
      dsimp only at q3
      refine asg_t fx (kp := kb) s3 r3 hb ea k3 fun tl4 σ4 s4 st4 e4 _ => ⟨F3, tl4, s4, ?_⟩
      rw [e4]
      have stt : Stp c.n kb tl tl4 := st2.trans st4 fun _ z => ⟨z, z⟩
      have again : ∀ (env2 : Env), RunS c kp tl2 (forGo c.G.lk t body (xs.drop (i + 1)) env2) D → ∀ (F' : Fz) (H' : Hp) (tl' : Ld) (σ' : L2.St), Sim c F' tl' σ' H' → Stp c.n kb tl4 tl' → era c.n tl' = env2 → Pv (i + 1) σ' H' := by
        intro env2 q F' H' tl' σ' s' st' e'
        refine ⟨F', tl', s', stt.trans st' fun _ z => ⟨z, z⟩, ?_⟩
        rw [e']
        exact q.adv ((st4.trans st' fun _ z => ⟨z, z⟩).mono k1)
      cases eb : body env1 with
      | nx env2 => rw [eb] at q3; exact again env2 q3
      | cont env2 => rw [eb] at q3; exact again env2 q3
      | brk env2 =>
        rw [eb] at q3
        have q3 : RunS c kp tl2 (.nx env2) D := q3
        exact fun F' H' tl' σ' s' st' e' => q3 F' H' tl' σ' s' ((st4.trans st' fun _ z => ⟨z, z⟩).mono k1) e'
      | ret o env2 =>
        rw [eb] at q3
        have q3 : RunS c kp tl2 (.ret o env2) D := q3
        exact fun F' H' tl' σ' j t s' st' e' hj ht ho => q3 F' H' tl' σ' j t s' ((st4.trans st' fun _ z => ⟨z, z⟩).mono k1) e' (Nat.le_trans st4.len hj) ht ho
      | exc x env2 =>
        rw [eb] at q3
        have q3 : OnS c tl2 x env2 := q3
        exact q3.adv (st4.mono fun _ z => z.elim)
      | bad => rw [eb] at q3; exact q3
  · have ei : i = xs.length := by omega
    subst ei
    refine .inl ⟨wstop, ?_⟩
    rw [List.drop_length] at q2
    have q2 : RunS c kp tl2 (.nx (era c.n tl2)) D := q2
    exact q2 F2 H2 tl2 σ2 s2 Stp.refl rfl
theorem s_for (fx : Fx c) {tg iter : Expr} {body : List Stmt} {pos : Pos} {t : Tgt} {ik : ItK} {its : List E} {mb : List S} (hp : PassesOwn (model c.X.prog c.X.w) c.X.A c.X.env c.X.xe) (hc : c.X.calm = true) (hi : PI c.X tg iter (tI c ki kq ik (evBs c.G its))) (hg : PG c.X tg (gT c.X.K t)) (hb : PSs c.X body (tS c kb (evSs c.G mb)))
    (hs : ∀ x, foldedSetIterable iter c.X.env x = pure x) (hl : lockS ik its = some none) (hv : ∀ v ∈ tslots t, v < c.n) (k0 : ∀ i, kp i → ki i) (k1 : ∀ i, kp i → kb i) (k2 : ∀ i, kq i → kb i) (k3 : ∀ i, kb i → i ∉ tslots t) : PS c.X (.For tg iter body [] pos) (tS c kp (evS c.G (.forS t ik its mb))) := by
  refine PS.imp (ps_for hp hc hi hg hb hs) fun D σ H ⟨F, tl, s, r⟩ => ⟨F, tl, s, ?_⟩
  unfold evS at r
  rw [hl] at r
  refine (RunS.of r).less k0 |>.imp fun ds F1 H1 tl1 s1 st1 r1 => ?_
  cases e1 : itD ik ds with
  | none => rw [e1] at r1; exact r1.elim
  | some xs =>
    rw [e1] at r1
    exact ⟨xs, rfl, fun J w => for_ok fx s1 w hv k1 k2 k3 r1⟩
end
end VE

namespace VE
open PySem PySem.Spec
                     PyProof.Rows L2

section
variable {c : Cc} {kp kc kb : Nat → Prop} {F : Fz} {H : Hp} {tl : Ld} {σ : L2.St} {D : Ends}
theorem s_while {e : Expr} {body : List Stmt} {pos : Pos} {m : E} {mb : List S} {fuel : Nat} (hp : PassesOwn (model c.X.prog c.X.w) c.X.A c.X.env c.X.xe) (he : Snd c kc e m) (hb : PSs c.X body (tS c kb (evSs c.G mb))) (k1 : ∀ i, kp i → kc i) (k2 : ∀ i, kp i → kb i) : PS c.X (.While e body [] pos) (tS c kp (evS c.G (.whileS fuel m mb))) := by
  refine PS.imp (ps_while hp he.pt hb) fun D σ H ⟨F, tl, s, r⟩ => ?_
  unfold evS at r
  let Wv : Nat → L2.St → Hp → Prop := fun n σ H => ∃ (F2 : Fz) (tl2 : Ld), Sim c F2 tl2 σ H ∧ RunS c kp tl2 (whileGo (fun e => (evO c.G m e).map O.frz) (evSs c.G mb) n (era c.n tl2)) D
  refine ⟨Wv, ⟨fuel, F, tl, s, r⟩, ?_⟩
  rintro n σ1 H1 ⟨F1, tl1, s1, q1⟩
  cases n with
  | zero => exact q1.elim
  | succ n =>
    unfold whileGo at q1
    refine ⟨F1, tl1, s1, ?_⟩
    have q0 := RunS.of (σ := σ1) q1
    cases e1 : evO c.G m (era c.n tl1) with
    | bad => rw [e1] at q1; exact q1.elim
    | exc x env => rw [e1] at q1; exact OnS.at q1
    | ok o env =>
      rw [e1] at q0
      intro F' H' tl' j t s' st' e' hj ht ho
      have q2 := q0 F' H' tl' s' (st'.mono k1) e'
      cases eo : o.frz with
      | bl k =>
        rw [eo] at q2
        have hv := bl_of s' ht (by rw [ho]; exact eo)
        refine ⟨k, hv, ?_⟩
        cases k with
        | false =>
          rw [if_neg (by simp)]
          exact q2 F' H' tl' σ1 s' Stp.refl rfl
        | true =>
          rw [if_pos rfl]
          refine ⟨Wv n, fun σ' H' p => ⟨n, Nat.lt_succ_self n, p⟩, F', tl', s', ?_⟩
          dsimp only at q2
          have again : ∀ (env2 : Env), RunS c kp tl' (whileGo (fun e => (evO c.G m e).map O.frz) (evSs c.G mb) n env2) D → ∀ (F2 : Fz) (H2 : Hp) (tl2 : Ld) (σ2 : L2.St), Sim c F2 tl2 σ2 H2 → Stp c.n kb tl' tl2 → era c.n tl2 = env2 → Wv n σ2 H2 := by
            intro env2 q F2 H2 tl2 σ2 s2 st2 e2
            refine ⟨F2, tl2, s2, ?_⟩
            rw [e2]
            exact q.adv (st2.mono k2)
          cases eb : evSs c.G mb (era c.n tl') with
          | nx env2 => rw [eb] at q2; exact again env2 q2
          | cont env2 => rw [eb] at q2; exact again env2 q2
          | brk env2 =>
            rw [eb] at q2
            have q2 : RunS c kp tl' (.nx env2) D := q2
            exact fun F2 H2 tl2 σ2 s2 st2 e2 => q2 F2 H2 tl2 σ2 s2 (st2.mono k2) e2
          | ret o2 env2 =>
            rw [eb] at q2
            have q2 : RunS c kp tl' (.ret o2 env2) D := q2
            exact fun F2 H2 tl2 σ2 j2 t2 s2 st2 e2 => q2 F2 H2 tl2 σ2 j2 t2 s2 (st2.mono k2) e2
          | exc x env2 => rw [eb] at q2; exact q2
          | bad => rw [eb] at q2; exact q2
      | _ => rw [eo] at q2; exact q2.elim
end
end VE

namespace VE
open PySem PySem.Spec
                     PyProof.Rows L2

/-- two entries become one -/
theorem Good.merge {S : Sta} {am : Amb} {F : Fz} {H H' : Hp} {tl : Ld} (g : Good S am F H tl) {i j : Nat} {t u t' : T} (hij : i ≠ j) (hi : tl[i]? = some (some t)) (hj : tl[j]? = some (some u)) (sub : ∀ a ∈ t'.ads, a ∈ t.ads ∨ a ∈ u.ads) (nd : t'.ads.Nodup) (keep : ∀ b, b ∉ t.ads → H' b = H b) (ok : t'.ok S F H') :
    Good S am F H' ((tl.set i (some t')).set j none) := by
  have cse : ∀ (k : Nat) (w : T), ((tl.set i (some t')).set j none)[k]? = some (some w) → (k = i ∧ w = t') ∨ (k ≠ i ∧ k ≠ j ∧ tl[k]? = some (some w)) := fun k w e => by
    by_cases q : j = k
    · subst q
      rw [List.getElem?_set_self (by rw [List.length_set]; exact lt_of hj)] at e
      cases e
    · rw [List.getElem?_set_ne q] at e
      by_cases z : i = k
      · subst z
        rw [List.getElem?_set_self (lt_of hi)] at e
        cases e
        exact .inl ⟨rfl, rfl⟩
      · rw [List.getElem?_set_ne z] at e
        exact .inr ⟨fun y => z y.symm, fun y => q y.symm, e⟩
  have fz : ∀ b, F b → H' b = H b := fun b hb => keep b fun hb' => g.nf i t hi b hb' hb
  have off : ∀ (k : Nat) (w : T), k ≠ i → k ≠ j → tl[k]? = some (some w) → ∀ a ∈ w.ads, a ∉ t'.ads := fun k w h1 h2 e a ha hb => by
    rcases sub a hb with z | z
    · exact g.dj k i w t h1 e hi a ha z
    · exact g.dj k j w u h2 e hj a ha z
  refine ⟨fun k w e => ?_, fun k w e => ?_, fun k l w z hkl e1 e2 a ha hb => ?_, fun k w e a ha => ?_, fun b hb => ?_, fun b o e hA => ?_, g.a2, g.a3, fun k w e a ha => ?_⟩
  · rcases cse k w e with ⟨_, q⟩ | ⟨h1, h2, q⟩
    · rw [q]; exact ok
    · exact (g.ok k w q).mono ⟨fun _ h => h, fz⟩ fun a ha => keep a fun hb => g.dj k i w t h1 q hi a ha hb
  · rcases cse k w e with ⟨_, q⟩ | ⟨h1, h2, q⟩
    · rw [q]; exact nd
    · exact g.nd k w q
  · rcases cse k w e1 with ⟨i1, q1⟩ | ⟨h1, h2, q1⟩ <;> rcases cse l z e2 with ⟨i2, q2⟩ | ⟨h3, h4, q2⟩
    · exact hkl (i1.trans i2.symm)
    · rw [q1] at ha; exact off l z h3 h4 q2 a hb ha
    · rw [q2] at hb; exact off k w h1 h2 q1 a ha hb
    · exact g.dj k l w z hkl q1 q2 a ha hb
  · rcases cse k w e with ⟨_, q⟩ | ⟨_, _, q⟩
    · rw [q] at ha
      rcases sub a ha with z | z
      · exact g.nf i t hi a z
      · exact g.nf j u hj a z
    · exact g.nf k w q a ha
  · obtain ⟨o, e⟩ := g.tr b hb
    exact ⟨o, by rw [fz b hb]; exact e⟩
  · have e1 := g.a1 b o e hA
    refine (keep b fun hb => ?_).trans e1
    rcases g.a4 i t hi b hb with h | h
    · exact hA h
    · rw [h] at e; cases e
  · rcases cse k w e with ⟨_, q⟩ | ⟨_, _, q⟩
    · rw [q] at ha
      rcases sub a ha with z | z
      · exact g.a4 i t hi a z
      · exact g.a4 j u hj a z
    · exact g.a4 k w q a ha
section
variable {c : Cc} {kp kpa kpb : Nat → Prop} {F : Fz} {H : Hp} {tl : Ld} {σ : L2.St} {D : Ends}
theorem Sim.merge {H' : Hp} (s : Sim c F tl σ H) {i j : Nat} {t u t' : T} (hn : c.n ≤ j) (hi : tl[i]? = some (some t)) (hin : i < c.n) (hj : tl[j]? = some (some u)) (hv : t'.v = t.v) (sub : ∀ a ∈ t'.ads, a ∈ t.ads ∨ a ∈ u.ads) (nd : t'.ads.Nodup) (keep : ∀ b, b ∉ t.ads → H' b = H b) (ok : t'.ok c.S F H') :
    Sim c F ((tl.set i (some t')).set j none) σ H' where
  g := s.g.merge (by omega) hi hj sub nd keep ok
  len := by rw [List.length_set, List.length_set]; exact s.len
  sl := fun k w hk e => by
    rcases get_set e with ⟨_, z, _⟩ | ⟨_, e⟩
    · cases z
    · rcases get_set e with ⟨q, q2, _⟩ | ⟨_, q2⟩
      · subst q; cases q2
        rw [hv]; exact s.sl k t hk hi
      · exact s.sl k w hk q2
  lo := fun k v e => by
    obtain ⟨h0, w, h1, h2⟩ := s.lo k v e
    by_cases q : i = k
    · subst q
      rw [hi] at h1
      cases h1
      exact ⟨h0, t', by rw [List.getElem?_set_ne (by omega), List.getElem?_set_self (lt_of hi)], hv.trans h2⟩
    · exact ⟨h0, w, by rw [List.getElem?_set_ne (by omega), List.getElem?_set_ne q]; exact h1, h2⟩
  xe := fun q e => (s.xe q e).mono ⟨fun _ h => h, fun b hb => keep b fun hb' => s.g.nf i t hi b hb' hb⟩
  ln := s.ln
theorem putF_set {nm : Str} {v : V} : ∀ {ns : List Str} {vs : List V} {f : Nat}, ns.Nodup → ns[f]? = some nm → f < vs.length → L2.putF nm v (ns.zip vs) = ns.zip (vs.set f v)
  | [], _, _, _, e, _ => by simp at e
  | n :: ns, [], _, _, _, h => by simp at h
  | n :: ns, w :: vs, 0, _, e, _ => by
    simp at e; subst e
    rw [List.zip_cons_cons]
    unfold L2.putF
    rw [if_pos rfl]
    rfl
  | n :: ns, w :: vs, f + 1, nd, e, h => by
    have e : ns[f]? = some nm := by simpa using e
    have hne : n ≠ nm := fun q => (List.nodup_cons.mp nd).1 (q ▸ List.mem_of_getElem? e)
    rw [List.zip_cons_cons]
    unfold L2.putF
    rw [if_neg hne, putF_set (List.nodup_cons.mp nd).2 e (by simpa using h)]
    rfl
theorem putF_app {nm : Str} {v : V} : ∀ {ns : List Str} {vs : List V}, ns.Nodup → ns[vs.length]? = some nm → L2.putF nm v (ns.zip vs) = ns.zip (vs ++ [v])
  | [], _, _, e => by simp at e
  | n :: ns, [], _, e => by
    simp at e; subst e
    simp [L2.putF]
  | n :: ns, w :: vs, nd, e => by
    have e : ns[vs.length]? = some nm := by simpa using e
    have hne : n ≠ nm := fun q => (List.nodup_cons.mp nd).1 (q ▸ List.mem_of_getElem? e)
    rw [List.zip_cons_cons]
    unfold L2.putF
    rw [if_neg hne, putF_app (List.nodup_cons.mp nd).2 e]
    rfl
theorem flat_set {x : TC} {a : Addr} : ∀ {cs : List TC} {f : Nat}, a ∈ (cs.set f x).flatMap TC.ads → a ∈ cs.flatMap TC.ads ∨ a ∈ x.ads
  | [], _, h => by simp at h
  | y :: cs, 0, h => by
    rcases List.mem_append.mp (show a ∈ x.ads ++ cs.flatMap TC.ads by simpa using h) with q | q
    · exact .inr q
    · exact .inl (by simp; exact .inr (by simpa using q))
  | y :: cs, f + 1, h => by
    rcases List.mem_append.mp (show a ∈ y.ads ++ (cs.set f x).flatMap TC.ads by simpa using h) with q | q
    · exact .inl (by simp; exact .inl q)
    · rcases flat_set q with z | z
      · exact .inl (by simp; exact .inr (by simpa using z))
      · exact .inr z
theorem nd_set {x : TC} : ∀ {cs : List TC} {f : Nat}, (cs.flatMap TC.ads).Nodup → x.ads.Nodup → (∀ a ∈ x.ads, a ∉ cs.flatMap TC.ads) → ((cs.set f x).flatMap TC.ads).Nodup
  | [], _, h, _, _ => by simpa using h
  | y :: cs, 0, h, hx, hd => by
    have h : (y.ads ++ cs.flatMap TC.ads).Nodup := by simpa using h
    have g : (x.ads ++ cs.flatMap TC.ads).Nodup := List.nodup_append.mpr ⟨hx, (List.nodup_append.mp h).2.1, fun a ha b hb e => hd a ha (by rw [e]; simp; exact .inr (by simpa using hb))⟩
    simpa using g
  | y :: cs, f + 1, h, hx, hd => by
    have h : (y.ads ++ cs.flatMap TC.ads).Nodup := by simpa using h
    obtain ⟨n1, n2, n3⟩ := List.nodup_append.mp h
    have g : (y.ads ++ (cs.set f x).flatMap TC.ads).Nodup := List.nodup_append.mpr ⟨n1, nd_set n2 hx fun a ha q => hd a ha (by simp; exact .inr (by simpa using q)), fun a ha b hb e => by
      rcases flat_set hb with z | z
      · exact n3 a ha b z e
      · exact hd b z (by rw [← e]; simp; exact .inl ha)⟩
    simpa using g
end
end VE

namespace VE
open PySem PySem.Spec
                     PyProof.Rows L2

section
variable {c : Cc} {kp kpa kpb : Nat → Prop} {F : Fz} {H : Hp} {tl : Ld} {σ : L2.St} {D : Ends}
/-- the object with the cell in its field -/
theorem field_ok {k f i j : Nat} {a dx : Addr} {cs cs' : List TC} {x : TC} {nm : Str} (fc : FC c.S) (s : Sim c F tl σ H) (hn : c.n ≤ j) (hin : i < c.n) (hi : tl[i]? = some (some (.obj a dx k cs))) (hj : tl[j]? = some (some (.cell x))) (hf : (c.S.fs k)[f]? = some nm)
    (hc : (f < cs.length ∧ cs' = cs.set f x) ∨ (f = cs.length ∧ cs' = cs ++ [x])) : H a = some (.ins (c.S.cn k) dx ((c.S.fs k).zip (cs.map TC.v))) ∧ k ∈ c.S.cl ∧
      Sim c F ((tl.set i (some (.obj a dx k cs'))).set j none) σ (upd H a (.ins (c.S.cn k) dx (L2.putF nm x.v ((c.S.fs k).zip (cs.map TC.v))))) := by
  obtain ⟨h1, ⟨h2, h3⟩, h4⟩ := s.g.ok i _ hi
  have nd := fc.nd k h3
  have nF : ¬ F a := s.g.nf i _ hi a (by simp [T.ads])
  have ndO : (a :: cs.flatMap TC.ads).Nodup := s.g.nd i _ hi
  have ndX : x.ads.Nodup := s.g.nd j _ hj
  have dj : ∀ b ∈ x.ads, b ∉ a :: cs.flatMap TC.ads := fun b hb hb' => s.g.dj i j _ _ (by omega) hi hj b hb' hb
  have okx : x.ok c.S F H := s.g.ok j _ hj
  have hfl : f < (c.S.fs k).length := (List.getElem?_eq_some_iff.mp hf).1
  have eput : L2.putF nm x.v ((c.S.fs k).zip (cs.map TC.v)) = (c.S.fs k).zip (cs'.map TC.v) ∧ cs'.length ≤ (c.S.fs k).length ∧ (∀ y ∈ cs', y = x ∨ y ∈ cs) ∧ (∀ b ∈ cs'.flatMap TC.ads, b ∈ cs.flatMap TC.ads ∨ b ∈ x.ads) ∧ (cs'.flatMap TC.ads).Nodup := by
    rcases hc with ⟨l, rfl⟩ | ⟨l, rfl⟩
    · refine ⟨by rw [List.map_set]; exact putF_set nd hf (by rw [List.length_map]; exact l), by rw [List.length_set]; exact h2, fun y hy => (List.mem_or_eq_of_mem_set hy).symm, fun b hb => flat_set hb, nd_set (List.nodup_cons.mp ndO).2 ndX fun b hb q => dj b hb (List.mem_cons_of_mem _ q)⟩
    · refine ⟨by rw [List.map_append]; exact putF_app nd (by rw [List.length_map, ← l]; exact hf), by rw [List.length_append]; simp; omega, fun y hy => ?_, fun b hb => ?_, ?_⟩
      · rcases List.mem_append.mp hy with q | q
        · exact .inr q
        · exact .inl (List.mem_singleton.mp q)
      · rw [List.flatMap_append] at hb
        rcases List.mem_append.mp hb with q | q
        · exact .inl q
        · exact .inr (by simpa using q)
      · rw [List.flatMap_append]
        refine List.nodup_append.mpr ⟨(List.nodup_cons.mp ndO).2, by simpa using ndX, fun b hb b' hb' e => dj b' (by simpa using hb') (by rw [← e]; exact List.mem_cons_of_mem _ hb)⟩
  obtain ⟨e1, e2, e3, e4, e5⟩ := eput
  refine ⟨h1, h3, s.merge hn hi hin hj rfl (fun b hb => ?_) ?_ (fun b hb => upd_ne fun q => hb (by rw [q]; simp [T.ads])) ⟨by rw [e1]; exact upd_same, ⟨e2, h3⟩, fun y hy => ?_⟩⟩
  · rcases List.mem_cons.mp (show b ∈ a :: cs'.flatMap TC.ads from hb) with q | q
    · exact .inl (by rw [q]; simp [T.ads])
    · rcases e4 b q with z | z
      · exact .inl (List.mem_cons_of_mem _ z)
      · exact .inr z
  · refine List.nodup_cons.mpr ⟨fun q => ?_, e5⟩
    rcases e4 a q with z | z
    · exact (List.nodup_cons.mp ndO).1 z
    · exact dj a z List.mem_cons_self
  · have noA : a ∉ y.ads := fun q => by
      rcases e3 y hy with z | z
      · rw [z] at q; exact dj a q List.mem_cons_self
      · exact (List.nodup_cons.mp ndO).1 (List.mem_flatMap.mpr ⟨y, z, q⟩)
    have oky : y.ok c.S F H := by
      rcases e3 y hy with z | z
      · rw [z]; exact okx
      · exact h4 y z
    exact oky.mono (upd_ext nF) fun b hb => upd_ne fun q => noA (by rw [← q]; exact hb)
theorem s_setF {o e : Expr} {i k f : Nat} {m : E} {nm : Str} {pos pos' : Pos} (fx : Fx c) (ho : PE c.X o (tVar i)) (hin : i < c.n) (he : PE c.X e (tE c kpa (evO c.G m))) (hf : (c.S.fs k)[f]? = some nm) (hs : swapsWith e (some (.Attribute o nm pos')) pos.line c.X.env = pure false) (k1 : ∀ j, kp j → kpa j) (k2 : ∀ j, kp j → j ≠ i) :
    PS c.X (.Assign [.Attribute o nm pos'] e pos) (tS c kp (evS c.G (.setF i k f m))) := by
  refine PS.imp (ps_fld ho he hs) fun D σ H ⟨F, tl, s, r⟩ => ⟨F, tl, s, ?_⟩
  unfold evS at r
  refine RunK.o ((RunS.of0 r).less k1 |>.imp fun out F' H' tl' s' st' r' j t hj ht hout => ?_)
  have hn := s.len
  have main : ∀ (F2 : Fz) (tl2 : Ld) (x : TC), Sim c F2 tl2 σ H' → Stp c.n kpa tl tl2 → era c.n tl2 = era c.n tl' → tl2[j]? = some (some (.cell x)) → x.v = t.v → RunS c kp tl (liftS (VE.putF (era c.n tl') i k f x.c)) D → tVar i σ H' fun y H2 => ∃ a C dx fs, y = .ref a ∧ H2 a = some (.ins C dx fs) ∧ Cls c.X.K C ∧ NoAttr c.X.K C nm ∧ fs.length < 1000 ∧ D.nx σ (upd H2 a (.ins C dx (L2.putF nm t.v fs))) := by
    intro F2 tl2 x s2 st2 e2 hx hv q
    unfold VE.putF at q
    cases e1 : gt (era c.n tl') i with
    | none => rw [e1] at q; exact q.elim
    | some ob =>
      rw [e1] at q
      rw [← e2] at e1
      obtain ⟨_, u, hu, rfl⟩ := gt_era e1
      cases u with
      | cell y => exact q.elim
      | obj a dx cl cs =>
        have q : RunS c kp tl (liftS (if k ≠ cl then none else if f < (cs.map TC.c).length then some (setS (era c.n tl') i (.obj cl ((cs.map TC.c).set f x.c))) else if f = (cs.map TC.c).length ∧ f < 100 then some (setS (era c.n tl') i (.obj cl (cs.map TC.c ++ [x.c]))) else none)) D := q
        by_cases hk : k = cl
        · subst hk
          rw [if_neg (fun z => z rfl), List.length_map] at q
          have fin : ∀ cs', ((f < cs.length ∧ cs' = cs.set f x) ∨ (f = cs.length ∧ cs' = cs ++ [x])) → RunS c kp tl (.nx (setS (era c.n tl') i (.obj k (cs'.map TC.c)))) D → tVar i σ H' fun y H2 => ∃ a C dx fs, y = .ref a ∧ H2 a = some (.ins C dx fs) ∧ Cls c.X.K C ∧ NoAttr c.X.K C nm ∧ fs.length < 1000 ∧ D.nx σ (upd H2 a (.ins C dx (L2.putF nm t.v fs))) := by
            intro cs' hc q
            obtain ⟨g1, g2, g3⟩ := field_ok fx.fc s2 (by omega) hin hu hx hf hc
            rw [hv] at g3
            refine ⟨.ref a, s2.sl i _ hin hu, a, _, dx, _, rfl, g1, fx.hK ▸ fx.fc.cls k g2, fx.hK ▸ fx.fc.no k g2 nm (List.mem_of_getElem? hf), ?_, q F2 _ _ σ g3 ⟨by rw [List.length_set, List.length_set]; exact st2.len, fun z z1 z2 => ?_, fun z z1 z2 => ?_⟩ ?_⟩
            · have := fx.fc.sm k g2
              rw [List.length_zip]
              omega
            · rw [List.getElem?_set_ne (by omega), List.getElem?_set_ne (by omega)]; exact st2.tmp z z1 z2
            · rw [List.getElem?_set_ne (by omega), List.getElem?_set_ne fun w => k2 z z2 w.symm]; exact st2.kep z z1 (k1 z z2)
            · rw [era_set, if_neg (by omega), era_set', e2]; rfl
          split at q
          · exact fin _ (.inl ⟨by assumption, rfl⟩) (by rw [List.map_set]; exact q)
          · split at q
            · rename_i h2
              exact fin _ (.inr ⟨h2.1, rfl⟩) (by rw [List.map_append]; exact q)
            · exact q.elim
        · rw [if_pos hk] at q; exact q.elim
  subst hout
  cases t with
  | cell x => exact main F' tl' x s' st' rfl ht rfl r'
  | obj a dx cl cs =>
    obtain ⟨s2, st2, e2, h2⟩ := s'.frzT st' s.len hj ht
    exact main _ _ (.val (T.obj a dx cl cs).o.frz (.ref a)) s2 st2 e2 h2 rfl r'
end
end VE

namespace VE
open PySem PySem.Spec
                     PyProof.Rows L2

section
variable {c : Cc} {kp kpa kpb : Nat → Prop} {F : Fz} {H : Hp} {tl : Ld} {σ : L2.St} {D : Ends}
/-- x.append(e), x a slot's own list -/
theorem s_app {o e : Expr} {i : Nat} {m : E} {apos cpos pos : Pos} (fx : Fx c) (ho : PE c.X o (tVar i)) (hin : i < c.n) (he : PE c.X e (tE c kpa (evO c.G m))) (h0 : isSup o = false) (hs : isStar e = false) (hl : (apos.endLine == cpos.line) = true)
    (hsw : swapsWith (.Call (.Attribute o "append" apos) [e] [] cpos) none pos.line c.X.env = pure false) (k0 : kpa i) (k1 : ∀ j, kp j → kpa j) (k2 : ∀ j, kp j → j ≠ i) : PS c.X (.Expr (.Call (.Attribute o "append" apos) [e] [] cpos) pos) (tS c kp (evS c.G (.app i none m))) := by
  have few : ((backTo cpos (starEach [e] c.X.env)).all (fun x => !x.1) && (backToKw cpos (keywordEach [] c.X.env)).all (fun x => x.1.isSome) && decide (([e] : List Expr).length + ([] : List Keyword).length + (if ([] : List Keyword).isEmpty then 0 else 1) < 30)) = true := by
    rw [noStar hs]; rfl
  refine PS.imp (ps_expr (pe_bm F.plainAttrs_list F.slot_list_append F.type_list_append mt_append ho (pa_cons (tD_of he) pa_nil (noStar hs)) (noSup h0) few hl (noStar hs) rfl) hsw) fun D σ H ⟨F, tl, s, r⟩ => ?_
  unfold evS at r
  split at r
  · rename_i hpre
    unfold lstAt at hpre
    cases e1 : gt (era c.n tl) i with
    | none => rw [e1] at hpre; cases hpre
    | some ob =>
      rw [e1] at hpre
      obtain ⟨_, t, ht, rfl⟩ := gt_era e1
      cases t with
      | obj a dx k cs => cases hpre
      | cell y => cases y with
        | lst l ds =>
          obtain ⟨vs, g1, g2⟩ := (show (T.cell (.lst l ds)).ok c.S F H from s.g.ok i _ ht)
          refine ⟨.ref l, s.sl i _ hin ht, .inl ⟨rfl, vs, .inl (.inl g1)⟩, F, tl, s, (RunS.of r).less k1 |>.imp fun d F1 H1 tl1 s1 st1 r1 j v hj hv => ?_⟩
          have h1 : tl1[i]? = some (some (.cell (.lst l ds))) := (st1.kep i hin k0).trans ht
          obtain ⟨ws, g3, g4⟩ := (show (T.cell (.lst l ds)).ok c.S F1 H1 from s1.g.ok i _ h1)
          have nF : ¬ F1 l := s1.g.nf i _ h1 l (by simp [T.ads, TC.ads])
          have r1 : RunS c kp tl1 (liftS (growAt (era c.n tl1) i none [d])) D := r1
          unfold growAt at r1
          rw [gt_of hin h1] at r1
          have r1 : RunS c kp tl1 (liftS (if ds.length + 1 ≤ sizeLine then some (setS (era c.n tl1) i (.cell (.lst (ds ++ [d])))) else none)) D := r1
          split at r1
          · rename_i hz
            have hlen := RepDs.length g4
            refine ⟨l, ws, v, rfl, rfl, g3, by omega, ?_⟩
            have s2 : Sim c F1 (tl1.set i (some (.cell (.lst l (ds ++ [d]))))) σ (upd H1 l (.lst (ws ++ [v]))) :=
              s1.write h1 rfl (fun a ha => ha) (by simp [T.ads, TC.ads]) (fun b hb => upd_ne fun z => hb (by rw [z]; simp [T.ads, TC.ads])) ⟨ws ++ [v], upd_same, RepDs.app (RepDs.mono (upd_ext nF) _ _ g4) ⟨v, [], rfl, RepD.mono (upd_ext nF) _ _ (s1.rep hv), rfl⟩⟩
            exact r1 F1 _ _ σ s2 (Stp.set hin k2) (by rw [era_set']; rfl)
          · exact r1.elim
        | _ => cases hpre
  · exact r.elim
end
end VE

namespace VE
open PySem PySem.Spec
                     PyProof.Rows L2

theorem any_keys {k : Key} : ∀ (kvs : List (Key × V)), (kvs.any fun kv => decide (kv.1 = k)) = (kvs.map (·.1)).any fun z => decide (z = k)
  | [] => rfl
  | p :: r => by rw [List.any_cons, List.map_cons, List.any_cons, any_keys r]
theorem rep_V {S : Sta} {F : Fz} {H : Hp} {k : Key} {d : D} {v : V} (r : RepD S F H d v) : ∀ {kvs : List (Key × V)} {ds : List D}, RepDs S F H ds (kvs.map (·.2)) → ((kvs.map fun kv => if kv.1 = k then (kv.1, v) else kv).map (·.1)) = kvs.map (·.1) ∧ RepDs S F H (rep (kvs.map (·.1)) ds k d) ((kvs.map fun kv => if kv.1 = k then (kv.1, v) else kv).map (·.2))
  | [], ds, h => ⟨rfl, rfl⟩
  | p :: kvs, [], h => by
    have h : p.2 :: kvs.map (·.2) = [] := h
    cases h
  | p :: kvs, e :: ds, h => by
    obtain ⟨w, wr, e0, h1, h2⟩ := h
    have e0 : p.2 :: kvs.map (·.2) = w :: wr := e0
    injection e0 with e1 e2
    subst e1; subst e2
    obtain ⟨g1, g2⟩ := rep_V r h2
    by_cases z : p.1 = k
    · refine ⟨by rw [List.map_cons, List.map_cons, g1, if_pos z]; rfl, v, _, by rw [List.map_cons, List.map_cons, if_pos z], ?_, g2⟩
      show RepD S F H (if p.1 = k then d else e) v
      rw [if_pos z]; exact r
    · refine ⟨by rw [List.map_cons, List.map_cons, g1, if_neg z]; rfl, p.2, _, by rw [List.map_cons, List.map_cons, if_neg z], ?_, g2⟩
      show RepD S F H (if p.1 = k then d else e) p.2
      rw [if_neg z]; exact h1
theorem put_V {S : Sta} {F : Fz} {H : Hp} {k : Key} {d : D} {v : V} (r : RepD S F H d v) {kvs : List (Key × V)} {ds : List D} (h : RepDs S F H ds (kvs.map (·.2))) : (L2.putK kvs k v).map (·.1) = (put (kvs.map (·.1)) ds k d).1 ∧ RepDs S F H (put (kvs.map (·.1)) ds k d).2 ((L2.putK kvs k v).map (·.2)) := by
  unfold L2.putK put
  rw [any_keys]
  by_cases z : ((kvs.map (·.1)).any fun z => decide (z = k)) = true
  · rw [if_pos z, if_pos z]
    exact rep_V r h
  · rw [if_neg z, if_neg z]
    refine ⟨by rw [List.map_append]; rfl, ?_⟩
    rw [List.map_append]
    exact RepDs.app h ⟨v, [], rfl, r, rfl⟩
end VE

namespace VE
open PySem PySem.Spec
                     PyProof.Rows L2

def Ty.nm : Ty → String
  | .int => "int"
  | .bool => "bool"
  | .str => "str"
  | .tup => "tuple"
  | .lst => "list"
def tyD (S : Sta) : D → Option Value
  | .non => some (.type "NoneType")
  | .bl _ => some (.type "bool")
  | .int _ => some (.type "int")
  | .str _ => some (.type "str")
  | .tup _ => some (.type "tuple")
  | .lst _ => some (.type "list")
  | .obj c _ => some (.ref (S.cn c))
  | _ => none
/-- what the classes must say to isinstance -/
structure FI (S : Sta) : Prop where
  ha : ∀ c ∈ S.cl, PySem.W.findIn S.K (.ref (S.cn c)) "__class__" = some (some (.builtin "object.__class__"))
  hn : PySem.W.specialIn S.K (.builtin "object.__class__") "__get__" = some (some (.builtin "getset_descriptor.__get__"))
  htk : PySem.W.takesIn S.K (.builtin "object.__class__") = some true
  hm : ∀ c ∈ S.cl, PySem.W.mroIn S.K (S.cn c) (.type "object") = some true
  ty : ∀ c ∈ S.cl, ∀ t : Ty, PySem.W.kitOne S.K (.ref (S.cn c)) (.type t.nm) = some false
  int : ∀ c ∈ S.cl, PySem.W.kitOne S.K (.type "int") (.ref (S.cn c)) = some false
  own : ∀ c ∈ S.cl, ∀ d ∈ S.cl, c ≠ d → PySem.W.kitOne S.K (.ref (S.cn d)) (.ref (S.cn c)) = some false
section
variable {c : Cc} {F : Fz} {tl : Ld} {σ : L2.St} {H : Hp} {x : V} {r : Rf}
theorem at_obj (s : Sim c F tl σ H) {k : Nat} {ds : List D} (h : Rf.at tl (.obj k ds) x r) : ∃ a dx fs, x = .ref a ∧ H a = some (.ins (c.S.cn k) dx fs) ∧ k ∈ c.S.cl := by
  rcases r.rep s.g h with ⟨a, dx, vs, e, h1, h2, _⟩ | ⟨a, dx, k', cs, e, e2, h1, h2⟩
  · exact ⟨a, dx, _, e, h1, h2.2⟩
  · injection e with e _
    subst e
    exact ⟨a, dx, _, e2, h1, h2⟩
theorem ty_seqL {K : PySem.W.Frag} {a : Addr} {vs : List V} (h : SqL K H a vs) : TyX K H (.ref a) (.type "list") := by
  rcases h with (h | ⟨o, h⟩) | ⟨o, its, n, h1, h2, _⟩
  · exact .base (.lst h)
  · exact .base (.frz h)
  · exact .kList h1 h2
theorem ty_seqT {K : PySem.W.Frag} {a : Addr} {vs : List V} (h : SqT K H a vs) : TyX K H (.ref a) (.type "tuple") := by
  rcases h with (h | ⟨o, h⟩) | ⟨o, its, n, h1, h2, _⟩
  · exact .base (.tup h)
  · exact .fTuple h
  · exact .kTuple h1 h2
theorem ty_at (fc : FC c.S) (fi : FI c.S) (s : Sim c F tl σ H) {d : D} {t : Value} (h : Rf.at tl d x r) (e : tyD c.S d = some t) : TyX c.S.K H x t := by
  cases d with
  | non => cases e; cases at_rep s h trivial; exact .base .non
  | bl b => cases e; cases at_bl s h; exact .base (.bl b)
  | int b => cases e; cases at_int s h; exact .base (.int b)
  | str b => cases e; cases at_str s h; exact .base (.str b)
  | tup xs => cases e; obtain ⟨a, vs, e1, h1, _⟩ := at_tup s h; subst e1; exact ty_seqT h1
  | lst xs => cases e; obtain ⟨a, vs, e1, h1, _⟩ := at_lst s h; subst e1; exact ty_seqL h1
  | obj k ds => cases e; obtain ⟨a, dx, fs, e1, h1, h2⟩ := at_obj s h; subst e1; exact .base (.ins h1 (fc.cls k h2) (fi.ha k h2) fi.hn fi.htk (fi.hm k h2))
  | _ => cases e
end
section
variable {c : Cc}
theorem obj_cl {F : Fz} {tl : Ld} {σ : L2.St} {H : Hp} {x : V} {r : Rf} (s : Sim c F tl σ H) {k : Nat} {ds : List D} (h : Rf.at tl (.obj k ds) x r) : k ∈ c.S.cl := by
  obtain ⟨_, _, _, _, _, h⟩ := at_obj s h
  exact h
theorem o_isi (hK : c.S.K = c.X.K) (fc : FC c.S) (fi : FI c.S) (t : Ty) : Op1 c (.isi t) (fun x H Q => rIsi c.X.K [x, .ty t.nm] H Q) := by
  intro kp σ tl F H d r x res Q s h e q
  have e' : (tyIs t d).map (fun b => O.v (.bl b)) = some res := e
  cases e1 : tyIs t d with
  | none => rw [e1] at e'; cases e'
  | some b =>
    rw [e1] at e'
    cases e'
    have q := RunO.bl s q
    have main : ∃ v, tyD c.S d = some v ∧ PySem.W.kitOne c.S.K v (.type t.nm) = some b := by
      cases d with
      | obj k ds => cases e1; exact ⟨_, rfl, fi.ty k (obj_cl s h) t⟩
      | non => cases e1; exact ⟨_, rfl, by cases t <;> exact kit_ty (by decide +kernel)⟩
      | bl b => cases e1; exact ⟨_, rfl, by cases t <;> exact kit_ty (by decide +kernel)⟩
      | int b => cases e1; exact ⟨_, rfl, by cases t <;> exact kit_ty (by decide +kernel)⟩
      | str b => cases e1; exact ⟨_, rfl, by cases t <;> exact kit_ty (by decide +kernel)⟩
      | tup b => cases e1; exact ⟨_, rfl, by cases t <;> exact kit_ty (by decide +kernel)⟩
      | lst b => cases e1; exact ⟨_, rfl, by cases t <;> exact kit_ty (by decide +kernel)⟩
      | _ => cases e1
    obtain ⟨v, g1, g2⟩ := main
    rw [← hK]
    exact ⟨x, _, v, _, b, rfl, .ty _, ty_at fc fi s h g1, g2, q⟩
theorem o_isC (hK : c.S.K = c.X.K) (fc : FC c.S) (fi : FI c.S) (k : Nat) (hk : k ∈ c.S.cl) : Op1 c (.isC k) (fun x H Q => rIsi c.X.K [x, .ref (c.S.cn k)] H Q) := by
  intro kp σ tl F H d r x res Q s h e q
  have main : ∃ v b, tyD c.S d = some v ∧ PySem.W.kitOne c.S.K v (.ref (c.S.cn k)) = some b ∧ res = .v (.bl b) := by
    cases d with
    | obj k' ds =>
      refine ⟨_, decide (k = k'), rfl, ?_, (Option.some.inj e).symm⟩
      by_cases z : k = k'
      · subst z
        rw [decide_eq_true rfl]
        show (if (Value.ref (c.S.cn k) == Value.ref (c.S.cn k)) = true then some true else _) = some true
        rw [if_pos
                  (beq_self_eq_true _)]
      · rw [decide_eq_false z]
        exact fi.own k hk k' (obj_cl s h) z
    | int i => exact ⟨_, false, rfl, fi.int k hk, (Option.some.inj e).symm⟩
    | _ => cases e
  obtain ⟨v, b, g1, g2, rfl⟩ := main
  have q := RunO.bl s q
  rw [← hK]
  exact ⟨x, _, v, _, b, rfl, .own _, ty_at fc fi s h g1, g2, q⟩
end
end VE

namespace VE
open PySem PySem.Spec
                     PyProof.Rows L2

def isCmp : Expr → Bool
  | .ListComp _ _ _ _ => true
  | .SetComp _ _ _ _ => true
  | .DictComp _ _ _ _ _ => true
  | _ => false
def isSlc : Expr → Bool
  | .Slice _ _ _ _ => true
  | _ => false
theorem noSwap {e : Expr} {t : Option Expr} {n : Nat} {env : PySem.Env} (h : isCmp e = false) : swapsWith e t n env = pure false := by
  cases e <;> first | rfl | cases h
theorem noSwapS {e t : Expr} {n : Nat} {env : PySem.Env} (h : isCmp e = false) : swapsWithSole [t] e n env = pure false := noSwap h
theorem sub_assign {o i : Expr} {pos : Pos} {env : PySem.Env} (h : isSlc i = false) (v : Value) : assign (.Subscript o i pos) env v = (do
    let ov ← holding
                    [v] (eval o env)
    let iv ← holding
                    [v, ov] (eval i env)
    standAt pos
    holding [v, ov, iv]
                       (setItem ov iv v)
    release [v, ov, iv] []) := by
  cases i <;> first | rfl | cases h
section
variable {c : Cc} {kp kpa kpb : Nat → Prop} {F : Fz} {H : Hp} {tl : Ld} {σ : L2.St} {D : Ends}
/-- an own list in a slot, written -/
theorem own_lst (s : Sim c F tl σ H) {i : Nat} {l : Addr} {ds ds' : List VE.D} (h : tl[i]? = some (some (.cell (.lst l ds)))) (f : List V → List V) (hf : ∀ ws, RepDs c.S F H ds ws → RepDs c.S F H ds' (f ws)) : ∃ ws, H l = some (.lst ws) ∧ ws.length = ds.length ∧
    Sim c F (tl.set i (some (.cell (.lst l ds')))) σ (upd H l (.lst (f ws))) := by
  obtain ⟨ws, g1, g2⟩ := (show (T.cell (.lst l ds)).ok c.S F H from s.g.ok i _ h)
  have nF : ¬ F l := s.g.nf i _ h l (by simp [T.ads, TC.ads])
  exact ⟨ws, g1, (RepDs.length g2).symm, s.write h rfl (fun a ha => ha) (by simp [T.ads, TC.ads]) (fun b hb => upd_ne fun z => hb (by rw [z]; simp [T.ads, TC.ads])) ⟨f ws, upd_same, RepDs.mono (upd_ext nF) _ _ (hf ws g2)⟩⟩
theorem lst_there {i : Nat} (h : lstAt (era c.n tl) i none = true) : ∃ l ds, tl[i]? = some (some (.cell (.lst l ds))) ∧ i < c.n := by
  unfold lstAt at h
  cases e1 : gt (era c.n tl) i with
  | none => rw [e1] at h; cases h
  | some ob =>
    rw [e1] at h
    obtain ⟨hi, t, ht, rfl⟩ := gt_era e1
    cases t with
    | obj a dx k cs => cases h
    | cell y => cases y with
      | lst l ds => exact ⟨l, ds, ht, hi⟩
      | _ => cases h
theorem dct_there {i : Nat} (h : dctAt (era c.n tl) i = true) : ∃ l ks ds, tl[i]? = some (some (.cell (.dct l ks ds))) ∧ i < c.n := by
  unfold dctAt at h
  cases e1 : gt (era c.n tl) i with
  | none => rw [e1] at h; cases h
  | some ob =>
    rw [e1] at h
    obtain ⟨hi, t, ht, rfl⟩ := gt_era e1
    cases t with
    | obj a dx k cs => cases h
    | cell y => cases y with
      | dct l ks ds => exact ⟨l, ks, ds, ht, hi⟩
      | _ => cases h
theorem s_setIx {o ie e : Expr} {i : Nat} {mi m : E} {pos pos' : Pos} (fx : Fx c) (ho : PE c.X o (tVar i)) (hi : PE c.X ie (tE c kpb (evO c.G mi))) (he : PE c.X e (tE c kpa (evO c.G m))) (h1 : isCmp e = false) (h2 : isSlc ie = false)
    (k0 : kpb i) (k1 : ∀ j, kp j → kpa j) (k2 : ∀ j, kp j → kpb j) (k3 : ∀ j, kp j → j ≠ i) : PS c.X (.Assign [.Subscript o ie pos'] e pos) (tS c kp (evS c.G (.setIx i mi m))) := by
  refine PS.imp (ps_asg (tD_of he) (pg_sub ho (tD_of hi) set_list (sub_assign h2)) (noSwapS h1) (by cases e <;> rfl) rfl) fun D σ H ⟨F, tl, s, r⟩ => ?_
  unfold evS at r
  refine ⟨F, tl, s, (RunS.of r).less k1 |>.imp fun d F1 H1 tl1 s1 st1 r1 j v hj hv => ?_⟩
  have r1 : RunS c kp tl1 (if lstAt (era c.n tl1) i none then SOut.of ((evO c.G mi (era c.n tl1)).map O.frz) fun k env2 => match k with
    | .int n => liftS (putIx env2 i n d)
    | _ => .bad else .bad) D := r1
  split at r1
  · rename_i hl
    obtain ⟨l, ds, ht, hin⟩ := lst_there hl
    refine ⟨.ref l, s1.sl i _ hin ht, F1, tl1, s1, (RunS.of r1).less k2 |>.imp fun k F2 H2 tl2 s2 st2 r2 j2 w hj2 hw => ?_⟩
    cases k with
    | int n =>
      have r2 : RunS c kp tl2 (liftS (putIx (era c.n tl2) i n d)) D := r2
      have ht2 := (st2.kep i hin k0).trans ht
      have hv2 := (st2.tmp j (by have := s.len; omega) (lt_of hv)).trans hv
      unfold putIx at r2
      rw [gt_of hin ht2] at r2
      have r2 : RunS c kp tl2 (liftS ((ixN ds.length n).map fun j => setS (era c.n tl2) i (.cell (.lst (ds.set j d))))) D := r2
      have ew : w = .int n := s2.rep hw
      cases e2 : ixN ds.length n with
      | none => rw [e2] at r2; exact r2.elim
      | some jx =>
        rw [e2] at r2
        obtain ⟨ws, g1, g2, s3⟩ := own_lst s2 ht2 (fun ws => ws.set jx v) (ds' := ds.set jx d) (fun ws hws => RepDs.set (s2.rep hv2) jx hws)
        subst ew
        refine ⟨l, ws, n, jx, rfl, rfl, g1, by rw [g2]; exact e2, ?_⟩
        exact r2 F2 _ _ σ s3 (Stp.set hin k3) (by rw [era_set']; rfl)
    | _ => exact r2.elim
  · exact r1.elim
theorem s_setK {o ie e : Expr} {i : Nat} {mi m : E} {pos pos' : Pos} (fx : Fx c) (hu : c.X.A.units + 1 < cLine) (ho : PE c.X o (tVar i)) (hi : PE c.X ie (tE c kpb (evO c.G mi))) (he : PE c.X e (tE c kpa (evO c.G m))) (h1 : isCmp e = false)
    (k0 : kpb i) (k1 : ∀ j, kp j → kpa j) (k2 : ∀ j, kp j → kpb j) (k3 : ∀ j, kp j → j ≠ i) : PS c.X (.Assign [.Subscript o ie pos'] e pos) (tS c kp (evS c.G (.setK i mi m))) := by
  refine PS.imp (ps_dput hu ho (tD_of hi) (tD_of he) (noSwap h1)) fun D σ H ⟨F, tl, s, r⟩ => ?_
  unfold evS at r
  refine ⟨F, tl, s, (RunS.of r).less k1 |>.imp fun d F1 H1 tl1 s1 st1 r1 j v hj hv => ?_⟩
  have r1 : RunS c kp tl1 (if dctAt (era c.n tl1) i then SOut.of ((evO c.G mi (era c.n tl1)).map O.frz) fun x env2 => liftS (putK env2 i x d) else .bad) D := r1
  split at r1
  · rename_i hl
    obtain ⟨l, ks, ds, ht, hin⟩ := dct_there hl
    refine ⟨.ref l, s1.sl i _ hin ht, F1, tl1, s1, (RunS.of r1).less k2 |>.imp fun k F2 H2 tl2 s2 st2 r2 j2 w hj2 hw => ?_⟩
    have r2 : RunS c kp tl2 (liftS (putK (era c.n tl2) i k d)) D := r2
    have ht2 := (st2.kep i hin k0).trans ht
    have hv2 := (st2.tmp j (by have := s.len; omega) (lt_of hv)).trans hv
    unfold putK at r2
    rw [gt_of hin ht2] at r2
    cases e2 : keyOf k with
    | none => rw [e2] at r2; exact r2.elim
    | some x =>
      rw [e2] at r2
      have r2 : RunS c kp tl2 (liftS (if ks.length < sizeLine then some (setS (era c.n tl2) i (.cell (.dct (put ks ds x d).1 (put ks ds x d).2))) else none)) D := r2
      split at r2
      · rename_i hz
        obtain ⟨kvs, g1, g2, g3⟩ := (show (T.cell (.dct l ks ds)).ok c.S F2 H2 from s2.g.ok i _ ht2)
        have nF : ¬ F2 l := s2.g.nf i _ ht2 l (by simp [T.ads, TC.ads])
        have ew : w = kV x := key_V s2 (r := .ix j2) ⟨_, hw, rfl, rfl⟩ e2
        subst g2
        obtain ⟨q1, q2⟩ := put_V (k := x) (s2.rep hv2) g3
        refine ⟨l, _, rfl, by rw [ew]; exact DPut.k g1 (by rw [List.length_map] at hz; exact hz), ?_⟩
        have s3 : Sim c F2 (tl2.set i (some (.cell (.dct l (put (kvs.map (·.1)) ds x d).1 (put (kvs.map (·.1)) ds x d).2)))) σ (upd H2 l (.dK (L2.putK kvs x v))) :=
          s2.write ht2 rfl (fun a ha => ha) (by simp [T.ads, TC.ads]) (fun b hb => upd_ne fun z => hb (by rw [z]; simp [T.ads, TC.ads])) ⟨_, upd_same, q1, RepDs.mono (upd_ext nF) _ _ q2⟩
        exact r2 F2 _ _ σ s3 (Stp.set hin k3) (by rw [era_set']; rfl)
      · exact r2.elim
  · exact r1.elim
theorem PS.or {X : Cx} {st : Stmt} {t1 t2 t : TS} (h1 : PS X st t1) (h2 : PS X st t2) (h : ∀ D σ H, t D σ H → t1 D σ H ∨ t2 D σ H) : PS X st t := ⟨fun pins s σ H D I q => (h D σ H q).elim (h1.run pins s σ H D I) (h2.run pins s σ H D I)⟩
theorem s_setX {o ie e : Expr} {i : Nat} {mi m : E} {pos pos' : Pos} (fx : Fx c) (hu : c.X.A.units + 1 < cLine) (ho : PE c.X o (tVar i)) (hi : PE c.X ie (tE c kpb (evO c.G mi))) (he : PE c.X e (tE c kpa (evO c.G m))) (h1 : isCmp e = false) (h2 : isSlc ie = false)
    (k0 : kpb i) (k1 : ∀ j, kp j → kpa j) (k2 : ∀ j, kp j → kpb j) (k3 : ∀ j, kp j → j ≠ i) : PS c.X (.Assign [.Subscript o ie pos'] e pos) (tS c kp (evS c.G (.setX i mi m))) := by
  refine PS.or (s_setIx fx ho hi he h1 h2 k0 k1 k2 k3) (s_setK fx hu ho hi he h1 k0 k1 k2 k3) fun D σ H ⟨F, tl, s, r⟩ => ?_
  unfold evS at r
  cases e1 : evO c.G m (era c.n tl) with
  | bad => rw [e1] at r; exact r.elim
  | exc x env =>
    rw [e1] at r
    refine .inl ⟨F, tl, s, ?_⟩
    unfold evS
    rw [e1]
    exact r
  | ok o env =>
    rw [e1] at r
    have r : RunS c kp tl (if lstAt env i none then (SOut.of ((evO c.G mi env).map O.frz) fun k env2 => match k with
      | .int n => liftS (putIx env2 i n o.frz)
      | _ => .bad) else if dctAt env i then SOut.of ((evO c.G mi env).map O.frz) fun x env2 => liftS (putK env2 i x o.frz) else .bad) D := r
    split at r
    · rename_i hl
      refine .inl ⟨F, tl, s, ?_⟩
      unfold evS
      rw [e1]
      show RunS c kp tl (if lstAt env i none then _ else _) D
      rw [if_pos hl]
      exact r
    · refine .inr ⟨F, tl, s, ?_⟩
      unfold evS
      rw [e1]
      exact r
theorem s_aug {x : Str} {e : Expr} {i : Nat} {m : E} {op : Operator} {ng : Bool} {pos pos' : Pos} (fx : Fx c) (hx : c.X.N[i]? = some x) (hl : Loc c.X.env.scope x) (he : PE c.X e (tE c kpa (evO c.G m))) (hop : op = if ng then .Sub else .Add)
    (hf : c.X.fn x = true ∨ c.X.env.scope.names.lookup x = some .local) (k1 : ∀ j, kp j → kpa j) (k2 : ∀ j, kp j → j ≠ i) : PS c.X (.AugAssign (.Name x pos') op e pos) (tS c kp (evS c.G (.aug i ng m))) := by
  have hin : i < c.n := (List.getElem?_eq_some_iff.mp hx).1
  have main : ∀ (ti : TIp), PIp c.X op ti → (∀ a b H Q, Q (.int (if ng then a - b else a + b)) H → ti (.int a) (.int b) H Q) → PS c.X (.AugAssign (.Name x pos') op e pos) (tS c kp (evS c.G (.aug i ng m))) := by
    intro ti hti hq
    refine PS.imp (ps_aug fx.nn hx hl (tD_of he) hti hf) fun D σ H ⟨F, tl, s, r⟩ => ?_
    unfold evS at r
    cases e1 : gt (era c.n tl) i with
    | none => rw [e1] at r; exact r.elim
    | some ob =>
      obtain ⟨_, t, ht, rfl⟩ := gt_era e1
      cases t with
      | obj a dx k cs => rw [e1] at r; exact r.elim
      | cell y => cases y with
        | val d v => cases d with
          | int a =>
            rw [e1] at r
            have ev : v = .int a := (show (T.cell (.val (.int a) v)).ok c.S F H from s.g.ok i _ ht)
            subst ev
            refine ⟨.int a, s.sl i _ hin ht, F, tl, s, (RunS.of0 r).less k1 |>.imp fun d F1 H1 tl1 s1 st1 r1 j v hj hv => ?_⟩
            cases d with
            | int b =>
              have r1 : RunS c kp tl (if okAsg c.G.lk i then .nx (setS (era c.n tl1) i (.v (.int (if ng then a - b else a + b)))) else .bad) D := r1
              split at r1
              · rename_i hok
                have ew : v = .int b := s1.rep hv
                subst ew
                refine hq a b H1 _ ?_
                have s2 := s1.setV (d := .int (if ng then a - b else a + b)) (v := .int (if ng then a - b else a + b)) (i := i) rfl hin (fx.free hok)
                exact r1 F1 H1 _ _ s2 ((st1.mono k1).trans (Stp.set hin k2) fun _ z => ⟨z, z⟩) (by rw [era_set']; rfl)
              · exact r1.elim
            | _ => exact r1.elim
          | _ => rw [e1] at r; exact r.elim
        | _ => rw [e1] at r; exact r.elim
  cases ng with
  | true => subst hop; exact main _ ip_sub fun a b H Q q => ⟨a, b, rfl, rfl, q⟩
  | false => subst hop; exact main _ ip_add fun a b H Q q => ⟨a, b, rfl, rfl, q⟩
end
end VE

namespace VEL
open PySem PySem.W
                  PySem.Calls
                              PyProof.Rows Builtin
section
variable {prog : Program} {w : World} {A :
                                          Around} {E : Value → Shared → Prop} {s : Shared}
abbrev plain (s : Shared) (x C dx : Addr) : Prop := s.heap.get? x = some { cls := .ref C, dict := some dx, data := .plain, slots := #[] }
theorem m_add (i : Int) (t : Tok) (x C dx : Addr) : Meets (Builtin.«int.__add__» ⟨[.int i t, .ref x], []⟩) (fun _ R s => plain s x C dx ∧ R (.ok (.ret Value.notImplemented)) s) :=
  .of_wp fun prog
                 w A R s h => by
                                 obtain ⟨hp, g, d, tk, os⟩ := s; obtain ⟨hl, h⟩ := h; wp_walk; exact ⟨_, rfl, h⟩
theorem m_sub (i : Int) (t : Tok) (x C dx : Addr) : Meets (Builtin.«int.__sub__» ⟨[.int i t, .ref x], []⟩) (fun _ R s => plain s x C dx ∧ R (.ok (.ret Value.notImplemented)) s) :=
  .of_wp fun prog
                 w A R s h => by
                                 obtain ⟨hp, g, d, tk, os⟩ := s; obtain ⟨hl, h⟩ := h; wp_walk; exact ⟨_, rfl, h⟩
theorem m_mul (i : Int) (t : Tok) (x C dx : Addr) : Meets (Builtin.«int.__mul__» ⟨[.int i t, .ref x], []⟩) (fun _ R s => plain s x C dx ∧ R (.ok (.ret Value.notImplemented)) s) :=
  .of_wp fun prog
                 w A R s h => by
                                 obtain ⟨hp, g, d, tk, os⟩ := s; obtain ⟨hl, h⟩ := h; wp_walk; exact ⟨_, rfl, h⟩
theorem m_le (i : Int) (t : Tok) (x C dx : Addr) : Meets (Builtin.«int.__le__» ⟨[.int i t, .ref x], []⟩) (fun _ R s => plain s x C dx ∧ R (.ok (.ret Value.notImplemented)) s) :=
  .of_wp fun prog
                 w A R s h => by
                                 obtain ⟨hp, g, d, tk, os⟩ := s; obtain ⟨hl, h⟩ := h; wp_walk; exact ⟨_, rfl, h⟩
theorem m_ge (i : Int) (t : Tok) (x C dx : Addr) : Meets (Builtin.«int.__ge__» ⟨[.int i t, .ref x], []⟩) (fun _ R s => plain s x C dx ∧ R (.ok (.ret Value.notImplemented)) s) :=
  .of_wp fun prog
                 w A R s h => by
                                 obtain ⟨hp, g, d, tk, os⟩ := s; obtain ⟨hl, h⟩ := h; wp_walk; exact ⟨_, rfl, h⟩
theorem m_eq (i : Int) (t : Tok) (x C dx : Addr) : Meets (Builtin.«int.__eq__» ⟨[.int i t, .ref x], []⟩) (fun _ R s => plain s x C dx ∧ R (.ok (.ret Value.notImplemented)) s) :=
  .of_wp fun prog
                 w A R s h => by
                                 obtain ⟨hp, g, d, tk, os⟩ := s; obtain ⟨hl, h⟩ := h; wp_walk; exact ⟨_, rfl, h⟩
theorem aok {id : String} (a b : Value) (h : ∀ a b : Value, argsOk id ⟨[a, b], []⟩) : argsOk id ⟨[a, b], []⟩ := h a b
/-- the int declines, the instance answers: op -/
theorem bin_refl {K : Frag} {op : Operator} {i : Int} {t : Tok} {x C f g dx : Addr} {ox : Obj} {od : Option Obj} {idl : String} {Q : Value → Shared → Prop} (X : K.In s.heap) (I : InstAt s.heap x ox C od) (hc : selfFirst K C = true)
    (hs : findIn K (.ref C) (PySem.dunder op.info.2) = some (some (.ref g))) (hr : findIn K (.ref C) (dunderR op.info.2) = some (some (.ref f))) (hf : isFn K (.ref f) = true)
    (hfT : fillsNumberSlot (.type "int") op.info.2 = pure true) (hl : Slot "int" (PySem.dunder op.info.2) idl) (hsub : subIn K (.ref C) (.type "int") = some false)
    (hd : ∀ {Q' : Value → Shared → Prop}, Q' .notImplemented s → wpAny (model prog w) A (call (.builtin idl) [.int i t, .ref x]) Q' E s)
    (h : wpAny (model prog w) A (call (.ref f) [.ref x, .int i t]) (PySem.W.CmpBack Q) E s) : wpAny (model prog w) A (binaryOp op (.int i t) (.ref x)) Q E s := by
  obtain ⟨cd, rest, hcd,
                        hm⟩ := ksp_first hc
  rcases hi : op.info
                     with ⟨sym, nm'⟩
  rw [hi] at hs hr hfT hl
  dsimp only at hs hr hfT hl
  have one := ksp_try X I hr hf h
  have LC : Looks (model prog w) s.heap (typeOf (.ref x)) (.ref C) := I.type
  have LT : Looks (model prog w) s.heap (typeOf (.int i t)) (.type "int") := Looks.of_pure rfl
  have LF : Looks (model prog w) s.heap (fillsNumberSlot (.type "int") nm') true := Looks.of_pure hfT
  have LG : Looks (model prog w) s.heap (fillsNumberSlot (.ref C) nm') true := fills_K X hcd hm hs
  have LS : Looks (model prog w) s.heap (isSubtype (.ref C) (.type "int")) false := looks_subIn X hsub
  have LP : Looks (model prog w) s.heap (numberSlotInPython (.type "int") nm') false := Looks.of_pure rfl
  have hne : (Value.type "int" == Value.ref C) = false := Bool.eq_false_iff.mpr fun q => by cases beq_iff_eq.mp q
  have dec : wpAny (model prog w) A (tryMethod (.int i t) (PySem.dunder nm') (.ref x)) (fun r s' => r = none ∧ s' = s) E s :=
    wpAny_tryMethod_declines (T := "int") (show s.TypeIs (.int i t) "int" from rfl) hl (hd ⟨rfl, rfl, rfl⟩)
  simp only [binaryOp, hi]
  refine wpAny_holding
                      (wpAny_bind ?_)
  unfold binaryOp1
  refine wpAny_bind (LT.here (wpAny_bind (LC.here (wpAny_bind (LF.here ?_)))))
  simp only [hne,
                 Bool.false_eq_true, if_false]
  refine wpAny_bind (LG.here ?_)
  simp only
           [Bool.and_self, if_true]
  refine wpAny_bind (LS.here ?_)
  simp only [Bool.false_eq_true, if_false, pure_bind, Bool.not_false, Bool.and_self, if_true, Bool.and_true]
  refine wpAny_bind (LP.here ?_)
  simp only [Bool.false_eq_true, if_false, pure_bind]
  refine wpAny_bind (wpAny_mono dec (fun r s' e => ?_) fun _ _ z => z)
  obtain ⟨e1, e2⟩ := e
  subst e1
  subst e2
  dsimp only
  try simp only [pure_bind]
  refine wpAny_bind (wpAny_mono one (fun r s' e => ?_) fun _ _ z => z)
  obtain ⟨v, e1, hq⟩ := e
  subst e1
  dsimp only
  exact wpAny_bind (wpAny_rule (wpAny_pure (wpAny_pure hq)))
/-- the int declines, the instance answers: a comparison -/
theorem cmp_refl {K : Frag} {op : CmpOp} {i : Int} {t : Tok} {x C f : Addr} {ox : Obj} {od : Option Obj} {idl : String} {Q : Value → Shared → Prop} (hu : A.units < cLine) (X : K.In s.heap) (I : InstAt s.heap x ox C od)
    (hr : findIn K (.ref C) (cmpInfo op).2.2 = some (some (.ref f))) (hf : isFn K (.ref f) = true) (hl : Slot "int" (cmpInfo op).2.1 idl) (hsub : subIn K (.ref C) (.type "int") = some false) (ho : oneThing? op (.int i t) (.ref x) = none)
    (hd : ∀ {Q' : Value → Shared → Prop}, Q' .notImplemented s → wpAny (model prog w) A (call (.builtin idl) [.int i t, .ref x]) Q' E s)
    (h : wpAny (model prog w) A (call (.ref f) [.ref x, .int i t]) (PySem.W.CmpBack Q) E s) : wpAny (model prog w) A (richCompare op (.int i t) (.ref x)) Q E s := by
  have two : wpAny (model prog w) A (tryCompare (.ref x) (cmpInfo op).2.2 (.int i t)) (fun r s' => ∃ v, r = some v ∧ Q v s') E s := by
    unfold tryCompare
    refine wpAny_bind (ifBound_K X I hr hf (wpAny_mono h (fun v s' hv => ?_) fun _ _ e => e))
    cases v <;> first
                     | exact hv.elim | exact wpAny_pure ⟨_, rfl, hv⟩
  have dec : wpAny (model prog w) A (tryCompare (.int i t) (cmpInfo op).2.1 (.ref x)) (fun r s' => r = none ∧ s' = s) E s := by
    unfold tryCompare
    refine wpAny_bind (wpAny_callSpecialIfBound?_slot (T := "int") (show s.TypeIs (.int i t) "int" from rfl) hl (hd ?_))
    exact wpAny_pure ⟨rfl, rfl⟩
  have LC : Looks (model prog w) s.heap (typeOf (.ref x)) (.ref C) := I.type
  have LT : Looks (model prog w) s.heap (typeOf (.int i t)) (.type "int") := Looks.of_pure rfl
  have LS : Looks (model prog w) s.heap (isSubtype (.ref C) (.type "int")) false := looks_subIn X hsub
  have hne : (Value.type "int" != Value.ref C) = true := by
    rw [bne_iff_ne]
    intro q
    cases q
  unfold richCompare
  simp only [ho]
  refine wpAny_holding (wpAny_bind
                                  (wpAny_cRoomFor hu ?_))
  refine wpAny_bind (LT.here (wpAny_bind (LC.here ?_)))
  rw [hne]
  simp only [if_true]
  refine wpAny_bind (LS.here ?_)
  simp only [Bool.false_eq_true, if_false, pure_bind]
  refine wpAny_bind (wpAny_mono dec (fun r s' e => ?_) fun _ _ z => z)
  obtain ⟨e1, e2⟩ := e
  subst e1
  subst e2
  dsimp only
  simp only [Bool.not_false, if_true, pure_bind]
  refine wpAny_bind (wpAny_mono two (fun r s' e => ?_) fun _ _ z => z)
  obtain ⟨v, e1, hq⟩ := e
  subst e1
  dsimp only
  exact wpAny_pure hq
end
end VEL

namespace VE
open PySem PySem.Spec
                     PyProof.Rows L2

section
variable {c : Cc} {kp kpa kpb : Nat → Prop} {F : Fz} {H : Hp} {tl : Ld} {σ : L2.St} {Q : VK}
theorem PE.some {X : Cx} {e : Expr} {α : Type} {t : TE} {ts : α → TE} (h : ∀ a, PE X e (ts a) ∨ True) (i : ∀ σ H Q, t σ H Q → ∃ a, PE X e (ts a) ∧ ts a σ H Q) : PE X e t := ⟨fun pins s σ H Q I q => by
  obtain ⟨a, p, z⟩ := i σ H Q q
  exact p.run pins s σ H Q I z⟩
theorem PE.cases {X : Cx} {e : Expr} {t : TE} (i : ∀ σ H Q, t σ H Q → ∃ t', PE X e t' ∧ t' σ H Q) : PE X e t := ⟨fun pins s σ H Q I q => by
  obtain ⟨t', p, z⟩ := i σ H Q q
  exact p.run pins s σ H Q I z⟩
theorem pick_some {x y : D} {res : O} : ∀ {os : List B2}, pick os x y = some res → ∃ o ∈ os, b2 o x y = some res
  | [], h => by cases h
  | o :: os, h => by
    unfold pick at h
    cases e : b2 o x y with
    | some r =>
      rw [e] at h
      cases h
      exact ⟨o, List.mem_cons_self, e⟩
    | none =>
      rw [e] at h
      obtain ⟨o', h1, h2⟩ := pick_some h
      exact ⟨o', List.mem_cons_of_mem _ h1, h2⟩
/-- one of the operations, by the values -/
theorem s_bd {os : List B2} {e : Expr} {ma mb : E} (hn : os ≠ []) (hp : ∀ o ∈ os, ∀ d, pre o d = true) (h : ∀ o ∈ os, PE c.X e (tE c kp (evO c.G (.b2 o ma mb)))) : PE c.X e (tE c kp (evO c.G (.bd os ma mb))) := by
  refine PE.cases fun σ H Q ⟨F, tl, s, r⟩ => ?_
  unfold evO at r
  have any : ∀ o ∈ os, RunO c kp σ tl (evO c.G (.b2 o ma mb) (era c.n tl)) Q → ∃ t', PE c.X e t' ∧ t' σ H Q := fun o ho q => ⟨_, h o ho, F, tl, s, q⟩
  obtain ⟨o0, os', e0⟩ : ∃ o0 os', os = o0 :: os' := by
    cases os with
    | nil => exact absurd rfl hn
    | cons a b => exact ⟨a, b, rfl⟩
  have h0 : o0 ∈ os := by rw [e0]; exact List.mem_cons_self
  cases e1 : bor ma (evO c.G ma (era c.n tl)) (era c.n tl) with
  | bad => rw [e1] at r; exact r.elim
  | exc x env =>
    rw [e1] at r
    refine any o0 h0 ?_
    unfold evO
    rw [e1]
    exact r
  | ok d1 env1 =>
    rw [e1] at r
    have r : RunO c kp σ tl ((bor mb (evO c.G mb env1) env1).bind fun y env2 => lift (pick os d1 y) env2) Q := r
    cases e2 : bor mb (evO c.G mb env1) env1 with
    | bad => rw [e2] at r; exact r.elim
    | exc x env =>
      rw [e2] at r
      refine any o0 h0 ?_
      unfold evO
      rw [e1]
      show RunO c kp σ tl (if pre o0 d1 then _ else _) Q
      rw [if_pos (hp o0 h0 d1), e2]
      exact r
    | ok d2 env2 =>
      rw [e2] at r
      have r : RunO c kp σ tl (lift (pick os d1 d2) env2) Q := r
      cases e3 : pick os d1 d2 with
      | none => rw [e3] at r; exact r.elim
      | some res =>
        rw [e3] at r
        obtain ⟨o, ho, e4⟩ := pick_some e3
        refine any o ho ?_
        unfold evO
        rw [e1]
        show RunO c kp σ tl (if pre o d1 then _ else _) Q
        rw [if_pos (hp o ho d1), e2]
        show RunO c kp σ tl (lift (b2 o d1 d2) env2) Q
        rw [e4]
        exact r
/-- two values, then what is run on them -/
theorem two_vals {ma mb : E} {f : D → D → VE.Env → Out O} {R : V → V → Hp → Prop} (h : tE c kp (fun env => ((evO c.G ma env).map O.frz).bind fun x env1 => ((evO c.G mb env1).map O.frz).bind fun y env2 => f x y env2) σ H Q) (k1 : ∀ i, kp i → kpa i) (k2 : ∀ i, kp i → kpb i)
    (go : ∀ (F : Fz) (tl tl2 : Ld) (d1 d2 : D) (v1 v2 : V) (j1 j2 : Nat) (H2 : Hp), Sim c F tl2 σ H2 → Stp c.n kp tl tl2 → c.n ≤ tl.length → tl.length ≤ j1 → j1 < j2 → tl2[j1]? = some (some (T.val d1 v1)) → tl2[j2]? = some (some (T.val d2 v2)) → RunK c kp σ tl (f d1 d2 (era c.n tl2)) (KO tl Q) → R v1 v2 H2) :
    tD c kpa (fun env => (evO c.G ma env).map O.frz) σ H fun x H1 => tD c kpb (fun env => (evO c.G mb env).map O.frz) σ H1 fun y H2 => R x y H2 := by
  obtain ⟨F, tl, s, r⟩ := h
  refine ⟨F, tl, s, (RunK.bind0 (RunO.k r)).less k1 |>.imp fun d1 F1 H1 tl1 s1 st1 r1 j1 v1 hj1 hv1 => ?_⟩
  have st1' := st1.mono k1
  refine ⟨F1, tl1, s1, ((RunK.bind0 r1).adv st1').less k2 |>.imp fun d2 F2 H2 tl2 s2 st2 r2 j2 v2 hj2 hv2 => ?_⟩
  have st2' := st2.mono k2
  exact go F2 tl tl2 d1 d2 v1 v2 j1 j2 H2 s2 (st1'.trans st2' fun _ z => ⟨z, z⟩) s.len hj1 (Nat.lt_of_lt_of_le (lt_of hv1) hj2) ((st2.tmp j1 (by have := s.len; omega) (lt_of hv1)).trans hv1) hv2 r2
theorem one_val {ma : E} {f : D → VE.Env → Out O} {R : V → Hp → Prop} (h : tE c kp (fun env => ((evO c.G ma env).map O.frz).bind fun x env1 => f x env1) σ H Q) (k1 : ∀ i, kp i → kpa i)
    (go : ∀ (F : Fz) (tl tl2 : Ld) (d1 : D) (v1 : V) (j1 : Nat) (H2 : Hp), Sim c F tl2 σ H2 → Stp c.n kp tl tl2 → c.n ≤ tl.length → tl.length ≤ j1 → tl2[j1]? = some (some (T.val d1 v1)) → RunK c kp σ tl (f d1 (era c.n tl2)) (KO tl Q) → R v1 H2) :
    tD c kpa (fun env => (evO c.G ma env).map O.frz) σ H fun x H1 => R x H1 := by
  obtain ⟨F, tl, s, r⟩ := h
  exact ⟨F, tl, s, (RunK.bind0 (RunO.k r)).less k1 |>.imp fun d1 F1 H1 tl1 s1 st1 r1 j1 v1 hj1 hv1 => go F1 tl tl1 d1 v1 j1 H1 s1 (st1.mono k1) s.len hj1 hv1 r1⟩
end

def OpAt (X : Cx) (σ : L2.St) (f : Value → Value → Sem Value) (r : R2) : Prop :=
  ∀ (pins : List (Addr × Obj)) (s : Shared) (H : Hp) (x y : V) (v u : Value) (Q : VK), Inv X pins σ H s → RelV x v → RelV y u → r x y H Q → wpAny (model X.prog X.w) X.A (f v u) (EP X pins σ Q) X.xe s
theorem pe_opS {X : Cx} {a b : Expr} {ta tb : TE} {pos : Pos} {op : Operator} {r : L2.St → R2} (ho : ∀ σ, OpAt X σ (binaryOp op) (r σ)) (ha : PE X a ta) (hb : PE X b tb) : PE X (.BinOp a op b pos) (fun σ H Q => ta σ H fun x H1 => tb σ H1 fun y H2 => r σ x y H2 Q) :=
  ⟨fun pins s σ H Q I h => wpAny_BinOp (binT ha hb I h fun v u s2 x y H2 I2 rx ry q => ho σ pins s2 H2 x y v u Q I2 rx ry q)⟩
theorem pe_cmpS {X : Cx} {a b : Expr} {ta tb : TE} {pos : Pos} {op : CmpOp} {r : L2.St → R2} (ho : ∀ σ, OpAt X σ (compareOp op) (r σ)) (ha : PE X a ta) (hb : PE X b tb) (hm : behindInMarks op b = false) : PE X (.Compare a [op] [b] pos) (fun σ H Q => ta σ H fun x H1 => tb σ H1 fun y H2 => r σ x y H2 Q) :=
  ⟨fun pins s σ H Q I h => wpAny_Compare1 (binT ha hb I h fun v u s2 x y H2 I2 rx ry q => ho σ pins s2 H2 x y v u Q I2 rx ry q) hm⟩
/-- what the class says of an operator -/
structure OpF (K : PySem.W.Frag) (C fa ra : Addr) (op : Operator) : Prop where
  sf : PySem.W.selfFirst K C = true
  fwd : PySem.W.findIn K (.ref C) (PySem.dunder op.info.2) = some (some (.ref fa))
  ffn : PySem.W.isFn K (.ref fa) = true
  rev : PySem.W.findIn K (.ref C) (dunderR op.info.2) = some (some (.ref ra))
  rfn : PySem.W.isFn K (.ref ra) = true
  i1 : ∃ fo, PySem.W.findIn K (.type "int") (PySem.dunder op.info.2) = some fo
  i2 : ∃ ro, PySem.W.findIn K (.type "int") (dunderR op.info.2) = some ro
  ic : PySem.W.subIn K (.type "int") (.ref C) = some false
  ci : PySem.W.subIn K (.ref C) (.type "int") = some false
structure CmpF (K : PySem.W.Frag) (C fa ra : Addr) (op : CmpOp) : Prop where
  fwd : PySem.W.findIn K (.ref C) (cmpInfo op).2.1 = some (some (.ref fa))
  ffn : PySem.W.isFn K (.ref fa) = true
  rev : PySem.W.findIn K (.ref C) (cmpInfo op).2.2 = some (some (.ref ra))
  rfn : PySem.W.isFn K (.ref ra) = true
  ic : PySem.W.subIn K (.type "int") (.ref C) = some false
  ci : PySem.W.subIn K (.ref C) (.type "int") = some false
/-- the int's own operator declines -/
structure IOp (op : Operator) : Prop where
  fl : fillsNumberSlot (.type "int") op.info.2 = pure true
  ex : ∃ idl, Slot "int" (PySem.dunder op.info.2) idl ∧ ∀ (prog : Program) (w : World) (A : Around) (E : Value → Shared → Prop) (s : Shared) (i : Int) (t : Tok) (x C dx : Addr) (Q : Value → Shared → Prop), VEL.plain s x C dx → Q .notImplemented s → wpAny (model prog w) A (call (.builtin idl) [.int i t, .ref x]) Q E s
theorem iop_add : IOp .Add := ⟨F.fills_int_add, _, F.slot_int_add, fun prog w A E s i t x C dx Q h q => call_meets F.slot_int_add (show s.TypeIs (.int i t) "int" from rfl) F.entry_int_add (by unfold argsOk; kernel_rfl) (VEL.m_add i t x C dx) ⟨h, q⟩⟩
theorem iop_sub : IOp .Sub := ⟨F.fills_int_sub, _, F.slot_int_sub, fun prog w A E s i t x C dx Q h q => call_meets F.slot_int_sub (show s.TypeIs (.int i t) "int" from rfl) F.entry_int_sub (by unfold argsOk; kernel_rfl) (VEL.m_sub i t x C dx) ⟨h, q⟩⟩
theorem iop_mul : IOp .Mult := ⟨F.fills_int_mul, _, F.slot_int_mul, fun prog w A E s i t x C dx Q h q => call_meets F.slot_int_mul (show s.TypeIs (.int i t) "int" from rfl) F.entry_int_mul (by unfold argsOk; kernel_rfl) (VEL.m_mul i t x C dx) ⟨h, q⟩⟩
structure ICmp (op : CmpOp) : Prop where
  ho : ∀ i t x, oneThing? op (.int i t) (.ref x) = none
  of : ∀ (prog : Program) (w : World) (A : Around) (E : Value → Shared → Prop) (s : Shared) (a b : Value) (Q : Value → Shared → Prop), wpAny (model prog w) A (richCompare op a b) Q E s → wpAny (model prog w) A (compareOp op a b) Q E s
  ex : ∃ idl, Slot "int" (cmpInfo op).2.1 idl ∧ ∀ (prog : Program) (w : World) (A : Around) (E : Value → Shared → Prop) (s : Shared) (i : Int) (t : Tok) (x C dx : Addr) (Q : Value → Shared → Prop), VEL.plain s x C dx → Q .notImplemented s → wpAny (model prog w) A (call (.builtin idl) [.int i t, .ref x]) Q E s
theorem icmp_le : ICmp .LtE := ⟨fun _ _ _ => rfl, fun _ _ _ _ _ _ _ _ h => h, _, F.slot_int_le, fun prog w A E s i t x C dx Q h q => call_meets F.slot_int_le (show s.TypeIs (.int i t) "int" from rfl) F.entry_int_le (by unfold argsOk; kernel_rfl) (VEL.m_le i t x C dx) ⟨h, q⟩⟩
theorem icmp_ge : ICmp .GtE := ⟨fun _ _ _ => rfl, fun _ _ _ _ _ _ _ _ h => h, _, F.slot_int_ge, fun prog w A E s i t x C dx Q h q => call_meets F.slot_int_ge (show s.TypeIs (.int i t) "int" from rfl) F.entry_int_ge (by unfold argsOk; kernel_rfl) (VEL.m_ge i t x C dx) ⟨h, q⟩⟩
theorem icmp_eq : ICmp .Eq := ⟨fun _ _ _ => rfl, fun _ _ _ _ _ _ _ _ h => h, _, F.slot_int_eq, fun prog w A E s i t x C dx Q h q => call_meets F.slot_int_eq (show s.TypeIs (.int i t) "int" from rfl) F.entry_int_eq (by unfold argsOk; kernel_rfl) (VEL.m_eq i t x C dx) ⟨h, q⟩⟩
end VE

namespace VE
open PySem PySem.Spec
                     PyProof.Rows L2

/-- the instance at an address -/
theorem inst_at {X : Cx} {pins : List (Addr × Obj)} {σ : L2.St} {H : Hp} {s : Shared} {a C dx : Addr} {fs : List (Str × V)} (I : Inv X pins σ H s) (h : H a = some (.ins C dx fs)) : (∃ od, PySem.W.InstAt s.heap a (PySem.W.instObj C dx) C (some od)) ∧ VEL.plain s a C dx := by
  obtain ⟨mA, O, _⟩ := ins_get I.hok h
  obtain ⟨od, J, _⟩ := O.look
  exact ⟨⟨od, J⟩, O.obj⟩
theorem back_of {X : Cx} {pins : List (Addr × Obj)} {σ : L2.St} {Q : VK} {A : Around} {M : Model} {E : Value → Shared → Prop} {s : Shared} {m : Sem Value} (h : wpAny M A m (EP X pins σ Q) E s) : wpAny M A m (PySem.W.CmpBack (EP X pins σ Q)) E s :=
  wpAny_mono h (fun v s' hv => by
    cases v with
    | notImplemented => obtain ⟨v, _, _, r, _⟩ := hv; cases v <;> first | (cases r; done) | (obtain ⟨_, r2⟩ := r; cases r2)
    | _ => exact hv) fun _ _ z => z
/-- what is asked of the operands, by their kinds -/
def rOwn (c : Cc) (kc f rf : Nat) (pl : R2) (σ : L2.St) : R2 := fun x y H Q =>
  (∃ a dx fs, x = .ref a ∧ H a = some (.ins (c.S.cn kc) dx fs) ∧ ((∃ i, y = .int i) ∨ ∃ b dy gs, y = .ref b ∧ H b = some (.ins (c.S.cn kc) dy gs)) ∧ spF c.S c.G.C f ([x, y] ++ []) H Q (EW c σ)) ∨
  (∃ i a dx fs, x = .int i ∧ y = .ref a ∧ H a = some (.ins (c.S.cn kc) dx fs) ∧ spF c.S c.G.C rf ([y, x] ++ []) H Q (EW c σ)) ∨ pl x y H Q
section
variable {c : Cc} {kp kpa kpb : Nat → Prop} {F : Fz} {H : Hp} {tl : Ld} {σ : L2.St} {Q : VK}
variable {k kc f rf : Nat} {fa ra : Addr} {fd rd : FuncData} {ps qs : List Str}
theorem op_own {op : Operator} {pl : R2} (fx : Fx c) (T : OpF c.X.K (c.S.cn kc) fa ra op) (J : IOp op) (FF : FnOk c.X.prog c.X.w c.X.K c.X.mg c.X.base (CX c.X.prog c.X.w) k fa fd ps (spF c.S c.G.C f)) (FR : FnOk c.X.prog c.X.w c.X.K c.X.mg c.X.base (CX c.X.prog c.X.w) k ra rd qs (spF c.S c.G.C rf)) (hr : Room k c.X.A)
    (hb : Binds c.X.K fd ps []) (hb2 : Binds c.X.K rd qs []) (hpl : OpR c.X (binaryOp op) pl) (σ : L2.St) : OpAt c.X σ (binaryOp op) (rOwn c kc f rf pl σ) := by
  intro pins s H x y v u Q I rx ry h
  obtain ⟨m, fr⟩ := I.fr
  rcases h with ⟨a, dx, fs, e1, ha, hy, sp⟩ | ⟨i, a, dx, fs, e1, e2, ha, sp⟩ | h
  · subst e1
    obtain rfl : v =
                    Value.ref a := rx
    obtain ⟨⟨od, A1⟩, _⟩ := inst_at I ha
    have run := back_of (run_fnT (us := [.ref a, u]) (vs := [.ref a, y]) (dvs := []) fx.tk FF hr hb .nil I (.cons rfl (.cons ry .nil)) sp)
    rcases hy with ⟨i, e2⟩ | ⟨b, dy, gs, e2, hb'⟩
    · subst e2
      obtain ⟨t, e3⟩ := ry
      subst e3
      obtain ⟨fo, i1⟩ := T.i1
      obtain ⟨ro, i2⟩ := T.i2
      exact PySem.W.ksp_binT (T := "int") fr I.ok.mod.kin A1 rfl T.sf T.fwd T.ffn T.rev (.inr ⟨_, rfl⟩) i1 i2 T.ic run
    · subst e2
      obtain rfl : u =
                      Value.ref b := ry
      obtain ⟨⟨od2, A2⟩, _⟩ := inst_at I hb'
      exact PySem.W.binop_K fr I.ok.mod.kin A1 A2.type T.sf T.fwd T.ffn run
  · subst e1
    subst e2
    obtain rfl : u =
                    Value.ref a := ry
    obtain ⟨t, e3⟩ := rx
    subst e3
    obtain ⟨⟨od, A1⟩, pl⟩ := inst_at I ha
    have run := back_of (run_fnT (us := [.ref a, .int i t]) (vs := [.ref a, .int i]) (dvs := []) fx.tk FR hr hb2 .nil I (.cons rfl (.cons ⟨t, rfl⟩ .nil)) sp)
    obtain ⟨idl, sl, dec⟩ := J.ex
    exact VEL.bin_refl (dx := dx) I.kIn A1 T.sf T.fwd T.rev T.rfn J.fl sl T.ci (fun q => dec _ _ _ _ _ _ _ _ _ _ _ pl q) run
  · exact hpl pins s σ H x y v u Q I rx ry h
theorem cmp_own {op : CmpOp} {pl : R2} (fx : Fx c) (hu : c.X.A.units < cLine) (T : CmpF c.X.K (c.S.cn kc) fa ra op) (J : ICmp op) (FF : FnOk c.X.prog c.X.w c.X.K c.X.mg c.X.base (CX c.X.prog c.X.w) k fa fd ps (spF c.S c.G.C f)) (FR : FnOk c.X.prog c.X.w c.X.K c.X.mg c.X.base (CX c.X.prog c.X.w) k ra rd qs (spF c.S c.G.C rf)) (hr : Room k c.X.A)
    (hb : Binds c.X.K fd ps []) (hb2 : Binds c.X.K rd qs []) (hpl : OpR c.X (compareOp op) pl) (σ : L2.St) : OpAt c.X σ (compareOp op) (rOwn c kc f rf pl σ) := by
  intro pins s H x y v u Q I rx ry h
  obtain ⟨m, fr⟩ := I.fr
  rcases h with ⟨a, dx, fs, e1, ha, hy, sp⟩ | ⟨i, a, dx, fs, e1, e2, ha, sp⟩ | h
  · subst e1
    obtain rfl : v =
                    Value.ref a := rx
    obtain ⟨⟨od, A1⟩, _⟩ := inst_at I ha
    have run := back_of (run_fnT (us := [.ref a, u]) (vs := [.ref a, y]) (dvs := []) fx.tk FF hr hb .nil I (.cons rfl (.cons ry .nil)) sp)
    rcases hy with ⟨i, e2⟩ | ⟨b, dy, gs, e2, hb'⟩
    · subst e2
      obtain ⟨t, e3⟩ := ry
      subst e3
      refine J.of _ _ _ _ _ _ _ _ (PySem.W.cmp_K (tb := .type "int") hu fr I.ok.mod.kin A1 (PySem.W.Looks.of_pure rfl) ?_ T.fwd T.ffn run)
      unfold PySem.W.notFirst
      rw [T.ic]
      exact (Bool.or_eq_true _ _).mpr (.inr rfl)
    · subst e2
      obtain rfl : u =
                      Value.ref b := ry
      obtain ⟨⟨od2, A2⟩, _⟩ := inst_at I hb'
      refine J.of _ _ _ _ _ _ _ _ (PySem.W.cmp_K hu fr I.ok.mod.kin A1 A2.type ?_ T.fwd T.ffn run)
      unfold PySem.W.notFirst
      rw [beq_self_eq_true]
      rfl
  · subst e1
    subst e2
    obtain rfl : u =
                    Value.ref a := ry
    obtain ⟨t, e3⟩ := rx
    subst e3
    obtain ⟨⟨od, A1⟩, pl⟩ := inst_at I ha
    have run := back_of (run_fnT (us := [.ref a, .int i t]) (vs := [.ref a, .int i]) (dvs := []) fx.tk FR hr hb2 .nil I (.cons rfl (.cons ⟨t, rfl⟩ .nil)) sp)
    obtain ⟨idl, sl, dec⟩ := J.ex
    exact J.of _ _ _ _ _ _ _ _ (VEL.cmp_refl hu I.kIn A1 T.rev T.rfn sl T.ci (J.ho _ _ _) (fun q => dec _ _ _ _ _ _ _ _ _ _ _ pl q) run)
  · exact hpl pins s σ H x y v u Q I rx ry h
/-- the plain operations of a list, by values -/
def plO (c : Cc) (fn : Value → Value → Sem Value) (os : List B2) : R2 := fun x y H Q => ∃ o ∈ os, ∃ r, OpR c.X fn r ∧ Op2 c o r ∧ r x y H Q
theorem plO_ok {fn : Value → Value → Sem Value} {os : List B2} : OpR c.X fn (plO c fn os) := fun pins s σ H x y v u Q I rx ry ⟨o, _, r, h1, _, q⟩ => h1 pins s σ H x y v u Q I rx ry q
theorem val_obj {F2 : Fz} {tl2 : Ld} {H2 : Hp} {j : Nat} {k : Nat} {ds : List VE.D} {v : V} (s : Sim c F2 tl2 σ H2) (h : tl2[j]? = some (some (T.val (.obj k ds) v))) : ∃ a dx fs, v = .ref a ∧ H2 a = some (.ins (c.S.cn k) dx fs) := by
  obtain ⟨a, dx, vs, e, ⟨_, h1⟩, _⟩ := s.rep h
  exact ⟨a, dx, _, e, h1⟩
/-- two values at their places, to the operator -/
theorem own_ok {fn : Value → Value → Sem Value} {os : List B2} (hos : ∀ o ∈ os, ∃ r, OpR c.X fn r ∧ Op2 c o r) {F2 : Fz} {tl tl2 : Ld} {d1 d2 : VE.D} {v1 v2 : V} {j1 j2 : Nat} {H2 : Hp} (s : Sim c F2 tl2 σ H2) (st : Stp c.n kp tl tl2) (hn : c.n ≤ tl.length) (h1 : tl.length ≤ j1) (h12 : j1 < j2) (e1 : tl2[j1]? = some (some (T.val d1 v1))) (e2 : tl2[j2]? = some (some (T.val d2 v2)))
    (r : RunK c kp σ tl (match ownSide kc d1 d2 with
      | .fst => runCall c.G.C .fn f [.t (.v d1), .t (.v d2)] [] (era c.n tl2)
      | .snd => runCall c.G.C .fn rf [.t (.v d2), .t (.v d1)] [] (era c.n tl2)
      | .no => lift (pick os d1 d2) (era c.n tl2)
      | .bad => .bad) (KO tl Q)) : rOwn c kc f rf (plO c fn os) σ v1 v2 H2 Q := by
  have noio : ∀ {a b : O} {i : Nat}, kp i → i ∉ argsS [A.t a, A.t b] := fun _ z => by simp [argsS] at z
  -- the second place comes ahead: the entries by their own order
  have callF : ∀ {g : Nat}, RunK c kp σ tl (runCall c.G.C .fn g [.t (.v d1), .t (.v d2)] [] (era c.n tl2)) (KO tl Q) → spF c.S c.G.C g ([v1, v2] ++ []) H2 Q (EW c σ) := fun q =>
    call_sp (js := [j1, j2]) (vs := [v1, v2]) s st hn (fun _ z => z) (fun i z => noio z) ⟨v1, [v2], j1, [j2], rfl, rfl, h1, ⟨_, e1, rfl, rfl⟩, v2, [], j2, [], rfl, rfl, h12, ⟨_, e2, rfl, rfl⟩, rfl, rfl⟩ (dfl := []) (dvs := []) rfl q
  have callR : ∀ {g : Nat}, RunK c kp σ tl (runCall c.G.C .fn g [.t (.v d2), .t (.v d1)] [] (era c.n tl2)) (KO tl Q) → spF c.S c.G.C g ([v2, v1] ++ []) H2 Q (EW c σ) := fun q => by
    have s3 := s.pushV (s.rep e1)
    have hl2 : tl.length ≤ tl2.length := st.len
    have e3 : (tl2 ++ [some (T.val d1 v1)])[tl2.length]? = some (some (T.val d1 v1)) := by simp
    rw [← era_push (o := some (T.val d1 v1)) s.len] at q
    exact call_sp (js := [j2, tl2.length]) (vs := [v2, v1]) s3 (st.trans (Stp.push s.len) fun _ z => ⟨z, z⟩) hn (fun _ z => z) (fun i z => noio z) ⟨v2, [v1], j2, [tl2.length], rfl, rfl, by omega, ⟨_, (List.getElem?_append_left (lt_of e2)).trans e2, rfl, rfl⟩, v1, [], tl2.length, [], rfl, rfl, lt_of e2, ⟨_, e3, rfl, rfl⟩, rfl, rfl⟩ (dfl := []) (dvs := []) rfl q
  have isno : ownSide kc d1 d2 = .no → rOwn c kc f rf (plO c fn os) σ v1 v2 H2 Q := fun z => by
    rw [z] at r
    have r : RunK c kp σ tl (lift (pick os d1 d2) (era c.n tl2)) (KO tl Q) := r
    cases e3 : pick os d1 d2 with
    | none => rw [e3] at r; exact r.elim
    | some res =>
      rw [e3] at r
      obtain ⟨o, ho, e4⟩ := pick_some e3
      obtain ⟨q, h3, h4⟩ := hos o ho
      exact .inr (.inr ⟨o, ho, q, h3, h4, h4 kp σ tl2 F2 H2 d1 d2 (.ix j1) (.ix j2) v1 v2 res Q s ⟨_, e1, rfl, rfl⟩ ⟨_, e2, rfl, rfl⟩ e4 (RunK.oAt (RunK.adv r st) st.len)⟩)
  cases e3 : ownSide kc d1 d2 with
  | no => exact isno e3
  | bad => rw [e3] at r; exact r.elim
  | fst =>
    rw [e3] at r
    cases d1 with
    | obj k1 ds1 =>
      obtain ⟨a, dx, fs, ev, ha⟩ := val_obj s e1
      cases d2 with
      | obj k2 ds2 =>
        obtain ⟨b, dy, gs, ev2, hb⟩ := val_obj s e2
        have e3 : (if k1 = kc ∧ k2 = kc then Side.fst else .bad) = .fst := e3
        split at e3
        · rename_i hk
          rw [hk.1] at ha
          rw [hk.2] at hb
          exact .inl ⟨a, dx, fs, ev, ha, .inr ⟨b, dy, gs, ev2, hb⟩, callF r⟩
        · cases e3
      | int i =>
        have e3 : (if k1 = kc then Side.fst else .bad) = .fst := e3
        split at e3
        · rename_i hk
          subst hk
          exact .inl ⟨a, dx, fs, ev, ha, .inl ⟨i, s.rep e2⟩, callF r⟩
        · cases e3
      | _ => cases e3
    | int i => cases d2 <;> first | (cases e3; done) | (simp only [ownSide] at e3; split at e3 <;> cases e3)
    | _ => cases d2 <;> cases e3
  | snd =>
    rw [e3] at r
    cases d1 with
    | int i =>
      cases d2 with
      | obj k2 ds2 =>
        obtain ⟨b, dy, gs, ev2, hb⟩ := val_obj s e2
        have e3 : (if k2 = kc then Side.snd else .bad) = .snd := e3
        split at e3
        · rename_i hk
          subst hk
          exact .inr (.inl ⟨i, b, dy, gs, s.rep e1, ev2, hb, callR r⟩)
        · cases e3
      | _ => cases e3
    | obj k1 ds1 => cases d2 <;> first | (cases e3; done) | (simp only [ownSide] at e3; split at e3 <;> cases e3)
    | _ => cases d2 <;> cases e3
/-- a op b, where a or b may be of an own class -/
theorem s_own {op : Operator} {os : List B2} {a b : Expr} {ma mb : E} {pos : Pos} (fx : Fx c) (T : OpF c.X.K (c.S.cn kc) fa ra op) (J : IOp op) (FF : FnOk c.X.prog c.X.w c.X.K c.X.mg c.X.base (CX c.X.prog c.X.w) k fa fd ps (spF c.S c.G.C f)) (FR : FnOk c.X.prog c.X.w c.X.K c.X.mg c.X.base (CX c.X.prog c.X.w) k ra rd qs (spF c.S c.G.C rf)) (hr : Room k c.X.A)
    (hb : Binds c.X.K fd ps []) (hb2 : Binds c.X.K rd qs []) (hos : ∀ o ∈ os, ∃ r, OpR c.X (binaryOp op) r ∧ Op2 c o r) (ha : PE c.X a (tE c kpa (evO c.G ma))) (hbb : PE c.X b (tE c kpb (evO c.G mb))) (k1 : ∀ i, kp i → kpa i) (k2 : ∀ i, kp i → kpb i) : PE c.X (.BinOp a op b pos) (tE c kp (evO c.G (.own op os kc f rf ma mb))) := by
  refine PE.imp (pe_opS (op_own (pl := plO c (binaryOp op) os) fx T J FF FR hr hb hb2 plO_ok) (tD_of ha) (tD_of hbb)) fun σ H Q h => ?_
  have e : evO c.G (.own op os kc f rf ma mb) = fun env => ((evO c.G ma env).map O.frz).bind fun x env1 => ((evO c.G mb env1).map O.frz).bind fun y env2 => match ownSide kc x y with
    | .fst => runCall c.G.C .fn f [.t (.v x), .t (.v y)] [] env2
    | .snd => runCall c.G.C .fn rf [.t (.v y), .t (.v x)] [] env2
    | .no => lift (pick os x y) env2
    | .bad => .bad := by
    funext env
    rw [evO] <;> rfl
  rw [e] at h
  exact two_vals h k1 k2 fun F tl tl2 d1 d2 v1 v2 j1 j2 H2 s st hn h1 h12 e1 e2 r => own_ok hos s st hn h1 h12 e1 e2 r
theorem s_ownc {op : CmpOp} {os : List B2} {a b : Expr} {ma mb : E} {pos : Pos} (fx : Fx c) (hu : c.X.A.units < cLine) (T : CmpF c.X.K (c.S.cn kc) fa ra op) (J : ICmp op) (FF : FnOk c.X.prog c.X.w c.X.K c.X.mg c.X.base (CX c.X.prog c.X.w) k fa fd ps (spF c.S c.G.C f)) (FR : FnOk c.X.prog c.X.w c.X.K c.X.mg c.X.base (CX c.X.prog c.X.w) k ra rd qs (spF c.S c.G.C rf)) (hr : Room k c.X.A)
    (hb : Binds c.X.K fd ps []) (hb2 : Binds c.X.K rd qs []) (hos : ∀ o ∈ os, ∃ r, OpR c.X (compareOp op) r ∧ Op2 c o r) (hm : behindInMarks op b = false) (ha : PE c.X a (tE c kpa (evO c.G ma))) (hbb : PE c.X b (tE c kpb (evO c.G mb))) (k1 : ∀ i, kp i → kpa i) (k2 : ∀ i, kp i → kpb i) : Snd c kp (.Compare a [op] [b] pos) (.ownc op os kc f rf ma mb) := by
  refine Snd.cmp (PE.imp (pe_cmpS (cmp_own (pl := plO c (compareOp op) os) fx hu T J FF FR hr hb hb2 plO_ok) (tD_of ha) (tD_of hbb) hm) fun σ H Q h => ?_)
  have e : evO c.G (.ownc op os kc f rf ma mb) = fun env => ((evO c.G ma env).map O.frz).bind fun x env1 => ((evO c.G mb env1).map O.frz).bind fun y env2 => match ownSide kc x y with
    | .fst => runCall c.G.C .fn f [.t (.v x), .t (.v y)] [] env2
    | .snd => runCall c.G.C .fn rf [.t (.v y), .t (.v x)] [] env2
    | .no => lift (pick os x y) env2
    | .bad => .bad := by
    funext env
    rw [evO] <;> rfl
  rw [e] at h
  exact two_vals h k1 k2 fun F tl tl2 d1 d2 v1 v2 j1 j2 H2 s st hn h1 h12 e1 e2 r => own_ok hos s st hn h1 h12 e1 e2 r
/-- - a -/
structure NegF (K : PySem.W.Frag) (C fa : Addr) : Prop where
  fwd : PySem.W.findIn K (.ref C) "__neg__" = some (some (.ref fa))
  ffn : PySem.W.isFn K (.ref fa) = true
def rNegA (c : Cc) (kc f : Nat) (σ : L2.St) (x : V) (H : Hp) (Q : VK) : Prop := (∃ a dx fs, x = .ref a ∧ H a = some (.ins (c.S.cn kc) dx fs) ∧ spF c.S c.G.C f ([x] ++ []) H Q (EW c σ)) ∨ ∃ i, x = .int i ∧ Q (.int (-i)) H
theorem s_own1 {a : Expr} {ma : E} {pos : Pos} (fx : Fx c) (T : NegF c.X.K (c.S.cn kc) fa) (FF : FnOk c.X.prog c.X.w c.X.K c.X.mg c.X.base (CX c.X.prog c.X.w) k fa fd ps (spF c.S c.G.C f)) (hr : Room k c.X.A) (hb : Binds c.X.K fd ps []) (ha : PE c.X a (tE c kpa (evO c.G ma))) (k1 : ∀ i, kp i → kpa i) : PE c.X (.UnaryOp .USub a pos) (tE c kp (evO c.G (.own1 kc f ma))) := by
  have base : PE c.X (.UnaryOp .USub a pos) (fun σ H Q => tD c kpa (fun env => (evO c.G ma env).map O.frz) σ H fun x H1 => rNegA c kc f σ x H1 Q) := by
    refine ⟨fun pins s σ H Q I h => UnaryOp_ (thn ((tD_of ha).run pins s σ H _ I h) fun v s1 ⟨x, H1, I1, r1, q1⟩ => ?_)⟩
    obtain ⟨m, fr⟩ := I1.fr
    rcases q1 with ⟨a, dx, fs, e1, h1, sp⟩ | ⟨i, e1, q⟩
    · subst e1
      obtain rfl : v =
                      Value.ref a := r1
      obtain ⟨⟨od, A1⟩, _⟩ := inst_at I1 h1
      exact PySem.W.ksp_neg fr I1.ok.mod.kin A1 T.fwd T.ffn (run_fnT (us := [.ref a]) (vs := [.ref a]) (dvs := []) fx.tk FF hr hb .nil I1 (.cons rfl .nil) sp)
    · subst e1
      exact un_neg pins s1 σ H1 (.int i) v Q I1 r1 ⟨i, rfl, q⟩
  refine PE.imp base fun σ H Q h => ?_
  have e : evO c.G (.own1 kc f ma) = fun env => ((evO c.G ma env).map O.frz).bind fun x env1 => match x with
    | .obj k _ => if k = kc then runCall c.G.C .fn f [.t (.v x)] [] env1 else .bad
    | .int i => .ok (.v (.int (-i))) env1
    | _ => .bad := by
    funext env
    rw [evO] <;> rfl
  rw [e] at h
  refine one_val h k1 fun F tl tl2 d1 v1 j1 H2 s st hn h1 e1 r => ?_
  cases d1 with
  | int i =>
    refine .inr ⟨i, s.rep e1, ?_⟩
    exact RunO.int s (RunK.oAt (RunK.adv (show RunK c kp σ tl (.ok (.v (.int (-i))) (era c.n tl2)) (KO tl Q) from r) st) st.len)
  | obj k1 ds1 =>
    obtain ⟨a, dx, fs, ev, ha⟩ := val_obj s e1
    have r2 : RunK c kp σ tl (if k1 = kc then runCall c.G.C .fn f [.t (.v (.obj k1 ds1))] [] (era c.n tl2) else .bad) (KO tl Q) := r
    by_cases hk : k1 = kc
    · rw [if_pos hk] at r2
      subst hk
      exact .inl ⟨a, dx, fs, ev, ha, call_sp (as := [.t (.v (.obj k1 ds1))]) (js := [j1]) (vs := [v1]) s st hn (fun _ z => z) (fun i _ z => by simp [argsS] at z) ⟨v1, [], j1, [], rfl, rfl, h1, ⟨_, e1, rfl, rfl⟩, rfl, rfl⟩ (dfl := []) (dvs := []) rfl r2⟩
    · rw [if_neg hk] at r2; exact r2.elim
  | _ => exact r.elim
end
end VE

namespace VE
open PySem PySem.Spec
                     PyProof.Rows L2

section
variable {c : Cc} {kp : Nat → Prop} {F : Fz} {H : Hp} {tl : Ld} {σ : L2.St} {Q : VK}
/-- an argument's reading; the arguments' readings -/
def tA1 (c : Cc) (kp : Nat → Prop) : E → TE
  | .io i => tVar i
  | m => tE c kp (evO c.G m)
def tAr (c : Cc) (kp : Nat → Prop) : List E → TA
  | [] => tNil
  | m :: ms => tCons (tA1 c kp m) (tAr c kp ms)
theorem tA1_e {m : E} (h : isIo m = false) : tA1 c kp m = tE c kp (evO c.G m) := by
  unfold tA1
  cases m <;> first | rfl | cases h
theorem TE_imp_var {i : Nat} {Q' : VK} {H : Hp} (h : tVar i σ H Q) (k : ∀ v, Q v H → Q' v H) : tVar i σ H Q' := by
  obtain ⟨v, e, q⟩ := h
  exact ⟨v, e, k v q⟩
theorem tAr_of : ∀ (ms : List E) {H : Hp} {R : List V → Hp → Prop}, (∀ m ∈ ms, ∀ i, m = .io i → i < c.n) → tAs c kp (evAs c.G none ms) σ H R → tAr c kp ms σ H R
  | [], H, R, _, ⟨F, tl, s, r⟩ => by
    unfold evAs at r
    exact r F H tl s Stp.refl rfl [] [] ⟨rfl, rfl⟩
  | m :: ms, H, R, hb, ⟨F, tl, s, r⟩ => by
    have hb' : ∀ m ∈ ms, ∀ i, m = .io i → i < c.n := fun m' h => hb m' (List.mem_cons_of_mem _ h)
    by_cases hio : isIo m = true
    · cases m with
      | io i =>
        unfold evAs at r
        have r : RunK c kp σ tl (if (gt (era c.n tl) i).isSome && clsOk none (gt (era c.n tl) i) then (evAs c.G none ms (era c.n tl)).bind fun xs env1 => .ok (.s i :: xs) env1 else .bad) (KA c σ tl R) := r
        cases e1 : gt (era c.n tl) i with
        | none => rw [e1] at r; exact r.elim
        | some o =>
          rw [e1] at r
          have r : RunK c kp σ tl ((evAs c.G none ms (era c.n tl)).bind fun xs env1 => .ok (.s i :: xs) env1) (KA c σ tl R) := r
          obtain ⟨_, t, ht, _⟩ := gt_era e1
          have hi := hb _ List.mem_cons_self i rfl
          have hv := s.sl i t hi ht
          refine ⟨t.v, hv, tAr_of ms hb' ⟨F, tl, s, (RunK.bind r).imp fun as F' H' tl' s' st' r' vs js h => ?_⟩⟩
          exact r' F' H' tl' s' Stp.refl rfl (t.v :: vs) (i :: js) ⟨t.v, vs, js, rfl, rfl, hi, hv, h⟩
      | _ => cases hio
    · have hio : isIo m = false := by simpa using hio
      rw [evAs_cons hio] at r
      show tA1 c kp m σ H _
      rw [tA1_e hio]
      refine ⟨F, tl, s, RunK.o ((RunK.bind r).imp fun o F1 H1 tl1 s1 st1 r1 j t hj ht ho => ?_)⟩
      have r1 : RunK c kp σ tl1 ((evAs c.G none ms (era c.n tl1)).bind fun xs env2 => .ok (.t o :: xs) env2) (KA c σ tl R) := r1
      refine tAr_of ms hb' ⟨F1, tl1, s1, (RunK.bind r1).imp fun as F2 H2 tl2 s2 st2 r2 vs js h => ?_⟩
      have hn := s.len
      have h2 : tl2[j]? = some (some t) := (st2.tmp j (by omega) (lt_of ht)).trans ht
      exact r2 F2 H2 tl2 s2 Stp.refl rfl (t.v :: vs) (j :: js) ⟨t.v, vs, j, js, rfl, rfl, hj, ⟨t, h2, ho, rfl⟩, AtA.mono (lt_of ht) h⟩
theorem tA1_imp {m : E} {Q' : VK} (h : tA1 c kp m σ H Q) (k : ∀ v H, Q v H → Q' v H) : tA1 c kp m σ H Q' := by
  by_cases hio : isIo m = true
  · cases m with
    | io i => exact TE_imp_var h fun v => k v H
    | _ => cases hio
  · have hio : isIo m = false := by simpa using hio
    rw [tA1_e hio] at h ⊢
    exact tE.imp h k
theorem tAr_app : ∀ (ms1 : List E) {ms2 : List E} {H : Hp} {R : List V → Hp → Prop}, tAr c kp (ms1 ++ ms2) σ H R → tAr c kp ms1 σ H fun vs H1 => tAr c kp ms2 σ H1 fun zs H2 => R (vs ++ zs) H2
  | [], _, _, _, h => h
  | m :: ms1, ms2, H, R, h => tA1_imp h fun v H1 q => tAr_app ms1 q
/-- arguments that are judged -/
inductive Args (c : Cc) (kp : Nat → Prop) : List Expr → List E → Prop where
  | nil : Args c kp [] []
  | cons {e : Expr} {es : List Expr} {m : E} {ms : List E} (h : PE c.X e (tA1 c kp m)) (hs : isStar e = false) (hr : Args c kp es ms) : Args c kp (e :: es) (m :: ms)
theorem Args.pa {es : List Expr} {ms : List E} (h : Args c kp es ms) : PA c.X es (tAr c kp ms) := by
  induction h with
  | nil => exact pa_nil
  | cons h hs _ ih => exact pa_cons h ih (noStar hs)
theorem Args.plain {es : List Expr} {ms : List E} (h : Args c kp es ms) : es.all (fun e => !isStar e) = true := by
  induction h with
  | nil => rfl
  | cons h hs _ ih => rw [List.all_cons, hs, ih]; rfl
inductive Kws (c : Cc) (kp : Nat → Prop) : List Keyword → List E → List Str → Prop where
  | nil : Kws c kp [] [] []
  | cons {x : Str} {e : Expr} {p : Pos} {kws : List Keyword} {m : E} {ms : List E} {ks : List Str} (h : PE c.X e (tA1 c kp m)) (hr : Kws c kp kws ms ks) : Kws c kp (⟨some x, e, p⟩ :: kws) (m :: ms) (x :: ks)
theorem Kws.pk {kws : List Keyword} {ms : List E} {ks : List Str} (h : Kws c kp kws ms ks) : PK c.X kws (tAr c kp ms) := by
  induction h with
  | nil => exact pk_nil
  | cons h _ ih => exact pk_cons h ih
theorem Kws.all {pos : Pos} {env : PySem.Env} {kws : List Keyword} {ms : List E} {ks : List Str} (h : Kws c kp kws ms ks) : (backToKw pos (keywordEach kws env)).all (·.1.isSome) = true := by
  induction h with
  | nil => rfl
  | cons h _ ih => exact (show (true && _) = true from ih)
theorem Kws.none {pos : Pos} {env : PySem.Env} {kws : List Keyword} {ms : List E} {ks : List Str} (h : Kws c kp kws ms ks) : (backToKw pos (keywordEach kws env)).any (·.1.isNone) = false := by
  induction h with
  | nil => rfl
  | cons h _ ih => exact (show (false || _) = false from ih)
theorem Kws.names {pos : Pos} {env : PySem.Env} {kws : List Keyword} {ms : List E} {ks : List Str} (h : Kws c kp kws ms ks) : (backToKw pos (keywordEach kws env)).filterMap (·.1) = ks := by
  induction h with
  | nil => rfl
  | cons h _ ih =>
    show List.filterMap (·.1) ((some _, _) :: backToKw pos (keywordEach _ env)) = _
    rw [List.filterMap_cons]
    dsimp only
    rw [ih]
theorem Kws.len {kws : List Keyword} {ms : List E} {ks : List Str} (h : Kws c kp kws ms ks) : ms.length = ks.length ∧ kws.length = ks.length := by
  induction h with
  | nil => exact ⟨rfl, rfl⟩
  | cons h _ ih => exact ⟨congrArg Nat.succ ih.1, congrArg Nat.succ ih.2⟩
theorem Args.len {es : List Expr} {ms : List E} (h : Args c kp es ms) : es.length = ms.length := by
  induction h with
  | nil => rfl
  | cons h hs _ ih => exact congrArg Nat.succ ih
theorem tAr_len : ∀ (ms : List E) {H : Hp} {R : List V → Hp → Prop}, tAr c kp ms σ H R → tAr c kp ms σ H fun vs H1 => vs.length = ms.length ∧ R vs H1
  | [], _, _, h => ⟨rfl, h⟩
  | m :: ms, H, R, h => tA1_imp h fun v H1 q => by
    have := tAr_len ms q
    refine tAr_imp ms this fun vs H2 ⟨e, q⟩ => ⟨congrArg Nat.succ e, q⟩
where
  tAr_imp : ∀ (ms : List E) {H : Hp} {R R' : List V → Hp → Prop}, tAr c kp ms σ H R → (∀ vs H, R vs H → R' vs H) → tAr c kp ms σ H R'
  | [], _, _, _, h, k => k _ _ h
  | m :: ms, H, R, R', h, k => tA1_imp h fun v H1 q => tAr_imp ms q fun vs H2 => k (v :: vs) H2
/-- how n positional values, keywords of the names ks and the values ds that fill up are bound -/
def BindsG (K : PySem.W.Frag) (fd : FuncData) (ps : List Str) (n : Nat) (ks : List Str) (ds : List Value) : Prop := ∀ (s : Shared) (us ws : List Value), K.In s.heap → us.length = n → ws.length = ks.length → BindsTo s fd ⟨us, ks.zip ws⟩ (ps.zip (us ++ ws ++ ds))
theorem BindsG.of {K : PySem.W.Frag} {fd : FuncData} {ps : List Str} {n : Nat} {ds : List Value} (h : Binds K fd ps ds) (hn : n + ds.length = ps.length) : BindsG K fd ps n [] ds := fun s us ws hK h1 h2 => by
  cases ws with
  | nil =>
    rw [List.append_nil]
    exact h s us hK (by rw [List.length_append]; omega)
  | cons w ws => cases h2
theorem run_fnG {X : Cx} {W : WX} {k n : Nat} {ks : List Str} {f : Addr} {fd : FuncData} {ps : List Str} {sp : Sp} {dvs : List V} {ds : List Value} {pins : List (Addr × Obj)} {σ : L2.St} {H : Hp} {s : Shared} {Q : VK} {us ws : List Value} {vs zs : List V} (tk : Takes X W)
    (F : FnOk X.prog X.w X.K X.mg X.base (CX X.prog X.w) k f fd ps sp) (hr : Room k X.A) (hb : BindsG X.K fd ps n ks ds) (hd : Vals dvs ds) (I : L2.Inv X pins σ H s) (r : Vals vs us) (rz : Vals zs ws) (hn : vs.length = n) (hm : zs.length = ks.length) (h : sp (vs ++ zs ++ dvs) H Q fun cls d H' => W cls d σ H') :
    wpAny (model X.prog X.w) X.A (call (.ref f) us (ks.zip ws)) (EP X pins σ Q) X.xe s := by
  have go := F.run X.A X.stack s H ⟨us, ks.zip ws⟩ (us ++ ws ++ ds) (vs ++ zs ++ dvs) Q _ hr I.env0 (hb s us ws I.kIn (r.length.symm.trans hn) (rz.length.symm.trans hm)) ((r.append rz).append hd) h
  refine wpAny_call (codeAny_mono go fun res s' hq => ?_)
  match res, hq with
  | .error e, hq => exact tk _ _ (XE.of_call I (fun _ _ _ z => z) hq)
  | .ok (.ret u), hq => exact I.after hq
/-- the arguments of a call, then the call -/
theorem call_all {es : List Expr} {kws : List Keyword} {ms1 ms2 : List E} {ks : List Str} {f : Value} {first : List Value} {pos : Pos} {pins : List (Addr × Obj)} {s : Shared} {R : List V → Hp → Prop} (he : Args c kp es ms1) (hk : Kws c kp kws ms2 ks) (hne : es ≠ [] ∨ kws = []) (hkp : PySem.W.keepIn c.X.K f = true) (I : L2.Inv c.X pins σ H s)
    (h : tAr c kp (ms1 ++ ms2) σ H R)
    (go : ∀ (us ws : List Value) (s2 : Shared) (vs zs : List V) (H2 : Hp), L2.Inv c.X pins σ H2 s2 → Vals vs us → Vals zs ws → vs.length = ms1.length → zs.length = ks.length → R (vs ++ zs) H2 → wpAny (model c.X.prog c.X.w) c.X.A (call f (first ++ us) (ks.zip ws)) (EP c.X pins σ Q) c.X.xe s2) :
    wpAny (model c.X.prog c.X.w) c.X.A (callWith pos f first (backTo pos (starEach es c.X.env)) (backToKw pos (keywordEach kws c.X.env))) (EP c.X pins σ Q) c.X.xe s := by
  have h1 := tAr_len ms1 (tAr_app ms1 h)
  cases he with
  | nil =>
    rcases hne with z | z
    · exact absurd rfl z
    · subst z
      cases hk
      obtain ⟨_, q⟩ := (show ([] : List V).length = 0 ∧ R ([] ++ []) H from h1)
      exact PySem.W.callWith_K0 I.kIn hkp (go [] [] s [] [] H I .nil .nil rfl rfl q)
  | @cons e es m ms hp hs hr =>
    have all := Args.plain (.cons hp hs hr)
    have pa := Args.pa (.cons hp hs hr)
    refine PySem.W.callWith_KW (h₀ := c.X.base) I.ok.mod.kin hkp hk.all (thn (pa.run pos pins s σ H _ I h1) fun us s1 ⟨vs, H1, I1, rv, e1, q1⟩ => ?_) ?_ (noStar hs)
    · refine thn (hk.pk.run pos pins s1 σ H1 _ I1 (tAr_len ms2 q1)) fun ws s2 ⟨zs, H2, I2, rz, e2, q2⟩ => ⟨I2.kIn, ?_⟩
      rw [hk.names]
      exact go us ws s2 vs zs H2 I2 rv rz e1 (e2.trans hk.len.1) q2
    · rw [plain_back all, hk.none]
      rfl
end
end VE

namespace VE
open PySem PySem.Spec
                     PyProof.Rows L2

theorem few_form {env : PySem.Env} {pos : Pos} {n : Nat} {A B : List (Bool × Sem Value)} {K : List (Option Str × Sem Value)} (h1 : A.all (fun x => !x.1) = true) (h2 : K.all (fun x => x.1.isSome) = true) (hn : n + (if K.isEmpty then 0 else 1) < 30) : methodCallForm n A K = true := by
  unfold methodCallForm
  simp only [h1, h2, Bool.true_and]
  exact decide_eq_true hn
section
variable {c : Cc} {kp kpb : Nat → Prop} {F : Fz} {H : Hp} {tl : Ld} {σ : L2.St} {Q : VK}
theorem meth_evalK {o : Expr} {m : Str} {apos pos : Pos} {es : List Expr} {kws : List Keyword} {ms1 ms2 : List E} {ks : List Str} (he : Args c kp es ms1) (hk : Kws c kp kws ms2 ks) (h : isSup o = false) (hn : es.length + kws.length < 29) (hl : (apos.endLine == pos.line) = true) :
    eval (.Call (.Attribute o m apos) es kws pos) c.X.env = (do
      let ov ← eval o c.X.env
      standAt apos.atName
      let (f, first) ← holding [ov] (getMethod ov m (do return (← importBound o c.X.env).getD true))
      callWith pos f first (backTo pos (starEach es c.X.env)) (backToKw pos (keywordEach kws c.X.env))) := by
  have e0 : eval (.Call (.Attribute o m apos) es kws pos) c.X.env = (do
      let ov ← attributeBase o m c.X.env (eval o c.X.env)
      standAt apos.atName
      methodCall o m apos pos c.X.env ov (es.length + kws.length) (backTo pos (starEach es c.X.env)) (backToKw pos (keywordEach kws c.X.env))) := rfl
  have hform : methodCallForm (es.length + kws.length) (backTo pos (starEach es c.X.env)) (backToKw pos (keywordEach kws c.X.env)) = true := by
    refine few_form (env := c.X.env) (pos := pos) (B := []) ?_ hk.all ?_
    · have q := plain_back (pos := pos) (env := c.X.env) he.plain
      rw [List.all_eq_not_any_not]
      simpa using q
    · split <;> omega
  rw [e0, noSup h]
  unfold methodCall
                   calleeOf methodCallPos
  rw [hform]
  simp [hl]
theorem s_callG {k n : Nat} {fa : Addr} {fd : FuncData} {ps ks : List Str} {f : Nat} {x : Str} {p pos : Pos} {es : List Expr} {kws : List Keyword} {ms1 ms2 : List E} {kw : Nat} {dfl : List D} {dvs : List V} {ds : List Value} (fx : Fx c) (FF : FnOk c.X.prog c.X.w c.X.K c.X.mg c.X.base (CX c.X.prog c.X.w) k fa fd ps (spF c.S c.G.C f)) (hr : Room k c.X.A)
    (hg : Gl c.X x) (hm : c.X.mg x = some (.ref fa)) (hkk : PySem.W.keepIn c.X.K (.ref fa) = true) (hb : BindsG c.X.K fd ps n ks ds) (hd : Vals dvs ds) (hdf : ∀ F H, RepDs c.S F H dfl dvs) (hdb : (x == ("__debug__" : Str)) = false) (he : Args c kp es ms1) (hk : Kws c kp kws ms2 ks) (hn : es.length = n) (hne : es ≠ [] ∨ kws = [])
    (hio : ∀ m ∈ ms1 ++ ms2, ∀ i, m = .io i → i < c.n) (k2 : ∀ i, kp i → i ∉ ioS (ms1 ++ ms2)) : PE c.X (.Call (.Name x p) es kws pos) (tE c kp (evO c.G (.call .fn f (ms1 ++ ms2) kw dfl))) := by
  refine ⟨fun pins s σ H Q I ⟨F, tl, s0, r⟩ => wpAny_Call_Name_kw (ld_glob I hg hm ?_ hdb)⟩
  unfold evO at r
  have q := tAr_of _ hio (args_sp (k := .fn) (kpa := kp) s0 hdf (fun _ z => z) k2 (fun _ => rfl) (RunO.k r))
  exact call_all (first := []) he hk hne hkk I q fun us ws s2 vs zs H2 I2 rv rz e1 e2 sp => run_fnG fx.tk FF hr hb hd I2 rv rz (e1.trans (he.len.symm.trans hn)) e2 sp
theorem run_makeG {X : Cx} {W : WX} {k n : Nat} {ks : List Str} {C f : Addr} {fd : FuncData} {ps : List Str} {sp : Sp} {dvs : List V} {ds : List Value} {pins : List (Addr × Obj)} {σ : L2.St} {H : Hp} {s : Shared} {Q : VK} {us : List Value} {vs : List V} (tk : Takes X W) (M : Mk X.K C f)
    (FF : FnOk X.prog X.w X.K X.mg X.base (CX X.prog X.w) k f fd ps sp) (hr : Room (k + 1) X.A) (hb : Binds X.K fd ps ds) (hd : Vals dvs ds) (I : L2.Inv X pins σ H s) (r : Vals vs us)
    (h : ∀ x dx, H x = none → H dx = none → dx ≠ x → sp (.ref x :: (vs ++ dvs)) (upd (upd H dx (.own x)) x (.ins C dx [])) (fun v H2 => v = .non ∧ Q (.ref x) H2) fun cls d H' => W cls d σ H') : wpAny (model X.prog X.w) X.A (call (.ref C) us) (EP X pins σ Q) X.xe s := run_makeT tk M FF hr hb hd I r h
theorem s_makeG {k kc f : Nat} {fa : Addr} {fd : FuncData} {ps : List Str} {x : Str} {p pos : Pos} {es : List Expr} {ms : List E} {dfl : List D} {dvs : List V} {ds : List Value} (fx : Fx c) (M : Mk c.X.K (c.S.cn kc) fa) (FF : FnOk c.X.prog c.X.w c.X.K c.X.mg c.X.base (CX c.X.prog c.X.w) k fa fd ps (spF c.S c.G.M f)) (hr : Room (k + 1) c.X.A)
    (hg : Gl c.X x) (hm : c.X.mg x = some (.ref (c.S.cn kc))) (hcl : kc ∈ c.S.cl) (hb : Binds c.X.K fd ps ds) (hd : Vals dvs ds) (hdf : ∀ F H, RepDs c.S F H dfl dvs) (hdb : (x == ("__debug__" : Str)) = false) (he : Args c kp es ms)
    (hio : ∀ m ∈ ms, ∀ i, m = .io i → i < c.n) (k2 : ∀ i, kp i → i ∉ ioS ms) : PE c.X (.Call (.Name x p) es [] pos) (tE c kp (evO c.G (.make kc f ms dfl))) := by
  refine ⟨fun pins s σ H Q I ⟨F, tl, s0, r⟩ => wpAny_Call_Name_kw (ld_glob I hg hm ?_ hdb)⟩
  unfold evO at r
  have q := tAr_of _ hio (args_mk (kpa := kp) s0 hdf hcl (fun _ z => z) k2 (RunO.k r))
  refine call_all (first := []) (ms2 := []) he Kws.nil (.inr rfl) M.kp I (R := _) (by rw [List.append_nil]; exact q) fun us ws s2 vs zs H2 I2 rv rz e1 e2 sp => ?_
  cases zs with
  | cons z zs => cases e2
  | nil =>
    rw [List.append_nil] at sp
    exact run_makeT (us := us) fx.tk M FF hr hb hd I2 rv sp
/-- the receiver, then the arguments, then the def -/
theorem meth_core {k kc f n : Nat} {fa : Addr} {fd : FuncData} {ps ks : List Str} {o : Expr} {m : Str} {apos pos : Pos} {es : List Expr} {kws : List Keyword} {ms1 ms2 : List E} {dvs : List V} {ds : List Value} {to t : TE} (fx : Fx c) (FF : FnOk c.X.prog c.X.w c.X.K c.X.mg c.X.base (CX c.X.prog c.X.w) k fa fd ps (spF c.S c.G.C f)) (hr : Room k c.X.A)
    (hmm : Meth c.X.K (c.S.cn kc) m fa) (hno : m ∉ c.S.fs kc) (hb : BindsG c.X.K fd ps (n + 1) ks ds) (hd : Vals dvs ds) (ho : PE c.X o to) (he : Args c kp es ms1) (hk : Kws c kp kws ms2 ks) (hn : es.length = n) (hne : es ≠ [] ∨ kws = [])
    (h0 : isSup o = false) (hz : es.length + kws.length < 29) (hl : (apos.endLine == pos.line) = true) (hio : ∀ m ∈ ms1 ++ ms2, ∀ i, m = .io i → i < c.n) (rd : ∀ σ H Q, t σ H Q → to σ H (Recv c kp σ kc f (ms1 ++ ms2) dvs Q)) : PE c.X (.Call (.Attribute o m apos) es kws pos) t := by
  refine ⟨fun pins s σ H Q I q => PySem.W.methodCall_KW (thn (ho.run pins s σ H _ I (rd σ H Q q)) fun u s1 ⟨x, H1, I1, rx, a, dx, vs, ex, ea, hcl, q1⟩ => ?_) (meth_evalK he hk h0 hz hl)⟩
  subst ex
  obtain rfl : u =
                  Value.ref a := rx
  refine getmeth_ok I1 ea (fx.hK ▸ fx.fc.cls kc hcl) hmm (zip_no hno) ?_
  refine call_all (first := [.ref a]) he hk hne hmm.kp I1 (tAr_of _ hio q1) fun us ws s2 vs zs H2 I2 rv rz e1 e2 sp => ?_
  exact run_fnG (us := .ref a :: us) (vs := .ref a :: vs) fx.tk FF hr hb hd I2 (.cons rfl rv) rz (by rw [List.length_cons, e1, ← he.len, hn]) e2 (by rw [List.cons_append, List.cons_append]; exact sp)
theorem s_methK {ck : CK} {k kc f n : Nat} {fa : Addr} {fd : FuncData} {ps ks : List Str} {o : Expr} {m : Str} {apos pos : Pos} {es : List Expr} {kws : List Keyword} {mo : E} {ms1 ms2 : List E} {kw : Nat} {dfl : List D} {dvs : List V} {ds : List Value} (fx : Fx c) (FF : FnOk c.X.prog c.X.w c.X.K c.X.mg c.X.base (CX c.X.prog c.X.w) k fa fd ps (spF c.S c.G.C f)) (hr : Room k c.X.A)
    (hck : ck = .meth kc) (hmm : Meth c.X.K (c.S.cn kc) m fa) (hno : m ∉ c.S.fs kc) (hb : BindsG c.X.K fd ps (n + 1) ks ds) (hd : Vals dvs ds) (hdf : ∀ F H, RepDs c.S F H dfl dvs) (ho : PE c.X o (tA1 c kp mo)) (hoi : ∀ i, mo = .io i → i < c.n) (he : Args c kp es ms1) (hk : Kws c kp kws ms2 ks) (hn : es.length = n) (hne : es ≠ [] ∨ kws = [])
    (h0 : isSup o = false) (hz : es.length + kws.length < 29) (hl : (apos.endLine == pos.line) = true) (hio : ∀ m ∈ ms1 ++ ms2, ∀ i, m = .io i → i < c.n) (k2 : ∀ i, kp i → i ∉ ioS (mo :: (ms1 ++ ms2))) : PE c.X (.Call (.Attribute o m apos) es kws pos) (tE c kp (evO c.G (.call ck f (mo :: (ms1 ++ ms2)) kw dfl))) := by
  subst hck
  refine meth_core fx FF hr hmm hno hb hd ho he hk hn hne h0 hz hl hio fun σ H Q q => ?_
  by_cases hmo : isIo mo = true
  · cases mo with
    | io i => exact rd_methS (ck := .meth kc) rfl (fun _ => rfl) (hoi i rfl) hdf (fun _ z => z) k2 q
    | _ => cases hmo
  · have hmo : isIo mo = false := by simpa using hmo
    have e : ioS (mo :: (ms1 ++ ms2)) = ioS (ms1 ++ ms2) := by cases mo <;> first | rfl | cases hmo
    rw [e] at k2
    rw [tA1_e hmo]
    exact rd_meth (ck := .meth kc) rfl (fun _ => rfl) hmo hdf (fun _ z => z) (fun _ z => z) k2 q
structure HasF (K : PySem.W.Frag) (C fa : Addr) : Prop where
  fwd : PySem.W.findIn K (.ref C) "__contains__" = some (some (.ref fa))
  ffn : PySem.W.isFn K (.ref fa) = true
end
end VE

namespace VX
open PySem PySem.W PySem.Calls PyProof.Rows PySem.HandSPX
abbrev viId : String := "ValueError.__init__"
abbrev wr (x : Addr) : Obj := { cls := .type "method-wrapper", dict := none, data := .fields #[.builtin viId, .ref x], slots := #[] }
theorem vi_type : typeOf (.builtin viId) = pure (.type "wrapper_descriptor") := by
  show builtinType _ = _
  rw [builtinType_eq_fast]
  kernel_rfl
theorem vi_nac : (kfb_private% "nameAndClass") (Value.builtin viId) = (pure (("__init__" : Str), Value.type "ValueError") : Sem (Str × Value)) := by kernel_rfl
abbrev supO (D x C : Addr) : Obj := { cls := .type "super", dict := none, data := .fields #[.ref D, .ref x, .ref C], slots := #[] }
section
variable {prog : Program} {w : World} {M : Model} {A : Around} {E : Value → Shared
                                                                                  → Prop} {h : Heap} {g : Array GenState} {d : Drawn} {t : Nat} {os : OsState}
theorem wd_run {x C : Addr} {P : Fin → Shared → Prop} (hin : Looks M h (isInstance (.ref x) (.type "ValueError")) true)
    (hq : P (.done (.ret (.ref h.objs.size))) ⟨h.push (wr x), g, d, t, os⟩) : wpAny M A (Builtin.«wrapper_descriptor.__get__» ⟨[.builtin viId, .ref x, .ref C], []⟩) P E ⟨h, g, d, t, os⟩ := by
  unfold
        Builtin.«wrapper_descriptor.__get__»
  refine wpAny_bind (wpAny_of_eq (a := (.builtin viId, some (.ref x), some (.ref C))) (by first | rfl | kernel_rfl) ?_)
  show wpAny M A ((kfb_private% "checkInstance") (.builtin viId) (.ref x) >>= fun _ => newFields "method-wrapper" [.builtin viId, .ref x] >>= fun r => ret r) P E _
  refine wpAny_bind ?_
  show wpAny M A ((kfb_private% "nameAndClass") (.builtin viId) >>= _) _ E _
  refine wpAny_bind (wpAny_of_eq vi_nac ?_)
  show wpAny M A (isInstance (.ref x) (.type "ValueError") >>= _) _ E _
  refine wpAny_bind (hin.at ?_)
  refine KFB.if_not rfl ?_
  exact wpAny_pure (wpAny_bind (wpAny_newObj_type (wpAny_pure hq)))
theorem sup_ga {so D x C : Addr} {l₀ l : List Value} {K : Frag} {name : Str} {tk : Tok} {Q : Fin → Shared → Prop}
    (hso : h.get? so = some (supO D x C)) (hno : Looks (model prog w) h (opaqueClassAbove (.ref C)) none) (hC : Looks (model prog w) h (mroOf (.ref C)) l₀) (hl : (l₀.dropWhile (· != .ref D)).drop 1 = l) (X : K.In h)
    (hf : alongIn K name l = some (some (.builtin viId))) (hxC : x ≠ C) (hn : (name == ("__class__" : Str)) = false) (hin : Looks (model prog w) h (isInstance (.ref x) (.type "ValueError")) true) (hq : Q (.done (.ret (.ref h.objs.size))) ⟨h.push (wr x), g, d, t, os⟩) :
    wpAny (model prog w) A (Builtin.«super.__getattribute__»
                                                            ⟨[.ref so, .str name tk], []⟩) Q E ⟨h, g, d, t, os⟩ := by
  have hlk := PySem.ESX.slot_wd.lookup
  have hne : (Value.ref x == Value.ref C) = false := by
                                                       simp [hxC]
  have hT1 := vi_type
  have hT2 : Shared.TypeIs ⟨h, g, d, t, os⟩ (.builtin viId) "wrapper_descriptor" := vi_type
  have hdt : (supO D x C).data = .fields #[.ref D, .ref x, .ref C] := rfl
  have q0 : (#[.ref D, .ref x, .ref C] : Array Value)[0]? = some (.ref D) := rfl
  have q1 : (#[.ref D, .ref x, .ref C] : Array Value)[1]? = some (.ref x) := rfl
  have q2 : (#[.ref D, .ref x, .ref C] : Array Value)[2]? = some (.ref C) := rfl
  unfold
        Builtin.«super.__getattribute__»
  repeat (first
    | (with_reducible refine wpAny_field hso hdt q0 ?_) | (with_reducible refine wpAny_field hso hdt q1 ?_) | (with_reducible refine wpAny_field hso hdt q2 ?_) | (with_reducible refine ks_wpAny_notOpaque hno ?_) | (with_reducible refine Looks.at hC ?_; rw [hl])
    | (refine ks_forIn_along X (fun _ _ => rfl) rfl ?_ hf) | (with_reducible refine wpAny_call_entry PySem.ESX.slot_wd hT2 PySem.ESX.entry_wd ?_ (PySem.ESX.args_wd _ _ _)) | (with_reducible refine wd_run hin ?_)
    | (with_reducible refine ⟨_, rfl, ?_⟩) | (simp only [hn, hne, Bool.or_false, Bool.false_eq_true, if_false]) | (wp_step) | (dsimp only))
  all_goals exact hq
theorem sup_meth {so D x C : Addr} {l₀ l : List Value} {K : Frag} {name : Str} {pl : Sem Bool} {Q : Value × List Value → Shared → Prop}
    (hso : h.get? so = some (supO D x C)) (hno : Looks (model prog w) h (opaqueClassAbove (.ref C)) none) (hC : Looks (model prog w) h (mroOf (.ref C)) l₀) (hl : (l₀.dropWhile (· != .ref D)).drop 1 = l) (X : K.In h)
    (hf : alongIn K name l = some (some (.builtin viId))) (hxC : x ≠ C) (hn : (name == ("__class__" : Str)) = false) (hin : Looks (model prog w) h (isInstance (.ref x) (.type "ValueError")) true) (hq : Q (.ref h.objs.size, []) ⟨h.push (wr x), g, d, t + 1, os⟩) :
    wpAny (model prog w) A (getMethod (.ref
                                           so) name pl) Q E ⟨h, g, d, t, os⟩ := by
  have hcan :=
              F.ks_canon_super_ga
  have hT : ∀ t', (⟨h, g, d, t', os⟩ : Shared).TypeIs
                                                     (.ref so) "super" := fun _ => ⟨_, hso, rfl⟩
  unfold getMethod
  refine wpAny_bind (wpAny_specialOf (hT _) F.ks_slot_super_ga.lookup ?_)
  show wpAny _ _ (if (Manifest.canonical "super.__getattribute__"
                                                                 != "object.__getattribute__") = true then _ else _) _ _ _
  rw [if_pos hcan]
  unfold getAttr getAttrBy
  refine wpAny_bind (wpAny_bind (wpAny_mkText (wpAny_holding (wpAny_bind (wpAny_typeOf (hT _) (wpAny_bind (wpAny_of_eq F.ks_slot_super_ga.lookup ?_)))))))
  show wpAny _ _ (getAttrByItsOwn (.ref so) (.str name t) (.type
                                                                "super") (.builtin "super.__getattribute__") true false) _ _ _
  unfold getAttrByItsOwn
                        hookBefore
                                   callGetattribute boundAndCalled
  refine wpAny_bind (wpAny_of_eq (show (if onTheHeap (.type "super") then typeLookup
                                                                                    (.type "super") "__getattr__" else pure none) = pure none from rfl) ?_)
  refine wpAny_bind (wpAny_attempt
                                  (wpAny_holding ?_))
  show wpAny _ _ (bindSpecial (.builtin
                                       "super.__getattribute__") (.ref so) >>= _) _ _ _
  refine wpAny_bind (wpAny_of_eq
                                (F.ks_slot_super_ga.bind _) ?_)
  refine wpAny_mono (Q := fun v s' => v = .ref h.objs.size ∧ s' = ⟨h.push (wr x), g, d, t + 1, os⟩) (E := fun _ _ => False)
    (wpAny_call_entry F.ks_slot_super_ga (hT _) F.ks_entry_super_ga (sup_ga hso hno hC hl X hf hxC hn hin ⟨_, rfl, rfl, rfl⟩) (F.ks_gaArgs_super _ _)) (fun v s' hv => ?_) fun _ _ z => z.elim
  obtain ⟨rfl, rfl⟩ := hv
  exact wpAny_pure
                  (wpAny_pure hq)
end
section
variable {M : Model} {A : Around} {E
                                    : Value → Shared → Prop} {s : Shared}
theorem cw_wr {pos : Pos} {u x : Addr} {first : List Value} {env : Env} {e : Expr} {rest : List Expr} {Q : Value → Shared → Prop}
    (h : wpAny M A (spliced (backTo pos (starEach (e :: rest) env))) (fun vs s₁ => s₁.heap.get? u = some (wr x) ∧ wpAny M A (call (.ref u) (first ++ vs)) Q E s₁) E s) (he : starEach (e :: rest) env = (false, eval e env) :: starEach rest env) (hplain : (backTo pos (starEach rest env)).any (·.1) = false) :
    wpAny M A (callWith pos (.ref u) first (backTo
                                                  pos (starEach (e :: rest) env)) []) Q E s := by
  rw [he] at h ⊢
  have hp : (backTo pos ((false, eval e env) :: starEach rest env)).any (·.1) = false := by
    show (false || (backTo pos (starEach rest env)).any (·.1)) = false
    rw [hplain]
    rfl
  have ha : wpAny M A (evalArgs (.ref u) true (backTo pos ((false, eval e env) :: starEach rest env)) []) (fun a s₁ => s₁.heap.get? u = some (wr x) ∧ wpAny M A (call (.ref u) (first ++ a.pos) a.kw) Q E s₁) E s := evalArgs_plain h
  unfold callWith
  refine wpAny_bind (wpAny_holding (wpAny_mono ha (fun a s₁ h₁ => wpAny_bind (wpAny_standAt ?_)) fun _ _ x => x))
  obtain ⟨ho, hcall⟩ := h₁
  simp only [hp, List.any_nil, Bool.or_false]
  refine wpAny_bind (m :=
                         keeperOf (.ref u)) ?_
  unfold keeperOf
  refine wpAny_bind
                   (wpAny_load ho ?_)
  simp only [wr, show (Value.type "method-wrapper" != Value.type "method") = true by decide, show (Value.type "method-wrapper" == Value.type "builtin_function_or_method" || Value.type "method-wrapper" == Value.type "method-wrapper") = true by decide, if_true]
  exact wpAny_pure (wpAny_bind (wpAny_mono hcall (fun r s₂ hr => wpAny_bind (wpAny_holding (wpAny_point (wpAny_pure hr)))) fun _ _ x => x))
end
section
variable {prog : Program} {w : World} {A : Around} {E : Value → Shared →
                                                                        Prop} {h : Heap} {g : Array GenState} {d : Drawn} {t : Nat} {os : OsState}
variable {nm q : Str} {C N : Addr} {bs bm : List Value} {hdct : Bool} {sn : List Str} {sub :
                                                                                            List Value} {ab : Bool} {col : Option Bool} {dd : Option Addr} {k0 k1 k2 k3 k5 : Option Value}
theorem wr_call {u e t0 : Addr} {rest : List Value} {Q : Value → Shared → Prop} (hC : h.get? C = some (excClassObj nm q C N bs bm hdct sn sub ab col dd k0 k1 k2 k3 k5 "ValueError.__new__")) (he : h.get? e = some (excO C t0)) (hu : h.get? u = some (wr e)) (hrest : rest.length ≤ sizeLine)
    (hq : ∀ h' t1, (∀ b o, b ≠ e → h.get? b = some o → h'.get? b = some o) → h'.get? e = some (excO C t1) → Q .none ⟨h', g, d, t, os⟩) : wpAny (model prog w) A (call (.ref u) rest) Q E ⟨h, g, d, t, os⟩ := by
  refine wpAny_call
                   (codeAny_of_tree ?_)
  show wpAny _ A.in1 (callAny
                             (.ref u) ⟨rest, []⟩) _ _ _
  simp only [callAny]
  refine wpAny_bind
                   (wpAny_load hu ?_)
  simp only [wr, show (Value.type "method-wrapper" == Value.type "method" || Value.type "method-wrapper" == Value.type "builtin_function_or_method" || Value.type "method-wrapper" == Value.type "method-wrapper") = true by decide, if_true]
  refine KFB.if_so
                  (by decide) ?_
  refine wpAny_bind (PySem.ESX.check_bound F.excBase_ValueError hC he rfl ?_)
  refine wpAny_bind
                   (wpAny_pure (wpAny_pure ?_))
  refine ⟨Code.quiet_builtin _ (by decide +kernel), codeAny_builtin F.excBase_ValueError.initEntry ?_⟩
  rw [Around.under_plainId F.excBase_ValueError.init.plain _]
  wp_walk
  refine hq _ h.objs.size
                         (fun b o hb ho => ?_) ?_
  · rw [Heap.get?_update_other
                              _ _ (Ne.symm hb)]
    exact Heap.get?_push_of_some
                                _ ho
  · rw [Heap.get?_update_self _
                               (Heap.get?_push_of_some _ he) rfl]
    rfl
end
end VX

namespace VX
open PySem PySem.W PySem.Calls PyProof.Rows PySem.HandSPX
/-- self.f = f -/
def stoB (f : Str) : Stmt → Bool
  | .Assign [.Attribute (.Name s _) g _] (.Name h _) _ => s == ("self" : Str) && g == f && h == f
  | _ => false
def stosB : List Str → List Stmt → Bool
  | [], [] => true
  | f :: fs, s :: r => stoB f s && stosB fs r
  | _, _ => false
/-- super().__init__(..); self.f = f; .. -/
def iniB (ps : List Str) : List Stmt → Bool
  | .Expr (.Call (.Attribute (.Call (.Name s _) [] [] _) m apos) [.Constant (.str _) _ _] [] pos) _ :: r => s == ("super" : Str) && m == ("__init__" : Str) && apos.endLine == pos.line && stosB ps r
  | _ => false
def scoB (ps : List Str) (sc : Scope) : Bool := sc.kind == .function && !sc.isCoroutine && !sc.isGenerator && sc.names.all (fun y => y.2 != .cell) && sc.names.lookup ("super" : Str) == some .globalImplicit && sc.names.lookup ("__class__" : Str) == some .free && (("self" : Str) :: ps).all (fun f => sc.names.lookup f == some .local)
/-- the dict's meaning behind the stores -/
def mOf (m : Str → Option Value) : List (Str × Value) → Str → Option Value
  | [] => m
  | p :: r => mOf (fun y => if y = p.1 then some p.2 else m y) r
structure IEnd (h h' : Heap) (x C : Addr) (fvs : List (Str × Value)) : Prop where
  keep : ∀ b o, b ≠ x → h.get? b
                                = some o → h'.get? b = some o
  obj : (fvs = [] ∧ ∃ t1, h'.get? x = some (excO C t1)) ∨ (fvs ≠ [] ∧ ∃ t1 dx, h'.get? x = some { cls := .ref C, dict := some dx, data := .fields #[.ref t1, .none, .none, .none, .bool false, .none] } ∧ h.objs.size ≤ dx ∧ dx ≠ x ∧ h'.Ns1 dx (mOf (fun _ => none) fvs))
/-- what the written part says of the class at C and of its __init__ at fI -/
structure ExT (prog : Program) (K : Frag) (C fI : Addr) (ps : List Str) : Prop where
  cls : ∃ nm q N bs bm sn sub ab col dd k0 k1 k2 k3 k5, K.lookup C = some (excClassObj nm q C N bs bm true sn sub ab col dd k0 k1 k2 k3 k5 "ValueError.__new__") ∧ refsVE bm = true ∧ alongIn K "__init__" bm = some (some (.builtin viId))
  sa : findIn K (.ref C) "__setattr__" = some
                                             (some (.builtin "object.__setattr__"))
  no : ∀ f ∈ ps, findIn K (.ref C) f = some none
  iC : findIn K (.ref C) "__init__"
                                   = some (some (.ref fI))
  tI : typeIn K (.ref fI) = some (.type "function")
  kC : keepIn K (.ref C) = true
  exC : subIn K (.ref C) (.type
                               "BaseException") = some true
  tyC : typeIn K (.ref C)
                         = some (.type "type")
  ve : mroIn K C (.type "ValueError") = some true
  self : mroIn K C
                  (.ref C) = some true
  op : nsIn K cStatics "thirdparty.any" = some none
  sup : nsIn K mainGlobals "super" = some none
  top : (prog.main.scope.names.lookup ("super" : Str)).isSome = false
  nd : (("self" : Str) :: ps).Nodup
  sm : ps.length ≤ 20
  db : ∀ f ∈ ps, (f == ("__debug__" : Str)) = false
  fn : ∃ (oc : Value) (od : Option Addr) (doc pm : Value) (an : Option Addr) (cda cc : Addr) (ct : Value) (osl : Array (Option Value)) (nm qual : Str) (params : Arguments) (scope : Scope) (body : List Stmt),
    K.lookup fI = some ⟨oc, od, .func (ksFn nm qual params body scope .none .none doc pm an (.ref cda) ct cc), osl⟩ ∧ codeIn K (.ref cda) qual = true ∧ iniB ps body = true ∧ scoB ps scope = true ∧ (∃ ar, (params.posonlyargs ++ params.args).head? = some ar ∧ ar.arg = ("self" : Str)) ∧
    (∃ ccl cdd vs ccs file tf, K.lookup cda = some ⟨ccl, cdd, .fields vs, ccs⟩ ∧ vs[2]? = some (.str file tf) ∧ ((prog.main.file : Str) == file) = true) ∧ (∃ cl cld csl, K.lookup cc = some ⟨cl, cld, .cell (some (.ref C)), csl⟩) ∧
    ∀ us : List Value, us.length = ps.length + 1 → bindArgs (ksFn nm qual params body scope .none .none doc pm an (.ref cda) ct cc) ⟨us, []⟩ = pure ((("self" : Str) :: ps).zip us)
section
variable {prog : Program} {w : World} {A : Around} {E : Value → Shared → Prop} {s : Shared} {K : Frag} {C x L : Addr} {env : Env} {m : Str → Option Value}
theorem stoB_of {f : Str} {st : Stmt} (h : stoB f st = true) : ∃ p1 p2 p3 p4, st = .Assign [.Attribute (.Name "self" p1) f p2] (.Name f p3) p4 := by
  unfold stoB at h
  split at h
  · rename_i s0 p1 g p2 h0 p3 p4
    simp only [Bool.and_eq_true, beq_iff_eq] at h
    obtain ⟨⟨h1, h2⟩, h3⟩ := h
    exact ⟨p1, p2, p3, p4, by rw [h1, h2, h3]⟩
  · cases h
theorem ns_keep {h h' : Heap} {L : Addr} {m : Str → Option Value} (hn : h.Ns L m) (k : ∀ o, h.get? L = some o → h'.get? L = some o) : h'.Ns L m := by
  obtain ⟨o, es, ep, e, r⟩ := hn
  exact ⟨o, es, ep, k o e, r⟩
theorem kin_but {K : Frag} {h h' : Heap} {x : Addr} (X : K.In h) (hx : K.lookup x = none) (k : ∀ b o, b ≠ x → h.get? b = some o → h'.get? b = some o) : K.In h' := fun a o e => k a o (fun z => by rw [z, hx] at e; cases e) (X a o e)
/-- further stores, the dict being there -/
theorem sto_more {cd : ClassData} {t1 dx : Addr} (hcd : clsIn K C = some cd) (hm : refsVE cd.mro = true) (hh : cd.hasDict = true) (hsa : findIn K (.ref C) "__setattr__" = some (some (.builtin "object.__setattr__"))) (hk : env.scope.kind = .function) (hself : env.kindOf "self" = some .local) (hLx : env.locals ≠ x) (hLd : env.locals ≠ dx) (hKd : K.lookup dx = none) :
    ∀ (ps : List Str) (vs : List Value) (body : List Stmt) (s : Shared) (m0 : Str → Option Value) (nl : List Str) {Q : Flow → Shared → Prop}, stosB ps body = true → vs.length = ps.length → K.In s.heap → s.heap.Ns env.locals m → m "self" = some (.ref x) → (∀ (i : Nat) (f : Str), ps[i]? = some f → m f = vs[i]? ∧ env.kindOf f = some .local ∧ (f == ("__debug__" : Str)) = false) →
      (∀ f ∈ ps, findIn K (.ref C) f = some none) → s.heap.get? x = some { cls := .ref C, dict := some dx, data := .fields #[.ref t1, .none, .none, .none, .bool false, .none] } → s.heap.Ns1 dx m0 → Within m0 nl → nl.length + ps.length ≤ 1000 →
      (∀ h' tk, (∀ b o, b ≠ dx → s.heap.get? b = some o → h'.get? b = some o) → h'.Ns1 dx (mOf m0 (ps.zip vs)) → Q .next { s with heap := h', toks := tk }) → wpAny (model prog w) A (execs body env) Q E s
  | [], vs, body, s, m0, nl, Q, hb, hl, X, hn, hs, hp, hno, hx, hd, hw, hz, q => by
    cases body with
    | nil => exact wpAny_execs_nil (q s.heap s.toks (fun b o _ e => e) hd)
    | cons a b => cases hb
  | f :: ps, vs, body, s, m0, nl, Q, hb, hl, X, hn, hs, hp, hno, hx, hd, hw, hz, q => by
    cases body with
    | nil => cases hb
    | cons st body =>
      cases vs with
      | nil => cases hl
      | cons v vs =>
        obtain ⟨hb1, hb2⟩ := Bool.and_eq_true_iff.mp (show (stoB f st && stosB ps body) = true from hb)
        obtain ⟨p1, p2, p3, p4, rfl⟩ := stoB_of hb1
        obtain ⟨g1, g2, g3⟩ := hp 0 f rfl
        refine wpAny_execs_cons
                               (plainObj_wpAny_Assign_Attribute ?_)
        refine PySem.ESX.ldL hn g1 (PySem.ESX.ldL hn hs ?_ hk hself) hk g2 g3
        obtain ⟨oD, _, _, hoD, _, _⟩ := hd.count hw
        obtain ⟨hp0, gg, d, t, os⟩ := s
        refine set_plain X (ox := { cls := .ref C, dict := some dx, data := .fields #[.ref t1, .none, .none, .none, .bool false, .none] }) (od := some oD) ⟨hx, rfl, rfl, hoD⟩ hsa ?_
        refine PySem.OEX.osa_old X hx hd hw (by simp only [List.length_cons] at hz; omega) hcd hm hh (hno f List.mem_cons_self) (fun h' tk' k hn' => ?_)
        have dne : x ≠ dx := fun z => by
          obtain ⟨o, es, ep, e1, e2, _⟩ := hd
          rw [← z, hx] at e1
          have z2 := Option.some.inj e1
          subst z2
          cases e2
        refine sto_more hcd hm hh hsa hk hself hLx hLd hKd ps vs body ⟨h', gg, d, tk', os⟩ _ (f :: nl) hb2 (Nat.succ.inj hl) (kin_but X hKd k) (ns_keep hn fun o e => k _ _ hLd e) hs (fun i f' e => hp (i + 1) f' e) (fun f' hf => hno f' (List.mem_cons_of_mem _ hf)) (k _ _ dne hx) hn' (Within.cons f v hw) (by simp only [List.length_cons] at hz ⊢; omega) fun h2 tk2 k2 n2 => ?_
        exact q h2 tk2 (fun b o hb e => k2 b o hb (k b o hb e)) n2
theorem scoB_of {ps : List Str} {sc : Scope} (h : scoB ps sc = true) : sc.kind = .function ∧ sc.isCoroutine = false ∧ sc.isGenerator = false ∧ (∀ y ∈ sc.names, y.2 ≠ .cell) ∧ sc.names.lookup ("super" : Str) = some .globalImplicit ∧ sc.names.lookup ("__class__" : Str) = some .free ∧ ∀ f ∈ ("self" : Str) :: ps, sc.names.lookup f = some .local := by
  unfold scoB at h
  simp only [Bool.and_eq_true, beq_iff_eq, Bool.not_eq_true'] at h
  obtain ⟨⟨⟨⟨⟨⟨h1, h2⟩, h3⟩,
                            h4⟩, h5⟩, h6⟩, h7⟩ := h
  refine ⟨h1, h2, h3, fun y hy => ?_, h5, h6, fun f hf => ?_⟩
  · have := List.all_eq_true.mp h4 y hy
    simpa using this
  · have := List.all_eq_true.mp h7 f hf
    simpa using this
theorem look_rev {α : Type} : ∀ {ps : List Str} {us : List α} {i : Nat} {f : Str}, ps.Nodup → us.length = ps.length → ps[i]? = some f → (ps.zip us).reverse.lookup f = us[i]?
  | [], us, i, f, _, _, e => by simp at e
  | p :: ps, [], i, f, _, hl, e => by cases hl
  | p :: ps, u :: us, i, f, nd, hl, e => by
    obtain ⟨n1, n2⟩ :=
                      List.nodup_cons.mp nd
    have app : ∀ {l1 l2 : List (Str × α)} {y : Str}, (l1 ++ l2).lookup y = (l1.lookup y).or (l2.lookup y) := fun {l1 l2 y} => by
      induction l1 with
      | nil => simp [List.lookup]
      | cons a l1 ih =>
        obtain ⟨a1, a2⟩ := a
        by_cases z : (y == a1) = true
        · simp [List.lookup, z]
        · have z : (y == a1) = false := by simpa using z
          simp [List.lookup, z, ih]
    rw [List.zip_cons_cons, List.reverse_cons, app]
    cases i with
    | zero =>
      have e : p = f := by simpa using e
      subst e
      have no : (ps.zip us).reverse.lookup p = none := by
        rw [List.lookup_eq_none_iff]
        intro q hq
        have hm : q.1 ∈ ps := (List.of_mem_zip (List.mem_reverse.mp hq)).1
        exact bne_iff_ne.mpr fun z => n1 (by rw [z]; exact hm)
      rw [no]
      simp [List.lookup]
    | succ i =>
      have e : ps[i]? = some f := by simpa using e
      have ih := look_rev (us := us) n2 (Nat.succ.inj hl) e
      rw [ih]
      have hi : i < ps.length := (List.getElem?_eq_some_iff.mp e).1
      have hi2 : i < us.length := by have := Nat.succ.inj hl; omega
      rw [List.getElem?_eq_getElem hi2]
      simp [List.getElem?_eq_getElem hi2]
/-- such a body -/
abbrev iniS (p0 p1 p2 p3 p4 p5 : Pos) (z : Str) (k : Nat) (r : List Stmt) : List Stmt := .Expr (.Call (.Attribute (.Call (.Name "super" p0) [] [] p1) "__init__" p2) [.Constant (.str z) k p3] [] p4) p5 :: r
theorem iniB_of {ps : List Str} {body : List Stmt} (h : iniB ps body = true) : ∃ p0 p1 p2 p3 p4 p5 z k r, body = iniS p0 p1 p2 p3 p4 p5 z k r ∧ (p2.endLine == p4.line) = true ∧ stosB ps r = true := by
  unfold iniB at h
  split at h
  · rename_i s0 p0 p1 m0 p2 z k p3 p4 p5 r
    simp only [Bool.and_eq_true, beq_iff_eq] at h
    obtain ⟨⟨⟨h1, h2⟩,
                      h3⟩, h4⟩ := h
    exact ⟨p0, p1, p2, p3, p4, p5, z, k, r, by rw [h1, h2], beq_iff_eq.mpr h3, h4⟩
  · cases h
theorem sup_eval {o : Expr} {mm : Str} {apos pos p3 : Pos} {z : Str} {k : Nat} {env : Env} (hl : (apos.endLine == pos.line) = true) : eval (.Call (.Attribute o mm apos) [.Constant (.str z) k p3] [] pos) env = (do
      let ov ← attributeBase o mm env (eval o env)
      standAt apos.atName
      let (f, first) ← holding [ov] (getMethod ov mm (do return (← importBound o env).getD true))
      callWith pos f first (backTo pos (starEach [.Constant (.str z) k p3] env)) []) := by
  have e0 : eval (.Call (.Attribute o mm apos) [.Constant (.str z) k p3] [] pos) env = (do
      let ov ← attributeBase o mm env (eval o env)
      standAt apos.atName
      methodCall o mm apos pos env ov (1 + 0) (backTo pos (starEach [.Constant (.str z) k p3] env)) (backToKw pos (keywordEach [] env))) := rfl
  have hform : methodCallForm (1 + 0) (backTo pos (starEach [.Constant (.str z) k p3] env)) (backToKw pos (keywordEach [] env)) = true := rfl
  rw [e0]
  unfold methodCall
                   calleeOf methodCallPos
  rw [hform]
  simp [hl]
  rfl
/-- the first store, then the others -/
theorem sto_all {cd : ClassData} {t1 : Addr} (hcd : clsIn K C = some cd) (hm : refsVE cd.mro = true) (hh : cd.hasDict = true) (hsa : findIn K (.ref C) "__setattr__" = some (some (.builtin "object.__setattr__"))) (hk : env.scope.kind = .function) (hself : env.kindOf "self" = some .local) (hLx : env.locals ≠ x) (hKx : K.lookup x = none)
    {ps : List Str} {vs : List Value} {body : List Stmt} {s : Shared} (hL : env.locals < s.heap.objs.size) (hbig : ∀ a, K.lookup a ≠ none → a < s.heap.objs.size) {Q : Flow → Shared → Prop} (hb : stosB ps body = true) (hl : vs.length = ps.length) (X : K.In s.heap) (hn : s.heap.Ns env.locals m) (hs : m "self" = some (.ref x)) (hp : ∀ (i : Nat) (f : Str), ps[i]? = some f → m f = vs[i]? ∧ env.kindOf f = some .local ∧ (f == ("__debug__" : Str)) = false)
    (hno : ∀ f ∈ ps, findIn K (.ref C) f = some none) (hx : s.heap.get? x = some (excO C t1)) (hz : ps.length ≤ 20) (q : ∀ h' tk, IEnd s.heap h' x C (ps.zip vs) → Q .next { s with heap := h', toks := tk }) : wpAny (model prog w) A (execs body env) Q E s := by
  cases ps with
  | nil =>
    cases body with
    | nil => exact wpAny_execs_nil (q s.heap s.toks ⟨fun _ _ _ e => e, .inl ⟨rfl, t1, hx⟩⟩)
    | cons a b => cases hb
  | cons f ps =>
    cases body with
    | nil => cases hb
    | cons st body =>
      cases vs with
      | nil => cases hl
      | cons v vs =>
        obtain ⟨hb1, hb2⟩ := Bool.and_eq_true_iff.mp (show (stoB f st && stosB ps body) = true from hb)
        obtain ⟨p1, p2, p3, p4, rfl⟩ := stoB_of hb1
        obtain ⟨g1, g2, g3⟩ := hp 0 f rfl
        refine wpAny_execs_cons
                               (plainObj_wpAny_Assign_Attribute ?_)
        refine PySem.ESX.ldL hn g1 (PySem.ESX.ldL hn hs ?_ hk hself) hk g2 g3
        obtain ⟨hp0, gg, d, t, os⟩ := s
        refine set_plain X (ox := excO C t1) (od := none) ⟨hx, rfl, rfl, trivial⟩ hsa ?_
        refine exc_osa X hx hcd hm hh (hno f List.mem_cons_self) (fun h' tk' dx k dn dne hx' hn' => ?_)
        have hKd : K.lookup dx = none := by
          cases e : K.lookup dx with
          | none => rfl
          | some o => exact absurd (hbig dx (by rw [e]; simp)) (Nat.not_lt.mpr dn)
        have hLd : env.locals ≠ dx := Nat.ne_of_lt (Nat.lt_of_lt_of_le hL dn)
        have hw : Within (fun y => if y = f then some v else none) [f] := Within.cons (m := fun _ => none) f v (ns := []) fun y hy => absurd rfl hy
        refine sto_more hcd hm hh hsa hk hself hLx hLd hKd ps vs body ⟨h', gg, d, tk', os⟩ _ [f] hb2 (Nat.succ.inj hl) (kin_but X hKx k) (ns_keep hn fun o e => k _ _ hLx e) hs (fun i f' e => hp (i + 1) f' e) (fun f' hf => hno f' (List.mem_cons_of_mem _ hf)) hx' hn' hw (by simp only [List.length_cons, List.length_nil] at hz ⊢; omega) fun h2 tk2 k2 n2 => ?_
        refine q h2 tk2 ⟨fun b o hb e => ?_, .inr ⟨by simp, t1, dx, k2 _ _ (Ne.symm dne) hx', dn, dne, n2⟩⟩
        exact k2 b o (Nat.ne_of_lt (Nat.lt_of_lt_of_le (Heap.lt_size e) dn)) (k b o hb e)
theorem ex_init {fI : Addr} {ps : List Str} {mg : Str → Option Value} {R : Result → Shared → Prop} (T : ExT prog K C fI ps) {t0 : Addr} {vs : List Value} (hv : vs.length = ps.length) (X : K.In s.heap) (hlim : s.heap.NoLimit) (hg : s.heap.Ns mainGlobals mg) (hms : mg "super" = none) (hb : ∃ mb, s.heap.Ns builtinsNs mb ∧ ∀ x : Str, x ≠ "__name__" → mb x = bootBuiltins x)
    (hx : s.heap.get? x = some (excO C t0)) (hnx : K.lookup x = none) (hbig : ∀ a, K.lookup a ≠ none → a < s.heap.objs.size) (hroom : A.depth < recursionLimit) (hq : ∀ h' tk, IEnd s.heap h' x C (ps.zip vs) → R (.ok (.ret .none)) { s with heap := h', toks := tk }) :
    codeAny (model prog w) A (.call (.ref fI) ⟨.ref x :: vs, []⟩) R s := by
  obtain ⟨oc, od, doc, pm, an, cda, cc, ct, osl, nm, qual, params, scope, body, ho, hcd, hbody, hsc, ⟨ar, har, harg⟩, ⟨ccl, cdd, cvs, ccs, file, tf, hco, hvs, hfile⟩, ⟨cl, cld, csl, hcell⟩, hbind⟩ := T.fn
  obtain ⟨xnm, xq, N, bs, bm, sn, sub, ab, col, dd, k0, k1, k2, k3, k5, hC, hbm, halong⟩ := T.cls
  have hcl : clsIn K C = some { name := xnm, bases := bs, mro := .ref C :: bm, ns := N, qualname := xq, hasDict := true, slotNames := sn, subclasses := sub, abstract := ab, collection := col, hasDel := false } := by
    unfold clsIn
    rw [hC] <;> rfl
  obtain ⟨sk, sco, sgen, snc, ssup, scls, sloc⟩ := scoB_of hsc
  refine ks_codeAny_call_defAt (fd := ksFn nm qual params body scope .none .none doc pm an (.ref cda) ct cc) (body := body) (binds := (("self" : Str) :: ps).zip (.ref x :: vs)) hroom (X _ _ ho) rfl hlim (codeRec_of X hcd) rfl (BindsTo.of_eq (hbind (.ref x :: vs) (by rw [List.length_cons, hv]))) snc (fun y hy => sloc y.1 (List.of_mem_zip hy).1) (fun h₀ hns hkeep => ?_) sco sgen sk
  have hlr : ∀ (i : Nat) (f : Str), (("self" : Str) :: ps)[i]? = some f → ((("self" : Str) :: ps).zip (.ref x :: vs)).reverse.lookup f = (Value.ref x :: vs)[i]? := fun i f e => look_rev T.nd (by rw [List.length_cons, List.length_cons, hv]) e
  have X₁ : K.In h₀ := X.keeps hkeep
  have hx₁ := hkeep _ _ hx
  have hLx : s.heap.objs.size ≠ x := Nat.ne_of_gt (Heap.lt_size hx)
  obtain ⟨p0, p1, p2, p3, p4, p5, z, kk, r, rfl, hline, hsto⟩ := iniB_of hbody
  have hC₁ : h₀.get? C = some (excClassObj xnm xq C N bs bm true sn sub ab col dd k0 k1 k2 k3 k5 "ValueError.__new__") := X₁ _ _ hC
  have hxC : x ≠ C := fun e => by rw [e, hC] at hnx; cases hnx
  have kloc : ∀ f ∈ ("self" : Str) :: ps, (callEnv (ksFn nm qual params (iniS p0 p1 p2 p3 p4 p5 z kk r) scope .none .none doc pm an (.ref cda) ct cc) s.heap.objs.size fI).kindOf f = some .local := sloc
  refine ks_wpAt_execs_cons (ks_wpAt_Expr_any (ks_wpAt_MethodCall ?_ (sup_eval hline)) (by unfold interactive; rw [show (callEnv (ksFn nm qual params (iniS p0 p1 p2 p3 p4 p5 z kk r) scope .none .none doc pm an (.ref cda) ct cc) s.heap.objs.size fI).scope.kind = .function from sk]; rfl) rfl)
  refine ks_wpAt_super_base (env := callEnv (ksFn nm qual params (iniS p0 p1 p2 p3 p4 p5 z kk r) scope .none .none doc pm an (.ref cda) ct cc) s.heap.objs.size fI) (fd := ksFn nm qual params (iniS p0 p1 p2 p3 p4 p5 z kk r) scope .none .none doc pm an (.ref cda) ct cc) ssup scls rfl rfl (X₁ _ _ ho) rfl har rfl (X₁ _ _ hco) rfl hvs hfile T.top ?_
  obtain ⟨mb, hb1, hb2⟩ := hb
  have nk : ∀ {a : Addr} {m : Str → Option Value}, s.heap.Ns a m → h₀.Ns a m := fun h => ns_keep h fun o e => hkeep _ _ e
  refine ks_loadName_global sk ssup (loadGlobal_builtin (env := callEnv (ksFn nm qual params (iniS p0 p1 p2 p3 p4 p5 z kk r) scope .none .none doc pm an (.ref cda) ct cc) s.heap.objs.size fI) (nk hg) hms (nk hb1) ((hb2 _ (by decide +kernel)).trans PyProof.Rows.Boot.«super») ⟨rfl, ?_⟩)
  refine wpAny_loadName_free sk scls rfl ⟨_, X₁ _ _ hcell, rfl⟩ ?_
  rw [harg]
  refine wpAny_loadName_local sk (sloc _ List.mem_cons_self) hns (hlr 0 _ rfl) ?_
  refine ks_wpAny_isType_cls hC₁ rfl ⟨rfl, ?_⟩
  refine ks_wpAny_call_super hC₁ rfl hx₁ rfl (fun c e => by cases e) (looks_mroIn X₁ T.self) (fun h2 e2 k2 => ?_)
  have X₂ : K.In h2 := X₁.keeps k2
  have hx₂ := k2 _ _ hx₁
  have hC₂ := k2 _ _ hC₁
  have tyX : ∀ {h : Heap}, K.In h → h.get? x = some (excO C t0) → Looks (model prog w) h (isInstance (.ref x) (.type "ValueError")) true := fun {h} XX e => by
    have I : InstAt h x (excO C t0) C none := ⟨e, rfl, rfl, trivial⟩
    exact I.type.andThen (looks_mroIn XX T.ve)
  refine sup_meth e2 (looks_opaque X₂ T.op) ((looks_clsIn X₂ hcl).andThen .now) (PySem.ESX.drop_own C bm) X₂ halong hxC rfl (tyX X₂ hx₂) ?_
  have k3 : ∀ b o, h2.get? b = some o → (h2.push (wr x)).get? b = some o := fun b o e => Heap.get?_push_of_some _ e
  refine cw_wr (x := x) (first := []) ?_ rfl rfl
  refine Calls.spliced_cons (wpAny_Constant_str (k := kk) (pos := p3) (Calls.spliced_nil ⟨Heap.get?_push_at rfl rfl, ?_⟩))
  refine wr_call (k3 _ _ hC₂) (k3 _ _ hx₂) (Heap.get?_push_at rfl rfl) (by rw [sizeLine_eq]; exact (by decide : (1 : Nat) ≤ 16777216)) (fun h4 t4 k4 hx4 => ?_)
  refine wpAt_of_wpAny ?_
  have kA : ∀ b o, b ≠ x → h₀.get? b = some o → h4.get? b = some o := fun b o hb e => k4 b o hb (k3 b o (k2 b o e))
  have hL : s.heap.objs.size < h₀.objs.size := hns.lt
  have hn4 : h4.Ns s.heap.objs.size _ := ns_keep hns fun o e => kA _ _ hLx e
  have sz : ∀ a, K.lookup a ≠ none → a < h4.objs.size := fun a ha => by
    cases e : K.lookup a with
    | none => exact absurd e ha
    | some o => exact Heap.lt_size (kA a o (fun z => by rw [z, hnx] at e; cases e) (X₁ _ _ e))
  refine sto_all (env := callEnv (ksFn nm qual params (iniS p0 p1 p2 p3 p4 p5 z kk r) scope .none .none doc pm an (.ref cda) ct cc) s.heap.objs.size fI) hcl (show refsVE (.ref C :: bm) = true from hbm) rfl T.sa sk (sloc _ List.mem_cons_self) hLx hnx (s := ⟨h4, _, _, _, _⟩) hn4.lt sz hsto hv (kin_but X₁ hnx kA) hn4 (hlr 0 _ rfl) (fun i f e => ⟨hlr (i + 1) f e, sloc f (List.mem_cons_of_mem _ (List.mem_of_getElem? e)), T.db f (List.mem_of_getElem? e)⟩) T.no hx4 T.sm fun h' tk ie => ?_
  have big : s.heap.objs.size ≤ h4.objs.size := Nat.le_of_lt hn4.lt
  refine hq h' tk ⟨fun b o hb e => ie.keep b o hb (kA b o hb (hkeep b o e)), ie.obj.imp id fun ⟨z1, t1, dx, y1, y2, y3, y4⟩ => ⟨z1, t1, dx, y1, Nat.le_trans big y2, y3, y4⟩⟩
end
end VX

namespace VX
open PySem PySem.W PySem.Calls PyProof.Rows PySem.HandSPX
/-- a made exception -/
structure Made (h h' : Heap) (e C : Addr) (fvs : List (Str × Value)) : Prop where
  keep : ∀ b o, h.get? b =
                          some o → h'.get? b = some o
  new : h.objs.size ≤ e
  obj : (fvs = [] ∧ ∃ t1, h'.get? e = some (excO C t1)) ∨ (fvs ≠ [] ∧ ∃ t1 dx, h'.get? e = some { cls := .ref C, dict := some dx, data := .fields #[.ref t1, .none, .none, .none, .bool false, .none] } ∧ h.objs.size ≤ dx ∧ dx ≠ e ∧ h'.Ns1 dx (mOf (fun _ => none) fvs))
section
variable {prog : Program} {w : World} {A : Around} {K : Frag} {C fI : Addr} {R : Result → Shared → Prop} {s : Shared}
theorem ex_made {ps : List Str} {mg : Str → Option Value} (T : ExT prog K C fI ps) {vs : List Value} (hv : vs.length = ps.length) (X : K.In s.heap) (hlim : s.heap.NoLimit) (hg : s.heap.Ns mainGlobals mg) (hms : mg "super" = none) (hb : ∃ mb, s.heap.Ns builtinsNs mb ∧ ∀ x : Str, x ≠ "__name__" → mb x = bootBuiltins x) (hroom : A.depth + 1 < recursionLimit)
    (hq : ∀ h' tk e, Made s.heap h' e C (ps.zip vs) → R (.ok (.ret (.ref e))) { s with heap := h', toks := tk }) : codeAny (model prog w) A (.call (.ref C) ⟨vs, []⟩) R s := by
  obtain ⟨nm, q, N, bs, bm, sn, sub, ab, col, dd, k0, k1, k2, k3, k5, hC, hbm, _⟩ := T.cls
  obtain ⟨hp, g,
                dr, tk, os⟩ := s
  have k : ∀ b o, hp.get? b = some o → ((hp.push (kdv_tup vs)).push (excO C hp.objs.size)).get? b = some o := fun b o e => Heap.get?_push_of_some _ (Heap.get?_push_of_some _ e)
  have hget : ((hp.push (kdv_tup vs)).push (excO C hp.objs.size)).get? (hp.objs.size + 1) = some (excO C hp.objs.size) := by heap_get
  have kbig : ∀ a, K.lookup a ≠ none → a < hp.objs.size := fun a ha => by
    cases e : K.lookup a with
    | none => exact absurd e ha
    | some o => exact Heap.lt_size (X a o e)
  have hnx : K.lookup
                     (hp.objs.size + 1) = none := by
    cases e : K.lookup
                      (hp.objs.size + 1) with
    | none => rfl
    | some o => exact absurd (kbig _ (by rw [e]; simp)) (Nat.not_lt.mpr (Nat.le_succ _))
  have nk : ∀ {a : Addr} {m : Str → Option Value}, hp.Ns a m → ((hp.push (kdv_tup vs)).push (excO C hp.objs.size)).Ns a m := fun h => ns_keep h fun o e => k _ _ e
  have sz2 : ((hp.push (kdv_tup vs)).push (excO C hp.objs.size)).objs.size = hp.objs.size + 1 + 1 := by rw [Heap.size_push, Heap.size_push]
  obtain ⟨mb, hb1, hb2⟩ := hb
  refine call_own F.excBase_ValueError (fun X => refsVE_contains X bm hbm) (X _ _ hC) (looks_findIn X T.iC) (fun self => bind_fn X self T.tI) (by rw [hv, sizeLine_eq]; have := T.sm; omega) ?_
  refine ex_init (s := ⟨(hp.push (kdv_tup vs)).push (excO C hp.objs.size), g, dr, tk, os⟩) (mg := mg) T hv (X.keeps k) (hlim.keeps k) (nk hg) hms ⟨mb, nk hb1, hb2⟩ hget hnx (fun a ha => Nat.lt_of_lt_of_le (kbig a ha) (Nat.le_trans (Nat.le_add_right _ 2) (Nat.le_of_eq sz2.symm))) ?_ fun h' tk' ie => ?_
  · show A.depth +
                  1 < recursionLimit
    exact hroom
  · have old : ∀ b o, hp.get? b = some o → h'.get? b = some o := fun b o e => ie.keep b o (Nat.ne_of_lt (Nat.lt_succ_of_lt (Heap.lt_size e))) (k b o e)
    refine ⟨rfl, hq h' tk' (hp.objs.size + 1) ⟨old, Nat.le_succ _, ie.obj.imp id fun ⟨z, t1, dx, y1, y2, y3, y4⟩ => ⟨z, t1, dx, y1, ?_, y3, y4⟩⟩⟩
    exact Nat.le_trans (Nat.le_trans (Nat.le_add_right _ 2) (Nat.le_of_eq sz2.symm)) y2
end
end VX
namespace VE
open PySem PySem.Spec
                     PyProof.Rows L2
theorem relO_all : ∀ {ps : List Str} {vs : List V} {us : List Value} {acc : List (Str × V)} {m : Str → Option Value}, Vals vs us → (∀ f, RelO (acc.lookup f) (m f)) → ∀ f, RelO (((ps.zip vs).reverse ++ acc).lookup f) (VX.mOf m (ps.zip us) f)
  | [], vs, us, acc, m, _, h, f => by simpa [VX.mOf] using h f
  | p :: ps, _, _, acc, m, .nil, h, f => by simpa [VX.mOf] using h f
  | p :: ps, _, _, acc, m, .cons (a := v) (b := u) r t, h, f => by
    rw [List.zip_cons_cons, List.zip_cons_cons, List.reverse_cons, List.append_assoc]
    exact relO_all t (fun g => relO_put r h g) f
/-- C(e, ..) -/
def tMkX (C : Addr) (ps : List Str) (ta : TA) : L2.St → Hp → XK → Prop := fun σ H Q => ta σ H fun vs H1 => vs.length = ps.length ∧ (ps = [] → Q (.ref C) none H1) ∧ (ps ≠ [] → ∀ d, H1 d = none → Q (.ref C) (some d) (upd H1 d (.xd (ps.zip vs).reverse)))
section
variable {c : Cc} {kp : Nat → Prop} {C fI : Addr}
theorem pmk_x {X : Cx} {σ : L2.St} {H : Hp} {Q : XK} {pins : List (Addr × Obj)} {s : Shared} {k : Nat} {ps : List Str} {us : List Value} {vs : List V} (T : VX.ExT X.prog X.K C fI ps) (hms : X.mg "super" = none) (hr : Room k X.A) (I : Inv X pins σ H s) (r : Vals vs us) (hl : vs.length = ps.length)
    (q0 : ps = [] → Q (.ref C) none H) (q1 : ps ≠ [] → ∀ d, H d = none → Q (.ref C) (some d) (upd H d (.xd (ps.zip vs).reverse))) : wpAny (model X.prog X.w) X.A (call (.ref C) us) (MkP X pins σ Q) X.xe s := by
  have hlim := I.nolimit
  obtain ⟨mb, hb1, hb2⟩ := I.mod.blt
  have hv : us.length = ps.length := r.length.symm.trans hl
  have kin := I.kIn
  have glob := I.mod.glob.keeps I.bk
  have blt := hb1.keeps I.bk
  obtain ⟨hp, g,
                dr, tk, os⟩ := s
  refine wpAny_call (VX.ex_made (mg := X.mg) T hv kin hlim glob hms ⟨mb, blt, hb2⟩ (by have := hr.dp; omega) fun h' tk' e M => ?_)
  show MkP X pins σ Q (.ref
                           e) ⟨h', g, dr, tk', os⟩
  obtain ⟨G', g1, g2⟩ := restrict
                                 h' fun b => decide (b ≠ e)
  have gk : ∀ b, b ≠ e → G'.get? b = h'.get?
                                            b := fun b hb => g1 b (decide_eq_true hb)
  have ge : G'.get? e =
                       none := g2 e (by simp)
  have old : ∀ b o, hp.get? b = some o → G'.get? b = some o := fun b o q => (gk b
                                                                                 (Nat.ne_of_lt (Nat.lt_of_lt_of_le (Heap.lt_size q) M.new))).trans (M.keep b o q)
  have back : ∀ b o, G'.get? b = some o → h'.get? b = some o := fun b o q => by
    by_cases hb : b = e
    · rw [hb, ge] at q; cases q
    · exact (gk b
                 hb).symm.trans q
  have he : H e = none := I.hok.fresh M.new
  rcases M.obj with ⟨z, t1, hx⟩ | ⟨z, t1, d, hx, dn, dne, hns⟩
  · have zp : ps = [] := by
      cases ps with
      | nil => rfl
      | cons p ps =>
        cases us with
        | nil => cases hv
        | cons u us => cases z
    have J : Inv X pins σ H ⟨G', g, dr, tk', os⟩ := I.kept (t' := tk') old
    exact ⟨e, _, _, ⟨G', g, dr, tk', os⟩, _, .ref C, none, rfl, J, back, ge, hx, ⟨rfl, rfl⟩, rfl, rfl, he, rfl, I.bare, raises_own T.exC T.tyC, q0 zp⟩
  · have zp : ps ≠ [] := fun y => z (by rw [y]; rfl)
    have ob : ObjOk X.prog X.w (upd H d (.xd (ps.zip vs).reverse)) G' d (.xd (ps.zip vs).reverse) :=
      ⟨_, hns.at (fun o q => (gk d dne).trans q), fun f => by have := relO_all (ps := ps) (acc := []) (m := fun _ => none) r (fun _ => trivial) f; rw [List.append_nil] at this; exact this⟩
    have J : Inv X pins σ (upd H d (.xd (ps.zip vs).reverse)) ⟨G', g, dr, tk', os⟩ := I.laid (t' := tk') old dn ob
    refine ⟨e, _, _, ⟨G', g, dr, tk', os⟩, _, .ref C, some d, rfl, J, back, ge, hx, ⟨rfl, rfl⟩, rfl, rfl, ?_, rfl, I.bare, raises_own T.exC T.tyC, q1 zp d (I.hok.fresh dn)⟩
    rw [upd_ne (Ne.symm dne)]
    exact he
theorem pmk_call {k : Nat} {ps : List Str} {x : Str} {p pos : Pos} {es : List Expr} {ta : TA} (T : VX.ExT c.X.prog c.X.K C fI ps) (hms : c.X.mg "super" = none) (hr : Room k c.X.A) (ha : PA c.X es ta) (hall : es.all (fun e => !isStar e) = true) (hlen : es.length = ps.length) (hg : Gl c.X x) (hm : c.X.mg x = some (.ref C)) (hdb : (x == ("__debug__" : Str)) = false) (h0 : es = [] → ∀ σ H Q, ta σ H Q → Q [] H) : PMk c.X (.Call (.Name x p) es [] pos) (tMkX C ps ta) := by
  intro pins s σ H Q I h
  refine wpAny_Call_Name_kw
                           (ld_glob I hg hm ?_ hdb)
  cases es with
  | nil =>
    obtain ⟨q1, q2, q3⟩ := h0 rfl σ H _ h
    exact PySem.W.callWith_K0 I.kIn T.kC (pmk_x (us := []) T hms hr I .nil q1 q2 q3)
  | cons e es =>
    obtain ⟨a1, a2⟩ := Bool.and_eq_true_iff.mp (show (!isStar e && es.all fun e => !isStar e) = true from hall)
    refine PySem.W.callWith_K (h₀ := c.X.base) I.ok.mod.kin T.kC (thn (ha.run pos pins s σ H _ I h) fun us s1 ⟨vs, H1, I1, rv, q1, q2, q3⟩ => ⟨I1.kIn, ?_⟩) (noStar (by simpa using a1)) (plain_back a2)
    exact pmk_x (us := us) T hms hr I1 rv q1 q2 q3
end
end VE

namespace VX
open PySem PySem.W PySem.Calls PyProof.Rows PySem.HandSPX L2
abbrev TsX := Addr → Value → Option Addr → TS
/-- the ends of a suite whose name goes behind it -/
def ungo (D : Ends) (i : Nat) : Ends := { nx := fun σ H => D.nx (σ.set i none) H, rt := D.rt, bk := fun σ H => D.bk (σ.set i none) H, ct := fun σ H => D.ct (σ.set i none) H }
def wHs (K : Frag) (Wout : WX) (D : Ends) : List (Value × Option Nat × TsX) → WX
  | [] => Wout
  | (c, none, ts) :: r => fun cls d σ H => ∃ b, exmOne K cls c = some b ∧ (b = true → ∀ a, H a = none → ts a cls d D σ H) ∧ (b = false → wHs K Wout D r cls d σ H)
  | (c, some i, ts) :: r => fun cls d σ H => ∃ b, exmOne K cls c = some b ∧ (b = true → ∀ a, H a = none → ts a cls d (ungo D i) (σ.set i (some (.ref a))) H) ∧ (b = false → wHs K Wout D r cls d σ H)
/-- the clauses, judged -/
inductive Hs (X : Cx) : List ExceptHandler → List (Value × Option Nat × TsX) → Prop
  | nil : Hs X [] []
  | only {x : Str} {c : Value} {ts : TsX} {b₀ : Stmt} {suite : List Stmt} {np hp : Pos} {hds : List ExceptHandler} {l : List (Value × Option Nat × TsX)} (hc : Names X x c)
      (hsu : ∀ (a : Addr) (oe : Obj) (cls : Value) (d : Option Addr) (pn : List (Addr × Obj)), Zc cls d oe → (∃ vs, oe.data = .fields vs) → PSs (X.suite a ((a, oe) :: pn)) (b₀ :: suite) (ts a cls d)) (r : Hs X hds l) : Hs X (.ExceptHandler (some (.Name x np)) none (b₀ :: suite) hp :: hds) ((c, none, ts) :: l)
  | named {x n : Str} {i : Nat} {c : Value} {ts : TsX} {b₀ : Stmt} {suite : List Stmt} {np hp : Pos} {hds : List ExceptHandler} {l : List (Value × Option Nat × TsX)} (hc : Names X x c) (hi : X.N[i]? = some n) (hln : X.env.kindOf n = some .local)
      (hsu : ∀ (a : Addr) (oe : Obj) (cls : Value) (d : Option Addr) (pn : List (Addr × Obj)), Zc cls d oe → (∃ vs, oe.data = .fields vs) → PSs (X.suite a ((a, oe) :: pn)) (b₀ :: suite) (ts a cls d)) (r : Hs X hds l) : Hs X (.ExceptHandler (some (.Name x np)) (some n) (b₀ :: suite) hp :: hds) ((c, some i, ts) :: l)
section
variable {X : Cx} {body : List Stmt} {h₀ : ExceptHandler} {hds : List ExceptHandler} {l : List (Value × Option Nat × TsX)} {pos : Pos} {tb : WX → TS} {Wout : WX}
theorem ps_try_hs (hstk : X.stack = X.env :: X.outer) (hfr : X.env.frame = some X.env.locals) (nd : X.N.Nodup) (tk : Takes X Wout)
    (hb : ∀ (W : WX) (pn : List (Addr × Obj)) (xe : Value → Shared → Prop), Takes (X.tr pn xe) W → PassesOwn (model X.prog X.w) X.A X.env xe → PSs (X.tr pn xe) body (tb W)) (hh : Hs X (h₀ :: hds) l) : PS X (.Try body (h₀ :: hds) [] [] pos) (fun D σ H => tb (wHs X.K Wout D l) D σ H) := by
  refine ⟨fun pins
                  s σ H D I h => ?_⟩
  have ok := I.ok
  have hA : X.A.frames = some (X.env :: X.outer) := by rw [ok.frames, hstk]
  let air : Value → Shared → Prop := fun e s₁ => wpAny (model X.prog X.w) X.A (noteFrame e X.env) (fun _ s₂ => wpAny (model X.prog X.w) X.A (setFlight e none) (fun _ s₃ => wpAny (model X.prog X.w) X.A (handleBy e X.env (h₀ :: hds)) (SP X pins D) X.xe s₃) X.xe s₂) X.xe s₁
  have fin : ∀ f s1, SP (X.tr (X.pn ++ pins) air) [] D f s1 → SP X pins D f s1 := fun f s1 hsp => by
    cases f with
    | ret u => exact let ⟨v, σ', H', J', r, q⟩ := hsp; ⟨v, σ', H', J'.ofTry ok, r, q⟩
    | next => exact let ⟨σ', H', J', q⟩ := hsp; ⟨σ', H', J'.ofTry ok, q⟩
    | brk => exact let ⟨σ', H', J', q⟩ := hsp; ⟨σ', H', J'.ofTry ok, q⟩
    | cont => exact let ⟨σ', H', J', q⟩ := hsp; ⟨σ', H', J'.ofTry ok, q⟩
  have caught : Takes (X.tr (X.pn ++ pins) air) (wHs X.K Wout D l) := by
    intro u s' xx
    obtain ⟨a, B, sI, pins', σ1, H1, cls, d, rfl, J', nb, up, sky, na, os, ag, wish⟩ := xx
    have J : Inv X pins σ1 H1 sI := J'.ofTry ok
    have sky1 : Sky B (X.env :: X.outer) a (Zc cls d) X.env.locals s'.heap := hstk ▸ sky
    show wpAny (model X.prog X.w) X.A
                                     (noteFrame (.ref a) X.env) _ _ _
    refine Sky.land Zc.steady hA hfr sky1 fun h3 fl3 up3 => ?_
    have up13 := up.trans up3
    have J3 : Inv X pins σ1 H1 { s' with heap := h3 } := J.landed nb fl3.1 up13 os ag
    obtain ⟨oe3, vs3, he3,
                          hz3, hd3⟩ := fl3.there
    have nofr : a ∉ frs (X.env :: X.outer) := fun hm => let ⟨_, o1, e1, hnf⟩ := fl3.2.2.1.mem hm; hnf vs3 (by rw [he3] at e1; cases e1; exact hd3)
    have nL : a ≠ X.env.locals := fun z => nofr (List.mem_filterMap.mpr ⟨X.env, List.mem_cons_self, by rw [hfr, z]⟩)
    have nF : a ∉ X.fs := fun hm => let ⟨e, he, q⟩ := List.mem_filterMap.mp hm; nofr (List.mem_filterMap.mpr ⟨e, List.mem_cons_of_mem _ he, q⟩)
    have S3 := J3.suite
                       he3 hd3 na nL nF
    have LT : Looks (model X.prog X.w) h3 (typeOf (.ref a)) cls := fun A Q E s k q => wpAny_typeOf_ref (k _ _ he3) (by rw [hz3.1]; exact q)
    have nameOf : ∀ {x : Str} {c : Value} {np : Pos} {Q : Value → Shared → Prop} {E : Value → Shared → Prop}, Names X x c → Q c { s' with heap := h3 } → wpAny (model X.prog X.w) (X.A.mark (some (.ref a))) (eval (.Name x np) X.env) Q E { s' with heap := h3 } := fun {x c np Q E} hc q => by
      obtain ⟨hg, hdb, hm | ⟨hm, hv, hnn⟩⟩ := hc
      · exact ld_glob (X := X.suite a ((a, oe3) :: (X.pn ++ pins))) S3 hg hm q hdb
      · exact ld_blt (X := X.suite a ((a, oe3) :: (X.pn ++ pins))) S3 hg hm hv q hnn hdb
    have go : ∀ {hds1 : List ExceptHandler} {l1 : List (Value × Option Nat × TsX)}, Hs X hds1 l1 → wHs X.K Wout D l1 cls d σ1 H1 → wpAny (model X.prog X.w) X.A (handleBy (.ref a) X.env hds1) (SP X pins D) X.xe { s' with heap := h3 } := by
      intro hds1 l1 hk
      induction hk with
      | nil =>
        intro wout
        refine wpAny_handleBy_nil ?_
        obtain ⟨_, _, _, oe, vs, T, oT, ts1, he, hz, hd, h1, hr⟩ := id fl3
        unfold PySem.passOn
        refine wpAny_bind
                         (wpAny_field he hd h1 ?_)
        rw [if_neg (show ¬ ((Value.ref T == Value.none) = true) by simp)]
        have away : wpAny (model X.prog X.w) X.A (setFlight (.ref a) X.env.frame) (fun _ s4 => wpAny (model X.prog X.w) X.A (throw (.ref a) : Sem Flow) (SP X pins D) X.xe s4) X.xe { s' with heap := h3 } := by
          rw [hfr]
          exact HandSPX.setFlight_upZ fl3 fun h4 hh4 up4 => wpAny_throw (tk _ _ ⟨a, B, sI, pins, σ1, H1, cls, d, rfl, J, nb, up13.trans up4, .inr (.inr (by rw [hstk]; exact hh4)), na, os, ag, wout⟩)
        first | exact wpAny_bind (wpAny_pure (wpAny_bind away)) | exact wpAny_bind away
      | @only x c ts b₀ suite np hp hds2 l2 hc hsu r ih =>
        intro wish
        obtain ⟨b, hb1, hyes, hno⟩ := wish
        refine wpAny_handleBy_cons (codeAny_handlers_test ?_) (fun q => by cases q)
        refine nameOf hc ((exm_one (M := model X.prog X.w) J3.kIn LT hb1).here ?_)
        cases b with
        | false => exact (show wpAny _ X.A (handleBy (.ref a) X.env hds2) _ _ _ from ih (hno rfl))
        | true =>
          refine codeAny_handlers_suite (HandSPX.lands_againZ fl3 fun h4 fl4 up4 => ?_)
          have J4 : Inv X pins σ1 H1 { s' with heap := h4 } := J.landed nb fl4.1 (up13.trans up4) os ag
          obtain ⟨oe4, vs4, he4,
                                hz4, hd4⟩ := fl4.there
          refine wpAny_mono ((hsu a oe4 cls d (X.pn ++ pins) hz4 ⟨_, hd4⟩).run [] _ _ H1 _ (J4.suite he4 hd4 na nL nF) (hyes rfl a na)) (fun f s6 hsp => ?_) (fun _ _ z => False.elim z)
          cases f with
          | ret u => exact let ⟨v6, σ6, H6, S6, r6, q6⟩ := hsp; ⟨_, _, _, S6.unsuite ok, r6, q6⟩
          | next => exact let ⟨σ6, H6, S6, q6⟩ := hsp; ⟨_, _, S6.unsuite ok, q6⟩
          | brk => exact let ⟨σ6, H6, S6, q6⟩ := hsp; ⟨_, _, S6.unsuite ok, q6⟩
          | cont => exact let ⟨σ6, H6, S6, q6⟩ := hsp; ⟨_, _, S6.unsuite ok, q6⟩
      | @named x n i c ts b₀ suite np hp hds2 l2 hc hi hln hsu r ih =>
        intro wish
        obtain ⟨b, hb1, hyes, hno⟩ := wish
        refine wpAny_handleBy_cons (codeAny_handlers_test ?_) (fun q => by cases q)
        refine nameOf hc ((exm_one (M := model X.prog X.w) J3.kIn LT hb1).here ?_)
        cases b with
        | false => exact (show wpAny _ X.A (handleBy (.ref a) X.env hds2) _ _ _ from ih (hno rfl))
        | true =>
          refine codeAny_handlers_suite_as (HandSPX.lands_againZ fl3 fun h4 fl4 up4 => ?_)
          have J4 : Inv X pins σ1 H1 { s' with heap := h4 } := J.landed nb fl4.1 (up13.trans up4) os ag
          obtain ⟨oe4, vs4, he4,
                                hz4, hd4⟩ := fl4.there
          refine store_ok (X := X.suite a ((a, oe4) :: (X.pn ++ pins))) (v := .ref a) (J4.suite he4 hd4 na nL nF) nd hi (.inl hln) rfl (fun s5 S5 => ?_) (.inr hln)
          refine wpAny_mono ((hsu a oe4 cls d (X.pn ++ pins) hz4 ⟨_, hd4⟩).run [] s5 _ H1 _ S5 (hyes rfl a na)) (fun f s6 hsp => ?_) (fun _ _ z => False.elim z)
          have gone : ∀ {σ6 : L2.St} {H6 : Hp} {Q : Shared → Prop}, Inv (X.suite a ((a, oe4) :: (X.pn ++ pins))) [] σ6 H6 s6 → (∀ s7, Inv X pins (σ6.set i none) H6 s7 → Q s7) → wpAny (model X.prog X.w) X.A (do bindName X.env n .none; unbindBehindTheSuite X.env n hp) (fun _ s7 => Q s7) X.xe s6 :=
            fun S6 hq => gone_ok (S6.unsuite ok) nd hi hln hq
          cases f with
          | ret u => exact let ⟨v6, σ6, H6, S6, r6, q6⟩ := hsp; gone S6 fun s7 J7 => ⟨_, _, _, J7, r6, q6⟩
          | next => exact let ⟨σ6, H6, S6, q6⟩ := hsp; gone S6 fun s7 J7 => ⟨_, _, J7, q6⟩
          | brk => exact let ⟨σ6, H6, S6, q6⟩ := hsp; gone S6 fun s7 J7 => ⟨_, _, J7, q6⟩
          | cont => exact let ⟨σ6, H6, S6, q6⟩ := hsp; gone S6 fun s7 J7 => ⟨_, _, J7, q6⟩
    exact go hh wish
  refine wpAny_Try_except (wpAny_mono ((hb _ (X.pn ++ pins) air caught PassesOwn.looking).run [] s σ H D (I.toTry _) h) (fun f s1 hsp => ?_) (fun e s1 he => he))
  have hsp := fin f s1 hsp
  cases f with
  | next => exact wpAny_execs_nil hsp
  | _ => exact hsp
end
end VX

namespace VX
open PySem PySem.W PySem.Calls PyProof.Rows PySem.HandSPX L2
section
variable {prog : Program} {w : World} {A : Around} {E : Value → Shared → Prop} {s : Shared} {K : Frag} {x D : Addr} {ox : Obj} {od : Option Obj}
theorem cls_obj {a g : Value} {C : Addr} {name : Str} (hc : (clsIn K C).isSome = true) (ha : findIn K (.ref C) name = some (some a)) (hg : specialIn K a "__get__" = some (some g)) (ht : takesIn K a = some true) : findObj K C od name = some (.bind g a) := by
  cases od with
  | none => exact findObj_dataN hc ha hg ht
  | some o => exact findObj_data hc ha hg ht
theorem cls_get {Q : Option Value → Shared → Prop} (T : ExcC K D) (X : K.In s.heap) (I : InstAt s.heap x ox D od) (h : Q (some (.ref D)) { s with toks := s.toks + 1 }) : wpAny (model prog w) A (getAttr? (.ref x) "__class__") Q E s := by
  have hf : findObj K D od "__class__" = some (.bind (.builtin "getset_descriptor.__get__") (.builtin "object.__class__")) := cls_obj (by obtain ⟨cd, hc, _⟩ := any_some T.hd; rw [hc]; rfl) T.ha T.hn T.ht
  obtain ⟨hp, g, d, t, os⟩ := s
  have LA := I.type (M := model prog w)
  have LB := looks_findIn (M := model prog w) X T.hg
  have LC := looks_findIn (M := model prog w) X T.hk
  have LD := looks_find (M := model prog w) X I hf
  have LS : Looks (model prog w) hp (isInstance (.ref x) (.type "BaseException")) true := LA.andThen (looks_subIn X T.hs)
  have y0 : (false && onTheHeap (Value.builtin "BaseException.__getattribute__")) = false := rfl
  have y1 : (onTheHeap (Value.ref D) && Value.builtin "BaseException.__getattribute__" == Value.builtin "object.__getattribute__") = false := by
    rw [show (Value.builtin "BaseException.__getattribute__" == Value.builtin "object.__getattribute__") = false by decide +kernel]
    rfl
  unfold getAttr?
                 getAttrBy? getAttrBy
  refine wpAny_bind (wpAny_mkText (wpAny_bind (wpAny_attempt (wpAny_holding (wpAny_bind (LA.at (wpAny_bind (LB.at ?_))))))))
  show wpAny _ _ (if (onTheHeap (Value.ref D) && Value.builtin "BaseException.__getattribute__"
                                                                                               == Value.builtin "object.__getattribute__") = true then _ else _) _ _ _
  rw [y1, if_neg Bool.false_ne_true]
  unfold getAttrByItsOwn
                        hookBefore
  refine wpAny_bind ?_
  rw [if_pos (show onTheHeap
                            (Value.ref D) = true from rfl)]
  refine LC.at (wpAny_bind (wpAny_attempt (wpAny_holding ?_)))
  unfold callGetattribute
  rw [y0, if_neg Bool.false_ne_true]
  unfold boundAndCalled
  rw [PySem.F.excAttr_ValueError.ga.bind
                                        (.ref x)]
  refine wpAny_bind
                   (wpAny_pure ?_)
  show wpAny _ _ (call (.builtin "BaseException.__getattribute__")
                                                                  [.ref x, .str "__class__" t]) _ _ _
  refine wpAny_call (codeAny_call_builtin
                                         PySem.F.excAttr_ValueError.ga.plain PySem.F.entry_bexc_ga ?_)
  refine @check_slot (model prog w) _ _ ⟨hp, g, d, t + 1, os⟩ "BaseException.__getattribute__" "BaseException" "__getattribute__" (.ref x) [.str "__class__" t] [] _ (by decide +kernel) (by decide +kernel) LS (PySem.F.args_bexc_ga (.ref x) (.str "__class__" t)) ?_
  unfold
        Builtin.«object.__getattribute__»
  refine wpAny_bind (wpAny_of_eq (a := ((Value.ref x : Value), [Value.str "__class__" t])) (by first
                                                                                                    | rfl | (simp only [slotArgs]; rfl)) ?_)
  refine wpAny_bind (wpAny_pure (wpAny_bind (LA.at (wpAny_bind (LD.at ?_)))))
  show wpAny _ _ (holding [Value.builtin "object.__class__"] (call (.builtin
                                                                            "getset_descriptor.__get__") [.builtin "object.__class__", .ref x, .ref D]) >>= ret) _ _ _
  refine wpAny_bind (wpAny_holding (wpAny_call (class_get (s := ⟨hp, g, d, t + 1, os⟩) (ox := ox) (od := od) X I T.hm ?_)))
  refine wpAny_pure ?_
  show wpAny _ _ (handedOut
                           (.ref D)) _ _ _
  rw [handedOut_of
                  (v := .ref D) rfl]
  first | exact wpAny_pure (wpAny_pure h) | exact wpAny_pure h | exact wpAny_pure (wpAny_bind (wpAny_pure (wpAny_pure h)))
theorem kit_exc (T : ExcC K D) : KitX K (.ref x) (.ref D) (fun h => InstAt h x ox D od) where
  ty := fun _ _ _ I => I.type
  it := fun _ _ X _ => by
    obtain ⟨cdD, hcD, _⟩ := any_some T.hd
    unfold clsIn at hcD
    split at hcD
    · rename_i ho
      intro A1 Q1 E1 s1 k q
      unfold isType loadHead
      exact wpAny_bind (wpAny_loadPart
                                      (k _ _ (X _ _ ho)) (wpAny_pure q))
    · cases hcD
  ne := fun h tp dd
                   its n sl X htp => by
    obtain ⟨cdD, hcD, _⟩ := any_some T.hd
    refine Bool.eq_false_iff.mpr
                                fun q => ?_
    have e : D = tp :=
                      Value.ref.inj (beq_iff_eq.mp q)
    subst e
    unfold clsIn at hcD
    split at hcD
    · rename_i ho
      cases (X _ _ ho).symm.trans htp
    · cases hcD
  ca := fun X I k => cls_get T X I k
end
end VX
namespace VE
open PySem PySem.Spec
                     PyProof.Rows L2
/-- what the exceptions' classes must say: the classes of the list; ValueError is 0 -/
structure FX (S : Sta) (xl : List Nat) : Prop where
  ec : ∀ d ∈ xl, ExcC S.K (S.cn d)
  xf : ∀ d ∈ xl, XfC S.K (S.cn d)
  no : ∀ d ∈ xl, ∀ f ∈ S.fs d, PySem.W.findIn S.K (.ref (S.cn d)) f = some none
  nd : ∀ d ∈ xl, (S.fs d).Nodup
  ve : ∀ d ∈ xl, PySem.W.kitOne S.K (.ref (S.cn d)) (.type "ValueError") = some true
  nz : ∀ d ∈ xl, d ≠ 0
  kit : ∀ d ∈ xl, ∀ e ∈ xl, PySem.W.kitOne S.K (.ref (S.cn d)) (.ref (S.cn e)) = some (subC d e)
  exm : ∀ d ∈ xl, ∀ e ∈ xl, PySem.W.exmOne S.K (.ref (S.cn d)) (.ref (S.cn e)) = some (subC d e)
section
variable {c : Cc} {kp : Nat → Prop} {F : Fz} {H : Hp} {tl : Ld} {σ : L2.St} {D : Ends}
/-- what holds within a suite: a caught exception x stands at xa, in slot i (or in none) -/
structure InS (c : Cc) (i : Nat) (x : VE.X) : Prop where
  X : ∃ X0 oe pn, c.X = Cx.suite X0 c.xa ((c.xa, oe) :: pn) ∧ Zc (.ref (c.S.cn x.c)) c.xd oe ∧ ∃ vs, oe.data = .fields vs
  xc : c.G.xc = some (i, x)
  xl : x.c ∈ c.G.xl
  lv : ∀ (h : i < c.n), c.lv i = some (.ref c.xa)
/-- isinstance(e, C), e what is caught -/
theorem s_eisi {e t : Expr} {i k : Nat} {x : VE.X} {cv : V} {p pos : Pos} (fx : FX c.S c.G.xl) (hK : c.S.K = c.X.K) (T : InS c i x) (hin : i < c.n) (hg : Gl c.X "isinstance") (hm : c.X.mg "isinstance" = none) (he : PE c.X e (tVar i)) (ht : PE c.X t (tC cv)) (hcv : (k = 0 ∧ cv = .ty "ValueError") ∨ (k ∈ c.G.xl ∧ cv = .ref (c.S.cn k))) (h1 : isStar e = false) (h2 : isStar t = false) :
    PE c.X (.Call (.Name "isinstance" p) [e, t] [] pos) (tE c kp (evO c.G (.eisi i k))) := by
  obtain ⟨X0, oe, pn, hX, hz, hf⟩ := T.X
  have kit : ∃ u : Value, RelV cv u ∧ (∀ u', RelV cv u' → u' = u) ∧ PySem.W.kitOne c.X.K (.ref (c.S.cn x.c)) u = some (subC x.c k) := by
    rw [← hK]
    rcases hcv with ⟨h1, h2⟩ | ⟨h1, h2⟩
    · subst h1
      subst h2
      refine ⟨_, rfl, fun _ z => z, ?_⟩
      rw [fx.ve _ T.xl]
      congr 1
      unfold subC
      simp
    · subst h2
      exact ⟨_, rfl, fun _ z => z, fx.kit _ T.xl _ h1⟩
  obtain ⟨u, ru, hu, hk⟩ := kit
  have cr : CallR c.X (.builtin "isinstance") (fun xs H Q => xs = [.ref c.xa, cv] ∧ (c.xd = none ∨ ∃ dd fs, c.xd = some dd ∧ H dd = some (.xd fs)) ∧ Q (.bl (subC x.c k)) H) := by
    intro pins s σ
                  H xs us Q I r h
    obtain ⟨rfl, hd, q⟩ := h
    match us, r with
    | [u1, u2], .cons rx (.cons rt .nil) =>
      obtain rfl : u1 = Value.ref c.xa := rx
      have e2 := hu _ rt
      subst e2
      have pin : s.heap.get? c.xa = some oe := by
        have I2 := I
        rw [hX] at I2
        exact (I2.pin (c.xa, oe) (List.mem_append.mpr (.inl List.mem_cons_self))).1
      obtain ⟨vs, hv⟩ := hf
      have nc : PySem.W.notCls oe = true := by
        unfold PySem.W.notCls
        rw [hv] <;> rfl
      have J : ∃ od, PySem.W.InstAt s.heap c.xa oe (c.S.cn x.c) od := by
        rcases hd with hd | ⟨dd, fs, hd, hh⟩
        · refine ⟨none, ⟨pin, hz.1, nc, ?_⟩⟩
          rw [hz.2, hd]
          trivial
        · have ob : ObjOk c.X.prog c.X.w H s.heap dd (.xd fs) := I.hok dd _ hh
          obtain ⟨mA, ⟨od, es, ep, ho, _⟩, _⟩ := ob
          refine ⟨some od, ⟨pin, hz.1, nc, ?_⟩⟩
          rw [hz.2, hd]
          exact ho
      obtain ⟨od, J⟩ := J
      exact PySem.W.kia_one (VX.kit_exc (hK ▸ fx.ec _ T.xl)) I.kIn J hk (fun z => nomatch z) fun tk => ⟨.bl _, H, I.kept (t' := tk) fun _ _ z => z, rfl, q⟩
  refine PE.imp (pe_callB cr hg hm (by decide +kernel) (pa_cons he (pa_cons ht pa_nil (noStar h2)) (noStar h1)) (by decide) (by decide) (noStar h1) (plain_back (by rw [List.all_cons, h2]; rfl))) fun σ H Q ⟨F, tl, s, r⟩ => ?_
  unfold evO at r
  rw [T.xc] at r
  have r : RunO c kp σ tl (if i = i then .ok (.v (.bl (subC x.c k))) (era c.n tl) else .bad) Q := r
  rw [if_pos rfl] at r
  obtain ⟨h0, t, ht, hv⟩ := s.lo i _ (T.lv hin)
  refine ⟨.ref c.xa, by rw [← hv]; exact s.sl i t h0 ht, rfl, ?_, RunO.bl s r⟩
  obtain ⟨vs, e1, e2, e3⟩ := s.xe _ T.xc
  exact e3.imp (fun z => z.2) fun ⟨dd, z1, _, z3⟩ => ⟨dd, _, z1, z3⟩
end
end VE

namespace VE
open PySem PySem.Spec
                     PyProof.Rows L2

theorem evDs_len {g : Ge} : ∀ {ms : List E} {env env' : VE.Env} {ds : List VE.D}, evDs g ms env = .ok ds env' → ds.length = ms.length
  | [], env, env', ds, h => by
    unfold evDs at h
    cases h
    rfl
  | m :: ms, env, env', ds, h => by
    unfold evDs at h
    cases e1 : (evO g m env).map O.frz with
    | bad => rw [e1] at h; cases h
    | exc x env => rw [e1] at h; cases h
    | ok d env1 =>
      rw [e1] at h
      have h : (evDs g ms env1).bind (fun xs env2 => .ok (d :: xs) env2) = .ok ds env' := h
      cases e2 : evDs g ms env1 with
      | bad => rw [e2] at h; cases h
      | exc x env => rw [e2] at h; cases h
      | ok xs env2 =>
        rw [e2] at h
        cases h
        exact congrArg Nat.succ (evDs_len e2)
theorem zip_rev {α β : Type} {xs : List α} {ys : List β} (h : xs.length = ys.length) : (xs.zip ys).reverse = xs.reverse.zip ys.reverse := by
  exact List.reverse_zipWith h
section
variable {c : Cc} {kp kpa : Nat → Prop} {F : Fz} {H : Hp} {tl : Ld} {σ : L2.St} {D : Ends}
/-- operands, one by one, as values -/
inductive Vls (c : Cc) (kp : Nat → Prop) : List Expr → List E → Prop where
  | nil : Vls c kp [] []
  | cons {e : Expr} {es : List Expr} {m : E} {ms : List E} (h : PE c.X e (tE c kp (evO c.G m))) (hs : isStar e = false) (hr : Vls c kp es ms) : Vls c kp (e :: es) (m :: ms)
theorem Vls.pa {es : List Expr} {ms : List E} (h : Vls c kp es ms) : PA c.X es (tDs c kp (evDs c.G ms)) := by
  induction h with
  | nil => exact a_nil
  | cons h hs _ ih => exact a_cons (tD_of h) ih hs (fun _ z => z) (fun _ z => z)
theorem Vls.plain {es : List Expr} {ms : List E} (h : Vls c kp es ms) : es.all (fun e => !isStar e) = true := by
  induction h with
  | nil => rfl
  | cons h hs _ ih => rw [List.all_cons, hs, ih]; rfl
theorem Vls.len {es : List Expr} {ms : List E} (h : Vls c kp es ms) : es.length = ms.length := by
  induction h with
  | nil => rfl
  | cons h hs _ ih => exact congrArg Nat.succ ih
theorem s_raise {k n : Nat} {fI : Addr} {ps : List Str} {x : Str} {es : List Expr} {ms : List E} {p pos pos2 : Pos} (fx : Fx c) (hcalm : c.X.calm = true) (hxc : c.G.xc = none) (T : VX.ExT c.X.prog c.X.K (c.S.cn k) fI ps) (hps : c.S.fs k = ps.reverse) (hms : c.X.mg "super" = none) (hr : Room n c.X.A) (he : Vls c kp es ms) (hlen : es.length = ps.length) (hg : Gl c.X x) (hm : c.X.mg x = some (.ref (c.S.cn k))) (hdb : (x == ("__debug__" : Str)) = false) :
    PS c.X (.Raise (some (.Call (.Name x p) es [] pos)) none pos2) (tS c kp (evS c.G (.raise k ms))) := by
  refine PS.imp (ps_raise hcalm fx.tk (pmk_call T hms hr he.pa he.plain hlen hg hm hdb fun e0 σ H Q ⟨F, tl, s, r⟩ => ?_)) fun D σ H ⟨F, tl, s, r⟩ => ?_
  · subst e0
    have : ms = [] := by cases he; rfl
    subst this
    unfold evDs at r
    exact r F H tl s Stp.refl rfl [] rfl
  · unfold evS at r
    refine ⟨F, tl, s, ?_⟩
    have r0 := RunS.of (σ := σ) r
    cases e1 : evDs c.G ms (era c.n tl) with
    | bad => rw [e1] at r; exact r.elim
    | exc y env => rw [e1] at r; exact OnS.at r
    | ok ds env =>
      rw [e1] at r0
      intro F1 H1 tl1 s1 st1 e2 vs hvs
      have r1 := r0 F1 H1 tl1 s1 st1 e2
      rw [hxc] at r1
      have r1 : OnS c tl1 ⟨k, ds.reverse⟩ (era c.n tl1) := r1
      have hl : vs.length = ps.length := by rw [← RepDs.length hvs, evDs_len e1, ← he.len, hlen]
      refine ⟨hl, fun e0 => ?_, fun e0 d hd => ?_⟩
      · have hv : ds = [] := by
          have := RepDs.length hvs
          rw [hl, e0] at this
          exact List.length_eq_zero_iff.mp this
        refine r1 F1 H1 tl1 σ none s1 Stp.refl rfl ⟨[], ?_, ?_, .inl ⟨?_, rfl⟩⟩
        · rw [hv]; exact rfl
        · show ([] : List V).length = (c.S.fs k).length
          rw [hps, e0]; rfl
        · show ds.reverse = []
          rw [hv]; rfl
      · refine r1 _ _ tl1 σ (some d) (s1.newF hd) Stp.refl rfl ⟨vs.reverse, RepDs.mono (s1.extF hd) _ _ (RepDs.rev hvs), ?_, .inr ⟨d, rfl, .inr rfl, ?_⟩⟩
        · show vs.reverse.length = (c.S.fs k).length
          rw [hps, List.length_reverse, List.length_reverse, hl]
        · show upd H1 d _ d = some (.xd ((c.S.fs k).zip vs.reverse))
          rw [upd_same, hps, zip_rev hl.symm]
def rHas (c : Cc) (kc f : Nat) (ng : Bool) (σ : L2.St) : R2 := fun x y H Q => ∃ a dx fs, y = .ref a ∧ H a = some (.ins (c.S.cn kc) dx fs) ∧ spF c.S c.G.C f ([y, x] ++ []) H (fun v H' => ∃ b, v = .bl b ∧ Q (.bl (if ng then !b else b)) H') (EW c σ)
theorem s_has {ng : Bool} {kc f i k : Nat} {fa : Addr} {fd : FuncData} {ps : List Str} {a o : Expr} {ma : E} {pos : Pos} (fx : Fx c) (T : HasF c.X.K (c.S.cn kc) fa) (FF : FnOk c.X.prog c.X.w c.X.K c.X.mg c.X.base (CX c.X.prog c.X.w) k fa fd ps (spF c.S c.G.C f)) (hr : Room k c.X.A) (hb : Binds c.X.K fd ps []) (ha : PE c.X a (tE c kpa (evO c.G ma))) (ho : PE c.X o (tVar i)) (hin : i < c.n) (hm : behindInMarks (if ng then .NotIn else .In) o = false)
    (k1 : ∀ j, kp j → kpa j) (k2 : ∀ j, kp j → j ≠ i) : Snd c kp (.Compare a [if ng then .NotIn else .In] [o] pos) (.has ng kc f ma i) := by
  have op : ∀ σ, OpAt c.X σ (compareOp (if ng then .NotIn else .In)) (rHas c kc f ng σ) := by
    intro σ pins s H x y v u Q I rx ry ⟨b, dx, fs, e1, hb1, sp⟩
    subst e1
    obtain rfl : u =
                    Value.ref b := ry
    obtain ⟨m, fr⟩ := I.fr
    obtain ⟨⟨od, A1⟩, _⟩ := inst_at I hb1
    have run := run_fnT (us := [.ref b, v]) (vs := [.ref b, x]) (dvs := []) fx.tk FF hr hb .nil I (.cons rfl (.cons rx .nil)) sp
    have fin : ∀ (g : Bool → Bool), (∀ b, g b = if ng then !b else b) → wpAny (model c.X.prog c.X.w) c.X.A (call (.ref fa) [.ref b, v]) (fun r s' => wpAny (model c.X.prog c.X.w) c.X.A (truthy r) (fun b => EP c.X pins σ Q (.bool (g b))) c.X.xe s') c.X.xe s := fun g hg => wpAny_mono run (fun r s' hr => by
      obtain ⟨z, H', J, rz, b, ez, q⟩ := hr
      subst ez
      obtain rfl : r = Value.bool b := rz
      exact wpAny_pure ⟨.bl (g b), H', J, rfl, by rw [hg]; exact q⟩) fun _ _ z => z
    cases ng with
    | true => exact PySem.W.notIn_K fr I.ok.mod.kin A1 T.fwd T.ffn (fin (fun b => !b) fun b => rfl)
    | false => exact PySem.W.in_K fr I.ok.mod.kin A1 T.fwd T.ffn (fin id fun b => rfl)
  refine Snd.cmp (PE.imp (pe_cmpS op (tD_of ha) ho hm) fun σ H Q h => ?_)
  have e : evO c.G (.has ng kc f ma i) = fun env => ((evO c.G ma env).map O.frz).bind fun x env1 => if clsOk (some kc) (gt env1 i) then (runCall c.G.C .fn f [.s i, .t (.v x)] [] env1).bind fun r env2 => match r with
      | .cell (.val (.bl b)) => .ok (.v (.bl (if ng then !b else b))) env2
      | _ => .bad else .bad := by
    funext env
    rw [evO] <;> rfl
  rw [e] at h
  refine one_val h k1 fun F tl tl2 d1 v1 j1 H2 s st hn h1 e1 r => ?_
  split at r
  · rename_i hcls
    have hcls : (gt (era c.n tl2) i).bind O.cls = some kc := by
      unfold clsOk at hcls
      exact of_decide_eq_true hcls
    cases e2 : gt (era c.n tl2) i with
    | none => rw [e2] at hcls; cases hcls
    | some ob =>
      rw [e2] at hcls
      obtain ⟨_, t, ht, rfl⟩ := gt_era e2
      obtain ⟨a, dx, vs, z1, z2, z3⟩ := obj_at (s.g.ok i t ht) hcls
      have hv := s.sl i t hin ht
      refine ⟨t.v, hv, a, dx, _, z1, z2, ?_⟩
      have r2 : RunK c kp σ tl (runCall c.G.C .fn f [.s i, .t (.v d1)] [] (era c.n tl2)) (KO tl fun v H' => ∃ b, v = .bl b ∧ Q (.bl (if ng then !b else b)) H') := by
        refine (RunK.bind r).imp fun o F' H' tl' s' st' q j u hj hu ho => ?_
        subst ho
        cases u with
        | obj _ _ _ _ => exact q.elim
        | cell y => cases y with
          | val d v => cases d with
            | bl b =>
              have ev : v = .bl b := s'.g.ok j _ hu
              subst ev
              exact ⟨b, rfl, RunO.bl s' (RunK.oAt (show RunK c kp σ tl' (.ok (.v (.bl (if ng then !b else b))) (era c.n tl')) (KO tl Q) from q) st'.len)⟩
            | _ => exact q.elim
          | _ => exact q.elim
      exact call_sp (as := [.s i, .t (.v d1)]) (js := [i, j1]) (vs := [t.v, v1]) s st hn (fun _ z => z) (fun j hj z => by
        simp only [argsS, List.mem_cons, List.not_mem_nil, or_false] at z
        exact k2 j hj z) ⟨t.v, [v1], [j1], rfl, rfl, hin, hv, v1, [], j1, [], rfl, rfl, h1, ⟨_, e1, rfl, rfl⟩, rfl, rfl⟩ (dfl := []) (dvs := []) rfl r2
  · exact r.elim
end
end VE

namespace VE
open PySem PySem.Spec
                     PyProof.Rows L2

/-- the def within a try's body; within a suite -/
abbrev Cc.tr (c : Cc) (pn : List (Addr × Obj)) (xe : Value → Shared → Prop) (W : WX) : Cc := { c with X := c.X.tr pn xe, W := W }
abbrev Cc.su (c : Cc) (pn : List (Addr × Obj)) (i : Nat) (x : VE.X) (a : Addr) (d : Option Addr) : Cc :=
  { c with X := c.X.suite a pn, W := fun _ _ _ _ => False, G := { c.G with xc := some (i, x) }, lv := fun j => if j = i ∧ i < c.n then some (.ref a) else c.lv j, xa := a, xd := d }
section
variable {c : Cc} {kp : Nat → Prop} {F : Fz} {H : Hp} {tl : Ld} {σ : L2.St} {D : Ends}
theorem Sim.toTr {pn : List (Addr × Obj)} {xe : Value → Shared → Prop} {W : WX} (s : Sim c F tl σ H) : Sim (c.tr pn xe W) F tl σ H := ⟨s.g, s.len, s.sl, s.lo, s.xe, s.ln⟩
theorem Sim.ofTr {pn : List (Addr × Obj)} {xe : Value → Shared → Prop} {W : WX} (s : Sim (c.tr pn xe W) F tl σ H) : Sim c F tl σ H := ⟨s.g, s.len, s.sl, s.lo, s.xe, s.ln⟩
theorem Stp.any {n : Nat} {kp kq : Nat → Prop} {tl tl' : Ld} (h : ∀ i, i < n → ¬ kp i) (s : Stp n kq tl tl') : Stp n kp tl tl' := ⟨s.len, s.tmp, fun i h1 h2 => absurd h2 (h i h1)⟩
theorem Sim.toSu {pn : List (Addr × Obj)} {x : VE.X} {a : Addr} {d : Option Addr} (s : Sim c F tl σ H) (hx : ExcAt c.S F H x d) {i : Nat} (hi : i < c.n) : Sim (c.su pn i x a d) F (tl.set i (some (T.val .exn (.ref a)))) (σ.set i (some (.ref a))) H where
  g := s.g.setV ⟨a, rfl⟩
  len := by rw [List.length_set]; exact s.len
  sl := fun k u hk e => by
    rcases get_set e with ⟨q, q2, _⟩ | ⟨q, q2⟩
    · subst q; cases q2
      rw [List.getElem?_set_self (by rw [s.ln]; exact hk)]; rfl
    · rw [List.getElem?_set_ne (fun z => q z.symm)]
      exact s.sl k u hk q2
  lo := fun k w e => by
    have e : (if k = i ∧ i < c.n then some (V.ref a) else c.lv k) = some w := e
    have hl := s.len
    by_cases hk : k = i
    · subst hk
      rw [if_pos ⟨rfl, hi⟩] at e
      cases e
      exact ⟨hi, T.val .exn (.ref a), by rw [List.getElem?_set_self (by omega)], rfl⟩
    · rw [if_neg (fun z => hk z.1)] at e
      obtain ⟨h0, u, h1, h2⟩ := s.lo k w e
      exact ⟨h0, u, by rw [List.getElem?_set_ne (fun z => hk z.symm)]; exact h1, h2⟩
  xe := fun q e => by
    have e : some (i, x) = some q := e
    cases e
    exact hx
  ln := by rw [List.length_set]; exact s.ln
theorem Sim.toSu0 {pn : List (Addr × Obj)} {x : VE.X} {a : Addr} {d : Option Addr} (s : Sim c F tl σ H) (hx : ExcAt c.S F H x d) {i : Nat} (hi : ¬ i < c.n) : Sim (c.su pn i x a d) F tl σ H where
  g := s.g
  len := s.len
  sl := s.sl
  lo := fun k w e => by
    have e : (if k = i ∧ i < c.n then some (V.ref a) else c.lv k) = some w := e
    rw [if_neg (fun z => hi z.2)] at e
    exact s.lo k w e
  xe := fun q e => by
    have e : some (i, x) = some q := e
    cases e
    exact hx
  ln := s.ln
theorem Sim.ofSu {pn : List (Addr × Obj)} {x : VE.X} {a : Addr} {d : Option Addr} {i : Nat} (hxc : c.G.xc = none) (hl : c.lv i = none) (s : Sim (c.su pn i x a d) F tl σ H) : Sim c F (tl.set i none) (σ.set i none) H where
  g := s.g.drop i
  len := by rw [List.length_set]; exact s.len
  sl := fun k u hk e => by
    rcases get_set e with ⟨_, q2, _⟩ | ⟨q, q2⟩
    · cases q2
    · rw [List.getElem?_set_ne (fun z => q z.symm)]
      exact s.sl k u hk q2
  lo := fun k w e => by
    have hk : k ≠ i := fun z => by rw [z, hl] at e; cases e
    obtain ⟨h0, u, h1, h2⟩ := s.lo k w (show (if k = i ∧ i < c.n then some (V.ref a) else c.lv k) = some w by rw [if_neg (fun z => hk z.1)]; exact e)
    exact ⟨h0, u, by rw [List.getElem?_set_ne (fun z => hk z.symm)]; exact h1, h2⟩
  xe := fun q e => by rw [hxc] at e; cases e
  ln := by rw [List.length_set]; exact s.ln
theorem Sim.ofSu0 {pn : List (Addr × Obj)} {x : VE.X} {a : Addr} {d : Option Addr} {i : Nat} (hxc : c.G.xc = none) (hi : ¬ i < c.n) (s : Sim (c.su pn i x a d) F tl σ H) : Sim c F tl σ H where
  g := s.g
  len := s.len
  sl := s.sl
  lo := fun k w e => s.lo k w (show (if k = i ∧ i < c.n then some (V.ref a) else c.lv k) = some w by rw [if_neg (fun z => hi z.2)]; exact e)
  xe := fun q e => by rw [hxc] at e; cases e
  ln := s.ln
/-- the clauses of a try -/
inductive Hds (c : Cc) (kp : Nat → Prop) : List ExceptHandler → List (Nat × Option Nat × List S) → Prop
  | nil : Hds c kp [] []
  | only {k : Nat} {x : Str} {b₀ : Stmt} {suite : List Stmt} {np hp : Pos} {b : List S} {hds : List ExceptHandler} {hs : List (Nat × Option Nat × List S)} (hc : Names c.X x (.ref (c.S.cn k))) (hk : k ∈ c.G.xl)
      (hsu : ∀ (x : VE.X) (a : Addr) (d : Option Addr) (oe : Obj) (pn : List (Addr × Obj)), x.c ∈ c.G.xl → Zc (.ref (c.S.cn x.c)) d oe → (∃ vs, oe.data = .fields vs) → PSs (c.X.suite a ((a, oe) :: pn)) (b₀ :: suite) (tS (c.su ((a, oe) :: pn) 1000000 x a d) kp (evSs { c.G with xc := some (1000000, x) } b)))
      (r : Hds c kp hds hs) : Hds c kp (.ExceptHandler (some (.Name x np)) none (b₀ :: suite) hp :: hds) ((k, none, b) :: hs)
  | named {k i : Nat} {x n : Str} {b₀ : Stmt} {suite : List Stmt} {np hp : Pos} {b : List S} {hds : List ExceptHandler} {hs : List (Nat × Option Nat × List S)} (hc : Names c.X x (.ref (c.S.cn k))) (hk : k ∈ c.G.xl) (hi : c.X.N[i]? = some n) (hln : c.X.env.kindOf n = some .local) (hlv : c.lv i = none)
      (hsu : ∀ (x : VE.X) (a : Addr) (d : Option Addr) (oe : Obj) (pn : List (Addr × Obj)), x.c ∈ c.G.xl → Zc (.ref (c.S.cn x.c)) d oe → (∃ vs, oe.data = .fields vs) → PSs (c.X.suite a ((a, oe) :: pn)) (b₀ :: suite) (tS (c.su ((a, oe) :: pn) i x a d) kp (evSs { c.G with xc := some (i, x) } b)))
      (r : Hds c kp hds hs) : Hds c kp (.ExceptHandler (some (.Name x np)) (some n) (b₀ :: suite) hp :: hds) ((k, some i, b) :: hs)
/-- a suite's reading, from what was caught -/
def tsX (c : Cc) (kp : Nat → Prop) (i : Nat) (b : List S) : VX.TsX := fun a cls d D σ H => ∃ (x : VE.X), cls = .ref (c.S.cn x.c) ∧ x.c ∈ c.G.xl ∧ ∀ pn, tS (c.su pn i x a d) kp (evSs { c.G with xc := some (i, x) } b) D σ H
def tsL (c : Cc) (kp : Nat → Prop) : List (Nat × Option Nat × List S) → List (Value × Option Nat × VX.TsX)
  | [] => []
  | (k, none, b) :: r => (.ref (c.S.cn k), none, tsX c kp 1000000 b) :: tsL c kp r
  | (k, some i, b) :: r => (.ref (c.S.cn k), some i, tsX c kp i b) :: tsL c kp r
theorem Hds.hs {hds : List ExceptHandler} {hs : List (Nat × Option Nat × List S)} (h : Hds c kp hds hs) : VX.Hs c.X hds (tsL c kp hs) := by
  have suite : ∀ {b₀ : Stmt} {suite : List Stmt} {i : Nat} {b : List S}, (∀ (x : VE.X) (a : Addr) (d : Option Addr) (oe : Obj) (pn : List (Addr × Obj)), x.c ∈ c.G.xl → Zc (.ref (c.S.cn x.c)) d oe → (∃ vs, oe.data = .fields vs) → PSs (c.X.suite a ((a, oe) :: pn)) (b₀ :: suite) (tS (c.su ((a, oe) :: pn) i x a d) kp (evSs { c.G with xc := some (i, x) } b))) →
      ∀ (a : Addr) (oe : Obj) (cls : Value) (d : Option Addr) (pn : List (Addr × Obj)), Zc cls d oe → (∃ vs, oe.data = .fields vs) → PSs (c.X.suite a ((a, oe) :: pn)) (b₀ :: suite) (tsX c kp i b a cls d) := fun hsu a oe cls d pn hz hf => ⟨fun pins s σ H D I ⟨x, e1, e2, q⟩ => by
        subst e1
        exact (hsu x a d oe pn e2 hz hf).run pins s σ H D I (q _)⟩
  induction h with
  | nil => exact .nil
  | only hc hk hsu _ ih => exact .only hc (suite hsu) ih
  | named hc hk hi hln hlv hsu _ ih => exact .named hc hi hln (suite hsu) ih
theorem catch_ok (fxx : FX c.S c.G.xl) (hK : c.S.K = c.X.K) (hxc : c.G.xc = none) (hkp : ∀ i, i < c.n → ¬ kp i) {tl' : Ld} {F' : Fz} {H' : Hp} {σ' : L2.St} {d : Option Addr} {x : VE.X} (hx : x.c ∈ c.G.xl) (s : Sim c F' tl' σ' H') (st : Stp c.n (fun _ => False) tl tl') (hex : ExcAt c.S F' H' x d) :
    ∀ {hds : List ExceptHandler} {hs : List (Nat × Option Nat × List S)}, Hds c kp hds hs → c.n ≤ 1000000 → RunS c kp tl (evH c.G x hs (era c.n tl')) D → VX.wHs c.X.K c.W D (tsL c kp hs) (.ref (c.S.cn x.c)) d σ' H' := by
  intro hds hs hh hbig
  induction hh with
  | nil =>
    intro r
    unfold evH at r
    exact r F' H' tl' σ' d s st rfl hex
  | @only k xn b₀ suite np hp b hds hs hc hk hsu _ ih =>
    intro r
    unfold evH at r
    refine ⟨subC x.c k, by rw [← hK]; exact fxx.exm _ hx _ hk, fun hb a ha => ?_, fun hb => ?_⟩
    · rw [if_pos hb] at r
      have nb : ¬ 1000000 < c.n := by omega
      refine ⟨x, rfl, hx, fun pn => ⟨F', tl', s.toSu0 hex nb, ?_⟩⟩
      have r : RunS c kp tl (unbind none (evSs { c.G with xc := some (1000000, x) } b (era c.n tl'))) D := r
      show RunS (c.su pn 1000000 x a d) kp tl' (evSs { c.G with xc := some (1000000, x) } b (era c.n tl')) D
      cases e : evSs { c.G with xc := some (1000000, x) } b (era c.n tl') with
      | nx env => rw [e] at r; exact fun F2 H2 tl2 σ2 s2 st2 e2 => r F2 H2 tl2 σ2 (s2.ofSu0 hxc nb) (Stp.any hkp (st.trans (kp := fun _ => False) st2 fun _ z => z.elim)) e2
      | ret o env => rw [e] at r; exact fun F2 H2 tl2 σ2 j t s2 st2 e2 hj ht ho => r F2 H2 tl2 σ2 j t (s2.ofSu0 hxc nb) (Stp.any hkp (st.trans (kp := fun _ => False) st2 fun _ z => z.elim)) e2 (Nat.le_trans st.len hj) ht ho
      | brk env => rw [e] at r; exact fun F2 H2 tl2 σ2 s2 st2 e2 => r F2 H2 tl2 σ2 (s2.ofSu0 hxc nb) (Stp.any hkp (st.trans (kp := fun _ => False) st2 fun _ z => z.elim)) e2
      | cont env => rw [e] at r; exact fun F2 H2 tl2 σ2 s2 st2 e2 => r F2 H2 tl2 σ2 (s2.ofSu0 hxc nb) (Stp.any hkp (st.trans (kp := fun _ => False) st2 fun _ z => z.elim)) e2
      | exc y env => rw [e] at r; exact r.elim
      | bad => rw [e] at r; exact r.elim
    · rw [if_neg (by rw [hb]; simp)] at r
      exact ih r
  | @named k i xn n b₀ suite np hp b hds hs hc hk hi hln hlv hsu _ ih =>
    intro r
    unfold evH at r
    have hin : i < c.n := (List.getElem?_eq_some_iff.mp hi).1
    refine ⟨subC x.c k, by rw [← hK]; exact fxx.exm _ hx _ hk, fun hb a ha => ?_, fun hb => ?_⟩
    · rw [if_pos hb] at r
      refine ⟨x, rfl, hx, fun pn => ⟨F', _, s.toSu hex hin, ?_⟩⟩
      have r : RunS c kp tl (unbind (some i) (evSs { c.G with xc := some (i, x) } b (setS (era c.n tl') i (.v .exn)))) D := r
      have ee : era c.n (tl'.set i (some (T.val .exn (.ref a)))) = setS (era c.n tl') i (.v .exn) := by rw [era_set']; rfl
      have st1 : Stp c.n (fun _ => False) tl (tl'.set i (some (T.val .exn (.ref a)))) := st.trans (Stp.set (kp := fun _ => False) hin fun _ z => z.elim) fun _ z => z.elim
      have back : ∀ {tl2 : Ld}, Stp c.n kp (tl'.set i (some (T.val .exn (.ref a)))) tl2 → Stp c.n kp tl (tl2.set i none) := fun st2 => Stp.any hkp ((st1.trans (kp := fun _ => False) st2 fun _ z => z.elim).trans (kp := fun _ => False) (Stp.set (kp := fun _ => False) hin fun _ z => z.elim) fun _ z => z.elim)
      have e3 : ∀ {tl2 : Ld} {env : VE.Env}, era c.n tl2 = env → era c.n (tl2.set i none) = env.set i none := fun e => by rw [era_set', e]; rfl
      show RunS (c.su pn i x a d) kp (tl'.set i (some (T.val .exn (.ref a)))) (evSs { c.G with xc := some (i, x) } b (era c.n (tl'.set i (some (T.val .exn (.ref a)))))) (VX.ungo D i)
      rw [ee]
      cases e : evSs { c.G with xc := some (i, x) } b (setS (era c.n tl') i (.v .exn)) with
      | nx env => rw [e] at r; exact fun F2 H2 tl2 σ2 s2 st2 e2 => r F2 H2 _ _ (s2.ofSu hxc hlv) (back st2) (e3 e2)
      | ret o env =>
        rw [e] at r
        intro F2 H2 tl2 σ2 j t s2 st2 e2 hj ht ho
        have hj : (tl'.set i (some (T.val .exn (.ref a)))).length ≤ j := hj
        rw [List.length_set] at hj
        have hl := s.len
        exact r F2 H2 _ _ j t (s2.ofSu hxc hlv) (back st2) (e3 e2) (Nat.le_trans st.len hj) (by rw [List.getElem?_set_ne (by omega)]; exact ht) ho
      | brk env => rw [e] at r; exact fun F2 H2 tl2 σ2 s2 st2 e2 => r F2 H2 _ _ (s2.ofSu hxc hlv) (back st2) (e3 e2)
      | cont env => rw [e] at r; exact fun F2 H2 tl2 σ2 s2 st2 e2 => r F2 H2 _ _ (s2.ofSu hxc hlv) (back st2) (e3 e2)
      | exc y env => rw [e] at r; exact r.elim
      | bad => rw [e] at r; exact r.elim
    · rw [if_neg (by rw [hb]; simp)] at r
      exact ih r
theorem s_try {body : List Stmt} {h₀ : ExceptHandler} {hds : List ExceptHandler} {mb : List S} {hs : List (Nat × Option Nat × List S)} {pos : Pos} (fx : Fx c) (fxx : FX c.S c.G.xl) (hxc : c.G.xc = none) (hkp : ∀ i, i < c.n → ¬ kp i) (hbig : c.n ≤ 1000000) (hstk : c.X.stack = c.X.env :: c.X.outer) (hfr : c.X.env.frame = some c.X.env.locals)
    (hb : ∀ (W : WX) (pn : List (Addr × Obj)) (xe : Value → Shared → Prop), Takes (c.X.tr pn xe) W → PassesOwn (model c.X.prog c.X.w) c.X.A c.X.env xe → PSs (c.X.tr pn xe) body (tS (c.tr pn xe W) kp (evSs c.G mb))) (hh : Hds c kp (h₀ :: hds) hs) : PS c.X (.Try body (h₀ :: hds) [] [] pos) (tS c kp (evS c.G (.tryS mb hs))) := by
  -- the body's reading does not see pins and wishes but by W
  have base := VX.ps_try_hs (pos := pos) (tb := fun W D σ H => ∀ pn xe, tS (c.tr pn xe W) kp (evSs c.G mb) D σ H) hstk hfr fx.nn fx.tk (fun W pn xe tk po => ⟨fun pins s σ H D I q => (hb W pn xe tk po).run pins s σ H D I (q pn xe)⟩) hh.hs
  refine PS.imp base fun D σ H ⟨F, tl, s, r⟩ pn xe => ⟨F, tl, s.toTr, ?_⟩
  unfold evS at r
  show RunS (c.tr pn xe _) kp tl (evSs c.G mb (era c.n tl)) D
  cases e : evSs c.G mb (era c.n tl) with
  | nx env => rw [e] at r; exact fun F2 H2 tl2 σ2 s2 st2 e2 => r F2 H2 tl2 σ2 s2.ofTr st2 e2
  | ret o env => rw [e] at r; exact fun F2 H2 tl2 σ2 j t s2 st2 e2 => r F2 H2 tl2 σ2 j t s2.ofTr st2 e2
  | brk env => rw [e] at r; exact fun F2 H2 tl2 σ2 s2 st2 e2 => r F2 H2 tl2 σ2 s2.ofTr st2 e2
  | cont env => rw [e] at r; exact fun F2 H2 tl2 σ2 s2 st2 e2 => r F2 H2 tl2 σ2 s2.ofTr st2 e2
  | bad => rw [e] at r; exact r
  | exc x env =>
    rw [e] at r
    have r : RunS c kp tl (if c.G.xl.contains x.c then evH c.G x hs env else .bad) D := r
    split at r
    · rename_i hx
      have hx : x.c ∈ c.G.xl := by simpa using hx
      intro F2 H2 tl2 σ2 d s2 st2 e2 hex
      have e2 : era c.n tl2 = env := e2
      rw [← e2] at r
      exact catch_ok fxx fx.hK hxc hkp hx s2.ofTr st2 hex hh hbig r
    · exact r.elim
end
end VE

namespace VE
open PySem PySem.Spec
                     PyProof.Rows L2

def isSetE : Expr → Bool
  | .Set _ _ _ => true
  | _ => false
theorem noMark {op : CmpOp} {b : Expr} (h : isSetE b = false) : behindInMarks op b = false := by cases b <;> first | rfl | cases h
section
variable {c : Cc} {kp kpa kpb : Nat → Prop} {a b : Expr} {ma mb : E} {pos : Pos}
abbrev OB (c : Cc) (kp : Nat → Prop) (a : Expr) (ma : E) : Prop := PE c.X a (tB c kp (plS ma) (bB c ma))
def binP : Operator → B2 → Bool
  | .Add, .add => true
  | .Add, .addS => true
  | .Add, .catL => true
  | .Add, .catT => true
  | .Sub, .sub => true
  | .Mult, .mul => true
  | .FloorDiv, .div => true
  | .Mod, .mod => true
  | .Pow, .pow => true
  | .LShift, .shl => true
  | _, _ => false
theorem bin_ok (hK : c.S.K = c.X.K) {op : Operator} {o : B2} (h : binP op o = true) : ∃ r, OpR c.X (binaryOp op) r ∧ Op2 c o r ∧ ∀ d, pre o d = true := by
  unfold binP at h
  split at h
  · exact ⟨_, op_add, o_add, fun d => by cases d <;> rfl⟩
  · exact ⟨_, op_add_str, o_addS, fun d => by cases d <;> rfl⟩
  · exact ⟨_, op_catS, o_catL hK, fun d => by cases d <;> rfl⟩
  · exact ⟨_, op_catT, o_catT hK, fun d => by cases d <;> rfl⟩
  · exact ⟨_, op_sub, o_sub, fun d => by cases d <;> rfl⟩
  · exact ⟨_, op_mulA, o_mul, fun d => by cases d <;> rfl⟩
  · exact ⟨_, op_divA, o_div, fun d => by cases d <;> rfl⟩
  · exact ⟨_, op_mod, o_mod, fun d => by cases d <;> rfl⟩
  · exact ⟨_, op_pow, o_pow, fun d => by cases d <;> rfl⟩
  · exact ⟨_, op_shl, o_shl, fun d => by cases d <;> rfl⟩
  · cases h
theorem n_bin (hK : c.S.K = c.X.K) {op : Operator} {os : List B2} (h : os.all (binP op) = true) (hn : os ≠ []) (ha : OB c kpa a ma) (hb : OB c kpb b mb) (k1 : ∀ i, kp i → kpa i) (k2 : ∀ i, kp i → kpb i) (hp : ∀ i, plS ma = some i → kpb i) : PE c.X (.BinOp a op b pos) (tE c kp (evO c.G (.bd os ma mb))) := by
  refine s_bd hn (fun o ho => ?_) fun o ho => ?_
  · obtain ⟨r, h1, h2, h3⟩ := bin_ok hK (List.all_eq_true.mp h o ho); exact h3
  · obtain ⟨r, h1, h2, h3⟩ := bin_ok hK (List.all_eq_true.mp h o ho)
    exact s_op2 h2 h3 ha hb (fun p q => pe_op h1 p q) k1 k2 hp
def cmpP : CmpOp → B2 → Bool
  | .Lt, .lt => true
  | .LtE, .le => true
  | .Gt, .gt => true
  | .GtE, .ge => true
  | .Eq, .eq => true
  | .Eq, .eqK => true
  | .NotEq, .ne => true
  | .In, .inQ => true
  | .In, .inT => true
  | .In, .inS => true
  | .NotIn, .notInQ => true
  | .NotIn, .notInT => true
  | .NotIn, .notInS => true
  | _, _ => false
theorem cmp_ok (hK : c.S.K = c.X.K) (hu : c.X.A.units + 65 < cLine) {op : CmpOp} {o : B2} (h : cmpP op o = true) : ∃ r, OpR c.X (compareOp op) r ∧ Op2 c o r ∧ ∀ d, pre o d = true := by
  unfold cmpP at h
  split at h
  · exact ⟨_, op_lt, o_lt, fun d => by cases d <;> rfl⟩
  · exact ⟨_, op_le, o_le, fun d => by cases d <;> rfl⟩
  · exact ⟨_, op_gt, o_gt, fun d => by cases d <;> rfl⟩
  · exact ⟨_, op_ge, o_ge, fun d => by cases d <;> rfl⟩
  · exact ⟨_, op_eqD (by omega), o_eq hK, fun d => by cases d <;> rfl⟩
  · exact ⟨_, op_eq_dict (by omega), o_eqK, fun d => by cases d <;> rfl⟩
  · exact ⟨_, op_neD (by omega), o_ne hK, fun d => by cases d <;> rfl⟩
  · exact ⟨_, op_inD hu, o_inQ hK, fun d => by cases d <;> rfl⟩
  · exact ⟨_, op_in_seq, o_inT hK, fun d => by cases d <;> rfl⟩
  · exact ⟨_, op_in_str, o_inS, fun d => by cases d <;> rfl⟩
  · exact ⟨_, op_notInD hu, o_notInQ hK, fun d => by cases d <;> rfl⟩
  · exact ⟨_, op_notIn_seq, o_notInT hK, fun d => by cases d <;> rfl⟩
  · exact ⟨_, op_notIn_str, o_notInS, fun d => by cases d <;> rfl⟩
  · cases h
/-- in, not in of a dict -/
def cmpK : CmpOp → B2 → Bool
  | .In, .inK => true
  | .NotIn, .notInK => true
  | _, _ => false
theorem n_cmp1 (hK : c.S.K = c.X.K) (hu : c.X.A.units + 65 < cLine) {op : CmpOp} {o : B2} (h : (cmpP op o || cmpK op o) = true) (hs : isSetE b = false) (ha : OB c kpa a ma) (hb : OB c kpb b mb) (k1 : ∀ i, kp i → kpa i) (k2 : ∀ i, kp i → kpb i) (hp : ∀ i, plS ma = some i → kpb i) : PE c.X (.Compare a [op] [b] pos) (tE c kp (evO c.G (.b2 o ma mb))) := by
  rcases Bool.or_eq_true_iff.mp
                               h with h | h
  · obtain ⟨r, h1, h2, h3⟩ := cmp_ok hK hu h
    exact s_op2 h2 h3 ha hb (fun p q => pe_cmpR h1 p q (noMark hs)) k1 k2 hp
  · unfold cmpK at h
    split at h
    · exact s_op2 o_inK (fun d => by cases d <;> rfl) ha hb (fun p q => pe_cmp (pc_din (by omega) p q) (noMark hs)) k1 k2 hp
    · exact s_op2 o_notInK (fun d => by cases d <;> rfl) ha hb (fun p q => pe_cmp (pc_dnotin (by omega) p q) (noMark hs)) k1 k2 hp
    · cases h
theorem pre_cmp {op : CmpOp} {o : B2} (h : (cmpP op o || cmpK op o) = true) : ∀ d, pre o d = true := by
  intro d
  rcases Bool.or_eq_true_iff.mp
                               h with h | h
  · unfold cmpP at h
    split at h <;> first | (cases d <;> rfl) | cases h
  · unfold cmpK at h
    split at h <;> first | (cases d <;> rfl) | cases h
theorem n_cmp (hK : c.S.K = c.X.K) (hu : c.X.A.units + 65 < cLine) {op : CmpOp} {os : List B2} (h : os.all (fun o => cmpP op o || cmpK op o) = true) (hn : os ≠ []) (hs : isSetE b = false) (ha : OB c kpa a ma) (hb : OB c kpb b mb) (k1 : ∀ i, kp i → kpa i) (k2 : ∀ i, kp i → kpb i) (hp : ∀ i, plS ma = some i → kpb i) : Snd c kp (.Compare a [op] [b] pos) (.bd os ma mb) :=
  Snd.cmp (s_bd hn (fun o ho => pre_cmp (List.all_eq_true.mp h o ho)) fun o ho => n_cmp1 hK hu (List.all_eq_true.mp h o ho) hs ha hb k1 k2 hp)
theorem n_chain (hK : c.S.K = c.X.K) (hu : c.X.A.units + 65 < cLine) {op op' : CmpOp} {o o' : B2} {k3 : Expr} {mc : E} {kpc : Nat → Prop} (h : cmpP op o = true) (h' : cmpP op' o' = true) (hs : isSetE k3 = false) (ha : OB c kpa a ma) (hb : OB c kpb b mb) (hc : OB c kpc k3 mc)
    (k1 : ∀ i, kp i → kpa i) (k2 : ∀ i, kp i → kpb i) (k4 : ∀ i, kp i → kpc i) (p1 : ∀ i, plS ma = some i → kpb i) (p2 : ∀ i, plS mb = some i → kpc i) : Snd c kp (.Compare a [op, op'] [b, k3] pos) (.chain o o' ma mb mc) := by
  obtain ⟨r, h1, h2, _⟩ := cmp_ok hK hu h
  obtain ⟨r', h1', h2', _⟩ := cmp_ok hK hu h'
  exact s_chain h2 h2' h1 h1' ha hb hc (noMark hs) k1 k2 k4 p1 p2
theorem noSlc {i : Expr} (h : isSlc i = false) : NoSl i := fun ov iv => by cases i <;> first | rfl | cases h
theorem plainIx {i : Expr} (h : isSlc i = false) : PlainIx i := fun ov iv => by cases i <;> first | rfl | cases h
def ixP : B2 → Bool
  | .ix => true
  | .ixS => true
  | .ixK => true
  | _ => false
theorem n_ix (hK : c.S.K = c.X.K) (hu : c.X.A.units + 65 < cLine) {os : List B2} (h : os.all ixP = true) (hn : os ≠ []) (hs : isSlc b = false) (ha : OB c kpa a ma) (hb : OB c kpb b mb) (k1 : ∀ i, kp i → kpa i) (k2 : ∀ i, kp i → kpb i) (hp : ∀ i, plS ma = some i → kpb i) : PE c.X (.Subscript a b pos) (tE c kp (evO c.G (.bd os ma mb))) := by
  refine s_bd hn (fun o ho d => ?_) fun o ho => ?_
  · have := List.all_eq_true.mp h o ho
    cases o <;> first | (cases d <;> rfl) | cases this
  · have := List.all_eq_true.mp h o ho
    cases o <;> first | (cases this; done) | skip
    · exact s_op2 (o_ix hK) (fun d => by cases d <;> rfl) ha hb (fun p q => pe_ix ix_seq p q (plainIx hs)) k1 k2 hp
    · exact s_op2 o_ixS (fun d => by cases d <;> rfl) ha hb (fun p q => pe_ix ix_seq p q (plainIx hs)) k1 k2 hp
    · exact s_op2 o_ixK (fun d => by cases d <;> rfl) ha hb (fun p q => pe_dget (by omega) p q (noSlc hs)) k1 k2 hp
end
end VE

namespace VE
open PySem PySem.Spec
                     PyProof.Rows L2
section
variable {c : Cc} {kp kpa kpb : Nat → Prop} {a b : Expr} {ma mb : E} {p pos apos : Pos}
/-- the built-ins called by their names -/
def b1N : B1 → Option Str
  | .len => some "len"
  | .sum => some "sum"
  | .all => some "all"
  | .any => some "any"
  | .int => some "int"
  | .str => some "str"
  | .sortS => some "sorted"
  | .tupL => some "tuple"
  | .lstL => some "list"
  | .dctC => some "dict"
  | .abs => some "abs"
  | .maxL => some "max"
  | .minL => some "min"
  | _ => none
theorem n_b1 (hK : c.S.K = c.X.K) (hcalm : c.X.calm = true) {o : B1} {x : Str} (h : b1N o = some x) (hg : Gl c.X x) (hm : c.X.mg x = none) (hs : isStar a = false) (ha : OB c kp a ma) : PE c.X (.Call (.Name x p) [a] [] pos) (tE c kp (evO c.G (.b1 o ma))) := by
  have pl : (backTo pos (starEach ([] : List Expr) c.X.env)).any (·.1) = false := rfl
  cases o <;> first | (cases h; done) | skip
  · cases h; exact s_op1 (o_len hK) ha fun h => pe_callB cr_len hg hm (by decide +kernel) (pa_cons h pa_nil (noStar hs)) (by decide) (by decide) (noStar hs) pl
  · cases h; exact s_op1 (o_sum hK) ha fun h => pe_callB (cr_sum hcalm) hg hm (by decide +kernel) (pa_cons h pa_nil (noStar hs)) (by decide) (by decide) (noStar hs) pl
  · cases h; exact s_op1 (o_all hK) ha fun h => pe_callB (cr_all hcalm) hg hm (by decide +kernel) (pa_cons h pa_nil (noStar hs)) (by decide) (by decide) (noStar hs) pl
  · cases h; exact s_op1 (o_any hK) ha fun h => pe_callB (cr_any hcalm) hg hm (by decide +kernel) (pa_cons h pa_nil (noStar hs)) (by decide) (by decide) (noStar hs) pl
  · cases h; exact s_op1 o_intA ha fun h => pe_callTy cr_int hg hm (by decide +kernel) (pa_cons h pa_nil (noStar hs)) (by decide) (by decide) (noStar hs) pl
  · cases h; exact s_op1 o_strA ha fun h => pe_callTy cr_str hg hm (by decide +kernel) (pa_cons h pa_nil (noStar hs)) (by decide) (by decide) (noStar hs) pl
  · cases h; exact s_op1 (o_sortS hK) ha fun h => pe_callB cr_sortedS hg hm (by decide +kernel) (pa_cons h pa_nil (noStar hs)) (by decide) (by decide) (noStar hs) pl
  · cases h; exact s_op1 (o_tupL hK) ha fun h => pe_callTy call_tuple_of hg hm (by decide +kernel) (pa_cons h pa_nil (noStar hs)) (by decide) (by decide) (noStar hs) pl
  · cases h; exact s_op1 (o_lstL hK) ha fun h => pe_callTy call_list_of hg hm (by decide +kernel) (pa_cons h pa_nil (noStar hs)) (by decide) (by decide) (noStar hs) pl
  · cases h; exact s_op1 o_dctC ha fun h => pe_callTy call_dictD hg hm (by decide +kernel) (pa_cons h pa_nil (noStar hs)) (by decide) (by decide) (noStar hs) pl
  · cases h; exact s_op1 o_abs ha fun h => pe_callB call_abs hg hm (by decide +kernel) (pa_cons h pa_nil (noStar hs)) (by decide) (by decide) (noStar hs) pl
  · cases h; exact s_op1 (o_maxL hK) ha fun h => pe_callB (cr_max hcalm) hg hm (by decide +kernel) (pa_cons h pa_nil (noStar hs)) (by decide) (by decide) (noStar hs) pl
  · cases h; exact s_op1 (o_minL hK) ha fun h => pe_callB (cr_min hcalm) hg hm (by decide +kernel) (pa_cons h pa_nil (noStar hs)) (by decide) (by decide) (noStar hs) pl
/-- x is None, x is True, .. -/
def isP (ng : Bool) : Const → B1 → Bool
  | .none, .isN => !ng
  | .none, .notN => ng
  | .bool true, .isT => !ng
  | .bool false, .isF => !ng
  | .bool true, .notT => ng
  | .bool false, .notF => ng
  | _, _ => false
theorem un_of {e : Expr} {o : B1} {r : V → Hp → VK → Prop} {f : Value → Value → Sem Value} {r2 : R2} {v : V} (ho : Op1 c o r) (ha : OB c kp a ma) (h2 : ∀ x H Q, r x H Q → r2 x v H Q) (mk : ∀ {ta : TE}, PE c.X a ta → PE c.X e (tOp r2 ta (tC v))) : PE c.X e (tE c kp (evO c.G (.b1 o ma))) :=
  s_op1 (r := fun x H Q => r2 x v H Q) (fun kp σ tl F H d rf x res Q s h1 h3 q => h2 _ _ _ (ho kp σ tl F H d rf x res Q s h1 h3 q)) ha fun h => mk h
theorem n_is {ng : Bool} {k : Const} {o : B1} {z : Nat} {cp : Pos} (h : isP ng k o = true) (ha : OB c kp a ma) : Snd c kp (.Compare a [if ng then .IsNot else .Is] [.Constant k z cp] pos) (.b1 o ma) := by
  refine Snd.cmp ?_
  unfold isP at h
  split at h
  · cases ng with
    | true => cases h
    | false => exact un_of (f := compareOp .Is) o_isN ha (fun x H Q q => ⟨rfl, q⟩) fun h => pe_cmpR op_isN h pe_non (noMark rfl)
  · cases ng with
    | false => cases h
    | true => exact un_of (f := compareOp .Is) o_notN ha (fun x H Q q => ⟨rfl, q⟩) fun h => pe_cmpR op_notN h pe_non (noMark rfl)
  · cases ng with
    | true => cases h
    | false => exact un_of (f := compareOp .Is) o_isT ha (fun x H Q q => q) fun h => pe_cmpR op_isBl h pe_bl (noMark rfl)
  · cases ng with
    | true => cases h
    | false => exact un_of (f := compareOp .Is) o_isF ha (fun x H Q q => q) fun h => pe_cmpR op_isBl h pe_bl (noMark rfl)
  · cases ng with
    | false => cases h
    | true => exact un_of (f := compareOp .Is) o_notT ha (fun x H Q q => q) fun h => pe_cmpR op_notBl h pe_bl (noMark rfl)
  · cases ng with
    | false => cases h
    | true => exact un_of (f := compareOp .Is) o_notF ha (fun x H Q q => q) fun h => pe_cmpR op_notBl h pe_bl (noMark rfl)
  · cases h
/-- isinstance(x, T) of a built-in type; of an own class -/
theorem n_isi {x : Str} {t : Ty} {pc : Pos} (fx : Fx c) (fi : FI c.S) (hx : x = t.nm) (hg : Gl c.X "isinstance") (hm : c.X.mg "isinstance" = none) (hgt : Gl c.X x) (hmt : c.X.mg x = none) (hs : isStar a = false) (ha : OB c kp a ma) : PE c.X (.Call (.Name "isinstance" p) [a, .Name x pc] [] pos) (tE c kp (evO c.G (.b1 (.isi t) ma))) := by
  have hb : PE c.X (.Name x pc) (tC (.ty t.nm)) := by
    subst hx
    cases t <;> exact pe_bltn hgt hmt (by decide +kernel) rfl (by decide) (by decide)
  exact s_op1 (o_isi fx.hK fx.fc fi t) ha fun h => pe_callB call_isi hg hm (by decide +kernel) (pa_cons h (pa_cons hb pa_nil (noStar rfl)) (noStar hs)) (by decide) (by decide) (noStar hs) rfl
theorem n_isC {x : Str} {k : Nat} {pc : Pos} (fx : Fx c) (fi : FI c.S) (hk : k ∈ c.S.cl) (hg : Gl c.X "isinstance") (hm : c.X.mg "isinstance" = none) (hgt : Gl c.X x) (hmt : c.X.mg x = some (.ref (c.S.cn k))) (hdb : (x == ("__debug__" : Str)) = false) (hs : isStar a = false) (ha : OB c kp a ma) : PE c.X (.Call (.Name "isinstance" p) [a, .Name x pc] [] pos) (tE c kp (evO c.G (.b1 (.isC k) ma))) :=
  s_op1 (o_isC fx.hK fx.fc fi k hk) ha fun h => pe_callB call_isi hg hm (by decide +kernel) (pa_cons h (pa_cons (pe_glob (v := .ref (c.S.cn k)) hgt hmt rfl hdb) pa_nil (noStar rfl)) (noStar hs)) (by decide) (by decide) (noStar hs) rfl
theorem n_join (hK : c.S.K = c.X.K) (h0 : isSup a = false) (hs : isStar b = false) (hl : (apos.endLine == pos.line) = true) (ha : OB c kpa a ma) (hb : OB c kpb b mb) (k1 : ∀ i, kp i → kpa i) (k2 : ∀ i, kp i → kpb i) (hp : ∀ i, plS ma = some i → kpb i) : PE c.X (.Call (.Attribute a "join" apos) [b] [] pos) (tE c kp (evO c.G (.b2 .join ma mb))) :=
  s_op2P (p := fun x _ => ∃ a, x = .str a) (o_join hK) (pre_str fun d h => by cases d <;> first | exact ⟨_, rfl⟩ | cases h) ha hb (fun p q => pe_join p q (noStar hs) (noSup h0) hl) k1 k2 hp
theorem n_split (h0 : isSup a = false) (hs : isStar b = false) (hl : (apos.endLine == pos.line) = true) (ha : OB c kpa a ma) (hb : OB c kpb b mb) (k1 : ∀ i, kp i → kpa i) (k2 : ∀ i, kp i → kpb i) (hp : ∀ i, plS ma = some i → kpb i) : PE c.X (.Call (.Attribute a "split" apos) [b] [] pos) (tE c kp (evO c.G (.b2 .split ma mb))) :=
  s_op2P (p := fun x _ => ∃ a, x = .str a) o_split (pre_str fun d h => by cases d <;> first | exact ⟨_, rfl⟩ | cases h) ha hb (fun p q => pe_split p q (noStar hs) (noSup h0) hl) k1 k2 hp
theorem n_part (h0 : isSup a = false) (hs : isStar b = false) (hl : (apos.endLine == pos.line) = true) (ha : OB c kpa a ma) (hb : OB c kpb b mb) (k1 : ∀ i, kp i → kpa i) (k2 : ∀ i, kp i → kpb i) (hp : ∀ i, plS ma = some i → kpb i) : PE c.X (.Call (.Attribute a "partition" apos) [b] [] pos) (tE c kp (evO c.G (.b2 .part ma mb))) :=
  s_op2P (p := fun x _ => ∃ a, x = .str a) o_part (pre_str fun d h => by cases d <;> first | exact ⟨_, rfl⟩ | cases h) ha hb (fun p q => pe_partition p q (noStar hs) (noSup h0) hl) k1 k2 hp
theorem n_index (hK : c.S.K = c.X.K) (hu : c.X.A.units + 65 < cLine) (h0 : isSup a = false) (hs : isStar b = false) (hl : (apos.endLine == pos.line) = true) (ha : OB c kpa a ma) (hb : OB c kpb b mb) (k1 : ∀ i, kp i → kpa i) (k2 : ∀ i, kp i → kpb i) (hp : ∀ i, plS ma = some i → kpb i) : PE c.X (.Call (.Attribute a "index" apos) [b] [] pos) (tE c kp (evO c.G (.b2 .index ma mb))) := by
  have few : ((backTo pos (starEach [b] c.X.env)).all (fun x => !x.1) && (backToKw pos (keywordEach [] c.X.env)).all (fun x => x.1.isSome) && decide (([b] : List Expr).length + ([] : List Keyword).length + (if ([] : List Keyword).isEmpty then 0 else 1) < 30)) = true := by
    rw [noStar hs]; rfl
  exact s_op2P (o_index hK) (pre_index hK) ha hb (fun p q => pe_bm F.plainAttrs_list F.slot_list_index F.type_list_index (mt_indexD hu) p (pa_cons q pa_nil (noStar hs)) (noSup h0) few hl (noStar hs) rfl) k1 k2 hp
theorem n_max2 (hcalm : c.X.calm = true) (hg : Gl c.X "max") (hm : c.X.mg "max" = none) (hs : isStar a = false) (hs2 : isStar b = false) (ha : OB c kpa a ma) (hb : OB c kpb b mb) (k1 : ∀ i, kp i → kpa i) (k2 : ∀ i, kp i → kpb i) (hp : ∀ i, plS ma = some i → kpb i) : PE c.X (.Call (.Name "max" p) [a, b] [] pos) (tE c kp (evO c.G (.b2 .max2 ma mb))) :=
  s_op2 o_max2 (fun d => by cases d <;> rfl) ha hb (fun p q => pe_callB (call_max2 hcalm) hg hm (by decide +kernel) (pa_cons p (pa_cons q pa_nil (noStar hs2)) (noStar hs)) (by decide) (by decide) (noStar hs) (plain_back (by rw [List.all_cons, hs2]; rfl))) k1 k2 hp
theorem n_min2 (hcalm : c.X.calm = true) (hg : Gl c.X "min") (hm : c.X.mg "min" = none) (hs : isStar a = false) (hs2 : isStar b = false) (ha : OB c kpa a ma) (hb : OB c kpb b mb) (k1 : ∀ i, kp i → kpa i) (k2 : ∀ i, kp i → kpb i) (hp : ∀ i, plS ma = some i → kpb i) : PE c.X (.Call (.Name "min" p) [a, b] [] pos) (tE c kp (evO c.G (.b2 .min2 ma mb))) :=
  s_op2 o_min2 (fun d => by cases d <;> rfl) ha hb (fun p q => pe_callB (call_min2 hcalm) hg hm (by decide +kernel) (pa_cons p (pa_cons q pa_nil (noStar hs2)) (noStar hs)) (by decide) (by decide) (noStar hs) (plain_back (by rw [List.all_cons, hs2]; rfl))) k1 k2 hp
end
end VE

namespace VE
open PySem PySem.Spec
                     PyProof.Rows L2
section
variable {c : Cc} {kp kpa kpb : Nat → Prop}
theorem PI.cases {X : Cx} {tg e : Expr} {t : TI} (i : ∀ σ H R, t σ H R → ∃ t', PI X tg e t' ∧ t' σ H R) : PI X tg e t := ⟨fun pins s σ H R I q => by
  obtain ⟨t', p, z⟩ := i σ H R q
  exact p.run pins s σ H R I z⟩
theorem i_dyn {a : Expr} {ma : E} {tg : Expr} (fx : Fx c) (ha : OB c kpa a ma) (k1 : ∀ i, kp i → kpa i) (hp : ∀ i, plS ma = some i → kpb i) : PI c.X tg a (tI c kp kpb .dyn (evBs c.G [ma])) := by
  refine PI.cases fun σ H R ⟨F, tl, s, r⟩ => ?_
  have same : ∀ ik : ItK, (∀ ds env, evBs c.G [ma] (era c.n tl) = .ok ds env → itD .dyn ds = itD ik ds ∨ itD .dyn ds = none) → tI c kp kpb ik (evBs c.G [ma]) σ H R := fun ik h => ⟨F, tl, s, by
    cases e : evBs c.G [ma] (era c.n tl) with
    | bad => rw [e] at r; exact r
    | exc x env => rw [e] at r; exact r
    | ok ds env =>
      rw [e] at r
      intro F1 H1 tl1 s1 st1 e1
      obtain ⟨xs, e2, q⟩ := r F1 H1 tl1 s1 st1 e1
      rcases h ds env e with z | z
      · exact ⟨xs, by rw [← z]; exact e2, q⟩
      · rw [z] at e2; cases e2⟩
  have lst : (∀ ds env, evBs c.G [ma] (era c.n tl) = .ok ds env → itD .dyn ds = itD .lst ds ∨ itD .dyn ds = none) → ∃ t', PI c.X tg a t' ∧ t' σ H R := fun h => ⟨_, i_lst fx ha k1 hp, same .lst h⟩
  cases e : evBs c.G [ma] (era c.n tl) with
  | bad => exact lst fun ds env h => by rw [e] at h; cases h
  | exc x env => exact lst fun ds env h => by rw [e] at h; cases h
  | ok ds env =>
    match ds, e with
    | [.tup xs], e => exact ⟨_, i_tup fx ha k1 hp, same .tup fun ds env h => by rw [e] at h; cases h; exact .inl rfl⟩
    | [.str z], e => exact ⟨_, i_str ha k1, same .str fun ds env h => by rw [e] at h; cases h; exact .inl rfl⟩
    | [.lst xs], e => exact lst fun ds env h => by rw [e] at h; cases h; exact .inl rfl
    | [.non], e | [.bl _], e | [.int _], e | [.dct _ _], e | [.obj _ _], e | [.glo _], e | [.exn], e | [], e => exact lst fun ds env h => by rw [e] at h; cases h; exact .inr rfl
    | d0 :: d1 :: dr, e => exact lst fun ds env h => by rw [e] at h; cases h; exact .inr (by cases d0 <;> rfl)
end

def pls : List E → List Nat
  | [] => []
  | .plc i :: es => i :: pls es
  | _ :: es => pls es
def lkP (ik : ItK) (its : List E) : List Nat := match ik with
  | .dct => pls its
  | _ => []
mutual
def tchE : E → List Nat
  | .var i => [i]
  | .mv i => [i]
  | .io i => [i]
  | .b1 _ a => tchE a
  | .b2 _ a b => tchE a ++ tchE b
  | .bd _ a b => tchE a ++ tchE b
  | .own _ _ _ _ _ a b => tchE a ++ tchE b
  | .ownc _ _ _ _ _ a b => tchE a ++ tchE b
  | .own1 _ _ a => tchE a
  | .chain _ _ a b c => tchE a ++ (tchE b ++ tchE c)
  | .and a b => tchE a ++ tchE b
  | .or a b => tchE a ++ tchE b
  | .ite a b c => tchE a ++ (tchE b ++ tchE c)
  | .slc a lo hi => tchE a ++ (tchO lo ++ tchO hi)
  | .fld a _ _ => tchE a
  | .tup es => tchEs es
  | .lst es => tchEs es
  | .dct _ es => tchEs es
  | .call _ _ es _ _ => tchEs es
  | .make _ _ es _ => tchEs es
  | .prop es _ _ => tchEs es
  | .has _ _ _ a i => i :: tchE a
  | .comp elt t ik its cond => tslots t ++ (tchE elt ++ (tchEs its ++ (tchO cond ++ lkP ik its)))
  | .pop i _ => [i]
  | .fst es => tchEs es
  | _ => []
def tchEs : List E → List Nat
  | [] => []
  | e :: es => tchE e ++ tchEs es
def tchO : Option E → List Nat
  | none => []
  | some e => tchE e
end
def noIte : E → Bool
  | .ite _ _ _ => false
  | _ => true

structure Shp where
  n : Nat
  ks : List Str
  dfl : List D
structure FnE where
  f : Nat
  x : Str
  sh : List Shp
structure MtE where
  c : Nat
  m : Str
  f : Nat
  sh : List Shp
structure MkE where
  c : Nat
  x : Str
  f : Nat
  sh : List Shp
structure PrE where
  c : Nat
  m : Str
  f : Nat
structure ExE where
  c : Nat
  x : Str
  ps : List Str
structure OpE where
  op : Operator
  c : Nat
  f : Nat
  rf : Nat
structure CpE where
  op : CmpOp
  c : Nat
  f : Nat
  rf : Nat
structure Tab where
  fn : List FnE
  mt : List MtE
  mks : List MkE
  pr : List PrE
  ex : List ExE
  xn : List (Nat × Str)
  op : List OpE
  cp : List CpE
  ng : List (Nat × Nat)
  hs : List (Nat × Nat)
  cl : List (Nat × Str)
  con : List (Str × D)
  bl : List Str
  fs : List (Nat × List Str)
/-- plain values alike -/
def beqD : D → D → Bool
  | .non, .non => true
  | .bl a, .bl b => a == b
  | .int a, .int b => decide (a = b)
  | .str a, .str b => a == b
  | .tup [], .tup [] => true
  | _, _ => false
theorem beqD_eq {a b : D} (h : beqD a b = true) : a = b := by
  unfold beqD at h
  split at h
  · rfl
  · rw [beq_iff_eq.mp h]
  · rw [of_decide_eq_true h]
  · rw [beq_iff_eq.mp h]
  · rfl
  · cases h
def beqDs : List D → List D → Bool
  | [], [] => true
  | a :: as, b :: bs => beqD a b && beqDs as bs
  | _, _ => false
theorem beqDs_eq : ∀ {a b : List D}, beqDs a b = true → a = b
  | [], [], _ => rfl
  | a :: as, b :: bs, h => by
    obtain ⟨h1, h2⟩ := Bool.and_eq_true_iff.mp h
    rw [beqD_eq h1, beqDs_eq h2]
  | [], _ :: _, h => by cases h
  | _ :: _, [], h => by cases h
end VE

namespace VE
open PySem PySem.Spec
                     PyProof.Rows L2

/-- where one stands: the tables, the def's names, the slot of what a suite holds -/
structure Gm where
  T : Tab
  N : List Str
  lk : List Bool
  np : Nat
  xs : Option Nat
def visB (sc : Scope) (x : Str) : Bool := match sc.names.lookup x with
  | some .local => true
  | some .cell => true
  | some .free => true
  | _ => false
def glB (sc : Scope) (x : Str) : Bool := sc.names.lookup x == some .globalImplicit
def noDb (x : Str) : Bool := !(x == ("__debug__" : Str))
section
variable (Γ : Gm) (sc : Scope)
def isNm (i : Nat) : Expr → Bool
  | .Name x _ => Γ.N[i]? == some x && visB sc x && noDb x && !(x == ("__classdict__" : Str))
  | _ => false
/-- a built-in's name -/
def isBl (x : Str) : Bool := glB sc x && Γ.T.bl.contains x
def conB : Expr → D → Bool
  | .Constant (.int i) _ _, .int j => decide (i = j)
  | .Constant (.str s) _ _, .str t => s == t
  | .Constant (.bool a) _ _, .bl b => a == b
  | .Constant .none _ _, .non => true
  | .UnaryOp .USub (.Constant (.int i) _ _) _, .int j => decide (j = -i)
  | .Name x _, d => glB sc x && noDb x && Γ.T.con.any fun p => p.1 == x && beqD p.2 d
  | _, _ => false
def fsOf (c : Nat) : List Str := (Γ.T.fs.lookup c).getD []
def isFl (i c f : Nat) : Expr → Bool
  | .Attribute o nm _ => isNm Γ sc i o && (fsOf Γ c)[f]? == some nm
  | _ => false
/-- an operand that is looked at -/
def chkB (r : Expr → E → Bool) (e : Expr) : E → Bool
  | .plc i => isNm Γ sc i e
  | .plcf i c f => isFl Γ sc i c f e
  | .io _ => false
  | m => r e m
/-- a later evaluation does not touch a place -/
def dj (a : E) (ts : List Nat) : Bool := match plS a with
  | some i => !ts.contains i
  | none => true
def notPl (m : E) : Bool := match m with
  | .plc _ => false
  | .plcf _ _ _ => false
  | .io _ => false
  | _ => true
def chkVs (r : Expr → E → Bool) : List Expr → List E → Bool
  | [], [] => true
  | e :: es, m :: ms => !isStar e && r e m && chkVs r es ms
  | _, _ => false
def chkA1 (r : Expr → E → Bool) (e : Expr) : E → Bool
  | .io i => isNm Γ sc i e
  | .plc _ => false
  | m => r e m
def chkAs (r : Expr → E → Bool) : List Expr → List E → Bool
  | [], [] => true
  | e :: es, m :: ms => !isStar e && chkA1 Γ sc r e m && chkAs r es ms
  | _, _ => false
def chkKs (r : Expr → E → Bool) : List Keyword → List Str → List E → Bool
  | [], [], [] => true
  | k :: kws, x :: ks, m :: ms => k.arg == some x && chkA1 Γ sc r k.value m && chkKs r kws ks ms
  | _, _, _ => false
def chkO (r : Expr → E → Bool) : Option Expr → Option E → Bool
  | none, none => true
  | some e, some m => r e m
  | _, _ => false
/-- the arguments of a call, against a shape -/
def chkC (r : Expr → E → Bool) (es : List Expr) (kws : List Keyword) (ms : List E) (dfl : List D) (s : Shp) : Bool :=
  decide (es.length = s.n) && beqDs s.dfl dfl && chkAs Γ sc r es (ms.take s.n) && chkKs Γ sc r kws s.ks (ms.drop s.n) && (!es.isEmpty || kws.isEmpty) && decide (es.length + kws.length < 29)
def noCl (i : Expr) : Bool := !isSlc i
/-- what a for, a comprehension walks -/
def chkI (r : Expr → E → Bool) (tg : Expr) (it : Expr) (ik : ItK) (its : List E) : Bool := match ik, its with
  | .dyn, [m] => chkB Γ sc r it m
  | .rng1, [m] => (match it with
    | .Call (.Name x _) [e] [] _ => x == ("range" : Str) && isBl Γ sc x && !isStar e && chkB Γ sc r e m
    | _ => false)
  | .rng2, [m, m'] => (match it with
    | .Call (.Name x _) [e, e'] [] _ => x == ("range" : Str) && isBl Γ sc x && !isStar e && !isStar e' && chkB Γ sc r e m && chkB Γ sc r e' m' && dj m (tchE m')
    | _ => false)
  | .rev, [m] => (match it with
    | .Call (.Name x _) [e] [] _ => x == ("reversed" : Str) && isBl Γ sc x && !isStar e && chkB Γ sc r e m
    | _ => false)
  | .enum, [m] => (match tg with
    | .Tuple _ _ _ => (match it with
      | .Call (.Name x _) [e] [] _ => x == ("enumerate" : Str) && isBl Γ sc x && !isStar e && chkB Γ sc r e m
      | _ => false)
    | _ => false)
  | .zip, [m, m'] => (match tg with
    | .Tuple _ _ _ => (match it with
      | .Call (.Name x _) [e, e'] [] _ => x == ("zip" : Str) && isBl Γ sc x && !isStar e && !isStar e' && chkB Γ sc r e m && chkB Γ sc r e' m' && dj m (tchE m')
      | _ => false)
    | _ => false)
  | _, _ => false
/-- the places that a walk leans on -/
def itPl : List E → List Nat
  | [] => []
  | e :: es => (match plS e with
    | some i => i :: itPl es
    | none => itPl es)
def tgNm (raw : Scope) (i : Nat) (x : Str) : Bool := Γ.N[i]? == some x && (sc.names.lookup x == some .local || (sc.names.lookup x == some .cell && raw.names.lookup x == some .cell))
def tgNames (raw : Scope) : List Nat → List Expr → Bool
  | [], [] => true
  | i :: is, .Name x _ :: es => tgNm Γ sc raw i x && tgNames raw is es
  | _, _ => false
/-- a target -/
def chkT (raw : Scope) (t : Tgt) (tg : Expr) : Bool := match t, tg with
  | .one i, .Name x _ => tgNm Γ sc raw i x
  | .many is, .Tuple es _ _ => tgNames Γ sc raw is es
  | _, _ => false
end
def isSetX : Expr → Bool
  | .Set _ _ _ => true
  | _ => false
def ownOf (N : List Str) (is : List Nat) : List (Str × Nat) := is.filterMap fun i => (N[i]?).map fun x => (x, i)
/-- the checker -/
def chkE (Γ : Gm) : Nat → Scope → Expr → E → Bool
  | 0, _, _, _ => false
  | n + 1, sc, e, m => match m with
    | .var i => isNm Γ sc i e
    | .mv i => isNm Γ sc i e
    | .k d => conB Γ sc e d
    | .plcf i c f => isFl Γ sc i c f e
    | .b1 o a => (match o with
      | .notB => (match e with
        | .UnaryOp .Not x _ => notPl a && noIte a && chkE Γ n sc x a
        | _ => false)
      | .isi t => (match e with
        | .Call (.Name f _) [x, .Name ty _] [] _ => f == ("isinstance" : Str) && isBl Γ sc f && isBl Γ sc ty && ty == t.nm && !isStar x && chkB Γ sc (chkE Γ n sc) x a
        | _ => false)
      | .isC k => (match e with
        | .Call (.Name f _) [x, .Name ty _] [] _ => f == ("isinstance" : Str) && isBl Γ sc f && glB sc ty && noDb ty && Γ.T.cl.contains (k, ty) && !isStar x && chkB Γ sc (chkE Γ n sc) x a
        | _ => false)
      | o => (match e with
        | .Compare x [.Is] [.Constant k _ _] _ => isP false k o && chkB Γ sc (chkE Γ n sc) x a
        | .Compare x [.IsNot] [.Constant k _ _] _ => isP true k o && chkB Γ sc (chkE Γ n sc) x a
        | .Call (.Name f _) [x] [] _ => Γ.xs.isNone && b1N o == some f && isBl Γ sc f && !isStar x && chkB Γ sc (chkE Γ n sc) x a
        | _ => false))
    | .b2 o a b => (match o with
      | .join => (match e with
        | .Call (.Attribute x m ap) [y] [] cp => m == ("join" : Str) && !isSup x && !isStar y && ap.endLine == cp.line && chkB Γ sc (chkE Γ n sc) x a && chkB Γ sc (chkE Γ n sc) y b && dj a (tchE b)
        | _ => false)
      | .split => (match e with
        | .Call (.Attribute x m ap) [y] [] cp => m == ("split" : Str) && !isSup x && !isStar y && ap.endLine == cp.line && chkB Γ sc (chkE Γ n sc) x a && chkB Γ sc (chkE Γ n sc) y b && dj a (tchE b)
        | _ => false)
      | .part => (match e with
        | .Call (.Attribute x m ap) [y] [] cp => m == ("partition" : Str) && !isSup x && !isStar y && ap.endLine == cp.line && chkB Γ sc (chkE Γ n sc) x a && chkB Γ sc (chkE Γ n sc) y b && dj a (tchE b)
        | _ => false)
      | .index => (match e with
        | .Call (.Attribute x m ap) [y] [] cp => m == ("index" : Str) && !isSup x && !isStar y && ap.endLine == cp.line && chkB Γ sc (chkE Γ n sc) x a && chkB Γ sc (chkE Γ n sc) y b && dj a (tchE b)
        | _ => false)
      | .max2 => (match e with
        | .Call (.Name f _) [x, y] [] _ => Γ.xs.isNone && f == ("max" : Str) && isBl Γ sc f && !isStar x && !isStar y && chkB Γ sc (chkE Γ n sc) x a && chkB Γ sc (chkE Γ n sc) y b && dj a (tchE b)
        | _ => false)
      | .min2 => (match e with
        | .Call (.Name f _) [x, y] [] _ => Γ.xs.isNone && f == ("min" : Str) && isBl Γ sc f && !isStar x && !isStar y && chkB Γ sc (chkE Γ n sc) x a && chkB Γ sc (chkE Γ n sc) y b && dj a (tchE b)
        | _ => false)
      | _ => false)
    | .bd os a b => (match e with
      | .BinOp x op y _ => os.all (binP op) && !os.isEmpty && chkB Γ sc (chkE Γ n sc) x a && chkB Γ sc (chkE Γ n sc) y b && dj a (tchE b)
      | .Compare x [op] [y] _ => os.all (fun o => cmpP op o || cmpK op o) && !os.isEmpty && !isSetE y && chkB Γ sc (chkE Γ n sc) x a && chkB Γ sc (chkE Γ n sc) y b && dj a (tchE b)
      | .Subscript x y _ => os.all ixP && !os.isEmpty && !isSlc y && chkB Γ sc (chkE Γ n sc) x a && chkB Γ sc (chkE Γ n sc) y b && dj a (tchE b)
      | _ => false)
    | .chain o o' a b c => (match e with
      | .Compare x [op, op'] [y, z] _ => cmpP op o && cmpP op' o' && !isSetE z && chkB Γ sc (chkE Γ n sc) x a && chkB Γ sc (chkE Γ n sc) y b && chkB Γ sc (chkE Γ n sc) z c && dj a (tchE b) && dj b (tchE c)
      | _ => false)
    | .own op os c f rf a b => (match e with
      | .BinOp x op' y _ => Γ.xs.isNone && decide (op = op') && (Γ.T.op.any fun t => decide (t.op = op) && t.c == c && t.f == f && t.rf == rf) && os.all (binP op) && chkE Γ n sc x a && chkE Γ n sc y b
      | _ => false)
    | .ownc op os c f rf a b => (match e with
      | .Compare x [op'] [y] _ => Γ.xs.isNone && decide (op = op') && (Γ.T.cp.any fun t => decide (t.op = op) && t.c == c && t.f == f && t.rf == rf) && os.all (cmpP op) && !isSetE y && chkE Γ n sc x a && chkE Γ n sc y b
      | _ => false)
    | .own1 c f a => (match e with
      | .UnaryOp .USub x _ => Γ.xs.isNone && Γ.T.ng.contains (c, f) && chkE Γ n sc x a
      | _ => false)
    | .has ng c f a i => (match e with
      | .Compare x [op] [y] _ => Γ.xs.isNone && decide (op = if ng then .NotIn else .In) && Γ.T.hs.contains (c, f) && chkE Γ n sc x a && isNm Γ sc i y
      | _ => false)
    | .and a b => (match e with
      | .BoolOp .And (x :: y :: rest) p => noIte a && chkE Γ n sc x a && noIte b && (match rest with
        | [] => chkE Γ n sc y b
        | _ => chkE Γ n sc (.BoolOp .And (y :: rest) p) b)
      | _ => false)
    | .or a b => (match e with
      | .BoolOp .Or (x :: y :: rest) p => noIte a && chkE Γ n sc x a && noIte b && (match rest with
        | [] => chkE Γ n sc y b
        | _ => chkE Γ n sc (.BoolOp .Or (y :: rest) p) b)
      | _ => false)
    | .ite c a b => (match e with
      | .IfExp k x y _ => noIte c && chkE Γ n sc k c && noIte a && chkE Γ n sc x a && noIte b && chkE Γ n sc y b
      | _ => false)
    | .slc a lo hi => (match e with
      | .Subscript x (.Slice lo' hi' none _) _ => chkB Γ sc (chkE Γ n sc) x a && chkO (chkE Γ n sc) lo' lo && chkO (chkE Γ n sc) hi' hi && dj a (tchO lo) && dj a (tchO hi)
      | _ => false)
    | .fld a c f => (match e with
      | .Attribute x nm _ => !isSup x && chkE Γ n sc x a && (fsOf Γ c)[f]? == some nm
      | _ => false)
    | .tup es => (match e with
      | .Tuple xs _ _ => chkVs (chkE Γ n sc) xs es
      | _ => false)
    | .lst es => (match e with
      | .List xs _ => chkVs (chkE Γ n sc) xs es
      | _ => false)
    | .dct ks es => (match ks, es, e with
      | [], [], .Dict [] [] _ => true
      | [k], [.k d], .Dict [some (.Constant (.str k') _ _)] [v] _ => k == k' && conB Γ sc v d
      | _, _, _ => false)
    | .call k f ms _ dfl => (match k with
      | .fn => (match e with
        | .Call (.Name x _) es kws _ => Γ.xs.isNone && glB sc x && noDb x && (Γ.T.fn.any fun t => t.f == f && t.x == x && t.sh.any (chkC Γ sc (chkE Γ n sc) es kws ms dfl))
        | _ => false)
      | .meth c => (match ms with
        | mo :: ms' => (match e with
          | .Call (.Attribute o m ap) es kws cp => Γ.xs.isNone && !isSup o && ap.endLine == cp.line && chkA1 Γ sc (chkE Γ n sc) o mo && (Γ.T.mt.any fun t => t.c == c && t.f == f && t.m == m && t.sh.any (chkC Γ sc (chkE Γ n sc) es kws ms' dfl))
          | _ => false)
        | [] => false)
      | _ => false)
    | .make c f ms dfl => (match e with
      | .Call (.Name x _) es [] _ => Γ.xs.isNone && glB sc x && noDb x && (Γ.T.mks.any fun t => t.c == c && t.f == f && t.x == x && t.sh.any (chkC Γ sc (chkE Γ n sc) es [] ms dfl))
      | _ => false)
    | .prop es c f => (match es with
      | [mo] => (match e with
        | .Attribute o m _ => Γ.xs.isNone && !isSup o && chkA1 Γ sc (chkE Γ n sc) o mo && (Γ.T.pr.any fun t => t.c == c && t.f == f && t.m == m)
        | _ => false)
      | _ => false)
    | .comp elt t ik its cond => (match e with
      | .ListComp el [⟨tg, it, ifs, 0⟩] sco _ => Γ.xs.isNone && blkC Γ.N sc sco (ownOf Γ.N (tslots t)) && !isSetX it && decide ((tslots t).Nodup) && (tslots t).all (okAsg Γ.lk) && chkT Γ (relS sco sc) sco t tg && chkE Γ n (relS sco sc) el elt && (match ifs, cond with
          | [], none => true
          | [c], some mc => noIte mc && chkE Γ n (relS sco sc) c mc
          | _, _ => false) && (itPl its).all (fun i => !(tslots t).contains i && !(tchE elt).contains i && !(tchO cond).contains i) && (match ik, its with
          | .dct, [.plc i] => isNm Γ sc i it
          | _, _ => decide (lockS ik its = some none) && chkI Γ sc (chkE Γ n sc) tg it ik its)
      | _ => false)
    | .efld i k f => (match e with
      | .Attribute (.Name x _) nm _ => decide (Γ.xs = some i) && isNm Γ sc i (.Name x ⟨0, 0, 0, 0⟩) && (fsOf Γ k)[f]? == some nm
      | _ => false)
    | .eisi i k => (match e with
      | .Call (.Name f _) [.Name x _, .Name ty _] [] _ => decide (Γ.xs = some i) && f == ("isinstance" : Str) && isBl Γ sc f && isNm Γ sc i (.Name x ⟨0, 0, 0, 0⟩) && ((k == 0 && ty == ("ValueError" : Str) && isBl Γ sc ty) || (glB sc ty && noDb ty && Γ.T.xn.contains (k, ty)))
      | _ => false)
    | _ => false
end VE

namespace VE
open PySem PySem.Spec
                     PyProof.Rows L2

/-- the defs: addresses, data, parameters; the exceptions' own __init__ -/
structure Fns where
  fa : Nat → Addr
  fd : Nat → FuncData
  ps : Nat → List Str
  ei : Nat → Addr
/-- a def takes n by place, ks by name, the rest by default -/
def ShOk (φ : Fns) (S : Sta) (K : PySem.W.Frag) (f n : Nat) (ks : List Str) (dfl : List D) : Prop := ∃ dvs ds, BindsG K (φ.fd f) (φ.ps f) n ks ds ∧ Vals dvs ds ∧ ∀ F H, RepDs S F H dfl dvs
structure SysOk (φ : Fns) (T : Tab) (xl : List Nat) (S : Sta) (P : Program) (K : PySem.W.Frag) (mg : Str → Option Value) : Prop where
  fi : FI S
  fxx : FX S xl
  sup : mg "super" = none
  bl : ∀ x ∈ T.bl, mg x = none
  fs : ∀ c l, T.fs.lookup c = some l → S.fs c = l
  con : ∀ p ∈ T.con, ∃ v u, mg p.1 = some u ∧ RelV v u ∧ ∀ F H, RepD S F H p.2 v
  cl : ∀ p ∈ T.cl, mg p.2 = some (.ref (S.cn p.1)) ∧ p.1 ∈ S.cl
  xn : ∀ p ∈ T.xn, mg p.2 = some (.ref (S.cn p.1)) ∧ p.1 ∈ xl
  fn : ∀ t ∈ T.fn, mg t.x = some (.ref (φ.fa t.f)) ∧ PySem.W.keepIn K (.ref (φ.fa t.f)) = true ∧ ∀ s ∈ t.sh, ShOk φ S K t.f s.n s.ks s.dfl
  mt : ∀ t ∈ T.mt, Meth K (S.cn t.c) t.m (φ.fa t.f) ∧ t.m ∉ S.fs t.c ∧ ∀ s ∈ t.sh, ShOk φ S K t.f (s.n + 1) s.ks s.dfl
  mks : ∀ t ∈ T.mks, Mk K (S.cn t.c) (φ.fa t.f) ∧ mg t.x = some (.ref (S.cn t.c)) ∧ t.c ∈ S.cl ∧ ∀ s ∈ t.sh, s.ks = [] ∧ ∃ dvs ds, Binds K (φ.fd t.f) (φ.ps t.f) ds ∧ Vals dvs ds ∧ ∀ F H, RepDs S F H s.dfl dvs
  pr : ∀ t ∈ T.pr, t.c ∈ S.cl ∧ (∃ p, PropOf K (S.cn t.c) t.m p (φ.fa t.f)) ∧ Binds K (φ.fd t.f) (φ.ps t.f) []
  ex : ∀ t ∈ T.ex, VX.ExT P K (S.cn t.c) (φ.ei t.c) t.ps ∧ S.fs t.c = t.ps.reverse ∧ mg t.x = some (.ref (S.cn t.c))
  op : ∀ t ∈ T.op, OpF K (S.cn t.c) (φ.fa t.f) (φ.fa t.rf) t.op ∧ IOp t.op ∧ Binds K (φ.fd t.f) (φ.ps t.f) [] ∧ Binds K (φ.fd t.rf) (φ.ps t.rf) []
  cp : ∀ t ∈ T.cp, CmpF K (S.cn t.c) (φ.fa t.f) (φ.fa t.rf) t.op ∧ ICmp t.op ∧ Binds K (φ.fd t.f) (φ.ps t.f) [] ∧ Binds K (φ.fd t.rf) (φ.ps t.rf) []
  ng : ∀ t ∈ T.ng, NegF K (S.cn t.1) (φ.fa t.2) ∧ Binds K (φ.fd t.2) (φ.ps t.2) []
  hs : ∀ t ∈ T.hs, HasF K (S.cn t.1) (φ.fa t.2) ∧ Binds K (φ.fd t.2) (φ.ps t.2) []
/-- what a def may call -/
def FnAt (φ : Fns) (S : Sta) (P : Program) (w : World) (K : PySem.W.Frag) (mg : Str → Option Value) (base : Heap) (k : Nat) (C : Calls) : Prop := ∀ f, FnOk P w K mg base (CX P w) k (φ.fa f) (φ.fd f) (φ.ps f) (spF S C f)
structure Lvl (φ : Fns) (k : Nat) (c : Cc) : Prop where
  calm : c.X.calm = true
  room : Room (k + 1) c.X.A
  xc : c.G.xc = none
  C : FnAt φ c.S c.X.prog c.X.w c.X.K c.X.mg c.X.base (k + 1) c.G.C
  M : FnAt φ c.S c.X.prog c.X.w c.X.K c.X.mg c.X.base k c.G.M
structure Cok (φ : Fns) (Γ : Gm) (sc : Scope) (k : Nat) (c : Cc) : Prop where
  fx : Fx c
  N : c.X.N = Γ.N
  sc : c.X.env.scope = sc
  lk : c.G.lk = Γ.lk
  ut : c.X.A.units + 65 < cLine
  sys : SysOk φ Γ.T c.G.xl c.S c.X.prog c.X.K c.X.mg
  out : Γ.xs = none → Lvl φ k c
  ins : ∀ i, Γ.xs = some i → ∃ x, InS c i x

structure Res (c : Cc) (kp : Nat → Prop) (e : Expr) (m : E) : Prop where
  pe : PE c.X e (tE c kp (evO c.G m))
  pt : noIte m = true → PT c.X e (tTest (tE c kp (evO c.G m)))
section
variable {φ : Fns} {Γ : Gm} {sc : Scope} {k : Nat} {c : Cc} {kp : Nat → Prop} {e : Expr} {m : E}
theorem Res.snd (h : Res c kp e m) (n : noIte m = true) : Snd c kp e m := ⟨h.pe, h.pt n⟩
theorem Res.ofS (h : Snd c kp e m) : Res c kp e m := ⟨h.pe, fun _ => h.pt⟩
theorem Res.of (h : PE c.X e (tE c kp (evO c.G m))) (he : ∀ whole, isTrue e c.X.env whole = (do let v ← whole; standAt e.pos; holding [v] (truthy v))) : Res c kp e m := .ofS (Snd.of h he)
theorem Cok.gl (ok : Cok φ Γ sc k c) {x : Str} (h : glB sc x = true) : Gl c.X x := by
  unfold Gl PySem.Env.kindOf
  rw [ok.sc]
  exact beq_iff_eq.mp h
theorem noDb_f {x : Str} (h : noDb x = true) : (x == ("__debug__" : Str)) = false := by simpa [noDb] using h
theorem Cok.isBl (ok : Cok φ Γ sc k c) {x : Str} (h : isBl Γ sc x = true) : Gl c.X x ∧ c.X.mg x = none := by
  obtain ⟨h1, h2⟩ := Bool.and_eq_true_iff.mp h
  exact ⟨ok.gl h1, ok.sys.bl x (List.contains_iff_mem.mp h2)⟩
theorem visB_v {x : Str} (h : visB sc x = true) : Vis sc x := by
  unfold visB at h
  unfold Vis
  split at h
  · exact .inl (by assumption)
  · exact .inr (.inl (by assumption))
  · exact .inr (.inr (by assumption))
  · cases h
theorem Cok.isNm (ok : Cok φ Γ sc k c) {i : Nat} {e : Expr} (h : isNm Γ sc i e = true) : PE c.X e (tVar i) ∧ i < c.n ∧ VE.isSup e = false ∧ isStar e = false ∧ ∀ whole, isTrue e c.X.env whole = (do let v ← whole; standAt e.pos; holding [v] (truthy v)) := by
  unfold VE.isNm at h
  split at h
  · rename_i x p
    simp only
             [Bool.and_eq_true] at h
    obtain ⟨⟨⟨h1, h2⟩,
                      h3⟩, h4⟩ := h
    have e1 : c.X.N[i]? = some x := by rw [ok.N]; exact beq_iff_eq.mp h1
    refine ⟨pe_var e1 (ok.sc ▸ visB_v h2) (noDb_f h3) (by simpa using h4), (List.getElem?_eq_some_iff.mp e1).1, rfl, rfl, fun _ => rfl⟩
  · cases h
theorem fsOf_ok (ok : Cok φ Γ sc k c) {kc f : Nat} {nm : Str} (h : ((fsOf Γ kc)[f]? == some nm) = true) : (c.S.fs kc)[f]? = some nm := by
  have h := beq_iff_eq.mp h
  unfold fsOf at h
  cases e : Γ.T.fs.lookup kc with
  | none => rw [e] at h; simp at h
  | some l => rw [e] at h; rw [ok.sys.fs kc l e]; exact h
theorem Cok.isFl (ok : Cok φ Γ sc k c) {i kc f : Nat} {e : Expr} (h : isFl Γ sc i kc f e = true) : ∃ o nm pos, e = .Attribute o nm pos ∧ PE c.X o (tVar i) ∧ VE.isSup o = false ∧ (c.S.fs kc)[f]? = some nm := by
  unfold VE.isFl at h
  split at h
  · obtain ⟨h1, h2⟩ := Bool.and_eq_true_iff.mp h
    obtain ⟨p, _, q, _⟩ := ok.isNm h1
    exact ⟨_, _, _, rfl, p, q, fsOf_ok ok h2⟩
  · cases h
/-- a constant -/
theorem Cok.con (ok : Cok φ Γ sc k c) {e : Expr} {d : D} (h : conB Γ sc e d = true) : ∃ v, PE c.X e (tC v) ∧ (∀ F H, RepD c.S F H d v) ∧ ∀ whole, isTrue e c.X.env whole = (do let v ← whole; standAt e.pos; holding [v] (truthy v)) := by
  unfold conB at h
  split at h
  · rw [← of_decide_eq_true h]; exact ⟨_, pe_int, fun _ _ => rfl, fun _ => rfl⟩
  · rw [← beq_iff_eq.mp h]; exact ⟨_, pe_str, fun _ _ => rfl, fun _ => rfl⟩
  · rw [← beq_iff_eq.mp h]; exact ⟨_, pe_bl, fun _ _ => rfl, fun _ => rfl⟩
  · exact ⟨_, pe_non, fun _ _ => rfl, fun _ => rfl⟩
  · rw [of_decide_eq_true h]; exact ⟨_, c_neg pe_int, fun _ _ => rfl, fun _ => rfl⟩
  · simp only [Bool.and_eq_true] at h
    obtain ⟨⟨h1, h2⟩, h3⟩ := h
    obtain ⟨p, hp, hq⟩ := List.any_eq_true.mp h3
    obtain ⟨q1, q2⟩ := Bool.and_eq_true_iff.mp hq
    obtain ⟨v, u, m1, m2, m3⟩ := ok.sys.con p hp
    rw [beq_iff_eq.mp q1] at m1
    rw [beqD_eq q2] at m3
    exact ⟨v, pe_glob (ok.gl h1) m1 m2 (noDb_f h2), m3, fun _ => rfl⟩
  · cases h
/-- the checker below, as far as it is right -/
def Rok (c : Cc) (r : Expr → E → Bool) : Prop := ∀ e m (kp : Nat → Prop), r e m = true → (∀ j, kp j → j ∉ tchE m) → Res c kp e m
theorem chkB_ok (ok : Cok φ Γ sc k c) {r : Expr → E → Bool} (hr : Rok c r) {e : Expr} {m : E} (h : chkB Γ sc r e m = true) (hk : ∀ j, kp j → j ∉ tchE m) : OB c kp e m := by
  have other : plS m = none → r e m = true → OB c kp e m := fun q z => by
    have p := tB_of (hr e m kp z hk).pe
    rw [plS_bB q] at p
    unfold OB
    rw [q]
    exact p
  cases m with
  | plc i => exact s_plc (ok.isNm h).1
  | plcf i kc f =>
    obtain ⟨o, nm, pos, rfl, p, q, z⟩ := ok.isFl h
    exact s_plcfB ok.fx.hK ok.fx.fc p q z
  | io i => cases h
  | _ => exact other rfl h
theorem dj_ok {a : E} {ts : List Nat} (h : dj a ts = true) (hk : ∀ j, kp j → j ∉ ts) : (∀ j, (kp j ∨ plS a = some j) → j ∉ ts) := by
  intro j hj
  rcases hj with z | z
  · exact hk j z
  · unfold dj at h
    rw [z] at h
    intro q
    have := List.contains_iff_mem.mpr q
    have h : (!ts.contains j) = true := h
    rw [this] at h
    cases h
theorem ioS_tch : ∀ {ms : List E} {i : Nat}, i ∈ ioS ms → i ∈ tchEs ms
  | [], i, h => by cases h
  | m :: ms, i, h => by
    cases m with
    | io j =>
      rcases List.mem_cons.mp (show i ∈ j :: ioS ms from h) with z | z
      · subst z; exact List.mem_append.mpr (.inl (by simp [tchE]))
      · exact List.mem_append.mpr (.inr (ioS_tch z))
    | _ => exact List.mem_append.mpr (.inr (ioS_tch (show i ∈ ioS ms from h)))
theorem tchEs_app : ∀ {a b : List E}, tchEs (a ++ b) = tchEs a ++ tchEs b
  | [], b => rfl
  | m :: a, b => by
    show tchE m ++ tchEs (a ++ b) = (tchE m ++ tchEs a) ++ tchEs b
    rw [tchEs_app, List.append_assoc]
theorem chkA1_ok (ok : Cok φ Γ sc k c) {r : Expr → E → Bool} (hr : Rok c r) {e : Expr} {m : E} (h : chkA1 Γ sc r e m = true) (hk : ∀ j, kp j → j ∉ tchE m) : PE c.X e (tA1 c kp m) ∧ ∀ i, m = .io i → i < c.n := by
  cases m with
  | io i => exact ⟨(ok.isNm h).1, fun j z => by cases z; exact (ok.isNm h).2.1⟩
  | plc i => cases h
  | _ => exact ⟨(hr e _ kp h hk).pe, fun j z => by cases z⟩
theorem chkAs_ok (ok : Cok φ Γ sc k c) {r : Expr → E → Bool} (hr : Rok c r) : ∀ {es : List Expr} {ms : List E}, chkAs Γ sc r es ms = true → (∀ j, kp j → j ∉ tchEs ms) → Args c kp es ms ∧ ∀ m ∈ ms, ∀ i, m = .io i → i < c.n
  | [], [], _, _ => ⟨.nil, fun m hm => by cases hm⟩
  | e :: es, m :: ms, h, hk => by
    simp only [chkAs, Bool.and_eq_true] at h
    obtain ⟨⟨h1, h2⟩, h3⟩ := h
    obtain ⟨p1, p2⟩ := chkA1_ok ok hr h2 fun j z q => hk j z (List.mem_append.mpr (.inl q))
    obtain ⟨p3, p4⟩ := chkAs_ok ok hr h3 fun j z q => hk j z (List.mem_append.mpr (.inr q))
    exact ⟨.cons p1 (by simpa using h1) p3, fun m' hm i z => by
      rcases List.mem_cons.mp
                             hm with q | q
      · subst q; exact p2 i z
      · exact p4 m' q i z⟩
  | [], _ :: _, h, _ => by
                          cases h
  | _ :: _, [], h, _ => by
                          cases h
theorem chkKs_ok (ok : Cok φ Γ sc k c) {r : Expr → E → Bool} (hr : Rok c r) : ∀ {kws : List Keyword} {ks : List Str} {ms : List E}, chkKs Γ sc r kws ks ms = true → (∀ j, kp j → j ∉ tchEs ms) → Kws c kp kws ms ks ∧ ∀ m ∈ ms, ∀ i, m = .io i → i < c.n
  | [], [], [], _, _ => ⟨.nil, fun m hm => by cases hm⟩
  | ⟨arg, e, p⟩ :: kws, x :: ks, m :: ms, h, hk => by
    simp only [chkKs, Bool.and_eq_true] at h
    obtain ⟨⟨h1, h2⟩, h3⟩ := h
    obtain ⟨p1, p2⟩ := chkA1_ok ok hr h2 fun j z q => hk j z (List.mem_append.mpr (.inl q))
    obtain ⟨p3, p4⟩ := chkKs_ok ok hr h3 fun j z q => hk j z (List.mem_append.mpr (.inr q))
    have e1 : arg = some x := beq_iff_eq.mp h1
    subst e1
    exact ⟨.cons p1 p3, fun m' hm i z => by
      rcases List.mem_cons.mp
                             hm with q | q
      · subst q; exact p2 i z
      · exact p4 m' q i z⟩
  | [], [], _ :: _, h, _ => by cases h
  | [], _ :: _, _, h, _ => by
                             cases h
  | _ :: _, [], _, h, _ => by
                             cases h
  | _ :: _, _ :: _, [], h, _ => by cases h
theorem chkVs_ok {r : Expr → E → Bool} (hr : Rok c r) : ∀ {es : List Expr} {ms : List E}, chkVs r es ms = true → (∀ j, kp j → j ∉ tchEs ms) → Vls c kp es ms
  | [], [], _, _ => .nil
  | e :: es, m :: ms, h, hk => by
    simp only [chkVs, Bool.and_eq_true] at h
    obtain ⟨⟨h1, h2⟩, h3⟩ := h
    exact .cons (hr e m kp h2 fun j z q => hk j z (List.mem_append.mpr (.inl q))).pe (by simpa using h1) (chkVs_ok hr h3 fun j z q => hk j z (List.mem_append.mpr (.inr q)))
  | [], _ :: _, h, _ => by
                          cases h
  | _ :: _, [], h, _ => by
                          cases h
theorem chkO_ok {r : Expr → E → Bool} (hr : Rok c r) {o : Option Expr} {m : Option E} (h : chkO r o m = true) (hk : ∀ j, kp j → j ∉ tchO m) : PO c.X o (tP c kp (evP c.G m)) := by
  unfold chkO at h
  split at h
  · exact p_none
  · exact p_some (tD_of (hr _ _ kp h hk).pe)
  · cases h
/-- a call's arguments -/
structure CallOk (φ : Fns) (c : Cc) (kp : Nat → Prop) (es : List Expr) (kws : List Keyword) (ms : List E) (dfl : List D) (s : Shp) : Prop where
  d : s.dfl = dfl
  n : es.length = s.n
  a : Args c kp es (ms.take s.n)
  k : Kws c kp kws (ms.drop s.n) s.ks
  ne : es ≠ [] ∨ kws = []
  sm : es.length + kws.length < 29
  io : ∀ m ∈ ms.take s.n ++ ms.drop s.n, ∀ i, m = .io i → i < c.n
  nk : ∀ i, kp i → i ∉ ioS (ms.take s.n ++ ms.drop s.n)
theorem chkC_ok (ok : Cok φ Γ sc k c) {r : Expr → E → Bool} (hr : Rok c r) {es : List Expr} {kws : List Keyword} {ms : List E} {dfl : List D} {s : Shp} (h : chkC Γ sc r es kws ms dfl s = true) (hk : ∀ j, kp j → j ∉ tchEs ms) : CallOk φ c kp es kws ms dfl s := by
  simp only [chkC, Bool.and_eq_true] at h
  obtain ⟨⟨⟨⟨⟨h1, h2⟩, h3⟩, h4⟩, h5⟩, h6⟩ := h
  have e : tchEs ms = tchEs (ms.take s.n) ++ tchEs (ms.drop s.n) := by rw [← tchEs_app, List.take_append_drop]
  rw [e] at hk
  obtain ⟨p1, p2⟩ := chkAs_ok ok hr h3 fun j z q => hk j z (List.mem_append.mpr (.inl q))
  obtain ⟨p3, p4⟩ := chkKs_ok ok hr h4 fun j z q => hk j z (List.mem_append.mpr (.inr q))
  refine ⟨beqDs_eq h2, of_decide_eq_true h1, p1, p3, ?_, of_decide_eq_true h6, fun m hm => (List.mem_append.mp hm).elim (p2 m) (p4 m), fun i z q => ?_⟩
  · cases es with
    | nil => exact .inr (by cases kws with | nil => rfl | cons _ _ => cases h5)
    | cons _ _ => exact .inl fun z => by cases z
  · have := ioS_tch q
    rw [tchEs_app] at this
    exact hk i z this
end
end VE

namespace VE
open PySem PySem.Spec
                     PyProof.Rows L2
section
variable {φ : Fns} {Γ : Gm} {sc : Scope} {k : Nat} {c : Cc} {kp kq : Nat → Prop}
theorem itPl_1 {m : E} {i : Nat} (h : plS m = some i) : i ∈ itPl [m] := by
  unfold itPl
  rw [h]
  exact List.mem_cons_self
theorem itPl_2 {m m' : E} {i : Nat} (h : plS m = some i ∨ plS m' = some i) : i ∈ itPl [m, m'] := by
  unfold itPl
  rcases h with h | h
  · rw
      [h]; exact List.mem_cons_self
  · cases e : plS m with
    | none => exact itPl_1 h
    | some j => exact List.mem_cons_of_mem _ (itPl_1 h)
theorem chkI_ok (ok : Cok φ Γ sc k c) {r : Expr → E → Bool} (hr : Rok c r) {tg it : Expr} {ik : ItK} {its : List E} (h : chkI Γ sc r tg it ik its = true) (hk : ∀ j, kp j → j ∉ tchEs its) (hq : ∀ i ∈ itPl its, kq i) : PI c.X tg it (tI c kp kq ik (evBs c.G its)) := by
  have one : ∀ {m : E}, (∀ j, kp j → j ∉ tchEs [m]) → ∀ j, kp j → j ∉ tchE m := fun hk j z q => hk j z (List.mem_append.mpr (.inl q))
  have two1 : ∀ {m m' : E}, (∀ j, kp j → j ∉ tchEs [m, m']) → ∀ j, kp j → j ∉ tchE m := fun hk j z q => hk j z (List.mem_append.mpr (.inl q))
  have two2 : ∀ {m m' : E}, (∀ j, kp j → j ∉ tchEs [m, m']) → ∀ j, kp j → j ∉ tchE m' := fun hk j z q => hk j z (List.mem_append.mpr (.inr (List.mem_append.mpr (.inl q))))
  unfold chkI at h
  split at h
  · exact i_dyn ok.fx (chkB_ok ok hr h (one hk)) (fun _ z => z) fun i z => hq i (itPl_1 z)
  · split at h
    · simp only [Bool.and_eq_true] at h
      obtain ⟨⟨⟨h1, h2⟩,
                        h3⟩, h4⟩ := h
      have e1 := beq_iff_eq.mp h1
      subst e1
      exact i_rng1 (ok.isBl h2).1 (ok.isBl h2).2 (chkB_ok ok hr h4 (one hk)) (by simpa using h3) (fun _ z => z)
    · cases h
  · split at h
    · simp only [Bool.and_eq_true] at h
      obtain ⟨⟨⟨⟨⟨⟨h1, h2⟩, h3⟩,
                                h4⟩, h5⟩, h6⟩, h7⟩ := h
      have e1 := beq_iff_eq.mp h1
      subst e1
      exact i_rng2 (ok.isBl h2).1 (ok.isBl h2).2 (chkB_ok ok hr h5 (two1 hk)) (chkB_ok ok hr h6 (dj_ok h7 (two2 hk))) (by simpa using h3) (by simpa using h4) (fun _ z => z) (fun _ z => .inl z) fun i z => .inr z
    · cases h
  · split at h
    · simp only [Bool.and_eq_true] at h
      obtain ⟨⟨⟨h1, h2⟩,
                        h3⟩, h4⟩ := h
      have e1 := beq_iff_eq.mp h1
      subst e1
      exact i_rev ok.fx (ok.isBl h2).1 (ok.isBl h2).2 (chkB_ok ok hr h4 (one hk)) (by simpa using h3) (fun _ z => z) fun i z => hq i (itPl_1 z)
    · cases h
  · split at h
    · split at h
      · simp only [Bool.and_eq_true] at h
        obtain ⟨⟨⟨h1, h2⟩,
                          h3⟩, h4⟩ := h
        have e1 := beq_iff_eq.mp h1
        subst e1
        exact i_enum ok.fx (ok.isBl h2).1 (ok.isBl h2).2 (chkB_ok ok hr h4 (one hk)) (by simpa using h3) (fun _ z => z) fun i z => hq i (itPl_1 z)
      · cases h
    · cases h
  · split at h
    · split at h
      · simp only [Bool.and_eq_true] at h
        obtain ⟨⟨⟨⟨⟨⟨h1, h2⟩, h3⟩,
                                  h4⟩, h5⟩, h6⟩, h7⟩ := h
        have e1 := beq_iff_eq.mp h1
        subst e1
        exact i_zip ok.fx (ok.isBl h2).1 (ok.isBl h2).2 (chkB_ok ok hr h5 (two1 hk)) (chkB_ok ok hr h6 (dj_ok h7 (two2 hk))) (by simpa using h3) (by simpa using h4) (fun _ z => z) (fun _ z => .inl z) (fun i z => .inr z) (fun i z => hq i (itPl_2 (.inl z))) fun i z => hq i (itPl_2 (.inr z))
      · cases h
    · cases h
  · cases h
theorem tgNm_ok {raw : Scope} {X : Cx} (hN : X.N = Γ.N) (hs : X.env.scope = sc) (nd : X.N.Nodup) (hf : ∀ x, raw.names.lookup x = some .cell → X.fn x = true) {i : Nat} {x : Str} {p : Pos} (h : tgNm Γ sc raw i x = true) : PG X (.Name x p) (gName i) ∧ i < X.N.length ∧ X.N[i]? = some x ∧ Loc X.env.scope x ∧ (X.fn x = true ∨ X.env.scope.names.lookup x = some .local) := by
  obtain ⟨h1, h2⟩ := Bool.and_eq_true_iff.mp h
  have e1 : X.N[i]? = some x := by rw [hN]; exact beq_iff_eq.mp h1
  have l : Loc X.env.scope x ∧ (X.fn x = true ∨ X.env.scope.names.lookup x = some .local) := by
    rw [hs]
    rcases (Bool.or_eq_true_iff.mp h2) with z | z
    · exact ⟨.inl (beq_iff_eq.mp z), .inr (beq_iff_eq.mp z)⟩
    · obtain ⟨z1, z2⟩ := Bool.and_eq_true_iff.mp z
      exact ⟨.inr (beq_iff_eq.mp z1), .inl (hf x (beq_iff_eq.mp z2))⟩
  exact ⟨pg_name nd e1 l.1 l.2, (List.getElem?_eq_some_iff.mp e1).1, e1, l⟩
theorem tgNames_ok {raw : Scope} {X : Cx} (hN : X.N = Γ.N) (hs : X.env.scope = sc) (nd : X.N.Nodup) (hf : ∀ x, raw.names.lookup x = some .cell → X.fn x = true) : ∀ {is : List Nat} {es : List Expr}, tgNames Γ sc raw is es = true → PGs X es (gNames is) ∧ (∀ i ∈ is, i < X.N.length) ∧ (assignEach es X.env).length = is.length ∧ (assignEach es X.env).findIdx? (·.1) = none
  | [], [], _ => ⟨pgs_nil, (fun i hi => absurd hi (by simp)), rfl, rfl⟩
  | i :: is, e :: es, h => by
    cases e with
    | Name x p =>
      obtain ⟨h1, h2⟩ := Bool.and_eq_true_iff.mp h
      obtain ⟨p1, p2, _⟩ := tgNm_ok (p := p) hN hs nd hf h1
      obtain ⟨p3, p4, p5, p6⟩ := tgNames_ok hN hs nd hf h2
      refine ⟨pgs_cons p1 p3 rfl, fun j hj => ?_, ?_, ?_⟩
      · rcases List.mem_cons.mp hj with q | q
        · exact q ▸ p2
        · exact p4 j q
      · show (_ :: assignEach es X.env).length = _
        rw [List.length_cons, p5, List.length_cons]
      · show (_ :: assignEach es X.env).findIdx? _ = _
        rw [List.findIdx?_cons, p6]
        rfl
    | _ => cases h
  | [], _ :: _, h => by cases h
  | _ :: _, [], h => by cases h
theorem chkT_ok {raw : Scope} {X : Cx} (hN : X.N = Γ.N) (hs : X.env.scope = sc) (nd : X.N.Nodup) (hf : ∀ x, raw.names.lookup x = some .cell → X.fn x = true) (hc : X.calm = true) {t : Tgt} {tg : Expr} (h : chkT Γ sc raw t tg = true) : PG X tg (gT X.K t) ∧ ∀ i ∈ tslots t, i < X.N.length := by
  unfold chkT at h
  split at h
  · obtain ⟨p1, p2, _⟩ := tgNm_ok hN hs nd hf h
    exact ⟨p1, fun i hi => by rw [List.mem_singleton.mp hi]; exact p2⟩
  · obtain ⟨p1, p2, p3, p4⟩ := tgNames_ok hN hs nd hf h
    exact ⟨pg_tup hc p1 p3 p4, p2⟩
  · cases h
theorem own_slots {N : List Str} : ∀ {is : List Nat}, (∀ i ∈ is, i < N.length) → (ownOf N is).map (·.2) = is
  | [], _ => rfl
  | i :: is, h => by
    have hi := h i List.mem_cons_self
    unfold ownOf
    rw [List.filterMap_cons, List.getElem?_eq_getElem hi]
    show i :: (ownOf N is).map (·.2) = _
    rw [own_slots fun j hj => h j (List.mem_cons_of_mem _ hj)]
theorem Cok.blk (ok : Cok φ Γ sc k c) (hx : Γ.xs = none) {sco : Scope} {X' : Cx} (h : IsBlk c.X sco X') : Cok φ Γ (relS sco sc) k (c.bk.at X') := by
  obtain ⟨s, H, C, cl, fp, rfl⟩ := h
  have o := ok.out hx
  have e : (compEnvC sco cl C c.X.env).scope = relS sco sc := by
    rw [← ok.sc]; rfl
  exact {
    fx := ⟨ok.fx.hK, ok.fx.nn, ok.fx.fc, ok.fx.lk, fun u s' ⟨_, _, _, _, _, _, _, _, _, _, _, _, _, _, _, _, w⟩ => w⟩
    N := ok.N
    sc := e
    lk := ok.lk
    ut := ok.ut
    sys := ok.sys
    out := fun _ => ⟨o.calm, o.room, o.xc, o.C, o.M⟩
    ins := fun i z => by rw [hx] at z; cases z }
end
end VE

namespace VE
open PySem PySem.Spec
                     PyProof.Rows L2
section
variable {φ : Fns} {Γ : Gm} {sc : Scope} {k : Nat} {c : Cc} {kp : Nat → Prop} {e : Expr}
theorem no_pre {os : List B2} {fn : Value → Value → Sem Value} (h : ∀ o ∈ os, ∃ r, OpR c.X fn r ∧ Op2 c o r ∧ ∀ d, pre o d = true) : ∀ o ∈ os, ∃ r, OpR c.X fn r ∧ Op2 c o r := fun o ho => by
  obtain ⟨r, h1, h2, _⟩ := h o ho
  exact ⟨r, h1, h2⟩
theorem ne_of {os : List B2} (h : (!os.isEmpty) = true) : os ≠ [] := by
  intro e
  subst e
  cases h
theorem isSetX_ok {it : Expr} (h : (!isSetX it) = true) {env : PySem.Env} : ∀ x, foldedSetIterable it env x = pure x := by
  cases it <;> first | exact fun _ => rfl | cases h
theorem contains_of {α : Type} [BEq α] [LawfulBEq α] {l : List α} {a : α} (h : l.contains a = true) : a ∈ l := List.contains_iff_mem.mp h
/-- a comprehension's parts -/
structure CompR (φ : Fns) (Γ : Gm) (k : Nat) (c : Cc) (kp : Nat → Prop) (el tg it : Expr) (ifs : List Expr) (sco : Scope) (elt : E) (t : Tgt) (ik : ItK) (its : List E) (cond : Option E) : Prop where
  o : Lvl φ k c
  P : CompP c (fun i => kp i ∨ i ∈ itPl its) sco el tg ifs elt t cond
  bo : BlkOk c.X.N c.X.env.scope sco (ownOf c.X.N (tslots t))
  os : (ownOf c.X.N (tslots t)).map (·.2) = tslots t
  hs : ∀ x, foldedSetIterable it c.X.env x = pure x
  nd : (tslots t).Nodup
  hb : ∀ v ∈ tslots t, v < c.n
  lk : (tslots t).all (okAsg c.G.lk) = true
  k1 : ∀ j, kp j → j ∉ tslots t ∧ j ∉ lkP ik its
  k2 : ∀ i ∈ itPl its, i ∉ tslots t
  wk : (∃ i, ik = .dct ∧ its = [.plc i] ∧ PE c.X it (tVar i) ∧ i < c.n) ∨ (lockS ik its = some none ∧ PI c.X tg it (tI c kp (fun i => i ∈ itPl its) ik (evBs c.G its)))
theorem comp_parts (ok : Cok φ Γ sc k c) {n : Nat} (ih : ∀ (sc : Scope) (c : Cc), Cok φ Γ sc k c → Rok c (chkE Γ n sc)) {elt : E} {t : Tgt} {ik : ItK} {its : List E} {cond : Option E} (h : chkE Γ (n + 1) sc e (.comp elt t ik its cond) = true) (hk : ∀ j, kp j → j ∉ tchE (.comp elt t ik its cond)) : ∃ el tg it ifs sco pos, e = .ListComp el [⟨tg, it, ifs, 0⟩] sco pos ∧ CompR φ Γ k c kp el tg it ifs sco elt t ik its cond := by
  unfold chkE at h
  dsimp only at h
  split at h
  · rename_i el tg it ifs sco pos
    simp only
             [Bool.and_eq_true] at h
    obtain ⟨⟨⟨⟨⟨⟨⟨⟨⟨h1, h2⟩, h3⟩, h4⟩, h5⟩, h6⟩, h8⟩, h9⟩, h10⟩, h11⟩ := h
    have hx : Γ.xs = none := by simpa using h1
    have o := ok.out hx
    have tch : ∀ j, kp j → j ∉ tslots t ∧ j ∉ tchE elt ∧ j ∉ tchEs its ∧ j ∉ tchO cond ∧ j ∉ lkP ik its := fun j z => by
      have q : j ∉ tslots t ++ (tchE elt ++ (tchEs its ++ (tchO cond ++ lkP ik its))) := hk j z
      simp only [List.mem_append, not_or] at q
      exact q
    have ite : ∀ i ∈ itPl its, i ∉ tslots t ∧ i ∉ tchE elt ∧ i ∉ tchO cond := fun i hi => by
      have q := List.all_eq_true.mp h10 i hi
      simp only [Bool.and_eq_true, Bool.not_eq_true'] at q
      refine ⟨fun z => ?_, fun z => ?_, fun z => ?_⟩
      · have := List.contains_iff_mem.mpr z; rw [q.1.1] at this; cases this
      · have := List.contains_iff_mem.mpr z; rw [q.1.2] at this; cases this
      · have := List.contains_iff_mem.mpr z; rw [q.2] at this; cases this
    have nd : (tslots t).Nodup := of_decide_eq_true h4
    have lk : (tslots t).all (okAsg c.G.lk) = true := by rw [ok.lk]; exact h5
    have bo : BlkOk c.X.N c.X.env.scope sco (ownOf c.X.N (tslots t)) := by rw [ok.sc, ok.N]; exact blkOk_by h2
    have P : CompP c (fun i => kp i ∨ i ∈ itPl its) sco el tg ifs elt t cond ∧ ∀ v ∈ tslots t, v < c.n := by
      have tg0 : ∀ X', IsBlk c.X sco X' → PG X' tg (gT X'.K t) ∧ ∀ i ∈ tslots t, i < X'.N.length := fun X' b => by
        have bk := ok.blk hx b
        refine chkT_ok (raw := sco) bk.N bk.sc bk.fx.nn ?_ (bk.out hx).calm h6
        obtain ⟨s, H, C, cl, fp, rfl⟩ := b
        exact fun x z => by
          show (List.lookup x sco.names == some NameKind.cell) = true
          rw [z]; rfl
      refine ⟨⟨fun X' b => (tg0 X' b).1, fun X' b => ?_, fun X' b => ?_⟩, ?_⟩
      · have bk := ok.blk hx b
        split at h9
        · exact pts_nil
        · obtain ⟨z1, z2⟩ := Bool.and_eq_true_iff.mp h9
          refine pts_one (Res.snd (ih _ _ bk _ _ (fun i => kp i ∨ i ∈ itPl its) z2 fun j q => ?_) z1).pt
          rcases q with q | q
          · exact (tch j q).2.2.2.1
          · exact (ite j q).2.2
        · cases h9
      · have bk := ok.blk hx b
        refine (ih _ _ bk _ _ _ h8 fun j q => ?_).pe
        rcases q with q | q
        · exact (tch j q).2.1
        · exact (ite j q).2.1
      · exact (tg0 _ ⟨c.X.s_0, c.X.H_0, 0, [], [], rfl⟩).2
    have os : (ownOf c.X.N (tslots t)).map (·.2) = tslots t := own_slots P.2
    refine ⟨_, _, _, _, _, _, rfl, o, P.1, bo, os, isSetX_ok h3, nd, P.2, lk, fun j z => ⟨(tch j z).1, (tch j z).2.2.2.2⟩, fun i z => (ite i z).1, ?_⟩
    split at h11
    · obtain ⟨v1, v2, _⟩ := ok.isNm h11
      exact .inl ⟨_, rfl, rfl, v1, v2⟩
    · obtain ⟨z1, z2⟩ := Bool.and_eq_true_iff.mp h11
      exact .inr ⟨of_decide_eq_true z1, chkI_ok ok (ih _ _ ok) z2 (fun j z => (tch j z).2.2.1) fun _ z => z⟩
  · cases h
theorem comp_ok (ok : Cok φ Γ sc k c) {n : Nat} (ih : ∀ (sc : Scope) (c : Cc), Cok φ Γ sc k c → Rok c (chkE Γ n sc)) {elt : E} {t : Tgt} {ik : ItK} {its : List E} {cond : Option E} (h : chkE Γ (n + 1) sc e (.comp elt t ik its cond) = true) (hk : ∀ j, kp j → j ∉ tchE (.comp elt t ik its cond)) : Res c kp e (.comp elt t ik its cond) := by
  obtain ⟨el, tg, it, ifs, sco, pos, rfl, R⟩ := comp_parts ok ih h hk
  refine Res.of ?_ fun _ => rfl
  rcases R.wk with ⟨i, rfl, rfl, v1, v2⟩ | ⟨z1, z2⟩
  · exact s_compD ok.fx R.o.calm v1 v2 R.bo R.os R.P R.hs R.nd R.hb R.lk ⟨.inr (itPl_1 rfl), R.k2 _ (itPl_1 rfl)⟩ (fun j z => ⟨.inl z, (R.k1 j z).1⟩) fun j z q => (R.k1 j z).2 (by rw [q]; exact List.mem_cons_self)
  · exact s_comp (kq := fun i => i ∈ itPl its) ok.fx R.o.calm z2 R.bo R.os R.P R.hs z1 R.nd R.hb R.lk (fun _ z => z) (fun j z => ⟨.inl z, (R.k1 j z).1⟩) fun j z => ⟨.inr z, R.k2 j z⟩
end
end VE

namespace VE
open PySem PySem.Spec
                     PyProof.Rows L2
section
variable {φ : Fns} {Γ : Gm} {sc : Scope} {k n : Nat} {c : Cc} {kp : Nat → Prop} {e : Expr}
abbrev IHn (φ : Fns) (Γ : Gm) (k n : Nat) : Prop := ∀ (sc : Scope) (c : Cc), Cok φ Γ sc k c → Rok c (chkE Γ n sc)
theorem b1_ok (ok : Cok φ Γ sc k c) (ih : IHn φ Γ k n) {o : B1} {a : E} (h : chkE Γ (n + 1) sc e (.b1 o a) = true) (hk : ∀ j, kp j → j ∉ tchE a) : Res c kp e (.b1 o a) := by
  have r := ih sc c ok
  unfold chkE at h
  dsimp only at h
  split at h
  · split at h
    · simp only [Bool.and_eq_true] at h
      obtain ⟨⟨h1, h2⟩, h3⟩ := h
      refine .ofS (s_not ((r _ _ kp h3 hk).snd h2) ?_)
      unfold notPl at h1
      split at h1 <;> first | rfl | cases h1 | skip
      unfold plS
      split <;> first | rfl | (exfalso; simp_all)
    · cases h
  · split at h
    · simp only [Bool.and_eq_true] at h
      obtain ⟨⟨⟨⟨⟨h1, h2⟩, h3⟩, h4⟩, h5⟩, h6⟩ := h
      have e1 := beq_iff_eq.mp h1
      subst e1
      exact Res.of (n_isi ok.fx ok.sys.fi (beq_iff_eq.mp h4) (ok.isBl h2).1 (ok.isBl h2).2 (ok.isBl h3).1 (ok.isBl h3).2 (by simpa using h5) (chkB_ok ok r h6 hk)) fun _ => rfl
    · cases h
  · split at h
    · simp only [Bool.and_eq_true] at h
      obtain ⟨⟨⟨⟨⟨⟨h1, h2⟩, h3⟩,
                                h4⟩, h5⟩, h6⟩, h7⟩ := h
      have e1 := beq_iff_eq.mp h1
      subst e1
      obtain ⟨q1, q2⟩ := ok.sys.cl _ (contains_of h5)
      exact Res.of (n_isC ok.fx ok.sys.fi q2 (ok.isBl h2).1 (ok.isBl h2).2 (ok.gl h3) q1 (noDb_f h4) (by simpa using h6) (chkB_ok ok r h7 hk)) fun _ => rfl
    · cases h
  · split at h
    · obtain ⟨h1, h2⟩ := Bool.and_eq_true_iff.mp h
      exact .ofS (n_is (ng := false) h1 (chkB_ok ok r h2 hk))
    · obtain ⟨h1, h2⟩ := Bool.and_eq_true_iff.mp h
      exact .ofS (n_is (ng := true) h1 (chkB_ok ok r h2 hk))
    · simp only [Bool.and_eq_true] at h
      obtain ⟨⟨⟨⟨h1, h2⟩, h3⟩, h4⟩, h5⟩ := h
      exact Res.of (n_b1 ok.fx.hK (ok.out (by simpa using h1)).calm (beq_iff_eq.mp h2) (ok.isBl h3).1 (ok.isBl h3).2 (by simpa using h4) (chkB_ok ok r h5 hk)) fun _ => rfl
    · cases h
theorem app2 {a b : List Nat} (hk : ∀ j, kp j → j ∉ a ++ b) : (∀ j, kp j → j ∉ a) ∧ ∀ j, kp j → j ∉ b := ⟨fun j z q => hk j z (List.mem_append.mpr (.inl q)), fun j z q => hk j z (List.mem_append.mpr (.inr q))⟩
theorem b2_ok (ok : Cok φ Γ sc k c) (ih : IHn φ Γ k n) {o : B2} {a b : E} (h : chkE Γ (n + 1) sc e (.b2 o a b) = true) (hk0 : ∀ j, kp j → j ∉ tchE a ++ tchE b) : Res c kp e (.b2 o a b) := by
  have r := ih sc c ok
  obtain ⟨ka, kb⟩ := app2 hk0
  unfold chkE at h
  dsimp only at h
  split at h
  · split at h
    · simp only [Bool.and_eq_true] at h
      obtain ⟨⟨⟨⟨⟨⟨h1, h2⟩, h3⟩,
                                h4⟩, h5⟩, h6⟩, h7⟩ := h
      have e1 := beq_iff_eq.mp h1
      subst e1
      exact Res.of (n_join ok.fx.hK (by simpa using h2) (by simpa using h3) h4 (chkB_ok ok r h5 ka) (chkB_ok ok r h6 (dj_ok h7 kb)) (fun _ z => z) (fun _ z => .inl z) fun _ z => .inr z) fun _ => rfl
    · cases h
  · split at h
    · simp only [Bool.and_eq_true] at h
      obtain ⟨⟨⟨⟨⟨⟨h1, h2⟩, h3⟩,
                                h4⟩, h5⟩, h6⟩, h7⟩ := h
      have e1 := beq_iff_eq.mp h1
      subst e1
      exact Res.of (n_split (by simpa using h2) (by simpa using h3) h4 (chkB_ok ok r h5 ka) (chkB_ok ok r h6 (dj_ok h7 kb)) (fun _ z => z) (fun _ z => .inl z) fun _ z => .inr z) fun _ => rfl
    · cases h
  · split at h
    · simp only [Bool.and_eq_true] at h
      obtain ⟨⟨⟨⟨⟨⟨h1, h2⟩, h3⟩,
                                h4⟩, h5⟩, h6⟩, h7⟩ := h
      have e1 := beq_iff_eq.mp h1
      subst e1
      exact Res.of (n_part (by simpa using h2) (by simpa using h3) h4 (chkB_ok ok r h5 ka) (chkB_ok ok r h6 (dj_ok h7 kb)) (fun _ z => z) (fun _ z => .inl z) fun _ z => .inr z) fun _ => rfl
    · cases h
  · split at h
    · simp only [Bool.and_eq_true] at h
      obtain ⟨⟨⟨⟨⟨⟨h1, h2⟩, h3⟩,
                                h4⟩, h5⟩, h6⟩, h7⟩ := h
      have e1 := beq_iff_eq.mp h1
      subst e1
      exact Res.of (n_index ok.fx.hK ok.ut (by simpa using h2) (by simpa using h3) h4 (chkB_ok ok r h5 ka) (chkB_ok ok r h6 (dj_ok h7 kb)) (fun _ z => z) (fun _ z => .inl z) fun _ z => .inr z) fun _ => rfl
    · cases h
  · split at h
    · simp only [Bool.and_eq_true] at h
      obtain ⟨⟨⟨⟨⟨⟨⟨h0, h1⟩, h2⟩, h3⟩, h4⟩, h5⟩, h6⟩, h7⟩ := h
      have e1 := beq_iff_eq.mp h1
      subst e1
      exact Res.of (n_max2 (ok.out (by simpa using h0)).calm (ok.isBl h2).1 (ok.isBl h2).2 (by simpa using h3) (by simpa using h4) (chkB_ok ok r h5 ka) (chkB_ok ok r h6 (dj_ok h7 kb)) (fun _ z => z) (fun _ z => .inl z) fun _ z => .inr z) fun _ => rfl
    · cases h
  · split at h
    · simp only [Bool.and_eq_true] at h
      obtain ⟨⟨⟨⟨⟨⟨⟨h0, h1⟩, h2⟩, h3⟩, h4⟩, h5⟩, h6⟩, h7⟩ := h
      have e1 := beq_iff_eq.mp h1
      subst e1
      exact Res.of (n_min2 (ok.out (by simpa using h0)).calm (ok.isBl h2).1 (ok.isBl h2).2 (by simpa using h3) (by simpa using h4) (chkB_ok ok r h5 ka) (chkB_ok ok r h6 (dj_ok h7 kb)) (fun _ z => z) (fun _ z => .inl z) fun _ z => .inr z) fun _ => rfl
    · cases h
  · cases h
theorem bd_ok (ok : Cok φ Γ sc k c) (ih : IHn φ Γ k n) {os : List B2} {a b : E} (h : chkE Γ (n + 1) sc e (.bd os a b) = true) (hk0 : ∀ j, kp j → j ∉ tchE a ++ tchE b) : Res c kp e (.bd os a b) := by
  have r := ih sc c ok
  obtain ⟨ka, kb⟩ := app2 hk0
  unfold chkE at h
  dsimp only at h
  split at h
  · simp only [Bool.and_eq_true] at h
    obtain ⟨⟨⟨⟨h1, h2⟩, h3⟩, h4⟩, h5⟩ := h
    exact Res.of (n_bin ok.fx.hK h1 (ne_of h2) (chkB_ok ok r h3 ka) (chkB_ok ok r h4 (dj_ok h5 kb)) (fun _ z => z) (fun _ z => .inl z) fun _ z => .inr z) fun _ => rfl
  · simp only [Bool.and_eq_true] at h
    obtain ⟨⟨⟨⟨⟨h1, h2⟩, h0⟩, h3⟩, h4⟩, h5⟩ := h
    exact .ofS (n_cmp ok.fx.hK ok.ut h1 (ne_of h2) (by simpa using h0) (chkB_ok ok r h3 ka) (chkB_ok ok r h4 (dj_ok h5 kb)) (fun _ z => z) (fun _ z => .inl z) fun _ z => .inr z)
  · simp only [Bool.and_eq_true] at h
    obtain ⟨⟨⟨⟨⟨h1, h2⟩, h0⟩, h3⟩, h4⟩, h5⟩ := h
    exact Res.of (n_ix ok.fx.hK ok.ut h1 (ne_of h2) (by simpa using h0) (chkB_ok ok r h3 ka) (chkB_ok ok r h4 (dj_ok h5 kb)) (fun _ z => z) (fun _ z => .inl z) fun _ z => .inr z) fun _ => rfl
  · cases h
theorem chain_ok (ok : Cok φ Γ sc k c) (ih : IHn φ Γ k n) {o p : B2} {a b d : E} (h : chkE Γ (n + 1) sc e (.chain o p a b d) = true) (hk0 : ∀ j, kp j → j ∉ tchE a ++ (tchE b ++ tchE d)) : Res c kp e (.chain o p a b d) := by
  have r := ih sc c ok
  obtain ⟨ka, kb⟩ := app2 hk0
  obtain ⟨kb, kd⟩ := app2 kb
  unfold chkE at h
  dsimp only at h
  split at h
  · simp only [Bool.and_eq_true] at h
    obtain ⟨⟨⟨⟨⟨⟨⟨h1, h2⟩, h3⟩,
                               h4⟩, h5⟩, h6⟩, h7⟩, h8⟩ := h
    exact .ofS (n_chain ok.fx.hK ok.ut h1 h2 (by simpa using h3) (chkB_ok ok r h4 ka) (chkB_ok ok r h5 (dj_ok h7 kb)) (chkB_ok ok r h6 (dj_ok h8 kd)) (fun _ z => z) (fun _ z => .inl z) (fun _ z => .inl z) (fun _ z => .inr z) fun _ z => .inr z)
  · cases h
theorem own_okE (ok : Cok φ Γ sc k c) (ih : IHn φ Γ k n) {op : Operator} {os : List B2} {kc f rf : Nat} {a b : E} (h : chkE Γ (n + 1) sc e (.own op os kc f rf a b) = true) (hk0 : ∀ j, kp j → j ∉ tchE a ++ tchE b) : Res c kp e (.own op os kc f rf a b) := by
  have r := ih sc c ok
  obtain ⟨ka, kb⟩ := app2 hk0
  unfold chkE at h
  dsimp only at h
  split at h
  · simp only [Bool.and_eq_true] at h
    obtain ⟨⟨⟨⟨⟨h1, h2⟩, h3⟩, h4⟩, h5⟩, h6⟩ := h
    have o := ok.out (by simpa using h1)
    have e2 := of_decide_eq_true h2
    subst e2
    obtain ⟨t, ht, hq⟩ := List.any_eq_true.mp h3
    simp only
             [Bool.and_eq_true] at hq
    obtain ⟨⟨⟨q1, q2⟩, q3⟩, q4⟩ := hq
    obtain ⟨T, J, b1, b2⟩ := ok.sys.op t ht
    have q1 := of_decide_eq_true q1
    have q2 := beq_iff_eq.mp q2
    have q3 := beq_iff_eq.mp q3
    have q4 := beq_iff_eq.mp q4
    subst q1 q2 q3 q4
    exact Res.of (s_own ok.fx T J (o.C _) (o.C _) ⟨o.room.hd, o.room.dp, o.room.un⟩ b1 b2 (no_pre fun o ho => bin_ok ok.fx.hK (List.all_eq_true.mp h4 o ho)) (r _ _ kp h5 ka).pe (r _ _ kp h6 kb).pe (fun _ z => z) fun _ z => z) fun _ => rfl
  · cases h
theorem ownc_okE (ok : Cok φ Γ sc k c) (ih : IHn φ Γ k n) {op : CmpOp} {os : List B2} {kc f rf : Nat} {a b : E} (h : chkE Γ (n + 1) sc e (.ownc op os kc f rf a b) = true) (hk0 : ∀ j, kp j → j ∉ tchE a ++ tchE b) : Res c kp e (.ownc op os kc f rf a b) := by
  have r := ih sc c ok
  obtain ⟨ka, kb⟩ := app2 hk0
  unfold chkE at h
  dsimp only at h
  split at h
  · simp only [Bool.and_eq_true] at h
    obtain ⟨⟨⟨⟨⟨⟨h1, h2⟩, h3⟩, h4⟩, h0⟩, h5⟩, h6⟩ := h
    have o := ok.out (by simpa using h1)
    have e2 := of_decide_eq_true h2
    subst e2
    obtain ⟨t, ht, hq⟩ := List.any_eq_true.mp h3
    simp only
             [Bool.and_eq_true] at hq
    obtain ⟨⟨⟨q1, q2⟩, q3⟩, q4⟩ := hq
    obtain ⟨T, J, b1, b2⟩ := ok.sys.cp t ht
    have q1 := of_decide_eq_true q1
    have q2 := beq_iff_eq.mp q2
    have q3 := beq_iff_eq.mp q3
    have q4 := beq_iff_eq.mp q4
    subst q1 q2 q3 q4
    have ut := ok.ut
    exact .ofS (s_ownc ok.fx (by omega) T J (o.C _) (o.C _) ⟨o.room.hd, o.room.dp, o.room.un⟩ b1 b2 (no_pre fun o ho => cmp_ok ok.fx.hK ok.ut (List.all_eq_true.mp h4 o ho)) (noMark (by simpa using h0)) (r _ _ kp h5 ka).pe (r _ _ kp h6 kb).pe (fun _ z => z) fun _ z => z)
  · cases h
theorem own1_okE (ok : Cok φ Γ sc k c) (ih : IHn φ Γ k n) {kc f : Nat} {a : E} (h : chkE Γ (n + 1) sc e (.own1 kc f a) = true) (ka : ∀ j, kp j → j ∉ tchE a) : Res c kp e (.own1 kc f a) := by
  have r := ih sc c ok
  unfold chkE at h
  dsimp only at h
  split at h
  · simp only [Bool.and_eq_true] at h
    obtain ⟨⟨h1, h2⟩, h3⟩ := h
    have o := ok.out (by simpa using h1)
    obtain ⟨T, b⟩ := ok.sys.ng _ (contains_of h2)
    exact Res.of (s_own1 ok.fx T (o.C _) ⟨o.room.hd, o.room.dp, o.room.un⟩ b (r _ _ kp h3 ka).pe fun _ z => z) fun _ => rfl
  · cases h
theorem has_okE (ok : Cok φ Γ sc k c) (ih : IHn φ Γ k n) {ng : Bool} {kc f i : Nat} {a : E} (h : chkE Γ (n + 1) sc e (.has ng kc f a i) = true) (hk : ∀ j, kp j → j ∉ i :: tchE a) : Res c kp e (.has ng kc f a i) := by
  have r := ih sc c ok
  unfold chkE at h
  dsimp only at h
  split at h
  · rename_i x op y p
    simp only
             [Bool.and_eq_true] at h
    obtain ⟨⟨⟨⟨h1, h2⟩, h3⟩, h4⟩, h5⟩ := h
    have o := ok.out (by simpa using h1)
    obtain ⟨T, b⟩ := ok.sys.hs _ (contains_of h3)
    have e2 := of_decide_eq_true h2
    subst e2
    obtain ⟨v1, v2, _⟩ := ok.isNm h5
    have hm : behindInMarks (if ng then CmpOp.NotIn else .In) y = false := noMark (by
      cases y <;> first | rfl | cases h5)
    exact .ofS (s_has ok.fx T (o.C _) ⟨o.room.hd, o.room.dp, o.room.un⟩ b (r _ _ kp h4 fun j z q => hk j z (List.mem_cons_of_mem _ q)).pe v1 v2 hm (fun _ z => z) fun j z q => hk j z (by rw [q]; exact List.mem_cons_self))
  · cases h
end
end VE

namespace VE
open PySem PySem.Spec
                     PyProof.Rows L2
section
variable {φ : Fns} {Γ : Gm} {sc : Scope} {k n : Nat} {c : Cc} {kp : Nat → Prop} {e : Expr}
theorem and_okE (ok : Cok φ Γ sc k c) (ih : IHn φ Γ k n) {a b : E} (h : chkE Γ (n + 1) sc e (.and a b) = true) (hk0 : ∀ j, kp j → j ∉ tchE a ++ tchE b) : Res c kp e (.and a b) := by
  have r := ih sc c ok
  obtain ⟨ka, kb⟩ := app2 hk0
  unfold chkE at h
  dsimp only at h
  split at h
  · simp only [Bool.and_eq_true] at h
    obtain ⟨⟨⟨h1, h2⟩,
                      h3⟩, h4⟩ := h
    refine .ofS (s_and ((r _ _ kp h2 ka).snd h1) ?_ (fun _ z => z) fun _ z => z)
    split at h4
    · exact s_one ((r _ _ kp h4 kb).snd h3)
    · exact (r _ _ kp h4 kb).snd h3
  · cases h
theorem or_okE (ok : Cok φ Γ sc k c) (ih : IHn φ Γ k n) {a b : E} (h : chkE Γ (n + 1) sc e (.or a b) = true) (hk0 : ∀ j, kp j → j ∉ tchE a ++ tchE b) : Res c kp e (.or a b) := by
  have r := ih sc c ok
  obtain ⟨ka, kb⟩ := app2 hk0
  unfold chkE at h
  dsimp only at h
  split at h
  · simp only [Bool.and_eq_true] at h
    obtain ⟨⟨⟨h1, h2⟩,
                      h3⟩, h4⟩ := h
    refine .ofS (s_or ((r _ _ kp h2 ka).snd h1) ?_ (fun _ z => z) fun _ z => z)
    split at h4
    · exact s_one ((r _ _ kp h4 kb).snd h3)
    · exact (r _ _ kp h4 kb).snd h3
  · cases h
theorem ite_okE (ok : Cok φ Γ sc k c) (ih : IHn φ Γ k n) {m a b : E} (h : chkE Γ (n + 1) sc e (.ite m a b) = true) (hk0 : ∀ j, kp j → j ∉ tchE m ++ (tchE a ++ tchE b)) : Res c kp e (.ite m a b) := by
  have r := ih sc c ok
  obtain ⟨km, ka⟩ := app2 hk0
  obtain ⟨ka, kb⟩ := app2 ka
  unfold chkE at h
  dsimp only at h
  split at h
  · simp only [Bool.and_eq_true] at h
    obtain ⟨⟨⟨⟨⟨h1, h2⟩, h3⟩, h4⟩, h5⟩, h6⟩ := h
    exact ⟨s_ite ((r _ _ kp h2 km).snd h1) ((r _ _ kp h4 ka).snd h3) ((r _ _ kp h6 kb).snd h5) (fun _ z => z) (fun _ z => z) fun _ z => z, fun z => by cases z⟩
  · cases h
theorem slc_okE (ok : Cok φ Γ sc k c) (ih : IHn φ Γ k n) {a : E} {lo hi : Option E} (h : chkE Γ (n + 1) sc e (.slc a lo hi) = true) (hk0 : ∀ j, kp j → j ∉ tchE a ++ (tchO lo ++ tchO hi)) : Res c kp e (.slc a lo hi) := by
  have r := ih sc c ok
  obtain ⟨ka, kl⟩ := app2 hk0
  obtain ⟨kl, kh⟩ := app2 kl
  unfold chkE at h
  dsimp only at h
  split at h
  · simp only [Bool.and_eq_true] at h
    obtain ⟨⟨⟨⟨h1, h2⟩, h3⟩, h4⟩, h5⟩ := h
    exact Res.of (s_slc ok.fx.hK (chkB_ok ok r h1 ka) (chkO_ok r h2 (dj_ok h4 kl)) (chkO_ok r h3 (dj_ok h5 kh)) (fun _ z => z) (fun _ z => .inl z) (fun _ z => .inl z) (fun _ z => .inr z) fun _ z => .inr z) fun _ => rfl
  · cases h
theorem fld_okE (ok : Cok φ Γ sc k c) (ih : IHn φ Γ k n) {a : E} {kc f : Nat} (h : chkE Γ (n + 1) sc e (.fld a kc f) = true) (ka : ∀ j, kp j → j ∉ tchE a) : Res c kp e (.fld a kc f) := by
  have r := ih sc c ok
  unfold chkE at h
  dsimp only at h
  split at h
  · simp only [Bool.and_eq_true] at h
    obtain ⟨⟨h1, h2⟩, h3⟩ := h
    exact Res.of (s_fld ok.fx.hK ok.fx.fc (tD_of (r _ _ kp h2 ka).pe) (by simpa using h1) (fsOf_ok ok h3)) fun _ => rfl
  · cases h
theorem call_okE (ok : Cok φ Γ sc k c) (ih : IHn φ Γ k n) {ck : CK} {f kw : Nat} {ms : List E} {dfl : List D} (h : chkE Γ (n + 1) sc e (.call ck f ms kw dfl) = true) (hk : ∀ j, kp j → j ∉ tchEs ms) : Res c kp e (.call ck f ms kw dfl) := by
  have r := ih sc c ok
  unfold chkE at h
  dsimp only at h
  split at h
  · split at h
    · simp only [Bool.and_eq_true] at h
      obtain ⟨⟨⟨h1, h2⟩,
                        h3⟩, h4⟩ := h
      have o := ok.out (by simpa using h1)
      obtain ⟨t, ht, hq⟩ := List.any_eq_true.mp h4
      simp only
               [Bool.and_eq_true] at hq
      obtain ⟨⟨q1, q2⟩, q3⟩ := hq
      have q1 := beq_iff_eq.mp q1
      have q2 := beq_iff_eq.mp q2
      subst q1 q2
      obtain ⟨s, hs, q4⟩ := List.any_eq_true.mp q3
      obtain ⟨f1, f2, f3⟩ := ok.sys.fn t ht
      obtain ⟨dvs, ds, b1, b2, b3⟩ := f3 s hs
      obtain ⟨p1, p2, p3, p4, p5, p6, p7, p8⟩ := chkC_ok (φ := φ) ok r q4 hk
      subst p1
      refine Res.of ?_ fun _ => rfl
      rw [← List.take_append_drop s.n ms]
      exact s_callG (kw := kw) ok.fx (o.C t.f) o.room (ok.gl h2) f1 f2 b1 b2 b3 (noDb_f h3) p3 p4 p2 p5 p7 p8
    · cases h
  · split at h
    · rename_i mo ms'
      split at h
      · simp only [Bool.and_eq_true] at h
        obtain ⟨⟨⟨⟨h1, h2⟩, h3⟩, h5⟩, h4⟩ := h
        have o := ok.out (by simpa using h1)
        obtain ⟨t, ht, hq⟩ := List.any_eq_true.mp h4
        simp only
                 [Bool.and_eq_true] at hq
        obtain ⟨⟨⟨q0, q1⟩, q2⟩, q3⟩ := hq
        have q0 := beq_iff_eq.mp q0
        have q1 := beq_iff_eq.mp q1
        have q2 := beq_iff_eq.mp q2
        subst q0 q1 q2
        obtain ⟨s, hs, q4⟩ := List.any_eq_true.mp q3
        obtain ⟨f1, f2, f3⟩ := ok.sys.mt t ht
        obtain ⟨dvs, ds, b1, b2, b3⟩ := f3 s hs
        obtain ⟨kk1, kk2⟩ := app2 (show ∀ j, kp j → j ∉ tchE _ ++ tchEs _ from hk)
        obtain ⟨p1, p2, p3, p4, p5, p6, p7, p8⟩ := chkC_ok (φ := φ) ok r q4 kk2
        subst p1
        obtain ⟨a1, a2⟩ := chkA1_ok ok r h5 kk1
        have k8 : ∀ i, kp i → i ∉ ioS (mo :: ms') := fun i z q => hk i z (ioS_tch q)
        refine Res.of ?_ fun _ => rfl
        have eq := List.take_append_drop s.n ms'
        rw [← eq] at k8 ⊢
        exact s_methK (kw := kw) ok.fx (o.C t.f) o.room rfl f1 f2 b1 b2 b3 a1 a2 p3 p4 p2 p5 (by simpa using h2) p6 h3 p7 k8
      · cases h
    · cases h
  · cases h
theorem make_okE (ok : Cok φ Γ sc k c) (ih : IHn φ Γ k n) {kc f : Nat} {ms : List E} {dfl : List D} (h : chkE Γ (n + 1) sc e (.make kc f ms dfl) = true) (hk : ∀ j, kp j → j ∉ tchEs ms) : Res c kp e (.make kc f ms dfl) := by
  have r := ih sc c ok
  unfold chkE at h
  dsimp only at h
  split at h
  · simp only [Bool.and_eq_true] at h
    obtain ⟨⟨⟨h1, h2⟩,
                      h3⟩, h4⟩ := h
    have o := ok.out (by simpa using h1)
    obtain ⟨t, ht, hq⟩ := List.any_eq_true.mp h4
    simp only
             [Bool.and_eq_true] at hq
    obtain ⟨⟨⟨q0, q1⟩, q2⟩, q3⟩ := hq
    have q0 := beq_iff_eq.mp q0
    have q1 := beq_iff_eq.mp q1
    have q2 := beq_iff_eq.mp q2
    subst q0 q1 q2
    obtain ⟨s, hs, q4⟩ := List.any_eq_true.mp q3
    obtain ⟨f1, f2, f4, f3⟩ := ok.sys.mks t ht
    obtain ⟨nk, dvs, ds, b1, b2, b3⟩ := f3 s hs
    obtain ⟨p1, p2, p3, p4, p5, p6, p7, p8⟩ := chkC_ok (φ := φ) ok r q4 hk
    subst p1
    rw [nk] at p4
    have e0 : ms.drop s.n = [] := by
      have q := p4.len.1
      exact List.length_eq_zero_iff.mp q
    have e1 : ms.take s.n = ms := by
      have q := List.take_append_drop s.n ms
      rw [e0, List.append_nil] at q
      exact q
    rw [e0, List.append_nil, e1] at p7 p8
    rw [e1] at p3
    exact Res.of (s_makeG ok.fx f1 (o.M t.f) o.room (ok.gl h2) f2 f4 b1 b2 b3 (noDb_f h3) p3 p7 p8) fun _ => rfl
  · cases h
theorem prop_okE (ok : Cok φ Γ sc k c) (ih : IHn φ Γ k n) {kc f : Nat} {ms : List E} (h : chkE Γ (n + 1) sc e (.prop ms kc f) = true) (hk : ∀ j, kp j → j ∉ tchEs ms) : Res c kp e (.prop ms kc f) := by
  have r := ih sc c ok
  unfold chkE at h
  dsimp only at h
  split at h
  · rename_i mo
    split at h
    · simp only [Bool.and_eq_true] at h
      obtain ⟨⟨⟨h1, h2⟩,
                        h3⟩, h4⟩ := h
      have o := ok.out (by simpa using h1)
      obtain ⟨t, ht, hq⟩ := List.any_eq_true.mp h4
      simp only
               [Bool.and_eq_true] at hq
      obtain ⟨⟨q0, q1⟩, q2⟩ := hq
      have q0 := beq_iff_eq.mp q0
      have q1 := beq_iff_eq.mp q1
      have q2 := beq_iff_eq.mp q2
      subst q0 q1 q2
      obtain ⟨f1, ⟨p, f2⟩, f3⟩ := ok.sys.pr t ht
      have hk1 : ∀ j, kp j → j ∉ tchE mo := fun j z q => hk j z (List.mem_append.mpr (.inl q))
      obtain ⟨a1, a2⟩ := chkA1_ok ok r h3 hk1
      refine Res.of (s_propG ok.fx (o.M t.f) o.room f1 f2 f3 a1 (by simpa using h2) fun σ H Q q => ?_) fun _ => rfl
      cases hm : isIo mo with
      | true =>
        cases mo with
        | io i => exact rd_propS (a2 i rfl) (fun j z w => hk1 j z (by rw [w]; simp [tchE])) q
        | _ => cases hm
      | false =>
        rw [tA1_e hm]
        exact rd_prop hm q
    · cases h
  · cases h
theorem isNm_pos {i : Nat} {x : Str} {p q : Pos} (h : isNm Γ sc i (.Name x p) = true) : isNm Γ sc i (.Name x q) = true := h
theorem efld_okE (ok : Cok φ Γ sc k c) {i kc f : Nat} (h : chkE Γ (n + 1) sc e (.efld i kc f) = true) : Res c kp e (.efld i kc f) := by
  unfold chkE at h
  dsimp only at h
  split at h
  · rename_i x p0 nm p
    simp only
             [Bool.and_eq_true] at h
    obtain ⟨⟨h1, h2⟩, h3⟩ := h
    obtain ⟨q, T⟩ := ok.ins i (of_decide_eq_true h1)
    obtain ⟨X0, oe, pn, hX, hz, hf⟩ := T.X
    obtain ⟨v1, v2, v3, _⟩ := ok.isNm (isNm_pos (q := p0) h2)
    have hn := fsOf_ok ok h3
    by_cases hq : q.c = kc
    · have hmem := T.xl
      exact Res.of (s_efld ok.fx hX v1 T.xc (ok.fx.hK ▸ ok.sys.fxx.xf _ T.xl) (fun _ => by
        rw [← ok.fx.hK]
        exact ok.sys.fxx.no _ T.xl nm (hq ▸ List.mem_of_getElem? hn)) hz hf v3 (T.lv v2) hn (hq ▸ ok.sys.fxx.nd _ T.xl)) fun _ => rfl
    · refine Res.of ⟨fun pins s0 σ H Q I ⟨F, tl, s, r⟩ => ?_⟩ fun _ => rfl
      unfold evO at r
      rw [T.xc] at r
      have e : (if i = i ∧ q.c = kc then lift ((q.fs[f]?).map O.v) (era c.n tl) else (Out.bad : Out O)) = .bad := if_neg fun z => hq z.2
      have r : RunO c kp σ tl (if i = i ∧ q.c = kc then lift ((q.fs[f]?).map O.v) (era c.n tl) else .bad) Q := r
      rw [e] at r
      exact r.elim
  · cases h
end
end VE

namespace VE
open PySem PySem.Spec
                     PyProof.Rows L2
section
variable {φ : Fns} {Γ : Gm} {k : Nat}
theorem eisi_okE {sc : Scope} {n : Nat} {c : Cc} {kp : Nat → Prop} {e : Expr} (ok : Cok φ Γ sc k c) {i kc : Nat} (h : chkE Γ (n + 1) sc e (.eisi i kc) = true) : Res c kp e (.eisi i kc) := by
  unfold chkE at h
  dsimp only at h
  split at h
  · rename_i f p0 x p1 ty p2 p
    simp only
             [Bool.and_eq_true] at h
    obtain ⟨⟨⟨⟨h1, h2⟩, h3⟩, h4⟩, h5⟩ := h
    obtain ⟨q, T⟩ := ok.ins i (of_decide_eq_true h1)
    obtain ⟨v1, v2, v3, _⟩ := ok.isNm (isNm_pos (q := p1) h4)
    have e1 := beq_iff_eq.mp h2
    subst e1
    obtain ⟨g1, g2⟩ := ok.isBl h3
    rcases Bool.or_eq_true_iff.mp h5 with z | z
    · simp only [Bool.and_eq_true] at z
      obtain ⟨⟨z1, z2⟩, z3⟩ := z
      have e2 := beq_iff_eq.mp z2
      subst e2
      obtain ⟨b1, b2⟩ := ok.isBl z3
      exact Res.of (s_eisi ok.sys.fxx ok.fx.hK T v2 g1 g2 v1 (pe_bltn (v := .ty "ValueError") b1 b2 (by decide +kernel) rfl (by decide) (by decide)) (.inl ⟨beq_iff_eq.mp z1, rfl⟩) rfl rfl) fun _ => rfl
    · simp only [Bool.and_eq_true] at z
      obtain ⟨⟨z1, z2⟩, z3⟩ := z
      obtain ⟨m1, m2⟩ := ok.sys.xn _ (contains_of z3)
      exact Res.of (s_eisi ok.sys.fxx ok.fx.hK T v2 g1 g2 v1 (pe_glob (v := .ref (c.S.cn kc)) (ok.gl z1) m1 rfl (noDb_f z2)) (.inr ⟨m2, rfl⟩) rfl rfl) fun _ => rfl
  · cases h
theorem chkE_ok : ∀ n, IHn φ Γ k n
  | 0 => fun sc c ok e m kp h _ => by cases h
  | n + 1 => fun sc c ok e m kp h hk => by
    have ih := chkE_ok n
    cases m with
    | var i =>
      obtain ⟨v1, v2, _, _, v4⟩ := ok.isNm (show isNm Γ sc i e = true from h)
      exact Res.of (s_var v1 fun j z q => hk j z (by rw [q]; simp [tchE])) v4
    | mv i =>
      obtain ⟨v1, v2, _, _, v4⟩ := ok.isNm (show isNm Γ sc i e = true from h)
      exact Res.of (s_mv ok.fx v1 fun j z q => hk j z (by rw [q]; simp [tchE])) v4
    | k d =>
      obtain ⟨v, p, q, r⟩ := ok.con (show conB Γ sc e d = true from h)
      refine Res.of ?_ r
      have e1 : evO c.G (.k d) = fun env => Out.ok (.v d) env := by funext env; unfold evO; rfl
      rw [e1]
      exact s_k p q
    | plcf i kc f =>
      obtain ⟨o, nm, pos, rfl, p, q, z⟩ := ok.isFl (show isFl Γ sc i kc f e = true from h)
      exact Res.of (s_plcf ok.fx.hK ok.fx.fc p q z) fun _ => rfl
    | b1 o a => exact b1_ok ok ih h hk
    | b2 o a b => exact b2_ok ok ih h hk
    | bd os a b => exact bd_ok ok ih h hk
    | chain o p a b d => exact chain_ok ok ih h hk
    | own op os kc f rf a b => exact own_okE ok ih h hk
    | ownc op os kc f rf a b => exact ownc_okE ok ih h hk
    | own1 kc f a => exact own1_okE ok ih h hk
    | has ng kc f a i => exact has_okE ok ih h hk
    | and a b => exact and_okE ok ih h hk
    | or a b => exact or_okE ok ih h hk
    | ite m a b => exact ite_okE ok ih h hk
    | slc a lo hi => exact slc_okE ok ih h hk
    | fld a kc f => exact fld_okE ok ih h hk
    | tup es =>
      unfold chkE at h
      dsimp only at h
      split at h
      · exact Res.of (s_tup (chkVs_ok (ih sc c ok) h hk).pa) fun _ => rfl
      · cases h
    | lst es =>
      unfold chkE at h
      dsimp only at h
      split at h
      · exact Res.of (s_lst (chkVs_ok (ih sc c ok) h hk).pa) fun _ => rfl
      · cases h
    | dct ks es =>
      unfold chkE at h
      dsimp only at h
      split at h
      · exact Res.of s_dct0 fun _ => rfl
      · obtain ⟨h1, h2⟩ := Bool.and_eq_true_iff.mp h
        rw [beq_iff_eq.mp h1]
        obtain ⟨v, p, q, r⟩ := ok.con h2
        exact Res.of (s_dct1 pe_str p q) fun _ => rfl
      · cases h
    | call ck f ms kw dfl => exact call_okE ok ih h hk
    | make kc f ms dfl => exact make_okE ok ih h hk
    | prop ms kc f => exact prop_okE ok ih h hk
    | comp elt t ik its cond => exact comp_ok ok ih h hk
    | efld i kc f => exact efld_okE ok h
    | eisi i kc => exact eisi_okE ok h
    | _ => cases h
end
end VE

namespace VE
open PySem PySem.Spec
                     PyProof.Rows L2

mutual
def tchS (n : Nat) : S → List Nat
  | .asg i e _ => i :: tchE e
  | .asgT is e => is ++ tchE e
  | .setIx i x e => i :: (tchE x ++ tchE e)
  | .setK i x e => i :: (tchE x ++ tchE e)
  | .setX i x e => i :: (tchE x ++ tchE e)
  | .setF i _ _ e => i :: tchE e
  | .aug i _ e => i :: tchE e
  | .app i _ e => i :: tchE e
  | .ext i _ e => i :: tchE e
  | .clear i => [i]
  | .expr e => tchE e
  | .ret e => tchE e
  | .ifS c a b => tchE c ++ (tchSs n a ++ tchSs n b)
  | .forS t _ its body => tslots t ++ (tchEs its ++ tchSs n body)
  | .whileS _ c body => tchE c ++ tchSs n body
  | .raise _ es => tchEs es
  | .tryS _ _ => List.range n
  | _ => []
def tchSs (n : Nat) : List S → List Nat
  | [] => []
  | s :: ss => tchS n s ++ tchSs n ss
end
def isComp : E → Bool
  | .comp _ _ _ _ _ => true
  | _ => false
def notD : E → Bool
  | .comp _ _ .dct _ _ => false
  | _ => true
def isTupE : Expr → Bool
  | .Tuple _ _ _ => true
  | _ => false
def isPlc0 : E → Bool
  | .plc _ => true
  | _ => false
def chkL (r : Stmt → S → Bool) : List Stmt → List S → Bool
  | [], [] => true
  | st :: sts, s :: ss => r st s && chkL r sts ss
  | _, _ => false
/-- name = [..]: how it is stored -/
def swB (sc : Scope) (x : Str) (p : Pos) : Expr → Bool
  | .ListComp _ _ sco vp => sc.names.lookup x == some .local && (match sc.kind with | .function => true | _ => false) && p.line == vp.line && !(sco.names.any fun (n, k) => n == x && (k == .local || k == .cell))
  | _ => false
def cellB (sc : Scope) (x : Str) (e : Expr) : Bool := match e with
  | .ListComp _ _ _ _ => sc.names.lookup x == some .cell
  | _ => false
def chkH (Γ : Gm) (sc : Scope) (r : Gm → Stmt → S → Bool) : List ExceptHandler → List (Nat × Option Nat × List S) → Bool
  | [], [] => true
  | .ExceptHandler (some (.Name x _)) nm (b :: suite) _ :: hds, (k, o, ss) :: hs => glB sc x && noDb x && Γ.T.xn.contains (k, x) && (match nm, o with
      | none, none => chkL (r { Γ with xs := some 1000000 }) (b :: suite) ss
      | some n, some i => Γ.N[i]? == some n && sc.names.lookup n == some .local && decide (Γ.np ≤ i) && Γ.lk[i]? == some true && chkL (r { Γ with xs := some i }) (b :: suite) ss
      | _, _ => false) && chkH Γ sc r hds hs
  | _, _ => false
def chkS : Nat → Gm → Scope → Stmt → S → Bool
  | 0, _, _, _, _ => false
  | n + 1, Γ, sc, st, s => match s with
    | .asg i e _ => (match st with
      | .Assign [.Name x p] ex _ => tgNm Γ sc sc i x && (if isCmp ex then (Γ.xs.isNone && isComp e && ((swB sc x p ex && notD e) || cellB sc x ex)) else true) && chkE Γ n sc ex e
      | _ => false)
    | .asgT is e => (match st with
      | .Assign [.Tuple es k p] ex _ => Γ.xs.isNone && chkT Γ sc sc (.many is) (.Tuple es k p) && !isCmp ex && !isTupE ex && chkE Γ n sc ex e
      | _ => false)
    | .setX i k e => (match st with
      | .Assign [.Subscript o ie _] ex _ => isNm Γ sc i o && !isCmp ex && !isSlc ie && !(tchE k).contains i && chkE Γ n sc ie k && chkE Γ n sc ex e
      | _ => false)
    | .setF i k f e => (match st with
      | .Assign [.Attribute o nm _] ex _ => isNm Γ sc i o && (fsOf Γ k)[f]? == some nm && !isCmp ex && chkE Γ n sc ex e
      | _ => false)
    | .aug i ng e => (match st with
      | .AugAssign (.Name x _) op ex _ => tgNm Γ sc sc i x && decide (op = if ng then .Sub else .Add) && chkE Γ n sc ex e
      | _ => false)
    | .app i none e => (match st with
      | .Expr (.Call (.Attribute o m ap) [ex] [] cp) _ => m == ("append" : Str) && isNm Γ sc i o && !isStar ex && ap.endLine == cp.line && !(tchE e).contains i && chkE Γ n sc ex e
      | _ => false)
    | .expr e => (match st with
      | .Expr ex _ => !isCmp ex && chkE Γ n sc ex e
      | _ => false)
    | .ret e => if isPlc0 e then true else (match st with
      | .Return (some ex) _ => chkE Γ n sc ex e
      | _ => false)
    | .ret0 => (match st with
      | .Return none _ => true
      | _ => false)
    | .ifS c a b => (match st with
      | .If ex sa sb _ => noIte c && chkE Γ n sc ex c && chkL (chkS n Γ sc) sa a && chkL (chkS n Γ sc) sb b
      | _ => false)
    | .forS t ik its body => (match st with
      | .For tg it sb [] _ => Γ.xs.isNone && chkI Γ sc (chkE Γ n sc) tg it ik its && chkT Γ sc sc t tg && !isSetX it && decide (lockS ik its = some none) && (itPl its).all (fun i => !(tslots t).contains i && !(tchSs Γ.N.length body).contains i && decide (i < Γ.N.length)) && chkL (chkS n Γ sc) sb body
      | _ => false)
    | .whileS _ c body => (match st with
      | .While ex sb [] _ => Γ.xs.isNone && noIte c && chkE Γ n sc ex c && chkL (chkS n Γ sc) sb body
      | _ => false)
    | .brk => (match st with
      | .Break _ => true
      | _ => false)
    | .cont => (match st with
      | .Continue _ => true
      | _ => false)
    | .pass => (match st with
      | .Pass _ => true
      | _ => false)
    | .raise k ms => (match st with
      | .Raise (some (.Call (.Name x _) es [] _)) none _ => Γ.xs.isNone && glB sc x && noDb x && (Γ.T.ex.any fun t => t.c == k && t.x == x && t.ps.length == es.length) && chkVs (chkE Γ n sc) es ms
      | _ => false)
    | .tryS body hs => (match st with
      | .Try sb (h0 :: hds) [] [] _ => Γ.xs.isNone && chkL (chkS n Γ sc) sb body && chkH Γ sc (fun Γ' => chkS n Γ' sc) (h0 :: hds) hs
      | _ => false)
    | _ => false
end VE

namespace VE
open PySem PySem.Spec
                     PyProof.Rows L2
structure Sok (φ : Fns) (Γ : Gm) (sc : Scope) (k : Nat) (c : Cc) : Prop where
  ok : Cok φ Γ sc k c
  po : Γ.xs = none → PassesOwn (model c.X.prog c.X.w) c.X.A c.X.env c.X.xe
  fn : ∀ x, c.X.fn x = true
  stk : c.X.stack = c.X.env :: c.X.outer
  fr : c.X.env.frame = some c.X.env.locals
  big : c.n ≤ 1000000
  lvn : Γ.xs = none → ∀ i, Γ.np ≤ i → c.lv i = none
/-- a checker of statements, as far as it is right -/
def RokS (c : Cc) (r : Stmt → S → Bool) : Prop := ∀ st s (kp : Nat → Prop), r st s = true → (∀ j, kp j → j ∉ tchS c.n s) → (∀ j, kp j → j < c.n) → PS c.X st (tS c kp (evS c.G s))
section
variable {φ : Fns} {Γ : Gm} {sc : Scope} {k n : Nat} {c : Cc} {kp : Nat → Prop}
theorem chkL_ok {r : Stmt → S → Bool} (hr : RokS c r) : ∀ {sts : List Stmt} {ss : List S}, chkL r sts ss = true → (∀ j, kp j → j ∉ tchSs c.n ss) → (∀ j, kp j → j < c.n) → PSs c.X sts (tS c kp (evSs c.G ss))
  | [], [], _, _, _ => ss_nil
  | st :: sts, s :: ss, h, hk, hn => by
    obtain ⟨h1, h2⟩ := Bool.and_eq_true_iff.mp h
    exact ss_cons (hr st s kp h1 (fun j z q => hk j z (List.mem_append.mpr (.inl q))) hn) (chkL_ok hr h2 (fun j z q => hk j z (List.mem_append.mpr (.inr q))) hn) (fun _ z => z) fun _ z => z
  | [], _ :: _, h, _, _ => by cases h
  | _ :: _, [], h, _, _ => by cases h
theorem hd_tl {a : Nat} {l : List Nat} (hk : ∀ j, kp j → j ∉ a :: l) : (∀ j, kp j → j ≠ a) ∧ ∀ j, kp j → j ∉ l := ⟨fun j z q => hk j z (by rw [q]; exact List.mem_cons_self), fun j z q => hk j z (List.mem_cons_of_mem _ q)⟩
abbrev IHe (φ : Fns) (k n : Nat) : Prop := ∀ (Γ : Gm) (sc : Scope) (c : Cc), Cok φ Γ sc k c → Rok c (chkE Γ n sc)
theorem swap_cell {x : Str} {p : Pos} {ex : Expr} {l : Nat} (sk : Sok φ Γ sc k c) (h : cellB sc x ex = true) : swapsWith ex (some (.Name x p)) l c.X.env = pure false := by
  cases ex with
  | ListComp el gs sco vp =>
    have e : c.X.env.kindOf x = some .cell := by
      unfold PySem.Env.kindOf
      rw [sk.ok.sc]
      exact beq_iff_eq.mp h
    unfold swapsWith
    simp only [e]
    have : (some NameKind.cell == some NameKind.local) = false := rfl
    rw [this, Bool.and_false]
    rfl
  | _ => cases h
theorem asg_okS (sk : Sok φ Γ sc k c) {st : Stmt} {i : Nat} {e : E} {fz : Bool} (h : chkS (n + 1) Γ sc st (.asg i e fz) = true) (hk : ∀ j, kp j → j ∉ i :: tchE e) : PS c.X st (tS c kp (evS c.G (.asg i e fz))) := by
  have ok := sk.ok
  have r := chkE_ok (φ := φ) (Γ := Γ) (k := k) n sc c ok
  obtain ⟨ki, ke⟩ := hd_tl hk
  unfold chkS at h
  dsimp only at h
  split at h
  · rename_i x p ex pos
    simp only
             [Bool.and_eq_true] at h
    obtain ⟨⟨h1, h2⟩, h3⟩ := h
    obtain ⟨_, hin, e1, hl, hf⟩ := tgNm_ok (p := p) ok.N ok.sc ok.fx.nn (fun y _ => sk.fn y) h1
    cases hc : isCmp ex with
    | false => exact s_asg ok.fx e1 hl (r _ _ kp h3 ke).pe (noSwap hc) hf (fun _ z => z) ki
    | true =>
      rw [if_pos hc] at h2
      simp only [Bool.and_eq_true] at h2
      obtain ⟨⟨hx, h4⟩, h5⟩ := h2
      rcases Bool.or_eq_true_iff.mp h5 with h5 | h5
      · cases e with
        | comp elt t ik its cond =>
          cases n with
          | zero => cases h3
          | succ n =>
            obtain ⟨el, tg, it, ifs, sco, vp, rfl, R⟩ := comp_parts ok (chkE_ok n) h3 ke
            rcases R.wk with ⟨i0, rfl, rfl, v1, v2⟩ | ⟨z1, z2⟩
            · cases (Bool.and_eq_true_iff.mp h5).2
            · have h5 := (Bool.and_eq_true_iff.mp h5).1
              simp only [swB, Bool.and_eq_true] at h5
              obtain ⟨⟨⟨q1, q2⟩, q3⟩, q4⟩ := h5
              have hy : c.X.env.scope.names.lookup x = some .local := by rw [ok.sc]; exact beq_iff_eq.mp q1
              have hkk : c.X.env.scope.kind = .function := by
                rw [ok.sc]
                cases e2 : sc.kind <;> rw [e2] at q2 <;> first | rfl | cases q2
              have hsw := sw_true (elt := el) (gs := [⟨tg, it, ifs, 0⟩]) (l := pos.line) hkk hy q3 (by simpa using q4)
              have main := ps_setLc (spos := pos) R.o.calm ok.fx.nn e1 hy hsw z2 R.bo (g := gT c.X.K t) (fun s H C cl fp => R.P.hg _ ⟨s, H, C, cl, fp, rfl⟩) (fun s H C cl fp => R.P.ct _ ⟨s, H, C, cl, fp, rfl⟩) (fun s H C cl fp => R.P.et _ ⟨s, H, C, cl, fp, rfl⟩) R.hs
              rw [R.os] at main
              exact s_asgG (kpa := kp) ok.fx main hin (rd_comp (kq := fun i => i ∈ itPl its) ok.fx z1 R.nd R.hb R.lk (fun _ z => z) (fun j z => ⟨.inl z, (R.k1 j z).1⟩) fun j z => ⟨.inr z, R.k2 j z⟩) (fun _ z => z) ki
        | _ => cases h4
      · exact s_asg ok.fx e1 hl (r _ _ kp h3 ke).pe (swap_cell sk h5) hf (fun _ z => z) ki
  · cases h
end
end VE

namespace VE
open PySem PySem.Spec
                     PyProof.Rows L2
section
variable {φ : Fns} {Γ : Gm} {sc : Scope} {k n : Nat} {c : Cc} {kp : Nat → Prop}
/-- where a try's body stands -/
theorem Sok.tr (sk : Sok φ Γ sc k c) (hx : Γ.xs = none) {W : WX} {pn : List (Addr × Obj)} {xe : Value → Shared → Prop} (tk : Takes (c.X.tr pn xe) W) (po : PassesOwn (model c.X.prog c.X.w) c.X.A c.X.env xe) : Sok φ Γ sc k (c.tr pn xe W) := by
  have ok := sk.ok
  have o := ok.out hx
  exact ⟨⟨⟨ok.fx.hK, ok.fx.nn, ok.fx.fc, ok.fx.lk, tk⟩, ok.N, ok.sc, ok.lk, ok.ut, ok.sys, fun _ => ⟨o.calm, o.room, o.xc, o.C, o.M⟩, fun i z => by rw [hx] at z; cases z⟩, fun _ => po, sk.fn, sk.stk, sk.fr, sk.big, sk.lvn⟩
/-- where a handler's suite stands -/
theorem Sok.su (sk : Sok φ Γ sc k c) {i : Nat} {x : VE.X} {a : Addr} {d : Option Addr} {oe : Obj} {pn : List (Addr × Obj)} (hx : x.c ∈ c.G.xl) (hz : Zc (.ref (c.S.cn x.c)) d oe) (hf : ∃ vs, oe.data = .fields vs) (hl : i < c.n → Γ.lk[i]? = some true) : Sok φ { Γ with xs := some i } sc k (c.su ((a, oe) :: pn) i x a d) := by
  have ok := sk.ok
  refine ⟨⟨⟨ok.fx.hK, ok.fx.nn, ok.fx.fc, fun j v e => ?_, fun u s' ⟨_, _, _, _, _, _, _, _, _, _, _, _, _, _, _, _, w⟩ => w⟩, ok.N, ok.sc, ok.lk, ok.ut, ok.sys, (fun z => by cases z), fun j z => ?_⟩, (fun z => by cases z), sk.fn, sk.stk, sk.fr, sk.big, fun z => by cases z⟩
  · have e : (if j = i ∧ i < c.n then some (V.ref a) else c.lv j) = some v := e
    split at e
    · rename_i q
      show c.G.lk[j]? = some true
      rw [ok.lk, q.1]
      exact hl q.2
    · exact ok.fx.lk j v e
  · cases z
    exact ⟨x, ⟨c.X, oe, pn, rfl, hz, hf⟩, rfl, hx, fun h => by
      show (if i = i ∧ i < c.n then some (V.ref a) else c.lv i) = _
      rw [if_pos ⟨rfl, h⟩]⟩
abbrev IHs (φ : Fns) (k n : Nat) : Prop := ∀ (Γ : Gm) (sc : Scope) (c : Cc), Sok φ Γ sc k c → RokS c (chkS n Γ sc)
theorem chkH_ok (sk : Sok φ Γ sc k c) (hx : Γ.xs = none) (ih : IHs φ k n) (hkp : ∀ j, ¬ kp j) : ∀ {hds : List ExceptHandler} {hs : List (Nat × Option Nat × List S)}, chkH Γ sc (fun Γ' => chkS n Γ' sc) hds hs = true → Hds c kp hds hs
  | [], [], _ => .nil
  | [], _ :: _, h => by cases h
  | _ :: _, [], h => by unfold chkH at h; split at h <;> first | contradiction | cases h
  | hd :: hds, (kk, o, ss) :: hs, h => by
    unfold chkH at h
    split at h
    · rename_i e1 _
      cases e1
    · rename_i x p nm b suite hp hds' k' o' ss' hs' e1 e2
      cases e1
      cases e2
      simp only
               [Bool.and_eq_true] at h
      obtain ⟨⟨⟨⟨h1, h2⟩, h3⟩, h4⟩, h5⟩ := h
      have r := chkH_ok sk hx ih hkp h5
      obtain ⟨m1, m2⟩ := sk.ok.sys.xn _ (contains_of h3)
      have hn : Names c.X x (.ref (c.S.cn kk)) := ⟨sk.ok.gl h1, noDb_f h2, .inl m1⟩
      split at h4
      · refine .only hn m2 (fun x a d oe pn hxl hz hf => ?_) r
        exact chkL_ok (c := c.su ((a, oe) :: pn) 1000000 x a d) (ih _ sc _ (sk.su hxl hz hf fun z => absurd z (by have := sk.big; omega))) h4 (fun j z => absurd z (hkp j)) fun j z => absurd z (hkp j)
      · rename_i nn i
        simp only [Bool.and_eq_true] at h4
        obtain ⟨⟨⟨⟨q1, q2⟩, q3⟩, q4⟩, q5⟩ := h4
        refine .named (i := i) hn m2 (by rw [sk.ok.N]; exact beq_iff_eq.mp q1) ?_ (sk.lvn hx i (of_decide_eq_true q3)) (fun x a d oe pn hxl hz hf => ?_) r
        · unfold PySem.Env.kindOf
          rw [sk.ok.sc]
          exact beq_iff_eq.mp q2
        · exact chkL_ok (c := c.su ((a, oe) :: pn) i x a d) (ih _ sc _ (sk.su hxl hz hf fun _ => beq_iff_eq.mp q4)) q5 (fun j z => absurd z (hkp j)) fun j z => absurd z (hkp j)
      · cases h4
    · cases h
theorem not_c {l : List Nat} {i : Nat} (h : (!l.contains i) = true) : i ∉ l := fun q => by
  have := List.contains_iff_mem.mpr q
  rw [this] at h
  cases h
theorem for_okS (sk : Sok φ Γ sc k c) (ih : RokS c (chkS n Γ sc)) {st : Stmt} {t : Tgt} {ik : ItK} {its : List E} {body : List S} (h : chkS (n + 1) Γ sc st (.forS t ik its body) = true) (hk : ∀ j, kp j → j ∉ tslots t ++ (tchEs its ++ tchSs c.n body)) (hn : ∀ j, kp j → j < c.n) : PS c.X st (tS c kp (evS c.G (.forS t ik its body))) := by
  have ok := sk.ok
  have r := chkE_ok (φ := φ) (Γ := Γ) (k := k) n sc c ok
  obtain ⟨k1, k2⟩ := app2 hk
  obtain ⟨k2, k4⟩ := app2 k2
  unfold chkS at h
  dsimp only at h
  split at h
  · rename_i tg it sb pos
    simp only
             [Bool.and_eq_true] at h
    obtain ⟨⟨⟨⟨⟨⟨h1, h2⟩, h3⟩,
                              h4⟩, h5⟩, h6⟩, h7⟩ := h
    have hx : Γ.xs = none := by simpa using h1
    have o := ok.out hx
    have nn : c.n = Γ.N.length := by show c.X.N.length = _; rw [ok.N]
    have pl : ∀ i ∈ itPl its, i ∉ tslots t ∧ i ∉ tchSs c.n body ∧ i < c.n := fun i hi => by
      have q := List.all_eq_true.mp h6 i hi
      simp only [Bool.and_eq_true] at q
      exact ⟨not_c q.1.1, by rw [nn]; exact not_c q.1.2, by rw [nn]; exact of_decide_eq_true q.2⟩
    obtain ⟨g1, g2⟩ := chkT_ok ok.N ok.sc ok.fx.nn (fun y _ => sk.fn y) o.calm h3
    exact s_for (kq := fun i => i ∈ itPl its) (kb := fun i => kp i ∨ i ∈ itPl its) ok.fx (sk.po hx) o.calm (chkI_ok ok r h2 k2 fun _ z => z) g1 (chkL_ok ih h7 (fun j z => z.elim (k4 j) fun z => (pl j z).2.1) fun j z => z.elim (hn j) fun z => (pl j z).2.2) (isSetX_ok h4) (of_decide_eq_true h5) g2 (fun _ z => z) (fun _ z => .inl z) (fun _ z => .inr z) fun j z => z.elim (k1 j) fun z => (pl j z).1
  · cases h
theorem setX_okS (sk : Sok φ Γ sc k c) {st : Stmt} {i : Nat} {x e : E} (h : chkS (n + 1) Γ sc st (.setX i x e) = true) (hk : ∀ j, kp j → j ∉ i :: (tchE x ++ tchE e)) : PS c.X st (tS c kp (evS c.G (.setX i x e))) := by
  have ok := sk.ok
  have r := chkE_ok (φ := φ) (Γ := Γ) (k := k) n sc c ok
  obtain ⟨ki, k2⟩ := hd_tl hk
  obtain ⟨kx, ke⟩ := app2 k2
  unfold chkS at h
  dsimp only at h
  split at h
  · simp only [Bool.and_eq_true] at h
    obtain ⟨⟨⟨⟨⟨h1, h2⟩, h3⟩, h4⟩, h5⟩, h6⟩ := h
    obtain ⟨v1, v2, _⟩ := ok.isNm h1
    have ut := ok.ut
    exact s_setX (kpb := fun j => kp j ∨ j = i) ok.fx (by omega) v1 (r _ _ _ h5 fun j z => z.elim (kx j) fun z => by rw [z]; exact not_c h4).pe (r _ _ kp h6 ke).pe (by simpa using h2) (by simpa using h3) (.inr rfl) (fun _ z => z) (fun _ z => .inl z) ki
  · cases h
theorem setF_okS (sk : Sok φ Γ sc k c) {st : Stmt} {i kc f : Nat} {e : E} (h : chkS (n + 1) Γ sc st (.setF i kc f e) = true) (hk : ∀ j, kp j → j ∉ i :: tchE e) : PS c.X st (tS c kp (evS c.G (.setF i kc f e))) := by
  have ok := sk.ok
  have r := chkE_ok (φ := φ) (Γ := Γ) (k := k) n sc c ok
  obtain ⟨ki, ke⟩ := hd_tl hk
  unfold chkS at h
  dsimp only at h
  split at h
  · simp only [Bool.and_eq_true] at h
    obtain ⟨⟨⟨h1, h2⟩,
                      h3⟩, h4⟩ := h
    obtain ⟨v1, v2, _⟩ := ok.isNm h1
    exact s_setF ok.fx v1 v2 (r _ _ kp h4 ke).pe (fsOf_ok ok h2) (noSwap (by simpa using h3)) (fun _ z => z) ki
  · cases h
theorem app_okS (sk : Sok φ Γ sc k c) {st : Stmt} {i : Nat} {e : E} (h : chkS (n + 1) Γ sc st (.app i none e) = true) (hk : ∀ j, kp j → j ∉ i :: tchE e) : PS c.X st (tS c kp (evS c.G (.app i none e))) := by
  have ok := sk.ok
  have r := chkE_ok (φ := φ) (Γ := Γ) (k := k) n sc c ok
  obtain ⟨ki, ke⟩ := hd_tl hk
  unfold chkS at h
  dsimp only at h
  split at h
  · simp only [Bool.and_eq_true] at h
    obtain ⟨⟨⟨⟨⟨h1, h2⟩, h3⟩, h4⟩, h5⟩, h6⟩ := h
    have e1 := beq_iff_eq.mp h1
    subst e1
    obtain ⟨v1, v2, v3, _⟩ := ok.isNm h2
    exact s_app (kpa := fun j => kp j ∨ j = i) ok.fx v1 v2 (r _ _ _ h6 fun j z => z.elim (ke j) fun z => by rw [z]; exact not_c h5).pe v3 (by simpa using h3) h4 rfl (.inr rfl) (fun _ z => .inl z) ki
  · cases h
theorem aug_okS (sk : Sok φ Γ sc k c) {st : Stmt} {i : Nat} {ng : Bool} {e : E} (h : chkS (n + 1) Γ sc st (.aug i ng e) = true) (hk : ∀ j, kp j → j ∉ i :: tchE e) : PS c.X st (tS c kp (evS c.G (.aug i ng e))) := by
  have ok := sk.ok
  have r := chkE_ok (φ := φ) (Γ := Γ) (k := k) n sc c ok
  obtain ⟨ki, ke⟩ := hd_tl hk
  unfold chkS at h
  dsimp only at h
  split at h
  · rename_i x p op ex pos
    simp only
             [Bool.and_eq_true] at h
    obtain ⟨⟨h1, h2⟩, h3⟩ := h
    obtain ⟨_, hin, e1, hl, hf⟩ := tgNm_ok (p := p) ok.N ok.sc ok.fx.nn (fun y _ => sk.fn y) h1
    exact s_aug ok.fx e1 hl (r _ _ kp h3 ke).pe (of_decide_eq_true h2) hf (fun _ z => z) ki
  · cases h
theorem asgT_okS (sk : Sok φ Γ sc k c) {st : Stmt} {is : List Nat} {e : E} (h : chkS (n + 1) Γ sc st (.asgT is e) = true) (hk : ∀ j, kp j → j ∉ is ++ tchE e) : PS c.X st (tS c kp (evS c.G (.asgT is e))) := by
  have ok := sk.ok
  have r := chkE_ok (φ := φ) (Γ := Γ) (k := k) n sc c ok
  obtain ⟨ki, ke⟩ := app2 hk
  unfold chkS at h
  dsimp only at h
  split at h
  · rename_i es kk p ex pos
    simp only
             [Bool.and_eq_true] at h
    obtain ⟨⟨⟨⟨h1, h2⟩, h3⟩, h4⟩, h5⟩ := h
    have o := ok.out (by simpa using h1)
    obtain ⟨g1, g2⟩ := chkT_ok ok.N ok.sc ok.fx.nn (fun y _ => sk.fn y) o.calm h2
    have hc : isCmp ex = false := by simpa using h3
    exact s_asgT ok.fx (r _ _ kp h5 ke).pe g1 (noSwapS hc) (fun te q => ps_asg q g1 (noSwapS hc) (by
      cases ex <;> first | rfl | cases h4)) g2 (fun _ z => z) ki
  · cases h
theorem raise_okS (sk : Sok φ Γ sc k c) {st : Stmt} {kc : Nat} {ms : List E} (h : chkS (n + 1) Γ sc st (.raise kc ms) = true) (hk : ∀ j, kp j → j ∉ tchEs ms) : PS c.X st (tS c kp (evS c.G (.raise kc ms))) := by
  have ok := sk.ok
  have r := chkE_ok (φ := φ) (Γ := Γ) (k := k) n sc c ok
  unfold chkS at h
  dsimp only at h
  split at h
  · simp only [Bool.and_eq_true] at h
    obtain ⟨⟨⟨⟨h1, h2⟩, h3⟩, h4⟩, h5⟩ := h
    have o := ok.out (by simpa using h1)
    obtain ⟨t, ht, hq⟩ := List.any_eq_true.mp h4
    simp only
             [Bool.and_eq_true] at hq
    obtain ⟨⟨q0, q1⟩, q2⟩ := hq
    have q0 := beq_iff_eq.mp q0
    have q1 := beq_iff_eq.mp q1
    subst q0 q1
    obtain ⟨f1, f2, f3⟩ := ok.sys.ex t ht
    exact s_raise ok.fx o.calm o.xc f1 f2 ok.sys.sup o.room (chkVs_ok r h5 hk) (beq_iff_eq.mp q2).symm (ok.gl h2) f3 (noDb_f h3)
  · cases h
theorem chkS_ok : ∀ n, IHs φ k n
  | 0 => fun Γ sc c sk st s kp h _ _ => by cases h
  | n + 1 => fun Γ sc c sk st s kp h hk hn => by
    have ih := chkS_ok n
    have ok := sk.ok
    have r := chkE_ok (φ := φ) (Γ := Γ) (k := k) n sc c ok
    cases s with
    | asg i e fz => exact asg_okS sk h hk
    | asgT is e => exact asgT_okS sk h hk
    | setX i x e => exact setX_okS sk h hk
    | setF i kc f e => exact setF_okS sk h hk
    | aug i ng e => exact aug_okS sk h hk
    | app i f e =>
      cases f with
      | none => exact app_okS sk h hk
      | some f => cases h
    | expr e =>
      unfold chkS at h
      dsimp only at h
      split at h
      · obtain ⟨h1, h2⟩ := Bool.and_eq_true_iff.mp h
        exact s_expr (r _ _ kp h2 hk).pe (noSwap (by simpa using h1))
      · cases h
    | ret e =>
      unfold chkS at h
      dsimp only at h
      split at h
      · rename_i q
        cases e with
        | plc i =>
          refine PS.imp (s_never (kp := kp)) fun D σ H ⟨F, tl, s, z⟩ => ⟨F, tl, s, ?_⟩
          unfold evS evO at z
          exact z
        | _ => cases q
      · split at h
        · exact s_ret (r _ _ kp h hk).pe
        · cases h
    | ret0 =>
      unfold chkS at h
      dsimp only at h
      split at h
      · exact s_ret0
      · cases h
    | ifS m a b =>
      unfold chkS at h
      dsimp only at h
      split at h
      · simp only [Bool.and_eq_true] at h
        obtain ⟨⟨⟨h1, h2⟩,
                          h3⟩, h4⟩ := h
        obtain ⟨km, ka⟩ := app2 (show ∀ j, kp j → j ∉ tchE m ++ (tchSs c.n a ++ tchSs c.n b) from hk)
        obtain ⟨ka, kb⟩ := app2 ka
        exact s_if ((r _ _ kp h2 km).snd h1) (chkL_ok (ih Γ sc c sk) h3 ka hn) (chkL_ok (ih Γ sc c sk) h4 kb hn) (fun _ z => z) (fun _ z => z) fun _ z => z
      · cases h
    | forS t ik its body => exact for_okS sk (ih Γ sc c sk) h hk hn
    | whileS fu m body =>
      unfold chkS at h
      dsimp only at h
      split at h
      · simp only [Bool.and_eq_true] at h
        obtain ⟨⟨⟨h0, h1⟩, h2⟩, h3⟩ := h
        obtain ⟨km, ka⟩ := app2 (show ∀ j, kp j → j ∉ tchE m ++ tchSs c.n body from hk)
        exact s_while (sk.po (by simpa using h0)) ((r _ _ kp h2 km).snd h1) (chkL_ok (ih Γ sc c sk) h3 ka hn) (fun _ z => z) fun _ z => z
      · cases h
    | brk =>
      unfold chkS at h
      dsimp only at h
      split at h
      · exact s_break
      · cases h
    | cont =>
      unfold chkS at h
      dsimp only at h
      split at h
      · exact s_continue
      · cases h
    | pass =>
      unfold chkS at h
      dsimp only at h
      split at h
      · exact s_pass
      · cases h
    | raise kc ms => exact raise_okS sk h hk
    | tryS body hs =>
      unfold chkS at h
      dsimp only at h
      split at h
      · simp only [Bool.and_eq_true] at h
        obtain ⟨⟨h1, h2⟩, h3⟩ := h
        have hx : Γ.xs = none := by simpa using h1
        have hkp : ∀ j, ¬ kp j := fun j z => hk j z (List.mem_range.mpr (hn j z))
        refine s_try ok.fx ok.sys.fxx (ok.out hx).xc (fun i _ => hkp i) sk.big sk.stk sk.fr (fun W pn xe tk po => ?_) (chkH_ok sk hx ih hkp h3)
        exact chkL_ok (c := c.tr pn xe W) (ih Γ sc _ (sk.tr hx tk po)) h2 (fun j z => absurd z (hkp j)) fun j z => absurd z (hkp j)
      · cases h
    | _ => cases h
end
end VE

namespace VE
open PySem PySem.Spec
                     PyProof.Rows L2

/-- a def: its parameters' number, its slots, which are kept, its body -/
structure Fn where
  np : Nat
  n : Nat
  lk : List Bool
  body : List S
def fins : List (Option O) → Option (List O)
  | [] => some []
  | some o :: r => (fins r).map fun l => o :: l
  | none :: _ => none
def finO (np : Nat) (env : Env) (f : List O → FOut) : FOut := match fins (env.take np) with
  | some l => f l
  | none => .bad
def runFn (C M : Calls) (xl : List Nat) (fn : Fn) (os : List O) : FOut := if os.length = fn.np then (match evSs ⟨C, M, fn.lk, xl, none⟩ fn.body (os.map some ++ List.replicate (fn.n - fn.np) none) with
  | .ret o env => finO fn.np env fun l => .ok o l
  | .nx env => finO fn.np env fun l => .ok (.v .non) l
  | .exc x env => finO fn.np env fun l => .exc x l
  | _ => .bad) else .bad
/-- all defs, by the depth that is left -/
def Cs (xl : List Nat) (Fs : Nat → Option Fn) : Nat → Calls
  | 0 => fun _ _ => .bad
  | 1 => fun _ _ => .bad
  | k + 2 => fun f os => match Fs f with
    | some fn => runFn (Cs xl Fs (k + 1)) (Cs xl Fs k) xl fn os
    | none => .bad
theorem fins_some : ∀ {l : List O}, fins (l.map some) = some l
  | [] => rfl
  | o :: l => by
    show (fins (l.map some)).map _ = _
    rw [fins_some]; rfl
theorem front : ∀ {np : Nat} {tl : Ld}, (∀ i, i < np → ∃ t, tl[i]? = some (some t)) → ∃ ts : List T, ts.length = np ∧ tl.take np = ts.map some
  | 0, tl, _ => ⟨[], rfl, by simp⟩
  | np + 1, [], h => by
    obtain ⟨t, e⟩ := h 0 (by omega)
    simp at e
  | np + 1, o :: tl, h => by
    obtain ⟨t, e⟩ := h 0 (by omega)
    obtain ⟨ts, e1, e2⟩ := front (np := np) (tl := tl) fun i hi => by
      obtain ⟨u, e⟩ := h (i + 1) (by omega)
      exact ⟨u, by simpa using e⟩
    refine ⟨t :: ts, by simp [e1], ?_⟩
    have eo : o = some t := by simpa using e
    rw [List.take_succ_cons, e2, eo]
    rfl
theorem map_get {α β : Type} {f : α → β} {l : List α} {i : Nat} {b : β} (h : (l.map f)[i]? = some b) : ∃ a, l[i]? = some a ∧ f a = b := by
  rw [List.getElem?_map] at h
  cases e : l[i]? with
  | none => rw
              [e] at h; cases h
  | some a => rw [e] at h; exact ⟨a, rfl, by simpa using h⟩
theorem some_get {ts : List T} {i : Nat} {t : T} (h : (ts.map some)[i]? = some (some t)) : ts[i]? = some t := by
  obtain ⟨a, e1, e2⟩ := map_get h
  rw [e1, Option.some.inj e2]
section
variable {S : Sta} {am : Amb} {F : Fz} {H : Hp} {tl : Ld} {ts : List T} {np : Nat}
theorem take_get (e : tl.take np = ts.map some) {i : Nat} {t : T} (h : ts[i]? = some t) : tl[i]? = some (some t) := by
  have h1 : (ts.map some)[i]? = some (some t) := by rw [List.getElem?_map, h]; rfl
  rw [← e, List.getElem?_take] at h1
  split at h1
  · exact h1
  · cases h1
/-- the arguments and a thing -/
theorem Good.ends (g : Good S am F H tl) (e : tl.take np = ts.map some) (hl : ts.length = np) {j : Nat} {t : T} (hj : np ≤ j) (ht : tl[j]? = some (some t)) : Good S am F H ((ts ++ [t]).map some) := by
  have cse : ∀ (i : Nat) (u : T), ((ts ++ [t]).map some)[i]? = some (some u) → (i < np ∧ tl[i]? = some (some u)) ∨ (i = np ∧ u = t) := fun i u q => by
    have q := some_get q
    by_cases hi : i < ts.length
    · rw [List.getElem?_append_left hi] at q
      exact .inl ⟨hl ▸ hi, take_get e q⟩
    · rw [List.getElem?_append_right (by omega)] at q
      cases k : i - ts.length with
      | zero => rw [k] at q; exact .inr ⟨by omega, by simpa using q.symm⟩
      | succ k' => rw [k] at q; simp at q
  refine g.sel (fun i => if i < np then i else j) (fun i u q => ?_) fun i k u v q1 q2 q => ?_
  · rcases cse i u q with ⟨h1, h2⟩ | ⟨h1, h2⟩
    · rw [if_pos h1]; exact h2
    · rw [if_neg (by omega), h2]; exact ht
  · rcases cse i u q1 with ⟨h1, h2⟩ | ⟨h1, h2⟩ <;> rcases cse k v q2 with ⟨h3, h4⟩ | ⟨h3, h4⟩
    · rw [if_pos h1, if_pos h3] at q; exact q
    · rw [if_pos h1, if_neg (by omega)] at q; omega
    · rw [if_neg (by omega), if_pos h3] at q; omega
    · omega
theorem Good.args0 (g : Good S am F H tl) (e : tl.take np = ts.map some) (hl : ts.length = np) : Good S am F H (ts.map some) := e ▸ g.take np
end
/-- what one knows of a def -/
structure DefOk (φ : Fns) (TT : Tab) (K : PySem.W.Frag) (f : Nat) (fn : Fn) : Prop where
  ex : ∃ x qual params body scope dvs kws N fuel, FunD K x qual params body scope dvs kws (φ.fa f) (φ.fd f) ∧ FnScope N (φ.ps f) scope ∧ N.length = fn.n ∧ fn.n ≤ 1000000 ∧ chkL (chkS fuel ⟨TT, N, fn.lk, fn.np, none⟩ scope) body fn.body = true
  np : (φ.ps f).length = fn.np
  nn : fn.np ≤ fn.n
  lk : ∀ i, i < fn.np → fn.lk[i]? = some true
section
variable {φ : Fns} {TT : Tab} {xl : List Nat} {S : Sta} {P : Program} {w : World} {K : PySem.W.Frag} {mg : Str → Option Value} {base : Heap}
theorem runFn_len {C M : Calls} {fn : Fn} {os : List O} (h : os.length ≠ fn.np) : runFn C M xl fn os = .bad := by
  unfold runFn
  rw [if_neg h]
theorem def_ok (hK : S.K = K) (fc : FC S) (sys : SysOk φ TT xl S P K mg) {k f : Nat} {fn : Fn} (d : DefOk φ TT K f fn) {C M C' : Calls} (hC : FnAt φ S P w K mg base (k + 1) C) (hM : FnAt φ S P w K mg base k M) (e' : C' f = runFn C M xl fn) : FnOk P w K mg base (CX P w) (k + 2) (φ.fa f) (φ.fd f) (φ.ps f) (spF S C' f) := by
  obtain ⟨x, qual, params, body, scope, dvs, kws, N, fuel, D, sco, hN, big, chk⟩ := d.ex
  have len : ∀ (vs : List V) (H : Hp) (Q : VK) (E : XK), spF S C' f vs H Q E → vs.length = (φ.ps f).length := fun vs H Q E ⟨F, ts, ev, g, r⟩ => by
    subst ev
    rw [List.length_map, d.np]
    by_cases h : ts.length = fn.np
    · exact h
    · rw [e', runFn_len (by simpa using h)] at r
      exact r.elim
  refine FunD.ok (k := k + 1) D sco len fun cdv A outer s H vs Q E room sp => ?_
  have hlen := len vs H Q E sp
  obtain ⟨F, ts, ev, g, r⟩ := sp
  subst ev
  rw [List.length_map, d.np] at hlen
  let c : Cc := { X := cxOf (CX P w) P w K mg base N qual scope (φ.fa f) cdv A outer s H E, S := S, am := amOf H F ts, W := fun cls d _ H' => E cls d H', G := ⟨C, M, fn.lk, xl, none⟩, lv := fun i => (ts.map T.v)[i]?, xa := 0, xd := none }
  have cn : c.n = fn.n := hN
  have tk : Takes c.X c.W := takes_of (X := c.X) (E := E) rfl rfl rfl (E₁ := fun e' s'' => CX P w outer H s E e' s'') rfl
  have lvi : ∀ (i : Nat) (v : V), c.lv i = some v → i < fn.np := fun i v e => by
    have := (List.getElem?_eq_some_iff.mp (show (ts.map T.v)[i]? = some v from e)).1
    simpa [hlen] using this
  have sk : Sok φ ⟨TT, N, fn.lk, fn.np, none⟩ scope k c :=
    { ok :=
        { fx := ⟨hK, sco.nd, fc, fun i v e => d.lk i (lvi i v e), tk⟩
          N := rfl
          sc := rfl
          lk := rfl
          ut := by have := room.un; exact (by omega : (A.deeper (envOfC qual scope s.heap.objs.size (φ.fa f) cdv)).units + 65 < cLine)
          sys := sys
          out := fun _ => ⟨rfl, room, rfl, hC, hM⟩
          ins := fun i z => by cases z }
      po := fun _ => passes_of (X := c.X) (K := fun e s'' => CX P w outer H s E e s'') (E₁ := fun e' s'' => CX P w outer H s E e' s'') rfl
      fn := fun _ => rfl
      stk := rfl
      fr := rfl
      big := by rw [cn]; exact big
      lvn := fun _ i hi => by
        cases e : c.lv i with
        | none => rfl
        | some v => have := lvi i v e; have : fn.np ≤ i := hi; omega }
  refine ⟨tS c (fun _ => False) (evSs c.G fn.body), chkL_ok (chkS_ok fuel _ _ c sk) chk (fun j z => z.elim) fun j z => z.elim, ?_⟩
  have nn := d.nn
  have tlen : (ts.map some ++ List.replicate (fn.n - fn.np) (none : Option T)).length = fn.n := by
    rw [List.length_append, List.length_map, List.length_replicate, hlen]; omega
  have tget : ∀ (i : Nat) (t : T), (ts.map some ++ List.replicate (fn.n - fn.np) (none : Option T))[i]? = some (some t) → ts[i]? = some t := fun i t e => by
    by_cases hi : i < (ts.map some).length
    · rw [List.getElem?_append_left hi] at e
      exact some_get e
    · rw [List.getElem?_append_right (by omega), List.getElem?_replicate] at e
      split at e <;> cases e
  have sim : Sim c F (ts.map some ++ List.replicate (fn.n - fn.np) none) (L2.start N (ts.map T.v)) H :=
    { g := g.sel id (fun i t e => by rw [id, List.getElem?_map, tget i t e]; rfl) fun _ _ _ _ _ _ q => q
      len := by rw [tlen, cn]; exact Nat.le_refl _
      sl := fun i t hi e => by
        have e1 := tget i t e
        have hi2 := (List.getElem?_eq_some_iff.mp e1).1
        unfold L2.start
        rw [List.getElem?_append_left (by simpa using hi2), List.getElem?_map, List.getElem?_map, e1]
        rfl
      lo := fun i v e => by
        obtain ⟨t, e1, e2⟩ := map_get (show (ts.map T.v)[i]? = some v from e)
        refine ⟨by rw [cn]; have := lvi i v e; omega, t, ?_, e2⟩
        rw [List.getElem?_append_left (by simpa using (List.getElem?_eq_some_iff.mp e1).1), List.getElem?_map, e1]
        rfl
      xe := fun q e => by cases e
      ln := by
        unfold L2.start
        rw [List.length_append, List.length_map, List.length_replicate, List.length_map]
        show _ = N.length
        rw [hlen, hN]; omega }
  refine ⟨F, _, sim, ?_⟩
  have era0 : era c.n (ts.map some ++ List.replicate (fn.n - fn.np) none) = (ts.map T.o).map some ++ List.replicate (fn.n - fn.np) none := by
    unfold era
    rw [List.take_of_length_le (by rw [tlen, cn]; exact Nat.le_refl _), List.map_append, List.map_replicate]
    congr 1
    rw [List.map_map,
                     List.map_map]
    rfl
  rw [era0]
  rw [e'] at r
  unfold runFn at r
  rw [if_pos (by rw [List.length_map]; exact hlen)] at r
  -- what stands at the end
  have fin : ∀ {F' : Fz} {H' : Hp} {tl' : Ld} {σ' : L2.St}, Sim c F' tl' σ' H' → ∃ ts' : List T, ts'.length = fn.np ∧ tl'.take fn.np = ts'.map some ∧ ts'.map T.v = ts.map T.v ∧ fins ((era c.n tl').take fn.np) = some (ts'.map T.o) := fun {F' H' tl' σ'} s' => by
    have there : ∀ i, i < fn.np → ∃ t, tl'[i]? = some (some t) ∧ (ts.map T.v)[i]? = some t.v := fun i hi => by
      have e : (ts.map T.v)[i]? = some ((ts.map T.v)[i]'(by rw [List.length_map, hlen]; exact hi)) := List.getElem?_eq_getElem _
      obtain ⟨_, t, e1, e2⟩ := s'.lo i _ e
      exact ⟨t, e1, by rw [e, e2]⟩
    obtain ⟨ts', h1, h2⟩ := front fun i hi => (there i hi).imp fun _ z => z.1
    refine ⟨ts', h1, h2, List.ext_getElem? fun i => ?_, ?_⟩
    · by_cases hi : i < fn.np
      · obtain ⟨t, e1, e2⟩ := there i hi
        have e3 : ts'[i]? = some ts'[i] := List.getElem?_eq_getElem (by omega)
        have e4 := take_get h2 e3
        rw [e1] at e4
        rw [e2, List.getElem?_map, e3, ← Option.some.inj (Option.some.inj e4)]
        rfl
      · rw [List.getElem?_eq_none (by rw [List.length_map]; omega), List.getElem?_eq_none (by rw [List.length_map]; omega)]
    · have e1 : (era c.n tl').take fn.np = (ts'.map T.o).map some := by
        unfold era
        rw [← List.map_take, List.take_take, Nat.min_eq_left (by rw [cn]; exact nn), h2, List.map_map, List.map_map]
        rfl
      rw [e1, fins_some]
  have go : evSs c.G fn.body ((ts.map T.o).map some ++ List.replicate (fn.n - fn.np) none) = evSs ⟨C, M, fn.lk, xl, none⟩ fn.body ((ts.map T.o).map some ++ List.replicate (fn.n - fn.np) none) := rfl
  rw [go]
  cases er : evSs ⟨C, M, fn.lk, xl, none⟩ fn.body ((ts.map T.o).map some ++ List.replicate (fn.n - fn.np) none) with
  | nx env =>
    rw [er] at r
    intro F' H' tl' σ' s' st' e1
    obtain ⟨ts', h1, h2, h3, h4⟩ := fin s'
    dsimp only [finO] at r
    rw [← e1, h4] at r
    have g1 : Good S (amOf H F ts) F' H' ((ts' ++ [T.val .non .non]).map some) := by
      have := (s'.g.args0 h2 h1).pushV (d := .non) (v := .non) rfl
      rw [List.map_append]
      exact this
    exact r F' H' ts' (T.val .non .non) g1 h3 rfl rfl
  | ret o env =>
    rw [er] at r
    intro F' H' tl' σ' j t s' st' e1 hj ht eo
    obtain ⟨ts', h1, h2, h3, h4⟩ := fin s'
    dsimp only [finO] at r
    rw [← e1, h4] at r
    rw [tlen] at hj
    exact r F' H' ts' t (s'.g.ends h2 h1 (by omega) ht) h3 rfl eo
  | exc z env =>
    rw [er] at r
    intro F' H' tl' σ' dd s' st' e1 hx
    obtain ⟨ts', h1, h2, h3, h4⟩ := fin s'
    dsimp only [finO] at r
    rw [← e1, h4] at r
    exact r F' H' ts' dd (s'.g.args0 h2 h1) h3 rfl hx
  | brk env => rw [er] at r; exact r.elim
  | cont env => rw [er] at r; exact r.elim
  | bad => rw [er] at r; exact r.elim
theorem fn_bad {k f : Nat} {C : Calls} (h : C f = fun _ => .bad) : FnOk P w K mg base (CX P w) k (φ.fa f) (φ.fd f) (φ.ps f) (spF S C f) := by
  have no : ∀ (vs : List V) (H : Hp) (Q : VK) (E : XK), spF S C f vs H Q E → False := fun vs H Q E ⟨F, ts, ev, g, r⟩ => by
    rw [h] at r
    exact r
  exact ⟨fun vs H Q E sp => (no vs H Q E sp).elim, fun A outer s H args us vs Q E _ _ _ _ sp => (no vs H Q E sp).elim⟩
theorem all_ok (hK : S.K = K) (fc : FC S) (sys : SysOk φ TT xl S P K mg) {Fs : Nat → Option Fn} (hd : ∀ f fn, Fs f = some fn → DefOk φ TT K f fn) : ∀ k, FnAt φ S P w K mg base k (Cs xl Fs k) ∧ FnAt φ S P w K mg base (k + 1) (Cs xl Fs (k + 1))
  | 0 => ⟨fun f => fn_bad rfl, fun f => fn_bad rfl⟩
  | k + 1 => by
    obtain ⟨h1, h2⟩ := all_ok hK fc sys hd k
    refine ⟨h2, fun f => ?_⟩
    cases e : Fs f with
    | none => exact fn_bad (by funext os; show (match Fs f with | some fn => _ | none => FOut.bad) = _; rw [e])
    | some fn => exact def_ok hK fc sys (hd f fn e) h2 h1 (by funext os; show (match Fs f with | some fn => _ | none => FOut.bad) = _; rw [e])
end
end VE

namespace VE
open PySem PySem.Spec
                     PyProof.Rows L2
abbrev Frag := PySem.W.Frag
/-- where a def stands -/
inductive Pth where
  | glo (x : Str) | meth (C m : Str) | prop (C m : Str)
  deriving DecidableEq
def gtr (K : Frag) (p : Addr) : Addr := match PySem.W.recIn K p "property" with
  | some (.ref g :: _) => g
  | _ => 0
def Pth.adr (K : Frag) : Pth → Addr
  | .glo x => He.ga K x
  | .meth C m => He.ma K (He.ga K C) m
  | .prop C m => gtr K (He.ma K (He.ga K C) m)
structure DefE where
  id : Nat
  pth : Pth
  name : Str
  qual : Str
  params : Arguments
  body : List Stmt
  scope : Scope
  dfl : List (Frag → V)
  N : List Str
  fn : Fn
def DefE.ps (d : DefE) : List Str := (d.params.posonlyargs ++ d.params.args ++ d.params.kwonlyargs).map (·.arg)
def fnA (K : Frag) (a : Addr) : He.FnW := match K.lookup a with
  | some ⟨_, _, .func fd, _⟩ => some (fd.name, fd.qualname,
                                                           fd.params, fd.body, fd.scope, fd.globals, fd.closure, fd.builtins)
  | _ => none
def fdA (K : Frag) (a : Addr) : FuncData := match K.lookup a with
  | some ⟨_, _, .func fd, _⟩ => fd
  | _ => PySem.W.fnOf Str.empty Str.empty ⟨[], [], none, [], [], none, []⟩ [] ⟨.function, [], false, false, []⟩ .none .none .none .none none .none .none
def DefE.val (d : DefE) : He.FnW := some (d.name, d.qual, d.params, .stmts d.body, d.scope, mainGlobals, [], builtinsNs)
def DefE.ok (K : Frag) (d : DefE) : Bool := PySem.W.keepIn K (.ref (d.pth.adr K)) && (match K.lookup (d.pth.adr K) with
  | some ⟨_, _, .func fd, _⟩ => PySem.W.codeIn K fd.code d.qual && He.dflB K fd.defaults (d.dfl.map fun f => f K)
  | _ => false)
theorem DefE.funD {K : Frag} {d : DefE} (e : fnA K (d.pth.adr K) = d.val) (c : d.ok K = true) : FunD K d.name d.qual d.params d.body d.scope (d.dfl.map fun f => f K) [] (d.pth.adr K) (fdA K (d.pth.adr K)) := by
  obtain ⟨kp, c2⟩ := Bool.and_eq_true_iff.mp c
  unfold fnA at e
  unfold fdA
  cases q : K.lookup (d.pth.adr K) with
  | none => rw [q] at c2; cases c2
  | some o =>
    obtain ⟨oc, od, dt, osl⟩ := o
    rw [q] at c2 e
    cases dt with
    | func fd =>
      obtain ⟨n1, n2, n3, n4, n5, n6, n7, n8,
                                             n9, n10, n11, n12, n13, n14, n15⟩ := fd
      have e2 : (some (n1, n2, n3, n4, n5, n6, n7, n15) : He.FnW) = some (d.name, d.qual, d.params, .stmts d.body, d.scope, mainGlobals, [], builtinsNs) := e
      simp only [Option.some.injEq,
                                   Prod.mk.injEq] at e2
      obtain ⟨h1, h2, h3, h4,
                             h5, h6, h7, h8⟩ := e2
      subst h1 h2 h3 h4 h5 h6 h7 h8
      have c3 : (PySem.W.codeIn K n13 d.qual && He.dflB K n8 (d.dfl.map fun f => f K)) = true := c2
      obtain ⟨k1, k2⟩ := Bool.and_eq_true_iff.mp c3
      exact ⟨⟨oc, od, n8, n9, n10, n11, n12, n13, n14, osl, rfl, q, k1, He.dflB_ok k2, .inl rfl⟩, kp⟩
    | _ => cases c2
def scoB (N ps : List Str) (sc : Scope) : Bool := (match sc.kind with | .function => true | _ => false) && !sc.isCoroutine && !sc.isGenerator && decide N.Nodup && decide (N.take ps.length = ps) && ps.all (fun x => sc.names.lookup x == some .local || sc.names.lookup x == some .cell) && sc.names.all (fun y => !(y.2 == .free))
theorem scoB_ok {N ps : List Str} {sc : Scope} (h : scoB N ps sc = true) : FnScope N ps sc := by
  simp only [scoB, Bool.and_eq_true] at h
  obtain ⟨⟨⟨⟨⟨⟨h1, h2⟩, h3⟩,
                            h4⟩, h5⟩, h6⟩, h7⟩ := h
  refine ⟨?_, by simpa using h2, by simpa using h3, of_decide_eq_true h4, of_decide_eq_true h5, fun x hx => ?_, fun y hy e => ?_⟩
  · cases e : sc.kind <;> rw [e] at h1 <;> first | rfl | cases h1
  · exact (Bool.or_eq_true_iff.mp (List.all_eq_true.mp h6 x hx)).imp (fun z => beq_iff_eq.mp z) fun z => beq_iff_eq.mp z
  · have := List.all_eq_true.mp h7 y hy
    rw [e] at this
    cases this
/-- an exception class with an __init__ of its own -/
structure ExD where
  c : Nat
  x : Str
  ps : List Str
  name : Str
  qual : Str
  params : Arguments
  body : List Stmt
  scope : Scope
abbrev FnX : Type := Option (Str × Str × Arguments × FuncBody × Scope × Addr × Addr)
def fnX (K : Frag) (a : Addr) : FnX := match K.lookup a with
  | some ⟨_, _, .func fd, _⟩ => some (fd.name, fd.qualname, fd.params, fd.body, fd.scope, fd.globals, fd.builtins)
  | _ => none
def ExD.val (e : ExD) : FnX := some (e.name, e.qual, e.params, .stmts e.body, e.scope, mainGlobals, builtinsNs)
def ExD.C (K : Frag) (e : ExD) : Addr := He.ga K e.x
def ExD.I (K : Frag) (e : ExD) : Addr := He.ma K (He.ga K e.x) "__init__"
def clsX (K : Frag) (C : Addr) : Bool := match K.lookup C with
  | some ⟨.type "type", _, .cls cd,
                                   sl⟩ => (match cd.mro, sl.toList with
    | .ref C' :: bm, [_, _, _, _, some (.builtin n), _] => C' == C && n == "ValueError.__new__" && !cd.hasDel && cd.hasDict && HandSPX.refsVE bm && He.eqO (PySem.W.alongIn K "__init__" bm) (some (some (.builtin VX.viId)))
    | _, _ => false)
  | _ => false
theorem clsX_ok {K : Frag} {C : Addr} (q : clsX K C = true) : ∃ nm q N bs bm sn sub ab col dd k0 k1 k2 k3 k5, K.lookup C = some (excClassObj nm q C N bs bm true sn sub ab col dd k0 k1 k2 k3 k5 "ValueError.__new__") ∧ HandSPX.refsVE bm = true ∧ PySem.W.alongIn K "__init__" bm = some (some (.builtin VX.viId)) := by
  unfold clsX at q
  split at q
  · rename_i dd cd sl ho
    split at q
    · rename_i C' bm k0
                       k1 k2 k3 n k5 hm hs
      simp only [Bool.and_eq_true,
                                  beq_iff_eq, Bool.not_eq_true'] at q
      obtain ⟨⟨⟨⟨⟨rfl, rfl⟩, hdel⟩, hdc⟩, ht⟩, ha⟩ := q
      obtain ⟨nm, bs, mro, ns, qn,
                                  hd, sn, sub, ab, col, del⟩ := cd
      dsimp only at hm hdel hdc
      subst hm hdel hdc
      obtain ⟨l⟩ := sl
      dsimp only at hs
      subst hs
      exact ⟨nm, qn, ns, bs, bm, sn, sub, ab, col, dd, k0, k1, k2, k3, k5, ho, ht, He.eqO_ok ha⟩
    · cases q
  · cases q
def fieldsFile (K : Frag) (file : Str) (cd : Value) : Bool := match cd with
  | .ref a => (match
                    K.lookup a with
    | some ⟨_, _, .fields vs, _⟩ => (match (vs[2]? : Option Value) with
      | some (.str f _) => file == f
      | _ => false)
    | _ => false)
  | _ => false
def iniX (K : Frag) (file : Str) (C : Addr) (e : ExD) : Bool := match K.lookup (e.I K) with
  | some ⟨_, _, .func fd, _⟩ => (match fd.closure with
    | [(n, cc)] => n == ("__class__" : Str) && (match K.lookup cc with
      | some ⟨_, _, .cell (some (.ref D)), _⟩ => D == C
      | _ => false)
    | _ => false) && (match fd.defaults, fd.kwdefaults with | .none, .none => true | _, _ => false) && PySem.W.codeIn K fd.code e.qual && fieldsFile K file fd.code
  | _ => false
def exB (K : Frag) (file : Str) (e : ExD) : Bool := clsX K (e.C K) && He.eqO (PySem.W.findIn K (.ref (e.C K)) "__setattr__") (some (some (.builtin "object.__setattr__"))) && e.ps.all (fun f => He.eqO (PySem.W.findIn K (.ref (e.C K)) f) (some none))
  && He.eqO (PySem.W.findIn K (.ref (e.C K)) "__init__") (some (some (.ref (e.I K)))) && decide (PySem.W.typeIn K (.ref (e.I K)) = some (.type "function")) && PySem.W.keepIn K (.ref (e.C K)) && decide (PySem.W.subIn K (.ref (e.C K)) (.type "BaseException") = some true)
  && decide (PySem.W.typeIn K (.ref (e.C K)) = some (.type "type")) && decide (PySem.W.mroIn K (e.C K) (.type "ValueError") = some true) && decide (PySem.W.mroIn K (e.C K) (.ref (e.C K)) = some true) && He.eqO (PySem.W.nsIn K cStatics "thirdparty.any") (some none)
  && He.eqO (PySem.W.nsIn K mainGlobals "super") (some none) && iniX K file (e.C K) e
/-- what its text says -/
def ExD.chkB (e : ExD) : Bool := decide ((("self" : Str) :: e.ps).Nodup) && decide (e.ps.length ≤ 20) && e.ps.all (fun f => !(f == ("__debug__" : Str))) && VX.iniB e.ps e.body && VX.scoB e.ps e.scope && (match (e.params.posonlyargs ++ e.params.args).head? with | some ar => ar.arg == ("self" : Str) | none => false)
def PlainX (e : ExD) : Prop := ∀ (doc pm : Value) (an : Option Addr) (cdv ct : Value) (cc : Addr) (us : List Value), us.length = e.ps.length + 1 → bindArgs (PySem.W.ksFn e.name e.qual e.params e.body e.scope .none .none doc pm an cdv ct cc) ⟨us, []⟩ = pure ((("self" : Str) :: e.ps).zip us)
theorem exB_ok {P : Program} {K : Frag} {e : ExD} (h : exB K P.main.file e = true) (ht : e.chkB = true) (hv : fnX K (e.I K) = e.val) (hb : PlainX e) (htop : (P.main.scope.names.lookup ("super" : Str)).isSome = false) : VX.ExT P K (e.C K) (e.I K) e.ps := by
  simp only [exB, Bool.and_eq_true] at h
  obtain ⟨⟨⟨⟨⟨⟨⟨⟨⟨⟨⟨⟨a1, a2⟩, a3⟩, a4⟩, a5⟩, a6⟩, a7⟩, a8⟩, a9⟩, a10⟩, a11⟩, a12⟩, a13⟩ := h
  simp only [ExD.chkB, Bool.and_eq_true] at ht
  obtain ⟨⟨⟨⟨⟨b1, b2⟩, b3⟩, b4⟩, b5⟩, b6⟩ := ht
  refine ⟨clsX_ok a1, He.eqO_ok a2, fun f hf => He.eqO_ok (List.all_eq_true.mp a3 f hf), He.eqO_ok a4, of_decide_eq_true a5, a6, of_decide_eq_true a7, of_decide_eq_true a8, of_decide_eq_true a9, of_decide_eq_true a10, He.eqO_ok a11, He.eqO_ok a12, htop, of_decide_eq_true b1, of_decide_eq_true b2, fun f hf => by simpa using List.all_eq_true.mp b3 f hf, ?_⟩
  unfold iniX at a13
  unfold fnX at hv
  cases q : K.lookup (e.I K) with
  | none => rw [q] at a13; cases a13
  | some o =>
    obtain ⟨oc, od, dt, osl⟩ := o
    rw [q] at a13 hv
    cases dt with
    | func fd =>
      obtain ⟨n1, n2, n3, n4, n5, n6, n7, n8,
                                             n9, n10, n11, n12, n13, n14, n15⟩ := fd
      have e2 : (some (n1, n2, n3, n4, n5, n6, n15) : FnX) = some (e.name, e.qual, e.params, .stmts e.body, e.scope, mainGlobals, builtinsNs) := hv
      simp only [Option.some.injEq,
                                   Prod.mk.injEq] at e2
      obtain ⟨h1, h2, h3, h4, h5, h6, h8⟩ := e2
      subst h1 h2 h3 h4 h5 h6 h8
      simp only [Bool.and_eq_true] at a13
      obtain ⟨⟨⟨c1, c2⟩, c3⟩, c4⟩ := a13
      split at c1
      · rename_i nn cc
        obtain ⟨d1, d2⟩ := Bool.and_eq_true_iff.mp c1
        have d1 := beq_iff_eq.mp d1
        subst d1
        split at c2
        · unfold fieldsFile at c4
          split at c4
          · rename_i cda
            split at c4
            · rename_i ccl cdd vs ccs hcd
              split at c4
              · rename_i f tf hf
                split at d2
                · rename_i cl cld D csl hcc
                  have d2 := beq_iff_eq.mp d2
                  subst d2
                  split at b6
                  · rename_i ar har
                    exact ⟨oc, od, n10, n11, n12, cda, cc, n14, osl, e.name, e.qual, e.params, e.scope, e.body, rfl, c3, b4, b5, ⟨ar, har, beq_iff_eq.mp b6⟩, ⟨ccl, cdd, vs, ccs, f, tf, hcd, hf, c4⟩, ⟨cl, cld, csl, hcc⟩, fun us hl => hb n10 n11 n12 (.ref cda) n14 cc us hl⟩
                  · cases b6
                · cases d2
              · cases c4
            · cases c4
          · cases c4
        · cases c2
      · cases c1
    | _ => cases a13
structure LawD where
  T : Tab
  xcl : List (Nat × Str)
  exs : List ExD
  file : Str
  defs : List DefE
  cls : List (Nat × Str)
  tup0 : List (Frag → Addr)
def LawD.find (L : LawD) (f : Nat) : Option DefE := L.defs.find? fun d => d.id == f
def LawD.cn (L : LawD) (c : Nat) : Str := ((L.cls ++ L.xcl).lookup c).getD Str.empty
def LawD.fs (L : LawD) (c : Nat) : List Str := (L.T.fs.lookup c).getD []
def LawD.sta (L : LawD) (K : Frag) : Sta := { K := K, cn := fun c => He.ga K (L.cn c), gn := fun _ => 0, fs := L.fs, cl := L.cls.map (·.1) }
def LawD.fa (L : LawD) (K : Frag) (f : Nat) : Addr := match L.find f with
  | some d => d.pth.adr K
  | none => 0
def LawD.fns (L : LawD) (K : Frag) : Fns := { fa := L.fa K, fd := fun f => fdA K (L.fa K f), ps := fun f => match L.find f with | some d => d.ps | none => [], ei := fun c => He.ma K (He.ga K (L.cn c)) "__init__" }
def LawD.Fs (L : LawD) (f : Nat) : Option Fn := (L.find f).map (·.fn)
theorem LawD.find_mem {L : LawD} {f : Nat} {d : DefE} (h : L.find f = some d) : d ∈ L.defs := List.mem_of_find?_eq_some h
theorem LawD.find_fa {L : LawD} {K : Frag} {f : Nat} {d : DefE} (h : L.find f = some d) : L.fa K f = d.pth.adr K := by
  unfold LawD.fa
  rw [h]
/-- a def's text is what the tree says -/
def DefE.chkB (T : Tab) (d : DefE) : Bool := scoB d.N d.ps d.scope && decide (d.N.length = d.fn.n) && decide (d.fn.n ≤ 1000000) && decide (d.ps.length = d.fn.np) && decide (d.fn.np ≤ d.fn.n) && ((List.range d.fn.np).all fun i => d.fn.lk[i]? == some true) && chkL (chkS 200 ⟨T, d.N, d.fn.lk, d.fn.np, none⟩ d.scope) d.body d.fn.body
theorem DefE.defOk {K : Frag} {L : LawD} {f : Nat} {d : DefE} (hf : L.find f = some d) (F : FunD K d.name d.qual d.params d.body d.scope (d.dfl.map fun f => f K) [] (d.pth.adr K) (fdA K (d.pth.adr K))) (h : d.chkB L.T = true) : DefOk (L.fns K) L.T K f d.fn := by
  simp only [DefE.chkB, Bool.and_eq_true] at h
  obtain ⟨⟨⟨⟨⟨⟨h1, h2⟩, h3⟩,
                            h4⟩, h5⟩, h6⟩, h7⟩ := h
  have e0 : (L.fns K).ps f = d.ps := by show (match L.find f with | some d => d.ps | none => []) = _; rw [hf]
  have e1 : (L.fns K).fa f = d.pth.adr K := LawD.find_fa hf
  have F' : FunD K d.name d.qual d.params d.body d.scope (d.dfl.map fun f => f K) [] ((L.fns K).fa f) ((L.fns K).fd f) := by
    show FunD K _ _ _ _ _ _ _ (L.fa K f) (fdA K (L.fa K f))
    rw [LawD.find_fa hf]
    exact F
  refine ⟨⟨d.name, d.qual, d.params, d.body, d.scope, d.dfl.map fun f => f K, [], d.N, 200, F', e0 ▸ scoB_ok h1, of_decide_eq_true h2, of_decide_eq_true h3, h7⟩, by rw [e0]; exact of_decide_eq_true h4, of_decide_eq_true h5, fun i hi => beq_iff_eq.mp (List.all_eq_true.mp h6 i (List.mem_range.mpr hi))⟩
theorem binds_kw {K : Frag} {x qual : Str} {params : Arguments} {body : List Stmt} {scope : Scope} {kws : List (Str × V)} {f : Addr} {fd : FuncData} {ps : List Str} (F : FunD K x qual params body scope [] kws f fd) {n : Nat} {ks : List Str}
    (h : ∀ (kV doc pm : Value) (an : Option Addr) (cdv ct : Value) (us ws : List Value), us.length = n → ws.length = ks.length → bindArgs (PySem.W.fnOf x qual params body scope .none kV doc pm an cdv ct) ⟨us, ks.zip ws⟩ = pure (ps.zip (us ++ ws))) : BindsG K fd ps n ks [] := by
  obtain ⟨oc, od, dV, kV, doc, pm, an, cdv,
                                           ct, osl, rfl, lk, hcd, hD, hK⟩ := F.ex
  rcases hD with
                ⟨_, rfl⟩ | ⟨e, _⟩
  · intro s us ws _ h1 h2
    rw [List.append_nil]
    exact .of_eq (h kV doc pm an cdv ct us ws h1 h2)
  · exact absurd rfl e
/-- all by place -/
def PlainB (d : DefE) : Prop := ∀ (kV doc pm : Value) (an : Option Addr) (cdv ct : Value) (us : List Value), us.length = d.ps.length → bindArgs (PySem.W.fnOf d.name d.qual d.params d.body d.scope .none kV doc pm an cdv ct) ⟨us, []⟩ = pure (d.ps.zip us)
end VE

namespace VE
open PySem PySem.Spec
                     PyProof.Rows L2
section
variable (L : LawD) (K : Frag)
def eqB (a b : Option Bool) : Bool := decide (a = b)
def atB (f : Nat) (p : Pth) : Bool := match L.find f with
  | some d => decide (d.pth = p)
  | none => false
def clB (p : Nat × Str) : Bool := (He.Fa.cls p.2).ok K && decide (L.fs p.1).Nodup && (L.fs p.1).all (fun f => (He.Fa.noat p.2 f).ok K) && decide ((L.fs p.1).length < 1000)
  && He.eqO (PySem.W.findIn K (.ref (He.ga K p.2)) "__class__") (some (some (.builtin "object.__class__")))
  && eqB (PySem.W.mroIn K (He.ga K p.2) (.type "object")) (some true)
  && [Ty.int, .bool, .str, .tup, .lst].all (fun t => eqB (PySem.W.kitOne K (.ref (He.ga K p.2)) (.type t.nm)) (some false))
  && eqB (PySem.W.kitOne K (.type "int") (.ref (He.ga K p.2))) (some false)
  && L.cls.all (fun q => decide (q.1 = p.1) || eqB (PySem.W.kitOne K (.ref (He.ga K q.2)) (.ref (He.ga K p.2))) (some false))
  && decide (L.cn p.1 = p.2)
def fnB (t : FnE) : Bool := atB L t.f (.glo t.x) && (He.Fa.glo t.x).ok K && (He.Fa.keep t.x).ok K
def mtB (t : MtE) : Bool := atB L t.f (.meth (L.cn t.c) t.m) && (He.Fa.meth (L.cn t.c) t.m).ok K && !(L.fs t.c).contains t.m
def mkB (t : MkE) : Bool := atB L t.f (.meth t.x "__init__") && decide (L.cn t.c = t.x) && (He.Fa.mkr t.x).ok K && (He.Fa.glo t.x).ok K && (L.cls.map (·.1)).contains t.c
def prB (t : PrE) : Bool := atB L t.f (.prop (L.cn t.c) t.m) && (L.cls.map (·.1)).contains t.c && (He.eqO (PySem.W.findIn K (.ref (He.ga K (L.cn t.c))) t.m) (some (some (.ref (He.ma K (He.ga K (L.cn t.c)) t.m))))
  && He.eqO (PySem.W.specialIn K (.ref (He.ma K (He.ga K (L.cn t.c)) t.m)) "__get__") (some (some (.builtin "property.__get__"))) && eqB (PySem.W.takesIn K (.ref (He.ma K (He.ga K (L.cn t.c)) t.m))) (some true)
  && (match PySem.W.recIn K (He.ma K (He.ga K (L.cn t.c)) t.m) "property" with | some (.ref _ :: _) => true | _ => false))
def opB (t : OpE) : Bool := (match t.op with | .Add => true | .Sub => true | .Mult => true | _ => false) && atB L t.f (.meth (L.cn t.c) (PySem.dunder t.op.info.2)) && atB L t.rf (.meth (L.cn t.c) (dunderR t.op.info.2))
  && PySem.W.selfFirst K (He.ga K (L.cn t.c)) && (He.Fa.meth (L.cn t.c) (PySem.dunder t.op.info.2)).ok K && (He.Fa.meth (L.cn t.c) (dunderR t.op.info.2)).ok K
  && (PySem.W.findIn K (.type "int") (PySem.dunder t.op.info.2)).isSome && (PySem.W.findIn K (.type "int") (dunderR t.op.info.2)).isSome
  && eqB (PySem.W.subIn K (.type "int") (.ref (He.ga K (L.cn t.c)))) (some false) && eqB (PySem.W.subIn K (.ref (He.ga K (L.cn t.c))) (.type "int")) (some false)
def cpB (t : CpE) : Bool := (match t.op with | .LtE => true | .GtE => true | .Eq => true | _ => false) && atB L t.f (.meth (L.cn t.c) (cmpInfo t.op).2.1) && atB L t.rf (.meth (L.cn t.c) (cmpInfo t.op).2.2)
  && (He.Fa.meth (L.cn t.c) (cmpInfo t.op).2.1).ok K && (He.Fa.meth (L.cn t.c) (cmpInfo t.op).2.2).ok K
  && eqB (PySem.W.subIn K (.type "int") (.ref (He.ga K (L.cn t.c)))) (some false) && eqB (PySem.W.subIn K (.ref (He.ga K (L.cn t.c))) (.type "int")) (some false)
def ngB (t : Nat × Nat) : Bool := atB L t.2 (.meth (L.cn t.1) "__neg__") && (He.Fa.meth (L.cn t.1) "__neg__").ok K
def hsB (t : Nat × Nat) : Bool := atB L t.2 (.meth (L.cn t.1) "__contains__") && (He.Fa.meth (L.cn t.1) "__contains__").ok K
def conK (p : Str × D) : Bool := match p.2 with
  | .str z => (He.Fa.str p.1 z).ok K
  | .int i => (He.Fa.int p.1 i).ok K
  | _ => false
def getB : Bool := He.eqO (PySem.W.specialIn K (.builtin "object.__class__") "__get__") (some (some (.builtin "getset_descriptor.__get__"))) && eqB (PySem.W.takesIn K (.builtin "object.__class__")) (some true)
def xnB (p : Nat × Str) : Bool := (He.Fa.glo p.2).ok K && decide (L.cn p.1 = p.2) && (L.xcl.map (·.1)).contains p.1
def exE (t : ExE) : Bool := (He.Fa.glo t.x).ok K && decide (L.cn t.c = t.x) && decide (L.fs t.c = t.ps.reverse) && L.exs.any fun e => decide (e.c = t.c) && decide (e.x = t.x) && decide (e.ps = t.ps)
def xcB (p : Nat × Str) : Bool := decide (L.cn p.1 = p.2) && !(p.1 == 0) && decide (L.fs p.1).Nodup && (L.fs p.1).all (fun f => He.eqO (PySem.W.findIn K (.ref (He.ga K p.2)) f) (some none)) && xfB K (He.ga K p.2) && eqB (PySem.W.subIn K (.ref (He.ga K p.2)) (.type "BaseException")) (some true)
  && He.eqO (PySem.W.findIn K (.ref (He.ga K p.2)) "__class__") (some (some (.builtin "object.__class__"))) && eqB (PySem.W.mroIn K (He.ga K p.2) (.type "object")) (some true) && eqB (PySem.W.kitOne K (.ref (He.ga K p.2)) (.type "ValueError")) (some true)
  && L.xcl.all fun q => eqB (PySem.W.kitOne K (.ref (He.ga K p.2)) (.ref (He.ga K q.2))) (some (subC p.1 q.1)) && eqB (PySem.W.exmOne K (.ref (He.ga K p.2)) (.ref (He.ga K q.2))) (some (subC p.1 q.1))
def facB : Bool := (He.Fa.free "super").ok K && L.T.bl.all (fun x => (He.Fa.free x).ok K) && L.T.con.all (conK K) && L.T.cl.all (fun p => (He.Fa.glo p.2).ok K && decide (L.cn p.1 = p.2) && (L.cls.map (·.1)).contains p.1) && L.T.fn.all (fnB L K) && L.T.mt.all (mtB L K) && L.T.mks.all (mkB L K) && L.T.pr.all (prB L K) && L.T.op.all (opB L K) && L.T.cp.all (cpB L K) && L.T.ng.all (ngB L K) && L.T.hs.all (hsB L K) && L.cls.all (clB L K) && getB K && L.T.xn.all (xnB L K) && L.T.ex.all (exE L K) && L.xcl.all (xcB L K)
end
/-- parameters, by place or by name -/
structure BndOk (L : LawD) (K : Frag) : Prop where
  fn : ∀ t ∈ L.T.fn, ∀ s ∈ t.sh, ShOk (L.fns K) (L.sta K) K t.f s.n s.ks s.dfl
  mt : ∀ t ∈ L.T.mt, ∀ s ∈ t.sh, ShOk (L.fns K) (L.sta K) K t.f (s.n + 1) s.ks s.dfl
  mks : ∀ t ∈ L.T.mks, ∀ s ∈ t.sh, s.ks = [] ∧ ∃ dvs ds, Binds K ((L.fns K).fd t.f) ((L.fns K).ps t.f) ds ∧ Vals dvs ds ∧ ∀ F H, RepDs (L.sta K) F H s.dfl dvs
  pr : ∀ t ∈ L.T.pr, Binds K ((L.fns K).fd t.f) ((L.fns K).ps t.f) []
  op : ∀ t ∈ L.T.op, Binds K ((L.fns K).fd t.f) ((L.fns K).ps t.f) [] ∧ Binds K ((L.fns K).fd t.rf) ((L.fns K).ps t.rf) []
  cp : ∀ t ∈ L.T.cp, Binds K ((L.fns K).fd t.f) ((L.fns K).ps t.f) [] ∧ Binds K ((L.fns K).fd t.rf) ((L.fns K).ps t.rf) []
  ng : ∀ t ∈ L.T.ng, Binds K ((L.fns K).fd t.2) ((L.fns K).ps t.2) []
  hs : ∀ t ∈ L.T.hs, Binds K ((L.fns K).fd t.2) ((L.fns K).ps t.2) []
section
variable {L : LawD} {K : Frag}
theorem at_fa {f : Nat} {p : Pth} (h : atB L f p = true) : (L.fns K).fa f = p.adr K := by
  cases e : L.find f with
  | none => simp [atB, e] at h
  | some d =>
    have h1 : d.pth = p := by simpa [atB, e] using h
    show L.fa K f = _
    rw [LawD.find_fa e, h1]
theorem eqB_ok {a b : Option Bool} (h : eqB a b = true) : a = b := of_decide_eq_true h
theorem fx_ok (a14 : getB K = true) (a17 : L.xcl.all (xcB L K) = true) : FX (L.sta K) (L.xcl.map (·.1)) := by
  obtain ⟨g1, g2⟩ := Bool.and_eq_true_iff.mp a14
  have all : ∀ d ∈ L.xcl.map (·.1), ∃ p ∈ L.xcl, p.1 = d ∧ L.cn d = p.2 ∧ d ≠ 0 ∧ (L.fs d).Nodup ∧ (∀ f ∈ L.fs d, PySem.W.findIn K (.ref (He.ga K p.2)) f = some none) ∧ XfC K (He.ga K p.2) ∧ PySem.W.subIn K (.ref (He.ga K p.2)) (.type "BaseException") = some true ∧ PySem.W.findIn K (.ref (He.ga K p.2)) "__class__" = some (some (.builtin "object.__class__")) ∧ PySem.W.mroIn K (He.ga K p.2) (.type "object") = some true ∧ PySem.W.kitOne K (.ref (He.ga K p.2)) (.type "ValueError") = some true ∧ ∀ q ∈ L.xcl, PySem.W.kitOne K (.ref (He.ga K p.2)) (.ref (He.ga K q.2)) = some (subC d q.1) ∧ PySem.W.exmOne K (.ref (He.ga K p.2)) (.ref (He.ga K q.2)) = some (subC d q.1) := fun d hd => by
    obtain ⟨p, hp, e⟩ := List.mem_map.mp hd
    subst e
    have z := List.all_eq_true.mp a17 p hp
    simp only [xcB, Bool.and_eq_true] at z
    obtain ⟨⟨⟨⟨⟨⟨⟨⟨⟨z1, z2⟩, z3⟩, z4⟩, z5⟩, z6⟩, z7⟩, z8⟩, z9⟩, z10⟩ := z
    refine ⟨p, hp, rfl, of_decide_eq_true z1, by simpa using z2, of_decide_eq_true z3, fun f hf => He.eqO_ok (List.all_eq_true.mp z4 f hf), xfB_ok z5, eqB_ok z6, He.eqO_ok z7, eqB_ok z8, eqB_ok z9, fun q hq => ?_⟩
    obtain ⟨w1, w2⟩ := Bool.and_eq_true_iff.mp (List.all_eq_true.mp z10 q hq)
    exact ⟨eqB_ok w1, eqB_ok w2⟩
  have cn : ∀ d, (L.sta K).cn d = He.ga K (L.cn d) := fun _ => rfl
  refine ⟨fun d hd => ?_, fun d hd => ?_, fun d hd f hf => ?_, fun d hd => ?_, fun d hd => ?_, fun d hd => ?_, fun d hd e he => ?_, fun d hd e he => ?_⟩
  · obtain ⟨p, _, _, e, _, _, _, x1, x2, x3, x4, _⟩ := all d hd
    rw [cn, e]
    exact ⟨x1.ga, x1.gg, x2, x1.hdC, x3, He.eqO_ok g1, eqB_ok g2, x4⟩
  · obtain ⟨p, _, _, e, _, _, _, x1, _⟩ := all d hd
    rw [cn, e]
    exact x1
  · obtain ⟨p, _, _, e, _, _, x0, _⟩ := all d hd
    rw [cn, e]
    exact x0 f hf
  · obtain ⟨p, _, _, e, _, x0, _⟩ := all d hd
    exact x0
  · obtain ⟨p, _, _, e, _, _, _, _, _, _, _, x5, _⟩ := all d hd
    rw [cn, e]
    exact x5
  · obtain ⟨p, _, _, _, x0, _⟩ := all d hd
    exact x0
  · obtain ⟨p, _, _, e1, _, _, _, _, _, _, _, _, x6⟩ := all d hd
    obtain ⟨q, hq, e2, e3, _⟩ := all e he
    rw [cn, cn, e1, e3, ← e2]
    exact (x6 q hq).1
  · obtain ⟨p, _, _, e1, _, _, _, _, _, _, _, _, x6⟩ := all d hd
    obtain ⟨q, hq, e2, e3, _⟩ := all e he
    rw [cn, cn, e1, e3, ← e2]
    exact (x6 q hq).2
theorem sys_ok {P : Program} {h : Heap} {mg : Str → Option Value} (X : K.In h) (G : h.Ns mainGlobals mg) (fc : facB L K = true) (bd : BndOk L K) (hx : ∀ e ∈ L.exs, VX.ExT P K (e.C K) (e.I K) e.ps) : SysOk (L.fns K) L.T (L.xcl.map (·.1)) (L.sta K) P K mg ∧ FC (L.sta K) := by
  simp only [facB, Bool.and_eq_true] at fc
  obtain ⟨⟨⟨⟨⟨⟨⟨⟨⟨⟨⟨⟨⟨⟨⟨⟨a1, a2⟩, a3⟩, a4⟩, a5⟩, a6⟩, a7⟩, a8⟩, a9⟩, a10⟩, a11⟩, a12⟩, a13⟩, a14⟩, a15⟩, a16⟩, a17⟩ := fc
  have cls : ∀ c ∈ (L.sta K).cl, ∃ p ∈ L.cls, p.1 = c ∧ clB L K p = true := fun c hc => by
    obtain ⟨p, hp, e⟩ := List.mem_map.mp hc
    exact ⟨p, hp, e, List.all_eq_true.mp a13 p hp⟩
  have cl : ∀ c ∈ (L.sta K).cl, ∃ p ∈ L.cls, p.1 = c ∧ L.cn c = p.2 ∧ (He.Fa.cls p.2).ok K = true ∧ (L.fs c).Nodup ∧ (∀ f ∈ L.fs c, (He.Fa.noat p.2 f).ok K = true) ∧ (L.fs c).length < 1000 ∧ PySem.W.findIn K (.ref (He.ga K p.2)) "__class__" = some (some (.builtin "object.__class__")) ∧ PySem.W.mroIn K (He.ga K p.2) (.type "object") = some true ∧ (∀ t : Ty, PySem.W.kitOne K (.ref (He.ga K p.2)) (.type t.nm) = some false) ∧ PySem.W.kitOne K (.type "int") (.ref (He.ga K p.2)) = some false ∧ ∀ q ∈ L.cls, q.1 ≠ c → PySem.W.kitOne K (.ref (He.ga K q.2)) (.ref (He.ga K p.2)) = some false := fun c hc => by
    obtain ⟨p, hp, e, z⟩ := cls c hc
    subst e
    simp only [clB, Bool.and_eq_true] at z
    obtain ⟨⟨⟨⟨⟨⟨⟨⟨⟨b1, b2⟩, b3⟩, b4⟩, b5⟩, b6⟩, b7⟩, b8⟩, b9⟩, b10⟩ := z
    refine ⟨p, hp, rfl, of_decide_eq_true b10, b1, of_decide_eq_true b2, fun f hf => List.all_eq_true.mp b3 f hf, of_decide_eq_true b4, He.eqO_ok b5, eqB_ok b6, fun t => eqB_ok (List.all_eq_true.mp b7 t (by cases t <;> simp)), eqB_ok b8, fun q hq hne => ?_⟩
    rcases Bool.or_eq_true_iff.mp (List.all_eq_true.mp b9 q hq) with w | w
    · exact absurd (of_decide_eq_true w) hne
    · exact eqB_ok w
  obtain ⟨g1, g2⟩ := Bool.and_eq_true_iff.mp a14
  refine ⟨{
    fi := ⟨fun c hc => ?_, He.eqO_ok g1, eqB_ok g2, fun c hc => ?_, fun c hc t => ?_, fun c hc => ?_, fun c hc d hd hne => ?_⟩
    fxx := fx_ok a14 a17
    sup := He.free_ok X G a1
    bl := fun x hx => He.free_ok X G (List.all_eq_true.mp a2 x hx)
    fs := fun c l e => by show (L.T.fs.lookup c).getD [] = l; rw [e]; rfl
    con := fun p hp => ?_
    cl := fun p hp => ?_
    xn := fun p hp => ?_
    fn := fun t ht => ?_
    mt := fun t ht => ?_
    mks := fun t ht => ?_
    pr := fun t ht => ?_
    ex := fun t ht => ?_
    op := fun t ht => ?_
    cp := fun t ht => ?_
    ng := fun t ht => ?_
    hs := fun t ht => ?_ }, ⟨fun c hc => ?_, fun c hc => ?_, fun c hc f hf => ?_, fun c hc => ?_⟩⟩
  · obtain ⟨p, hp, e, e2, b1, b2, b3, b4, b5, b6, b7, b8, b9⟩ := cl c hc
    show PySem.W.findIn K (.ref (He.ga K (L.cn c))) _ = _
    rw [e2]; exact b5
  · obtain ⟨p, hp, e, e2, b1, b2, b3, b4, b5, b6, b7, b8, b9⟩ := cl c hc
    show PySem.W.mroIn K (He.ga K (L.cn c)) _ = _
    rw [e2]; exact b6
  · obtain ⟨p, hp, e, e2, b1, b2, b3, b4, b5, b6, b7, b8, b9⟩ := cl c hc
    show PySem.W.kitOne K (.ref (He.ga K (L.cn c))) _ = _
    rw [e2]; exact b7 t
  · obtain ⟨p, hp, e, e2, b1, b2, b3, b4, b5, b6, b7, b8, b9⟩ := cl c hc
    show PySem.W.kitOne K _ (.ref (He.ga K (L.cn c))) = _
    rw [e2]; exact b8
  · obtain ⟨p, hp, e, e2, b1, b2, b3, b4, b5, b6, b7, b8, b9⟩ := cl c hc
    obtain ⟨q, hq, e', e2', _⟩ := cl d hd
    show PySem.W.kitOne K (.ref (He.ga K (L.cn d))) (.ref (He.ga K (L.cn c))) = _
    rw [e2, e2']
    exact b9 q hq (by rw [e']; exact fun z => hne z.symm)
  · have z := List.all_eq_true.mp a3 p hp
    unfold conK at z
    split at z
    · rename_i s e
      obtain ⟨t, m⟩ := He.str_ok X G z
      exact ⟨.str s, _, m, ⟨t, rfl⟩, fun _ _ => by rw [e]; rfl⟩
    · rename_i s e
      obtain ⟨t, m⟩ := He.int_ok X G z
      exact ⟨.int s, _, m, ⟨t, rfl⟩, fun _ _ => by rw [e]; rfl⟩
    · cases z
  · have z := List.all_eq_true.mp a4 p hp
    simp only [Bool.and_eq_true] at z
    obtain ⟨⟨z1, z2⟩, z3⟩ := z
    refine ⟨?_, List.contains_iff_mem.mp z3⟩
    show mg p.2 = some (.ref (He.ga K (L.cn p.1)))
    rw [of_decide_eq_true z2]
    exact He.glo_ok X G z1
  · have z := List.all_eq_true.mp a15 p hp
    simp only [xnB, Bool.and_eq_true] at z
    obtain ⟨⟨z1, z2⟩, z3⟩ := z
    refine ⟨?_, List.contains_iff_mem.mp z3⟩
    show mg p.2 = some (.ref (He.ga K (L.cn p.1)))
    rw [of_decide_eq_true z2]
    exact He.glo_ok X G z1
  · have z := List.all_eq_true.mp a5 t ht
    simp only [fnB, Bool.and_eq_true] at z
    obtain ⟨⟨z1, z2⟩, z3⟩ := z
    rw [at_fa z1]
    exact ⟨He.glo_ok X G z2, z3, bd.fn t ht⟩
  · have z := List.all_eq_true.mp a6 t ht
    simp only [mtB, Bool.and_eq_true] at z
    obtain ⟨⟨z1, z2⟩, z3⟩ := z
    rw [at_fa z1]
    exact ⟨He.meth_ok z2, (fun q => by
      have e : (L.fs t.c).contains t.m = true := List.contains_iff_mem.mpr q
      rw [e] at z3
      cases z3), bd.mt t ht⟩
  · have z := List.all_eq_true.mp a7 t ht
    simp only [mkB, Bool.and_eq_true] at z
    obtain ⟨⟨⟨⟨z1, z2⟩, z3⟩, z4⟩, z5⟩ := z
    have e2 := of_decide_eq_true z2
    rw [at_fa z1]
    refine ⟨?_, ?_, List.contains_iff_mem.mp z5, bd.mks t ht⟩
    · show Mk K (He.ga K (L.cn t.c)) _
      rw [e2]
      exact He.mkr_ok z3
    · show mg t.x = some (.ref (He.ga K (L.cn t.c)))
      rw [e2]
      exact He.glo_ok X G z4
  · have z := List.all_eq_true.mp a8 t ht
    simp only [prB, Bool.and_eq_true] at z
    obtain ⟨⟨z1, z2⟩, ⟨⟨z3, z4⟩, z5⟩, z6⟩ := z
    refine ⟨List.contains_iff_mem.mp z2, ⟨_, He.eqO_ok z3, He.eqO_ok z4, eqB_ok z5, ?_⟩, bd.pr t ht⟩
    rw [at_fa z1]
    split at z6
    · rename_i g rest e
      refine ⟨rest, ?_⟩
      show PySem.W.recIn K (He.ma K (He.ga K (L.cn t.c)) t.m) _ = some (.ref (gtr K _) :: rest)
      unfold gtr
      rw [e]
    · cases z6
  · have z := List.all_eq_true.mp a16 t ht
    simp only [exE, Bool.and_eq_true] at z
    obtain ⟨⟨⟨z1, z2⟩, z3⟩, z4⟩ := z
    obtain ⟨e, he, q⟩ := List.any_eq_true.mp z4
    simp only [Bool.and_eq_true] at q
    obtain ⟨⟨q1, q2⟩, q3⟩ := q
    have e2 := of_decide_eq_true z2
    have T := hx e he
    have eC : e.C K = He.ga K (L.cn t.c) := by unfold ExD.C; rw [e2, of_decide_eq_true q2]
    have eI : e.I K = He.ma K (He.ga K (L.cn t.c)) "__init__" := by unfold ExD.I; rw [e2, of_decide_eq_true q2]
    rw [eC, eI, of_decide_eq_true q3] at T
    refine ⟨T, of_decide_eq_true z3, ?_⟩
    show mg t.x = some (.ref (He.ga K (L.cn t.c)))
    rw [e2]
    exact He.glo_ok X G z1
  · have z := List.all_eq_true.mp a9 t ht
    simp only [opB, Bool.and_eq_true] at z
    obtain ⟨⟨⟨⟨⟨⟨⟨⟨⟨z0, z1⟩, z2⟩, z3⟩, z4⟩, z5⟩, z6⟩, z7⟩, z8⟩, z9⟩ := z
    rw [at_fa z1, at_fa z2]
    obtain ⟨m1, m2, _⟩ := He.meth_ok z4
    obtain ⟨m3, m4, _⟩ := He.meth_ok z5
    refine ⟨⟨z3, m1, m2, m3, m4, Option.isSome_iff_exists.mp z6, Option.isSome_iff_exists.mp z7, eqB_ok z8, eqB_ok z9⟩, ?_, bd.op t ht⟩
    cases e : t.op <;> rw [e] at z0 <;> first | exact iop_add | exact iop_sub | exact iop_mul | cases z0
  · have z := List.all_eq_true.mp a10 t ht
    simp only [cpB, Bool.and_eq_true] at z
    obtain ⟨⟨⟨⟨⟨⟨z0, z1⟩, z2⟩, z4⟩, z5⟩, z8⟩, z9⟩ := z
    rw [at_fa z1, at_fa z2]
    obtain ⟨m1, m2, _⟩ := He.meth_ok z4
    obtain ⟨m3, m4, _⟩ := He.meth_ok z5
    refine ⟨⟨m1, m2, m3, m4, eqB_ok z8, eqB_ok z9⟩, ?_, bd.cp t ht⟩
    cases e : t.op <;> rw [e] at z0 <;> first | exact icmp_le | exact icmp_ge | exact icmp_eq | cases z0
  · have z := List.all_eq_true.mp a11 t ht
    obtain ⟨z1, z2⟩ := Bool.and_eq_true_iff.mp z
    rw [at_fa z1]
    obtain ⟨m1, m2, _⟩ := He.meth_ok z2
    exact ⟨⟨m1, m2⟩, bd.ng t ht⟩
  · have z := List.all_eq_true.mp a12 t ht
    obtain ⟨z1, z2⟩ := Bool.and_eq_true_iff.mp z
    rw [at_fa z1]
    obtain ⟨m1, m2, _⟩ := He.meth_ok z2
    exact ⟨⟨m1, m2⟩, bd.hs t ht⟩
  · obtain ⟨p, hp, e, e2, b1, b2, b3, b4, b5, b6, b7, b8, b9⟩ := cl c hc
    exact b2
  · obtain ⟨p, hp, e, e2, b1, b2, b3, b4, b5, b6, b7, b8, b9⟩ := cl c hc
    show Cls K (He.ga K (L.cn c))
    rw [e2]
    exact He.cls_ok b1
  · obtain ⟨p, hp, e, e2, b1, b2, b3, b4, b5, b6, b7, b8, b9⟩ := cl c hc
    show NoAttr K (He.ga K (L.cn c)) f
    rw [e2]
    exact He.noat_ok (b3 f hf)
  · obtain ⟨p, hp, e, e2, b1, b2, b3, b4, b5, b6, b7, b8, b9⟩ := cl c hc
    exact b4
end
end VE

namespace VE
open PySem PySem.Spec
                     PyProof.Rows L2
abbrev AlV : Type := Bool × List He.FnW × List FnX
/-- an empty tuple stands there -/
def tupE (K : Frag) (a : Addr) : Bool := match K.lookup a with
  | some ⟨.type c, _, .seq its _, _⟩ => decide (c = "tuple") && its.isEmpty
  | _ => false
theorem tupE_ok {S : Sta} {F : Fz} {H : Hp} {a : Addr} (h : tupE S.K a = true) : RepD S F H (.tup []) (.ref a) := by
  unfold tupE at h
  split at h
  · rename_i c od its n sl e
    obtain ⟨h1, h2⟩ := Bool.and_eq_true_iff.mp h
    have ei := Array.isEmpty_iff.mp h2
    subst ei
    exact ⟨a, [], rfl, .inr ⟨_, #[], n, e, congrArg Value.type (of_decide_eq_true h1), rfl, Nat.zero_le _, .nil⟩, rfl⟩
  · cases h
def obsK (L : LawD) (K : Frag) : AlV := (((He.Fa.glo "law").ok K && (L.tup0.all (fun p => tupE K (p K)) && facB L K)) && L.exs.all (fun e => exB K L.file e) && L.defs.all fun d => d.ok K, L.defs.map fun d => fnA K (d.pth.adr K), L.exs.map fun e => fnX K (e.I K))
def valK (L : LawD) : AlV := (true, L.defs.map DefE.val, L.exs.map ExD.val)
/-- what the module's names and the statics reach -/
def asV (g : Addr → Option Obj) : Nat → List Addr
  | 0 => [mainGlobals, cStatics]
  | n + 1 => He.growD g (asV g n)
def obsV (n : Nat) (L : LawD) (g : Addr → Option Obj) : AlV := obsK L (He.frG g (asV g n))
def hookV (n : Nat) (L : LawD) : PySem.W.Hook where
  α := AlV
  obs := fun s => obsV n L s.heap.get?
  val := fun _ => valK L
  says := fun _ h => ∃ K : Frag, K.In h ∧ obsK L K = valK L
  of := fun _ _ e => ⟨_, He.frG_in, e⟩
  keeps := fun _ _ _ ⟨K, hK, e⟩ k => ⟨K, hK.keeps k, e⟩
theorem obsV_eq {n : Nat} {L : LawD} {g : Addr → Option Obj} {s : Shared} (h : ∀ a, g a = s.heap.get? a) : obsV n L g = (hookV n L).obs s := by
  have e : g =
              s.heap.get? := funext h
  subst e
  rfl
theorem mem_get_eq {α β : Type} {f g : α → β} : ∀ {l : List α}, l.map f = l.map g → ∀ a ∈ l, f a = g a
  | [], _, a, h => by cases h
  | x :: l, e, a, h => by
    rw [List.map_cons,
                      List.map_cons] at e
    injection e with e1 e2
    rcases List.mem_cons.mp
                           h with z | z
    · rw [z]; exact e1
    · exact mem_get_eq e2 a z
abbrev FunAll (L : LawD) (K : Frag) : Prop := ∀ d ∈ L.defs, FunD K d.name d.qual d.params d.body d.scope (d.dfl.map fun f => f K) [] (d.pth.adr K) (fdA K (d.pth.adr K))
theorem obs_funs {L : LawD} {K : Frag} (h : obsK L K = valK L) : ((He.Fa.glo "law").ok K = true ∧ facB L K = true) ∧ FunAll L K ∧ (∀ p ∈ L.tup0, tupE K (p K) = true) ∧ ∀ e ∈ L.exs, exB K L.file e = true ∧ fnX K (e.I K) = e.val := by
  have h1 : (((He.Fa.glo "law").ok K && (L.tup0.all (fun p => tupE K (p K)) && facB L K)) && L.exs.all (fun e => exB K L.file e) && L.defs.all fun d => d.ok K) = true := congrArg (fun z : AlV => z.1) h
  have h2 : L.defs.map (fun d => fnA K (d.pth.adr K)) = L.defs.map DefE.val := congrArg (fun z : AlV => z.2.1) h
  have h3 : L.exs.map (fun e => fnX K (e.I K)) = L.exs.map ExD.val := congrArg (fun z : AlV => z.2.2) h
  obtain ⟨a, b⟩ := Bool.and_eq_true_iff.mp h1
  obtain ⟨a, ax⟩ := Bool.and_eq_true_iff.mp a
  obtain ⟨a1, a2⟩ := Bool.and_eq_true_iff.mp a
  obtain ⟨a2, a3⟩ := Bool.and_eq_true_iff.mp a2
  exact ⟨⟨a1, a3⟩, fun d hd => DefE.funD (mem_get_eq h2 d hd) (List.all_eq_true.mp b d hd), fun p hp => List.all_eq_true.mp a2 p hp, fun e he => ⟨List.all_eq_true.mp ax e he, mem_get_eq h3 e he⟩⟩
theorem ints_rep {S : Sta} {F : Fz} {H : Hp} : ∀ ns : List Int, RepDs S F H (ns.map D.int) (ns.map V.int)
  | [] => rfl
  | n :: ns => ⟨_, _, rfl, rfl, ints_rep ns⟩
/-- the script alone -/
theorem law_sp {S : Sta} {C : Calls} {f : Nat} {H : Hp} {a : Addr} {ns : List Int} (hS : SqL S.K H a (ns.map V.int)) {fin : List O} (h : C f [.v (.lst (ns.map D.int))] = .ok (.v (.bl true)) fin) : spF S C f [.ref a] H (fun v _ => v = .bl true) fun _ _ _ => False := by
  let F : Fz := fun b => b = a ∧ ∃ o, H b = some o
  have rep : RepD S F H (.lst (ns.map D.int)) (.ref a) := by
    refine ⟨a, ns.map V.int, rfl, ?_, ints_rep ns⟩
    rcases hS with z | z
    · exact .inl ⟨⟨rfl, by rcases z with z | ⟨o, z⟩ <;> exact ⟨_, z⟩⟩, z⟩
    · exact .inr z
  have one : ∀ (i : Nat) (t : T), ([T.val (.lst (ns.map D.int)) (.ref a)].map some)[i]? = some (some t) → t = T.val (.lst (ns.map D.int)) (.ref a) := fun i t e => by
    cases i with
    | zero => exact (Option.some.inj (Option.some.inj e)).symm
    | succ i => cases i <;> cases e
  have no : ∀ b, b ∉ (T.val (.lst (ns.map D.int)) (.ref a)).ads := fun b z => by simp [T.ads, TC.ads] at z
  refine ⟨F, [T.val (.lst (ns.map D.int)) (.ref a)], rfl, ⟨fun i t e => ?_, fun i t e => ?_, fun i j t u _ e _ b hb => ?_, fun i t e b hb => ?_, fun b hb => hb.2, fun b o e _ => e, fun b hb => hb, fun b hb => .inl hb, fun i t e b hb => ?_⟩, ?_⟩
  · rw [one i t e]; exact rep
  · rw [one i t e]; simp [T.ads, TC.ads]
  · rw [one i t e] at hb; exact absurd hb (no b)
  · rw [one i t e] at hb; exact absurd hb (no b)
  · rw [one i t e] at hb; exact absurd hb (no b)
  · have e : C f ([T.val (.lst (ns.map D.int)) (.ref a)].map T.o) = .ok (.v (.bl true)) fin := h
    rw [e]
    intro F' H' ts' t g _ _ et
    have ok : t.ok S F' H' := g.ok ts'.length t (by simp)
    cases t with
    | cell x =>
      cases x with
      | val d v =>
        have ed : d = .bl true := by
          injection et with z
          injection z
        subst ed
        exact ok
      | _ => cases et
    | obj _ _ _ _ => cases et
/-- the law's end -/
theorem law_end {l : PySem.W.OpenLaw} {nn : Nat} {q : Program} {loose : List Str} {XP : (Str → Option Value) → Heap → Prop} {dr : DefRec} (L : LawD) (lid : Nat) (dl : DefE)
    (hn : l.most = some 63) (hdf : dr.params.defaults = []) (hdn : dr.name = ("law" : Str)) (hr : Room 40 callerA) (hl : L.find lid = some dl) (hp : dl.pth = .glo "law") (hps : dl.ps = [(("_law_script" : String) : Str)]) (hdd : dl.dfl = []) (hpl : PlainB dl)
    (chk : ∀ d ∈ L.defs, d.chkB L.T = true) (bnd : ∀ K, FunAll L K → (∀ p ∈ L.tup0, tupE K (p K) = true) → BndOk L K) (hfile : l.prog.main.file = L.file) (htop : (l.prog.main.scope.names.lookup ("super" : Str)).isSome = false) (hxe : ∀ e ∈ L.exs, e.chkB = true) (hxp : ∀ e ∈ L.exs, PlainX e)
    (val : ∀ ns : List Int, ns.length ≤ 63 → ∃ fin, Cs (L.xcl.map (·.1)) L.Fs 40 lid [.v (.lst (ns.map D.int))] = .ok (.v (.bl true)) fin) :
    PySem.W.WalkO q loose XP (hookV nn L).says l.row.toRowW dr [] (fun f vs => PySem.call f vs) := by
  refine Att.attach_call hn hdf fun w s₀ s₁ mg mb fa o pm
                                                         cd doc a vs ns G Y ho hd hcd hmg hobj hints hlen hg => ?_
  obtain ⟨K, KX, e⟩ := Y
  obtain ⟨⟨gl, fc⟩, fs, tp, xs⟩ := obs_funs e
  obtain ⟨sys, fcc⟩ := sys_ok (P := l.prog) KX G.T.g fc (bnd K fs tp) fun e he => exB_ok (hfile ▸ (xs e he).1) (hxe e he) (xs e he).2 (hxp e he) htop
  have hfa : fa = He.ga K "law" := by
    have h1 : mg ("law" : Str) = some (.ref fa) := hdn ▸ hmg
    rw [He.glo_ok KX G.T.g gl] at h1
    cases h1
    rfl
  have eL : L.fa K lid = fa := by rw [LawD.find_fa hl, hp, hfa]; rfl
  have D := fs dl (LawD.find_mem hl)
  rw [hdd] at D
  have bindL : ∀ (s : Shared) (u : Value), BindsTo s (fdA K (dl.pth.adr K)) ⟨[u], []⟩ [((("_law_script" : String) : Str), u)] := fun s u => by
    have z := FunD.bindsA (ps := dl.ps) D hpl s [u] (by rw [hps]; rfl)
    rw [hps] at z
    exact z
  have all : ∀ base : Heap, FnAt (L.fns K) (L.sta K) l.prog w K mg base 40 (Cs (L.xcl.map (·.1)) L.Fs 40) := fun base => (all_ok rfl fcc sys (fun f fn h => by
    obtain ⟨d, h1, h2⟩ := Option.map_eq_some_iff.mp h
    subst h2
    exact DefE.defOk h1 (fs d (LawD.find_mem h1)) (chk d (LawD.find_mem h1))) 40).1
  have main : ∀ base : Heap, FnOk l.prog w K mg base (CX l.prog w) 40 fa (fdA K (dl.pth.adr K)) [(("_law_script" : String) : Str)] (spF (L.sta K) (Cs (L.xcl.map (·.1)) L.Fs 40) lid) := fun base => by
    have z := all base lid
    have e1 : (L.fns K).fa lid = fa := eL
    have e2 : (L.fns K).fd lid = fdA K (dl.pth.adr K) := by show fdA K (L.fa K lid) = _; rw [LawD.find_fa hl]
    have e3 : (L.fns K).ps lid = [(("_law_script" : String) : Str)] := by show (match L.find lid with | some d => d.ps | none => []) = _; rw [hl]; exact hps
    rw [e1, e2, e3] at z
    exact z
  have len63 : ns.length ≤ sizeLine := Nat.le_trans hlen (by decide)
  refine law_call (CX := CX l.prog w) KX G.T.g G.T.b G.T.builtins G.T.nolimit hg hobj hints len63 hr (fun base _ _ => main base) bindL (fun H _ hS => ?_) fun H u s' ⟨_, _, _, _, _, _, _, _, _, _, _, _, z⟩ => z
  obtain ⟨fin, hv⟩ := val ns hlen
  exact law_sp hS hv
end VE

namespace VE
open PySem PySem.Spec
                     PyProof.Rows L2
section
variable {L : LawD} {K : Frag}
theorem plain_bind (fs : FunAll L K) {f : Nat} {d : DefE} (h : L.find f = some d) (hd : d.dfl = []) (p : PlainB d) : Binds K ((L.fns K).fd f) ((L.fns K).ps f) [] := by
  have D := fs d (LawD.find_mem h)
  rw [hd] at D
  have z := FunD.bindsN (ps := d.ps) D p
  have e2 : (L.fns K).fd f = fdA K (d.pth.adr K) := by show fdA K (L.fa K f) = _; rw [LawD.find_fa h]
  have e3 : (L.fns K).ps f = d.ps := by show (match L.find f with | some d => d.ps | none => []) = _; rw [h]
  rw [e2, e3]
  exact z
theorem kw_bind (fs : FunAll L K) {f n : Nat} {ks : List Str} {d : DefE} (h : L.find f = some d) (hd : d.dfl = []) (p : ∀ (kV doc pm : Value) (an : Option Addr) (cdv ct : Value) (us ws : List Value), us.length = n → ws.length = ks.length → bindArgs (PySem.W.fnOf d.name d.qual d.params d.body d.scope .none kV doc pm an cdv ct) ⟨us, ks.zip ws⟩ = pure (d.ps.zip (us ++ ws))) : ShOk (L.fns K) (L.sta K) K f n ks [] := by
  have D := fs d (LawD.find_mem h)
  rw [hd] at D
  have z := binds_kw (ps := d.ps) D p
  have e2 : (L.fns K).fd f = fdA K (d.pth.adr K) := by show fdA K (L.fa K f) = _; rw [LawD.find_fa h]
  have e3 : (L.fns K).ps f = d.ps := by show (match L.find f with | some d => d.ps | none => []) = _; rw [h]
  refine ⟨[], [], ?_, .nil, fun _ _ => rfl⟩
  rw [e2, e3]
  exact z
/-- which are plain, which are told apart -/
structure BndS where
  pl : List Nat
  sp : List (Nat × Nat × List Str)
  mks : List (Nat × List D)
def plB (L : LawD) (B : BndS) (f n : Nat) : Bool := B.pl.contains f && (match L.find f with | some d => decide (d.ps.length = n) | none => false)
def shB (L : LawD) (B : BndS) (f n : Nat) (s : Shp) : Bool := beqDs s.dfl [] && ((s.ks.isEmpty && plB L B f n) || B.sp.contains (f, n, s.ks))
def bndB (L : LawD) (B : BndS) : Bool := L.T.fn.all (fun t => t.sh.all fun s => shB L B t.f s.n s) && L.T.mt.all (fun t => t.sh.all fun s => shB L B t.f (s.n + 1) s) && L.T.mks.all (fun t => t.sh.all fun s => s.ks.isEmpty && B.mks.any fun q => q.1 == t.f && beqDs q.2 s.dfl)
  && L.T.pr.all (fun t => B.pl.contains t.f) && L.T.op.all (fun t => B.pl.contains t.f && B.pl.contains t.rf) && L.T.cp.all (fun t => B.pl.contains t.f && B.pl.contains t.rf) && L.T.ng.all (fun t => B.pl.contains t.2) && L.T.hs.all fun t => B.pl.contains t.2
theorem bnd_ok (B : BndS) (hp : ∀ f ∈ B.pl, Binds K ((L.fns K).fd f) ((L.fns K).ps f) []) (hs : ∀ q ∈ B.sp, ShOk (L.fns K) (L.sta K) K q.1 q.2.1 q.2.2 []) (hm : ∀ q ∈ B.mks, ∃ dvs ds, Binds K ((L.fns K).fd q.1) ((L.fns K).ps q.1) ds ∧ Vals dvs ds ∧ ∀ F H, RepDs (L.sta K) F H q.2 dvs) (h : bndB L B = true) : BndOk L K := by
  simp only [bndB, Bool.and_eq_true] at h
  obtain ⟨⟨⟨⟨⟨⟨⟨h1, h2⟩, h3⟩,
                             h4⟩, h5⟩, h6⟩, h7⟩, h8⟩ := h
  have sh : ∀ f n s, shB L B f n s = true → ShOk (L.fns K) (L.sta K) K f n s.ks s.dfl := fun f n s z => by
    obtain ⟨z1, z2⟩ := Bool.and_eq_true_iff.mp z
    rw [beqDs_eq z1]
    rcases Bool.or_eq_true_iff.mp z2 with w | w
    · obtain ⟨w1, w2⟩ := Bool.and_eq_true_iff.mp w
      obtain ⟨w2, w3⟩ := Bool.and_eq_true_iff.mp w2
      rw [List.isEmpty_iff.mp w1]
      refine ⟨[], [], BindsG.of (hp f (List.contains_iff_mem.mp w2)) ?_, .nil, fun _ _ => rfl⟩
      split at w3
      · rename_i d e
        show n + 0 = (match L.find f with | some d => d.ps | none => []).length
        rw [e]
        exact (of_decide_eq_true w3).symm
      · cases w3
    · exact hs (f, n, s.ks) (List.contains_iff_mem.mp w)
  refine ⟨fun t ht s hs => ?_, fun t ht s hs => ?_, fun t ht s hs => ?_, fun t ht => ?_, fun t ht => ?_, fun t ht => ?_, fun t ht => ?_, fun t ht => ?_⟩
  · exact sh _ _ _ (List.all_eq_true.mp (List.all_eq_true.mp h1 t ht) s hs)
  · exact sh _ _ _ (List.all_eq_true.mp (List.all_eq_true.mp h2 t ht) s hs)
  · obtain ⟨z1, z2⟩ := Bool.and_eq_true_iff.mp (List.all_eq_true.mp (List.all_eq_true.mp h3 t ht) s hs)
    obtain ⟨q, q1, q2⟩ := List.any_eq_true.mp z2
    obtain ⟨q3, q4⟩ := Bool.and_eq_true_iff.mp q2
    refine ⟨List.isEmpty_iff.mp z1, ?_⟩
    rw [← beqDs_eq q4, ← beq_iff_eq.mp q3]
    exact hm q q1
  · exact hp _ (List.contains_iff_mem.mp (List.all_eq_true.mp h4 t ht))
  · obtain ⟨z1, z2⟩ := Bool.and_eq_true_iff.mp (List.all_eq_true.mp h5 t ht)
    exact ⟨hp _ (List.contains_iff_mem.mp z1), hp _ (List.contains_iff_mem.mp z2)⟩
  · obtain ⟨z1, z2⟩ := Bool.and_eq_true_iff.mp (List.all_eq_true.mp h6 t ht)
    exact ⟨hp _ (List.contains_iff_mem.mp z1), hp _ (List.contains_iff_mem.mp z2)⟩
  · exact hp _ (List.contains_iff_mem.mp (List.all_eq_true.mp h7 t ht))
  · exact hp _ (List.contains_iff_mem.mp (List.all_eq_true.mp h8 t ht))
end
abbrev nmsI : List Str := [(("self" : String) : Str), (("constant" : String) : Str), (("terms" : String) : Str)]
structure InitP (p : Arguments) : Prop where
  h1 : p.posonlyargs = []
  h2 : p.args.map (·.arg) = nmsI
  h3 : p.vararg = none
  h4 : p.kwonlyargs = []
  h5 : p.kwarg = none
theorem init2 {x qual : Str} {p : Arguments} {body : List Stmt} {scope : Scope} {T : Addr} {kV doc pm : Value} {an : Option Addr} {cdv ct : Value} (h : InitP p) (u v w : Value) :
    ∃ k, bindArgs (PySem.W.fnOf x qual p body scope (.ref T) kV doc pm an cdv ct) ⟨[u, v], []⟩ = seqItems? (.ref T) >>= k ∧ k (some #[w]) = pure (nmsI.zip [u, v, w]) := by
  obtain ⟨po, ar, va, kwo, kwd, kwa, df⟩ := p
  obtain ⟨h1, h2, h3, h4, h5⟩ := h
  dsimp only at h1 h2 h3 h4 h5
  subst h1 h3 h4 h5
  unfold bindArgs PySem.W.fnOf
  dsimp only
  rw [h2]
  exact ⟨_, rfl, rfl⟩
theorem init3 {x qual : Str} {p : Arguments} {body : List Stmt} {scope : Scope} {T : Addr} {kV doc pm : Value} {an : Option Addr} {cdv ct : Value} (h : InitP p) (u v z w : Value) :
    ∃ k, bindArgs (PySem.W.fnOf x qual p body scope (.ref T) kV doc pm an cdv ct) ⟨[u, v, z], []⟩ = seqItems? (.ref T) >>= k ∧ k (some #[w]) = pure (nmsI.zip [u, v, z]) := by
  obtain ⟨po, ar, va, kwo, kwd, kwa, df⟩ := p
  obtain ⟨h1, h2, h3, h4, h5⟩ := h
  dsimp only at h1 h2 h3 h4 h5
  subst h1 h3 h4 h5
  unfold bindArgs PySem.W.fnOf
  dsimp only
  rw [h2]
  exact ⟨_, rfl, rfl⟩
end VE

namespace VE
open PySem
theorem shp_i (a : Int) : SeqAt.shaped (.int a) = true := by
  simp [SeqAt.shaped, PyData.canLay0, PyData.depth]
theorem shp_s {a : Str} (h : PyData.strOk a = true) : SeqAt.shaped (.str a) = true := by
  simp [SeqAt.shaped, PyData.canLay0, PyData.depth, h]
theorem eqD_ii (a b : Int) : eqD (.int a) (.int b) = some (decide (a = b)) := by
  have e : (a == b) = decide (a = b) := by
    rw [Bool.eq_iff_iff]
    simp
  simp [eqD, D.py, shp_i, PyData.eqv, e]
theorem eqD_ss {a b : Str} (h1 : PyData.strOk a = true) (h2 : PyData.strOk b = true) : eqD (.str a) (.str b) = some (decide (a = b)) := by
  have e : (a == b) = decide (a = b) := by
    rw [Bool.eq_iff_iff]
    simp
  simp [eqD, D.py, shp_s h1, shp_s h2, PyData.eqv, e]
theorem comp_run {g : Ge} {elt : E} {t : Tgt} {ik : ItK} {its : List E} {cond : Option E} {env env1 env2 : VE.Env} {ds xs r : List D} (h1 : evBs g its env = .ok ds env1) (h2 : itD ik ds = some xs) (h3 : lockS ik its = some none)
    (h4 : compGo g.lk (fun e => (evO g elt e).map O.frz) (evC g cond) t xs (wipeE env1 (tslots t)) [] = .ok r env2) : evO g (.comp elt t ik its cond) env = .ok (.cell (.lst r)) (restore env1 (tslots t) env2) := by
  unfold evO
  rw [h1]
  simp only [Out.bind, h2, h3, lockOk, lockE, unlockE, if_true]
  rw [h4]
  rfl
/-- a call by values and places -/
theorem call_run {g : Ge} {f kw : Nat} {es : List E} {dfl : List D} {env env1 : VE.Env} {as : List A} {os : List O} (h1 : evAs g none es env = .ok as env1) (h2 : (argsS as).Nodup) (h3 : argO env1 as = some os) : evO g (.call .fn f es kw dfl) env = (match g.C f (os ++ dfl.map O.v) with
    | .ok r fin => .ok r (backA as fin env1)
    | .exc x fin => .exc x (backA as fin env1)
    | .bad => .bad) := by
  unfold evO
  rw [show evAs g (CK.fst .fn) es env = .ok as env1 from h1]
  show runCall g.C .fn f as dfl env1 = _
  unfold runCall
  rw [if_pos h2, h3]
  rfl
end VE

namespace VN
open PySem VE
abbrev LT : Str := (("abcdefghijklmnopqrstuvwxyz" : String) : Str)
abbrev FR : Str := (("frame" : String) : Str)
def inL (c : Nat) : Bool := !(Builtin.Str.occurrences LT ⟨#[c]⟩ 0 LT.length 1).isEmpty
theorem inL_lt : ∀ c ∈ LT.cps.toList, inL c = true := by decide +kernel
/-- all letters -/
def Lw (s : Str) : Prop := ∀ c ∈ s.cps.toList, c ∈ LT.cps.toList
theorem Lw.all {s : Str} (h : Lw s) : (s.cps.toList.map inL).all id = true := by
  rw [List.all_eq_true]
  intro b hb
  obtain ⟨c, hc, e⟩ := List.mem_map.mp hb
  rw [← e]
  exact inL_lt c (h c hc)
theorem Lw.app {x y : Str} (h1 : Lw x) (h2 : Lw y) : Lw (x ++ y) := fun c hc => by
  have e : (x ++ y).cps.toList = x.cps.toList ++ y.cps.toList := Array.toList_append
  rw [e] at hc
  rcases List.mem_append.mp hc with q | q
  · exact h1 c q
  · exact h2 c q
theorem Lw.nil : Lw (("" : String) : Str) := by
  intro c hc
  have e : (("" : String) : Str).cps.toList = [] := by decide +kernel
  rw [e] at hc
  cases hc
theorem Lw.one {c : Nat} (h : c ∈ LT.cps.toList) : Lw ⟨#[c]⟩ := fun d hd => by
  have e : d = c := by simpa using hd
  rw [e]
  exact h
theorem len_app {x y : Str} : (x ++ y).length = x.length + y.length := by
  show (x.cps ++ y.cps).size = _
  rw [Array.size_append]
  rfl
/-- a text and the same with more behind it are not alike -/
theorem app_ne {x y : Str} (h : 0 < y.length) : x ++ y ≠ x := fun e => by
  have z := congrArg Str.length e
  rw [len_app] at z
  omega
/-- three tries make a name new among two -/
theorem fresh3 {ns : List Str} (hl : ns.length ≤ 2) {x y : Str} (h : 0 < y.length) : x ∉ ns ∨ x ++ y ∉ ns ∨ (x ++ y) ++ y ∉ ns := by
  by_cases h1 : x ∈ ns
  · by_cases h2 : x ++ y ∈ ns
    · refine .inr (.inr fun h3 => ?_)
      have n1 : x ≠ x ++ y := fun e => app_ne h e.symm
      have n2 : x ++ y ≠ (x ++ y) ++ y := fun e => app_ne h e.symm
      have n3 : x ≠ (x ++ y) ++ y := fun e => by
        have z := congrArg Str.length e
        rw [len_app, len_app] at z
        omega
      match ns, hl with
      | [], _ => cases h1
      | [a], _ =>
        have e1 : x = a := by simpa using h1
        have e2 : x ++ y = a := by simpa using h2
        exact n1 (e1.trans e2.symm)
      | [a, b], _ =>
        simp only [List.mem_cons, List.not_mem_nil, or_false] at h1 h2 h3
        rcases h1 with h1 | h1 <;> rcases h2 with h2 | h2 <;> rcases h3 with h3 | h3
        · exact n1 (h1.trans h2.symm)
        · exact n1 (h1.trans h2.symm)
        · exact n3 (h1.trans h3.symm)
        · exact n2 (h2.trans h3.symm)
        · exact n2 (h2.trans h3.symm)
        · exact n3 (h1.trans h3.symm)
        · exact n1 (h1.trans h2.symm)
        · exact n1 (h1.trans h2.symm)
    · exact .inr (.inl h2)
  · exact .inl h1
abbrev XX : Str := (("x" : String) : Str)
theorem list_ext {x y : Str} (h : x.cps.toList = y.cps.toList) : x = y := by
  obtain ⟨⟨a⟩⟩ := x
  obtain ⟨⟨b⟩⟩ := y
  have h : a = b := h
  rw [h]
theorem app_list {x y : Str} : (x ++ y).cps.toList = x.cps.toList ++ y.cps.toList := Array.toList_append
theorem fr_list : FR.cps.toList = [102, 114, 97, 109, 101] := by decide +kernel
theorem x_ne {s : Str} : s ++ XX ≠ FR := fun e => by
  have z := congrArg (fun s : Str => s.cps.toList.getLast?) e
  have ex : XX.cps.toList = [120] := by decide +kernel
  rw [app_list, ex, fr_list, List.getLast?_append] at z
  simp at z
theorem short_ne {s : Str} (h : s.length < 5) : s ≠ FR := fun e => by
  have z : FR.length = 5 := by decide +kernel
  rw [e, z] at h
  omega
theorem back_ne {s : Str} {c : Nat} (h : s ≠ (("fram" : String) : Str)) : s ++ ⟨#[c]⟩ ≠ FR := fun e => by
  have z := congrArg (fun s : Str => s.cps.toList) e
  rw [app_list, fr_list] at z
  have e1 : s.cps.toList ++ [c] = [102, 114, 97, 109] ++ [101] := z
  have e2 := (List.append_inj' e1 rfl).1
  exact h (list_ext (by rw [e2]; decide +kernel))
theorem front_ne {s : Str} {c : Nat} (h : s ≠ (("rame" : String) : Str)) : (⟨#[c]⟩ : Str) ++ s ≠ FR := fun e => by
  have z := congrArg (fun s : Str => s.cps.toList) e
  rw [app_list, fr_list] at z
  have e1 : c :: s.cps.toList = 102 :: [114, 97, 109, 101] := z
  injection e1 with _ e2
  exact h (list_ext (by rw [e2]; decide +kernel))
/-- a name as measured takes it -/
structure Nm (s : Str) : Prop where
  l : Lw s
  n0 : 0 < s.length
  n8 : s.length ≤ 8
  ne : s ≠ FR
end VN

namespace VE
open PySem L2
inductive Nm {α : Type} : α → α → Prop
  | rfl (a : α) : Nm a a
theorem Nm.eq {α : Type} {a b : α} (h : Nm a b) : a = b := by
  cases h; rfl
@[irreducible] def PE {α : Type} (r : Out α) (N : α → Env → Prop) (Z : X → Env → Prop) : Prop := match r with
  | .ok a e => N a e
  | .exc x e => Z x e
  | .bad => False
@[irreducible] def PS (r : SOut) (N : Env → Prop) (R : O → Env → Prop) (B C : Env → Prop) (Z : X → Env → Prop) : Prop := match r with
  | .nx e => N e
  | .ret o e => R o e
  | .brk e => B e
  | .cont e => C e
  | .exc x e => Z x e
  | .bad => False
@[irreducible] def PF (r : FOut) (N : O → List O → Prop) (Z : X → List O → Prop) : Prop := match r with
  | .ok o l => N o l
  | .exc x l => Z x l
  | .bad => False
@[irreducible] def So {α : Type} (r : Option α) (P : α → Prop) : Prop := match r with
  | some a => P a
  | none => False
@[irreducible] def Fr (o : O) (P : D → Prop) : Prop := P o.frz
@[irreducible] def Fc (o : O) (P : Cell → Prop) : Prop := match o with
  | .cell x => P x
  | .obj c cs => P (.val (O.frz (.obj c cs)))
@[irreducible] def Cz (o : Cell) (P : D → Prop) : Prop := P o.d
@[irreducible] def En (e : Env) (P : Env → Prop) : Prop := P e
@[irreducible] def Ln (e : List O) (P : List O → Prop) : Prop := P e
@[irreducible] def If (d : D) (A B : Prop) : Prop := match d with
  | .bl true => A
  | .bl false => B
  | _ => False
theorem PE.bind {α β : Type} {r : Out α} {f : α → Env → Out β} {N Z} (h : PE r (fun a e => PE (f a e) N Z) Z) : PE (r.bind f) N Z := by
  cases r <;> with_unfolding_all exact h
theorem PE.map {α β : Type} {r : Out α} {f : α → β} {N Z} (h : PE r (fun a e => N (f a) e) Z) : PE (r.map f) N Z := by
  cases r <;> with_unfolding_all exact h
theorem PE.mono {α : Type} {r : Out α} {N N' : α → Env → Prop} {Z Z' : X → Env → Prop} (h : PE r N Z) (h1 : ∀ a e, N a e → N' a e) (h2 : ∀ x e, Z x e → Z' x e) : PE r N' Z' := by
  cases r
  · with_unfolding_all exact h1 _ _ h
  · with_unfolding_all exact h2 _ _ h
  · with_unfolding_all exact h
theorem PS.mono {r : SOut} {N N' R R' B B' C C' Z Z'} (h : PS r N R B C Z) (h1 : ∀ e, N e → N' e) (h2 : ∀ o e, R o e → R' o e) (h3 : ∀ e, B e → B' e) (h4 : ∀ e, C e → C' e) (h5 : ∀ x e, Z x e → Z' x e) : PS r N' R' B' C' Z' := by
  cases r
  · with_unfolding_all exact h1 _ h
  · with_unfolding_all exact h2 _ _ h
  · with_unfolding_all exact h3 _ h
  · with_unfolding_all exact h4 _ h
  · with_unfolding_all exact h5 _ _ h
  · with_unfolding_all exact h
theorem PS.of {α : Type} {r : Out α} {f : α → Env → SOut} {N R B C Z} (h : PE r (fun a e => PS (f a e) N R B C Z) Z) : PS (SOut.of r f) N R B C Z := by
  cases r <;> with_unfolding_all exact h
theorem pe_lift {α : Type} {r : Option α} {env : Env} {N Z} (h : So r fun a => N a env) : PE (lift r env) N Z := by
  cases r <;> with_unfolding_all exact h
theorem ps_lift {r : Option Env} {N R B C Z} (h : So r N) : PS (liftS r) N R B C Z := by
  cases r <;> with_unfolding_all exact h
theorem so_of {α : Type} {r : Option α} {a : α} {P : α → Prop} (h : r = some a) (p : P a) : So r P := by
  rw [h]; with_unfolding_all exact p
theorem so_map {α β : Type} {r : Option α} {f : α → β} {P : β → Prop} (h : So r fun a => P (f a)) : So (r.map f) P := by
  cases r <;> with_unfolding_all exact h
theorem so_bind {α β : Type} {r : Option α} {f : α → Option β} {P : β → Prop} (h : So r fun a => So (f a) P) : So (r.bind f) P := by
  cases r <;> with_unfolding_all exact h
theorem fr_v {d : D} {P : D → Prop} (h : P d) : Fr (.cell (.val d)) P := by
  with_unfolding_all exact h
theorem fr_l {xs : List D} {P : D → Prop} (h : P (.lst xs)) : Fr (.cell (.lst xs)) P := by
  with_unfolding_all exact h
theorem fr_d {ks : List Key} {vs : List D} {P : D → Prop} (h : P (.dct ks vs)) : Fr (.cell (.dct ks vs)) P := by
  with_unfolding_all exact h
theorem fr_o {c : Nat} {cs : List Cell} {ds : List D} {P : D → Prop} (e : Nm (cs.map Cell.d) ds) (h : P (.obj c ds)) : Fr (.obj c cs) P := by
  with_unfolding_all show P (.obj c (cs.map Cell.d))
  rw [e.eq]; with_unfolding_all exact h
theorem fc_c {x : Cell} {P : Cell → Prop} (h : P x) : Fc (.cell x) P := by
  with_unfolding_all exact h
theorem fc_o {c : Nat} {cs : List Cell} {ds : List D} {P : Cell → Prop} (e : Nm (cs.map Cell.d) ds) (h : P (.val (.obj c ds))) : Fc (.obj c cs) P := by
  have h : P (.val (.obj c (cs.map Cell.d))) := by
    rw [e.eq]; exact h
  with_unfolding_all exact h
theorem cz_v {d : D} {P : D → Prop} (h : P d) : Cz (.val d) P := by
  with_unfolding_all exact h
theorem cz_l {xs : List D} {P : D → Prop} (h : P (.lst xs)) : Cz (.lst xs) P := by
  with_unfolding_all exact h
theorem cz_d {ks : List Key} {vs : List D} {P : D → Prop} (h : P (.dct ks vs)) : Cz (.dct ks vs) P := by
  with_unfolding_all exact h
theorem en_of {e e' : Env} {P : Env → Prop} (h : Nm e e') (p : P e') : En e P := by
  cases h; with_unfolding_all exact p
theorem ln_of {e e' : List O} {P : List O → Prop} (h : Nm e e') (p : P e') : Ln e P := by
  cases h; with_unfolding_all exact p
theorem if_t {A B : Prop} (h : A) : If (.bl true) A B := by
  with_unfolding_all exact h
theorem if_f {A B : Prop} (h : B) : If (.bl false) A B := by
  with_unfolding_all exact h
theorem if_b {b : Bool} {A B : Prop} (h1 : b = true → A) (h2 : b = false → B) : If (.bl b) A B := by
  cases b
  · with_unfolding_all exact h2 rfl
  · with_unfolding_all exact h1 rfl
theorem if_d {p : Prop} [Decidable p] {A B : Prop} (h1 : p → A) (h2 : ¬ p → B) : If (.bl (decide p)) A B := by
  with_unfolding_all exact if_b (fun h => h1 (of_decide_eq_true h)) fun h => h2 (of_decide_eq_false h)
theorem if_n {b : Bool} {A B : Prop} (h : If (.bl b) B A) : If (.bl (!b)) A B := by
  cases b <;> with_unfolding_all exact h
theorem if_p {p : Prop} [Decidable p] {A B : Prop} (h : p) (a : A) : If (.bl (decide p)) A B := by
  rw [decide_eq_true h]; with_unfolding_all exact a
theorem if_q {p : Prop} [Decidable p] {A B : Prop} (h : ¬ p) (a : B) : If (.bl (decide p)) A B := by
  rw [decide_eq_false h]; with_unfolding_all exact a
section
variable {g : Ge} {env : Env} {N : O → Env → Prop} {Z : X → Env → Prop}
theorem pd_of {e : E} {N : D → Env → Prop} (h : PE (evO g e env) (fun o e1 => Fr o fun d => N d e1) Z) : PE ((evO g e env).map O.frz) N Z := by
  with_unfolding_all exact PE.map h
theorem pb_of {e : E} {env1 : Env} {N : D → Env → Prop} (hp : ∀ r en, bor e r en = r.map O.frz) (h : PE (evO g e env) (fun o e1 => Fr o fun d => N d e1) Z) : PE (bor e (evO g e env) env1) N Z := by
  rw [hp]; with_unfolding_all exact PE.map h
theorem pb_plc {i : Nat} {o : O} {r : Out O} {N : D → Env → Prop} (h : gt env i = some o) (p : Fr o fun d => N d env) : PE (bor (.plc i) r env) N Z := by
  with_unfolding_all show PE (lift (snap env i) env) N Z
  with_unfolding_all refine pe_lift ?_
  unfold snap
  rw [h]; with_unfolding_all exact p
theorem pb_plcf {i c f : Nat} {cs : List Cell} {x : Cell} {r : Out O} {N : D → Env → Prop} (h : gt env i = some (.obj c cs)) (hx : cs[f]? = some x) (p : Cz x fun d => N d env) : PE (bor (.plcf i c f) r env) N Z := by
  with_unfolding_all show PE (lift (snapF env i c f) env) N Z
  with_unfolding_all refine pe_lift ?_
  unfold snapF
  rw [h]
  simp only [if_true, hx]
  with_unfolding_all exact p
theorem pb_plcv {i c f : Nat} {vs : List D} {d : D} {r : Out O} {N : D → Env → Prop} (h : gt env i = some (.cell (.val (.obj c vs)))) (hx : vs[f]? = some d) (p : N d env) : PE (bor (.plcf i c f) r env) N Z := by
  with_unfolding_all show PE (lift (snapF env i c f) env) N Z
  with_unfolding_all refine pe_lift ?_
  unfold snapF
  rw [h]
  simp only [if_true, hx]
  with_unfolding_all exact p
theorem po_var {i : Nat} {d : D} (h : gt env i = some (.cell (.val d))) (p : N (.cell (.val d)) env) : PE (evO g (.var i) env) N Z := by
  unfold evO; rw [h]; with_unfolding_all exact p
theorem po_vfz {i : Nat} {o : O} (h : gt env i = some o) (hv : o.isV = false) (p : Fr o fun d => En (setS env i (.cell (.val d))) fun e => N (.cell (.val d)) e) : PE (evO g (.var i) env) N Z := by
  unfold evO; rw [h]
  cases o with
  | obj c cs => with_unfolding_all exact p
  | cell x => cases x with
    | val d => with_unfolding_all exact absurd hv (by simp [O.isV])
    | _ => with_unfolding_all exact p
theorem po_mv {i : Nat} {d : D} (h : gt env i = some (.cell (.val d))) (p : N (.cell (.val d)) env) : PE (evO g (.mv i) env) N Z := by
  unfold evO; rw [h]; with_unfolding_all exact p
theorem po_mvo {i : Nat} {o : O} (h : gt env i = some o) (hv : o.isV = false) (hk : okAsg g.lk i = true) (p : En (env.set i none) fun e => N o e) : PE (evO g (.mv i) env) N Z := by
  unfold evO; rw [h]
  cases o with
  | obj c cs => simp only [hk, if_true]; with_unfolding_all exact p
  | cell x => cases x with
    | val d => with_unfolding_all exact absurd hv (by simp [O.isV])
    | _ => simp only [hk, if_true]; with_unfolding_all exact p
theorem po_plcf {i c f : Nat} {cs : List Cell} {d : D} (h : gt env i = some (.obj c cs)) (hx : cs[f]? = some (.val d)) (p : N (.cell (.val d)) env) : PE (evO g (.plcf i c f) env) N Z := by
  unfold evO; rw [h]
  simp only [if_true, hx]
  with_unfolding_all exact p
theorem po_plcv {i c f : Nat} {vs : List D} {d : D} (h : gt env i = some (.cell (.val (.obj c vs)))) (hx : vs[f]? = some d) (p : N (.cell (.val d)) env) : PE (evO g (.plcf i c f) env) N Z := by
  unfold evO; rw [h]
  simp only [if_true, hx, Option.map]
  with_unfolding_all exact p
theorem po_k {d : D} (p : N (.cell (.val d)) env) : PE (evO g (.k d) env) N Z := by
  unfold evO; with_unfolding_all exact p
theorem po_glo {i : Nat} (p : N (.cell (.val (.glo i))) env) : PE (evO g (.glo i) env) N Z := by
  unfold evO; with_unfolding_all exact p
theorem po_gstr {i : Nat} {s : Str} (p : N (.cell (.val (.str s))) env) : PE (evO g (.gstr i s) env) N Z := by
  unfold evO; with_unfolding_all exact p
theorem po_b1 {o : B1} {a : E} (p : PE (bor a (evO g a env) env) (fun x e1 => So (b1 o x) fun r => N r e1) Z) : PE (evO g (.b1 o a) env) N Z := by
  unfold evO
  with_unfolding_all exact PE.bind (PE.mono p (fun _ _ h => pe_lift h) fun _ _ h => h)
theorem po_b2 {o : B2} {a b : E} (p : PE (bor a (evO g a env) env) (fun x e1 => pre o x = true ∧ PE (bor b (evO g b e1) e1) (fun y e2 => So (b2 o x y) fun r => N r e2) Z) Z) : PE (evO g (.b2 o a b) env) N Z := by
  unfold evO
  with_unfolding_all refine PE.bind (PE.mono p (fun x e1 h => ?_) fun _ _ h => h)
  rw [if_pos h.1]
  with_unfolding_all exact PE.bind (PE.mono h.2 (fun _ _ h => pe_lift h) fun _ _ h => h)
theorem po_bd {os : List B2} {a b : E} (p : PE (bor a (evO g a env) env) (fun x e1 => PE (bor b (evO g b e1) e1) (fun y e2 => So (pick os x y) fun r => N r e2) Z) Z) : PE (evO g (.bd os a b) env) N Z := by
  unfold evO
  with_unfolding_all refine PE.bind (PE.mono p (fun x e1 h => ?_) fun _ _ h => h)
  with_unfolding_all exact PE.bind (PE.mono h (fun _ _ h => pe_lift h) fun _ _ h => h)
@[irreducible] def Own (C : Calls) (os : List B2) (c f rf : Nat) (x y : D) (env : Env) (N : O → Env → Prop) (Z : X → Env → Prop) : Prop := PE (match ownSide c x y with
    | .fst => runCall C .fn f [.t (.v x), .t (.v y)] [] env
    | .snd => runCall C .fn rf [.t (.v y), .t (.v x)] [] env
    | .no => lift (pick os x y) env
    | .bad => .bad) N Z
theorem po_own {op : Operator} {os : List B2} {c f rf : Nat} {a b : E} (p : PE ((evO g a env).map O.frz) (fun x e1 => PE ((evO g b e1).map O.frz) (fun y e2 => Own g.C os c f rf x y e2 N Z) Z) Z) : PE (evO g (.own op os c f rf a b) env) N Z := by
  unfold evO
  with_unfolding_all refine PE.bind (PE.mono p (fun x e1 h => ?_) fun _ _ h => h)
  with_unfolding_all exact PE.bind (PE.mono h (fun _ _ h => h) fun _ _ h => h)
theorem po_ownc {op : CmpOp} {os : List B2} {c f rf : Nat} {a b : E} (p : PE ((evO g a env).map O.frz) (fun x e1 => PE ((evO g b e1).map O.frz) (fun y e2 => Own g.C os c f rf x y e2 N Z) Z) Z) : PE (evO g (.ownc op os c f rf a b) env) N Z := by
  unfold evO
  with_unfolding_all refine PE.bind (PE.mono p (fun x e1 h => ?_) fun _ _ h => h)
  with_unfolding_all exact PE.bind (PE.mono h (fun _ _ h => h) fun _ _ h => h)
theorem own_no {C : Calls} {os : List B2} {c f rf : Nat} {x y : D} (h : ownSide c x y = .no) (p : So (pick os x y) fun r => N r env) : Own C os c f rf x y env N Z := by
  unfold Own; rw [h]; with_unfolding_all exact pe_lift p
theorem own_fst {C : Calls} {os : List B2} {c f rf : Nat} {x y : D} (h : ownSide c x y = .fst) (p : PF (C f [.v x, .v y]) (fun r fin => N r env) fun x fin => Z x env) : Own C os c f rf x y env N Z := by
  unfold Own; rw [h]
  with_unfolding_all show PE (runCall C .fn f [.t (.v x), .t (.v y)] [] env) N Z
  unfold runCall
  rw [if_pos (by simp [argsS])]
  show PE (match C f [.v x, .v y] with
    | .ok r fin => .ok r (backA [.t (.v x), .t (.v y)] fin env)
    | .exc z fin => .exc z (backA [.t (.v x), .t (.v y)] fin env)
    | .bad => .bad) N Z
  have hb : ∀ fin, backA [.t (.v x), .t (.v y)] fin env = env := fun fin => by
    rcases fin with _ | ⟨a, _ | ⟨b, r⟩⟩ <;> rfl
  cases hc : C f [.v x, .v y] <;> rw [hc] at p <;> simp only [hb] <;> with_unfolding_all exact p
theorem own_snd {C : Calls} {os : List B2} {c f rf : Nat} {x y : D} (h : ownSide c x y = .snd) (p : PF (C rf [.v y, .v x]) (fun r fin => N r env) fun x fin => Z x env) : Own C os c f rf x y env N Z := by
  unfold Own; rw [h]
  with_unfolding_all show PE (runCall C .fn rf [.t (.v y), .t (.v x)] [] env) N Z
  unfold runCall
  rw [if_pos (by simp [argsS])]
  show PE (match C rf [.v y, .v x] with
    | .ok r fin => .ok r (backA [.t (.v y), .t (.v x)] fin env)
    | .exc z fin => .exc z (backA [.t (.v y), .t (.v x)] fin env)
    | .bad => .bad) N Z
  have hb : ∀ fin, backA [.t (.v y), .t (.v x)] fin env = env := fun fin => by
    rcases fin with _ | ⟨a, _ | ⟨b, r⟩⟩ <;> rfl
  cases hc : C rf [.v y, .v x] <;> rw [hc] at p <;> simp only [hb] <;> with_unfolding_all exact p
theorem po_own1i {c f : Nat} {a : E} (p : PE ((evO g a env).map O.frz) (fun x e1 => ∃ i, x = .int i ∧ N (.v (.int (-i))) e1) Z) : PE (evO g (.own1 c f a) env) N Z := by
  unfold evO
  with_unfolding_all refine PE.bind (PE.mono p (fun x e1 h => ?_) fun _ _ h => h)
  obtain ⟨i, rfl, h⟩ := h
  with_unfolding_all exact h
theorem po_own1o {c f : Nat} {a : E} (p : PE ((evO g a env).map O.frz) (fun x e1 => ∃ vs, x = .obj c vs ∧ PF (g.C f [.v x]) (fun r fin => N r e1) fun z fin => Z z e1) Z) : PE (evO g (.own1 c f a) env) N Z := by
  unfold evO
  with_unfolding_all refine PE.bind (PE.mono p (fun x e1 h => ?_) fun _ _ h => h)
  obtain ⟨vs, rfl, h⟩ := h
  simp only [if_true]
  unfold runCall
  rw [if_pos (by simp [argsS])]
  show PE (match g.C f [.v (.obj c vs)] with
    | .ok r fin => .ok r (backA [.t (.v (.obj c vs))] fin e1)
    | .exc z fin => .exc z (backA [.t (.v (.obj c vs))] fin e1)
    | .bad => .bad) N Z
  have hb : ∀ fin, backA [.t (.v (.obj c vs))] fin e1 = e1 := fun fin => by
    rcases fin with _ | ⟨a, r⟩ <;> rfl
  cases hc : g.C f [.v (.obj c vs)] <;> rw [hc] at h <;> simp only [hb] <;> with_unfolding_all exact h
@[irreducible] def Ng (C : Calls) (c f : Nat) (x : D) (env : Env) (N : O → Env → Prop) (Z : X → Env → Prop) : Prop := (∃ i, x = .int i ∧ N (.v (.int (-i))) env) ∨ ∃ vs, x = .obj c vs ∧ PF (C f [.v x]) (fun r _ => N r env) fun z _ => Z z env
theorem ng_i {C : Calls} {c f : Nat} {i : Int} (h : N (.cell (.val (.int (-i)))) env) : Ng C c f (.int i) env N Z := by
  unfold Ng
  exact .inl ⟨i, rfl, h⟩
theorem ng_o {C : Calls} {c f : Nat} {vs : List D} (h : PF (C f [.cell (.val (.obj c vs))]) (fun r _ => N r env) fun z _ => Z z env) : Ng C c f (.obj c vs) env N Z := by
  unfold Ng
  exact .inr ⟨vs, rfl, h⟩
theorem po_own1 {c f : Nat} {a : E} (p : PE ((evO g a env).map O.frz) (fun x e1 => Ng g.C c f x e1 N Z) Z) : PE (evO g (.own1 c f a) env) N Z := by
  unfold evO
  with_unfolding_all refine PE.bind (PE.mono p (fun x e1 h => ?_) fun _ _ h => h)
  unfold Ng at h
  rcases h with ⟨i, rfl, h⟩ | ⟨vs, rfl, h⟩
  · with_unfolding_all exact h
  simp only [if_true]
  unfold runCall
  rw [if_pos (by simp [argsS])]
  show PE (match g.C f [.v (.obj c vs)] with
    | .ok r fin => .ok r (backA [.t (.v (.obj c vs))] fin e1)
    | .exc z fin => .exc z (backA [.t (.v (.obj c vs))] fin e1)
    | .bad => .bad) N Z
  have hb : ∀ fin, backA [.t (.v (.obj c vs))] fin e1 = e1 := fun fin => by
    rcases fin with _ | ⟨a, r⟩ <;> rfl
  cases hc : g.C f [.v (.obj c vs)] <;> rw [hc] at h <;> simp only [hb] <;> with_unfolding_all exact h
theorem po_and {a b : E} (p : PE ((evO g a env).map O.frz) (fun x e1 => If x (PE ((evO g b e1).map O.frz) (fun y e2 => (∃ r, y = .bl r) ∧ N (.v y) e2) Z) (N (.v (.bl false)) e1)) Z) : PE (evO g (.and a b) env) N Z := by
  unfold evO
  with_unfolding_all refine PE.bind (PE.mono p (fun x e1 h => ?_) fun _ _ h => h)
  unfold If at h
  split at h
  · with_unfolding_all refine PE.bind (PE.mono h (fun y e2 h => ?_) fun _ _ h => h)
    obtain ⟨⟨r, rfl⟩, h⟩ := h
    with_unfolding_all exact h
  · with_unfolding_all exact h
  · with_unfolding_all exact h.elim
theorem po_or {a b : E} (p : PE ((evO g a env).map O.frz) (fun x e1 => If x (N (.v (.bl true)) e1) (PE ((evO g b e1).map O.frz) (fun y e2 => (∃ r, y = .bl r) ∧ N (.v y) e2) Z)) Z) : PE (evO g (.or a b) env) N Z := by
  unfold evO
  with_unfolding_all refine PE.bind (PE.mono p (fun x e1 h => ?_) fun _ _ h => h)
  unfold If at h
  split at h
  · with_unfolding_all exact h
  · with_unfolding_all refine PE.bind (PE.mono h (fun y e2 h => ?_) fun _ _ h => h)
    obtain ⟨⟨r, rfl⟩, h⟩ := h
    with_unfolding_all exact h
  · with_unfolding_all exact h.elim
theorem po_ite {c a b : E} (p : PE ((evO g c env).map O.frz) (fun x e1 => If x (PE (evO g a e1) N Z) (PE (evO g b e1) N Z)) Z) : PE (evO g (.ite c a b) env) N Z := by
  unfold evO
  with_unfolding_all refine PE.bind (PE.mono p (fun x e1 h => ?_) fun _ _ h => h)
  unfold If at h
  split at h
  · with_unfolding_all exact h
  · with_unfolding_all exact h
  · with_unfolding_all exact h.elim
@[irreducible] def Chn (o : Option O) (A B : Prop) : Prop := match o with
  | some (.cell (.val (.bl true))) => A
  | some (.cell (.val (.bl false))) => B
  | _ => False
theorem chn_of {o : Option O} {b : Bool} {A B : Prop} (h : o = some (.v (.bl b))) (p : If (.bl b) A B) : Chn o A B := by
  rw [h]
  cases b <;> with_unfolding_all exact p
theorem po_chain {o q : B2} {a b c : E} (p : PE (bor a (evO g a env) env) (fun x e1 => PE (bor b (evO g b e1) e1) (fun y e2 => Chn (b2 o x y) (PE (bor c (evO g c e2) e2) (fun z e3 => So (b2 q y z) fun r => N r e3) Z) (N (.v (.bl false)) e2)) Z) Z) : PE (evO g (.chain o q a b c) env) N Z := by
  unfold evO
  with_unfolding_all refine PE.bind (PE.mono p (fun x e1 h => ?_) fun _ _ h => h)
  with_unfolding_all refine PE.bind (PE.mono h (fun y e2 h => ?_) fun _ _ h => h)
  unfold Chn at h
  split at h
  · rename_i e
    try rw [e]
    with_unfolding_all exact PE.bind (PE.mono h (fun _ _ h => pe_lift h) fun _ _ h => h)
  · rename_i e
    try rw [e]
    with_unfolding_all exact h
  · with_unfolding_all exact h.elim
theorem pp_none {N : Option Int → Env → Prop} (p : N none env) : PE (evP g none env) N Z := by
  unfold evP; with_unfolding_all exact p
theorem pp_some {e : E} {N : Option Int → Env → Prop} (p : PE ((evO g e env).map O.frz) (fun x e1 => ∃ i, x = .int i ∧ N (some i) e1) Z) : PE (evP g (some e) env) N Z := by
  unfold evP
  with_unfolding_all refine PE.bind (PE.mono p (fun x e1 h => ?_) fun _ _ h => h)
  obtain ⟨i, rfl, h⟩ := h
  with_unfolding_all exact h
theorem po_slc {a : E} {lo hi : Option E} (p : PE (bor a (evO g a env) env) (fun x e1 => PE (evP g lo e1) (fun l e2 => PE (evP g hi e2) (fun h e3 => So (slcD x l h) fun r => N r e3) Z) Z) Z) : PE (evO g (.slc a lo hi) env) N Z := by
  unfold evO
  with_unfolding_all refine PE.bind (PE.mono p (fun x e1 h => ?_) fun _ _ h => h)
  with_unfolding_all refine PE.bind (PE.mono h (fun x e1 h => ?_) fun _ _ h => h)
  with_unfolding_all exact PE.bind (PE.mono h (fun _ _ h => pe_lift h) fun _ _ h => h)
theorem po_fld {a : E} {c f : Nat} (p : PE ((evO g a env).map O.frz) (fun x e1 => So (fldD x c f) fun r => N r e1) Z) : PE (evO g (.fld a c f) env) N Z := by
  unfold evO
  with_unfolding_all exact PE.bind (PE.mono p (fun _ _ h => pe_lift h) fun _ _ h => h)
theorem po_tup {es : List E} (p : PE (evDs g es env) (fun xs e1 => So (newT xs) fun r => N r e1) Z) : PE (evO g (.tup es) env) N Z := by
  unfold evO
  with_unfolding_all exact PE.bind (PE.mono p (fun _ _ h => pe_lift h) fun _ _ h => h)
theorem po_lst {es : List E} (p : PE (evDs g es env) (fun xs e1 => So (newL xs) fun r => N r e1) Z) : PE (evO g (.lst es) env) N Z := by
  unfold evO
  with_unfolding_all exact PE.bind (PE.mono p (fun _ _ h => pe_lift h) fun _ _ h => h)
theorem po_fst {es : List E} (p : PE (evDs g es env) (fun xs e1 => So (glue ⟨#[]⟩ xs) fun s => N (.v (.str s)) e1) Z) : PE (evO g (.fst es) env) N Z := by
  unfold evO
  with_unfolding_all exact PE.bind (PE.mono p (fun _ _ h => pe_lift (so_map h)) fun _ _ h => h)
theorem po_dct {ks : List Str} {es : List E} (p : PE (evDs g es env) (fun xs e1 => (ks.length = xs.length ∧ ks.Nodup ∧ ks.length ≤ 15) ∧ N (.cell (.dct (ks.map .inr) xs)) e1) Z) : PE (evO g (.dct ks es) env) N Z := by
  unfold evO
  with_unfolding_all refine PE.bind (PE.mono p (fun x e1 h => ?_) fun _ _ h => h)
  rw [if_pos h.1]
  with_unfolding_all exact h.2
theorem pds_nil {N : List D → Env → Prop} (p : N [] env) : PE (evDs g [] env) N Z := by
  unfold evDs; with_unfolding_all exact p
theorem pds_cons {e : E} {es : List E} {N : List D → Env → Prop} (p : PE ((evO g e env).map O.frz) (fun x e1 => PE (evDs g es e1) (fun xs e2 => N (x :: xs) e2) Z) Z) : PE (evDs g (e :: es) env) N Z := by
  unfold evDs
  with_unfolding_all refine PE.bind (PE.mono p (fun x e1 h => ?_) fun _ _ h => h)
  with_unfolding_all exact PE.bind (PE.mono h (fun _ _ h => h) fun _ _ h => h)
theorem pbs_nil {N : List D → Env → Prop} (p : N [] env) : PE (evBs g [] env) N Z := by
  unfold evBs; with_unfolding_all exact p
theorem pbs_cons {e : E} {es : List E} {N : List D → Env → Prop} (p : PE (bor e (evO g e env) env) (fun x e1 => PE (evBs g es e1) (fun xs e2 => N (x :: xs) e2) Z) Z) : PE (evBs g (e :: es) env) N Z := by
  unfold evBs
  with_unfolding_all refine PE.bind (PE.mono p (fun x e1 h => ?_) fun _ _ h => h)
  with_unfolding_all exact PE.bind (PE.mono h (fun _ _ h => h) fun _ _ h => h)
theorem pas_nil {N : List A → Env → Prop} (p : N [] env) : PE (evAs g none [] env) N Z := by
  unfold evAs; with_unfolding_all exact p
theorem pas_io {ck : Option Nat} {i : Nat} {es : List E} {N : List A → Env → Prop} (h : ((gt env i).isSome && clsOk ck (gt env i)) = true) (p : PE (evAs g none es env) (fun xs e2 => N (.s i :: xs) e2) Z) : PE (evAs g ck (.io i :: es) env) N Z := by
  unfold evAs
  rw [if_pos h]
  with_unfolding_all exact PE.bind (PE.mono p (fun _ _ h => h) fun _ _ h => h)
theorem pas_cons {ck : Option Nat} {e : E} {es : List E} {N : List A → Env → Prop} (hi : isIo e = false) (p : PE (evO g e env) (fun x e1 => clsOk ck (some x) = true ∧ PE (evAs g none es e1) (fun xs e2 => N (.t x :: xs) e2) Z) Z) : PE (evAs g ck (e :: es) env) N Z := by
  rw [evAs_cons hi]
  with_unfolding_all refine PE.bind (PE.mono p (fun x e1 h => ?_) fun _ _ h => h)
  rw [if_pos h.1]
  with_unfolding_all exact PE.bind (PE.mono h.2 (fun _ _ h => h) fun _ _ h => h)
theorem pc_run {C : Calls} {k : CK} {f : Nat} {as : List A} {dfl : List D} {os os' : List O} (h1 : (argsS as).Nodup) (h2 : argO env as = some os) (h3 : clsOk k.slf os.head? = true) (h4 : Nm (os ++ dfl.map O.v) os') (p : PF (C f os') (fun r fin => En (backA as fin env) fun e => N r e) fun x fin => En (backA as fin env) fun e => Z x e) : PE (runCall C k f as dfl env) N Z := by
  cases h4
  unfold runCall
  rw [if_pos h1, h2]
  simp only [h3, if_true]
  cases hc : C f (os ++ dfl.map O.v) <;> rw [hc] at p <;> with_unfolding_all exact p
theorem po_call {k : CK} {f kw : Nat} {es : List E} {dfl : List D} (p : PE (evAs g k.fst es env) (fun as e1 => PE (runCall g.C k f (turnArgs k as) dfl e1) N Z) Z) : PE (evO g (.call k f es kw dfl) env) N Z := by
  unfold evO
  with_unfolding_all exact PE.bind (PE.mono p (fun _ _ h => h) fun _ _ h => h)
theorem po_fn {f kw : Nat} {es : List E} {dfl : List D} (p : PE (evAs g none es env) (fun as e1 => PE (runCall g.C .fn f as dfl e1) N Z) Z) : PE (evO g (.call .fn f es kw dfl) env) N Z := by
  with_unfolding_all exact po_call p
theorem po_meth {c f kw : Nat} {es : List E} {dfl : List D} (p : PE (evAs g (some c) es env) (fun as e1 => PE (runCall g.C (.meth c) f as dfl e1) N Z) Z) : PE (evO g (.call (.meth c) f es kw dfl) env) N Z := by
  with_unfolding_all exact po_call p
theorem po_prop {es : List E} {c f : Nat} (p : PE (evAs g (some c) es env) (fun as e1 => PE (runCall g.M (.prop c) f as [] e1) N fun _ _ => False) Z) : PE (evO g (.prop es c f) env) N Z := by
  unfold evO
  with_unfolding_all refine PE.bind (PE.mono p (fun as e1 h => ?_) fun _ _ h => h)
  cases hr : runCall g.M (.prop c) f as [] e1 <;> rw [hr] at h <;> with_unfolding_all exact h
theorem pm_run {C : Calls} {c f : Nat} {as : List A} {dfl : List D} {os os' : List O} (h1 : (argsS as).Nodup) (h2 : argO env as = some os) (h4 : Nm (os ++ dfl.map O.v) os') (p : PF (C f (.obj c [] :: os')) (fun r fin => r = .v .non ∧ ∃ o l, fin = o :: l ∧ En (backA as l env) fun e => N o e) fun x fin => ∃ o l, fin = o :: l ∧ En (backA as l env) fun e => Z x e) : PE (runMake C c f as dfl env) N Z := by
  cases h4
  unfold runMake
  rw [if_pos h1, h2]
  show PE (match C f (.obj c [] :: (os ++ dfl.map O.v)) with
      | .ok (.cell (.val .non)) (o :: fin) => .ok o (backA as fin env)
      | .exc x (_ :: fin) => .exc x (backA as fin env)
      | _ => .bad) N Z
  cases hc : C f (.obj c [] :: (os ++ dfl.map O.v)) <;> rw [hc] at p
  · unfold PF at p
    obtain ⟨rfl, o, l, rfl, h⟩ := p
    with_unfolding_all exact h
  · unfold PF at p
    obtain ⟨o, l, rfl, h⟩ := p
    with_unfolding_all exact h
  · with_unfolding_all exact p
theorem po_make {c f : Nat} {es : List E} {dfl : List D} (p : PE (evAs g none es env) (fun as e1 => PE (runMake g.M c f as dfl e1) N Z) Z) : PE (evO g (.make c f es dfl) env) N Z := by
  unfold evO
  with_unfolding_all exact PE.bind (PE.mono p (fun _ _ h => h) fun _ _ h => h)
theorem po_comp {elt : E} {t : Tgt} {ik : ItK} {its : List E} {cond : Option E} (hl : lockS ik its = some none) (p : PE (evBs g its env) (fun ds e1 => So (itD ik ds) fun xs => En (wipeE e1 (tslots t)) fun e2 => PE (compGo g.lk (fun e => (evO g elt e).map O.frz) (evC g cond) t xs e2 []) (fun r e3 => En (restore e1 (tslots t) e3) fun e4 => N (.cell (.lst r)) e4) fun _ _ => False) Z) : PE (evO g (.comp elt t ik its cond) env) N Z := by
  unfold evO
  with_unfolding_all refine PE.bind (PE.mono p (fun ds e1 h => ?_) fun _ _ h => h)
  cases hx : itD ik ds with
  | none => rw [hx] at h; with_unfolding_all exact h.elim
  | some xs =>
    rw [hx] at h
    simp only [hl, lockOk, lockE, unlockE, if_true]
    with_unfolding_all refine PE.bind ?_
    have h : PE (compGo g.lk (fun e => (evO g elt e).map O.frz) (evC g cond) t xs (wipeE e1 (tslots t)) []) (fun r e3 => En (restore e1 (tslots t) e3) fun e4 => N (.cell (.lst r)) e4) fun _ _ => False := by with_unfolding_all exact h
    cases hr : compGo g.lk (fun e => (evO g elt e).map O.frz) (evC g cond) t xs (wipeE e1 (tslots t)) [] <;> rw [hr] at h <;> with_unfolding_all exact h
theorem po_compd {elt : E} {t : Tgt} {i : Nat} {cond : Option E} {ks : List Key} {vs : List D} (hd : gt env i = some (.cell (.dct ks vs))) (p : En (wipeE (setS env i (.cell .lck)) (tslots t)) fun e2 => PE (compGo g.lk (fun e => (evO g elt e).map O.frz) (evC g cond) t (ks.map kD) e2 []) (fun r e3 => En ((restore (setS env i (.cell .lck)) (tslots t) e3).set i (some (.cell (.dct ks vs)))) fun e4 => N (.cell (.lst r)) e4) fun _ _ => False) : PE (evO g (.comp elt t .dct [.plc i] cond) env) N Z := by
  unfold evO
  with_unfolding_all refine PE.bind (pbs_cons (pb_plc hd (fr_d (pbs_nil ?_))))
  show PE (match lockS .dct [.plc i] with
      | none => .bad
      | some l => if lockOk l env then (noX (compGo g.lk (fun e => (evO g elt e).map O.frz) (evC g cond) t (ks.map kD) (wipeE (lockE l env) (tslots t)) [])).bind fun r env2 => .ok (.cell (.lst r)) (unlockE l env (restore (lockE l env) (tslots t) env2)) else .bad) N Z
  have h1 : lockOk (some i) env = true := by
    with_unfolding_all show (match gt env i with | some o => o.isDct | none => false) = true
    rw [hd]; rfl
  with_unfolding_all show PE (if lockOk (some i) env = true then _ else _) N Z
  rw [if_pos h1]
  with_unfolding_all refine PE.bind ?_
  have hu : ∀ e : Env, unlockE (some i) env e = e.set i (some (.cell (.dct ks vs))) := fun e => by
    with_unfolding_all show e.set i (gt env i) = _
    rw [hd]
  have p : PE (compGo g.lk (fun e => (evO g elt e).map O.frz) (evC g cond) t (ks.map kD) (wipeE (lockE (some i) env) (tslots t)) []) (fun r e3 => En ((restore (setS env i (.cell .lck)) (tslots t) e3).set i (some (.cell (.dct ks vs)))) fun e4 => N (.cell (.lst r)) e4) fun _ _ => False := by with_unfolding_all exact p
  cases hr : compGo g.lk (fun e => (evO g elt e).map O.frz) (evC g cond) t (ks.map kD) (wipeE (lockE (some i) env) (tslots t)) [] <;> rw [hr] at p
  · with_unfolding_all show N _ (unlockE _ _ _)
    rw [hu]; with_unfolding_all exact p
  · with_unfolding_all exact p
  · with_unfolding_all exact p
theorem pcg_nil {lk : List Bool} {elt cond : Env → Out D} {t : Tgt} {acc : List D} {N : List D → Env → Prop} (p : N acc env) : PE (compGo lk elt cond t [] env acc) N Z := by
  with_unfolding_all exact p
theorem pcg_cons {lk : List Bool} {elt cond : Env → Out D} {t : Tgt} {d : D} {ds acc : List D} {N : List D → Env → Prop} (hs : acc.length < sizeLine) (p : So (asgT lk t d env) fun e1 => PE (cond e1) (fun b e2 => If b (PE (elt e2) (fun y e3 => En (wipeE e3 (tslots t)) fun e4 => PE (compGo lk elt cond t ds e4 (acc ++ [y])) N Z) Z) (En (wipeE e2 (tslots t)) fun e4 => PE (compGo lk elt cond t ds e4 acc) N Z)) Z) : PE (compGo lk elt cond t (d :: ds) env acc) N Z := by
  rw [compGo]
  cases ha : asgT lk t d env with
  | none => rw [ha] at p; with_unfolding_all exact p.elim
  | some e1 =>
    rw [ha] at p
    with_unfolding_all refine PE.bind (PE.mono p (fun b e2 h => ?_) fun _ _ h => h)
    unfold If at h
    split at h
    · with_unfolding_all refine PE.bind (PE.mono h (fun y e3 h => ?_) fun _ _ h => h)
      rw [if_pos hs]; with_unfolding_all exact h
    · with_unfolding_all exact h
    · with_unfolding_all exact h.elim
theorem pev_none {N : D → Env → Prop} (p : N (.bl true) env) : PE (evC g none env) N Z := by
  unfold evC; with_unfolding_all exact p
theorem pev_some {e : E} {N : D → Env → Prop} (p : PE ((evO g e env).map O.frz) N Z) : PE (evC g (some e) env) N Z := by
  unfold evC; with_unfolding_all exact p
theorem po_pop {i : Nat} {f : Option (Nat × Nat)} (p : So (popAt env i f) fun r => N (.v r.1) r.2) : PE (evO g (.pop i f) env) N Z := by
  unfold evO
  cases h : popAt env i f with
  | none => rw [h] at p; with_unfolding_all exact p.elim
  | some r => rw [h] at p; with_unfolding_all exact p
theorem po_has {ng : Bool} {c f : Nat} {a : E} {i : Nat} (p : PE ((evO g a env).map O.frz) (fun x e1 => clsOk (some c) (gt e1 i) = true ∧ PE (runCall g.C .fn f [.s i, .t (.v x)] [] e1) (fun r e2 => ∃ b, r = .v (.bl b) ∧ N (.v (.bl (if ng then !b else b))) e2) Z) Z) : PE (evO g (.has ng c f a i) env) N Z := by
  unfold evO
  with_unfolding_all refine PE.bind (PE.mono p (fun x e1 h => ?_) fun _ _ h => h)
  rw [if_pos h.1]
  with_unfolding_all refine PE.bind (PE.mono h.2 (fun r e2 h => ?_) fun _ _ h => h)
  obtain ⟨b, rfl, h⟩ := h
  with_unfolding_all exact h
theorem po_efld {i k f : Nat} {x : X} {d : D} (hx : g.xc = some (i, x)) (hk : x.c = k) (hd : x.fs[f]? = some d) (p : N (.v d) env) : PE (evO g (.efld i k f) env) N Z := by
  unfold evO
  rw [hx]
  simp only [hk, and_self, if_true, hd, Option.map, lift]
  with_unfolding_all exact p
theorem po_eisi {i c : Nat} {x : X} (hx : g.xc = some (i, x)) (p : N (.v (.bl (subC x.c c))) env) : PE (evO g (.eisi i c) env) N Z := by
  unfold evO
  rw [hx]
  simp only [if_true]
  with_unfolding_all exact p
end
section
variable {g : Ge} {env : Env} {N : Env → Prop} {R : O → Env → Prop} {B C : Env → Prop} {Z : X → Env → Prop}
theorem ps_nil (p : N env) : PS (evSs g [] env) N R B C Z := by
  unfold evSs; with_unfolding_all exact p
theorem ps_cons {s : S} {ss : List S} (p : PS (evS g s env) (fun e => PS (evSs g ss e) N R B C Z) R B C Z) : PS (evSs g (s :: ss) env) N R B C Z := by
  unfold evSs
  cases h : evS g s env <;> rw [h] at p <;> with_unfolding_all exact p
theorem ps_asg {i : Nat} {e : E} (hk : okAsg g.lk i = true) (p : PE (evO g e env) (fun o e1 => En (setS e1 i o) N) Z) : PS (evS g (.asg i e false) env) N R B C Z := by
  unfold evS
  with_unfolding_all refine PS.of (PE.mono p (fun o e1 h => ?_) fun _ _ h => h)
  rw [if_pos hk]
  with_unfolding_all exact h
theorem ps_asgf {i : Nat} {e : E} (hk : okAsg g.lk i = true) (p : PE (evO g e env) (fun o e1 => Fr o fun d => En (setS e1 i (.v d)) N) Z) : PS (evS g (.asg i e true) env) N R B C Z := by
  unfold evS
  with_unfolding_all refine PS.of (PE.mono p (fun o e1 h => ?_) fun _ _ h => h)
  rw [if_pos hk]
  with_unfolding_all exact h
theorem ps_asgT {is : List Nat} {e : E} (p : PE ((evO g e env).map O.frz) (fun d e1 => So (asgT g.lk (.many is) d e1) fun e2 => En e2 N) Z) : PS (evS g (.asgT is e) env) N R B C Z := by
  unfold evS
  with_unfolding_all exact PS.of (PE.mono p (fun o e1 h => ps_lift h) fun _ _ h => h)
theorem ps_setIx {i : Nat} {ix e : E} (p : PE ((evO g e env).map O.frz) (fun d e1 => lstAt e1 i none = true ∧ PE ((evO g ix e1).map O.frz) (fun k e2 => ∃ n, k = .int n ∧ So (putIx e2 i n d) fun e3 => En e3 N) Z) Z) : PS (evS g (.setIx i ix e) env) N R B C Z := by
  unfold evS
  with_unfolding_all refine PS.of (PE.mono p (fun o e1 h => ?_) fun _ _ h => h)
  rw [if_pos h.1]
  with_unfolding_all refine PS.of (PE.mono h.2 (fun o e1 h => ?_) fun _ _ h => h)
  obtain ⟨n, rfl, h⟩ := h
  with_unfolding_all exact ps_lift h
theorem ps_setK {i : Nat} {k e : E} (p : PE ((evO g e env).map O.frz) (fun d e1 => dctAt e1 i = true ∧ PE ((evO g k e1).map O.frz) (fun x e2 => So (putK e2 i x d) fun e3 => En e3 N) Z) Z) : PS (evS g (.setK i k e) env) N R B C Z := by
  unfold evS
  with_unfolding_all refine PS.of (PE.mono p (fun o e1 h => ?_) fun _ _ h => h)
  rw [if_pos h.1]
  with_unfolding_all exact PS.of (PE.mono h.2 (fun o e1 h => ps_lift h) fun _ _ h => h)
theorem ps_setXl {i : Nat} {k e : E} (p : PE ((evO g e env).map O.frz) (fun d e1 => lstAt e1 i none = true ∧ PE ((evO g k e1).map O.frz) (fun k e2 => ∃ n, k = .int n ∧ So (putIx e2 i n d) fun e3 => En e3 N) Z) Z) : PS (evS g (.setX i k e) env) N R B C Z := by
  unfold evS
  with_unfolding_all refine PS.of (PE.mono p (fun o e1 h => ?_) fun _ _ h => h)
  rw [if_pos h.1]
  with_unfolding_all refine PS.of (PE.mono h.2 (fun o e1 h => ?_) fun _ _ h => h)
  obtain ⟨n, rfl, h⟩ := h
  with_unfolding_all exact ps_lift h
theorem ps_setXd {i : Nat} {k e : E} (p : PE ((evO g e env).map O.frz) (fun d e1 => (lstAt e1 i none = false ∧ dctAt e1 i = true) ∧ PE ((evO g k e1).map O.frz) (fun x e2 => So (putK e2 i x d) fun e3 => En e3 N) Z) Z) : PS (evS g (.setX i k e) env) N R B C Z := by
  unfold evS
  with_unfolding_all refine PS.of (PE.mono p (fun o e1 h => ?_) fun _ _ h => h)
  rw [if_neg (by rw [h.1.1]; simp), if_pos h.1.2]
  with_unfolding_all exact PS.of (PE.mono h.2 (fun o e1 h => ps_lift h) fun _ _ h => h)
@[irreducible] def Sx (e : Env) (i : Nat) (A B : Prop) : Prop := if lstAt e i none then A else dctAt e i = true ∧ B
theorem sx_l {e : Env} {i : Nat} {A B : Prop} (h : lstAt e i none = true) (p : A) : Sx e i A B := by
  unfold Sx
  rw [if_pos h]; exact p
theorem sx_d {e : Env} {i : Nat} {A B : Prop} (h : lstAt e i none = false) (h2 : dctAt e i = true) (p : B) : Sx e i A B := by
  unfold Sx
  rw [if_neg (by rw [h]; simp)]; exact ⟨h2, p⟩
theorem ps_setX {i : Nat} {k e : E} (p : PE ((evO g e env).map O.frz) (fun d e1 => Sx e1 i (PE ((evO g k e1).map O.frz) (fun k e2 => ∃ n, k = .int n ∧ So (putIx e2 i n d) fun e3 => En e3 N) Z) (PE ((evO g k e1).map O.frz) (fun x e2 => So (putK e2 i x d) fun e3 => En e3 N) Z)) Z) : PS (evS g (.setX i k e) env) N R B C Z := by
  unfold evS
  with_unfolding_all refine PS.of (PE.mono p (fun o e1 h => ?_) fun _ _ h => h)
  unfold Sx at h
  split at h
  · rename_i hl
    rw [if_pos hl]
    with_unfolding_all refine PS.of (PE.mono h (fun o e1 h => ?_) fun _ _ h => h)
    obtain ⟨n, rfl, h⟩ := h
    with_unfolding_all exact ps_lift h
  · rename_i hl
    rw [if_neg hl, if_pos h.1]
    with_unfolding_all exact PS.of (PE.mono h.2 (fun o e1 h => ps_lift h) fun _ _ h => h)
theorem ps_setF {i k f : Nat} {e : E} (p : PE (evO g e env) (fun o e1 => Fc o fun x => So (putF e1 i k f x) fun e2 => En e2 N) Z) : PS (evS g (.setF i k f e) env) N R B C Z := by
  unfold evS
  with_unfolding_all refine PS.of (PE.mono p (fun o e1 h => ?_) fun _ _ h => h)
  cases o <;> with_unfolding_all exact ps_lift h
theorem ps_aug {i : Nat} {ng : Bool} {e : E} {a : Int} (h0 : gt env i = some (.cell (.val (.int a)))) (hk : okAsg g.lk i = true) (p : PE ((evO g e env).map O.frz) (fun d e1 => ∃ b, d = .int b ∧ En (setS e1 i (.v (.int (if ng then a - b else a + b)))) N) Z) : PS (evS g (.aug i ng e) env) N R B C Z := by
  unfold evS
  rw [h0]
  with_unfolding_all refine PS.of (PE.mono p (fun o e1 h => ?_) fun _ _ h => h)
  obtain ⟨n, rfl, h⟩ := h
  simp only [hk, if_true]
  with_unfolding_all exact h
theorem ps_app {i : Nat} {f : Option (Nat × Nat)} {e : E} (h0 : lstAt env i f = true) (p : PE ((evO g e env).map O.frz) (fun d e1 => So (growAt e1 i f [d]) fun e2 => En e2 N) Z) : PS (evS g (.app i f e) env) N R B C Z := by
  unfold evS
  rw [if_pos h0]
  with_unfolding_all exact PS.of (PE.mono p (fun o e1 h => ps_lift h) fun _ _ h => h)
theorem ps_ext {i : Nat} {f : Option (Nat × Nat)} {e : E} (h0 : lstAt env i f = true) (p : PE ((evO g e env).map O.frz) (fun d e1 => ∃ xs, d = .lst xs ∧ So (growAt e1 i f xs) fun e2 => En e2 N) Z) : PS (evS g (.ext i f e) env) N R B C Z := by
  unfold evS
  rw [if_pos h0]
  with_unfolding_all refine PS.of (PE.mono p (fun o e1 h => ?_) fun _ _ h => h)
  obtain ⟨n, rfl, h⟩ := h
  with_unfolding_all exact ps_lift h
theorem ps_clear {i : Nat} {xs : List D} (h0 : gt env i = some (.cell (.lst xs))) (p : En (setS env i (.cell (.lst []))) N) : PS (evS g (.clear i) env) N R B C Z := by
  unfold evS
  rw [h0]
  with_unfolding_all exact p
theorem ps_expr {e : E} (p : PE (evO g e env) (fun _ e1 => N e1) Z) : PS (evS g (.expr e) env) N R B C Z := by
  unfold evS
  with_unfolding_all exact PS.of p
theorem ps_ret {e : E} (p : PE (evO g e env) R Z) : PS (evS g (.ret e) env) N R B C Z := by
  unfold evS
  with_unfolding_all exact PS.of p
theorem ps_ret0 (p : R (.v .non) env) : PS (evS g .ret0 env) N R B C Z := by
  unfold evS
  with_unfolding_all exact p
theorem ps_brk (p : B env) : PS (evS g .brk env) N R B C Z := by
  unfold evS
  with_unfolding_all exact p
theorem ps_cont (p : C env) : PS (evS g .cont env) N R B C Z := by
  unfold evS
  with_unfolding_all exact p
theorem ps_pass (p : N env) : PS (evS g .pass env) N R B C Z := by
  unfold evS
  with_unfolding_all exact p
theorem ps_if {c : E} {a b : List S} (p : PE ((evO g c env).map O.frz) (fun d e1 => If d (PS (evSs g a e1) N R B C Z) (PS (evSs g b e1) N R B C Z)) Z) : PS (evS g (.ifS c a b) env) N R B C Z := by
  unfold evS
  with_unfolding_all refine PS.of (PE.mono p (fun o e1 h => ?_) fun _ _ h => h)
  unfold If at h
  split at h
  · with_unfolding_all exact h
  · with_unfolding_all exact h
  · with_unfolding_all exact h.elim
theorem ps_for {t : Tgt} {ik : ItK} {its : List E} {body : List S} (hl : lockS ik its = some none) (p : PE (evBs g its env) (fun ds e1 => So (itD ik ds) fun xs => PS (forGo g.lk t (evSs g body) xs e1) N R B C Z) Z) : PS (evS g (.forS t ik its body) env) N R B C Z := by
  unfold evS
  with_unfolding_all refine PS.of (PE.mono p (fun ds e1 h => ?_) fun _ _ h => h)
  cases hx : itD ik ds with
  | none => rw [hx] at h; with_unfolding_all exact h.elim
  | some xs =>
    rw [hx] at h
    simp only [hl]
    with_unfolding_all exact h
theorem pf_nil {lk : List Bool} {t : Tgt} {body : Env → SOut} (p : N env) : PS (forGo lk t body [] env) N R B C Z := by
  with_unfolding_all exact p
theorem pf_cons {lk : List Bool} {t : Tgt} {body : Env → SOut} {d : D} {ds : List D} (p : So (asgT lk t d env) fun e0 => En e0 fun e1 => PS (body e1) (fun e2 => PS (forGo lk t body ds e2) N R B C Z) R N (fun e2 => PS (forGo lk t body ds e2) N R B C Z) Z) : PS (forGo lk t body (d :: ds) env) N R B C Z := by
  rw [forGo]
  cases ha : asgT lk t d env with
  | none => rw [ha] at p; with_unfolding_all exact p.elim
  | some e1 =>
    rw [ha] at p
    have p : PS (body e1) (fun e2 => PS (forGo lk t body ds e2) N R B C Z) R N (fun e2 => PS (forGo lk t body ds e2) N R B C Z) Z := by with_unfolding_all exact p
    cases hb : body e1 <;> rw [hb] at p <;> simp only [hb] <;> with_unfolding_all exact p
/-- a loop by its invariant over what is walked and what is left -/
theorem for_inv {α : Type} {lk : List Bool} {t : Tgt} {body : Env → SOut} (emb : α → D) (I : List α → List α → Env → Prop) {ds : List D} (xs : List α) (hx : ds = xs.map emb) (h0 : I [] xs env)
    (hs : ∀ d x r e, xs = d ++ x :: r → I d (x :: r) e → So (asgT lk t (emb x) e) fun e0 => En e0 fun e1 => PS (body e1) (I (d ++ [x]) r) R N (I (d ++ [x]) r) Z)
    (hend : ∀ e, I xs [] e → N e) : PS (forGo lk t body ds env) N R B C Z := by
  subst hx
  have go : ∀ (r d : List α) (e : Env), xs = d ++ r → I d r e → PS (forGo lk t body (r.map emb) e) N R B C Z := by
    intro r
    induction r with
    | nil => intro d e h i; with_unfolding_all exact hend e (by rw [h, List.append_nil]; with_unfolding_all exact i)
    | cons x r ih =>
      intro d e h i
      with_unfolding_all refine pf_cons ?_
      have q := hs d x r e h i
      cases ha : asgT lk t (emb x) e with
      | none => rw [ha] at q; with_unfolding_all exact q.elim
      | some e1 =>
        rw [ha] at q
        have q : PS (body e1) (I (d ++ [x]) r) R N (I (d ++ [x]) r) Z := by with_unfolding_all exact q
        with_unfolding_all exact PS.mono q (fun e2 h2 => ih _ e2 (by rw [h, List.append_assoc]; rfl) h2) (fun _ _ h => h) (fun _ h => h) (fun e2 h2 => ih _ e2 (by rw [h, List.append_assoc]; rfl) h2) fun _ _ h => h
  with_unfolding_all exact go xs [] env rfl h0
theorem comp_inv {α : Type} {lk : List Bool} {t : Tgt} {elt cond : Env → Out D} {N : List D → Env → Prop} (emb : α → D) (I : List α → List α → List D → Env → Prop) {ds : List D} (xs : List α) (hx : ds = xs.map emb) (h0 : I [] xs [] env)
    (hs : ∀ d x r acc e, xs = d ++ x :: r → I d (x :: r) acc e → acc.length < sizeLine ∧ So (asgT lk t (emb x) e) fun e0 => En e0 fun e1 => PE (cond e1) (fun b e2 => If b (PE (elt e2) (fun y e3 => En (wipeE e3 (tslots t)) fun e4 => I (d ++ [x]) r (acc ++ [y]) e4) Z) (En (wipeE e2 (tslots t)) fun e4 => I (d ++ [x]) r acc e4)) Z)
    (hend : ∀ acc e, I xs [] acc e → N acc e) : PE (compGo lk elt cond t ds env []) N Z := by
  subst hx
  have go : ∀ (r d : List α) (acc : List D) (e : Env), xs = d ++ r → I d r acc e → PE (compGo lk elt cond t (r.map emb) e acc) N Z := by
    intro r
    induction r with
    | nil => intro d acc e h i; with_unfolding_all exact hend acc e (by rw [h, List.append_nil]; with_unfolding_all exact i)
    | cons x r ih =>
      intro d acc e h i
      obtain ⟨hl, q⟩ := hs d x r acc e h i
      with_unfolding_all refine pcg_cons hl ?_
      have ee : xs = (d ++ [x]) ++ r := by rw [h, List.append_assoc]; rfl
      cases ha : asgT lk t (emb x) e with
      | none => rw [ha] at q; with_unfolding_all exact q.elim
      | some e1 =>
        rw [ha] at q
        have q : PE (cond e1) (fun b e2 => If b (PE (elt e2) (fun y e3 => En (wipeE e3 (tslots t)) fun e4 => I (d ++ [x]) r (acc ++ [y]) e4) Z) (En (wipeE e2 (tslots t)) fun e4 => I (d ++ [x]) r acc e4)) Z := by with_unfolding_all exact q
        with_unfolding_all refine PE.mono q (fun b e2 hb => ?_) fun _ _ h => h
        unfold If at hb ⊢
        split at hb
        · with_unfolding_all exact PE.mono hb (fun y e3 h3 => ih _ _ _ ee h3) fun _ _ h => h
        · with_unfolding_all exact ih _ _ _ ee hb
        · with_unfolding_all exact hb.elim
  with_unfolding_all exact go xs [] [] env rfl h0
theorem ps_while {n : Nat} {c : E} {body : List S} (p : PS (whileGo (fun e => (evO g c e).map O.frz) (evSs g body) n env) N R B C Z) : PS (evS g (.whileS n c body) env) N R B C Z := by
  unfold evS
  with_unfolding_all exact p
theorem pw_step {n : Nat} {c : Env → Out D} {body : Env → SOut} (p : PE (c env) (fun b e1 => If b (PS (body e1) (fun e2 => PS (whileGo c body n e2) N R B C Z) R N (fun e2 => PS (whileGo c body n e2) N R B C Z) Z) (N e1)) Z) : PS (whileGo c body (n + 1) env) N R B C Z := by
  rw [whileGo]
  with_unfolding_all refine PS.of (PE.mono p (fun b e1 h => ?_) fun _ _ h => h)
  unfold If at h
  split at h
  · cases hb : body e1 <;> rw [hb] at h <;> simp only [hb] <;> with_unfolding_all exact h
  · with_unfolding_all exact h
  · with_unfolding_all exact h.elim
theorem ps_raise {c : Nat} {es : List E} (hx : g.xc = none) (p : PE (evDs g es env) (fun ds e1 => Z ⟨c, ds.reverse⟩ e1) Z) : PS (evS g (.raise c es) env) N R B C Z := by
  unfold evS
  with_unfolding_all refine PS.of (PE.mono p (fun ds e1 h => ?_) fun _ _ h => h)
  rw [hx]
  with_unfolding_all exact h
theorem ps_try {body : List S} {hs : List (Nat × Option Nat × List S)} (p : PS (evSs g body env) N R B C fun x e1 => g.xl.contains x.c = true ∧ PS (evH g x hs e1) N R B C Z) : PS (evS g (.tryS body hs) env) N R B C Z := by
  unfold evS
  cases hb : evSs g body env <;> rw [hb] at p
  case exc x e1 =>
    unfold PS at p
    simp only
    rw [if_pos p.1]
    with_unfolding_all exact p.2
  all_goals with_unfolding_all exact p
theorem ph_nil {x : X} (p : Z x env) : PS (evH g x [] env) N R B C Z := by
  unfold evH; with_unfolding_all exact p
theorem ph_skip {x : X} {c : Nat} {o : Option Nat} {b : List S} {r : List (Nat × Option Nat × List S)} (h : subC x.c c = false) (p : PS (evH g x r env) N R B C Z) : PS (evH g x ((c, o, b) :: r) env) N R B C Z := by
  unfold evH
  rw [if_neg (by rw [h]; simp)]
  with_unfolding_all exact p
theorem ph_some {x : X} {c i : Nat} {b : List S} {r : List (Nat × Option Nat × List S)} (h : subC x.c c = true) (p : En (setS env i (.v .exn)) fun e => PS (evSs { g with xc := some (i, x) } b e) (fun e => En (e.set i none) N) (fun v e => En (e.set i none) fun e => R v e) (fun e => En (e.set i none) B) (fun e => En (e.set i none) C) fun _ _ => False) : PS (evH g x ((c, some i, b) :: r) env) N R B C Z := by
  unfold evH
  rw [if_pos h]
  have p : PS (evSs { g with xc := some (i, x) } b (setS env i (.v .exn))) (fun e => En (e.set i none) N) (fun v e => En (e.set i none) fun e => R v e) (fun e => En (e.set i none) B) (fun e => En (e.set i none) C) fun _ _ => False := by with_unfolding_all exact p
  with_unfolding_all show PS (unbind (some i) _) N R B C Z
  cases hb : evSs { g with xc := some (i, x) } b (setS env i (.v .exn)) <;> rw [hb] at p <;> with_unfolding_all exact p
theorem ph_none {x : X} {c : Nat} {b : List S} {r : List (Nat × Option Nat × List S)} (h : subC x.c c = true) (p : PS (evSs { g with xc := some (1000000, x) } b env) N R B C fun _ _ => False) : PS (evH g x ((c, none, b) :: r) env) N R B C Z := by
  unfold evH
  rw [if_pos h]
  with_unfolding_all show PS (unbind none _) N R B C Z
  cases hb : evSs { g with xc := some (1000000, x) } b env <;> rw [hb] at p <;> with_unfolding_all exact p
end
@[irreducible] def Fi (np : Nat) (e : Env) (P : List O → Prop) : Prop := So (fins (e.take np)) P
theorem fi_of {np : Nat} {e : Env} {l : List O} {P : List O → Prop} (h : fins (e.take np) = some l) (p : P l) : Fi np e P := by
  with_unfolding_all exact so_of h p
@[irreducible] def Ds (xl : List Nat) (Fs : Nat → Option Fn) (k : Nat) : Calls := Cs xl Fs k
abbrev geOf (xl : List Nat) (Fs : Nat → Option Fn) (k : Nat) (lk : List Bool) : Ge := ⟨Ds xl Fs (k + 1), Ds xl Fs k, lk, xl, none⟩
theorem pf_run {xl : List Nat} {Fs : Nat → Option Fn} {f k np n : Nat} {lk : List Bool} {body : List S} {os : List O} {N : O → List O → Prop} {Z : X → List O → Prop} (hf : Fs f = some ⟨np, n, lk, body⟩) (hl : os.length = np)
    (p : En (os.map some ++ List.replicate (n - np) none) fun e0 => PS (evSs (geOf xl Fs k lk) body e0) (fun e => Fi np e fun l => N (.v .non) l) (fun o e => Fi np e fun l => N o l) (fun _ => False) (fun _ => False) fun x e => Fi np e fun l => Z x l) : PF (Ds xl Fs (k + 2) f os) N Z := by
  unfold geOf Ds at p
  unfold Ds
  show PF (match Fs f with | some fn => runFn (Cs xl Fs (k + 1)) (Cs xl Fs k) xl fn os | none => .bad) N Z
  rw [hf]
  with_unfolding_all show PF (runFn (Cs xl Fs (k + 1)) (Cs xl Fs k) xl ⟨np, n, lk, body⟩ os) N Z
  unfold runFn
  rw [if_pos hl]
  have p : PS (evSs ⟨Cs xl Fs (k + 1), Cs xl Fs k, lk, xl, none⟩ body (os.map some ++ List.replicate (n - np) none)) (fun e => Fi np e fun l => N (.v .non) l) (fun o e => Fi np e fun l => N o l) (fun _ => False) (fun _ => False) fun x e => Fi np e fun l => Z x l := by with_unfolding_all exact p
  show PF (match evSs ⟨Cs xl Fs (k + 1), Cs xl Fs k, lk, xl, none⟩ body (os.map some ++ List.replicate (n - np) none) with
    | .ret o env => finO np env fun l => .ok o l
    | .nx env => finO np env fun l => .ok (.v .non) l
    | .exc x env => finO np env fun l => .exc x l
    | _ => .bad) N Z
  cases hb : evSs ⟨Cs xl Fs (k + 1), Cs xl Fs k, lk, xl, none⟩ body (os.map some ++ List.replicate (n - np) none) <;> rw [hb] at p
  all_goals first
    | with_unfolding_all exact p.elim
    | (simp only [finO]
       unfold PS Fi at p
       simp only at p
       generalize hq : fins (List.take np _) = q at p ⊢
       cases q
       · with_unfolding_all exact p.elim
       · with_unfolding_all exact p)
end VE

namespace VE
open PySem L2
theorem sz_le {n m : Nat} (h : n ≤ m) (hm : m ≤ 16000000) : n ≤ sizeLine := by
  with_unfolding_all exact Nat.le_trans h (Nat.le_trans hm (by decide))
theorem sz_lt {n m : Nat} (h : n ≤ m) (hm : m < 16000000) : n < sizeLine := by
  with_unfolding_all exact Nat.lt_of_le_of_lt h (Nat.lt_of_lt_of_le hm (by decide))
section
variable {P : O → Prop}
theorem so_newL {xs : List D} (h : xs.length ≤ sizeLine) (p : P (.cell (.lst xs))) : So (newL xs) P := by
  unfold newL; rw [if_pos h]; with_unfolding_all exact p
theorem so_newT {xs : List D} (h : xs.length ≤ sizeLine) (p : P (.cell (.val (.tup xs)))) : So (newT xs) P := by
  unfold newT; rw [if_pos h]; with_unfolding_all exact p
theorem so_len_l {xs : List D} (h : xs.length ≤ sizeLine) (p : P (.cell (.val (.int (xs.length : Nat))))) : So (b1 .len (.lst xs)) P := by
  with_unfolding_all show So (len? xs.length) P
  unfold len?; rw [if_pos h]; with_unfolding_all exact p
theorem so_len_t {xs : List D} (h : xs.length ≤ sizeLine) (p : P (.cell (.val (.int (xs.length : Nat))))) : So (b1 .len (.tup xs)) P := by
  with_unfolding_all show So (len? xs.length) P
  unfold len?; rw [if_pos h]; with_unfolding_all exact p
theorem so_len_s {s : Str} (h : s.length ≤ sizeLine) (p : P (.cell (.val (.int (s.length : Nat))))) : So (b1 .len (.str s)) P := by
  with_unfolding_all show So (len? s.length) P
  unfold len?; rw [if_pos h]; with_unfolding_all exact p
theorem so_len_d {ks : List Key} {vs : List D} (p : P (.cell (.val (.int (ks.length : Nat))))) : So (b1 .len (.dct ks vs)) P := by
  with_unfolding_all exact p
theorem so_neg {i : Int} (p : P (.cell (.val (.int (-i))))) : So (b1 .neg (.int i)) P := by
  with_unfolding_all exact p
theorem so_not {b : Bool} (p : P (.cell (.val (.bl (!b))))) : So (b1 .notB (.bl b)) P := by
  with_unfolding_all exact p
theorem so_isN {d : D} (p : P (.cell (.val (.bl (isNonD d))))) : So (b1 .isN d) P := by cases d <;> with_unfolding_all exact p
theorem so_notN {d : D} (p : P (.cell (.val (.bl (!isNonD d))))) : So (b1 .notN d) P := by cases d <;> with_unfolding_all exact p
theorem so_isT {b : Bool} (p : P (.cell (.val (.bl b)))) : So (b1 .isT (.bl b)) P := by
  with_unfolding_all exact p
theorem so_isF {b : Bool} (p : P (.cell (.val (.bl (!b))))) : So (b1 .isF (.bl b)) P := by
  with_unfolding_all exact p
theorem so_notT {b : Bool} (p : P (.cell (.val (.bl (!b))))) : So (b1 .notT (.bl b)) P := by
  with_unfolding_all exact p
theorem so_notF {b : Bool} (p : P (.cell (.val (.bl b)))) : So (b1 .notF (.bl b)) P := by
  with_unfolding_all exact p
theorem allOf_map {α β : Type} (f : D → Option α) (e : β → D) (h' : β → α) (h : ∀ b, f (e b) = some (h' b)) : ∀ xs : List β, allOf f (xs.map e) = some (xs.map h')
  | [] => rfl
  | x :: xs => by
    with_unfolding_all show (match f (e x), allOf f (xs.map e) with | some a, some as => some (a :: as) | _, _ => none) = _
    rw [h, allOf_map f e h' h xs]; rfl
theorem allInt (xs : List Int) : allOf asInt (xs.map D.int) = some xs := by
  rw [allOf_map asInt D.int id (fun _ => rfl)]; simp
theorem allStr (xs : List Str) : allOf asStr (xs.map D.str) = some xs := by
  rw [allOf_map asStr D.str id (fun _ => rfl)]; simp
theorem allBl (xs : List Bool) : allOf asBl (xs.map D.bl) = some xs := by
  rw [allOf_map asBl D.bl id (fun _ => rfl)]; simp
theorem so_sum {xs : List D} {is : List Int} (h : xs = is.map D.int) (p : P (.cell (.val (.int is.sum)))) : So (b1 .sum (.lst xs)) P := by
  subst h
  with_unfolding_all show So ((allOf asInt (is.map D.int)).map _) P
  rw [allInt]; with_unfolding_all exact p
theorem so_all {xs : List D} {bs : List Bool} (h : xs = bs.map D.bl) (p : P (.cell (.val (.bl (bs.all id))))) : So (b1 .all (.lst xs)) P := by
  subst h
  with_unfolding_all show So ((allOf asBl (bs.map D.bl)).map _) P
  rw [allBl]; with_unfolding_all exact p
theorem so_any {xs : List D} {bs : List Bool} (h : xs = bs.map D.bl) (p : P (.cell (.val (.bl (bs.any id))))) : So (b1 .any (.lst xs)) P := by
  subst h
  with_unfolding_all show So ((allOf asBl (bs.map D.bl)).map _) P
  rw [allBl]; with_unfolding_all exact p
theorem so_int {i : Int} (p : P (.cell (.val (.int i)))) : So (b1 .int (.int i)) P := by
  with_unfolding_all exact p
theorem so_intb {b : Bool} (p : P (.cell (.val (.int (if b then 1 else 0))))) : So (b1 .int (.bl b)) P := by
  with_unfolding_all exact p
theorem so_str {s : Str} (p : P (.cell (.val (.str s)))) : So (b1 .str (.str s)) P := by
  with_unfolding_all exact p
theorem so_stri {i : Int} (h : i.natAbs.log2 < 1920) (p : P (.cell (.val (.str (toString i))))) : So (b1 .str (.int i)) P := by
  with_unfolding_all show So (if i.natAbs.log2 < 1920 then _ else _) P
  rw [if_pos h]; with_unfolding_all exact p
theorem so_sort {xs : List D} {ss : List Str} (h : xs = ss.map D.str) (hl : ss.length < 64) (p : P (.cell (.lst ((sortS ss).map D.str)))) : So (b1 .sortS (.lst xs)) P := by
  subst h
  with_unfolding_all show So ((allOf asStr (ss.map D.str)).bind _) P
  rw [allStr]
  with_unfolding_all show So (if ss.length < 64 then _ else _) P
  rw [if_pos hl]; with_unfolding_all exact p
theorem so_tupL {xs : List D} (h : xs.length ≤ sizeLine) (p : P (.cell (.val (.tup xs)))) : So (b1 .tupL (.lst xs)) P := by
  with_unfolding_all exact so_newT h p
theorem so_tupT {xs : List D} (h : xs.length ≤ sizeLine) (p : P (.cell (.val (.tup xs)))) : So (b1 .tupL (.tup xs)) P := by
  with_unfolding_all exact so_newT h p
theorem so_lstL {xs : List D} (h : xs.length ≤ sizeLine) (p : P (.cell (.lst xs))) : So (b1 .lstL (.lst xs)) P := by
  with_unfolding_all exact so_newL h p
theorem so_lstT {xs : List D} (h : xs.length ≤ sizeLine) (p : P (.cell (.lst xs))) : So (b1 .lstL (.tup xs)) P := by
  with_unfolding_all exact so_newL h p
theorem so_dctC {ks : List Key} {vs : List D} (p : P (.cell (.dct ks vs))) : So (b1 .dctC (.dct ks vs)) P := by
  with_unfolding_all exact p
theorem so_abs {i : Int} (p : P (.cell (.val (.int (if i < 0 then -i else i))))) : So (b1 .abs (.int i)) P := by
  with_unfolding_all exact p
theorem so_isi {t : Ty} {d : D} {b : Bool} (h : tyIs t d = some b) (p : P (.cell (.val (.bl b)))) : So (b1 (.isi t) d) P := by
  with_unfolding_all show So ((tyIs t d).map _) P
  rw [h]; with_unfolding_all exact p
theorem so_isC {c c' : Nat} {vs : List D} (p : P (.cell (.val (.bl (decide (c = c')))))) : So (b1 (.isC c) (.obj c' vs)) P := by
  with_unfolding_all exact p
theorem so_isCi {c : Nat} {i : Int} (p : P (.cell (.val (.bl false)))) : So (b1 (.isC c) (.int i)) P := by
  with_unfolding_all exact p
theorem pick1 {o : B2} {x y : D} (p : So (b2 o x y) P) : So (VE.pick [o] x y) P := by
  unfold VE.pick
  cases h : b2 o x y <;> rw [h] at p <;> with_unfolding_all exact p
theorem pick_hd {o : B2} {os : List B2} {x y : D} (p : So (b2 o x y) P) : So (VE.pick (o :: os) x y) P := by
  unfold VE.pick
  cases h : b2 o x y <;> rw [h] at p
  · with_unfolding_all exact p.elim
  · with_unfolding_all exact p
theorem pick_tl {o : B2} {os : List B2} {x y : D} (h : b2 o x y = none) (p : So (VE.pick os x y) P) : So (VE.pick (o :: os) x y) P := by
  unfold VE.pick
  rw [h]; with_unfolding_all exact p
theorem op_add {i j : Int} (p : P (.cell (.val (.int (i + j))))) : So (b2 .add (.int i) (.int j)) P := by
  with_unfolding_all exact p
theorem op_sub {i j : Int} (p : P (.cell (.val (.int (i - j))))) : So (b2 .sub (.int i) (.int j)) P := by
  with_unfolding_all exact p
theorem op_mul {i j : Int} (h : mulOk i j = true) (p : P (.cell (.val (.int (i * j))))) : So (b2 .mul (.int i) (.int j)) P := by
  with_unfolding_all show So (if mulOk i j then _ else _) P
  rw [if_pos h]; with_unfolding_all exact p
theorem op_div {i j : Int} (h : divOk j = true) (p : P (.cell (.val (.int (i / j))))) : So (b2 .div (.int i) (.int j)) P := by
  with_unfolding_all show So (if divOk j then _ else _) P
  rw [if_pos h]; with_unfolding_all exact p
theorem op_mod {i j : Int} (h : 0 < j) (p : P (.cell (.val (.int (i % j))))) : So (b2 .mod (.int i) (.int j)) P := by
  with_unfolding_all show So (if 0 < j then _ else _) P
  rw [if_pos h]; with_unfolding_all exact p
theorem op_pow {i j : Int} (h : 0 ≤ j ∧ j ≤ 1000000 ∧ i.natAbs < 2 ^ 64) (p : P (.cell (.val (.int (i ^ j.toNat))))) : So (b2 .pow (.int i) (.int j)) P := by
  with_unfolding_all show So (if 0 ≤ j ∧ j ≤ 1000000 ∧ i.natAbs < 2 ^ 64 then _ else _) P
  rw [if_pos h]; with_unfolding_all exact p
theorem op_pow10 {j : Int} {n : Int} (h : 0 ≤ j ∧ j ≤ 1000000) (hn : Nm ((10 : Int) ^ j.toNat) n) (p : P (.cell (.val (.int n)))) : So (b2 .pow (.int 10) (.int j)) P := by
  with_unfolding_all exact op_pow ⟨h.1, h.2, by decide⟩ (by rw [hn.eq]; exact p)
theorem op_addS {a b : Str} (h : a.length + b.length ≤ sizeLine) (p : P (.cell (.val (.str (a ++ b))))) : So (b2 .addS (.str a) (.str b)) P := by
  with_unfolding_all show So (if a.length + b.length ≤ sizeLine then _ else _) P
  rw [if_pos h]; with_unfolding_all exact p
theorem op_catL {a b : List D} (h : a.length + b.length ≤ sizeLine) (p : P (.cell (.lst (a ++ b)))) : So (b2 .catL (.lst a) (.lst b)) P := by
  with_unfolding_all show So (if a.length + b.length ≤ sizeLine then _ else _) P
  rw [if_pos h]; with_unfolding_all exact p
theorem op_catT {a b : List D} (h : a.length + b.length ≤ sizeLine ∧ a ≠ []) (p : P (.cell (.val (.tup (a ++ b))))) : So (b2 .catT (.tup a) (.tup b)) P := by
  with_unfolding_all show So (if a.length + b.length ≤ sizeLine ∧ a ≠ [] then _ else _) P
  rw [if_pos h]; with_unfolding_all exact p
theorem op_lt {i j : Int} (p : P (.cell (.val (.bl (decide (i < j)))))) : So (b2 .lt (.int i) (.int j)) P := by
  with_unfolding_all exact p
theorem op_le {i j : Int} (p : P (.cell (.val (.bl (decide (i ≤ j)))))) : So (b2 .le (.int i) (.int j)) P := by
  with_unfolding_all exact p
theorem op_gt {i j : Int} (p : P (.cell (.val (.bl (decide (j < i)))))) : So (b2 .gt (.int i) (.int j)) P := by
  with_unfolding_all exact p
theorem op_ge {i j : Int} (p : P (.cell (.val (.bl (decide (j ≤ i)))))) : So (b2 .ge (.int i) (.int j)) P := by
  with_unfolding_all exact p
theorem op_eq {x y : D} {b : Bool} (h : eqD x y = some b) (p : P (.cell (.val (.bl b)))) : So (b2 .eq x y) P := by
  have e : b2 .eq x y = (eqD x y).bind bO := by cases x <;> rfl
  rw [e, h]; with_unfolding_all exact p
theorem op_ne {x y : D} {b : Bool} (h : eqD x y = some b) (p : P (.cell (.val (.bl (!b))))) : So (b2 .ne x y) P := by
  have e : b2 .ne x y = (eqD x y).bind fun r => bO (!r) := by cases x <;> rfl
  rw [e, h]; with_unfolding_all exact p
theorem op_inQ {x : D} {xs : List D} {b : Bool} (h : inP x xs = some b) (p : P (.cell (.val (.bl b)))) : So (b2 .inQ x (.lst xs)) P := by
  have e : b2 .inQ x (.lst xs) = (inP x xs).bind bO := by cases x <;> rfl
  rw [e, h]; with_unfolding_all exact p
theorem op_notInQ {x : D} {xs : List D} {b : Bool} (h : inP x xs = some b) (p : P (.cell (.val (.bl (!b))))) : So (b2 .notInQ x (.lst xs)) P := by
  have e : b2 .notInQ x (.lst xs) = (inP x xs).bind fun r => bO (!r) := by cases x <;> rfl
  rw [e, h]; with_unfolding_all exact p
theorem op_inT {x : D} {xs : List D} {b : Bool} (h : inTup x xs = some b) (p : P (.cell (.val (.bl b)))) : So (b2 .inT x (.tup xs)) P := by
  have e : b2 .inT x (.tup xs) = (inTup x xs).bind bO := by cases x <;> rfl
  rw [e, h]; with_unfolding_all exact p
theorem op_notInT {x : D} {xs : List D} {b : Bool} (h : inTup x xs = some b) (p : P (.cell (.val (.bl (!b))))) : So (b2 .notInT x (.tup xs)) P := by
  have e : b2 .notInT x (.tup xs) = (inTup x xs).bind fun r => bO (!r) := by cases x <;> rfl
  rw [e, h]; with_unfolding_all exact p
theorem op_inS {a b : Str} (p : P (.cell (.val (.bl (!(Builtin.Str.occurrences b a 0 b.length 1).isEmpty))))) : So (b2 .inS (.str a) (.str b)) P := by
  with_unfolding_all exact p
theorem op_notInS {a b : Str} (p : P (.cell (.val (.bl (!(!(Builtin.Str.occurrences b a 0 b.length 1).isEmpty)))))) : So (b2 .notInS (.str a) (.str b)) P := by
  with_unfolding_all exact p
theorem op_inK {x : D} {k : Key} {ks : List Key} {vs : List D} (h : keyOf x = some k) (p : P (.cell (.val (.bl (look ks vs k).isSome)))) : So (b2 .inK x (.dct ks vs)) P := by
  have e : b2 .inK x (.dct ks vs) = (keyOf x).bind fun k => bO (look ks vs k).isSome := by cases x <;> rfl
  rw [e, h]; with_unfolding_all exact p
theorem op_notInK {x : D} {k : Key} {ks : List Key} {vs : List D} (h : keyOf x = some k) (p : P (.cell (.val (.bl (!(look ks vs k).isSome))))) : So (b2 .notInK x (.dct ks vs)) P := by
  have e : b2 .notInK x (.dct ks vs) = (keyOf x).bind fun k => bO (!(look ks vs k).isSome) := by cases x <;> rfl
  rw [e, h]; with_unfolding_all exact p
theorem pin_l {x : D} {xs : List D} {os : List B2} (p : So (b2 .inQ x (.lst xs)) P) : So (VE.pick (.inQ :: os) x (.lst xs)) P := by
  with_unfolding_all exact pick_hd p
theorem pin_t {x : D} {xs : List D} {os : List B2} (p : So (b2 .inT x (.tup xs)) P) : So (VE.pick (.inQ :: .inT :: os) x (.tup xs)) P := by
  with_unfolding_all exact pick_tl (by cases x <;> rfl) (pick_hd p)
theorem pin_s {a b : Str} {os : List B2} (p : So (b2 .inS (.str a) (.str b)) P) : So (VE.pick (.inQ :: .inT :: .inS :: os) (.str a) (.str b)) P := by
  with_unfolding_all exact p
theorem pin_d {x : D} {ks : List Key} {vs : List D} {os : List B2} (p : So (b2 .inK x (.dct ks vs)) P) : So (VE.pick (.inQ :: .inT :: .inS :: .inK :: os) x (.dct ks vs)) P := by
  with_unfolding_all exact pick_tl (by cases x <;> rfl) (pick_tl (by cases x <;> rfl) (pick_tl (by cases x <;> rfl) (pick_hd p)))
theorem pni_l {x : D} {xs : List D} {os : List B2} (p : So (b2 .notInQ x (.lst xs)) P) : So (VE.pick (.notInQ :: os) x (.lst xs)) P := by
  with_unfolding_all exact pick_hd p
theorem pni_t {x : D} {xs : List D} {os : List B2} (p : So (b2 .notInT x (.tup xs)) P) : So (VE.pick (.notInQ :: .notInT :: os) x (.tup xs)) P := by
  with_unfolding_all exact pick_tl (by cases x <;> rfl) (pick_hd p)
theorem pni_s {a b : Str} {os : List B2} (p : So (b2 .notInS (.str a) (.str b)) P) : So (VE.pick (.notInQ :: .notInT :: .notInS :: os) (.str a) (.str b)) P := by
  with_unfolding_all exact p
theorem pni_d {x : D} {ks : List Key} {vs : List D} {os : List B2} (p : So (b2 .notInK x (.dct ks vs)) P) : So (VE.pick (.notInQ :: .notInT :: .notInS :: .notInK :: os) x (.dct ks vs)) P := by
  with_unfolding_all exact pick_tl (by cases x <;> rfl) (pick_tl (by cases x <;> rfl) (pick_tl (by cases x <;> rfl) (pick_hd p)))
theorem so_ix_l {xs : List D} {i : Int} (p : So (L2.atI xs i) fun d => P (.cell (.val d))) : So (b2 .ix (.lst xs) (.int i)) P := by
  with_unfolding_all show So ((L2.atI xs i).map O.v) P
  with_unfolding_all exact so_map p
theorem so_ix_t {xs : List D} {i : Int} (p : So (L2.atI xs i) fun d => P (.cell (.val d))) : So (b2 .ix (.tup xs) (.int i)) P := by
  with_unfolding_all show So ((L2.atI xs i).map O.v) P
  with_unfolding_all exact so_map p
theorem pix_l {xs : List D} {i : Int} {os : List B2} (p : So (L2.atI xs i) fun d => P (.cell (.val d))) : So (VE.pick (.ix :: os) (.lst xs) (.int i)) P := by
  with_unfolding_all exact pick_hd (so_ix_l p)
theorem pix_t {xs : List D} {i : Int} {os : List B2} (p : So (L2.atI xs i) fun d => P (.cell (.val d))) : So (VE.pick (.ix :: os) (.tup xs) (.int i)) P := by
  with_unfolding_all exact pick_hd (so_ix_t p)
theorem pix_s {s : Str} {i : Int} {os : List B2} (h : s.length ≤ sizeLine) (p : So (L2.atI s.cps.toList i) fun c => P (.cell (.val (.str ⟨#[c]⟩)))) : So (VE.pick (.ix :: .ixS :: os) (.str s) (.int i)) P := by
  with_unfolding_all refine pick_tl rfl (pick_hd ?_)
  with_unfolding_all show So (if s.length ≤ sizeLine then _ else _) P
  rw [if_pos h]
  with_unfolding_all exact so_map p
theorem pix_d {x : D} {k : Key} {ks : List Key} {vs : List D} {os : List B2} (h : keyOf x = some k) (p : So (look ks vs k) fun d => P (.cell (.val d))) : So (VE.pick (.ix :: .ixS :: .ixK :: os) (.dct ks vs) x) P := by
  with_unfolding_all refine pick_tl ?_ (pick_tl ?_ (pick_hd ?_))
  · cases x <;> rfl
  · cases x <;> rfl
  · have e : b2 .ixK (.dct ks vs) x = (keyOf x).bind fun k => (look ks vs k).map O.v := by cases x <;> rfl
    rw [e, h]
    with_unfolding_all exact so_map p
theorem pad_i {i j : Int} {os : List B2} (p : P (.cell (.val (.int (i + j))))) : So (VE.pick (.add :: os) (.int i) (.int j)) P := by
  with_unfolding_all exact p
theorem pad_s {a b : Str} {os : List B2} (h : a.length + b.length ≤ sizeLine) (p : P (.cell (.val (.str (a ++ b))))) : So (VE.pick (.add :: .addS :: os) (.str a) (.str b)) P := by
  with_unfolding_all exact pick_tl rfl (pick_hd (op_addS h p))
theorem pad_l {a b : List D} {os : List B2} (h : a.length + b.length ≤ sizeLine) (p : P (.cell (.lst (a ++ b)))) : So (VE.pick (.add :: .addS :: .catL :: os) (.lst a) (.lst b)) P := by
  with_unfolding_all exact pick_tl rfl (pick_tl rfl (pick_hd (op_catL h p)))
theorem pad_t {a b : List D} {os : List B2} (h : a.length + b.length ≤ sizeLine ∧ a ≠ []) (p : P (.cell (.val (.tup (a ++ b))))) : So (VE.pick (.add :: .addS :: .catL :: .catT :: os) (.tup a) (.tup b)) P := by
  with_unfolding_all exact pick_tl rfl (pick_tl rfl (pick_tl rfl (pick_hd (op_catT h p))))
theorem so_join {s : Str} {xs : List D} {ys : List Str} (h : xs = ys.map D.str) (hs : (ys.map (·.length)).sum + ys.length * s.length ≤ 16777216) (p : P (.cell (.val (.str (Txt.join s ys))))) : So (b2 .join (.str s) (.lst xs)) P := by
  subst h
  with_unfolding_all show So ((allOf asStr (ys.map D.str)).bind _) P
  rw [allStr]
  with_unfolding_all show So (if (ys.map (·.length)).sum + ys.length * s.length ≤ 16777216 then _ else _) P
  rw [if_pos hs]; with_unfolding_all exact p
theorem so_index {x : D} {xs : List D} {n : Nat} (h : indexP x xs = some n) (p : P (.cell (.val (.int (n : Nat))))) : So (b2 .index (.lst xs) x) P := by
  have e : b2 .index (.lst xs) x = (indexP x xs).bind fun n => iO n := by cases x <;> rfl
  rw [e, h]; with_unfolding_all exact p
theorem so_slcL {xs : List D} {lo hi : Option Int} (p : P (.cell (.lst (cut xs lo hi)))) : So (slcD (.lst xs) lo hi) P := by
  with_unfolding_all exact p
theorem so_slcT {xs : List D} {lo hi : Option Int} (p : P (.cell (.val (.tup (cut xs lo hi))))) : So (slcD (.tup xs) lo hi) P := by
  with_unfolding_all exact p
theorem so_slcS {s : Str} {lo hi : Option Int} (h : s.length ≤ sizeLine) (p : P (.cell (.val (.str (cutS s lo hi))))) : So (slcD (.str s) lo hi) P := by
  with_unfolding_all show So (if s.length ≤ sizeLine then _ else _) P
  rw [if_pos h]; with_unfolding_all exact p
theorem so_fld {c f : Nat} {vs : List D} {d : D} (h : vs[f]? = some d) (p : P (.cell (.val d))) : So (fldD (.obj c vs) c f) P := by
  with_unfolding_all show So (if c = c then (vs[f]?).map O.v else none) P
  rw [if_pos rfl, h]; with_unfolding_all exact p
end
theorem so_at {α : Type} {xs : List α} {n : Nat} {a : α} {P : α → Prop} (h : xs[n]? = some a) (p : P a) : So (L2.atI xs (n : Int)) P := by
  have hn : n < xs.length := (List.getElem?_eq_some_iff.mp h).1
  have e : L2.atI xs (n : Int) = some a := by
    unfold L2.atI L2.ixN
    rw [if_pos (by omega),
                          if_pos (by omega)]
    simpa using h
  rw [e]; with_unfolding_all exact p
theorem so_atz {α : Type} {xs : List α} {i : Int} {a : α} {P : α → Prop} (h0 : 0 ≤ i) (h : xs[i.toNat]? = some a) (p : P a) : So (L2.atI xs i) P := by
  obtain ⟨n, rfl⟩ :=
                    Int.eq_ofNat_of_zero_le h0
  with_unfolding_all exact so_at (by simpa using h) p
theorem so_growN {env : Env} {i : Nat} {xs ds : List D} {P : Env → Prop} (h : gt env i = some (.cell (.lst xs))) (hs : xs.length + ds.length ≤ sizeLine) (p : P (setS env i (.cell (.lst (xs ++ ds))))) : So (growAt env i none ds) P := by
  unfold growAt
  rw [h]
  simp only [hs, if_true]
  with_unfolding_all exact p
theorem so_growF {env : Env} {i c f : Nat} {cs : List Cell} {xs ds : List D} {P : Env → Prop} (h : gt env i = some (.obj c cs)) (hx : cs[f]? = some (.lst xs)) (hs : xs.length + ds.length ≤ sizeLine) (p : P (setS env i (.obj c (cs.set f (.lst (xs ++ ds)))))) : So (growAt env i (some (c, f)) ds) P := by
  unfold growAt
  rw [h]
  simp only [if_true, hx, hs]
  with_unfolding_all exact p
theorem so_putIx {env : Env} {i j : Nat} {xs : List D} {n : Int} {d : D} {P : Env → Prop} (h : gt env i = some (.cell (.lst xs))) (hn : L2.ixN xs.length n = some j) (p : P (setS env i (.cell (.lst (xs.set j d))))) : So (putIx env i n d) P := by
  unfold putIx
  rw [h]
  with_unfolding_all show So ((L2.ixN xs.length n).map _) P
  rw [hn]
  with_unfolding_all exact p
theorem so_putK {env : Env} {i : Nat} {ks : List Key} {vs : List D} {k : D} {x : Key} {d : D} {P : Env → Prop} (h : gt env i = some (.cell (.dct ks vs))) (hk : keyOf k = some x) (hs : ks.length < sizeLine) (p : P (setS env i (.cell (.dct (put ks vs x d).1 (put ks vs x d).2)))) : So (putK env i k d) P := by
  unfold putK
  rw [h, hk]
  simp only [hs, if_true]
  with_unfolding_all exact p
end VE
namespace VE
theorem mulR {j : Int} (i : Int) (h : -(2 ^ 64) < j ∧ j < 2 ^ 64) : mulOk i j = true := by
  unfold mulOk
  rw [Bool.or_eq_true]
  with_unfolding_all exact Or.inl (decide_eq_true (Or.inr h))
theorem mulL {i : Int} (j : Int) (h : -(2 ^ 64) < i ∧ i < 2 ^ 64) : mulOk i j = true := by
  unfold mulOk
  rw [Bool.or_eq_true]
  with_unfolding_all exact Or.inl (decide_eq_true (Or.inl h))
end VE
namespace VE
open PySem L2
theorem so_at0 {α : Type} {xs : List α} {a : α} {P : α → Prop} (h : xs[0]? = some a) (p : P a) : So (L2.atI xs 0) P := so_at (n := by
  with_unfolding_all exact 0) h p
theorem so_at1 {α : Type} {xs : List α} {a : α} {P : α → Prop} (h : xs[1]? = some a) (p : P a) : So (L2.atI xs 1) P := so_at (n := by
  with_unfolding_all exact 1) h p
theorem so_at2 {α : Type} {xs : List α} {a : α} {P : α → Prop} (h : xs[2]? = some a) (p : P a) : So (L2.atI xs 2) P := so_at (n := by
  with_unfolding_all exact 2) h p
theorem so_at3 {α : Type} {xs : List α} {a : α} {P : α → Prop} (h : xs[3]? = some a) (p : P a) : So (L2.atI xs 3) P := so_at (n := by
  with_unfolding_all exact 3) h p
theorem so_at4 {α : Type} {xs : List α} {a : α} {P : α → Prop} (h : xs[4]? = some a) (p : P a) : So (L2.atI xs 4) P := so_at (n := by
  with_unfolding_all exact 4) h p
theorem so_at5 {α : Type} {xs : List α} {a : α} {P : α → Prop} (h : xs[5]? = some a) (p : P a) : So (L2.atI xs 5) P := so_at (n := by
  with_unfolding_all exact 5) h p
theorem so_at6 {α : Type} {xs : List α} {a : α} {P : α → Prop} (h : xs[6]? = some a) (p : P a) : So (L2.atI xs 6) P := so_at (n := by
  with_unfolding_all exact 6) h p
theorem so_at7 {α : Type} {xs : List α} {a : α} {P : α → Prop} (h : xs[7]? = some a) (p : P a) : So (L2.atI xs 7) P := so_at (n := by
  with_unfolding_all exact 7) h p
theorem so_at8 {α : Type} {xs : List α} {a : α} {P : α → Prop} (h : xs[8]? = some a) (p : P a) : So (L2.atI xs 8) P := so_at (n := by
  with_unfolding_all exact 8) h p
theorem so_at9 {α : Type} {xs : List α} {a : α} {P : α → Prop} (h : xs[9]? = some a) (p : P a) : So (L2.atI xs 9) P := so_at (n := by
  with_unfolding_all exact 9) h p
theorem so_am1 {α : Type} {xs : List α} {a : α} {P : α → Prop} (h : xs.reverse[0]? = some a) (p : P a) : So (L2.atI xs (-1)) P := by
  have hn : 0 < xs.length := by
    have := (List.getElem?_eq_some_iff.mp h).1
    simpa using this
  have e : L2.atI xs (-1) = some a := by
    unfold L2.atI L2.ixN
    rw [if_neg (by omega), if_pos (by omega)]
    rw [List.getElem?_reverse hn] at h
    simp only [Option.bind_some]
    rw [← h]
    congr 1
    omega
  rw [e]; with_unfolding_all exact p
theorem so_am2 {α : Type} {xs : List α} {a : α} {P : α → Prop} (h : xs.reverse[1]? = some a) (p : P a) : So (L2.atI xs (-2)) P := by
  have hn : 1 < xs.length := by
    have := (List.getElem?_eq_some_iff.mp h).1
    simpa using this
  have e : L2.atI xs (-2) = some a := by
    unfold L2.atI L2.ixN
    rw [if_neg (by omega), if_pos (by omega)]
    rw [List.getElem?_reverse hn] at h
    simp only [Option.bind_some]
    rw [← h]
    congr 1
    omega
  rw [e]; with_unfolding_all exact p
theorem so_am3 {α : Type} {xs : List α} {a : α} {P : α → Prop} (h : xs.reverse[2]? = some a) (p : P a) : So (L2.atI xs (-3)) P := by
  have hn : 2 < xs.length := by
    have := (List.getElem?_eq_some_iff.mp h).1
    simpa using this
  have e : L2.atI xs (-3) = some a := by
    unfold L2.atI L2.ixN
    rw [if_neg (by omega), if_pos (by omega)]
    rw [List.getElem?_reverse hn] at h
    simp only [Option.bind_some]
    rw [← h]
    congr 1
    omega
  rw [e]; with_unfolding_all exact p
end VE
namespace VE
open PySem L2
theorem ixN_nat {m n : Nat} (h : n < m) : L2.ixN m (n : Int) = some n := by
  unfold L2.ixN
  rw [if_pos (by omega),
                        if_pos (by omega)]
  rfl
theorem some_lt {α : Type} {xs : List α} {n : Nat} (h : (xs[n]?).isSome = true) : n < xs.length := by
  rcases Nat.lt_or_ge n xs.length with q | q
  · exact q
  · rw [List.getElem?_eq_none q] at h
    cases h
theorem so_put0 {env : Env} {i : Nat} {xs : List D} {d : D} {P : Env → Prop} (h : gt env i = some (.cell (.lst xs))) (hn : (xs[0]?).isSome = true) (p : P (setS env i (.cell (.lst (xs.set 0 d))))) : So (putIx env i 0 d) P := by
  with_unfolding_all exact so_putIx (n := ((0 : Nat) : Int)) h (ixN_nat (some_lt hn)) p
theorem so_put1 {env : Env} {i : Nat} {xs : List D} {d : D} {P : Env → Prop} (h : gt env i = some (.cell (.lst xs))) (hn : (xs[1]?).isSome = true) (p : P (setS env i (.cell (.lst (xs.set 1 d))))) : So (putIx env i 1 d) P := by
  with_unfolding_all exact so_putIx (n := ((1 : Nat) : Int)) h (ixN_nat (some_lt hn)) p
theorem so_put2 {env : Env} {i : Nat} {xs : List D} {d : D} {P : Env → Prop} (h : gt env i = some (.cell (.lst xs))) (hn : (xs[2]?).isSome = true) (p : P (setS env i (.cell (.lst (xs.set 2 d))))) : So (putIx env i 2 d) P := by
  with_unfolding_all exact so_putIx (n := ((2 : Nat) : Int)) h (ixN_nat (some_lt hn)) p
theorem so_put3 {env : Env} {i : Nat} {xs : List D} {d : D} {P : Env → Prop} (h : gt env i = some (.cell (.lst xs))) (hn : (xs[3]?).isSome = true) (p : P (setS env i (.cell (.lst (xs.set 3 d))))) : So (putIx env i 3 d) P := by
  with_unfolding_all exact so_putIx (n := ((3 : Nat) : Int)) h (ixN_nat (some_lt hn)) p
theorem so_put4 {env : Env} {i : Nat} {xs : List D} {d : D} {P : Env → Prop} (h : gt env i = some (.cell (.lst xs))) (hn : (xs[4]?).isSome = true) (p : P (setS env i (.cell (.lst (xs.set 4 d))))) : So (putIx env i 4 d) P := by
  with_unfolding_all exact so_putIx (n := ((4 : Nat) : Int)) h (ixN_nat (some_lt hn)) p
theorem so_put5 {env : Env} {i : Nat} {xs : List D} {d : D} {P : Env → Prop} (h : gt env i = some (.cell (.lst xs))) (hn : (xs[5]?).isSome = true) (p : P (setS env i (.cell (.lst (xs.set 5 d))))) : So (putIx env i 5 d) P := by
  with_unfolding_all exact so_putIx (n := ((5 : Nat) : Int)) h (ixN_nat (some_lt hn)) p
theorem so_put6 {env : Env} {i : Nat} {xs : List D} {d : D} {P : Env → Prop} (h : gt env i = some (.cell (.lst xs))) (hn : (xs[6]?).isSome = true) (p : P (setS env i (.cell (.lst (xs.set 6 d))))) : So (putIx env i 6 d) P := by
  with_unfolding_all exact so_putIx (n := ((6 : Nat) : Int)) h (ixN_nat (some_lt hn)) p
theorem so_put7 {env : Env} {i : Nat} {xs : List D} {d : D} {P : Env → Prop} (h : gt env i = some (.cell (.lst xs))) (hn : (xs[7]?).isSome = true) (p : P (setS env i (.cell (.lst (xs.set 7 d))))) : So (putIx env i 7 d) P := by
  with_unfolding_all exact so_putIx (n := ((7 : Nat) : Int)) h (ixN_nat (some_lt hn)) p
end VE
namespace VE
open PySem L2
section
variable {g : Ge} {env : Env} {Z : X → Env → Prop}
theorem kO {e : E} {N : O → Env → Prop} (h : PE (evO g e env) N Z) : PE (evO g e env) N Z := by
  with_unfolding_all exact h
theorem kB {e : E} {r : Out O} {N : D → Env → Prop} (h : PE (bor e r env) N Z) : PE (bor e r env) N Z := by
  with_unfolding_all exact h
theorem kE {α : Type} {r : Out α} {N : α → Env → Prop} (h : PE r N Z) : PE r N Z := by
  with_unfolding_all exact h
theorem kS {s : S} {N : Env → Prop} {R : O → Env → Prop} {B C : Env → Prop} (h : PS (evS g s env) N R B C Z) : PS (evS g s env) N R B C Z := by
  with_unfolding_all exact h
theorem kP {r : SOut} {N : Env → Prop} {R : O → Env → Prop} {B C : Env → Prop} (h : PS r N R B C Z) : PS r N R B C Z := by
  with_unfolding_all exact h
end
theorem kF {o : O} {P : D → Prop} (h : Fr o P) : Fr o P := by
  with_unfolding_all exact h
theorem kC {o : Cell} {P : D → Prop} (h : Cz o P) : Cz o P := by
  with_unfolding_all exact h
theorem kI {d : D} {A B : Prop} (h : If d A B) : If d A B := by
  with_unfolding_all exact h
theorem kSo {α : Type} {r : Option α} {P : α → Prop} (h : So r P) : So r P := by
  with_unfolding_all exact h
theorem k1 {o : B1} {d : D} {P : O → Prop} (h : So (b1 o d) P) : So (b1 o d) P := by
  with_unfolding_all exact h
theorem k2 {o : B2} {x y : D} {P : O → Prop} (h : So (b2 o x y) P) : So (b2 o x y) P := by
  with_unfolding_all exact h
theorem kK {os : List B2} {x y : D} {P : O → Prop} (h : So (VE.pick os x y) P) : So (VE.pick os x y) P := by
  with_unfolding_all exact h
theorem kA {α : Type} {xs : List α} {i : Int} {P : α → Prop} (h : So (L2.atI xs i) P) : So (L2.atI xs i) P := by
  with_unfolding_all exact h
theorem kW {C : Calls} {os : List B2} {c f rf : Nat} {x y : D} {env : Env} {N : O → Env → Prop} {Z : X → Env → Prop} (h : Own C os c f rf x y env N Z) : Own C os c f rf x y env N Z := by
  with_unfolding_all exact h
end VE
namespace VE
open PySem L2
theorem kG {lk : List Bool} {t : Tgt} {d : D} {e : Env} {P : Env → Prop} (h : So (asgT lk t d e) P) : So (asgT lk t d e) P := h
theorem kT {ik : ItK} {ds : List D} {P : List D → Prop} (h : So (itD ik ds) P) : So (itD ik ds) P := h
theorem kU {e : Env} {i k f : Nat} {c : Cell} {P : Env → Prop} (h : So (putF e i k f c) P) : So (putF e i k f c) P := h
theorem it_dyl {xs : List D} {P : List D → Prop} (h : P xs) : So (itD .dyn [.lst xs]) P := by with_unfolding_all exact h
theorem it_dyt {xs : List D} {P : List D → Prop} (h : P xs) : So (itD .dyn [.tup xs]) P := by with_unfolding_all exact h
theorem it_dys {s : Str} {P : List D → Prop} (h : P (s.cps.toList.map fun c => .str ⟨#[c]⟩)) : So (itD .dyn [.str s]) P := by with_unfolding_all exact h
theorem rng_ints : ∀ (n : Nat) (a c : Int), rng a c n = ((List.range n).map fun i => D.int (a + c * (i : Nat)))
  | 0, _, _ => rfl
  | n + 1, a, c => by
    rw [rng, rng_ints n (a + c) c, List.range_succ_eq_map, List.map_cons, List.map_map]
    congr 1
    · show D.int a = D.int (a + c * ((0 : Nat) : Int))
      simp
    · refine List.map_congr_left fun i _ => ?_
      show D.int _ = D.int _
      congr 1
      show a + c + c * (i : Int) = a + c * ((i + 1 : Nat) : Int)
      rw [Int.natCast_add, Int.mul_add]
      show _ = a + (c * (i : Int) + c * 1)
      omega
theorem it_rng1 {j : Int} {P : List D → Prop} (h0 : 0 ≤ j) (hb : j < 2 ^ 62) (h : P ((List.range j.toNat).map fun i => D.int (i : Nat))) : So (itD .rng1 [.int j]) P := by
  have hb : big j = true := decide_eq_true ⟨by omega, hb⟩
  refine so_of (show itD .rng1 [.int j] = some (rng 0 1 j.toNat) from ?_) ?_
  · show (if big j then _ else _) = _
    rw [if_pos hb]
  · rw [rng_ints]
    have e : (fun i : Nat => D.int (0 + 1 * (i : Int))) = fun i : Nat => D.int (i : Nat) := by
      funext i
      congr 1
      omega
    rw [e]
    exact h
theorem it_rng1k {j : Int} {ds : List D} {P : List D → Prop} (hb : big j = true) (e : Nm ((List.range j.toNat).map fun i => D.int (i : Nat)) ds) (h : P ds) : So (itD .rng1 [.int j]) P := by
  have hc : -(2 ^ 62) ≤ j ∧ j < 2 ^ 62 := of_decide_eq_true hb
  rcases Int.lt_or_le j 0 with q | q
  · refine so_of (show itD .rng1 [.int j] = some (rng 0 1 j.toNat) from ?_) ?_
    · show (if big j then _ else _) = _
      rw [if_pos hb]
    · have : j.toNat = 0 := by omega
      rw [this]
      rw [this] at e
      cases e
      exact h
  · refine it_rng1 q hc.2 ?_
    rw [e.eq]
    exact h
end VE


namespace VE
open PySem L2
section
variable {α : Type} {lk : List Bool} {t : Tgt} {elt cond : Env → Out D} {N : List D → Env → Prop} {Z : X → Env → Prop} {env : Env}
theorem comp_flt (emb : α → D) (f : α → D) (g : α → Bool) {ds : List D} (xs : List α) (hx : ds = xs.map emb) (hl : xs.length ≤ 100000)
    (hs : ∀ x ∈ xs, ∀ (P : D → Prop) (Q : Prop), (g x = true → P (f x)) → (g x = false → Q) → So (asgT lk t (emb x) env) fun e0 => En e0 fun e1 => PE (cond e1) (fun b e2 => If b (PE (elt e2) (fun y e3 => En (wipeE e3 (tslots t)) fun e4 => e4 = env ∧ P y) Z) (En (wipeE e2 (tslots t)) fun e4 => e4 = env ∧ Q)) Z)
    (hend : N ((xs.filter g).map f) env) : PE (compGo lk elt cond t ds env []) N Z := by
  refine comp_inv emb (fun d r acc e => acc = (d.filter g).map f ∧ e = env) xs hx ⟨rfl, rfl⟩ ?_ ?_
  · rintro d x r acc e he ⟨rfl, rfl⟩
    refine ⟨?_, ?_⟩
    · rw [List.length_map]
      have h1 := List.length_filter_le g d
      have h2 : d.length ≤ xs.length := by rw [he, List.length_append]; omega
      exact sz_lt (m := 100000) (by omega) (by decide)
    · have q := hs x (by rw [he]; simp) (fun y => (d.filter g).map f ++ [y] = ((d ++ [x]).filter g).map f) ((d.filter g).map f = ((d ++ [x]).filter g).map f) (fun h => by simp [h]) (fun h => by simp [h])
      cases ha : asgT lk t (emb x) e with
      | none => rw [ha] at q; with_unfolding_all exact q
      | some e1 =>
        rw [ha] at q
        unfold So En at q ⊢
        refine PE.mono q (fun b e2 hb => ?_) fun _ _ h => h
        unfold If at hb ⊢
        split at hb
        · exact PE.mono hb (fun y e3 h3 => ⟨h3.2, h3.1⟩) fun _ _ h => h
        · exact ⟨hb.2, hb.1⟩
        · exact hb
  · rintro acc e ⟨rfl, rfl⟩
    exact hend
theorem comp_map (emb : α → D) (f : α → D) {ds : List D} (xs : List α) (hx : ds = xs.map emb) (hl : xs.length ≤ 100000)
    (hs : ∀ x ∈ xs, ∀ (P : D → Prop), P (f x) → So (asgT lk t (emb x) env) fun e0 => En e0 fun e1 => PE (cond e1) (fun b e2 => If b (PE (elt e2) (fun y e3 => En (wipeE e3 (tslots t)) fun e4 => e4 = env ∧ P y) Z) False) Z)
    (hend : N (xs.map f) env) : PE (compGo lk elt cond t ds env []) N Z := by
  refine comp_flt emb f (fun _ => true) xs hx hl (fun x hm P Q h1 _ => ?_) (by
    have : xs.filter (fun _ => true) = xs := by simp
    rw [this]; exact hend)
  have q := hs x hm P (h1 rfl)
  cases ha : asgT lk t (emb x) env with
  | none => rw [ha] at q; with_unfolding_all exact q
  | some e1 =>
    rw [ha] at q
    unfold So En at q ⊢
    refine PE.mono q (fun b e2 hb => ?_) fun _ _ h => h
    unfold If at hb ⊢
    split at hb
    · exact hb
    · exact hb.elim
    · exact hb
/-- parts that draw: the elements out of what is walked, the place of the pot changes -/
theorem comp_draw (emb : α → D) (E : Int → Env) (A : D → Prop) {ds : List D} (xs : List α) {a : Int} (hx : ds = xs.map emb) (he : env = E a) (hl : xs.length ≤ 100000)
    (hs : ∀ x ∈ xs, ∀ (a : Int) (P : D → Env → Prop), (∀ y a', A y → P y (E a')) → So (asgT lk t (emb x) (E a)) fun e0 => En e0 fun e1 => PE (cond e1) (fun b e2 => If b (PE (elt e2) (fun y e3 => En (wipeE e3 (tslots t)) fun e4 => P y e4) Z) False) Z)
    (hend : ∀ ys a', ys.length = xs.length → (∀ y ∈ ys, A y) → N ys (E a')) : PE (compGo lk elt cond t ds env []) N Z := by
  subst he
  refine comp_inv emb (fun d r acc e => acc.length = d.length ∧ (∀ y ∈ acc, A y) ∧ ∃ a', e = E a') xs hx ⟨rfl, by simp, a, rfl⟩ ?_ ?_
  · rintro d x r acc e he ⟨h1, h2, a', rfl⟩
    refine ⟨?_, ?_⟩
    · have h2 : d.length ≤ xs.length := by rw [he, List.length_append]; omega
      exact sz_lt (m := 100000) (by omega) (by decide)
    · have q := hs x (by rw [he]; simp) a' (fun y e4 => (acc ++ [y]).length = (d ++ [x]).length ∧ (∀ z ∈ acc ++ [y], A z) ∧ ∃ a', e4 = E a') (fun y a' hy => ⟨by simp [h1], fun z hz => by
        rcases List.mem_append.mp hz with w | w
        · exact h2 z w
        · rw [List.mem_singleton.mp w]; exact hy, a', rfl⟩)
      cases ha : asgT lk t (emb x) (E a') with
      | none => rw [ha] at q; with_unfolding_all exact q
      | some e1 =>
        rw [ha] at q
        unfold So En at q ⊢
        refine PE.mono q (fun b e2 hb => ?_) fun _ _ h => h
        unfold If at hb ⊢
        split at hb
        · exact hb
        · exact hb.elim
        · exact hb
  · rintro acc e ⟨h1, h2, a', rfl⟩
    exact hend acc a' h1 h2
end
end VE

namespace VE
theorem ps_mid {g : Ge} {env : Env} {N : Env → Prop} {R : O → Env → Prop} {B C : Env → Prop} {Z : X → Env → Prop} {s : S} {ss : List S} (M : Env → Prop) (h1 : PS (evS g s env) M R B C Z) (h2 : ∀ e, M e → PS (evSs g ss e) N R B C Z) : PS (evSs g (s :: ss) env) N R B C Z :=
  ps_cons (PS.mono h1 h2 (fun _ _ h => h) (fun _ h => h) (fun _ h => h) fun _ _ h => h)
end VE

namespace VE
theorem xxI {i : Int} {Q : Int → Prop} (h : Q i) : ∃ j, D.int i = .int j ∧ Q j := ⟨_, rfl, h⟩
theorem xxL {xs : List D} {Q : List D → Prop} (h : Q xs) : ∃ ys, D.lst xs = .lst ys ∧ Q ys := ⟨_, rfl, h⟩
theorem xxB {b : Bool} {Q : Prop} (h : Q) : (∃ r, D.bl b = .bl r) ∧ Q := ⟨⟨_, rfl⟩, h⟩
theorem xxOB {b : Bool} {Q : Bool → Prop} (h : Q b) : ∃ r, (O.cell (.val (.bl b))) = .cell (.val (.bl r)) ∧ Q r := ⟨_, rfl, h⟩
theorem xxOV {c : Nat} {vs : List D} {Q : List D → Prop} (h : Q vs) : ∃ ws, D.obj c vs = .obj c ws ∧ Q ws := ⟨_, rfl, h⟩
theorem xxTT {b : Bool} {Q : Prop} (hb : b = true) (h : Q) : b = true ∧ Q := ⟨hb, h⟩
theorem xxMN {Q : Prop} (h : Q) : (O.cell (.val .non)) = .cell (.val .non) ∧ Q := ⟨rfl, h⟩
theorem xxC {a : O} {r : List O} {Q : O → List O → Prop} (h : Q a r) : ∃ o l, a :: r = o :: l ∧ Q o l := ⟨_, _, rfl, h⟩
theorem xxDC {ks : List Str} {xs : List D} {Q : Prop} (h1 : ks.length = xs.length) (h2 : ks.Nodup) (h3 : ks.length ≤ 15) (h : Q) : (ks.length = xs.length ∧ ks.Nodup ∧ ks.length ≤ 15) ∧ Q := ⟨⟨h1, h2, h3⟩, h⟩
end VE
namespace VE
open PySem L2
theorem so_len_lk {P : O → Prop} {xs : List D} {n : Int} (h : xs.length ≤ sizeLine) (hn : Nm ((xs.length : Nat) : Int) n) (p : P (.cell (.val (.int n)))) : So (b1 .len (.lst xs)) P := by
  cases hn
  exact so_len_l h p
theorem so_len_tk {P : O → Prop} {xs : List D} {n : Int} (h : xs.length ≤ sizeLine) (hn : Nm ((xs.length : Nat) : Int) n) (p : P (.cell (.val (.int n)))) : So (b1 .len (.tup xs)) P := by
  cases hn
  exact so_len_t h p
theorem so_at_ite {a b : D} {q : Bool} {P : D → Prop} (p : P (if q = true then b else a)) : So (L2.atI [a, b] (if q = true then 1 else 0)) P := by
  cases q
  · exact so_at0 rfl p
  · exact so_at1 rfl p
end VE
namespace VE
open PySem L2
theorem so_at_iti {a b : Int} {q : Bool} {P : D → Prop} (p : P (.int (if q = true then b else a))) : So (L2.atI [.int a, .int b] (if q = true then 1 else 0)) P := by
  cases q
  · exact so_at0 rfl p
  · exact so_at1 rfl p
end VE
namespace VE
open PySem L2
theorem po_eisi_t {g : Ge} {env : Env} {N : O → Env → Prop} {Z : X → Env → Prop} {i c : Nat} {x : X} (hx : g.xc = some (i, x)) (h : subC x.c c = true) (p : N (.cell (.val (.bl true))) env) : PE (evO g (.eisi i c) env) N Z := po_eisi hx (by rw [h]; exact p)
theorem po_eisi_f {g : Ge} {env : Env} {N : O → Env → Prop} {Z : X → Env → Prop} {i c : Nat} {x : X} (hx : g.xc = some (i, x)) (h : subC x.c c = false) (p : N (.cell (.val (.bl false))) env) : PE (evO g (.eisi i c) env) N Z := po_eisi hx (by rw [h]; exact p)
end VE
namespace VE
open PySem L2
theorem so_at10 {α : Type} {xs : List α} {a : α} {P : α → Prop} (h : xs[10]? = some a) (p : P a) : So (L2.atI xs 10) P := so_at (n := 10) h p
theorem so_at11 {α : Type} {xs : List α} {a : α} {P : α → Prop} (h : xs[11]? = some a) (p : P a) : So (L2.atI xs 11) P := so_at (n := 11) h p
theorem so_at12 {α : Type} {xs : List α} {a : α} {P : α → Prop} (h : xs[12]? = some a) (p : P a) : So (L2.atI xs 12) P := so_at (n := 12) h p
theorem so_at13 {α : Type} {xs : List α} {a : α} {P : α → Prop} (h : xs[13]? = some a) (p : P a) : So (L2.atI xs 13) P := so_at (n := 13) h p
theorem so_at14 {α : Type} {xs : List α} {a : α} {P : α → Prop} (h : xs[14]? = some a) (p : P a) : So (L2.atI xs 14) P := so_at (n := 14) h p
theorem so_at15 {α : Type} {xs : List α} {a : α} {P : α → Prop} (h : xs[15]? = some a) (p : P a) : So (L2.atI xs 15) P := so_at (n := 15) h p
theorem so_at16 {α : Type} {xs : List α} {a : α} {P : α → Prop} (h : xs[16]? = some a) (p : P a) : So (L2.atI xs 16) P := so_at (n := 16) h p
theorem so_at17 {α : Type} {xs : List α} {a : α} {P : α → Prop} (h : xs[17]? = some a) (p : P a) : So (L2.atI xs 17) P := so_at (n := 17) h p
theorem so_at18 {α : Type} {xs : List α} {a : α} {P : α → Prop} (h : xs[18]? = some a) (p : P a) : So (L2.atI xs 18) P := so_at (n := 18) h p
theorem so_at19 {α : Type} {xs : List α} {a : α} {P : α → Prop} (h : xs[19]? = some a) (p : P a) : So (L2.atI xs 19) P := so_at (n := 19) h p
end VE

namespace LW
open PySem PySem.Spec PyProof.Rows L2 VE
abbrev R : PySem.W.OpenRow := PySem.W.OpenLaw.row PySem.Challenge.rw_shimcard_k01_form_values
def topS (i : Nat) : Stmt := PySem.Challenge.pw_shimcard_k01_form_values.main.body.getD i (.Pass ⟨0, 0, 0, 0⟩)
def argsOf : Stmt → Arguments
  | .FunctionDef _ a
                    _ _ _ _ _ _ _ _ => a
  | _ => ⟨[], [], none,
                       [], [], none, []⟩
def bodyOf : Stmt → List Stmt
  | .FunctionDef _ _
                    b _ _ _ _ _ _ _ => b
  | .ClassDef _ _ _ b _ _ _ _ _ _ _ => b
  | _ => []
def scoOf : Stmt → Scope
  | .FunctionDef _ _ _ _ _ _ s _ _ _ => s
  | _ => ⟨.function,
                    [], false, false, []⟩
def inS (i j : Nat) : Stmt := (bodyOf (topS i)).getD j (.Pass ⟨0, 0, 0, 0⟩)
/-- is_word -/
abbrev b4 : List S := [(.ret (.and (.chain .lt .le (.k (.int 0)) (.b1 .len (.plc 0)) (.k (.int 8))) (.b1 .all (.comp (.bd [.inQ, .inT, .inS, .inK] (.plc 1) (.k (.str "abcdefghijklmnopqrstuvwxyz"))) (.one 1) .dyn [(.plc 0)] none))))]
def f4 : Fn := ⟨1, 2, [true, false], b4⟩
def d4 : DefE := ⟨4, .glo ("is_word" : String), ("is_word" : String), ("is_word" : String), argsOf (topS 9), bodyOf (topS 9), scoOf (topS 9), [], [(("text" : String) : Str), (("letter" : String) : Str)], f4⟩
/-- is_name -/
abbrev b5 : List S := [(.ret (.and (.call .fn 4 [(.io 0)] 0 []) (.bd [.ne] (.plc 0) (.k (.str "frame")))))]
def f5 : Fn := ⟨1, 1, [true], b5⟩
def d5 : DefE := ⟨5, .glo ("is_name" : String), ("is_name" : String), ("is_name" : String), argsOf (topS 10), bodyOf (topS 10), scoOf (topS 10), [], [(("text" : String) : Str)], f5⟩
/-- merged -/
abbrev b6 : List S := [(.ifS (.b1 (.isi .int) (.plc 1)) [(.ret (.make 30 7 [(.own .Add [.add, .addS, .catL, .catT] 30 12 13 (.plcf 0 30 0) (.own .Mult [.mul] 30 16 17 (.var 2) (.var 1))), (.plcf 0 30 1)] []))] []), (.asg 3 (.dct [] []) false), (.forS (.many [4, 5, 6, 7]) .dyn [(.plcf 0 30 1)] [(.setX 3 (.var 4) (.tup [(.var 5), (.var 6), (.var 7)]))]), (.forS (.many [4, 5, 6, 7]) .dyn [(.plcf 1 30 1)] [(.asg 8 (.k (.int 0)) false), (.ifS (.bd [.inQ, .inT, .inS, .inK] (.plc 4) (.plc 3)) [(.asg 8 (.bd [.ix, .ixS, .ixK] (.bd [.ix, .ixS, .ixK] (.plc 3) (.plc 4)) (.k (.int 0))) false), (.ifS (.bd [.ne] (.slc (.bd [.ix, .ixS, .ixK] (.plc 3) (.plc 4)) (some (.k (.int 1))) none) (.tup [(.var 6), (.var 7)])) [(.raise 5 [(.var 4)])] [])] []), (.setX 3 (.var 4) (.tup [(.own .Add [.add, .addS, .catL, .catT] 30 12 13 (.var 8) (.own .Mult [.mul] 30 16 17 (.var 2) (.var 5))), (.var 6), (.var 7)]))]), (.asg 9 (.b1 .sortS (.comp (.b1 .str (.plc 4)) (.one 4) .dct [(.plc 3)] none)) false), (.asg 10 (.b1 .tupL (.comp (.own .Add [.add, .addS, .catL, .catT] 30 12 13 (.tup [(.var 4)]) (.bd [.ix, .ixS, .ixK] (.plc 3) (.plc 4))) (.one 4) .dyn [(.plc 9)] (some (.bd [.ne] (.bd [.ix, .ixS, .ixK] (.bd [.ix, .ixS, .ixK] (.plc 3) (.plc 4)) (.k (.int 0))) (.k (.int 0)))))) false), (.ret (.make 30 7 [(.own .Add [.add, .addS, .catL, .catT] 30 12 13 (.plcf 0 30 0) (.own .Mult [.mul] 30 16 17 (.var 2) (.plcf 1 30 0))), (.io 10)] []))]
def f6 : Fn := ⟨3, 11, [true, true, true, false, false, false, false, false, false, false, false], b6⟩
def d6 : DefE := ⟨6, .glo ("merged" : String), ("merged" : String), ("merged" : String), argsOf (topS 11), bodyOf (topS 11), scoOf (topS 11), [], [(("first" : String) : Str), (("second" : String) : Str), (("sign" : String) : Str), (("found" : String) : Str), (("name" : String) : Str), (("times" : String) : Str), (("low" : String) : Str), (("high" : String) : Str), (("before" : String) : Str), (("names" : String) : Str), (("terms" : String) : Str)], f6⟩
/-- Form.__init__ -/
abbrev b7 : List S := [(.setF 0 30 0 (.var 1)), (.setF 0 30 1 (.var 2))]
def f7 : Fn := ⟨3, 3, [true, true, true], b7⟩
def d7 : DefE := ⟨7, .meth ("Form" : String) ("__init__" : String), ("__init__" : String), ("Form.__init__" : String), argsOf (inS 12 0), bodyOf (inS 12 0), scoOf (inS 12 0), [fun K => .ref (He.dflAt (("Form" : String), some (("__init__" : String) : Str)) 0 K)], [(("self" : String) : Str), (("constant" : String) : Str), (("terms" : String) : Str)], f7⟩
/-- Form.least -/
abbrev b8 : List S := [(.asg 1 (.comp (.ite (.bd [.gt] (.plc 3) (.k (.int 0))) (.own .Mult [.mul] 30 16 17 (.var 3) (.var 4)) (.own .Mult [.mul] 30 16 17 (.var 3) (.var 5))) (.many [2, 3, 4, 5]) .dyn [(.plcf 0 30 1)] none) false), (.ret (.own .Add [.add, .addS, .catL, .catT] 30 12 13 (.plcf 0 30 0) (.b1 .sum (.plc 1))))]
def f8 : Fn := ⟨1, 6, [true, false, false, false, false, false], b8⟩
def d8 : DefE := ⟨8, .prop ("Form" : String) ("least" : String), ("least" : String), ("Form.least" : String), argsOf (inS 12 1), bodyOf (inS 12 1), scoOf (inS 12 1), [], [(("self" : String) : Str), (("ends" : String) : Str), (("name" : String) : Str), (("times" : String) : Str), (("low" : String) : Str), (("high" : String) : Str)], f8⟩
/-- Form.most -/
abbrev b9 : List S := [(.asg 1 (.comp (.ite (.bd [.gt] (.plc 3) (.k (.int 0))) (.own .Mult [.mul] 30 16 17 (.var 3) (.var 5)) (.own .Mult [.mul] 30 16 17 (.var 3) (.var 4))) (.many [2, 3, 4, 5]) .dyn [(.plcf 0 30 1)] none) false), (.ret (.own .Add [.add, .addS, .catL, .catT] 30 12 13 (.plcf 0 30 0) (.b1 .sum (.plc 1))))]
def f9 : Fn := ⟨1, 6, [true, false, false, false, false, false], b9⟩
def d9 : DefE := ⟨9, .prop ("Form" : String) ("most" : String), ("most" : String), ("Form.most" : String), argsOf (inS 12 2), bodyOf (inS 12 2), scoOf (inS 12 2), [], [(("self" : String) : Str), (("ends" : String) : Str), (("name" : String) : Str), (("times" : String) : Str), (("low" : String) : Str), (("high" : String) : Str)], f9⟩
/-- Form.value -/
abbrev b10 : List S := [(.forS (.one 2) .dyn [(.plcf 0 30 1)] [(.ifS (.bd [.notInQ, .notInT, .notInS, .notInK] (.bd [.ix, .ixS, .ixK] (.plc 2) (.k (.int 0))) (.plc 1)) [(.raise 4 [(.bd [.ix, .ixS, .ixK] (.plc 2) (.k (.int 0)))])] [])]), (.ret (.own .Add [.add, .addS, .catL, .catT] 30 12 13 (.plcf 0 30 0) (.b1 .sum (.comp (.own .Mult [.mul] 30 16 17 (.bd [.ix, .ixS, .ixK] (.plc 2) (.k (.int 1))) (.bd [.ix, .ixS, .ixK] (.plc 1) (.bd [.ix, .ixS, .ixK] (.plc 2) (.k (.int 0))))) (.one 2) .dyn [(.plcf 0 30 1)] none))))]
def f10 : Fn := ⟨2, 3, [true, true, false], b10⟩
def d10 : DefE := ⟨10, .meth ("Form" : String) ("value" : String), ("value" : String), ("Form.value" : String), argsOf (inS 12 3), bodyOf (inS 12 3), scoOf (inS 12 3), [], [(("self" : String) : Str), (("values" : String) : Str), (("term" : String) : Str)], f10⟩
/-- Form.__eq__ -/
abbrev b11 : List S := [(.ret (.and (.b1 (.isC 30) (.plc 1)) (.and (.bd [.eq] (.plcf 0 30 0) (.plcf 1 30 0)) (.bd [.eq] (.plcf 0 30 1) (.plcf 1 30 1)))))]
def f11 : Fn := ⟨2, 2, [true, true], b11⟩
def d11 : DefE := ⟨11, .meth ("Form" : String) ("__eq__" : String), ("__eq__" : String), ("Form.__eq__" : String), argsOf (inS 12 4), bodyOf (inS 12 4), scoOf (inS 12 4), [], [(("self" : String) : Str), (("other" : String) : Str)], f11⟩
/-- Form.__add__ -/
abbrev b12 : List S := [(.ret (.call .fn 6 [(.io 0), (.io 1), (.k (.int 1))] 0 []))]
def f12 : Fn := ⟨2, 2, [true, true], b12⟩
def d12 : DefE := ⟨12, .meth ("Form" : String) ("__add__" : String), ("__add__" : String), ("Form.__add__" : String), argsOf (inS 12 5), bodyOf (inS 12 5), scoOf (inS 12 5), [], [(("self" : String) : Str), (("other" : String) : Str)], f12⟩
/-- Form.__radd__ -/
abbrev b13 : List S := [(.ret (.call .fn 6 [(.io 0), (.io 1), (.k (.int 1))] 0 []))]
def f13 : Fn := ⟨2, 2, [true, true], b13⟩
def d13 : DefE := ⟨13, .meth ("Form" : String) ("__radd__" : String), ("__radd__" : String), ("Form.__radd__" : String), argsOf (inS 12 6), bodyOf (inS 12 6), scoOf (inS 12 6), [], [(("self" : String) : Str), (("other" : String) : Str)], f13⟩
/-- Form.__sub__ -/
abbrev b14 : List S := [(.ret (.call .fn 6 [(.io 0), (.io 1), (.k (.int (-1)))] 0 []))]
def f14 : Fn := ⟨2, 2, [true, true], b14⟩
def d14 : DefE := ⟨14, .meth ("Form" : String) ("__sub__" : String), ("__sub__" : String), ("Form.__sub__" : String), argsOf (inS 12 7), bodyOf (inS 12 7), scoOf (inS 12 7), [], [(("self" : String) : Str), (("other" : String) : Str)], f14⟩
/-- Form.__rsub__ -/
abbrev b15 : List S := [(.ret (.call .fn 6 [(.make 30 7 [(.io 1)] [(.tup [])]), (.io 0), (.k (.int (-1)))] 0 []))]
def f15 : Fn := ⟨2, 2, [true, true], b15⟩
def d15 : DefE := ⟨15, .meth ("Form" : String) ("__rsub__" : String), ("__rsub__" : String), ("Form.__rsub__" : String), argsOf (inS 12 8), bodyOf (inS 12 8), scoOf (inS 12 8), [], [(("self" : String) : Str), (("other" : String) : Str)], f15⟩
/-- Form.__mul__ -/
abbrev b16 : List S := [(.asg 2 (.comp (.tup [(.var 3), (.own .Mult [.mul] 30 16 17 (.var 4) (.var 1)), (.var 5), (.var 6)]) (.many [3, 4, 5, 6]) .dyn [(.plcf 0 30 1)] (some (.bd [.ne] (.plc 1) (.k (.int 0))))) false), (.ret (.make 30 7 [(.own .Mult [.mul] 30 16 17 (.plcf 0 30 0) (.var 1)), (.b1 .tupL (.plc 2))] []))]
def f16 : Fn := ⟨2, 7, [true, true, false, false, false, false, false], b16⟩
def d16 : DefE := ⟨16, .meth ("Form" : String) ("__mul__" : String), ("__mul__" : String), ("Form.__mul__" : String), argsOf (inS 12 9), bodyOf (inS 12 9), scoOf (inS 12 9), [], [(("self" : String) : Str), (("times" : String) : Str), (("terms" : String) : Str), (("name" : String) : Str), (("before" : String) : Str), (("low" : String) : Str), (("high" : String) : Str)], f16⟩
/-- Form.__rmul__ -/
abbrev b17 : List S := [(.ret (.own .Mult [.mul] 30 16 17 (.var 0) (.var 1)))]
def f17 : Fn := ⟨2, 2, [true, true], b17⟩
def d17 : DefE := ⟨17, .meth ("Form" : String) ("__rmul__" : String), ("__rmul__" : String), ("Form.__rmul__" : String), argsOf (inS 12 10), bodyOf (inS 12 10), scoOf (inS 12 10), [], [(("self" : String) : Str), (("times" : String) : Str)], f17⟩
/-- Form.__neg__ -/
abbrev b18 : List S := [(.ret (.own .Mult [.mul] 30 16 17 (.var 0) (.k (.int (-1)))))]
def f18 : Fn := ⟨1, 1, [true], b18⟩
def d18 : DefE := ⟨18, .meth ("Form" : String) ("__neg__" : String), ("__neg__" : String), ("Form.__neg__" : String), argsOf (inS 12 11), bodyOf (inS 12 11), scoOf (inS 12 11), [], [(("self" : String) : Str)], f18⟩
/-- Form.__le__ -/
abbrev b19 : List S := [(.ret (.bd [.le] (.prop [(.call .fn 6 [(.io 0), (.io 1), (.k (.int (-1)))] 0 [])] 30 9) (.k (.int 0))))]
def f19 : Fn := ⟨2, 2, [true, true], b19⟩
def d19 : DefE := ⟨19, .meth ("Form" : String) ("__le__" : String), ("__le__" : String), ("Form.__le__" : String), argsOf (inS 12 12), bodyOf (inS 12 12), scoOf (inS 12 12), [], [(("self" : String) : Str), (("other" : String) : Str)], f19⟩
/-- Form.__ge__ -/
abbrev b20 : List S := [(.ret (.bd [.ge] (.prop [(.call .fn 6 [(.io 0), (.io 1), (.k (.int (-1)))] 0 [])] 30 8) (.k (.int 0))))]
def f20 : Fn := ⟨2, 2, [true, true], b20⟩
def d20 : DefE := ⟨20, .meth ("Form" : String) ("__ge__" : String), ("__ge__" : String), ("Form.__ge__" : String), argsOf (inS 12 13), bodyOf (inS 12 13), scoOf (inS 12 13), [], [(("self" : String) : Str), (("other" : String) : Str)], f20⟩
/-- measured -/
abbrev b21 : List S := [(.ifS (.b1 .notB (.call .fn 5 [(.io 0)] 0 [])) [(.raise 2 [(.var 0)])] []), (.ifS (.bd [.gt] (.plc 1) (.plc 2)) [(.raise 7 [(.var 1), (.var 2)])] []), (.ret (.make 30 7 [(.k (.int 0)), (.tup [(.tup [(.var 0), (.k (.int 1)), (.var 1), (.var 2)])])] []))]
def f21 : Fn := ⟨3, 3, [true, true, true], b21⟩
def d21 : DefE := ⟨21, .glo ("measured" : String), ("measured" : String), ("measured" : String), argsOf (topS 13), bodyOf (topS 13), scoOf (topS 13), [], [(("name" : String) : Str), (("low" : String) : Str), (("high" : String) : Str)], f21⟩
/-- _law_pot -/
abbrev b22 : List S := [(.ifS (.ownc .GtE [.ge] 30 20 19 (.var 1) (.b1 .len (.plc 0))) [(.ret (.lst [(.k (.int 0)), (.k (.int 1))]))] []), (.ifS (.ownc .GtE [.ge] 30 20 19 (.bd [.ix, .ixS, .ixK] (.plc 0) (.plc 1)) (.bd [.pow] (.k (.int 10)) (.k (.int 18)))) [(.ret (.lst [(.bd [.ix, .ixS, .ixK] (.plc 0) (.plc 1)), (.k (.int 1))]))] []), (.ret (.lst [(.bd [.mod] (.b1 .int (.own .Add [.add, .addS, .catL, .catT] 30 12 13 (.own .Add [.add, .addS, .catL, .catT] 30 12 13 (.own .Mult [.mul] 30 16 17 (.bd [.ix, .ixS, .ixK] (.plc 0) (.plc 1)) (.k (.int 48271))) (.own .Mult [.mul] 30 16 17 (.var 1) (.k (.int 69621)))) (.k (.int 1)))) (.k (.int 2147483647))), (.k (.int 0))]))]
def f22 : Fn := ⟨2, 2, [true, true], b22⟩
def d22 : DefE := ⟨22, .glo ("_law_pot" : String), ("_law_pot" : String), ("_law_pot" : String), argsOf (topS 15), bodyOf (topS 15), scoOf (topS 15), [], [(("_law_script" : String) : Str), (("_law_k" : String) : Str)], f22⟩
/-- _law_pick -/
abbrev b23 : List S := [(.ifS (.ownc .Eq [.eq] 30 11 11 (.bd [.ix, .ixS, .ixK] (.plc 0) (.k (.int 1))) (.k (.int 1))) [(.asg 2 (.bd [.mod] (.b1 .int (.bd [.ix, .ixS, .ixK] (.plc 0) (.k (.int 0)))) (.plc 1)) false), (.setX 0 (.k (.int 0)) (.bd [.div] (.bd [.ix, .ixS, .ixK] (.plc 0) (.k (.int 0))) (.plc 1))), (.ret (.mv 2))] []), (.setX 0 (.k (.int 0)) (.bd [.mod] (.b1 .int (.own .Add [.add, .addS, .catL, .catT] 30 12 13 (.own .Mult [.mul] 30 16 17 (.bd [.ix, .ixS, .ixK] (.plc 0) (.k (.int 0))) (.k (.int 48271))) (.k (.int 11)))) (.k (.int 2147483647)))), (.ret (.bd [.mod] (.bd [.div] (.bd [.ix, .ixS, .ixK] (.plc 0) (.k (.int 0))) (.k (.int 1021))) (.plc 1)))]
def f23 : Fn := ⟨2, 3, [true, true, false], b23⟩
def d23 : DefE := ⟨23, .glo ("_law_pick" : String), ("_law_pick" : String), ("_law_pick" : String), argsOf (topS 16), bodyOf (topS 16), scoOf (topS 16), [], [(("_law_pot_here" : String) : Str), (("_law_many" : String) : Str), (("_law_number_here" : String) : Str)], f23⟩
/-- _law_signed -/
abbrev b24 : List S := [(.ifS (.bd [.eq] (.bd [.mod] (.b1 .int (.plc 0)) (.k (.int 2))) (.k (.int 1))) [(.ret (.bd [.div] (.own .Add [.add, .addS, .catL, .catT] 30 12 13 (.var 0) (.k (.int 1))) (.k (.int 2))))] []), (.ret (.own1 30 18 (.bd [.div] (.plc 0) (.k (.int 2)))))]
def f24 : Fn := ⟨1, 1, [true], b24⟩
def d24 : DefE := ⟨24, .glo ("_law_signed" : String), ("_law_signed" : String), ("_law_signed" : String), argsOf (topS 17), bodyOf (topS 17), scoOf (topS 17), [], [(("_law_number_here" : String) : Str)], f24⟩
/-- _law_whole -/
abbrev b25 : List S := [(.ret (.and (.b1 (.isi .int) (.plc 0)) (.b1 .notB (.b1 (.isi .bool) (.plc 0)))))]
def f25 : Fn := ⟨1, 1, [true], b25⟩
def d25 : DefE := ⟨25, .glo ("_law_whole" : String), ("_law_whole" : String), ("_law_whole" : String), argsOf (topS 18), bodyOf (topS 18), scoOf (topS 18), [], [(("_law_actual" : String) : Str)], f25⟩
/-- _law_number -/
abbrev b26 : List S := [(.ifS (.ownc .Eq [.eq] 30 11 11 (.call .fn 23 [(.io 0), (.k (.int 4))] 0 []) (.k (.int 3))) [(.ret (.call .fn 24 [(.own .Add [.add, .addS, .catL, .catT] 30 12 13 (.own .Mult [.mul] 30 16 17 (.call .fn 23 [(.io 0), (.bd [.pow] (.k (.int 10)) (.k (.int 28)))] 0 []) (.bd [.pow] (.k (.int 10)) (.k (.int 28)))) (.call .fn 23 [(.io 0), (.bd [.pow] (.k (.int 10)) (.k (.int 28)))] 0 []))] 0 []))] []), (.ret (.call .fn 24 [(.call .fn 23 [(.io 0), (.k (.int 19))] 0 [])] 0 []))]
def f26 : Fn := ⟨1, 1, [true], b26⟩
def d26 : DefE := ⟨26, .glo ("_law_number" : String), ("_law_number" : String), ("_law_number" : String), argsOf (topS 19), bodyOf (topS 19), scoOf (topS 19), [], [(("_law_pot_here" : String) : Str)], f26⟩
/-- _law_names -/
abbrev b27 : List S := [(.asg 2 (.k (.str "abcdefghijklmnopqrstuvwxyz")) false), (.asg 3 (.call .fn 23 [(.io 0), (.k (.int 3))] 0 []) false), (.asg 4 (.lst []) false), (.ifS (.or (.ownc .Eq [.eq] 30 11 11 (.var 3) (.k (.int 2))) (.bd [.gt] (.plc 1) (.k (.int 6)))) [(.asg 5 (.b2 .join (.k (.str "")) (.comp (.bd [.ix, .ixS, .ixK] (.plc 2) (.call .fn 23 [(.io 0), (.k (.int 25))] 0 [])) (.one 6) .rng1 [(.call .fn 23 [(.io 0), (.k (.int 8))] 0 [])] none)) false), (.ifS (.or (.ownc .Eq [.eq] 30 11 11 (.var 5) (.k (.str "fram"))) (.ownc .Eq [.eq] 30 11 11 (.var 5) (.k (.str "rame")))) [(.asg 5 (.k (.str "")) false)] []), (.asg 7 (.call .fn 23 [(.io 0), (.k (.int 26))] 0 []) false), (.asg 8 (.call .fn 23 [(.io 0), (.k (.int 2))] 0 []) false), (.forS (.one 6) .rng1 [(.plc 1)] [(.asg 9 (.bd [.ix, .ixS, .ixK] (.plc 2) (.bd [.mod] (.b1 .int (.own .Add [.add, .addS, .catL, .catT] 30 12 13 (.var 7) (.own .Mult [.mul] 30 16 17 (.k (.int 5)) (.var 6)))) (.k (.int 26)))) false), (.app 4 none (.bd [.ix, .ixS, .ixK] (.lst [(.own .Add [.add, .addS, .catL, .catT] 30 12 13 (.var 5) (.var 9)), (.own .Add [.add, .addS, .catL, .catT] 30 12 13 (.var 9) (.var 5))]) (.plc 8)))]), (.ret (.mv 4))] []), (.forS (.one 6) .rng1 [(.plc 1)] [(.asg 10 (.bd [.ix, .ixS, .ixK] (.plc 2) (.call .fn 23 [(.io 0), (.bd [.ix, .ixS, .ixK] (.lst [(.k (.int 26)), (.k (.int 2))]) (.plc 3))] 0 [])) false), (.forS (.one 11) .rng1 [(.call .fn 23 [(.io 0), (.k (.int 3))] 0 [])] [(.asg 10 (.own .Add [.add, .addS, .catL, .catT] 30 12 13 (.var 10) (.bd [.ix, .ixS, .ixK] (.plc 2) (.call .fn 23 [(.io 0), (.bd [.ix, .ixS, .ixK] (.lst [(.k (.int 26)), (.k (.int 2))]) (.plc 3))] 0 []))) false)]), (.forS (.one 11) .rng1 [(.plc 1)] [(.ifS (.bd [.inQ, .inT, .inS, .inK] (.plc 10) (.plc 4)) [(.asg 10 (.own .Add [.add, .addS, .catL, .catT] 30 12 13 (.var 10) (.k (.str "x"))) false)] [])]), (.app 4 none (.var 10))]), (.ret (.mv 4))]
def f27 : Fn := ⟨2, 12, [true, true, false, false, false, false, false, false, false, false, false, false], b27⟩
def d27 : DefE := ⟨27, .glo ("_law_names" : String), ("_law_names" : String), ("_law_names" : String), argsOf (topS 20), bodyOf (topS 20), scoOf (topS 20), [], [(("_law_pot_here" : String) : Str), (("_law_count" : String) : Str), (("_law_letters" : String) : Str), (("_law_mode" : String) : Str), (("_law_names_here" : String) : Str), (("_law_stem" : String) : Str), (("_law_k" : String) : Str), (("_law_start" : String) : Str), (("_law_front" : String) : Str), (("_law_letter" : String) : Str), (("_law_name" : String) : Str), (("_law_more" : String) : Str)], f27⟩
/-- _law_spans -/
abbrev b28 : List S := [(.asg 2 (.lst []) false), (.forS (.one 3) .rng1 [(.plc 1)] [(.asg 4 (.call .fn 26 [(.io 0)] 0 []) false), (.app 2 none (.tup [(.var 4), (.own .Add [.add, .addS, .catL, .catT] 30 12 13 (.var 4) (.call .fn 23 [(.io 0), (.k (.int 100))] 0 []))]))]), (.ret (.mv 2))]
def f28 : Fn := ⟨2, 5, [true, true, false, false, false], b28⟩
def d28 : DefE := ⟨28, .glo ("_law_spans" : String), ("_law_spans" : String), ("_law_spans" : String), argsOf (topS 21), bodyOf (topS 21), scoOf (topS 21), [], [(("_law_pot_here" : String) : Str), (("_law_count" : String) : Str), (("_law_spans_here" : String) : Str), (("_law_k" : String) : Str), (("_law_bottom" : String) : Str)], f28⟩
/-- _law_ones -/
abbrev b29 : List S := [(.ret (.comp (.call .fn 21 [(.bd [.ix, .ixS, .ixK] (.plc 0) (.plc 2)), (.bd [.ix, .ixS, .ixK] (.bd [.ix, .ixS, .ixK] (.plc 1) (.plc 2)) (.k (.int 0))), (.bd [.ix, .ixS, .ixK] (.bd [.ix, .ixS, .ixK] (.plc 1) (.plc 2)) (.k (.int 1)))] 2 []) (.one 2) .rng1 [(.b1 .len (.plc 0))] none))]
def f29 : Fn := ⟨2, 3, [true, true, false], b29⟩
def d29 : DefE := ⟨29, .glo ("_law_ones" : String), ("_law_ones" : String), ("_law_ones" : String), argsOf (topS 22), bodyOf (topS 22), scoOf (topS 22), [], [(("_law_names_here" : String) : Str), (("_law_spans_here" : String) : Str), (("_law_k" : String) : Str)], f29⟩
/-- _law_made -/
abbrev b30 : List S := [(.asg 2 (.call .fn 26 [(.io 0)] 0 []) false), (.asg 3 (.make 30 7 [(.io 2)] [(.tup [])]) false), (.asg 4 (.lst []) false), (.forS (.one 5) .dyn [(.plc 1)] [(.app 4 none (.call .fn 26 [(.io 0)] 0 [])), (.asg 3 (.own .Add [.add, .addS, .catL, .catT] 30 12 13 (.var 3) (.own .Mult [.mul] 30 16 17 (.bd [.ix, .ixS, .ixK] (.plc 4) (.k (.int (-1)))) (.var 5))) false)]), (.ret (.tup [(.var 3), (.var 2), (.var 4)]))]
def f30 : Fn := ⟨2, 6, [true, true, false, false, false, false], b30⟩
def d30 : DefE := ⟨30, .glo ("_law_made" : String), ("_law_made" : String), ("_law_made" : String), argsOf (topS 23), bodyOf (topS 23), scoOf (topS 23), [], [(("_law_pot_here" : String) : Str), (("_law_ones_here" : String) : Str), (("_law_constant" : String) : Str), (("_law_form" : String) : Str), (("_law_times" : String) : Str), (("_law_one" : String) : Str)], f30⟩
/-- _law_due -/
abbrev b31 : List S := [(.asg 2 (.bd [.ix, .ixS, .ixK] (.plc 0) (.k (.int 1))) false), (.forS (.one 3) .rng1 [(.b1 .len (.plc 1))] [(.asg 2 (.own .Add [.add, .addS, .catL, .catT] 30 12 13 (.var 2) (.own .Mult [.mul] 30 16 17 (.bd [.ix, .ixS, .ixK] (.bd [.ix, .ixS, .ixK] (.plc 0) (.k (.int 2))) (.plc 3)) (.bd [.ix, .ixS, .ixK] (.plc 1) (.plc 3)))) false)]), (.ret (.mv 2))]
def f31 : Fn := ⟨2, 4, [true, true, false, false], b31⟩
def d31 : DefE := ⟨31, .glo ("_law_due" : String), ("_law_due" : String), ("_law_due" : String), argsOf (topS 24), bodyOf (topS 24), scoOf (topS 24), [], [(("_law_made_here" : String) : Str), (("_law_row" : String) : Str), (("_law_total" : String) : Str), (("_law_k" : String) : Str)], f31⟩
/-- _law_has_value -/
abbrev b32 : List S := [(.asg 4 (.dct ["zzzzzzzz"] [(.k (.int 5))]) false), (.forS (.one 5) .rng1 [(.b1 .len (.plc 1))] [(.setX 4 (.bd [.ix, .ixS, .ixK] (.plc 1) (.plc 5)) (.bd [.ix, .ixS, .ixK] (.plc 2) (.plc 5)))]), (.asg 6 (.b1 .dctC (.plc 4)) false), (.asg 7 (.call (.meth 30) 10 [(.io 0), (.io 4)] 0 []) false), (.ret (.and (.call .fn 25 [(.io 7)] 0 []) (.and (.ownc .Eq [.eq] 30 11 11 (.var 7) (.var 3)) (.ownc .Eq [.eq, .eqK] 30 11 11 (.var 4) (.var 6)))))]
def f32 : Fn := ⟨4, 8, [true, true, true, true, false, false, false, false], b32⟩
def d32 : DefE := ⟨32, .glo ("_law_has_value" : String), ("_law_has_value" : String), ("_law_has_value" : String), argsOf (topS 25), bodyOf (topS 25), scoOf (topS 25), [], [(("_law_form" : String) : Str), (("_law_names_here" : String) : Str), (("_law_row" : String) : Str), (("_law_due_here" : String) : Str), (("_law_values" : String) : Str), (("_law_k" : String) : Str), (("_law_kept" : String) : Str), (("_law_actual" : String) : Str)], f32⟩
/-- law -/
abbrev b33 : List S := [(.asg 1 (.call .fn 22 [(.io 0), (.k (.int 0))] 0 []) false), (.asg 2 (.call .fn 27 [(.io 1), (.k (.int 3))] 0 []) false), (.asg 3 (.call .fn 29 [(.io 2), (.call .fn 28 [(.io 1), (.k (.int 3))] 0 [])] 0 []) false), (.asg 1 (.call .fn 22 [(.io 0), (.k (.int 1))] 0 []) false), (.asg 4 (.lst [(.call .fn 30 [(.io 1), (.io 3)] 0 []), (.call .fn 30 [(.io 1), (.io 3)] 0 [])]) false), (.asg 5 (.call .fn 26 [(.io 1)] 0 []) false), (.asg 6 (.bd [.ix, .ixS, .ixK] (.bd [.ix, .ixS, .ixK] (.plc 4) (.k (.int 0))) (.k (.int 0))) false), (.asg 7 (.bd [.ix, .ixS, .ixK] (.bd [.ix, .ixS, .ixK] (.plc 4) (.k (.int 1))) (.k (.int 0))) false), (.asg 8 (.lst [(.own .Add [.add, .addS, .catL, .catT] 30 12 13 (.var 6) (.var 7)), (.own .Sub [.sub] 30 14 15 (.var 6) (.var 7)), (.own .Sub [.sub] 30 14 15 (.var 7) (.var 6)), (.own .Add [.add, .addS, .catL, .catT] 30 12 13 (.var 6) (.var 5)), (.own .Add [.add, .addS, .catL, .catT] 30 12 13 (.var 5) (.var 6)), (.own .Sub [.sub] 30 14 15 (.var 6) (.var 5))]) false), (.asg 8 (.own .Add [.add, .addS, .catL, .catT] 30 12 13 (.var 8) (.lst [(.own .Sub [.sub] 30 14 15 (.var 5) (.var 6)), (.own .Mult [.mul] 30 16 17 (.var 6) (.var 5)), (.own .Mult [.mul] 30 16 17 (.var 5) (.var 6)), (.own1 30 18 (.var 6)), (.var 6), (.var 7)])) false), (.asg 1 (.call .fn 22 [(.io 0), (.k (.int 2))] 0 []) false), (.forS (.one 9) .rng1 [(.k (.int 2))] [(.asg 10 (.comp (.call .fn 26 [(.io 1)] 0 []) (.one 11) .dyn [(.plc 2)] none) false), (.asg 12 (.call .fn 31 [(.bd [.ix, .ixS, .ixK] (.plc 4) (.k (.int 0))), (.io 10)] 0 []) false), (.asg 13 (.call .fn 31 [(.bd [.ix, .ixS, .ixK] (.plc 4) (.k (.int 1))), (.io 10)] 0 []) false), (.asg 14 (.lst [(.own .Add [.add, .addS, .catL, .catT] 30 12 13 (.var 12) (.var 13)), (.own .Sub [.sub] 30 14 15 (.var 12) (.var 13)), (.own .Sub [.sub] 30 14 15 (.var 13) (.var 12)), (.own .Add [.add, .addS, .catL, .catT] 30 12 13 (.var 12) (.var 5)), (.own .Add [.add, .addS, .catL, .catT] 30 12 13 (.var 5) (.var 12)), (.own .Sub [.sub] 30 14 15 (.var 12) (.var 5))]) false), (.asg 14 (.own .Add [.add, .addS, .catL, .catT] 30 12 13 (.var 14) (.lst [(.own .Sub [.sub] 30 14 15 (.var 5) (.var 12)), (.own .Mult [.mul] 30 16 17 (.var 12) (.var 5)), (.own .Mult [.mul] 30 16 17 (.var 5) (.var 12)), (.own1 30 18 (.var 12)), (.var 12), (.var 13)])) false), (.forS (.one 15) .rng1 [(.b1 .len (.plc 8))] [(.ifS (.b1 .notB (.call .fn 32 [(.bd [.ix, .ixS, .ixK] (.plc 8) (.plc 15)), (.io 2), (.io 10), (.bd [.ix, .ixS, .ixK] (.plc 14) (.plc 15))] 0 [])) [(.ret (.k (.bl false)))] [])])]), (.ret (.k (.bl true)))]
def f33 : Fn := ⟨1, 16, [true, false, false, false, false, false, false, false, false, false, false, false, false, false, false, false], b33⟩
def d33 : DefE := ⟨33, .glo ("law" : String), ("law" : String), ("law" : String), argsOf (topS 26), bodyOf (topS 26), scoOf (topS 26), [], [(("_law_script" : String) : Str), (("_law_pot_here" : String) : Str), (("_law_names_here" : String) : Str), (("_law_ones_here" : String) : Str), (("_law_made_here" : String) : Str), (("_law_number_here" : String) : Str), (("_law_first" : String) : Str), (("_law_second" : String) : Str), (("_law_forms" : String) : Str), (("_law_turn" : String) : Str), (("_law_row" : String) : Str), (("_law_name" : String) : Str), (("_law_a" : String) : Str), (("_law_b" : String) : Str), (("_law_dues" : String) : Str), (("_law_k" : String) : Str)], f33⟩
def x2 : ExD := ⟨2, ("BadName" : String), [(("name" : String) : Str)], ("__init__" : String), ("BadName.__init__" : String), argsOf (inS 2 0), bodyOf (inS 2 0), scoOf (inS 2 0)⟩
def x4 : ExD := ⟨4, ("UnknownName" : String), [(("name" : String) : Str)], ("__init__" : String), ("UnknownName.__init__" : String), argsOf (inS 3 0), bodyOf (inS 3 0), scoOf (inS 3 0)⟩
def x5 : ExD := ⟨5, ("UnlikeLimits" : String), [(("name" : String) : Str)], ("__init__" : String), ("UnlikeLimits.__init__" : String), argsOf (inS 4 0), bodyOf (inS 4 0), scoOf (inS 4 0)⟩
def x7 : ExD := ⟨7, ("BadLimits" : String), [(("low" : String) : Str), (("high" : String) : Str)], ("__init__" : String), ("BadLimits.__init__" : String), argsOf (inS 5 0), bodyOf (inS 5 0), scoOf (inS 5 0)⟩
def tab : Tab where
  fn := [⟨22, ("_law_pot" : String), [⟨2, [], []⟩]⟩, ⟨27, ("_law_names" : String), [⟨2, [], []⟩]⟩, ⟨28, ("_law_spans" : String), [⟨2, [], []⟩]⟩, ⟨29, ("_law_ones" : String), [⟨2, [], []⟩]⟩, ⟨30, ("_law_made" : String), [⟨2, [], []⟩]⟩, ⟨26, ("_law_number" : String), [⟨1, [], []⟩]⟩, ⟨31, ("_law_due" : String), [⟨2, [], []⟩]⟩, ⟨32, ("_law_has_value" : String), [⟨4, [], []⟩]⟩, ⟨25, ("_law_whole" : String), [⟨1, [], []⟩]⟩, ⟨6, ("merged" : String), [⟨3, [], []⟩]⟩, ⟨23, ("_law_pick" : String), [⟨2, [], []⟩]⟩, ⟨24, ("_law_signed" : String), [⟨1, [], []⟩]⟩, ⟨21, ("measured" : String), [⟨1, [(("low" : String) : Str), (("high" : String) : Str)], []⟩]⟩, ⟨5, ("is_name" : String), [⟨1, [], []⟩]⟩, ⟨4, ("is_word" : String), [⟨1, [], []⟩]⟩]
  mt := [⟨30, ("value" : String), 10, [⟨1, [], []⟩]⟩]
  mks := [⟨30, ("Form" : String), 7, [⟨2, [], []⟩, ⟨1, [], [(.tup [])]⟩]⟩]
  pr := [⟨30, ("most" : String), 9⟩, ⟨30, ("least" : String), 8⟩]
  ex := [⟨2, ("BadName" : String), [(("name" : String) : Str)]⟩, ⟨4, ("UnknownName" : String), [(("name" : String) : Str)]⟩, ⟨5, ("UnlikeLimits" : String), [(("name" : String) : Str)]⟩, ⟨7, ("BadLimits" : String), [(("low" : String) : Str), (("high" : String) : Str)]⟩]
  xn := []
  op := [⟨.Add, 30, 12, 13⟩, ⟨.Sub, 30, 14, 15⟩, ⟨.Mult, 30, 16, 17⟩]
  cp := [⟨.Eq, 30, 11, 11⟩, ⟨.GtE, 30, 20, 19⟩]
  ng := [(30, 18)]
  hs := []
  cl := [(30, ("Form" : String))]
  con := [(("FRAME" : String), (.str "frame")), (("LETTERS" : String), (.str "abcdefghijklmnopqrstuvwxyz"))]
  bl := [(("all" : String) : Str), (("bool" : String) : Str), (("dict" : String) : Str), (("int" : String) : Str), (("isinstance" : String) : Str), (("len" : String) : Str), (("range" : String) : Str), (("sorted" : String) : Str), (("str" : String) : Str), (("sum" : String) : Str), (("tuple" : String) : Str)]
  fs := [(30, [(("constant" : String) : Str), (("terms" : String) : Str)]), (2, [(("name" : String) : Str)]), (4, [(("name" : String) : Str)]), (5, [(("name" : String) : Str)]), (7, [(("high" : String) : Str), (("low" : String) : Str)])]
def lw : LawD where
  T := tab
  defs := [d4, d5, d6, d7, d8, d9, d10, d11, d12, d13, d14, d15, d16, d17, d18, d19, d20, d21, d22, d23, d24, d25, d26, d27, d28, d29, d30, d31, d32, d33]
  xcl := [(2, ("BadName" : String)), (4, ("UnknownName" : String)), (5, ("UnlikeLimits" : String)), (7, ("BadLimits" : String))]
  exs := [x2, x4, x5, x7]
  file := PySem.Challenge.pw_shimcard_k01_form_values.main.file
  cls := [(30, ("Form" : String))]
  tup0 := [fun K => He.dflAt (("Form" : String), some (("__init__" : String) : Str)) 0 K]
theorem s4 : lw.Fs 4 = some f4 := rfl
theorem s5 : lw.Fs 5 = some f5 := rfl
theorem s6 : lw.Fs 6 = some f6 := rfl
theorem s7 : lw.Fs 7 = some f7 := rfl
theorem s8 : lw.Fs 8 = some f8 := rfl
theorem s9 : lw.Fs 9 = some f9 := rfl
theorem s10 : lw.Fs 10 = some f10 := rfl
theorem s11 : lw.Fs 11 = some f11 := rfl
theorem s12 : lw.Fs 12 = some f12 := rfl
theorem s13 : lw.Fs 13 = some f13 := rfl
theorem s14 : lw.Fs 14 = some f14 := rfl
theorem s15 : lw.Fs 15 = some f15 := rfl
theorem s16 : lw.Fs 16 = some f16 := rfl
theorem s17 : lw.Fs 17 = some f17 := rfl
theorem s18 : lw.Fs 18 = some f18 := rfl
theorem s19 : lw.Fs 19 = some f19 := rfl
theorem s20 : lw.Fs 20 = some f20 := rfl
theorem s21 : lw.Fs 21 = some f21 := rfl
theorem s22 : lw.Fs 22 = some f22 := rfl
theorem s23 : lw.Fs 23 = some f23 := rfl
theorem s24 : lw.Fs 24 = some f24 := rfl
theorem s25 : lw.Fs 25 = some f25 := rfl
theorem s26 : lw.Fs 26 = some f26 := rfl
theorem s27 : lw.Fs 27 = some f27 := rfl
theorem s28 : lw.Fs 28 = some f28 := rfl
theorem s29 : lw.Fs 29 = some f29 := rfl
theorem s30 : lw.Fs 30 = some f30 := rfl
theorem s31 : lw.Fs 31 = some f31 := rfl
theorem s32 : lw.Fs 32 = some f32 := rfl
theorem s33 : lw.Fs 33 = some f33 := rfl
end LW
section
open PySem L2 VE
namespace FM
abbrev ltS (a b : Str) : Prop := a.cps.toList < b.cps.toList
theorem leS_iff {a b : Str} : leS a b = true ↔ a.cps.toList ≤ b.cps.toList := by
  unfold leS; exact decide_eq_true_iff
theorem leS_total (a b : Str) : leS a b = true ∨ leS b a = true := by
  rw [leS_iff, leS_iff]
  exact List.le_total _ _
theorem leS_trans {a b c : Str} (h1 : leS a b = true) (h2 : leS b c = true) : leS a c = true := by
  rw [leS_iff] at *
  exact List.le_trans h1 h2
theorem leS_anti {a b : Str} (h1 : leS a b = true) (h2 : leS b a = true) : a = b := by
  rw [leS_iff] at *
  exact VN.list_ext (List.le_antisymm h1 h2)
theorem leS_refl (a : Str) : leS a a = true := by
  rcases leS_total a a with h | h <;> exact h
theorem mem_insS {x y : Str} : ∀ {l : List Str}, y ∈ insS x l ↔ y = x ∨ y ∈ l
  | [] => by simp [insS]
  | z :: l => by
    unfold insS
    split
    · simp
    · rw [List.mem_cons, mem_insS (l := l), List.mem_cons]
      constructor
      · rintro (h | h | h)
        · exact .inr (.inl h)
        · exact .inl h
        · exact .inr (.inr h)
      · rintro (h | h | h)
        · exact .inr (.inl h)
        · exact .inl h
        · exact .inr (.inr h)
theorem mem_sortS {y : Str} : ∀ {l : List Str}, y ∈ sortS l ↔ y ∈ l
  | [] => by simp [sortS]
  | x :: l => by
    unfold sortS
    rw [mem_insS, mem_sortS (l := l), List.mem_cons]
theorem len_insS {x : Str} : ∀ {l : List Str}, (insS x l).length = l.length + 1
  | [] => rfl
  | z :: l => by
    unfold insS
    split
    · rfl
    · rw [List.length_cons, len_insS (l := l)]; rfl
theorem len_sortS : ∀ {l : List Str}, (sortS l).length = l.length
  | [] => rfl
  | x :: l => by
    unfold sortS
    rw [len_insS, len_sortS (l := l)]; rfl
/-- in order, none twice -/
abbrev Ord (l : List Str) : Prop := l.Pairwise fun a b => leS a b = true ∧ a ≠ b
theorem insS_ord {x : Str} : ∀ {l : List Str}, Ord l → x ∉ l → Ord (insS x l)
  | [], _, _ => by simp [insS, Ord]
  | z :: l, h, hx => by
    unfold insS
    have h1 := List.pairwise_cons.mp h
    have xz : x ≠ z := fun e => hx (by rw [e]; exact List.mem_cons_self)
    by_cases q : leS x z = true
    · rw [if_pos q]
      refine List.pairwise_cons.mpr ⟨fun y hy => ?_, h⟩
      rcases List.mem_cons.mp
                             hy with e | e
      · rw [e]; exact ⟨q, xz⟩
      · exact ⟨leS_trans q (h1.1 y e).1, fun e2 => hx (by rw [e2]; exact List.mem_cons_of_mem _ e)⟩
    · rw [if_neg q]
      refine List.pairwise_cons.mpr ⟨fun y hy => ?_, insS_ord h1.2 fun e => hx (List.mem_cons_of_mem _ e)⟩
      rcases mem_insS.mp hy with e | e
      · rw [e]
        exact ⟨(leS_total x z).resolve_left q, fun e => xz e.symm⟩
      · exact h1.1 y e
theorem sortS_ord : ∀ {l : List Str}, l.Nodup → Ord (sortS l)
  | [], _ => List.Pairwise.nil
  | x :: l, h => by
    have h1 := List.nodup_cons.mp h
    exact insS_ord (sortS_ord h1.2) fun e => h1.1 (mem_sortS.mp e)
theorem Ord.nodup {l : List Str} (h : Ord l) : l.Nodup := List.Pairwise.imp (fun h => h.2) h
/-- two lists in order with the same members are one -/
theorem ord_ext : ∀ {l1 l2 : List Str}, Ord l1 → Ord l2 → (∀ x, x ∈ l1 ↔ x ∈ l2) → l1 = l2
  | [], [], _, _, _ => rfl
  | [], y :: l2, _, _, h => by cases (h y).mpr List.mem_cons_self
  | x :: l1, [], _, _, h => by cases (h x).mp List.mem_cons_self
  | x :: l1, y :: l2, h1, h2, h => by
    have a1 := List.pairwise_cons.mp h1
    have a2 := List.pairwise_cons.mp h2
    have e : x = y := by
      rcases List.mem_cons.mp ((h x).mp List.mem_cons_self) with e | e
      · exact e
      · rcases List.mem_cons.mp ((h y).mpr List.mem_cons_self) with e' | e'
        · exact e'.symm
        · exact leS_anti (a1.1 y e').1 (a2.1 x e).1
    subst e
    rw [ord_ext a1.2 a2.2 fun z => ⟨fun hz => ?_, fun hz => ?_⟩]
    · rcases List.mem_cons.mp ((h z).mp (List.mem_cons_of_mem _ hz)) with e | e
      · exact absurd e.symm (a1.1 z hz).2
      · exact e
    · rcases List.mem_cons.mp ((h z).mpr (List.mem_cons_of_mem _ hz)) with e | e
      · exact absurd e.symm (a2.1 z hz).2
      · exact e
theorem sortS_of {l1 l2 : List Str} (h1 : l1.Nodup) (h2 : Ord l2) (h : ∀ x, x ∈ l1 ↔ x ∈ l2) : sortS l1 = l2 :=
  ord_ext (sortS_ord h1) h2 fun x => mem_sortS.trans (h x)
structure Tm where
  n : Str
  t : Int
  lo : Int
  hi : Int
  deriving DecidableEq
abbrev Tm.v (x : Tm) : D := .tup [.int x.t, .int x.lo, .int x.hi]
abbrev Tm.d (x : Tm) : D := .tup [.str x.n, .int x.t, .int x.lo, .int x.hi]
structure Fm where
  c : Int
  ts : List Tm
  deriving DecidableEq
abbrev Fm.d (f : Fm) : D := .obj 30 [.int f.c, .tup (f.ts.map Tm.d)]
abbrev kys (A : List Tm) : List Key := A.map fun x => .inr x.n
abbrev vls (A : List Tm) : List D := A.map Tm.v
abbrev nms (A : List Tm) : List Str := A.map Tm.n
def fnd (A : List Tm) (n : Str) : Option Tm := A.find? fun x => decide (x.n = n)
theorem fnd_cons {x : Tm} {A : List Tm} {n : Str} : fnd (x :: A) n = if x.n = n then some x else fnd A n := by
  unfold fnd
  rw [List.find?_cons]
  by_cases h : x.n = n
  · simp [h]
  · simp [h]
theorem fnd_none {A : List Tm} {n : Str} : fnd A n = none ↔ n ∉ nms A := by
  unfold fnd
  rw [List.find?_eq_none]
  simp only [decide_eq_true_eq, List.mem_map, not_exists, not_and]
theorem fnd_some {A : List Tm} {n : Str} {x : Tm} (h : fnd A n = some x) : x ∈ A ∧ x.n = n := by
  unfold fnd at h
  exact ⟨List.mem_of_find?_eq_some h, by simpa using List.find?_some h⟩
theorem fnd_mem : ∀ {A : List Tm} {x : Tm}, (nms A).Nodup → x ∈ A → fnd A x.n = some x
  | y :: A, x, h, hx => by
    have h1 := List.nodup_cons.mp (show (y.n :: nms A).Nodup from h)
    rw [fnd_cons]
    rcases List.mem_cons.mp hx with e | e
    · rw [e, if_pos rfl]
    · rw [if_neg fun q => h1.1 (by rw [q]; exact List.mem_map_of_mem e), fnd_mem h1.2 e]
theorem look_fnd : ∀ (A : List Tm) (n : Str), look (kys A) (vls A) (.inr n) = (fnd A n).map Tm.v
  | [], _ => rfl
  | x :: A, n => by
    show (if (Sum.inr x.n : Key) = .inr n then some x.v else look (kys A) (vls A) (.inr n)) = _
    rw [fnd_cons]
    by_cases h : x.n = n
    · simp [h]
    · have : ¬ (Sum.inr x.n : Key) = .inr n := fun e => h (Sum.inr.inj e)
      rw [if_neg this, if_neg h, look_fnd A n]
/-- the dict with the term stored -/
def rpl : List Tm → Tm → List Tm
  | [], _ => []
  | y :: A, x => (if y.n = x.n then x else y) :: rpl A x
def putA (A : List Tm) (x : Tm) : List Tm := if x.n ∈ nms A then rpl A x else A ++ [x]
theorem rpl_kys : ∀ (A : List Tm) (x : Tm), nms (rpl A x) = nms A
  | [], _ => rfl
  | y :: A, x => by
    show (if y.n = x.n then x else y).n :: nms (rpl A x) = _
    rw [rpl_kys A x]
    by_cases h : y.n = x.n
    · rw [if_pos h, ← h]; rfl
    · rw [if_neg h]; rfl
theorem rep_rpl : ∀ (A : List Tm) (x : Tm), rep (kys A) (vls A) (.inr x.n) x.v = vls (rpl A x)
  | [], _ => rfl
  | y :: A, x => by
    show (if (Sum.inr y.n : Key) = .inr x.n then x.v else y.v) :: rep (kys A) (vls A) (.inr x.n) x.v = _
    rw [rep_rpl A x]
    by_cases h : y.n = x.n
    · rw [if_pos (by rw [h])]
      show _ = (if y.n = x.n then x else y).v :: vls (rpl A x)
      rw [if_pos h]
    · rw [if_neg fun e => h (Sum.inr.inj e)]
      show _ = (if y.n = x.n then x else y).v :: vls (rpl A x)
      rw [if_neg h]
theorem kys_nms (A : List Tm) : kys A = (nms A).map .inr := by
  unfold kys nms
  rw [List.map_map]
  rfl
theorem put_putA (A : List Tm) (x : Tm) : put (kys A) (vls A) (.inr x.n) x.v = (kys (putA A x), vls (putA A x)) := by
  have e : (kys A).any (fun k => decide (k = .inr x.n)) = decide (x.n ∈ nms A) := by
    rw [Bool.eq_iff_iff, List.any_eq_true, decide_eq_true_iff]
    constructor
    · rintro ⟨k, hk, h⟩
      obtain ⟨y, hy, rfl⟩ := List.mem_map.mp hk
      have := Sum.inr.inj (of_decide_eq_true h)
      exact List.mem_map.mpr ⟨y, hy, this⟩
    · intro h
      obtain ⟨y, hy, e⟩ := List.mem_map.mp h
      exact ⟨.inr y.n, List.mem_map.mpr ⟨y, hy, rfl⟩, by rw [e]; simp⟩
  unfold put putA
  rw [e]
  by_cases h : x.n ∈ nms A
  · rw [if_pos (decide_eq_true h), if_pos h, rep_rpl, kys_nms (rpl A x), rpl_kys, ← kys_nms]
  · rw [if_neg (by simp [h]), if_neg h]
    simp [kys, vls]
theorem nms_putA (A : List Tm) (x : Tm) : nms (putA A x) = if x.n ∈ nms A then nms A else nms A ++ [x.n] := by
  unfold putA
  by_cases h : x.n ∈ nms A
  · rw [if_pos h, if_pos h, rpl_kys]
  · rw [if_neg h, if_neg h]; simp [nms]
theorem nodup_putA {A : List Tm} {x : Tm} (h : (nms A).Nodup) : (nms (putA A x)).Nodup := by
  rw [nms_putA]
  by_cases q : x.n ∈ nms A
  · rw [if_pos q]; exact h
  · rw [if_neg q]
    rw [List.nodup_append]
    refine ⟨h, by simp, fun a ha b hb => ?_⟩
    rw [List.mem_singleton.mp hb]
    exact fun e => q (by rw [← e]; exact ha)
theorem fnd_rpl : ∀ {A : List Tm} {x : Tm} {n : Str}, x.n ∈ nms A → fnd (rpl A x) n = if x.n = n then some x else fnd A n
  | [], x, n, h => by cases h
  | y :: A, x, n, h => by
    show fnd ((if y.n = x.n then x else y) :: rpl A x) n = _
    rw [fnd_cons, fnd_cons]
    by_cases e : y.n = x.n
    · rw [if_pos e]
      by_cases q : x.n = n
      · rw [if_pos q, if_pos q]
      · rw [if_neg q, if_neg q, if_neg (by rw [e]; exact q)]
        by_cases m : x.n ∈ nms A
        · rw [fnd_rpl m, if_neg q]
        · have : rpl A x = A := by
            clear h
            induction A with
            | nil => rfl
            | cons z A ih =>
              show (if z.n = x.n then x else z) :: rpl A x = _
              have z1 : z.n ≠ x.n := fun e => m (by rw [← e]; exact List.mem_cons_self)
              rw [if_neg z1, ih fun e => m (List.mem_cons_of_mem _ e)]
          rw [this]
    · rw [if_neg e]
      have h' : x.n ∈ nms A := by
        rcases List.mem_cons.mp
                               h with q | q
        · exact absurd q.symm e
        · exact q
      rw [fnd_rpl h']
      by_cases q : y.n = n
      · rw [if_pos q, if_pos q, if_neg fun e2 => e (q.trans e2.symm)]
      · rw [if_neg q, if_neg q]
theorem fnd_app {A B : List Tm} {n : Str} : fnd (A ++ B) n = (fnd A n).or (fnd B n) := by
  unfold fnd
  rw [List.find?_append]
theorem fnd_putA {A : List Tm} {x : Tm} {n : Str} : fnd (putA A x) n = if x.n = n then some x else fnd A n := by
  unfold putA
  by_cases h : x.n ∈ nms A
  · rw [if_pos h, fnd_rpl h]
  · rw [if_neg h, fnd_app, fnd_cons]
    by_cases q : x.n = n
    · rw [if_pos q, if_pos q, ← q, fnd_none.mpr h]; rfl
    · rw [if_neg q, if_neg q]
      cases fnd A n <;> rfl
/-- the multiple of a name -/
def co (A : List Tm) (n : Str) : Int := match fnd A n with
  | some x => x.t
  | none => 0
/-- unlike limits at a term -/
def unl (A : List Tm) (y : Tm) : Bool := match fnd A y.n with
  | some x => !decide (x.lo = y.lo ∧ x.hi = y.hi)
  | none => false
/-- the dict behind the terms of the second form, or the name of the first one with other limits -/
def mrgA (s : Int) : List Tm → List Tm → Except Str (List Tm)
  | A, [] => .ok A
  | A, y :: G => if unl A y then .error y.n else mrgA s (putA A ⟨y.n, co A y.n + s * y.t, y.lo, y.hi⟩) G
/-- the terms of a dict, in order, without those that are 0 -/
def srt (A : List Tm) : List Tm := ((sortS (nms A)).filterMap (fnd A)).filter fun x => x.t != 0
def mrg (f g : Fm) (s : Int) : Except Str Fm := match mrgA s f.ts g.ts with
  | .ok A => .ok ⟨f.c + s * g.c, srt A⟩
  | .error n => .error n
end FM

namespace FM
def nz (x : Tm) : Bool := x.t != 0
/-- in order, no multiple is 0 -/
structure Can (ts : List Tm) : Prop where
  o : Ord (nms ts)
  z : ∀ x ∈ ts, x.t ≠ 0
theorem Can.nd {ts : List Tm} (h : Can ts) : (nms ts).Nodup := h.o.nodup
theorem can_nil : Can [] := ⟨List.Pairwise.nil, by simp⟩
theorem nms_filterMap : ∀ {A : List Tm} {l : List Str}, (∀ n ∈ l, n ∈ nms A) → nms (l.filterMap (fnd A)) = l
  | A, [], _ => rfl
  | A, n :: l, h => by
    cases e : fnd A n with
    | none => exact absurd (h n List.mem_cons_self) (fnd_none.mp e)
    | some x =>
      rw [List.filterMap_cons_some e]
      show x.n :: nms _ = _
      rw [(fnd_some e).2, nms_filterMap fun m hm => h m (List.mem_cons_of_mem _ hm)]
theorem srt_can {A : List Tm} (h : (nms A).Nodup) : Can (srt A) := by
  constructor
  · have h1 : nms ((sortS (nms A)).filterMap (fnd A)) = sortS (nms A) := nms_filterMap fun n hn => mem_sortS.mp hn
    have h2 : Ord (nms ((sortS (nms A)).filterMap (fnd A))) := by rw [h1]; exact sortS_ord h
    exact List.Pairwise.sublist (List.Sublist.map _ List.filter_sublist) h2
  · intro x hx
    have := (List.mem_filter.mp hx).2
    simpa using this
theorem fnd_filter : ∀ {A : List Tm} {n : Str}, (nms A).Nodup → fnd (A.filter nz) n = (fnd A n).filter nz
  | [], n, _ => rfl
  | x :: A, n, h => by
    have h1 := List.nodup_cons.mp (show (x.n :: nms A).Nodup from h)
    by_cases q : nz x = true
    · rw [List.filter_cons_of_pos q, fnd_cons, fnd_cons, fnd_filter h1.2]
      by_cases e : x.n = n
      · rw [if_pos e, if_pos e, Option.filter_some, if_pos q]
      · rw [if_neg e, if_neg e]
    · rw [List.filter_cons_of_neg q, fnd_cons, fnd_filter h1.2]
      by_cases e : x.n = n
      · rw [if_pos e, Option.filter_some, if_neg q, ← e, fnd_none.mpr h1.1]
        rfl
      · rw [if_neg e]
theorem fnd_sorted {A : List Tm} {n : Str} : fnd ((sortS (nms A)).filterMap (fnd A)) n = fnd A n := by
  have go : ∀ l : List Str, fnd (l.filterMap (fnd A)) n = if n ∈ l then fnd A n else none := by
    intro l
    induction l with
    | nil => rfl
    | cons m l ih =>
      cases e : fnd A m with
      | none =>
        rw [List.filterMap_cons_none e, ih]
        by_cases q : n = m
        · subst q
          rw [e]
          simp
        · simp [q]
      | some x =>
        rw [List.filterMap_cons_some e, fnd_cons, ih, (fnd_some e).2]
        by_cases q : m = n
        · subst q
          simp [e]
        · have : ¬ n = m := fun e => q e.symm
          simp [q, this]
  rw [go]
  by_cases q : n ∈ nms A
  · rw [if_pos (mem_sortS.mpr q)]
  · rw [if_neg fun h => q (mem_sortS.mp h), fnd_none.mpr q]
theorem fnd_srt {A : List Tm} {n : Str} (h : (nms A).Nodup) : fnd (srt A) n = (fnd A n).filter nz := by
  have h1 : nms ((sortS (nms A)).filterMap (fnd A)) = sortS (nms A) := nms_filterMap fun n hn => mem_sortS.mp hn
  have h2 : (nms ((sortS (nms A)).filterMap (fnd A))).Nodup := by rw [h1]; exact (sortS_ord h).nodup
  show fnd (List.filter nz _) n = _
  rw [fnd_filter h2, fnd_sorted]
theorem can_ext : ∀ {A B : List Tm}, Can A → Can B → (∀ n, fnd A n = fnd B n) → A = B := by
  intro A B h1 h2 h
  have e : nms A = nms B := ord_ext h1.o h2.o fun x => by
    have := h x
    constructor
    · intro hx
      rcases Decidable.em (x ∈ nms B) with q | q
      · exact q
      · rw [fnd_none.mpr q] at this
        exact absurd hx (fnd_none.mp this)
    · intro hx
      rcases Decidable.em (x ∈ nms A) with q | q
      · exact q
      · rw [fnd_none.mpr q] at this
        exact absurd hx (fnd_none.mp this.symm)
  have go : ∀ {A B : List Tm}, nms A = nms B → (nms A).Nodup → (∀ n, fnd A n = fnd B n) → A = B := by
    intro A
    induction A with
    | nil => intro B e _ _; cases B with
      | nil => rfl
      | cons y B => cases e
    | cons x A ih =>
      intro B e hn hf
      cases B with
      | nil => cases e
      | cons y B =>
        have e : x.n :: nms A = y.n :: nms B := e
        rw [List.cons.injEq] at e
        have hn1 := List.nodup_cons.mp (show (x.n :: nms A).Nodup from hn)
        have exy : x = y := by
          have := hf x.n
          rw [fnd_cons, fnd_cons, if_pos rfl, if_pos e.1.symm] at this
          exact Option.some.inj this
        rw [exy, ih e.2 hn1.2 fun n => ?_]
        have := hf n
        rw [fnd_cons, fnd_cons, exy] at this
        by_cases q : y.n = n
        · have q1 : n ∉ nms A := by rw [← q, ← e.1]; exact hn1.1
          have q2 : n ∉ nms B := by rw [← e.2]; exact q1
          rw [fnd_none.mpr q1, fnd_none.mpr q2]
        · rwa [if_neg q, if_neg q] at this
  exact go e h1.nd h
/-- the sum at a name -/
def cmbO (s : Int) : Option Tm → Option Tm → Option Tm
  | none, none => none
  | some x, none => some x
  | none, some y => some ⟨y.n, s * y.t, y.lo, y.hi⟩
  | some x, some y => some ⟨y.n, x.t + s * y.t, y.lo, y.hi⟩
/-- no measure of both has unlike limits -/
def Like (A B : List Tm) : Prop := ∀ y ∈ B, unl A y = false
theorem unl_putA {A : List Tm} {x y : Tm} (h : x.n ≠ y.n) : unl (putA A x) y = unl A y := by
  unfold unl
  rw [fnd_putA, if_neg h]
theorem mrgA_ok {s : Int} : ∀ {B A : List Tm}, (nms A).Nodup → (nms B).Nodup → Like A B → ∃ C, mrgA s A B = .ok C ∧ (nms C).Nodup ∧ ∀ n, fnd C n = cmbO s (fnd A n) (fnd B n)
  | [], A, h1, _, _ => ⟨A, rfl, h1, fun n => by
    show _ = cmbO s (fnd A n) none
    cases fnd A n <;> rfl⟩
  | y :: B, A, h1, h2, hl => by
    have h3 := List.nodup_cons.mp (show (y.n :: nms B).Nodup from h2)
    have u := hl y List.mem_cons_self
    obtain ⟨C, e1, e2, e3⟩ := mrgA_ok (s := s) (B := B) (A := putA A ⟨y.n, co A y.n + s * y.t, y.lo, y.hi⟩) (nodup_putA h1) h3.2 fun z hz => by
      rw [unl_putA]
      · exact hl z (List.mem_cons_of_mem _ hz)
      · intro e
        refine h3.1 ?_
        rw [show y.n = z.n from e]
        exact List.mem_map_of_mem hz
    refine ⟨C, by rw [mrgA, if_neg (by rw [u]; simp), e1], e2, fun n => ?_⟩
    rw [e3, fnd_putA, fnd_cons]
    by_cases q : y.n = n
    · subst q
      rw [if_pos rfl, if_pos rfl, fnd_none.mpr h3.1]
      unfold co
      cases fnd A y.n with
      | none => show some _ = some _; rw [Int.zero_add]
      | some x => rfl
    · rw [if_neg q, if_neg q]
theorem mrg_ok {f g : Fm} {s : Int} (h1 : Can f.ts) (h2 : Can g.ts) (hl : Like f.ts g.ts) : ∃ h, mrg f g s = .ok h ∧ Can h.ts ∧ h.c = f.c + s * g.c ∧ ∀ n, fnd h.ts n = (cmbO s (fnd f.ts n) (fnd g.ts n)).filter nz := by
  obtain ⟨C, e1, e2, e3⟩ := mrgA_ok (s := s) h1.nd h2.nd hl
  refine ⟨⟨f.c + s * g.c, srt C⟩, by unfold mrg; rw [e1], srt_can e2, rfl, fun n => ?_⟩
  rw [fnd_srt e2, e3]
/-- what a sum must be -/
theorem mrg_is {f g h : Fm} {s : Int} (h1 : Can f.ts) (h2 : Can g.ts) (hl : Like f.ts g.ts) (h3 : Can h.ts) (hc : h.c = f.c + s * g.c) (hf : ∀ n, fnd h.ts n = (cmbO s (fnd f.ts n) (fnd g.ts n)).filter nz) : mrg f g s = .ok h := by
  obtain ⟨h', e1, e2, e3, e4⟩ := mrg_ok (s := s) h1 h2 hl
  rw [e1]
  obtain ⟨c, ts⟩ := h
  obtain ⟨c', ts'⟩ := h'
  simp only at *
  rw [can_ext e2 h3 fun n => by rw [e4, hf], e3, hc]
def zA : List Str → List Int → List (Int × Int) → List Tm
  | n :: ns, t :: ts, p :: sp => ⟨n, t, p.1, p.2⟩ :: zA ns ts sp
  | _, _, _ => []
def cF (ns : List Str) (sp : List (Int × Int)) (c : Int) (ts : List Int) : Fm := ⟨c, srt (zA ns ts sp)⟩
theorem nms_zA : ∀ {ns : List Str} {ts : List Int} {sp : List (Int × Int)}, ns.length = ts.length → ns.length = sp.length → nms (zA ns ts sp) = ns
  | [], _, _, _, _ => by unfold zA; rfl
  | n :: ns, t :: ts, p :: sp, h1, h2 => by
    show n :: nms (zA ns ts sp) = _
    rw [nms_zA (by simpa using h1) (by simpa using h2)]
theorem fnd_zA_lim : ∀ {ns : List Str} {ts us : List Int} {sp : List (Int × Int)} {n : Str} {x y : Tm}, fnd (zA ns ts sp) n = some x → fnd (zA ns us sp) n = some y → x.lo = y.lo ∧ x.hi = y.hi
  | [], ts, us, sp, n, x, y, h1, h2 => by unfold zA at h1; cases h1
  | m :: ns, [], us, sp, n, x, y, h1, h2 => by unfold zA at h1; cases h1
  | m :: ns, t :: ts, [], sp, n, x, y, h1, h2 => by unfold zA at h2; cases h2
  | m :: ns, t :: ts, u :: us, [], n, x, y, h1, h2 => by unfold zA at h2; cases h2
  | m :: ns, t :: ts, u :: us, p :: sp, n, x, y, h1, h2 => by
    unfold zA at h1 h2
    rw [fnd_cons] at h1 h2
    by_cases q : m = n
    · rw [if_pos q] at h1 h2
      cases h1; cases h2
      exact ⟨rfl, rfl⟩
    · rw [if_neg q] at h1 h2
      exact fnd_zA_lim h1 h2
theorem cmb_zA {s : Int} : ∀ {ns : List Str} {ts us : List Int} {sp : List (Int × Int)} {n : Str}, ns.length = ts.length → ns.length = us.length → ns.length = sp.length →
    (cmbO s ((fnd (zA ns ts sp) n).filter nz) ((fnd (zA ns us sp) n).filter nz)).filter nz = (fnd (zA ns (List.zipWith (fun a b => a + s * b) ts us) sp) n).filter nz
  | [], _, _, _, _, _, _, _ => by unfold zA; rfl
  | m :: ns, t :: ts, u :: us, p :: sp, n, h1, h2, h3 => by
    rw [List.zipWith_cons_cons]
    unfold zA
    rw [fnd_cons, fnd_cons, fnd_cons]
    by_cases q : m = n
    · rw [if_pos q,
                   if_pos q, if_pos q]
      by_cases z1 : t = 0 <;> by_cases z2 : u = 0
      all_goals simp [Option.filter_some, nz, z1, z2, cmbO]
    · rw [if_neg q,
                   if_neg q, if_neg q]
      exact cmb_zA (by simpa using h1) (by simpa using h2) (by simpa using h3)
section
variable {ns : List Str} {sp : List (Int × Int)} {ts us : List Int} {c d s : Int}
theorem cF_can (hn : ns.Nodup) (h1 : ns.length = ts.length) (h3 : ns.length = sp.length) : Can (cF ns sp c ts).ts := srt_can (by rw [nms_zA h1 h3]; exact hn)
theorem fnd_cF (hn : ns.Nodup) (h1 : ns.length = ts.length) (h3 : ns.length = sp.length) (n : Str) : fnd (cF ns sp c ts).ts n = (fnd (zA ns ts sp) n).filter nz := fnd_srt (by rw [nms_zA h1 h3]; exact hn)
theorem cF_like (hn : ns.Nodup) (h1 : ns.length = ts.length) (h2 : ns.length = us.length) (h3 : ns.length = sp.length) : Like (cF ns sp c ts).ts (cF ns sp d us).ts := by
  intro y hy
  unfold unl
  have e1 := fnd_mem (cF_can hn h2 h3).nd hy
  rw [fnd_cF hn h2 h3] at e1
  rw [fnd_cF hn h1 h3]
  cases q1 : fnd (zA ns ts sp) y.n with
  | none => rfl
  | some x =>
    cases q2 : fnd (zA ns us sp) y.n with
    | none => rw [q2] at e1; cases e1
    | some z =>
      rw [q2, Option.filter_some] at e1
      split at e1
      · cases e1
        have := fnd_zA_lim q1 q2
        by_cases w : nz x = true
        · rw [Option.filter_some, if_pos w]
          simp [this.1, this.2]
        · rw [Option.filter_some, if_neg w]
      · cases e1
theorem mrg_cF (hn : ns.Nodup) (h1 : ns.length = ts.length) (h2 : ns.length = us.length) (h3 : ns.length = sp.length) : mrg (cF ns sp c ts) (cF ns sp d us) s = .ok (cF ns sp (c + s * d) (List.zipWith (fun a b => a + s * b) ts us)) := by
  have h4 : ns.length = (List.zipWith (fun a b => a + s * b) ts us).length := by rw [List.length_zipWith]; omega
  refine mrg_is (cF_can hn h1 h3) (cF_can hn h2 h3) (cF_like hn h1 h2 h3) (cF_can hn h4 h3) rfl fun n => ?_
  rw [fnd_cF hn h4 h3, fnd_cF hn h1 h3, fnd_cF hn h2 h3, cmb_zA h1 h2 h3]
end
end FM

namespace VE
def plN : Nat → D → Bool
  | _, .int _ => true
  | _, .non => true
  | _, .str s => PyData.strOk s
  | n + 1, .tup xs => xs.all (plN n)
  | n + 1, .lst xs => xs.all (plN n)
  | _, _ => false
theorem plN_succ : ∀ (n : Nat) (d : D), plN n d = true → plN (n + 1) d = true
  | 0, d, h => by cases d <;> simp [plN] at h ⊢ <;> exact h
  | n + 1, d, h => by
    cases d
    case tup xs =>
      simp only [plN, List.all_eq_true] at h ⊢
      exact fun x hx => plN_succ n x (h x hx)
    case lst xs =>
      simp only [plN, List.all_eq_true] at h ⊢
      exact fun x hx => plN_succ n x (h x hx)
    all_goals simp [plN] at h ⊢
    exact h
theorem plN_le {n m : Nat} {d : D} (h : plN n d = true) (hm : n ≤ m) : plN m d = true := by
  induction hm with
  | refl => exact h
  | step _ ih => exact plN_succ _ _ ih
theorem pys_all {n : Nat} (H : ∀ d, plN n d = true → ∃ p, d.py = some p ∧ p.canLay0 = true ∧ p.depth ≤ n + 1) : ∀ xs : List D, xs.all (plN n) = true → ∃ ps, D.pys xs = some ps ∧ PyData.canLayAll0 ps = true ∧ PyData.depthAll ps ≤ n + 1
  | [], _ => ⟨[], rfl, rfl, by simp [PyData.depthAll]⟩
  | x :: xs, h => by
    rw [List.all_cons,
                      Bool.and_eq_true] at h
    obtain ⟨p, h1, h2, h3⟩ := H x h.1
    obtain ⟨ps, g1, g2, g3⟩ := pys_all H xs h.2
    refine ⟨p :: ps, by rw [D.pys, h1, g1], by rw [PyData.canLayAll0, h2, g2]; rfl, ?_⟩
    rw [PyData.depthAll]
    omega
theorem py_pl : ∀ (n : Nat) (d : D), plN n d = true → ∃ p, d.py = some p ∧ p.canLay0 = true ∧ p.depth ≤ n + 1 := by
  intro n
  induction n with
  | zero =>
    intro d h
    cases d <;> simp [plN] at h
    · exact ⟨.none, by rw [D.py], by rw [PyData.canLay0], by rw [PyData.depth] <;> simp⟩
    · exact ⟨_, by rw [D.py], by rw [PyData.canLay0], by rw [PyData.depth] <;> simp⟩
    · exact ⟨_, by rw [D.py], by rw [PyData.canLay0]; exact h, by rw [PyData.depth] <;> simp⟩
  | succ n ih =>
    intro d h
    cases d <;> simp only [plN, Bool.false_eq_true] at h
    · exact ⟨.none, by rw [D.py], by rw [PyData.canLay0], by rw [PyData.depth] <;> simp⟩
    · exact ⟨_, by rw [D.py], by rw [PyData.canLay0], by rw [PyData.depth] <;> simp⟩
    · exact ⟨_, by rw [D.py], by rw [PyData.canLay0]; exact h, by rw [PyData.depth] <;> simp⟩
    · obtain ⟨ps, h1, h2, h3⟩ := pys_all ih _ h
      exact ⟨.tuple ps, by rw [D.py, h1]; rfl, by rw [PyData.canLay0]; exact h2, by rw [PyData.depth]; omega⟩
    · obtain ⟨ps, h1, h2, h3⟩ := pys_all ih _ h
      exact ⟨.list ps, by rw [D.py, h1]; rfl, by rw [PyData.canLay0]; exact h2, by rw [PyData.depth]; omega⟩
theorem py_non : D.py .non = some .none := by rw [D.py]
theorem py_int (i : Int) : D.py (.int i) = some (.int i) := by rw [D.py]
theorem py_str (i : Str) : D.py (.str i) = some (.str i) := by rw [D.py]
theorem py_tup (xs : List D) : D.py (.tup xs) = (D.pys xs).map .tuple := by rw [D.py]
theorem py_lst (xs : List D) : D.py (.lst xs) = (D.pys xs).map .list := by rw [D.py]
theorem pys_nil : D.pys [] = some [] := by rw [D.pys]
theorem pys_cons {x : D} {xs : List D} {ps : List PyData} (h : D.pys (x :: xs) = some ps) : ∃ q qs, D.py x = some q ∧ D.pys xs = some qs ∧ ps = q :: qs := by
  rw [D.pys] at h
  cases e1 : D.py x with
  | none => rw [e1] at h; cases h
  | some q => cases e2 : D.pys xs with
    | none => rw [e1, e2] at h; cases h
    | some qs =>
      rw [e1, e2] at h
      cases h
      exact ⟨q, qs, rfl, rfl, rfl⟩
theorem eqv_all {n : Nat} (H : ∀ a b p q, plN n a = true → plN n b = true → a.py = some p → b.py = some q → (PyData.eqv p q = true ↔ a = b)) : ∀ (xs ys : List D) (ps qs : List PyData), xs.all (plN n) = true → ys.all (plN n) = true → D.pys xs = some ps → D.pys ys = some qs → (PyData.eqvAll ps qs = true ↔ xs = ys)
  | [], [], ps, qs, _, _, h3, h4 => by
    rw [pys_nil] at h3 h4
    cases h3; cases h4
    simp [PyData.eqvAll]
  | [], y :: ys, ps, qs, _, h2, h3, h4 => by
    rw [pys_nil] at h3
    obtain ⟨q, qs', e1, e2, rfl⟩ := pys_cons h4
    cases h3
    simp [PyData.eqvAll]
  | x :: xs, [], ps, qs, _, h2, h3, h4 => by
    rw [pys_nil] at h4
    obtain ⟨q, qs', e1, e2, rfl⟩ := pys_cons h3
    cases h4
    simp [PyData.eqvAll]
  | x :: xs, y :: ys, ps, qs, h1, h2, h3, h4 => by
    rw [List.all_cons, Bool.and_eq_true] at h1 h2
    obtain ⟨p, ps', e1, e2, rfl⟩ := pys_cons h3
    obtain ⟨q, qs', e3, e4, rfl⟩ := pys_cons h4
    rw [PyData.eqvAll, Bool.and_eq_true, H x y p q h1.1 h2.1 e1 e3, eqv_all H xs ys _ _ h1.2 h2.2 e2 e4, List.cons.injEq]
theorem eqv_pl : ∀ (n : Nat) (a b : D) (p q : PyData), plN n a = true → plN n b = true → a.py = some p → b.py = some q → (PyData.eqv p q = true ↔ a = b) := by
  intro n
  induction n with
  | zero =>
    intro a b p q h1 h2 h3 h4
    cases a <;> simp only [plN, Bool.false_eq_true] at h1 <;> cases b <;> simp only [plN, Bool.false_eq_true] at h2 <;> simp only [py_non, py_int, py_str] at h3 h4 <;> cases h3 <;> cases h4 <;> simp [PyData.eqv]
  | succ n ih =>
    intro a b p q h1 h2 h3 h4
    cases a <;> simp only [plN, Bool.false_eq_true] at h1 <;> cases b <;> simp only [plN, Bool.false_eq_true] at h2 <;> simp only [py_non, py_int, py_str, py_tup, py_lst] at h3 h4
    case tup.tup xs ys =>
      cases e1 : D.pys xs <;> rw [e1] at h3 <;> cases h3
      cases e2 : D.pys ys <;> rw [e2] at h4 <;> cases h4
      rw [PyData.eqv, eqv_all ih xs ys _ _ h1 h2 e1 e2, D.tup.injEq]
    case lst.lst xs ys =>
      cases e1 : D.pys xs <;> rw [e1] at h3 <;> cases h3
      cases e2 : D.pys ys <;> rw [e2] at h4 <;> cases h4
      rw [PyData.eqv, eqv_all ih xs ys _ _ h1 h2 e1 e2, D.lst.injEq]
    all_goals first
      | (cases h3; cases h4; simp [PyData.eqv]; done)
      | (obtain ⟨z, e1, e2⟩ := Option.map_eq_some_iff.mp h3; cases h4; rw [← e2]; simp [PyData.eqv]; done)
      | (obtain ⟨z, e1, e2⟩ := Option.map_eq_some_iff.mp h4; cases h3; rw [← e2]; simp [PyData.eqv]; done)
      | (obtain ⟨z, e1, e2⟩ := Option.map_eq_some_iff.mp h3; obtain ⟨z', e1', e2'⟩ := Option.map_eq_some_iff.mp h4; rw [← e2, ← e2']; simp [PyData.eqv]; done)
open Classical in
theorem eqD_pl {n : Nat} {a b : D} (h1 : plN n a = true) (h2 : plN n b = true) (hn : n ≤ 60) : eqD a b = some (decide (a = b)) := by
  obtain ⟨p, e1, l1, d1⟩ := py_pl n a h1
  obtain ⟨q, e2, l2, d2⟩ := py_pl n b h2
  unfold eqD
  rw [e1, e2]
  have s1 : SeqAt.shaped p = true := by
    unfold SeqAt.shaped
    rw [l1, Bool.true_and]
    exact decide_eq_true
                        (by omega)
  have s2 : SeqAt.shaped q = true := by
    unfold SeqAt.shaped
    rw [l2, Bool.true_and]
    exact decide_eq_true
                        (by omega)
  simp only [s1, s2, Bool.and_self, if_true]
  congr 1
  rw [Bool.eq_iff_iff, eqv_pl n a b p q h1 h2 e1 e2, decide_eq_true_iff]
theorem eqD_t {n : Nat} {a b : D} (h1 : plN n a = true) (hn : n ≤ 60) (e : a = b) : eqD a b = some true := by
  subst e
  rw [eqD_pl h1 h1 hn]; simp
theorem eqD_f {n : Nat} {a b : D} (h1 : plN n a = true) (h2 : plN n b = true) (hn : n ≤ 60) (e : a ≠ b) : eqD a b = some false := by
  rw [eqD_pl h1 h2 hn]; simp [e]
open Classical in
theorem inP_pl {n : Nat} {x : D} {xs : List D} (h1 : plN n x = true) (h2 : xs.all (plN n) = true) (hn : n ≤ 60) : inP x xs = some (decide (x ∈ xs)) := by
  obtain ⟨p, e1, l1, d1⟩ := py_pl n x h1
  obtain ⟨ps, e2, l2, d2⟩ := pys_all (py_pl n) xs h2
  unfold inP
  rw [e1, e2]
  have s1 : SeqAt.shaped p = true := by
    unfold SeqAt.shaped
    rw [l1, Bool.true_and]
    exact decide_eq_true
                        (by omega)
  have s2 : SeqAt.shaped (.list ps) = true := by
    unfold SeqAt.shaped
    rw [PyData.canLay0, l2, Bool.true_and, PyData.depth]
    exact decide_eq_true
                        (by omega)
  simp only [s1, s2, Bool.and_self, if_true]
  congr 1
  have go : ∀ (xs : List D) (ps : List PyData), xs.all (plN n) = true → D.pys xs = some ps → ((ps.any fun z => PyData.eqv z p) = true ↔ x ∈ xs) := by
    intro xs
    induction xs with
    | nil => intro ps _ h; rw [D.pys] at h; cases h; simp
    | cons y xs ih =>
      intro ps h3 h4
      rw [List.all_cons, Bool.and_eq_true] at h3
      obtain ⟨q, qs, e3, e4, rfl⟩ := pys_cons h4
      · rw [List.any_cons, Bool.or_eq_true, ih qs h3.2 e4, eqv_pl n y x q p h3.1 h1 e3 e1, List.mem_cons]
        constructor
        · rintro (e | e)
          · exact .inl e.symm
          · exact .inr e
        · rintro (e | e)
          · exact .inl e.symm
          · exact .inr e
  rw [Bool.eq_iff_iff, go xs ps h2 e2, decide_eq_true_iff]
theorem all_str {n : Nat} {ss : List Str} (h : ∀ s ∈ ss, PyData.strOk s = true) : (ss.map D.str).all (plN n) = true := by
  rw [List.all_eq_true]
  intro d hd
  obtain ⟨s, hs, rfl⟩ := List.mem_map.mp hd
  unfold plN
  exact h s hs
open Classical in
theorem inP_str {x : Str} {ss : List Str} (h1 : PyData.strOk x = true) (h2 : ∀ s ∈ ss, PyData.strOk s = true) : inP (.str x) (ss.map D.str) = some (decide (x ∈ ss)) := by
  rw [inP_pl (n := 0) (by unfold plN; exact h1) (all_str h2) (by omega)]
  congr 1
  rw [Bool.eq_iff_iff, decide_eq_true_iff, decide_eq_true_iff]
  constructor
  · intro h
    obtain ⟨s, hs, e⟩ := List.mem_map.mp h
    cases e; exact hs
  · exact fun h => List.mem_map_of_mem h
/-- the place of a text in a list of texts -/
theorem indexP_str {x : Str} {ss : List Str} (h1 : PyData.strOk x = true) (h2 : ∀ s ∈ ss, PyData.strOk s = true) (hm : x ∈ ss) : indexP (.str x) (ss.map D.str) = some (ss.idxOf x) := by
  obtain ⟨p, e1, l1, d1⟩ := py_pl 0 (.str x) (by unfold plN; exact h1)
  obtain ⟨ps, e2, l2, d2⟩ := pys_all (py_pl 0) (ss.map D.str) (all_str h2)
  unfold indexP
  rw [e1, e2]
  have s1 : SeqAt.shaped p = true := by
    unfold SeqAt.shaped
    rw [l1, Bool.true_and]
    exact decide_eq_true
                        (by omega)
  have s2 : SeqAt.shaped (.list ps) = true := by
    unfold SeqAt.shaped
    rw [PyData.canLay0, l2, Bool.true_and, PyData.depth]
    exact decide_eq_true
                        (by omega)
  simp only [s1, s2, Bool.and_self, if_true]
  have go : ∀ (ss : List Str) (ps : List PyData) (n : Nat), (∀ s ∈ ss, PyData.strOk s = true) → x ∈ ss → D.pys (ss.map D.str) = some ps → firstP p ps n = some (n + ss.idxOf x) := by
    intro ss
    induction ss with
    | nil => intro ps n _ h; cases h
    | cons y ss ih =>
      intro ps n h3 hm h4
      rw [List.map_cons] at h4
      obtain ⟨q, qs, e3, e4, rfl⟩ := pys_cons h4
      · rw [firstP]
        have q1 := eqv_pl 0 (.str y) (.str x) q p (by unfold plN; exact h3 y List.mem_cons_self) (by unfold plN; exact h1) e3 e1
        by_cases e : y = x
        · subst e
          rw [if_pos (q1.mpr rfl)]
          simp
        · have q2 : ¬ PyData.eqv q p = true := fun h => e (D.str.inj (q1.mp h))
          rw [if_neg q2, ih qs (n + 1) (fun s hs => h3 s (List.mem_cons_of_mem _ hs)) (by
            rcases List.mem_cons.mp hm with w | w
            · exact absurd w.symm e
            · exact w) e4, List.idxOf_cons]
          have : (y == x) = false := by simpa using e
          rw [this]
          simp
          omega
  rw [go ss ps 0 h2 hm e2]
  simp
end VE
namespace VE
theorem pys_bl : ∀ bs : List Bool, D.pys (bs.map D.bl) = some (bs.map PyData.bool)
  | [] => by rw [List.map_nil, D.pys]; rfl
  | b :: bs => by
    rw [List.map_cons, D.pys, pys_bl bs, D.py]
    rfl
theorem lay_bl : ∀ bs : List Bool, PyData.canLayAll0 (bs.map PyData.bool) = true ∧ PyData.depthAll (bs.map PyData.bool) = 0
  | [] => ⟨by rw [List.map_nil, PyData.canLayAll0], by rw [List.map_nil, PyData.depthAll]⟩
  | b :: bs => by
    rw [List.map_cons, PyData.canLayAll0, PyData.depthAll, (lay_bl bs).1, (lay_bl bs).2, PyData.canLay0, PyData.depth]
    exact ⟨rfl, rfl⟩
theorem inP_bl (x : Bool) (bs : List Bool) : inP (.bl x) (bs.map D.bl) = some (decide (x ∈ bs)) := by
  unfold inP
  rw [pys_bl, D.py]
  have s1 : SeqAt.shaped (.bool x) = true := by
    unfold SeqAt.shaped
    rw [PyData.canLay0, PyData.depth]
    rfl
  have s2 : SeqAt.shaped (.list (bs.map PyData.bool)) = true := by
    unfold SeqAt.shaped
    rw [PyData.canLay0, (lay_bl bs).1, PyData.depth, (lay_bl bs).2]
    rfl
  simp only [s1, s2, Bool.and_self, if_true]
  congr 1
  rw [List.any_map, Bool.eq_iff_iff, List.any_eq_true, decide_eq_true_iff]
  constructor
  · rintro ⟨z, hz, e⟩
    have e : PyData.eqv (.bool z) (.bool x) = true := e
    rw [PyData.eqv] at e
    have : z = x := by simpa using e
    rw [← this]; exact hz
  · intro h
    refine ⟨x, h, ?_⟩
    show PyData.eqv (.bool x) (.bool x) = true
    rw [PyData.eqv]
    simp
end VE
namespace VE
theorem eqD_bb (a b : Bool) : eqD (.bl a) (.bl b) = some (a == b) := by
  unfold eqD
  rw [D.py, D.py]
  have s : ∀ x : Bool, SeqAt.shaped (.bool x) = true := fun x => by
    unfold SeqAt.shaped
    rw [PyData.canLay0, PyData.depth]
    rfl
  simp only [s, Bool.and_self, if_true]
  rw [PyData.eqv]
end VE
namespace VE
theorem eqD_bs (a : Bool) : eqD (.bl a) (.bl a) = some true := by
  rw [eqD_bb, beq_self_eq_true]
end VE

namespace VN
/-- a single letter -/
def Lt (z : Str) : Prop := ∃ c ∈ LT.cps.toList, z = ⟨#[c]⟩
theorem lt_small : ∀ c ∈ LT.cps.toList, c < 128 := by decide +kernel
theorem Lw.ok {s : Str} (h : Lw s) : PyData.strOk s = true := by
  unfold PyData.strOk
  rw [Array.all_eq_true]
  intro i hi
  have : s.cps[i] < 128 := lt_small _ (h _ (by simp))
  simp only [decide_eq_true_eq]
  omega
theorem Lt.w {z : Str} (h : Lt z) : Lw z := by
  obtain ⟨c, hc, rfl⟩ := h
  exact Lw.one hc
theorem Lt.len {z : Str} (h : Lt z) : z.length = 1 := by
  obtain ⟨c, hc, rfl⟩ := h
  rfl
theorem lt_at {r : Int} (h0 : 0 ≤ r) (h1 : r < 26) : ∃ c, LT.cps.toList[r.toNat]? = some c ∧ Lt ⟨#[c]⟩ := by
  have hl : LT.cps.toList.length = 26 := by decide +kernel
  have hn : r.toNat < LT.cps.toList.length := by rw [hl]; omega
  exact ⟨LT.cps.toList[r.toNat], List.getElem?_eq_getElem hn, _, List.getElem_mem hn, rfl⟩
theorem lt_len : LT.length ≤ sizeLine := by decide +kernel
theorem nil_len : (("" : String) : Str).length = 0 := by decide +kernel
theorem x_len : XX.length = 1 := by decide +kernel
theorem x_w : Lw XX := fun c hc => by
  have e : XX.cps.toList = [120] := by decide +kernel
  rw [e] at hc
  rw [List.mem_singleton.mp hc]
  decide +kernel
theorem app_nil {x : Str} : x ++ (("" : String) : Str) = x := by
  apply list_ext
  have e : (("" : String) : Str).cps.toList = [] := by decide +kernel
  rw [app_list, e, List.append_nil]
theorem nil_app {x : Str} : (("" : String) : Str) ++ x = x := by
  apply list_ext
  have e : (("" : String) : Str).cps.toList = [] := by decide +kernel
  rw [app_list, e, List.nil_append]
theorem app_ass {x y z : Str} : (x ++ y) ++ z = x ++ (y ++ z) := by
  apply list_ext
  rw [app_list, app_list, app_list, app_list, List.append_assoc]
theorem app_can {x y z : Str} (h : x ++ y = x ++ z) : y = z := by
  apply list_ext
  have := congrArg (fun s : Str => s.cps.toList) h
  simp only [app_list] at this
  exact List.append_cancel_left this
theorem app_can' {x y z : Str} (h : y ++ x = z ++ x) : y = z := by
  apply list_ext
  have := congrArg (fun s : Str => s.cps.toList) h
  simp only [app_list] at this
  exact List.append_cancel_right this
def xs : Nat → Str
  | 0 => (("" : String) : Str)
  | n + 1 => xs n ++ XX
theorem xs_len : ∀ n, (xs n).length = n
  | 0 => nil_len
  | n + 1 => by
    rw [xs, len_app, xs_len n, x_len]
theorem xs_w : ∀ n, Lw (xs n)
  | 0 => Lw.nil
  | n + 1 => Lw.app (xs_w n) x_w
theorem nodup_len {α : Type} [DecidableEq α] : ∀ {l1 l2 : List α}, l1.Nodup → (∀ x ∈ l1, x ∈ l2) → l1.length ≤ l2.length
  | [], _, _, _ =>
                  Nat.zero_le _
  | x :: l1, l2, h, hs => by
    have h1 := List.nodup_cons.mp h
    have hx := hs x List.mem_cons_self
    have := nodup_len (l1 := l1) (l2 := l2.erase x) h1.2 fun y hy => by
      have hne : y ≠ x := fun e => h1.1 (by rw [← e]; exact hy)
      exact (List.mem_erase_of_ne hne).mpr (hs y (List.mem_cons_of_mem _ hy))
    rw [List.length_erase_of_mem hx] at this
    have hp : 0 < l2.length := List.length_pos_of_mem hx
    rw [List.length_cons]
    omega
/-- so many tries are taken at most -/
theorem tries {ns : List Str} {x : Str} {m : Nat} (h : ∀ j < m, x ++ xs j ∈ ns) : m ≤ ns.length := by
  have h1 : ((List.range m).map fun j => x ++ xs j).Nodup := by
    refine List.Pairwise.map _ (R := fun a b => a ≠ b) (fun a b hab e => hab ?_) List.nodup_range
    have := congrArg Str.length (app_can e)
    rwa [xs_len, xs_len] at this
  have := nodup_len h1 (l2 := ns) fun y hy => by
    obtain ⟨j, hj, rfl⟩ := List.mem_map.mp hy
    exact h j (List.mem_range.mp hj)
  rwa [List.length_map, List.length_range] at this
/-- a name made new -/
theorem nm_new {x : Str} {m : Nat} (hw : Lw x) (h0 : 0 < x.length) (h3 : x.length ≤ 3) (hm : m ≤ 5) : Nm (x ++ xs m) := by
  refine ⟨Lw.app hw (xs_w m), by rw [len_app]; omega, by rw [len_app, xs_len]; omega, ?_⟩
  cases m with
  | zero =>
    refine short_ne ?_
    rw [len_app, xs_len]
    omega
  | succ m =>
    rw [xs, ← app_ass]
    exact x_ne
theorem Nm.ok {s : Str} (h : Nm s) : PyData.strOk s = true := h.l.ok
theorem Nm.isN {s : Str} (h : Nm s) : (decide (0 < ((s.length : Nat) : Int)) && decide (((s.length : Nat) : Int) ≤ 8) && (s.cps.toList.map inL).all id && !decide (s = FR)) = true := by
  have h1 := h.n0
  have h2 := h.n8
  rw [h.l.all]
  have : ¬ s = FR := h.ne
  simp [this]
  omega
theorem join_w : ∀ {ys : List Str}, (∀ z ∈ ys, Lt z) → Lw (Str.join (("" : String) : Str) ys) ∧ (Str.join (("" : String) : Str) ys).length = ys.length
  | [], _ => ⟨Lw.nil, nil_len⟩
  | [x], h => ⟨(h x List.mem_cons_self).w, (h x List.mem_cons_self).len⟩
  | x :: z :: r, h => by
    have ih := join_w (ys := z :: r) fun s hs => h s (List.mem_cons_of_mem _ hs)
    have hx := h x List.mem_cons_self
    constructor
    · show Lw (x ++ _ ++ Str.join _ (z :: r))
      exact Lw.app (Lw.app hx.w Lw.nil) ih.1
    · show (x ++ _ ++ Str.join _ (z :: r)).length = _
      rw [len_app, len_app, hx.len, nil_len, ih.2]
      simp only [List.length_cons]
      omega
theorem sum_lt : ∀ {ys : List Str}, (∀ s ∈ ys, Lt s) → (ys.map (·.length)).sum = ys.length
  | [], _ => rfl
  | x :: ys, h => by
    rw [List.map_cons, List.sum_cons, (h x List.mem_cons_self).len, sum_lt fun s hs => h s (List.mem_cons_of_mem _ hs), List.length_cons]
    omega
theorem lt_nodup : LT.cps.toList.Nodup := by decide +kernel
/-- letters of unlike places -/
theorem lt_ne {i j : Nat} {c d : Nat} (hi : LT.cps.toList[i]? = some c) (hj : LT.cps.toList[j]? = some d) (h : i ≠ j) : c ≠ d := fun e => by
  subst e
  obtain ⟨h1, e1⟩ := List.getElem?_eq_some_iff.mp hi
  obtain ⟨h2, e2⟩ := List.getElem?_eq_some_iff.mp hj
  exact h ((List.getElem_inj lt_nodup).mp (e1.trans e2.symm))
end VN
namespace VN
abbrev ZZ : Str := (("zzzzzzzz" : String) : Str)
theorem zz_list : ZZ.cps.toList = [122, 122, 122, 122, 122, 122, 122, 122] := by decide +kernel
/-- no z in it -/
def Ny (s : Str) : Prop := ∀ c ∈ s.cps.toList, c ≠ 122
theorem Ny.nil : Ny (("" : String) : Str) := by
  intro c hc
  have e : (("" : String) : Str).cps.toList = [] := by decide +kernel
  rw [e] at hc
  cases hc
theorem Ny.app {x y : Str} (h1 : Ny x) (h2 : Ny y) : Ny (x ++ y) := fun c hc => by
  rw [app_list] at hc
  rcases List.mem_append.mp hc with q | q
  · exact h1 c q
  · exact h2 c q
theorem join_ny : ∀ {ys : List Str}, (∀ z ∈ ys, Ny z) → Ny (Str.join (("" : String) : Str) ys)
  | [], _ => Ny.nil
  | [x], h => h x List.mem_cons_self
  | x :: z :: r, h => by
    show Ny (x ++ _ ++ Str.join _ (z :: r))
    exact Ny.app (Ny.app (h x List.mem_cons_self) Ny.nil) (join_ny fun s hs => h s (List.mem_cons_of_mem _ hs))
theorem zz_len : ZZ.length = 8 := by decide +kernel
theorem stem_zz {s z : Str} (h : Ny s) (hz : z.length = 1) : s ++ z ≠ ZZ ∧ z ++ s ≠ ZZ := by
  have go : ∀ w : Str, w = ZZ → w.length = s.length + 1 → (∀ c ∈ s.cps.toList, c ∈ w.cps.toList) → False := fun w e hl hs => by
    rw [e, zz_len] at hl
    have hp : 0 < s.cps.toList.length := by show 0 < s.length; omega
    obtain ⟨c, hc⟩ := List.exists_mem_of_length_pos hp
    have := hs c hc
    rw [e, zz_list] at this
    exact h c hc (by simpa using this)
  refine ⟨fun e => go _ e (by rw [len_app, hz]) fun c hc => ?_, fun e => go _ e (by rw [len_app, hz]; omega) fun c hc => ?_⟩
  · rw [app_list]; exact List.mem_append_left _ hc
  · rw [app_list]; exact List.mem_append_right _ hc
theorem new_zz {x : Str} {m : Nat} (h3 : x.length ≤ 3) : x ++ xs m ≠ ZZ := fun e => by
  cases m with
  | zero =>
    have := congrArg Str.length e
    rw [len_app, xs_len, zz_len] at this
    omega
  | succ m =>
    rw [xs, ← app_ass] at e
    have z := congrArg (fun s : Str => s.cps.toList.getLast?) e
    have ex : XX.cps.toList = [120] := by decide +kernel
    rw [app_list, ex, zz_list, List.getLast?_append] at z
    simp at z
theorem lt_z {i : Nat} {c : Nat} (h : LT.cps.toList[i]? = some c) (hi : i < 25) : c ≠ 122 := by
  have e : LT.cps.toList[25]? = some 122 := by decide +kernel
  exact lt_ne h e (by omega)
end VN

namespace FM
theorem perm_sum {l1 l2 : List Int} (h : l1.Perm l2) : l1.sum = l2.sum := by
  induction h with
  | nil => rfl
  | cons x _ ih => rw [List.sum_cons, List.sum_cons, ih]
  | swap x y l => rw [List.sum_cons, List.sum_cons, List.sum_cons, List.sum_cons]; omega
  | trans _ _ ih1 ih2 => rw [ih1, ih2]
theorem insS_perm (x : Str) : ∀ l : List Str, (insS x l).Perm (x :: l)
  | [] => List.Perm.refl _
  | y :: l => by
    unfold insS
    split
    · exact List.Perm.refl _
    · exact ((insS_perm x l).cons y).trans (List.Perm.swap x y l)
theorem sortS_perm : ∀ l : List Str, (sortS l).Perm l
  | [] => List.Perm.refl _
  | x :: l => by
    unfold sortS
    exact (insS_perm x _).trans ((sortS_perm l).cons x)
theorem fm_self : ∀ {A B : List Tm}, (nms B).Nodup → (∀ x ∈ A, x ∈ B) → (nms A).filterMap (fnd B) = A
  | [], _, _, _ => rfl
  | x :: A, B, h, hs => by
    show List.filterMap (fnd B) (x.n :: nms A) = _
    rw [List.filterMap_cons_some (fnd_mem h (hs x List.mem_cons_self)), fm_self h fun y hy => hs y (List.mem_cons_of_mem _ hy)]
theorem sum_filter {h : Tm → Int} (h0 : ∀ x, x.t = 0 → h x = 0) : ∀ A : List Tm, ((A.filter fun x => x.t != 0).map h).sum = (A.map h).sum
  | [] => rfl
  | x :: A => by
    by_cases q : x.t = 0
    · rw [List.filter_cons_of_neg (by simp [q]), sum_filter h0 A, List.map_cons, List.sum_cons, h0 x q, Int.zero_add]
    · rw [List.filter_cons_of_pos (by simp [q]), List.map_cons, List.map_cons, List.sum_cons, List.sum_cons, sum_filter h0 A]
theorem sum_srt {A : List Tm} {h : Tm → Int} (hn : (nms A).Nodup) (h0 : ∀ x, x.t = 0 → h x = 0) : ((srt A).map h).sum = (A.map h).sum := by
  unfold srt
  rw [sum_filter h0]
  have p : ((sortS (nms A)).filterMap (fnd A)).Perm ((nms A).filterMap (fnd A)) := (sortS_perm (nms A)).filterMap _
  rw [fm_self hn fun x hx => hx] at p
  exact perm_sum (p.map h)
end FM

namespace FM
theorem unl_putA' {A : List Tm} {y : Tm} {m : Str} {t lo hi : Int} (h : m ≠ y.n) : unl (putA A ⟨m, t, lo, hi⟩) y = unl A y := unl_putA (x := ⟨m, t, lo, hi⟩) h
theorem mrgA_err {s : Int} {y : Tm} {r : List Tm} : ∀ {p A : List Tm}, (nms (p ++ y :: r)).Nodup → (∀ z ∈ p, unl A z = false) → unl A y = true → mrgA s A (p ++ y :: r) = .error y.n
  | [], A, _, _, h => by
    show (if unl A y then _ else _) = _
    rw [if_pos h]
  | z :: p, A, hn, hp, h => by
    have h1 := List.nodup_cons.mp (show (z.n :: nms (p ++ y :: r)).Nodup from hn)
    have ne : ∀ w ∈ p ++ y :: r, z.n ≠ w.n := fun w hw e => h1.1 (by rw [e]; exact List.mem_map_of_mem hw)
    show (if unl A z then _ else mrgA s (putA A ⟨z.n, co A z.n + s * z.t, z.lo, z.hi⟩) (p ++ y :: r)) = _
    rw [if_neg (by rw [hp z List.mem_cons_self]; simp)]
    refine mrgA_err h1.2 (fun w hw => ?_) ?_
    · rw [unl_putA' (ne w (List.mem_append_left _ hw))]
      exact hp w (List.mem_cons_of_mem _ hw)
    · rw [unl_putA' (ne y (List.mem_append_right _ List.mem_cons_self))]
      exact h
theorem mrg_err {f g : Fm} {s : Int} {y : Tm} {l : List Tm} (hn : (nms g.ts).Nodup) (h : g.ts.filter (unl f.ts) = y :: l) : mrg f g s = .error y.n := by
  obtain ⟨p, r, e, hp, hy, hr⟩ := List.filter_eq_cons_iff.mp h
  unfold mrg
  rw [e, mrgA_err (by rw [← e]; exact hn) (fun z hz => by simpa using hp z hz) hy]
theorem mrg_none {f g : Fm} (h : g.ts.filter (unl f.ts) = []) : Like f.ts g.ts := fun y hy => by
  have := List.filter_eq_nil_iff.mp h y hy
  simpa using this
/-- the measures of both with unlike limits, in the order of the names -/
def unN : List Str → List Int → List Int → List (Int × Int) → List (Int × Int) → List Str
  | n :: ns, t :: ts, u :: us, p :: sp, q :: sq => if t ≠ 0 ∧ u ≠ 0 ∧ p ≠ q then n :: unN ns ts us sp sq else unN ns ts us sp sq
  | _, _, _, _, _ => []
theorem unN_sym : ∀ (ns : List Str) (ts us : List Int) (sp sq : List (Int × Int)), unN ns ts us sp sq = unN ns us ts sq sp
  | n :: ns, t :: ts, u :: us, p :: sp, q :: sq => by
    unfold unN
    rw [unN_sym ns ts us sp sq]
    by_cases h : t ≠ 0 ∧ u ≠ 0 ∧ p ≠ q
    · rw [if_pos h, if_pos ⟨h.2.1, h.1, fun e => h.2.2 e.symm⟩]
    · rw [if_neg h, if_neg fun h' => h ⟨h'.2.1, h'.1, fun e => h'.2.2 e.symm⟩]
  | [], _, _, _, _ => by unfold unN; rfl
  | _ :: _, [], us, _, _ => by cases us <;> (unfold unN; rfl)
  | _ :: _, _ :: _, [], _, _ => by unfold unN; rfl
  | _ :: _, _ :: _, _ :: _, [], sq => by cases sq <;> (unfold unN; rfl)
  | _ :: _, _ :: _, _ :: _, _ :: _, [] => by unfold unN; rfl
theorem unN_sub : ∀ (ns : List Str) (ts us : List Int) (sp sq : List (Int × Int)), List.Sublist (unN ns ts us sp sq) ns
  | n :: ns, t :: ts, u :: us, p :: sp, q :: sq => by
    unfold unN
    split
    · exact (unN_sub ns ts us sp sq).cons₂ n
    · exact (unN_sub ns ts us sp sq).cons n
  | [], _, _, _, _ => by unfold unN; exact List.nil_sublist _
  | _ :: _, [], us, _, _ => by unfold unN; exact List.nil_sublist _
  | _ :: _, _ :: _, [], _, _ => by unfold unN; exact List.nil_sublist _
  | _ :: _, _ :: _, _ :: _, [], sq => by unfold unN; exact List.nil_sublist _
  | _ :: _, _ :: _, _ :: _, _ :: _, [] => by unfold unN; exact List.nil_sublist _
theorem mem_unN : ∀ {ns : List Str} {ts us : List Int} {sp sq : List (Int × Int)} {n : Str}, ns.Nodup → ns.length = ts.length → ns.length = us.length → ns.length = sp.length → ns.length = sq.length →
    (n ∈ unN ns ts us sp sq ↔ ∃ x y, fnd (zA ns ts sp) n = some x ∧ fnd (zA ns us sq) n = some y ∧ x.t ≠ 0 ∧ y.t ≠ 0 ∧ ¬ (x.lo = y.lo ∧ x.hi = y.hi))
  | [], _, _, _, _, n, _, _, _, _, _ => by
    unfold unN zA
    simp [fnd]
  | m :: ns, t :: ts, u :: us, p :: sp, q :: sq, n, hn, h1, h2, h3, h4 => by
    have hd := List.nodup_cons.mp hn
    have ih := mem_unN (n := n) hd.2 (by simpa using h1) (by simpa using h2) (by simpa using h3 : ns.length = sp.length) (by simpa using h4 : ns.length = sq.length) (ts := ts) (us := us)
    have hpq : p ≠ q ↔ ¬ (p.1 = q.1 ∧ p.2 = q.2) := by rw [Ne, Prod.ext_iff]
    unfold unN zA
    rw [fnd_cons, fnd_cons]
    by_cases e : m = n
    · subst e
      have hm : m ∉ unN ns ts us sp sq := fun h => hd.1 ((unN_sub ns ts us sp sq).subset h)
      rw [if_pos rfl, if_pos rfl]
      constructor
      · intro h
        split at h
        · rename_i c
          exact ⟨_, _, rfl, rfl, c.1, c.2.1, hpq.mp c.2.2⟩
        · exact absurd h hm
      · rintro ⟨x, y, ex, ey, c1, c2, c3⟩
        cases ex; cases ey
        rw [if_pos ⟨c1, c2, hpq.mpr c3⟩]
        exact List.mem_cons_self
    · rw [if_neg e, if_neg e, ← ih]
      split
      · rw [List.mem_cons]
        exact ⟨fun h => h.resolve_left fun w => e w.symm, .inr⟩
      · exact Iff.rfl
  | _ :: _, [], _, _, _, _, _, h1, _, _, _ => by cases h1
  | _ :: _, _ :: _, [], _, _, _, _, _, h2, _, _ => by cases h2
  | _ :: _, _ :: _, _ :: _, [], _, _, _, _, _, h3, _ => by cases h3
  | _ :: _, _ :: _, _ :: _, _ :: _, [], _, _, _, _, _, h4 => by cases h4
theorem unl_cF {ns : List Str} {ts us : List Int} {sp sq : List (Int × Int)} {c d : Int} (hn : ns.Nodup) (h1 : ns.length = ts.length) (h2 : ns.length = us.length) (h3 : ns.length = sp.length) (h4 : ns.length = sq.length) : nms ((cF ns sq d us).ts.filter (unl (cF ns sp c ts).ts)) = sortS (unN ns ts us sp sq) := by
  have cg := cF_can (c := d) hn h2 h4
  refine (sortS_of ?_ ?_ fun n => ?_).symm
  · exact List.Sublist.nodup (unN_sub _ _ _ _ _) hn
  · exact List.Pairwise.sublist (List.Sublist.map _ List.filter_sublist) cg.o
  · rw [mem_unN hn h1 h2 h3 h4]
    constructor
    · rintro ⟨x, y, ex, ey, c1, c2, c3⟩
      have fx : fnd (cF ns sp c ts).ts n = some x := by rw [fnd_cF hn h1 h3, ex]; simp [Option.filter_some, nz, c1]
      have fy : fnd (cF ns sq d us).ts n = some y := by rw [fnd_cF hn h2 h4, ey]; simp [Option.filter_some, nz, c2]
      obtain ⟨ym, yn⟩ := fnd_some fy
      refine List.mem_map.mpr ⟨y, List.mem_filter.mpr ⟨ym, ?_⟩, yn⟩
      unfold unl
      rw [yn, fx]
      show (!decide (x.lo = y.lo ∧ x.hi = y.hi)) = true
      rw [decide_eq_false c3]
      rfl
    · intro h
      obtain ⟨y, hy, rfl⟩ := List.mem_map.mp h
      obtain ⟨ym, yu⟩ := List.mem_filter.mp hy
      have fy := fnd_mem cg.nd ym
      unfold unl at yu
      cases fx : fnd (cF ns sp c ts).ts y.n with
      | none => rw [fx] at yu; cases yu
      | some x =>
        rw [fx] at yu
        have x0 := (cF_can (c := c) hn h1 h3).z x (fnd_some fx).1
        have y0 := cg.z y ym
        rw [fnd_cF hn h1 h3] at fx
        rw [fnd_cF hn h2 h4] at fy
        have gx : ∀ {o : Option Tm} {z : Tm}, o.filter nz = some z → o = some z := fun {o z} h => by
          cases o with
          | none => cases h
          | some w =>
            rw [Option.filter_some] at h
            split at h
            · exact h
            · cases h
        exact ⟨x, y, gx fx, gx fy, x0, y0, fun e => by
          have yu : (!decide (x.lo = y.lo ∧ x.hi = y.hi)) = true := yu
          rw [decide_eq_true e] at yu
          cases yu⟩
end FM

local macro_rules | `(tactic| sizeOf_list_dec) => `(tactic| first
  | assumption
  | decide
  | exact VE.sz_le (m := 100000) (by first | omega | simp only [List.length_map, List.length_append, List.length_cons, List.length_nil, List.length_range, List.length_replicate] <;> omega) (by decide)
  | exact VE.sz_lt (m := 100000) (by first | omega | simp only [List.length_map, List.length_append, List.length_cons, List.length_nil, List.length_range, List.length_replicate] <;> omega) (by decide))
local macro_rules | `(tactic| get_elem_tactic_extensible) => `(tactic| first
  | (simp only [VE.setS, List.set_cons_zero, List.set_cons_succ, VE.backA, VE.restore, VE.wipeE, VE.tslots, VE.gt, List.getElem?_cons_zero, List.getElem?_cons_succ, List.map_cons, List.map_nil, List.cons_append, List.nil_append, List.append_nil, List.reduceReplicate, Nat.reduceSub, VE.Cell.d] <;> exact VE.Nm.rfl _)
  | exact VE.Nm.rfl _)
local macro_rules | `(tactic| array_get_dec) => `(tactic| first
  | ((with_reducible apply VE.kB); (first
    | ((with_reducible apply VE.pb_plc); (exact rfl))
    | ((with_reducible apply VE.pb_of); (exact fun _ _ => rfl))
    | ((with_reducible apply VE.pb_plcf); (exact rfl); (exact rfl))
    | ((with_reducible apply VE.pb_plcv); (exact rfl); (exact rfl))))
  | ((with_reducible apply VE.kO); (first
    | ((with_reducible apply VE.po_var); (exact rfl))
    | with_reducible apply VE.po_k
    | with_reducible apply VE.po_bd
    | with_reducible apply VE.po_fn
    | with_reducible apply VE.po_own
    | with_reducible apply VE.po_ownc
    | with_reducible apply VE.po_b1
    | with_reducible apply VE.po_tup
    | with_reducible apply VE.po_lst
    | with_reducible apply VE.po_ite
    | with_reducible apply VE.po_and
    | with_reducible apply VE.po_or
    | with_reducible apply VE.po_meth
    | with_reducible apply VE.po_make
    | with_reducible apply VE.po_prop
    | with_reducible apply VE.po_b2
    | with_reducible apply VE.po_slc
    | with_reducible apply VE.po_fld
    | ((with_reducible apply VE.po_plcf); (exact rfl); (exact rfl))
    | ((with_reducible apply VE.po_plcv); (exact rfl); (exact rfl))
    | ((with_reducible apply VE.po_vfz); (exact rfl); (exact rfl))
    | ((with_reducible apply VE.po_mv); (exact rfl))
    | ((with_reducible apply VE.po_mvo); (exact rfl); (exact rfl); (exact rfl))
    | with_reducible apply VE.po_chain
    | ((with_reducible apply VE.po_comp); (exact rfl))
    | ((with_reducible apply VE.po_compd); (exact rfl))
    | with_reducible apply VE.po_own1
    | with_reducible apply VE.po_call
    | with_reducible apply VE.po_glo
    | with_reducible apply VE.po_gstr
    | with_reducible apply VE.po_fst
    | with_reducible apply VE.po_dct
    | ((with_reducible apply VE.po_eisi_t); (exact rfl); (exact rfl))
    | ((with_reducible apply VE.po_eisi_f); (exact rfl); (exact rfl))
    | ((with_reducible apply VE.po_efld); (exact rfl); (exact rfl); (exact rfl))))
  | ((with_reducible apply VE.kF); (first
    | with_reducible apply VE.fr_v
    | with_reducible apply VE.fr_l
    | with_reducible apply VE.fr_d
    | ((with_reducible apply VE.fr_o); (get_elem_tactic_extensible))))
  | ((with_reducible apply VE.en_of); (get_elem_tactic_extensible))
  | ((with_reducible apply VE.kSo); (first
    | ((with_reducible apply VE.kA); (first
      | ((with_reducible apply VE.so_at0); (exact rfl))
      | ((with_reducible apply VE.so_at1); (exact rfl))
      | ((with_reducible apply VE.so_at2); (exact rfl))
      | ((with_reducible apply VE.so_at3); (exact rfl))
      | ((with_reducible apply VE.so_at4); (exact rfl))
      | ((with_reducible apply VE.so_at5); (exact rfl))
      | ((with_reducible apply VE.so_at6); (exact rfl))
      | ((with_reducible apply VE.so_at7); (exact rfl))
      | ((with_reducible apply VE.so_at8); (exact rfl))
      | ((with_reducible apply VE.so_at9); (exact rfl))
      | ((with_reducible apply VE.so_at10); (exact rfl))
      | ((with_reducible apply VE.so_at11); (exact rfl))
      | ((with_reducible apply VE.so_at12); (exact rfl))
      | ((with_reducible apply VE.so_at13); (exact rfl))
      | ((with_reducible apply VE.so_at14); (exact rfl))
      | ((with_reducible apply VE.so_at15); (exact rfl))
      | ((with_reducible apply VE.so_at16); (exact rfl))
      | ((with_reducible apply VE.so_at17); (exact rfl))
      | ((with_reducible apply VE.so_at18); (exact rfl))
      | ((with_reducible apply VE.so_at19); (exact rfl))
      | ((with_reducible apply VE.so_am1); (exact rfl))
      | ((with_reducible apply VE.so_am2); (exact rfl))
      | with_reducible apply VE.so_at_iti
      | ((with_reducible apply VE.so_at); (exact rfl))))
    | ((with_reducible apply VE.kG); (first
      | ((with_reducible apply VE.so_of); (exact rfl))))
    | ((with_reducible apply VE.kU); (first
      | ((with_reducible apply VE.so_of); (exact rfl))))
    | ((with_reducible apply VE.kT); (first
      | with_reducible apply VE.it_dyl
      | with_reducible apply VE.it_dyt
      | with_reducible apply VE.it_dys
      | ((with_reducible apply VE.it_rng1k); (decide); (simp only [Int.reduceToNat, List.range_succ_eq_map, List.range_zero, List.map_cons, List.map_nil, Int.natCast_zero, Int.natCast_one, Int.ofNat_eq_natCast, Int.cast_ofNat_Int, Nat.succ_eq_add_one, Nat.reduceAdd]; exact VE.Nm.rfl _))))
    | ((with_reducible apply VE.kK); (first
      | with_reducible apply VE.pix_l
      | with_reducible apply VE.pix_t
      | with_reducible apply VE.pad_i
      | with_reducible apply VE.pick1
      | ((with_reducible apply VE.pix_d); (exact rfl))
      | ((with_reducible apply VE.pix_s); (sizeOf_list_dec))
      | ((with_reducible apply VE.pad_s); (sizeOf_list_dec))
      | ((with_reducible apply VE.pad_l); (sizeOf_list_dec))
      | ((with_reducible apply VE.pad_t); (exact ⟨by sizeOf_list_dec, by simp⟩))
      | with_reducible apply VE.pin_d
      | with_reducible apply VE.pni_d
      | with_reducible apply VE.pin_l
      | with_reducible apply VE.pin_t
      | with_reducible apply VE.pin_s
      | with_reducible apply VE.pni_l
      | with_reducible apply VE.pni_t
      | with_reducible apply VE.pni_s))
    | ((with_reducible apply VE.k2); (first
      | with_reducible apply VE.op_add
      | with_reducible apply VE.op_sub
      | ((with_reducible apply VE.op_eq); (first | exact VE.eqD_ii _ _ | exact VE.eqD_bs _))
      | ((with_reducible apply VE.op_ne); (first | exact VE.eqD_ii _ _ | exact VE.eqD_bs _))
      | with_reducible apply VE.op_lt
      | with_reducible apply VE.op_le
      | with_reducible apply VE.op_gt
      | with_reducible apply VE.op_ge
      | ((with_reducible apply VE.op_mod); (first | assumption | decide))
      | ((with_reducible apply VE.op_div); (first | assumption | decide +kernel))
      | ((with_reducible apply VE.op_mul); (first | assumption | exact VE.mulR _ (by decide) | exact VE.mulL _ (by decide) | exact VE.mulL _ (by assumption)))
      | ((with_reducible apply VE.op_pow10); (decide); (simp only [Int.reduceToNat, Int.reducePow]; exact VE.Nm.rfl _))
      | ((with_reducible apply VE.op_inK); (exact rfl))
      | ((with_reducible apply VE.op_notInK); (exact rfl))
      | ((with_reducible apply VE.op_addS); (sizeOf_list_dec))
      | ((with_reducible apply VE.op_catL); (sizeOf_list_dec))
      | with_reducible apply VE.op_inS
      | with_reducible apply VE.op_notInS))
    | ((with_reducible apply VE.k1); (first
      | ((with_reducible apply VE.so_len_lk); (sizeOf_list_dec); (first | (simp only [List.length_cons, List.length_nil, Nat.reduceAdd, Int.natCast_zero, Int.natCast_one, Int.ofNat_eq_natCast, Int.cast_ofNat_Int]; exact VE.Nm.rfl _) | exact VE.Nm.rfl _))
      | ((with_reducible apply VE.so_len_tk); (sizeOf_list_dec); (first | (simp only [List.length_cons, List.length_nil, Nat.reduceAdd, Int.natCast_zero, Int.natCast_one, Int.ofNat_eq_natCast, Int.cast_ofNat_Int]; exact VE.Nm.rfl _) | exact VE.Nm.rfl _))
      | ((with_reducible apply VE.so_len_s); (sizeOf_list_dec))
      | with_reducible apply VE.so_len_d
      | with_reducible apply VE.so_not
      | ((with_reducible apply VE.so_isi); (exact rfl))
      | with_reducible apply VE.so_isN
      | with_reducible apply VE.so_notN
      | with_reducible apply VE.so_isT
      | with_reducible apply VE.so_isF
      | with_reducible apply VE.so_notT
      | with_reducible apply VE.so_notF
      | with_reducible apply VE.so_int
      | with_reducible apply VE.so_intb
      | with_reducible apply VE.so_str
      | ((with_reducible apply VE.so_tupL); (sizeOf_list_dec))
      | ((with_reducible apply VE.so_tupT); (sizeOf_list_dec))
      | ((with_reducible apply VE.so_lstL); (sizeOf_list_dec))
      | ((with_reducible apply VE.so_lstT); (sizeOf_list_dec))
      | with_reducible apply VE.so_dctC
      | with_reducible apply VE.so_abs
      | with_reducible apply VE.so_isC
      | with_reducible apply VE.so_isCi
      | with_reducible apply VE.so_neg))
    | ((with_reducible apply VE.so_newL); (sizeOf_list_dec))
    | ((with_reducible apply VE.so_newT); (sizeOf_list_dec))
    | with_reducible apply VE.so_slcL
    | with_reducible apply VE.so_slcT
    | ((with_reducible apply VE.so_fld); (exact rfl))
    | ((with_reducible apply VE.so_growN); (exact rfl); (sizeOf_list_dec))
    | ((with_reducible apply VE.so_growF); (exact rfl); (exact rfl); (sizeOf_list_dec))
    | ((with_reducible apply VE.so_putK); (exact rfl); (exact rfl); (sizeOf_list_dec))
    | ((with_reducible apply VE.so_put0); (exact rfl); (first | exact rfl | assumption))
    | ((with_reducible apply VE.so_put1); (exact rfl); (first | exact rfl | assumption))
    | ((with_reducible apply VE.so_put2); (exact rfl); (first | exact rfl | assumption))
    | ((with_reducible apply VE.so_put3); (exact rfl); (first | exact rfl | assumption))
    | ((with_reducible apply VE.so_put4); (exact rfl); (first | exact rfl | assumption))
    | ((with_reducible apply VE.so_put5); (exact rfl); (first | exact rfl | assumption))
    | ((with_reducible apply VE.so_put6); (exact rfl); (first | exact rfl | assumption))
    | ((with_reducible apply VE.so_put7); (exact rfl); (first | exact rfl | assumption))))
  | ((with_reducible apply VE.kE); (first
    | with_reducible apply VE.pd_of
    | ((with_reducible apply VE.pas_io); (exact rfl))
    | with_reducible apply VE.pas_nil
    | ((with_reducible apply VE.pas_cons); (exact rfl))
    | ((with_reducible apply VE.pc_run); (simp [VE.argsS]); (exact rfl); (exact rfl); (get_elem_tactic_extensible))
    | with_reducible apply VE.pds_cons
    | with_reducible apply VE.pds_nil
    | with_reducible apply VE.pbs_cons
    | with_reducible apply VE.pbs_nil
    | ((with_reducible apply VE.pm_run); (simp [VE.argsS]); (exact rfl); (get_elem_tactic_extensible))
    | with_reducible apply VE.pev_none
    | with_reducible apply VE.pev_some
    | with_reducible apply VE.pp_some
    | with_reducible apply VE.pp_none
    | ((with_reducible apply VE.pcg_cons); (sizeOf_list_dec))
    | with_reducible apply VE.pcg_nil))
  | ((with_reducible apply VE.kW); (first
    | ((with_reducible apply VE.own_no); (exact rfl))
    | ((with_reducible apply VE.own_fst); (exact rfl))
    | ((with_reducible apply VE.own_snd); (exact rfl))))
  | ((with_reducible apply VE.kS); (first
    | ((with_reducible apply VE.ps_asg); (exact rfl))
    | with_reducible apply VE.ps_if
    | with_reducible apply VE.ps_ret
    | ((with_reducible apply VE.ps_app); (exact rfl))
    | ((with_reducible apply VE.ps_for); (exact rfl))
    | with_reducible apply VE.ps_expr
    | with_reducible apply VE.ps_setX
    | ((with_reducible apply VE.ps_aug); (exact rfl); (exact rfl))
    | with_reducible apply VE.ps_asgT
    | ((with_reducible apply VE.ps_asgf); (exact rfl))
    | with_reducible apply VE.ps_setF
    | with_reducible apply VE.ps_try
    | ((with_reducible apply VE.ps_raise); (exact rfl))
    | with_reducible apply VE.ps_brk
    | with_reducible apply VE.ps_cont
    | with_reducible apply VE.ps_pass
    | with_reducible apply VE.ps_ret0
    | ((with_reducible apply VE.ps_ext); (exact rfl))
    | ((with_reducible apply VE.ps_clear); (exact rfl))
    | with_reducible apply VE.ps_setIx
    | with_reducible apply VE.ps_setK))
  | ((with_reducible apply VE.kP); (first
    | with_reducible apply VE.ps_cons
    | with_reducible apply VE.ps_nil
    | ((with_reducible apply VE.ph_some); (exact rfl))
    | ((with_reducible apply VE.ph_skip); (exact rfl))
    | ((with_reducible apply VE.ph_none); (exact rfl))
    | with_reducible apply VE.ph_nil
    | with_reducible apply VE.pf_cons
    | with_reducible apply VE.pf_nil))
  | ((with_reducible apply VE.kI); (first
    | with_reducible apply VE.if_t
    | with_reducible apply VE.if_f
    | with_reducible apply VE.if_n
    | (with_reducible refine VE.if_p rfl ?_)
    | (with_reducible refine VE.if_p (by assumption) ?_)
    | (with_reducible refine VE.if_q (by assumption) ?_)
    | (with_reducible refine VE.if_p (by decide) ?_)
    | (with_reducible refine VE.if_q (by decide) ?_)))
  | ((with_reducible apply VE.fi_of); (exact rfl))
  | with_reducible apply VE.fc_c
  | with_reducible apply VE.ng_i
  | with_reducible apply VE.ng_o
  | ((with_reducible apply VE.sx_l); (exact rfl))
  | ((with_reducible apply VE.sx_d); (exact rfl); (exact rfl))
  | ((with_reducible apply VE.fc_o); (get_elem_tactic_extensible))
  | ((with_reducible apply VE.chn_of); (exact rfl))
  | with_reducible apply VE.cz_v
  | with_reducible apply VE.cz_l
  | with_reducible apply VE.cz_d
  | ((with_reducible apply VE.ln_of); (get_elem_tactic_extensible))
  | with_reducible apply VE.xxI
  | with_reducible apply VE.xxB
  | ((with_reducible apply VE.xxTT); (exact rfl))
  | with_reducible apply VE.xxMN
  | with_reducible apply VE.xxC
  | with_reducible apply VE.xxL
  | with_reducible apply VE.xxOB
  | with_reducible apply VE.xxOV
  | ((with_reducible apply VE.xxDC); (exact rfl); (decide +kernel); (decide)))
local macro_rules | `(tactic| array_mem_dec) => `(tactic| repeat array_get_dec)
local macro_rules | `(tactic| bv_omega) => `(tactic| first
  | ((with_reducible apply VE.kB); (first
    | ((with_reducible apply VE.pb_plc); (exact rfl))
    | ((with_reducible apply VE.pb_of); (exact fun _ _ => rfl))
    | ((with_reducible apply VE.pb_plcf); (exact rfl); (exact rfl))
    | ((with_reducible apply VE.pb_plcv); (exact rfl); (exact rfl))))
  | ((with_reducible apply VE.kO); (first
    | ((with_reducible apply VE.po_var); (exact rfl))
    | with_reducible apply VE.po_k
    | with_reducible apply VE.po_bd
    | with_reducible apply VE.po_fn
    | with_reducible apply VE.po_own
    | with_reducible apply VE.po_ownc
    | with_reducible apply VE.po_b1
    | with_reducible apply VE.po_tup
    | with_reducible apply VE.po_lst
    | with_reducible apply VE.po_ite
    | with_reducible apply VE.po_and
    | with_reducible apply VE.po_or
    | with_reducible apply VE.po_meth
    | with_reducible apply VE.po_make
    | with_reducible apply VE.po_prop
    | with_reducible apply VE.po_b2
    | with_reducible apply VE.po_slc
    | with_reducible apply VE.po_fld
    | ((with_reducible apply VE.po_plcf); (exact rfl); (exact rfl))
    | ((with_reducible apply VE.po_plcv); (exact rfl); (exact rfl))
    | ((with_reducible apply VE.po_vfz); (exact rfl); (exact rfl))
    | ((with_reducible apply VE.po_mv); (exact rfl))
    | ((with_reducible apply VE.po_mvo); (exact rfl); (exact rfl); (exact rfl))
    | with_reducible apply VE.po_chain
    | ((with_reducible apply VE.po_comp); (exact rfl))
    | ((with_reducible apply VE.po_compd); (exact rfl))
    | with_reducible apply VE.po_own1
    | with_reducible apply VE.po_call
    | with_reducible apply VE.po_glo
    | with_reducible apply VE.po_gstr
    | with_reducible apply VE.po_fst
    | with_reducible apply VE.po_dct
    | ((with_reducible apply VE.po_eisi_t); (exact rfl); (exact rfl))
    | ((with_reducible apply VE.po_eisi_f); (exact rfl); (exact rfl))
    | ((with_reducible apply VE.po_efld); (exact rfl); (exact rfl); (exact rfl))))
  | ((with_reducible apply VE.kF); (first
    | with_reducible apply VE.fr_v
    | with_reducible apply VE.fr_l
    | with_reducible apply VE.fr_d
    | ((with_reducible apply VE.fr_o); (get_elem_tactic_extensible))))
  | ((with_reducible apply VE.en_of); (get_elem_tactic_extensible))
  | ((with_reducible apply VE.kSo); (first
    | ((with_reducible apply VE.kA); (first
      | ((with_reducible apply VE.so_at0); (exact rfl))
      | ((with_reducible apply VE.so_at1); (exact rfl))
      | ((with_reducible apply VE.so_at2); (exact rfl))
      | ((with_reducible apply VE.so_at3); (exact rfl))
      | ((with_reducible apply VE.so_at4); (exact rfl))
      | ((with_reducible apply VE.so_at5); (exact rfl))
      | ((with_reducible apply VE.so_at6); (exact rfl))
      | ((with_reducible apply VE.so_at7); (exact rfl))
      | ((with_reducible apply VE.so_at8); (exact rfl))
      | ((with_reducible apply VE.so_at9); (exact rfl))
      | ((with_reducible apply VE.so_at10); (exact rfl))
      | ((with_reducible apply VE.so_at11); (exact rfl))
      | ((with_reducible apply VE.so_at12); (exact rfl))
      | ((with_reducible apply VE.so_at13); (exact rfl))
      | ((with_reducible apply VE.so_at14); (exact rfl))
      | ((with_reducible apply VE.so_at15); (exact rfl))
      | ((with_reducible apply VE.so_at16); (exact rfl))
      | ((with_reducible apply VE.so_at17); (exact rfl))
      | ((with_reducible apply VE.so_at18); (exact rfl))
      | ((with_reducible apply VE.so_at19); (exact rfl))
      | ((with_reducible apply VE.so_am1); (exact rfl))
      | ((with_reducible apply VE.so_am2); (exact rfl))
      | with_reducible apply VE.so_at_iti
      | ((with_reducible apply VE.so_at); (exact rfl))))
    | ((with_reducible apply VE.kG); (first
      | ((with_reducible apply VE.so_of); (exact rfl))))
    | ((with_reducible apply VE.kU); (first
      | ((with_reducible apply VE.so_of); (exact rfl))))
    | ((with_reducible apply VE.kT); (first
      | with_reducible apply VE.it_dyl
      | with_reducible apply VE.it_dyt
      | with_reducible apply VE.it_dys
      | ((with_reducible apply VE.it_rng1k); (decide); (simp only [Int.reduceToNat, List.range_succ_eq_map, List.range_zero, List.map_cons, List.map_nil, Int.natCast_zero, Int.natCast_one, Int.ofNat_eq_natCast, Int.cast_ofNat_Int, Nat.succ_eq_add_one, Nat.reduceAdd]; exact VE.Nm.rfl _))))
    | ((with_reducible apply VE.kK); (first
      | with_reducible apply VE.pix_l
      | with_reducible apply VE.pix_t
      | with_reducible apply VE.pad_i
      | with_reducible apply VE.pick1
      | ((with_reducible apply VE.pix_d); (exact rfl))
      | ((with_reducible apply VE.pix_s); (sizeOf_list_dec))
      | ((with_reducible apply VE.pad_s); (sizeOf_list_dec))
      | ((with_reducible apply VE.pad_l); (sizeOf_list_dec))
      | ((with_reducible apply VE.pad_t); (exact ⟨by sizeOf_list_dec, by simp⟩))
      | with_reducible apply VE.pin_d
      | with_reducible apply VE.pni_d
      | with_reducible apply VE.pin_l
      | with_reducible apply VE.pin_t
      | with_reducible apply VE.pin_s
      | with_reducible apply VE.pni_l
      | with_reducible apply VE.pni_t
      | with_reducible apply VE.pni_s))
    | ((with_reducible apply VE.k2); (first
      | with_reducible apply VE.op_add
      | with_reducible apply VE.op_sub
      | ((with_reducible apply VE.op_eq); (first | exact VE.eqD_ii _ _ | exact VE.eqD_bs _))
      | ((with_reducible apply VE.op_ne); (first | exact VE.eqD_ii _ _ | exact VE.eqD_bs _))
      | with_reducible apply VE.op_lt
      | with_reducible apply VE.op_le
      | with_reducible apply VE.op_gt
      | with_reducible apply VE.op_ge
      | ((with_reducible apply VE.op_mod); (first | assumption | decide))
      | ((with_reducible apply VE.op_div); (first | assumption | decide +kernel))
      | ((with_reducible apply VE.op_mul); (first | assumption | exact VE.mulR _ (by decide) | exact VE.mulL _ (by decide) | exact VE.mulL _ (by assumption)))
      | ((with_reducible apply VE.op_pow10); (decide); (simp only [Int.reduceToNat, Int.reducePow]; exact VE.Nm.rfl _))
      | ((with_reducible apply VE.op_inK); (exact rfl))
      | ((with_reducible apply VE.op_notInK); (exact rfl))
      | ((with_reducible apply VE.op_addS); (sizeOf_list_dec))
      | ((with_reducible apply VE.op_catL); (sizeOf_list_dec))
      | with_reducible apply VE.op_inS
      | with_reducible apply VE.op_notInS))
    | ((with_reducible apply VE.k1); (first
      | ((with_reducible apply VE.so_len_lk); (sizeOf_list_dec); (first | (simp only [List.length_cons, List.length_nil, Nat.reduceAdd, Int.natCast_zero, Int.natCast_one, Int.ofNat_eq_natCast, Int.cast_ofNat_Int]; exact VE.Nm.rfl _) | exact VE.Nm.rfl _))
      | ((with_reducible apply VE.so_len_tk); (sizeOf_list_dec); (first | (simp only [List.length_cons, List.length_nil, Nat.reduceAdd, Int.natCast_zero, Int.natCast_one, Int.ofNat_eq_natCast, Int.cast_ofNat_Int]; exact VE.Nm.rfl _) | exact VE.Nm.rfl _))
      | ((with_reducible apply VE.so_len_s); (sizeOf_list_dec))
      | with_reducible apply VE.so_len_d
      | with_reducible apply VE.so_not
      | ((with_reducible apply VE.so_isi); (exact rfl))
      | with_reducible apply VE.so_isN
      | with_reducible apply VE.so_notN
      | with_reducible apply VE.so_isT
      | with_reducible apply VE.so_isF
      | with_reducible apply VE.so_notT
      | with_reducible apply VE.so_notF
      | with_reducible apply VE.so_int
      | with_reducible apply VE.so_intb
      | with_reducible apply VE.so_str
      | ((with_reducible apply VE.so_tupL); (sizeOf_list_dec))
      | ((with_reducible apply VE.so_tupT); (sizeOf_list_dec))
      | ((with_reducible apply VE.so_lstL); (sizeOf_list_dec))
      | ((with_reducible apply VE.so_lstT); (sizeOf_list_dec))
      | with_reducible apply VE.so_dctC
      | with_reducible apply VE.so_abs
      | with_reducible apply VE.so_isC
      | with_reducible apply VE.so_isCi
      | with_reducible apply VE.so_neg))
    | ((with_reducible apply VE.so_newL); (sizeOf_list_dec))
    | ((with_reducible apply VE.so_newT); (sizeOf_list_dec))
    | with_reducible apply VE.so_slcL
    | with_reducible apply VE.so_slcT
    | ((with_reducible apply VE.so_fld); (exact rfl))
    | ((with_reducible apply VE.so_growN); (exact rfl); (sizeOf_list_dec))
    | ((with_reducible apply VE.so_growF); (exact rfl); (exact rfl); (sizeOf_list_dec))
    | ((with_reducible apply VE.so_putK); (exact rfl); (exact rfl); (sizeOf_list_dec))
    | ((with_reducible apply VE.so_put0); (exact rfl); (first | exact rfl | assumption))
    | ((with_reducible apply VE.so_put1); (exact rfl); (first | exact rfl | assumption))
    | ((with_reducible apply VE.so_put2); (exact rfl); (first | exact rfl | assumption))
    | ((with_reducible apply VE.so_put3); (exact rfl); (first | exact rfl | assumption))
    | ((with_reducible apply VE.so_put4); (exact rfl); (first | exact rfl | assumption))
    | ((with_reducible apply VE.so_put5); (exact rfl); (first | exact rfl | assumption))
    | ((with_reducible apply VE.so_put6); (exact rfl); (first | exact rfl | assumption))
    | ((with_reducible apply VE.so_put7); (exact rfl); (first | exact rfl | assumption))))
  | ((with_reducible apply VE.kE); (first
    | with_reducible apply VE.pd_of
    | ((with_reducible apply VE.pas_io); (exact rfl))
    | with_reducible apply VE.pas_nil
    | ((with_reducible apply VE.pas_cons); (exact rfl))
    | ((with_reducible apply VE.pc_run); (simp [VE.argsS]); (exact rfl); (exact rfl); (get_elem_tactic_extensible))
    | with_reducible apply VE.pds_cons
    | with_reducible apply VE.pds_nil
    | with_reducible apply VE.pbs_cons
    | with_reducible apply VE.pbs_nil
    | ((with_reducible apply VE.pm_run); (simp [VE.argsS]); (exact rfl); (get_elem_tactic_extensible))
    | with_reducible apply VE.pev_none
    | with_reducible apply VE.pev_some
    | with_reducible apply VE.pp_some
    | with_reducible apply VE.pp_none
    | ((with_reducible apply VE.pcg_cons); (sizeOf_list_dec))
    | with_reducible apply VE.pcg_nil))
  | ((with_reducible apply VE.kW); (first
    | ((with_reducible apply VE.own_no); (exact rfl))
    | ((with_reducible apply VE.own_fst); (exact rfl))
    | ((with_reducible apply VE.own_snd); (exact rfl))))
  | ((with_reducible apply VE.kS); (first
    | ((with_reducible apply VE.ps_asg); (exact rfl))
    | with_reducible apply VE.ps_if
    | with_reducible apply VE.ps_ret
    | ((with_reducible apply VE.ps_app); (exact rfl))
    | ((with_reducible apply VE.ps_for); (exact rfl))
    | with_reducible apply VE.ps_expr
    | with_reducible apply VE.ps_setX
    | ((with_reducible apply VE.ps_aug); (exact rfl); (exact rfl))
    | with_reducible apply VE.ps_asgT
    | ((with_reducible apply VE.ps_asgf); (exact rfl))
    | with_reducible apply VE.ps_setF
    | with_reducible apply VE.ps_try
    | ((with_reducible apply VE.ps_raise); (exact rfl))
    | with_reducible apply VE.ps_brk
    | with_reducible apply VE.ps_cont
    | with_reducible apply VE.ps_pass
    | with_reducible apply VE.ps_ret0
    | ((with_reducible apply VE.ps_ext); (exact rfl))
    | ((with_reducible apply VE.ps_clear); (exact rfl))
    | with_reducible apply VE.ps_setIx
    | with_reducible apply VE.ps_setK))
  | ((with_reducible apply VE.kP); (first
    | with_reducible apply VE.ps_nil
    | ((with_reducible apply VE.ph_some); (exact rfl))
    | ((with_reducible apply VE.ph_skip); (exact rfl))
    | ((with_reducible apply VE.ph_none); (exact rfl))
    | with_reducible apply VE.ph_nil
    | with_reducible apply VE.pf_nil))
  | ((with_reducible apply VE.kI); (first
    | with_reducible apply VE.if_t
    | with_reducible apply VE.if_f
    | with_reducible apply VE.if_n
    | (with_reducible refine VE.if_p rfl ?_)
    | (with_reducible refine VE.if_p (by assumption) ?_)
    | (with_reducible refine VE.if_q (by assumption) ?_)
    | (with_reducible refine VE.if_p (by decide) ?_)
    | (with_reducible refine VE.if_q (by decide) ?_)))
  | ((with_reducible apply VE.fi_of); (exact rfl))
  | with_reducible apply VE.fc_c
  | with_reducible apply VE.ng_i
  | with_reducible apply VE.ng_o
  | ((with_reducible apply VE.sx_l); (exact rfl))
  | ((with_reducible apply VE.sx_d); (exact rfl); (exact rfl))
  | ((with_reducible apply VE.fc_o); (get_elem_tactic_extensible))
  | ((with_reducible apply VE.chn_of); (exact rfl))
  | with_reducible apply VE.cz_v
  | with_reducible apply VE.cz_l
  | with_reducible apply VE.cz_d
  | ((with_reducible apply VE.ln_of); (get_elem_tactic_extensible))
  | with_reducible apply VE.xxI
  | with_reducible apply VE.xxB
  | ((with_reducible apply VE.xxTT); (exact rfl))
  | with_reducible apply VE.xxMN
  | with_reducible apply VE.xxC
  | with_reducible apply VE.xxL
  | with_reducible apply VE.xxOB
  | with_reducible apply VE.xxOV
  | ((with_reducible apply VE.xxDC); (exact rfl); (decide +kernel); (decide)))
local macro_rules | `(tactic| and_intros) => `(tactic| repeat bv_omega)


namespace LW
open VN FM
abbrev G (k : Nat) : Calls := Ds (lw.xcl.map (·.1)) lw.Fs k
/-- a pot -/
abbrev oP (a b : Int) : O := .cell (.lst [.int a, .int b])
abbrev oI (a : Int) : O := .cell (.val (.int a))
abbrev oS (s : Str) : O := .cell (.val (.str s))
abbrev oB (b : Bool) : O := .cell (.val (.bl b))
abbrev oF (f : Fm) : O := .cell (.val f.d)
abbrev oT (xs : List D) : O := .cell (.val (.tup xs))
abbrev oL (xs : List D) : O := .cell (.lst xs)
abbrev oN : O := .cell (.val .non)
theorem val_of {f : Nat} {os : List O} (h : PF (G 40 f os) (fun o _ => o = oB true) fun _ _ => False) : ∃ fin, Cs (lw.xcl.map (·.1)) lw.Fs 40 f os = .ok (.v (.bl true)) fin := by
  unfold PF G Ds at h
  cases hc : Cs (lw.xcl.map (·.1)) lw.Fs 40 f os with
  | ok r fin =>
    rw [hc] at h
    have h : r = oB true := h
    exact ⟨fin, by rw [h]⟩
  | exc x fin => rw [hc] at h; exact h.elim
  | bad => rw [hc] at h; exact h.elim

theorem v23 {k : Nat} {a b m : Int} {N Z} (hm : 0 < m) (hd : divOk m = true) (h : ∀ r a', 0 ≤ r → r < m → N (oI r) [oP a' b, oI m]) : PF (G (k + 2) 23 [oP a b, oI m]) N Z := by
  refine pf_run s23 rfl ?_
  array_mem_dec
  refine if_d (fun hb => ?_) fun hb => ?_
  · array_mem_dec
    exact h _ _ (Int.emod_nonneg _ (by omega)) (Int.emod_lt_of_pos _ hm)
  · array_mem_dec
    exact h _ _ (Int.emod_nonneg _ (by omega)) (Int.emod_lt_of_pos _ hm)

theorem v24 {k : Nat} {n b : Int} {N Z} (h0 : 0 ≤ n) (h1 : n ≤ 2 * b) (h : ∀ r, -b ≤ r → r ≤ b → N (oI r) [oI n]) : PF (G (k + 2) 24 [oI n]) N Z := by
  refine pf_run s24 rfl ?_
  array_mem_dec
  refine if_d (fun hb => ?_) fun hb => ?_
  · array_mem_dec
    exact h _ (by
                 omega) (by omega)
  · array_mem_dec
    exact h _ (by
                 omega) (by omega)

theorem log_small {n : Nat} (h : n < 2 ^ 250) : n.log2 < 250 := by
  by_cases z : n = 0
  · subst z; decide
  · exact (Nat.log2_lt z).mpr h
theorem mul_small {i j : Int} (hi : i.natAbs < 2 ^ 250) (hj : j.natAbs < 2 ^ 250) : mulOk i j = true := by
  have h1 := log_small hi
  have h2 := log_small hj
  unfold mulOk
  rw [Bool.or_eq_true]
  right
  exact decide_eq_true
                      (by omega)

theorem v26 {k : Nat} {a b : Int} {N Z} (h : ∀ r a', -10 ^ 56 ≤ r → r ≤ 10 ^ 56 → N (oI r) [oP a' b]) : PF (G (k + 3) 26 [oP a b]) N Z := by
  refine pf_run s26 rfl ?_
  array_mem_dec
  refine v23 (by decide) (by decide +kernel) fun r1 a1 l1 u1 => ?_
  array_mem_dec
  refine if_d (fun hb => ?_) fun hb => ?_
  · array_mem_dec
    refine v23 (by decide) (by decide +kernel) fun r2 a2 l2 u2 => ?_
    array_mem_dec
    refine op_mul (mul_small (by omega) (by decide)) ?_
    array_mem_dec
    refine v23 (by decide) (by decide +kernel) fun r3 a3 l3 u3 => ?_
    array_mem_dec
    refine v24 (b := 10 ^ 56) (by omega) (by omega) fun r l u => ?_
    array_mem_dec
    exact h _ _ l u
  · array_mem_dec
    refine v23 (by decide) (by decide +kernel) fun r2 a2 l2 u2 => ?_
    array_mem_dec
    refine v24 (b := 10 ^ 56) (by omega) (by omega) fun r l u => ?_
    array_mem_dec
    exact h _ _ l u

theorem at_map {ns : List Int} {y : Int} (h0 : 0 ≤ y) (h : y < (ns.length : Nat)) : ∃ x, (ns.map D.int)[y.toNat]? = some (.int x) :=
  ⟨ns[y.toNat]'(by omega), by simp⟩
theorem v22 {k : Nat} {ns : List Int} {y : Int} {N Z} (hl : ns.length ≤ 63) (h0 : 0 ≤ y) (hi : y < 100) (h : ∀ a b, N (oP a b) [.v (.lst (ns.map D.int)), oI y]) : PF (G (k + 2) 22 [.v (.lst (ns.map D.int)), oI y]) N Z := by
  refine pf_run s22 rfl ?_
  have hs : (ns.map D.int).length ≤ sizeLine := by sizeOf_list_dec
  array_mem_dec
  refine if_d (fun hb => ?_) fun hb => ?_
  · array_mem_dec
    exact h _ _
  · rw [List.length_map] at hb
    obtain ⟨x, e⟩ := at_map (ns := ns) h0 (by omega)
    array_mem_dec
    refine so_atz h0 e ?_
    array_mem_dec
    refine if_d (fun hb => ?_) fun hb => ?_
    · array_mem_dec
      refine so_atz h0 e ?_
      array_mem_dec
      exact h _ _
    · array_mem_dec
      refine so_atz h0 e ?_
      array_mem_dec
      exact h _ _
end LW


namespace LW
open VN FM

theorem v25 {k : Nat} {i : Int} {N Z} (h : N (oB true) [oI i]) : PF (G (k + 2) 25 [oI i]) N Z := by
  refine pf_run s25 rfl ?_
  array_mem_dec
  exact h

def isW (s : Str) : Bool := decide (0 < ((s.length : Nat) : Int)) && decide (((s.length : Nat) : Int) ≤ 8) && (s.cps.toList.map inL).all id
theorem v4 {k : Nat} {s : Str} {N Z} (hs : s.length ≤ 100000) (h : N (oB (isW s)) [oS s]) : PF (G (k + 2) 4 [oS s]) N Z := by
  refine pf_run s4 rfl ?_
  have hz : s.length ≤ sizeLine := by sizeOf_list_dec
  array_mem_dec
  unfold isW at h
  refine if_d (fun hb => ?_) fun hb => ?_
  · array_mem_dec
    rw [decide_eq_true hb] at h
    refine if_d (fun hc => ?_) fun hc => ?_
    · rw [decide_eq_true hc] at h
      array_mem_dec
      refine comp_map (fun c : Nat => D.str ⟨#[c]⟩) (fun c => D.bl (inL c)) s.cps.toList rfl (by show s.length ≤ 100000; omega) ?_ ?_
      · intro x hx P hP
        array_mem_dec
        exact ⟨rfl, hP⟩
      · array_mem_dec
        refine so_all (bs := s.cps.toList.map inL) (by simp) ?_
        array_mem_dec
        exact h
    · rw [decide_eq_false hc] at h
      array_mem_dec
      exact h
  · rw [decide_eq_false hb] at h
    array_mem_dec
    exact h

def isN (s : Str) : Bool := isW s && !decide (s = FR)
theorem v5 {k : Nat} {s : Str} {N Z} (hs : s.length ≤ 100000) (ho : PyData.strOk s = true) (h : N (oB (isN s)) [oS s]) : PF (G (k + 3) 5 [oS s]) N Z := by
  refine pf_run s5 rfl ?_
  array_mem_dec
  refine v4 hs ?_
  array_mem_dec
  unfold isN at h
  refine if_b (fun hb => ?_) fun hb => ?_
  · array_mem_dec
    refine op_ne (eqD_ss ho (by decide +kernel)) ?_
    array_mem_dec
    rw [hb] at h
    exact h
  · rw [hb] at h
    array_mem_dec
    exact h

theorem v7 {k : Nat} {c : Int} {ts : List D} {N Z} (h : N oN [.obj 30 [.val (.int c), .val (.tup ts)], oI c, oT ts]) : PF (G (k + 2) 7 [.obj 30 [], oI c, oT ts]) N Z := by
  refine pf_run s7 rfl ?_
  array_mem_dec
  exact h

theorem v21 {k : Nat} {s : Str} {lo hi : Int} {N Z} (hs : s.length ≤ 100000) (ho : PyData.strOk s = true) (h1 : isN s = true) (h2 : lo ≤ hi) (h : N (.obj 30 [.val (.int 0), .val (.tup [Tm.d ⟨s, 1, lo, hi⟩])]) [oS s, oI lo, oI hi]) : PF (G (k + 4) 21 [oS s, oI lo, oI hi]) N Z := by
  refine pf_run s21 rfl ?_
  array_mem_dec
  refine v5 hs ho ?_
  rw [h1]
  array_mem_dec
  refine if_q (by omega) ?_
  array_mem_dec
  refine v7 ?_
  array_mem_dec
  exact h
end LW


namespace LW
open VN FM
abbrev oM (f : Fm) : O := .obj 30 [.val (.int f.c), .val (.tup (f.ts.map Tm.d))]
/-- a form, frozen or just made -/
abbrev IsF (o : O) (f : Fm) : Prop := o = oF f ∨ o = oM f
theorem pbF0 {env : VE.Env} {i : Nat} {o1 : O} {f : Fm} {r : Out O} {N : D → VE.Env → Prop} {Z} (h1 : IsF o1 f) (h : gt env i = some o1) (p : N (.int f.c) env) : PE (bor (.plcf i 30 0) r env) N Z := by
  rcases h1 with rfl | rfl
  · exact pb_plcv h rfl p
  · exact pb_plcf h rfl (cz_v p)
theorem pbF1 {env : VE.Env} {i : Nat} {o1 : O} {f : Fm} {r : Out O} {N : D → VE.Env → Prop} {Z} (h1 : IsF o1 f) (h : gt env i = some o1) (p : N (.tup (f.ts.map Tm.d)) env) : PE (bor (.plcf i 30 1) r env) N Z := by
  rcases h1 with rfl | rfl
  · exact pb_plcv h rfl p
  · exact pb_plcf h rfl (cz_v p)
theorem poF0 {g : Ge} {env : VE.Env} {i : Nat} {o1 : O} {f : Fm} {N : O → VE.Env → Prop} {Z} (h1 : IsF o1 f) (h : gt env i = some o1) (p : N (oI f.c) env) : PE (evO g (.plcf i 30 0) env) N Z := by
  rcases h1 with rfl | rfl
  · exact po_plcv h rfl p
  · exact po_plcf h rfl p
theorem poF1 {g : Ge} {env : VE.Env} {i : Nat} {o1 : O} {f : Fm} {N : O → VE.Env → Prop} {Z} (h1 : IsF o1 f) (h : gt env i = some o1) (p : N (oT (f.ts.map Tm.d)) env) : PE (evO g (.plcf i 30 1) env) N Z := by
  rcases h1 with rfl | rfl
  · exact po_plcv h rfl p
  · exact po_plcf h rfl p

theorem tms_eq (A : List Tm) : ((sortS (nms A)).filter fun n => co A n != 0).map (fun n => D.tup ([D.str n] ++ [.int (co A n), .int ((fnd A n).getD ⟨n, 0, 0, 0⟩).lo, .int ((fnd A n).getD ⟨n, 0, 0, 0⟩).hi])) = (srt A).map Tm.d := by
  have go : ∀ l : List Str, (∀ n ∈ l, n ∈ nms A) → (l.filter fun n => co A n != 0).map (fun n => D.tup ([D.str n] ++ [.int (co A n), .int ((fnd A n).getD ⟨n, 0, 0, 0⟩).lo, .int ((fnd A n).getD ⟨n, 0, 0, 0⟩).hi])) = (((l.filterMap (fnd A)).filter fun x => x.t != 0).map Tm.d) := by
    intro l
    induction l with
    | nil => intro _; rfl
    | cons n l ih =>
      intro h
      have i := ih fun m hm => h m (List.mem_cons_of_mem _ hm)
      cases e : fnd A n with
      | none => exact absurd (h n List.mem_cons_self) (fnd_none.mp e)
      | some x =>
        have ec : co A n = x.t := by unfold co; rw [e]
        rw [List.filterMap_cons_some e]
        by_cases q : x.t = 0
        · have q1 : ¬ (co A n != 0) = true := by simp [ec, q]
          have q2 : ¬ (x.t != 0) = true := by simp [q]
          rw [List.filter_cons_of_neg (p := fun n => co A n != 0) q1, List.filter_cons_of_neg (p := fun x : Tm => x.t != 0) q2, i]
        · have q1 : (co A n != 0) = true := by simp [ec, q]
          have q2 : (x.t != 0) = true := by simp [q]
          rw [List.filter_cons_of_pos (p := fun n => co A n != 0) q1, List.filter_cons_of_pos (p := fun x : Tm => x.t != 0) q2, List.map_cons, List.map_cons, i, e, ec, ← (fnd_some e).2]
          rfl
  exact go _ fun n h => mem_sortS.mp h
abbrev E6 (o1 o2 : O) (s : Int) (A : List Tm) (w4 w5 w6 w7 w8 : Option O) : VE.Env := [some o1, some o2, some (oI s), some (.cell (.dct (kys A) (vls A))), w4, w5, w6, w7, w8, none, none]
theorem v6 {k : Nat} {f g : Fm} {s : Int} {o1 : O} {N Z} (h1 : IsF o1 f) (hs : -(2 ^ 64) < s ∧ s < 2 ^ 64) (n1 : (nms f.ts).Nodup) (l1 : f.ts.length + g.ts.length ≤ 60)
    (hok : ∀ h, mrg f g s = .ok h → N (oM h) [o1, oF g, oI s]) (hx : ∀ n, mrg f g s = .error n → Z ⟨5, [.str n]⟩ [o1, oF g, oI s]) : PF (G (k + 4) 6 [o1, oF g, oI s]) N Z := by
  refine pf_run s6 rfl ?_
  array_mem_dec
  refine pbF1 h1 rfl ?_
  array_mem_dec
  refine for_inv Tm.d (fun d r e => ∃ w4 w5 w6 w7, e = E6 o1 (oF g) s d w4 w5 w6 w7 none) f.ts rfl ⟨none, none, none, none, rfl⟩ ?_ ?_
  · rintro d x r e he ⟨w4, w5, w6, w7, rfl⟩
    have hd : putA d x = d ++ [x] := by
      unfold putA
      rw [if_neg]
      intro hm
      rw [he, nms, List.map_append, List.map_cons] at n1
      exact (List.nodup_append.mp n1).2.2 _ hm _ List.mem_cons_self rfl
    have hl : (kys d).length < sizeLine := by
      have : d.length ≤ f.ts.length := by rw [he, List.length_append]; omega
      exact sz_lt (m := 100) (by rw [List.length_map]; omega) (by decide)
    array_mem_dec
    rw [show put (kys d) (vls d) (.inr x.n) (.tup [.int x.t, .int x.lo, .int x.hi]) = _ from put_putA d x, hd]
    exact ⟨_, _, _, _, rfl⟩
  · rintro e ⟨w4, w5, w6, w7, rfl⟩
    array_mem_dec
    refine for_inv Tm.d (fun d r e => ∃ A w4 w5 w6 w7 w8, e = E6 o1 (oF g) s A w4 w5 w6 w7 w8 ∧ mrgA s f.ts g.ts = mrgA s A r ∧ (nms A).Nodup ∧ A.length ≤ f.ts.length + d.length) g.ts rfl ⟨f.ts, _, _, _, _, _, rfl, rfl, n1, by simp⟩ ?_ ?_
    · rintro d x r e he ⟨A, w4, w5, w6, w7, w8, rfl, hm, hn, hl⟩
      have hdl : d.length < g.ts.length := by rw [he, List.length_append, List.length_cons]; omega
      have hl : (kys A).length < sizeLine := by
        exact sz_lt (m := 100) (by rw [List.length_map]; omega) (by decide)
      have lk := look_fnd A x.n
      have fin : unl A x = false → mrgA s f.ts g.ts = mrgA s (putA A ⟨x.n, co A x.n + s * x.t, x.lo, x.hi⟩) r := fun h => by
        rw [hm, mrgA, if_neg (by rw [h]; simp)]
      have len : (putA A ⟨x.n, co A x.n + s * x.t, x.lo, x.hi⟩).length ≤ f.ts.length + (d ++ [x]).length := by
        have e := congrArg List.length (nms_putA A ⟨x.n, co A x.n + s * x.t, x.lo, x.hi⟩)
        rw [List.length_map] at e
        rw [e, List.length_append]
        split
        · rw [List.length_map]; simp; omega
        · rw [List.length_append, List.length_map]; simp; omega
      array_mem_dec
      rw [lk]
      cases hf : fnd A x.n with
      | none =>
        have c0 : co A x.n = 0 := by unfold co; rw [hf]
        have u0 : unl A x = false := by unfold unl; rw [hf]
        refine if_f ?_
        array_mem_dec
        rw [c0] at fin len
        rw [show put (kys A) (vls A) (.inr x.n) (.tup [.int (0 + s * x.t), .int x.lo, .int x.hi]) = _ from put_putA A ⟨x.n, 0 + s * x.t, x.lo, x.hi⟩]
        exact ⟨_, _, _, _, _, _, rfl, fin u0, nodup_putA hn, len⟩
      | some z =>
        have cz : co A x.n = z.t := by unfold co; rw [hf]
        have lz : look (kys A) (vls A) (.inr x.n) = some z.v := by rw [lk, hf]; rfl
        refine if_t ?_
        array_mem_dec
        refine so_of lz ?_
        array_mem_dec
        refine so_of lz ?_
        array_mem_dec
        rw [show cut [D.int z.t, .int z.lo, .int z.hi] (some 1) none = [.int z.lo, .int z.hi] from rfl]
        by_cases q : z.lo = x.lo ∧ z.hi = x.hi
        · have u0 : unl A x = false := by unfold unl; rw [hf]; simp [q.1, q.2]
          refine op_ne (eqD_t (n := 1) (by simp [plN]) (by decide) (by rw [q.1, q.2])) ?_
          array_mem_dec
          rw [cz] at fin len
          rw [show put (kys A) (vls A) (.inr x.n) (.tup [.int (z.t + s * x.t), .int x.lo, .int x.hi]) = _ from put_putA A ⟨x.n, z.t + s * x.t, x.lo, x.hi⟩]
          exact ⟨_, _, _, _, _, _, rfl, fin u0, nodup_putA hn, len⟩
        · have u1 : unl A x = true := by unfold unl; rw [hf]; simp only [Bool.not_eq_true', decide_eq_false_iff_not]; exact q
          refine op_ne (eqD_f (n := 1) (by simp [plN]) (by simp [plN]) (by decide) (fun e => q ?_)) ?_
          · simpa using e
          array_mem_dec
          refine hx x.n ?_
          unfold mrg
          rw [hm, mrgA, if_pos u1]
    · rintro e ⟨A, w4, w5, w6, w7, w8, rfl, hm, hn, hl⟩
      have hM : mrg f g s = .ok ⟨f.c + s * g.c, srt A⟩ := by
        unfold mrg
        rw [hm]
        rfl
      have hok := hok _ hM
      have hlA : A.length < 64 := by omega
      array_mem_dec
      refine comp_map (fun x : Tm => D.str x.n) (fun x => D.str x.n) A (by simp [kD]) (by omega) ?_ ?_
      · intro x hx P hP
        array_mem_dec
        exact ⟨rfl, hP⟩
      · array_mem_dec
        refine so_sort (ss := nms A) (by simp) (by simpa using hlA) ?_
        array_mem_dec
        refine comp_flt D.str (fun n => D.tup ([D.str n] ++ [.int (co A n), .int ((fnd A n).getD ⟨n, 0, 0, 0⟩).lo, .int ((fnd A n).getD ⟨n, 0, 0, 0⟩).hi])) (fun n => co A n != 0) (sortS (nms A)) rfl (by rw [len_sortS, List.length_map]; omega) ?_ ?_
        · intro n hn' P Q hP hQ
          have hnm : n ∈ nms A := mem_sortS.mp hn'
          cases e : fnd A n with
          | none => exact absurd hnm (fnd_none.mp e)
          | some x =>
            have lz : look (kys A) (vls A) (.inr n) = some x.v := by rw [look_fnd, e]; rfl
            have ec : co A n = x.t := by unfold co; rw [e]
            simp only [e, ec] at hP hQ
            array_mem_dec
            refine so_of lz ?_
            array_mem_dec
            refine if_d (fun q => ?_) fun q => ?_
            · array_mem_dec
              exact ⟨rfl, hQ (by simp [q])⟩
            · array_mem_dec
              refine so_of lz ?_
              array_mem_dec
              exact ⟨rfl, hP (by simp [q])⟩
        · rw [tms_eq]
          have hls : (srt A).length ≤ 100 := by
            have h1 : (srt A).length ≤ (sortS (nms A)).length := Nat.le_trans (List.length_filter_le _ _) (List.length_filterMap_le _ _)
            rw [len_sortS, List.length_map] at h1
            omega
          array_mem_dec
          refine poF0 h1 rfl ?_
          array_mem_dec
          refine v7 ?_
          array_mem_dec
          exact hok

/-- the second one is a whole number -/
theorem v6i {k : Nat} {f : Fm} {s i : Int} {o1 : O} {N Z} (h1 : IsF o1 f) (hs : -(2 ^ 64) < s ∧ s < 2 ^ 64) (h : N (oM ⟨f.c + s * i, f.ts⟩) [o1, oI i, oI s]) : PF (G (k + 4) 6 [o1, oI i, oI s]) N Z := by
  refine pf_run s6 rfl ?_
  array_mem_dec
  refine poF0 h1 rfl ?_
  array_mem_dec
  refine poF1 h1 rfl ?_
  array_mem_dec
  refine v7 ?_
  array_mem_dec
  exact h
end LW


namespace LW
open VN FM

def loT (x : Tm) : Int := if 0 < x.t then x.t * x.lo else x.t * x.hi
def hiT (x : Tm) : Int := if 0 < x.t then x.t * x.hi else x.t * x.lo
def lstF (f : Fm) : Int := f.c + (f.ts.map loT).sum
def mstF (f : Fm) : Int := f.c + (f.ts.map hiT).sum
abbrev MulT (f : Fm) : Prop := ∀ x ∈ f.ts, mulOk x.t x.lo = true ∧ mulOk x.t x.hi = true

theorem v8 {k : Nat} {f : Fm} {o1 : O} {N Z} (h1 : IsF o1 f) (hb : MulT f) (hl : f.ts.length ≤ 1000) (h : N (oI (lstF f)) [o1]) : PF (G (k + 2) 8 [o1]) N Z := by
  refine pf_run s8 rfl ?_
  array_mem_dec
  refine pbF1 h1 rfl ?_
  array_mem_dec
  refine comp_map Tm.d (fun x => D.int (loT x)) f.ts rfl (by omega) ?_ ?_
  · intro x hx P hP
    have m1 := (hb x hx).1
    have m2 := (hb x hx).2
    unfold loT at hP
    array_mem_dec
    refine if_d (fun q => ?_) fun q => ?_
    · array_mem_dec
      rw [if_pos q] at hP
      exact ⟨rfl, hP⟩
    · array_mem_dec
      rw [if_neg q] at hP
      exact ⟨rfl, hP⟩
  · array_mem_dec
    refine poF0 h1 rfl ?_
    array_mem_dec
    refine so_sum (is := f.ts.map loT) (by simp) ?_
    array_mem_dec
    exact h

theorem v9 {k : Nat} {f : Fm} {o1 : O} {N Z} (h1 : IsF o1 f) (hb : MulT f) (hl : f.ts.length ≤ 1000) (h : N (oI (mstF f)) [o1]) : PF (G (k + 2) 9 [o1]) N Z := by
  refine pf_run s9 rfl ?_
  array_mem_dec
  refine pbF1 h1 rfl ?_
  array_mem_dec
  refine comp_map Tm.d (fun x => D.int (hiT x)) f.ts rfl (by omega) ?_ ?_
  · intro x hx P hP
    have m1 := (hb x hx).1
    have m2 := (hb x hx).2
    unfold hiT at hP
    array_mem_dec
    refine if_d (fun q => ?_) fun q => ?_
    · array_mem_dec
      rw [if_pos q] at hP
      exact ⟨rfl, hP⟩
    · array_mem_dec
      rw [if_neg q] at hP
      exact ⟨rfl, hP⟩
  · array_mem_dec
    refine poF0 h1 rfl ?_
    array_mem_dec
    refine so_sum (is := f.ts.map hiT) (by simp) ?_
    array_mem_dec
    exact h

def valF (f : Fm) (rho : Str → Int) : Int := f.c + (f.ts.map fun x => x.t * rho x.n).sum

theorem v10 {k : Nat} {f : Fm} {ks : List Key} {vs : List D} {rho : Str → Int} {o1 : O} {N Z} (h1 : IsF o1 f) (hl : f.ts.length ≤ 1000) (hv : ∀ x ∈ f.ts, ∀ d, look ks vs (.inr x.n) = some d → d = .int (rho x.n) ∧ mulOk x.t (rho x.n) = true)
    (hok : (∀ x ∈ f.ts, (look ks vs (.inr x.n)).isSome = true) → N (oI (valF f rho)) [o1, .cell (.dct ks vs)]) (hx : ∀ p x r, f.ts = p ++ x :: r → (∀ y ∈ p, (look ks vs (.inr y.n)).isSome = true) → look ks vs (.inr x.n) = none → Z ⟨4, [.str x.n]⟩ [o1, .cell (.dct ks vs)]) : PF (G (k + 2) 10 [o1, .cell (.dct ks vs)]) N Z := by
  refine pf_run s10 rfl ?_
  array_mem_dec
  refine pbF1 h1 rfl ?_
  array_mem_dec
  refine for_inv Tm.d (fun d r e => (∃ w, e = [some o1, some (.cell (.dct ks vs)), w]) ∧ ∀ x ∈ d, (look ks vs (.inr x.n)).isSome = true) f.ts rfl ⟨⟨none, rfl⟩, by simp⟩ ?_ ?_
  · rintro d x r e he ⟨⟨w, rfl⟩, hd⟩
    array_mem_dec
    refine if_b (fun q => ?_) fun q => ?_
    · array_mem_dec
      refine ⟨⟨_, rfl⟩, fun y hy => ?_⟩
      rcases List.mem_append.mp hy with w | w
      · exact hd y w
      · rw [List.mem_singleton.mp w]; exact q
    · array_mem_dec
      rw [Option.isSome_eq_false_iff, Option.isNone_iff_eq_none] at q
      exact hx d x r he hd q
  · rintro e ⟨⟨w, rfl⟩, hd⟩
    have hok := hok hd
    array_mem_dec
    refine poF0 h1 rfl ?_
    array_mem_dec
    refine pbF1 h1 rfl ?_
    array_mem_dec
    refine comp_map Tm.d (fun x => D.int (x.t * rho x.n)) f.ts rfl (by omega) ?_ ?_
    · intro x hx P hP
      obtain ⟨d, hd'⟩ := Option.isSome_iff_exists.mp (hd x hx)
      obtain ⟨e1, m1⟩ := hv x hx d hd'
      subst e1
      array_mem_dec
      refine so_of hd' ?_
      array_mem_dec
      exact ⟨rfl, hP⟩
    · array_mem_dec
      refine so_sum (is := f.ts.map fun x => x.t * rho x.n) (by simp) ?_
      array_mem_dec
      exact hok

def plF (f : Fm) : Prop := ∀ x ∈ f.ts, PyData.strOk x.n = true
theorem plF_ok {f : Fm} (h : plF f) : plN 2 (.tup (f.ts.map Tm.d)) = true := by
  unfold plN
  rw [List.all_eq_true]
  intro d hd
  obtain ⟨x, hx, rfl⟩ := List.mem_map.mp hd
  simp [plN, h x hx]
theorem tmd_inj {x y : Tm} (h : x.d = y.d) : x = y := by
  obtain ⟨a, b, c, d⟩ := x
  obtain ⟨a', b', c', d'⟩ := y
  simp only [Tm.d, D.tup.injEq, List.cons.injEq, D.str.injEq, D.int.injEq, and_true] at h
  obtain ⟨rfl, rfl, rfl, rfl⟩ := h
  rfl
theorem tms_inj : ∀ {xs ys : List Tm}, xs.map Tm.d = ys.map Tm.d → xs = ys
  | [], [], _ => rfl
  | [], _ :: _, h => by cases h
  | _ :: _, [], h => by cases h
  | x :: xs, y :: ys, h => by
    rw [List.map_cons, List.map_cons, List.cons.injEq] at h
    rw [tmd_inj h.1, tms_inj h.2]
theorem eqTs {f g : Fm} (h1 : plF f) (h2 : plF g) : eqD (.tup (f.ts.map Tm.d)) (.tup (g.ts.map Tm.d)) = some (decide (f.ts = g.ts)) := by
  rw [eqD_pl (plF_ok h1) (plF_ok h2) (by decide)]
  congr 1
  rw [Bool.eq_iff_iff]
  simp only [decide_eq_true_eq]
  exact ⟨fun h => tms_inj (D.tup.inj h), fun h => by rw [h]⟩

theorem v11 {k : Nat} {f g : Fm} {N Z} (h1 : plF f) (h2 : plF g) (h : N (oB (decide (f = g))) [oF f, oF g]) : PF (G (k + 2) 11 [oF f, oF g]) N Z := by
  refine pf_run s11 rfl ?_
  have e0 : decide (f = g) = (decide (f.c = g.c) && decide (f.ts = g.ts)) := by
    obtain ⟨a, b⟩ := f
    obtain ⟨c, d⟩ := g
    rw [Bool.eq_iff_iff, Bool.and_eq_true, decide_eq_true_iff, decide_eq_true_iff, decide_eq_true_iff, Fm.mk.injEq]
  rw [e0] at h
  array_mem_dec
  refine if_d (fun q => ?_) fun q => ?_
  · rw [decide_eq_true q] at h
    array_mem_dec
    refine op_eq (eqTs h1 h2) ?_
    array_mem_dec
    exact h
  · rw [decide_eq_false q] at h
    array_mem_dec
    exact h
theorem v11i {k : Nat} {f : Fm} {i : Int} {N Z} (h : N (oB false) [oF f, oI i]) : PF (G (k + 2) 11 [oF f, oI i]) N Z := by
  refine pf_run s11 rfl ?_
  array_mem_dec
  exact h

theorem v12 {k : Nat} {f g : Fm} {N Z} (n1 : (nms f.ts).Nodup) (l1 : f.ts.length + g.ts.length ≤ 60)
    (hok : ∀ h, mrg f g 1 = .ok h → N (oM h) [oF f, oF g]) (hx : ∀ n, mrg f g 1 = .error n → Z ⟨5, [.str n]⟩ [oF f, oF g]) : PF (G (k + 5) 12 [oF f, oF g]) N Z := by
  refine pf_run s12 rfl ?_
  array_mem_dec
  refine v6 (.inl rfl) (by decide) n1 l1 (fun h e => ?_) fun n e => ?_
  · array_mem_dec
    exact hok h e
  · array_mem_dec
    exact hx n e
theorem v12i {k : Nat} {f : Fm} {i : Int} {N Z} (h : N (oM ⟨f.c + i, f.ts⟩) [oF f, oI i]) : PF (G (k + 5) 12 [oF f, oI i]) N Z := by
  refine pf_run s12 rfl ?_
  array_mem_dec
  refine v6i (.inl rfl) (by decide) ?_
  rw [Int.one_mul]
  array_mem_dec
  exact h

theorem v13i {k : Nat} {f : Fm} {i : Int} {N Z} (h : N (oM ⟨f.c + i, f.ts⟩) [oF f, oI i]) : PF (G (k + 5) 13 [oF f, oI i]) N Z := by
  refine pf_run s13 rfl ?_
  array_mem_dec
  refine v6i (.inl rfl) (by decide) ?_
  rw [Int.one_mul]
  array_mem_dec
  exact h

theorem v14 {k : Nat} {f g : Fm} {N Z} (n1 : (nms f.ts).Nodup) (l1 : f.ts.length + g.ts.length ≤ 60)
    (hok : ∀ h, mrg f g (-1) = .ok h → N (oM h) [oF f, oF g]) (hx : ∀ n, mrg f g (-1) = .error n → Z ⟨5, [.str n]⟩ [oF f, oF g]) : PF (G (k + 5) 14 [oF f, oF g]) N Z := by
  refine pf_run s14 rfl ?_
  array_mem_dec
  refine v6 (.inl rfl) (by decide) n1 l1 (fun h e => ?_) fun n e => ?_
  · array_mem_dec
    exact hok h e
  · array_mem_dec
    exact hx n e

theorem v14i {k : Nat} {f : Fm} {i : Int} {N Z} (h : N (oM ⟨f.c - i, f.ts⟩) [oF f, oI i]) : PF (G (k + 5) 14 [oF f, oI i]) N Z := by
  refine pf_run s14 rfl ?_
  array_mem_dec
  refine v6i (.inl rfl) (by decide) ?_
  rw [show f.c + -1 * i = f.c - i by omega]
  array_mem_dec
  exact h

theorem v15i {k : Nat} {f : Fm} {i : Int} {N Z} (l1 : f.ts.length ≤ 60)
    (hok : ∀ h, mrg ⟨i, []⟩ f (-1) = .ok h → N (oM h) [oF f, oI i]) (hx : ∀ n, mrg ⟨i, []⟩ f (-1) = .error n → Z ⟨5, [.str n]⟩ [oF f, oI i]) : PF (G (k + 5) 15 [oF f, oI i]) N Z := by
  refine pf_run s15 rfl ?_
  array_mem_dec
  refine v7 ?_
  array_mem_dec
  refine v6 (f := ⟨i, []⟩) (.inr rfl) (by decide) List.nodup_nil (by simpa using l1) (fun h e => ?_) fun n e => ?_
  · array_mem_dec
    exact hok h e
  · array_mem_dec
    exact hx n e

def mulF (f : Fm) (i : Int) : Fm := ⟨f.c * i, if i = 0 then [] else f.ts.map fun x => ⟨x.n, x.t * i, x.lo, x.hi⟩⟩

theorem v16 {k : Nat} {f : Fm} {i : Int} {N Z} (hl : f.ts.length ≤ 1000) (m0 : mulOk f.c i = true) (hm : ∀ x ∈ f.ts, mulOk x.t i = true) (h : N (oM (mulF f i)) [oF f, oI i]) : PF (G (k + 4) 16 [oF f, oI i]) N Z := by
  refine pf_run s16 rfl ?_
  array_mem_dec
  refine comp_flt Tm.d (fun x => D.tup [.str x.n, .int (x.t * i), .int x.lo, .int x.hi]) (fun _ => decide (¬ i = 0)) f.ts rfl (by omega) ?_ ?_
  · intro x hx P Q hP hQ
    have m1 := hm x hx
    array_mem_dec
    refine if_d (fun q => ?_) fun q => ?_
    · array_mem_dec
      exact ⟨rfl, hQ (by simp [q])⟩
    · array_mem_dec
      exact ⟨rfl, hP (by simp [q])⟩
  · have e : (f.ts.filter fun _ => decide (¬ i = 0)).map (fun x => D.tup [.str x.n, .int (x.t * i), .int x.lo, .int x.hi]) = (mulF f i).ts.map Tm.d := by
      unfold mulF
      by_cases q : i = 0
      · simp [q]
      · have e1 : (f.ts.filter fun _ => decide (¬ i = 0)) = f.ts := List.filter_eq_self.mpr fun _ _ => by simp [q]
        rw [e1, if_neg q, List.map_map]
        rfl
    rw [e]
    have hl2 : (mulF f i).ts.length ≤ 1000 := by
      unfold mulF
      by_cases q : i = 0
      · simp [q]
      · simpa [q] using hl
    array_mem_dec
    refine v7 ?_
    array_mem_dec
    exact h

theorem v17 {k : Nat} {f : Fm} {i : Int} {N Z} (hl : f.ts.length ≤ 1000) (m0 : mulOk f.c i = true) (hm : ∀ x ∈ f.ts, mulOk x.t i = true) (h : N (oM (mulF f i)) [oF f, oI i]) : PF (G (k + 5) 17 [oF f, oI i]) N Z := by
  refine pf_run s17 rfl ?_
  array_mem_dec
  refine v16 hl m0 hm ?_
  array_mem_dec
  exact h

theorem v18 {k : Nat} {f : Fm} {N Z} (hl : f.ts.length ≤ 1000) (h : N (oM (mulF f (-1))) [oF f]) : PF (G (k + 5) 18 [oF f]) N Z := by
  refine pf_run s18 rfl ?_
  array_mem_dec
  refine v16 hl (mulR _ (by decide)) (fun _ _ => mulR _ (by decide)) ?_
  array_mem_dec
  exact h

theorem v19 {k : Nat} {f g : Fm} {N Z} (n1 : (nms f.ts).Nodup) (l1 : f.ts.length + g.ts.length ≤ 60)
    (hok : ∀ h, mrg f g (-1) = .ok h → (MulT h ∧ h.ts.length ≤ 1000) ∧ N (oB (decide (mstF h ≤ 0))) [oF f, oF g]) (hx : ∀ n, mrg f g (-1) = .error n → Z ⟨5, [.str n]⟩ [oF f, oF g]) : PF (G (k + 6) 19 [oF f, oF g]) N Z := by
  refine pf_run s19 rfl ?_
  array_mem_dec
  refine v6 (.inl rfl) (by decide) n1 l1 (fun h e => ?_) fun n e => ?_
  · obtain ⟨⟨m1, m2⟩, m3⟩ := hok h e
    array_mem_dec
    refine v9 (.inr rfl) m1 m2 ?_
    array_mem_dec
    exact m3
  · array_mem_dec
    exact hx n e
theorem v19i {k : Nat} {f : Fm} {i : Int} {N Z} (hm : MulT f) (hl : f.ts.length ≤ 1000) (h : N (oB (decide (mstF ⟨f.c - i, f.ts⟩ ≤ 0))) [oF f, oI i]) : PF (G (k + 6) 19 [oF f, oI i]) N Z := by
  refine pf_run s19 rfl ?_
  array_mem_dec
  refine v6i (.inl rfl) (by decide) ?_
  rw [show f.c + -1 * i = f.c - i by omega]
  array_mem_dec
  refine v9 (.inr rfl) (f := ⟨f.c - i, f.ts⟩) hm hl ?_
  array_mem_dec
  exact h

theorem v20 {k : Nat} {f g : Fm} {N Z} (n1 : (nms f.ts).Nodup) (l1 : f.ts.length + g.ts.length ≤ 60)
    (hok : ∀ h, mrg f g (-1) = .ok h → (MulT h ∧ h.ts.length ≤ 1000) ∧ N (oB (decide (0 ≤ lstF h))) [oF f, oF g]) (hx : ∀ n, mrg f g (-1) = .error n → Z ⟨5, [.str n]⟩ [oF f, oF g]) : PF (G (k + 6) 20 [oF f, oF g]) N Z := by
  refine pf_run s20 rfl ?_
  array_mem_dec
  refine v6 (.inl rfl) (by decide) n1 l1 (fun h e => ?_) fun n e => ?_
  · obtain ⟨⟨m1, m2⟩, m3⟩ := hok h e
    array_mem_dec
    refine v8 (.inr rfl) m1 m2 ?_
    array_mem_dec
    exact m3
  · array_mem_dec
    exact hx n e

theorem v20i {k : Nat} {f : Fm} {i : Int} {N Z} (hm : MulT f) (hl : f.ts.length ≤ 1000) (h : N (oB (decide (0 ≤ lstF ⟨f.c - i, f.ts⟩))) [oF f, oI i]) : PF (G (k + 6) 20 [oF f, oI i]) N Z := by
  refine pf_run s20 rfl ?_
  array_mem_dec
  refine v6i (.inl rfl) (by decide) ?_
  rw [show f.c + -1 * i = f.c - i by omega]
  array_mem_dec
  refine v8 (.inr rfl) (f := ⟨f.c - i, f.ts⟩) hm hl ?_
  array_mem_dec
  exact h
end LW


namespace LW
open VN FM

/-- the letter of a place -/
def ltAt (r : Int) : Str := ⟨#[LT.cps.toList.getD r.toNat 0]⟩
theorem ltAt_eq {r : Int} {c : Nat} (h : LT.cps.toList[r.toNat]? = some c) : ltAt r = ⟨#[c]⟩ := by
  unfold ltAt
  rw [List.getD_eq_getElem?_getD, h]
  rfl
abbrev E27 (a b y mode : Int) (ns : List Str) (w5 w6 w7 w8 w9 w10 w11 : Option O) : VE.Env := [some (oP a b), some (oI y), some (oS LT), some (oI mode), some (oL (ns.map D.str)), w5, w6, w7, w8, w9, w10, w11]
def nmF (stem : Str) (start front : Int) (i : Nat) : Str := if front = 0 then stem ++ ltAt ((start + 5 * (i : Int)) % 26) else ltAt ((start + 5 * (i : Int)) % 26) ++ stem
theorem nmF_ok {stem : Str} {start front : Int} (hw : Lw stem) (hl : stem.length ≤ 7) (h1 : stem ≠ (("fram" : String) : Str)) (h2 : stem ≠ (("rame" : String) : Str)) (i : Nat) : Nm (nmF stem start front i) := by
  obtain ⟨c, hc, hz⟩ := lt_at (r := (start + 5 * (i : Int)) % 26) (by omega) (by omega)
  have e := ltAt_eq hc
  unfold nmF
  rw [e]
  split
  · exact ⟨Lw.app hw hz.w, by rw [len_app, hz.len]; omega, by rw [len_app, hz.len]; omega, back_ne h1⟩
  · exact ⟨Lw.app hz.w hw, by rw [len_app, hz.len]; omega, by rw [len_app, hz.len]; omega, front_ne h2⟩
theorem nmF_inj {stem : Str} {start front : Int} {i j : Nat} (hi : i < 26) (hj : j < 26) (e : nmF stem start front i = nmF stem start front j) : i = j := by
  obtain ⟨c, hc, hz⟩ := lt_at (r := (start + 5 * (i : Int)) % 26) (by omega) (by omega)
  obtain ⟨d, hd, hw⟩ := lt_at (r := (start + 5 * (j : Int)) % 26) (by omega) (by omega)
  unfold nmF at e
  rw [ltAt_eq hc, ltAt_eq hd] at e
  have e2 : (⟨#[c]⟩ : Str) = ⟨#[d]⟩ := by
    split at e
    · exact app_can e
    · exact app_can' e
  have e3 : c = d := by
    have := congrArg (fun s : Str => s.cps.toList) e2
    simpa using this
  have e4 : ((start + 5 * (i : Int)) % 26).toNat = ((start + 5 * (j : Int)) % 26).toNat := by
    rcases Nat.decEq ((start + 5 * (i : Int)) % 26).toNat ((start + 5 * (j : Int)) % 26).toNat with q | q
    · exact absurd e3 (lt_ne hc hd q)
    · exact q
  omega
theorem v27z {k : Nat} {a b y : Int} {N Z} (h0 : 0 ≤ y) (hy : y ≤ 6) (h : ∀ (ns : List Str) a', ns.length = y.toNat → ns.Nodup → (∀ s ∈ ns, Nm s ∧ s ≠ ZZ) → N (oL (ns.map D.str)) [oP a' b, oI y]) : PF (G (k + 3) 27 [oP a b, oI y]) N Z := by
  refine pf_run s27 rfl ?_
  have hz := lt_len
  have hy6 : ¬ 6 < y := by omega
  array_mem_dec
  refine v23 (by decide) (by decide +kernel) fun mode a1 l1 u1 => ?_
  array_mem_dec
  refine if_d (fun hm => ?_) fun hm => ?_
  · array_mem_dec
    refine v23 (by decide) (by decide +kernel) fun r a2 l2 u2 => ?_
    array_mem_dec
    refine it_rng1 l2 (by omega) ?_
    array_mem_dec
    refine comp_draw (fun i : Nat => D.int (i : Nat)) (fun a => E27 a b y mode [] none none none none none none none) (fun d => ∃ z, d = .str z ∧ Lt z ∧ Ny z) (List.range r.toNat) rfl rfl (by rw [List.length_range]; omega) ?_ ?_
    · intro x hx a3 P hP
      array_mem_dec
      refine v23 (by decide) (by decide +kernel) fun q a4 l3 u3 => ?_
      obtain ⟨c, hc, hw⟩ := lt_at (r := q) l3 (by omega)
      array_mem_dec
      refine so_atz l3 hc ?_
      array_mem_dec
      exact hP _ _ ⟨_, rfl, hw, fun c' hc' => by
        have e : c' = c := by simpa using hc'
        rw [e]
        exact lt_z hc (by omega)⟩
    · intro ys a3 hl hA
      obtain ⟨zs, rfl, hzs⟩ : ∃ zs : List Str, ys = zs.map D.str ∧ ∀ z ∈ zs, Lt z ∧ Ny z := by
        clear hl
        induction ys with
        | nil => exact ⟨[], rfl, by simp⟩
        | cons y ys ih =>
          obtain ⟨z, rfl, hz⟩ := hA y List.mem_cons_self
          obtain ⟨zs, rfl, hzs⟩ := ih fun y hy => hA y (List.mem_cons_of_mem _ hy)
          exact ⟨z :: zs, rfl, fun w hw => by
            rcases List.mem_cons.mp hw with q | q
            · rw [q]; exact hz
            · exact hzs w q⟩
      have hzn : ∀ z ∈ zs, Ny z := fun z hz => (hzs z hz).2
      have hzs : ∀ z ∈ zs, Lt z := fun z hz => (hzs z hz).1
      rw [List.length_map, List.length_range] at hl
      array_mem_dec
      refine so_join (ys := zs) rfl (by rw [sum_lt hzs, nil_len]; omega) ?_
      rw [TL.join_eq]
      obtain ⟨jw, jl⟩ := join_w hzs
      have jn := join_ny hzn
      generalize Str.join (("" : String) : Str) zs = stem at jw jl jn
      and_intros
      refine ps_mid (fun e => ∃ stem : Str, e = E27 a3 b y mode [] (some (oS stem)) none none none none none none ∧ Lw stem ∧ stem.length ≤ 7 ∧ stem ≠ (("fram" : String) : Str) ∧ stem ≠ (("rame" : String) : Str) ∧ Ny stem) ?_ ?_
      · have o1 : PyData.strOk (("fram" : String) : Str) = true := by decide +kernel
        have o2 : PyData.strOk (("rame" : String) : Str) = true := by decide +kernel
        have n1 : (("" : String) : Str) ≠ (("fram" : String) : Str) := by decide +kernel
        have n2 : (("" : String) : Str) ≠ (("rame" : String) : Str) := by decide +kernel
        array_mem_dec
        refine op_eq (eqD_ss jw.ok o1) ?_
        array_mem_dec
        refine if_d (fun q1 => ?_) fun q1 => ?_
        · array_mem_dec
          exact ⟨_, rfl, Lw.nil, by rw [nil_len]; omega, n1, n2, Ny.nil⟩
        · array_mem_dec
          refine op_eq (eqD_ss jw.ok o2) ?_
          array_mem_dec
          refine if_d (fun q2 => ?_) fun q2 => ?_
          · array_mem_dec
            exact ⟨_, rfl, Lw.nil, by rw [nil_len]; omega, n1, n2, Ny.nil⟩
          · array_mem_dec
            exact ⟨_, rfl, jw, by omega, q1, q2, jn⟩
      · clear jw jl jn
        rintro e ⟨stem, rfl, jw, jl, n1, n2, jn⟩
        array_mem_dec
        refine v23 (by decide) (by decide +kernel) fun start a4 l3 u3 => ?_
        array_mem_dec
        refine v23 (by decide) (by decide +kernel) fun front a5 l4 u4 => ?_
        array_mem_dec
        refine it_rng1 h0 (by omega) ?_
        array_mem_dec
        refine for_inv (fun i : Nat => D.int (i : Nat)) (fun d r e => ∃ w6 w9, e = E27 a5 b y mode (d.map (nmF stem start front)) (some (oS stem)) w6 (some (oI start)) (some (oI front)) w9 none none) (List.range y.toNat) rfl ⟨_, _, rfl⟩ ?_ ?_
        · rintro d i r e he ⟨w6, w9, rfl⟩
          obtain ⟨c, hc, hw⟩ := lt_at (r := (start + 5 * (i : Int)) % 26) (by omega) (by omega)
          have ec := ltAt_eq hc
          have hd : d.length < 100 := by
            have := congrArg List.length he
            rw [List.length_range, List.length_append] at this
            omega
          array_mem_dec
          refine so_atz (by omega) hc ?_
          have l1 := hw.len
          array_mem_dec
          by_cases q : front = 0
          · subst q
            array_mem_dec
            refine ⟨some (oI (i : Nat)), some (oS ⟨#[c]⟩), ?_⟩
            simp [nmF, ec]
          · have q : front = 1 := by omega
            subst q
            array_mem_dec
            refine ⟨some (oI (i : Nat)), some (oS ⟨#[c]⟩), ?_⟩
            simp [nmF, ec]
        · rintro e ⟨w6, w9, rfl⟩
          array_mem_dec
          refine h _ _ (by simp) ?_ ?_
          · refine List.Pairwise.map _ (R := fun a b => a ≠ b ∧ a < 26 ∧ b < 26) (fun i j hij e => hij.1 (nmF_inj hij.2.1 hij.2.2 e)) ?_
            have := List.Pairwise.and_mem.mp (List.nodup_range (n := y.toNat))
            refine this.imp fun {i j} hij => ⟨hij.2.2, ?_, ?_⟩
            · have := List.mem_range.mp hij.1; omega
            · have := List.mem_range.mp hij.2.1; omega
          · intro s hs
            obtain ⟨i, hi, rfl⟩ := List.mem_map.mp hs
            refine ⟨nmF_ok jw jl n1 n2 i, ?_⟩
            have q := stem_zz (z := ltAt ((start + 5 * (i : Int)) % 26)) jn rfl
            unfold nmF
            split
            · exact q.1
            · exact q.2
  · array_mem_dec
    refine it_rng1 h0 (by omega) ?_
    array_mem_dec
    have hN : ∀ (d : List Nat) i r, List.range y.toNat = d ++ i :: r → d.length < y.toNat := fun d i r he => by
      have := congrArg List.length he
      rw [List.length_range, List.length_append, List.length_cons] at this
      omega
    refine for_inv (fun i : Nat => D.int (i : Nat)) (fun d r e => ∃ (ns : List Str) (a : Int) (w6 w10 w11 : Option O), e = E27 a b y mode ns none w6 none none none w10 w11 ∧ ns.length = d.length ∧ ns.Nodup ∧ ∀ s ∈ ns, Nm s ∧ s ≠ ZZ) (List.range y.toNat) rfl ⟨[], a1, _, _, _, rfl, rfl, List.nodup_nil, by simp⟩ ?_ ?_
    · rintro d i r e he ⟨ns, a2, w6, w10, w11, rfl, g1, g2, g3⟩
      have hd := hN d i r he
      and_intros
      refine ps_mid (fun e => ∃ (x : Str) (a : Int), e = E27 a b y mode ns none (some (oI (i : Nat))) none none none (some (oS x)) w11 ∧ Lw x ∧ x.length = 1) ?_ ?_
      · have m2 : mode = 0 ∨ mode = 1 := by omega
        rcases m2 with rfl | rfl
        all_goals
          array_mem_dec
          refine v23 (by decide) (by decide +kernel) fun q a4 l3 u3 => ?_
          obtain ⟨c, hc, hw⟩ := lt_at (r := q) l3 (by omega)
          array_mem_dec
          refine so_atz l3 hc ?_
          array_mem_dec
          exact ⟨_, _, rfl, hw.w, hw.len⟩
      · rintro e ⟨x, a3, rfl, wx, lx⟩
        refine ps_mid (fun e => ∃ (x : Str) (a : Int) (w11 : Option O), e = E27 a b y mode ns none (some (oI (i : Nat))) none none none (some (oS x)) w11 ∧ Lw x ∧ 0 < x.length ∧ x.length ≤ 3) ?_ ?_
        · array_mem_dec
          refine v23 (by decide) (by decide +kernel) fun q a4 l3 u3 => ?_
          array_mem_dec
          refine it_rng1 l3 (by omega) ?_
          array_mem_dec
          refine for_inv (fun i : Nat => D.int (i : Nat)) (fun d r e => ∃ (x : Str) (a : Int) (w11 : Option O), e = E27 a b y mode ns none (some (oI (i : Nat))) none none none (some (oS x)) w11 ∧ Lw x ∧ x.length = d.length + 1) (List.range q.toNat) rfl ⟨x, a4, _, rfl, wx, by rw [lx]; rfl⟩ ?_ ?_
          · rintro d' i' r' e he' ⟨x', a5, w, rfl, wx', lx'⟩
            have hd' : d'.length < q.toNat := by
              have := congrArg List.length he'
              rw [List.length_range, List.length_append, List.length_cons] at this
              omega
            have m2 : mode = 0 ∨ mode = 1 := by omega
            rcases m2 with rfl | rfl
            all_goals
              array_mem_dec
              refine v23 (by decide) (by decide +kernel) fun q2 a6 l6 u6 => ?_
              obtain ⟨c, hc, hw⟩ := lt_at (r := q2) l6 (by omega)
              have l1 := hw.len
              array_mem_dec
              refine so_atz l6 hc ?_
              array_mem_dec
              exact ⟨_, _, _, rfl, Lw.app wx' hw.w, by rw [len_app, l1, List.length_append, lx']; rfl⟩
          · rintro e ⟨x', a5, w, rfl, wx', lx'⟩
            rw [List.length_range] at lx'
            exact ⟨_, _, _, rfl, wx', by omega, by omega⟩
        · rintro e ⟨x1, a5, w, rfl, wx1, lx1, lx2⟩
          array_mem_dec
          refine it_rng1 h0 (by omega) ?_
          array_mem_dec
          refine for_inv (fun i : Nat => D.int (i : Nat)) (fun d r e => ∃ (m : Nat) (w11 : Option O), e = E27 a5 b y mode ns none (some (oI (i : Nat))) none none none (some (oS (x1 ++ xs m))) w11 ∧ (∀ j < m, x1 ++ xs j ∈ ns) ∧ (m = d.length ∨ x1 ++ xs m ∉ ns)) (List.range y.toNat) rfl ⟨0, _, by rw [show xs 0 = (("" : String) : Str) from rfl, app_nil], by simp, .inl rfl⟩ ?_ ?_
          · rintro d' i' r' e he' ⟨m, w, rfl, k1, k2⟩
            have hm := tries k1
            have okx : PyData.strOk (x1 ++ xs m) = true := (Lw.app wx1 (xs_w m)).ok
            have hlx : (x1 ++ xs m).length ≤ 100 := by rw [len_app, xs_len]; omega
            have lX := x_len
            array_mem_dec
            refine op_inQ (inP_str okx fun s hs => (g3 s hs).1.ok) ?_
            array_mem_dec
            refine if_d (fun q => ?_) fun q => ?_
            · array_mem_dec
              refine ⟨m + 1, some (oI (i' : Nat)), ?_, fun j hj => ?_, .inl ?_⟩
              · rw [xs, ← app_ass]
              · rcases Nat.lt_succ_iff_lt_or_eq.mp hj with w | w
                · exact k1 j w
                · rw [w]; exact q
              · rcases k2 with k2 | k2
                · rw [k2, List.length_append]; rfl
                · exact absurd q k2
            · array_mem_dec
              exact ⟨m, _, rfl, k1, .inr q⟩
          · rintro e ⟨m, w, rfl, k1, k2⟩
            have hm := tries k1
            have nw : x1 ++ xs m ∉ ns := by
              rcases k2 with k2 | k2
              · rw [List.length_range] at k2
                omega
              · exact k2
            have hns : ns.length ≤ 100 := by omega
            array_mem_dec
            rw [show ns.map D.str ++ [D.str (x1 ++ xs m)] = (ns ++ [x1 ++ xs m]).map D.str from by simp]
            refine ⟨ns ++ [x1 ++ xs m], _, _, _, _, rfl, by rw [List.length_append, List.length_append, g1]; rfl, ?_, ?_⟩
            · rw [List.nodup_append]
              exact ⟨g2, by simp, fun s hs t ht e => nw (by rw [← List.mem_singleton.mp ht, ← e]; exact hs)⟩
            · intro s hs
              rcases List.mem_append.mp hs with w | w
              · exact g3 s w
              · rw [List.mem_singleton.mp w]
                exact ⟨nm_new wx1 lx1 lx2 (by omega), new_zz lx2⟩
    · rintro e ⟨ns, a2, w6, w10, w11, rfl, g1, g2, g3⟩
      rw [List.length_range] at g1
      array_mem_dec
      exact h ns _ g1 g2 g3
theorem v27 {k : Nat} {a b y : Int} {N Z} (h0 : 0 ≤ y) (hy : y ≤ 6) (h : ∀ (ns : List Str) a', ns.length = y.toNat → ns.Nodup → (∀ s ∈ ns, Nm s) → N (oL (ns.map D.str)) [oP a' b, oI y]) : PF (G (k + 3) 27 [oP a b, oI y]) N Z := v27z h0 hy fun ns a' h1 h2 h3 => h ns a' h1 h2 fun s hs => (h3 s hs).1
end LW


namespace LW
open VN FM

/-- limits -/
abbrev spD (p : Int × Int) : D := .tup [.int p.1, .int p.2]
def SpOk (p : Int × Int) : Prop := p.1 ≤ p.2 ∧ -10 ^ 56 ≤ p.1 ∧ p.2 ≤ 10 ^ 57

theorem v28 {k : Nat} {a b y : Int} {N Z} (h0 : 0 ≤ y) (hy : y ≤ 100) (h : ∀ (sp : List (Int × Int)) a', sp.length = y.toNat → (∀ p ∈ sp, SpOk p) → N (oL (sp.map spD)) [oP a' b, oI y]) : PF (G (k + 4) 28 [oP a b, oI y]) N Z := by
  refine pf_run s28 rfl ?_
  array_mem_dec
  refine it_rng1 h0 (by omega) ?_
  refine for_inv (fun i : Nat => D.int (i : Nat)) (fun d r e => ∃ (sp : List (Int × Int)) (a : Int) (w3 w4 : Option O), e = [some (oP a b), some (oI y), some (oL (sp.map spD)), w3, w4] ∧ sp.length = d.length ∧ ∀ p ∈ sp, SpOk p) (List.range y.toNat) rfl ⟨[], a, _, _, rfl, rfl, by simp⟩ ?_ ?_
  · rintro d i r e he ⟨sp, a1, w3, w4, rfl, g1, g2⟩
    have hd : sp.length ≤ 100 := by
      have := congrArg List.length he
      rw [List.length_range, List.length_append, List.length_cons] at this
      omega
    array_mem_dec
    refine v26 fun x a2 l1 u1 => ?_
    array_mem_dec
    refine v23 (by decide) (by decide +kernel) fun q a3 l2 u2 => ?_
    array_mem_dec
    rw [show sp.map spD ++ [D.tup [.int x, .int (x + q)]] = (sp ++ [(x, x + q)]).map spD from by simp]
    refine ⟨sp ++ [(x, x + q)], _, _, _, rfl, by simp [g1], ?_⟩
    intro p hp
    rcases List.mem_append.mp hp with w | w
    · exact g2 p w
    · rw [List.mem_singleton.mp w]
      exact ⟨(by show x ≤ x + q; omega), (by show -10 ^ 56 ≤ x; exact l1), (by show x + q ≤ 10 ^ 57; omega)⟩
  · rintro e ⟨sp, a1, w3, w4, rfl, g1, g2⟩
    rw [List.length_range] at g1
    array_mem_dec
    exact h sp _ g1 g2

/-- a measure's form -/
def oneF (n : Str) (p : Int × Int) : Fm := ⟨0, [⟨n, 1, p.1, p.2⟩]⟩
def zipO (ns : List Str) (sp : List (Int × Int)) : List Fm := List.zipWith oneF ns sp
theorem v29g {k : Nat} {ns : List Str} {sp : List (Int × Int)} {o1 o2 : O} {N Z} (e1 : o1 = oL (ns.map D.str)) (e2 : o2 = oL (sp.map spD)) (hn : ∀ s ∈ ns, Nm s) (hl : ns.length = sp.length) (hl2 : ns.length ≤ 100) (hs : ∀ p ∈ sp, p.1 ≤ p.2) (h : N (oL ((zipO ns sp).map Fm.d)) [o1, o2]) : PF (G (k + 5) 29 [o1, o2]) N Z := by
  subst e1 e2
  refine pf_run s29 rfl ?_
  array_mem_dec
  refine it_rng1 (by omega) (by rw [List.length_map]; omega) ?_
  array_mem_dec
  have e : (zipO ns sp).map Fm.d = (List.range ns.length).map fun i => (oneF (ns.getD i FR) (sp.getD i (0, 0))).d := by
    refine List.ext_getElem? fun i => ?_
    rw [List.getElem?_map, List.getElem?_map, zipO, List.getElem?_zipWith]
    by_cases hi : i < ns.length
    · rw [List.getElem?_range hi, List.getElem?_eq_getElem hi, List.getElem?_eq_getElem (by omega : i < sp.length)]
      simp [hi, (by omega : i < sp.length)]
    · have e1 : (List.range ns.length)[i]? = none := List.getElem?_eq_none (by rw [List.length_range]; omega)
      rw [List.getElem?_eq_none (by omega : ns.length ≤ i), e1]
      rfl
  rw [List.length_map]
  refine comp_map (fun i : Nat => D.int (i : Nat)) (fun i => (oneF (ns.getD i FR) (sp.getD i (0, 0))).d) (List.range ns.length) (by simp) (by rw [List.length_range]; omega) ?_ ?_
  · intro i hi P hP
    have hi := List.mem_range.mp hi
    have hi2 : i < sp.length := by omega
    have g1 : (ns.map D.str)[i]? = some (.str ns[i]) := by simp [hi]
    have g2 : (sp.map spD)[i]? = some (spD sp[i]) := by simp [hi2]
    have nm := hn ns[i] (List.getElem_mem hi)
    have so := hs sp[i] (List.getElem_mem hi2)
    have p1 : ns.getD i FR = ns[i] := by simp [hi]
    have p2 : sp.getD i (0, 0) = sp[i] := by simp [hi2]
    rw [p1, p2] at hP
    array_mem_dec
    refine so_at g1 ?_
    array_mem_dec
    refine so_at g2 ?_
    array_mem_dec
    refine so_at g2 ?_
    array_mem_dec
    refine v21 (by have := nm.n8; omega) nm.ok nm.isN so ?_
    array_mem_dec
    exact ⟨rfl, hP⟩
  · rw [← e]
    array_mem_dec
    exact h
theorem v29 {k : Nat} {ns : List Str} {sp : List (Int × Int)} {o1 o2 : O} {N Z} (e1 : o1 = oL (ns.map D.str)) (e2 : o2 = oL (sp.map spD)) (hn : ∀ s ∈ ns, Nm s) (hl : ns.length = sp.length) (hl2 : ns.length ≤ 100) (hs : ∀ p ∈ sp, SpOk p) (h : N (oL ((zipO ns sp).map Fm.d)) [o1, o2]) : PF (G (k + 5) 29 [o1, o2]) N Z := v29g e1 e2 hn hl hl2 (fun p hp => (hs p hp).1) h
end LW


namespace LW
open VN FM

theorem srt_one {x : Tm} : srt [x] = if x.t = 0 then [] else [x] := by
  have e : (sortS (nms [x])).filterMap (fnd [x]) = [x] := by
    show List.filterMap (fnd [x]) [x.n] = [x]
    have : fnd [x] x.n = some x := by rw [fnd_cons, if_pos rfl]
    simp [this]
  unfold srt
  rw [e]
  by_cases q : x.t = 0
  · simp [q]
  · simp [q]
theorem sum_step {A : List Tm} {x : Tm} {c : Int} (h : (nms (A ++ [x])).Nodup) : mrg ⟨c, srt A⟩ ⟨0, srt [x]⟩ 1 = .ok ⟨c, srt (A ++ [x])⟩ := by
  have h0 : (nms A).Nodup ∧ x.n ∉ nms A := by
    rw [nms, List.map_append, List.nodup_append] at h
    exact ⟨h.1, fun hm => h.2.2 _ hm _ (List.mem_singleton.mpr rfl) rfl⟩
  have hx : (nms [x]).Nodup := by simp [nms]
  refine mrg_is (srt_can h0.1) (srt_can hx) ?_ (srt_can h) (by simp) fun n => ?_
  · intro y hy
    have hy' : y = x := by
      show y = x
      rw [show (Fm.mk 0 (srt [x])).ts = srt [x] from rfl, srt_one] at hy
      by_cases q : x.t = 0
      · rw [if_pos q] at hy; cases hy
      · rw [if_neg q] at hy; exact List.mem_singleton.mp hy
    unfold unl
    rw [hy', show (Fm.mk c (srt A)).ts = srt A from rfl, fnd_srt h0.1, fnd_none.mpr h0.2]
    rfl
  · show fnd (srt (A ++ [x])) n = (cmbO 1 (fnd (srt A) n) (fnd (srt [x]) n)).filter nz
    rw [fnd_srt h, fnd_srt h0.1, fnd_srt hx, fnd_app]
    by_cases q : x.n = n
    · subst q
      rw [fnd_none.mpr h0.2, fnd_cons, if_pos rfl]
      by_cases z : x.t = 0
      · simp [nz, z, cmbO, Option.filter_some]
      · simp [nz, z, cmbO, Option.filter_some]
    · rw [fnd_cons, if_neg q, show fnd [] n = none from rfl]
      cases fnd A n with
      | none => rfl
      | some y =>
        by_cases z : y.t = 0
        · simp [nz, z, cmbO, Option.filter_some]
        · simp [nz, z, cmbO, Option.filter_some]
theorem mul_one {n : Str} {p : Int × Int} {t : Int} : mulF (oneF n p) t = ⟨0, srt [⟨n, t, p.1, p.2⟩]⟩ := by
  unfold mulF oneF
  rw [srt_one]
  by_cases q : t = 0
  · simp [q]
  · simp [q]
theorem zA_at : ∀ {ns : List Str} {ts : List Int} {sp : List (Int × Int)} (i : Nat) (h1 : i < ns.length) (h2 : i < ts.length) (h3 : i < sp.length), (zA ns ts sp)[i]? = some ⟨ns[i], ts[i], sp[i].1, sp[i].2⟩
  | n :: ns, t :: ts, p :: sp, 0, _, _, _ => by unfold zA; rfl
  | n :: ns, t :: ts, p :: sp, i + 1, h1, h2, h3 => by
    unfold zA
    exact zA_at i (by simpa using h1) (by simpa using h2) (by simpa using h3)
  | [], _, _, _, h1, _, _ => absurd h1 (by simp)
  | _ :: _, [], _, _, _, h2, _ => absurd h2 (by simp)
  | _ :: _, _ :: _, [], _, _, _, h3 => absurd h3 (by simp)
theorem zA_len : ∀ {ns : List Str} {ts : List Int} {sp : List (Int × Int)}, ns.length = ts.length → ns.length = sp.length → (zA ns ts sp).length = ns.length := fun h1 h2 => by
  have := congrArg List.length (nms_zA h1 h2)
  rwa [List.length_map] at this
theorem zipO_at {ns : List Str} {sp : List (Int × Int)} {i : Nat} (h1 : i < ns.length) (h3 : i < sp.length) : ((zipO ns sp).map Fm.d)[i]? = some (oneF ns[i] sp[i]).d := by
  rw [List.getElem?_map, zipO, List.getElem?_zipWith]
  simp [h1, h3]
/-- the form when so many terms are added -/
theorem cF_step {ns : List Str} {sp : List (Int × Int)} {ts : List Int} {c : Int} (hn : ns.Nodup) (h1 : ns.length = ts.length) (h3 : ns.length = sp.length) {i : Nat} (hi : i < ns.length) : mrg ⟨c, srt ((zA ns ts sp).take i)⟩ (mulF (oneF ns[i] sp[i]) ts[i]) 1 = .ok ⟨c, srt ((zA ns ts sp).take (i + 1))⟩ := by
  have e := zA_at (ns := ns) (ts := ts) (sp := sp) i hi (by omega) (by omega)
  rw [mul_one, List.take_succ, e]
  refine sum_step ?_
  have h5 : (zA ns ts sp).take i ++ [⟨ns[i], ts[i], sp[i].1, sp[i].2⟩] = (zA ns ts sp).take (i + 1) := by rw [List.take_succ, e]; rfl
  rw [h5, nms, List.map_take]
  have : (nms (zA ns ts sp)).Nodup := by rw [nms_zA h1 h3]; exact hn
  exact List.Sublist.nodup (List.take_sublist _ _) this
theorem srt_len {A : List Tm} : (srt A).length ≤ A.length := by
  have h1 : (srt A).length ≤ (sortS (nms A)).length := Nat.le_trans (List.length_filter_le _ _) (List.length_filterMap_le _ _)
  rwa [len_sortS, List.length_map] at h1

theorem rng_split {n i : Nat} {d r : List Nat} (he : List.range n = d ++ i :: r) : d.length = i ∧ i < n := by
  have e1 := congrArg (fun l : List Nat => l[d.length]?) he
  have e2 := congrArg List.length he
  rw [List.length_range, List.length_append, List.length_cons] at e2
  simp only [List.getElem?_append_right (Nat.le_refl d.length), Nat.sub_self, List.getElem?_cons_zero] at e1
  rw [List.getElem?_range (by omega)] at e1
  have := Option.some.inj e1
  omega

theorem fnd_zA : ∀ {ns : List Str} {ts : List Int} {sp : List (Int × Int)} {n : Str}, ns.length = ts.length → ns.length = sp.length → n ∈ ns → ∃ t p, ts[ns.idxOf n]? = some t ∧ sp[ns.idxOf n]? = some p ∧ fnd (zA ns ts sp) n = some ⟨n, t, p.1, p.2⟩
  | [], _, _, _, _, _, h => by cases h
  | m :: ns, t :: ts, p :: sp, n, h1, h3, h => by
    by_cases q : m = n
    · subst q
      refine ⟨t, p, by simp, by simp, ?_⟩
      unfold zA
      rw [fnd_cons, if_pos rfl]
    · have hn : n ∈ ns := by
        rcases List.mem_cons.mp h with w | w
        · exact absurd w.symm q
        · exact w
      obtain ⟨t', p', g1, g2, g3⟩ := fnd_zA (ns := ns) (ts := ts) (sp := sp) (by simpa using h1) (by simpa using h3) hn
      have e : (m :: ns).idxOf n = ns.idxOf n + 1 := by
        rw [List.idxOf_cons]
        have : (m == n) = false := by simpa using q
        rw [this]
        rfl
      refine ⟨t', p', by rw [e]; simpa using g1, by rw [e]; simpa using g2, ?_⟩
      unfold zA
      rw [fnd_cons, if_neg q, g3]

end LW


namespace LW
open VN FM

theorem mul_zA {ns : List Str} {i : Int} : ∀ {ts : List Int} {sp : List (Int × Int)} {n : Str}, (fnd (zA ns ts sp) n).map (fun x => (⟨x.n, x.t * i, x.lo, x.hi⟩ : Tm)) = fnd (zA ns (ts.map fun t => t * i) sp) n := by
  induction ns with
  | nil => intro ts sp n; unfold zA; rfl
  | cons m ns ih =>
    intro ts sp n
    cases ts with
    | nil => unfold zA; rfl
    | cons t ts => cases sp with
      | nil => unfold zA; rfl
      | cons p sp =>
        rw [List.map_cons]
        unfold zA
        rw [fnd_cons, fnd_cons]
        by_cases q : m = n
        · rw [if_pos q, if_pos q]; rfl
        · rw [if_neg q, if_neg q, ih]
theorem fnd_map {i : Int} : ∀ {A : List Tm} {n : Str}, fnd (A.map fun x => (⟨x.n, x.t * i, x.lo, x.hi⟩ : Tm)) n = (fnd A n).map fun x => ⟨x.n, x.t * i, x.lo, x.hi⟩
  | [], n => rfl
  | x :: A, n => by
    rw [List.map_cons, fnd_cons, fnd_cons, fnd_map]
    by_cases q : x.n = n
    · rw [if_pos q, if_pos q]; rfl
    · rw [if_neg q, if_neg q]
section
variable {ns : List Str} {sp : List (Int × Int)} {ts us : List Int} {c d s i : Int}
theorem mul_can {f : Fm} (h : Can f.ts) : Can (mulF f i).ts := by
  unfold mulF
  by_cases q : i = 0
  · simp only [q, if_true]
    exact can_nil
  · simp only [q, if_false]
    constructor
    · have : nms (f.ts.map fun x => (⟨x.n, x.t * i, x.lo, x.hi⟩ : Tm)) = nms f.ts := by
        rw [nms, List.map_map]; rfl
      rw [this]
      exact h.o
    · intro x hx
      obtain ⟨y, hy, rfl⟩
                         := List.mem_map.mp hx
      exact _root_.Int.mul_ne_zero (h.z y hy) q
theorem mul_cF (hn : ns.Nodup) (h1 : ns.length = ts.length) (h3 : ns.length = sp.length) : mulF (cF ns sp c ts) i = cF ns sp (c * i) (ts.map fun t => t * i) := by
  have h1' : ns.length = (ts.map fun t => t * i).length := by rw [List.length_map]; exact h1
  have e : (mulF (cF ns sp c ts) i).ts = (cF ns sp (c * i) (ts.map fun t => t * i)).ts := by
    refine can_ext (mul_can (cF_can hn h1 h3)) (cF_can hn h1' h3) fun n => ?_
    rw [fnd_cF hn h1' h3, ← mul_zA]
    unfold mulF
    by_cases q : i = 0
    · simp only [q, if_true]
      cases fnd (zA ns ts sp) n with
      | none => rfl
      | some x => simp [nz, Option.filter_some, fnd]
    · simp only [q, if_false]
      rw [fnd_map, fnd_cF hn h1 h3]
      cases fnd (zA ns ts sp) n with
      | none => rfl
      | some x =>
        by_cases z : x.t = 0
        · simp [nz, Option.filter_some, z]
        · simp [nz, Option.filter_some, z, q]
  have : ∀ f g : Fm, f.c = g.c → f.ts = g.ts → f = g := fun f g h1 h2 => by
    obtain ⟨a, b⟩ := f
    obtain ⟨a', b'⟩ := g
    simp only at h1 h2
    rw [h1, h2]
  exact this _ _ rfl e
theorem cF_zero (hn : ns.Nodup) (h1 : ns.length = ts.length) (h3 : ns.length = sp.length) (hz : ∀ t ∈ ts, t = 0) : cF ns sp c ts = ⟨c, []⟩ := by
  unfold cF
  have : srt (zA ns ts sp) = [] := by
    refine can_ext (cF_can (c := c) hn h1 h3) can_nil fun n => ?_
    rw [show srt (zA ns ts sp) = (cF ns sp c ts).ts from rfl, fnd_cF hn h1 h3]
    show _ = none
    by_cases hm : n ∈ ns
    · obtain ⟨t, p, g1, g2, g3⟩ := fnd_zA h1 h3 hm
      rw [g3, hz t ((List.mem_iff_getElem?.mpr ⟨_, g1⟩))]
      simp [nz, Option.filter_some]
    · rw [fnd_none.mpr (by rw [nms_zA h1 h3]; exact hm)]
      rfl
  rw [this]
theorem cF_unit (hn : ns.Nodup) (h1 : ns.length = ts.length) (h3 : ns.length = sp.length) {k : Nat} (hk : k < ns.length) (hz : ∀ j, (h : j < ts.length) → ts[j] = if j = k then 1 else 0) : oneF ns[k] sp[k] = cF ns sp 0 ts := by
  have e : (oneF ns[k] sp[k]).ts = (cF ns sp 0 ts).ts := by
    refine can_ext ⟨by simp [oneF, nms, FM.Ord], by simp [oneF]⟩ (cF_can hn h1 h3) fun n => ?_
    rw [fnd_cF hn h1 h3]
    show fnd [⟨ns[k], 1, sp[k].1, sp[k].2⟩] n = _
    rw [fnd_cons]
    by_cases hm : n ∈ ns
    · obtain ⟨t, p, g1, g2, g3⟩ := fnd_zA h1 h3 hm
      have hi : ns.idxOf n < ts.length := (List.getElem?_eq_some_iff.mp g1).1
      have ht : t = ts[ns.idxOf n] := by
        rw [List.getElem?_eq_getElem hi] at g1
        exact (Option.some.inj g1).symm
      rw [g3, Option.filter_some]
      by_cases q : ns.idxOf n = k
      · have hnk : ns[k] = n := by
          have := List.getElem_idxOf (x := n) (xs := ns) (by omega)
          simp only [q] at this
          exact this
        have hp : p = sp[k] := by
          rw [q, List.getElem?_eq_getElem (by omega)] at g2
          exact (Option.some.inj g2).symm
        have ht1 : t = 1 := by rw [ht, hz _ hi, if_pos q]
        rw [if_pos hnk, if_pos (by simp [nz, ht1]), ht1, hp, hnk]
      · have ht0 : t = 0 := by rw [ht, hz _ hi, if_neg q]
        have hnk : ¬ ns[k] = n := fun e => q (by rw [← e]; exact hn.idxOf_getElem k hk)
        rw [if_neg hnk, if_neg (by simp [nz, ht0])]
        rfl
    · have hnk : ¬ ns[k] = n := fun e => hm (by rw [← e]; exact List.getElem_mem hk)
      have e0 : fnd (zA ns ts sp) n = none := fnd_none.mpr (by rw [nms_zA h1 h3]; exact hm)
      rw [if_neg hnk, e0]
      rfl
  have : ∀ f g : Fm, f.c = g.c → f.ts = g.ts → f = g := fun f g h1 h2 => by
    obtain ⟨a, b⟩ := f
    obtain ⟨a', b'⟩ := g
    simp only at h1 h2
    rw [h1, h2]
  exact this _ _ rfl e
theorem cF_bd (hn : ns.Nodup) (h1 : ns.length = ts.length) (h3 : ns.length = sp.length) : ∀ x ∈ (cF ns sp c ts).ts, x.t ∈ ts ∧ (x.lo, x.hi) ∈ sp ∧ x.n ∈ ns := fun x hx => by
  have e1 := fnd_mem (cF_can hn h1 h3).nd hx
  rw [fnd_cF hn h1 h3] at e1
  by_cases hm : x.n ∈ ns
  · obtain ⟨t, p, g1, g2, g3⟩ := fnd_zA h1 h3 hm
    rw [g3, Option.filter_some] at e1
    split at e1
    · have e1 := Option.some.inj e1
      refine ⟨?_, ?_, hm⟩
      · rw [← e1]; exact List.mem_iff_getElem?.mpr ⟨_, g1⟩
      · rw [← e1]; exact (List.mem_iff_getElem?.mpr ⟨_, g2⟩)
    · cases e1
  · rw [fnd_none.mpr (by rw [nms_zA h1 h3]; exact hm)] at e1
    cases e1
theorem cF_len (h1 : ns.length = ts.length) (h3 : ns.length = sp.length) : (cF ns sp c ts).ts.length ≤ ns.length := Nat.le_trans srt_len (by rw [zA_len h1 h3]; omega)
theorem sub_cF (hn : ns.Nodup) (h1 : ns.length = ts.length) (h3 : ns.length = sp.length) : mrg ⟨i, []⟩ (cF ns sp c ts) (-1) = .ok (cF ns sp (i + -1 * c) (ts.map fun t => 0 + -1 * t)) := by
  have hz : ns.length = (ts.map fun _ => (0 : Int)).length := by rw [List.length_map]; exact h1
  rw [← cF_zero (c := i) hn hz h3 (by simp), mrg_cF hn hz h1 h3]
  congr 2
  rw [List.zipWith_map_left, List.zipWith_self]
end

theorem len3 {α : Type} {xs : List α} (h : xs.length = 3) : ∃ a b c, xs = [a, b, c] := by
  match xs, h with
  | [a, b, c], _ => exact ⟨a, b, c, rfl⟩
theorem bds {ys : List D} (hA : ∀ y ∈ ys, ∃ i : Int, y = .int i ∧ -10 ^ 56 ≤ i ∧ i ≤ 10 ^ 56) : ∃ zs : List Int, ys = zs.map D.int ∧ ∀ i ∈ zs, -10 ^ 56 ≤ i ∧ i ≤ 10 ^ 56 := by
  induction ys with
  | nil => exact ⟨[], rfl, by simp⟩
  | cons y ys ih =>
    obtain ⟨z, rfl, hz⟩ := hA y List.mem_cons_self
    obtain ⟨zs, rfl, hzs⟩ := ih fun y hy => hA y (List.mem_cons_of_mem _ hy)
    exact ⟨z :: zs, rfl, fun w hw => by
      rcases List.mem_cons.mp hw with q | q
      · rw [q]; exact hz
      · exact hzs w q⟩

end LW


namespace LW
open VN FM

theorem zA_sub : ∀ (ns : List Str) (ts : List Int) (sp : List (Int × Int)), List.Sublist (nms (zA ns ts sp)) ns
  | [], _, _ => by unfold zA; exact List.Sublist.slnil
  | _ :: _, [], _ => by unfold zA; exact List.nil_sublist _
  | _ :: _, _ :: _, [] => by unfold zA; exact List.nil_sublist _
  | n :: ns, t :: ts, p :: sp => by
    unfold zA
    exact List.Sublist.cons₂ n (zA_sub ns ts sp)
theorem zA_snoc : ∀ {ns : List Str} {ts : List Int} {sp : List (Int × Int)} {t : Int} (h1 : ts.length < ns.length) (h2 : ts.length < sp.length), zA ns (ts ++ [t]) sp = zA ns ts sp ++ [⟨ns[ts.length], t, sp[ts.length].1, sp[ts.length].2⟩]
  | [], ts, sp, t, h1, h2 => absurd h1 (by simp)
  | n :: ns, ts, [], t, h1, h2 => absurd h2 (by simp)
  | n :: ns, [], p :: sp, t, h1, h2 => by
    have z : ∀ (ns : List Str) (sp : List (Int × Int)), zA ns [] sp = [] := fun ns sp => by cases ns <;> (unfold zA; rfl)
    show ⟨n, t, p.1, p.2⟩ :: zA ns [] sp = zA (n :: ns) [] (p :: sp) ++ _
    rw [z, z]
    rfl
  | n :: ns, u :: ts, p :: sp, t, h1, h2 => by
    show _ :: zA ns (ts ++ [t]) sp = _ :: zA ns ts sp ++ _
    rw [zA_snoc (by simpa using h1) (by simpa using h2)]
    rfl
theorem zA_le (ns : List Str) (ts : List Int) (sp : List (Int × Int)) : (zA ns ts sp).length ≤ ns.length := by
  have := (zA_sub ns ts sp).length_le
  rwa [List.length_map] at this
theorem add_one {ns : List Str} {sp : List (Int × Int)} {ts : List Int} {c t : Int} (hn : ns.Nodup) (h1 : ts.length < ns.length) (h2 : ts.length < sp.length) : mrg ⟨c, srt (zA ns ts sp)⟩ (mulF (oneF ns[ts.length] sp[ts.length]) t) 1 = .ok ⟨c, srt (zA ns (ts ++ [t]) sp)⟩ := by
  rw [mul_one, zA_snoc h1 h2]
  refine sum_step ?_
  rw [← zA_snoc h1 h2]
  exact List.Sublist.nodup (zA_sub _ _ _) hn

theorem v30 {k : Nat} {a b : Int} {ns : List Str} {sp : List (Int × Int)} {N Z} (hn : ns.Nodup) (h3 : ns.length = sp.length) (hl : ns.length ≤ 20) (h : ∀ (c : Int) (ts : List Int) a', ts.length = ns.length → (∀ i ∈ c :: ts, -10 ^ 56 ≤ i ∧ i ≤ 10 ^ 56) → N (oT [(cF ns sp c ts).d, .int c, .lst (ts.map D.int)]) [oP a' b, oL ((zipO ns sp).map Fm.d)]) : PF (G (k + 7) 30 [oP a b, oL ((zipO ns sp).map Fm.d)]) N Z := by
  refine pf_run s30 rfl ?_
  array_mem_dec
  refine v26 fun c a1 c1 c2 => ?_
  array_mem_dec
  refine v7 (ts := []) ?_
  array_mem_dec
  have hz : (zipO ns sp).length = ns.length := by
    rw [zipO, List.length_zipWith]; omega
  refine for_inv Fm.d (fun d r e => ∃ (o3 : O) (ts : List Int) (a : Int) (w5 : Option O), e = [some (oP a b), some (oL ((zipO ns sp).map Fm.d)), some (oI c), some o3, some (oL (ts.map D.int)), w5] ∧ o3 = oM ⟨c, srt (zA ns ts sp)⟩ ∧ ts.length = d.length ∧ ∀ i ∈ ts, -10 ^ 56 ≤ i ∧ i ≤ 10 ^ 56) (zipO ns sp) rfl ⟨_, [], _, _, rfl, ?_, rfl, by simp⟩ ?_ ?_
  · have : zA ns [] sp = [] := by cases ns <;> (unfold zA; rfl)
    rw [this]
    rfl
  · rintro d x r e he ⟨o3, ts, a2, w5, rfl, rfl, ht, hb⟩
    have hi : ts.length < ns.length := by
      have := congrArg List.length he
      rw [hz, List.length_append, List.length_cons] at this
      omega
    have hx : x = oneF ns[ts.length] sp[ts.length] := by
      have e1 := congrArg (fun l : List Fm => l[d.length]?) he
      simp only [List.getElem?_append_right (Nat.le_refl d.length), Nat.sub_self, List.getElem?_cons_zero] at e1
      rw [← ht, zipO, List.getElem?_zipWith, List.getElem?_eq_getElem hi, List.getElem?_eq_getElem (by omega : ts.length < sp.length)] at e1
      exact (Option.some.inj e1).symm
    have hcan : Can (srt (zA ns ts sp)) := srt_can (List.Sublist.nodup (zA_sub _ _ _) hn)
    have hl1 : (srt (zA ns ts sp)).length ≤ 20 := Nat.le_trans srt_len (Nat.le_trans (zA_le _ _ _) hl)
    have htl : ts.length ≤ 100 := by omega
    array_mem_dec
    refine v26 fun t a3 t1 t2 => ?_
    have hl2 : (mulF x t).ts.length ≤ 1 := by
      rw [hx, mul_one]
      exact srt_len
    have hc := add_one (c := c) (t := t) hn hi (show ts.length < sp.length by omega)
    rw [← hx] at hc
    array_mem_dec
    refine so_am1 (a := D.int t) (by simp) ?_
    array_mem_dec
    refine v17 (f := x) (by rw [hx]; simp [oneF]) (by rw [hx]; exact mulL _ (by show (_ : Int) < 0 ∧ (0 : Int) < _; decide)) (fun y hy => ?_) ?_
    · have : y = ⟨ns[ts.length], 1, sp[ts.length].1, sp[ts.length].2⟩ := by
        rw [hx] at hy
        simpa [oneF] using hy
      rw [this]
      exact mulL _ (by show (_ : Int) < 1 ∧ (1 : Int) < _; decide)
    array_mem_dec
    refine v12 (f := ⟨c, srt (zA ns ts sp)⟩) (g := mulF x t) hcan.nd (by show (srt _).length + _ ≤ 60; omega) (fun q hq => ?_) fun n hn' => ?_
    · rw [hc] at hq
      cases hq
      array_mem_dec
      rw [show ts.map D.int ++ [D.int t] = (ts ++ [t]).map D.int from by simp]
      refine ⟨_, _, _, _, rfl, rfl, by simp [ht], fun i hi => ?_⟩
      rcases List.mem_append.mp hi with w | w
      · exact hb i w
      · rw [List.mem_singleton.mp w]; exact ⟨t1, t2⟩
    · rw [hc] at hn'
      cases hn'
  · rintro e ⟨o3, ts, a2, w5, rfl, rfl, ht, hb⟩
    array_mem_dec
    refine h c ts _ (by omega) fun i hi => ?_
    rcases List.mem_cons.mp hi with w | w
    · rw [w]; exact ⟨c1, c2⟩
    · exact hb i w

end LW


namespace LW
open VN FM

theorem div_small {j : Int} (h0 : 0 < j) (h : j.natAbs < 2 ^ 250) : divOk j = true := by
  unfold divOk
  have : j.natAbs.log2 < 250 := by
    by_cases z : j.natAbs = 0
    · rw [z]; decide
    · exact (Nat.log2_lt z).mpr h
  exact decide_eq_true ⟨h0, by omega⟩

theorem ends38 {x lo hi r : Int} (h1 : lo ≤ r) (h2 : r ≤ hi) : x * (if decide (x < 0) = true then hi else lo) ≤ x * r ∧ x * r ≤ x * (if decide (0 < x) = true then hi else lo) := by
  rcases Int.lt_trichotomy x 0 with q | q | q
  · rw [if_pos (decide_eq_true q), if_neg (by simp; omega)]
    exact ⟨Int.mul_le_mul_of_nonpos_left (by omega) h2, Int.mul_le_mul_of_nonpos_left (by omega) h1⟩
  · subst q
    simp
  · rw [if_neg (by simp; omega), if_pos (decide_eq_true q)]
    exact ⟨Int.mul_le_mul_of_nonneg_left h1 (by omega), Int.mul_le_mul_of_nonneg_left h2 (by omega)⟩
theorem lst38 {ns : List Str} {p0 p1 p2 : Int × Int} {c x0 x1 x2 : Int} (hn : ns.Nodup) (h1 : ns.length = 3) : lstF (cF ns [p0, p1, p2] c [x0, x1, x2]) = c + x0 * (if decide (x0 < 0) = true then p0.2 else p0.1) + x1 * (if decide (x1 < 0) = true then p1.2 else p1.1) + x2 * (if decide (x2 < 0) = true then p2.2 else p2.1) := by
  obtain ⟨a, b, d, rfl⟩ := len3 h1
  have h0 : ∀ x : Tm, x.t = 0 → loT x = 0 := fun x q => by unfold loT; simp [q]
  have hz : (nms (zA [a, b, d] [x0, x1, x2] [p0, p1, p2])).Nodup := by rw [nms_zA rfl rfl]; exact hn
  unfold lstF cF
  show c + ((srt (zA [a, b, d] [x0, x1, x2] [p0, p1, p2])).map loT).sum = _
  rw [sum_srt hz h0]
  have e : ∀ (n : Str) (x lo hi : Int), loT ⟨n, x, lo, hi⟩ = x * (if decide (x < 0) = true then hi else lo) := fun n x lo hi => by
    unfold loT
    rcases Int.lt_trichotomy x 0 with q | q | q
    · rw [if_neg (by show ¬ 0 < x; omega), if_pos (decide_eq_true q)]
    · subst q; simp
    · rw [if_pos q, if_neg (by simp; omega)]
  show c + ([loT _, loT _, loT _] : List Int).sum = _
  rw [e, e, e]
  simp only [List.sum_cons, List.sum_nil]
  omega
theorem mst38 {ns : List Str} {p0 p1 p2 : Int × Int} {c x0 x1 x2 : Int} (hn : ns.Nodup) (h1 : ns.length = 3) : mstF (cF ns [p0, p1, p2] c [x0, x1, x2]) = c + x0 * (if decide (0 < x0) = true then p0.2 else p0.1) + x1 * (if decide (0 < x1) = true then p1.2 else p1.1) + x2 * (if decide (0 < x2) = true then p2.2 else p2.1) := by
  obtain ⟨a, b, d, rfl⟩ := len3 h1
  have h0 : ∀ x : Tm, x.t = 0 → hiT x = 0 := fun x q => by unfold hiT; simp [q]
  have hz : (nms (zA [a, b, d] [x0, x1, x2] [p0, p1, p2])).Nodup := by rw [nms_zA rfl rfl]; exact hn
  unfold mstF cF
  show c + ((srt (zA [a, b, d] [x0, x1, x2] [p0, p1, p2])).map hiT).sum = _
  rw [sum_srt hz h0]
  have e : ∀ (n : Str) (x lo hi : Int), hiT ⟨n, x, lo, hi⟩ = x * (if decide (0 < x) = true then hi else lo) := fun n x lo hi => by
    unfold hiT
    by_cases q : 0 < x
    · rw [if_pos q, if_pos (decide_eq_true q)]
    · rw [if_neg q, if_neg (by simpa using q)]
  show c + ([hiT _, hiT _, hiT _] : List Int).sum = _
  rw [e, e, e]
  simp only [List.sum_cons, List.sum_nil]
  omega

end LW


namespace LW
open VN FM
/-- a list, one's own or frozen -/
abbrev IsL (o : O) (xs : List D) : Prop := o = oL xs ∨ o = .cell (.val (.lst xs))
theorem frL {o : O} {xs : List D} {P : D → Prop} (h : IsL o xs) (p : P (.lst xs)) : Fr o P := by
  rcases h with rfl | rfl
  · exact fr_l p
  · exact fr_v p

theorem cF_pl {ns : List Str} {sp : List (Int × Int)} {ts : List Int} {c : Int} (hn : ns.Nodup) (hw : ∀ s ∈ ns, Nm s) (h1 : ns.length = ts.length) (h3 : ns.length = sp.length) : plF (cF ns sp c ts) := fun x hx => (hw _ (cF_bd hn h1 h3 x hx).2.2).ok
theorem co_cF {ns : List Str} {sp : List (Int × Int)} {ts : List Int} {c : Int} (hn : ns.Nodup) (h1 : ns.length = ts.length) (h3 : ns.length = sp.length) {i : Nat} (hi : i < ns.length) : co (cF ns sp c ts).ts ns[i] = ts[i] := by
  have e := zA_at (ns := ns) (ts := ts) (sp := sp) i hi (by omega) (by omega)
  have e2 := fnd_mem (A := zA ns ts sp) (by rw [nms_zA h1 h3]; exact hn) (List.mem_iff_getElem?.mpr ⟨i, e⟩)
  unfold co
  rw [fnd_cF hn h1 h3]
  simp only at e2
  rw [e2, Option.filter_some]
  by_cases q : ts[i] = 0
  · simp [nz, q]
  · simp [nz, q]
theorem cF_inj {ns : List Str} {sp : List (Int × Int)} {ts us : List Int} {c d : Int} (hn : ns.Nodup) (h1 : ns.length = ts.length) (h2 : ns.length = us.length) (h3 : ns.length = sp.length) (e : cF ns sp c ts = cF ns sp d us) : c = d ∧ ts = us := by
  refine ⟨congrArg Fm.c e, List.ext_getElem (by omega) fun i hi hj => ?_⟩
  have h4 : i < ns.length := by omega
  have a := co_cF (c := c) hn h1 h3 h4
  have b := co_cF (c := d) hn h2 h3 h4
  rw [← a, ← b, e]
theorem fnd_zA_two {n n1 : Str} {x1 : Int} {p1 : Int × Int} (h : n ≠ n1) : fnd (zA [n1] [x1] [p1]) n = none := by
  unfold zA
  rw [fnd_cons, if_neg fun e => h e.symm]
  unfold zA
  rfl
/-- two measures, the first one another or with other limits -/
theorem oth {n0 n1 m : Str} {p0 p1 p : Int × Int} {c x0 x1 : Int} (h01 : n0 ≠ n1) (hm : m ≠ n1) (h : m ≠ n0 ∨ p ≠ p0) : cF [n0, n1] [p0, p1] c [x0, x1] = cF [m, n1] [p, p1] c [x0, x1] ↔ x0 = 0 := by
  have c1 : [n0, n1].Nodup := by simp [h01]
  have c2 : [m, n1].Nodup := by simp [hm]
  constructor
  · intro e
    rcases Int.lt_trichotomy x0 0 with q | q | q
    · exfalso
      have e2 := congrArg (fun f : Fm => fnd f.ts n0) e
      rw [fnd_cF c1 rfl rfl, fnd_cF c2 rfl rfl] at e2
      unfold zA at e2
      rw [fnd_cons, if_pos rfl, fnd_cons] at e2
      have hz : nz ⟨n0, x0, p0.1, p0.2⟩ = true := by simp [nz]; omega
      rw [Option.filter_some, if_pos hz] at e2
      by_cases w : m = n0
      · subst w
        rw [if_pos rfl, Option.filter_some] at e2
        have hz' : nz ⟨m, x0, p.1, p.2⟩ = true := by simp [nz]; omega
        rw [if_pos hz'] at e2
        have e3 := Option.some.inj e2
        simp only [Tm.mk.injEq] at e3
        rcases h with h | h
        · exact h rfl
        · exact h (Prod.ext e3.2.2.1.symm e3.2.2.2.symm)
      · rw [if_neg w, fnd_zA_two h01] at e2
        cases e2
    · exact q
    · exfalso
      have e2 := congrArg (fun f : Fm => fnd f.ts n0) e
      rw [fnd_cF c1 rfl rfl, fnd_cF c2 rfl rfl] at e2
      unfold zA at e2
      rw [fnd_cons, if_pos rfl, fnd_cons] at e2
      have hz : nz ⟨n0, x0, p0.1, p0.2⟩ = true := by simp [nz]; omega
      rw [Option.filter_some, if_pos hz] at e2
      by_cases w : m = n0
      · subst w
        rw [if_pos rfl, Option.filter_some] at e2
        have hz' : nz ⟨m, x0, p.1, p.2⟩ = true := by simp [nz]; omega
        rw [if_pos hz'] at e2
        have e3 := Option.some.inj e2
        simp only [Tm.mk.injEq] at e3
        rcases h with h | h
        · exact h rfl
        · exact h (Prod.ext e3.2.2.1.symm e3.2.2.2.symm)
      · rw [if_neg w, fnd_zA_two h01] at e2
        cases e2
  · rintro rfl
    have e : (cF [n0, n1] [p0, p1] c [0, x1]).ts = (cF [m, n1] [p, p1] c [0, x1]).ts := by
      refine can_ext (cF_can c1 rfl rfl) (cF_can c2 rfl rfl) fun n => ?_
      rw [fnd_cF c1 rfl rfl, fnd_cF c2 rfl rfl]
      unfold zA
      rw [fnd_cons, fnd_cons]
      by_cases q1 : n0 = n
      · subst q1
        rw [if_pos rfl]
        by_cases q2 : m = n0
        · rw [if_pos q2]; simp [nz, Option.filter_some]
        · rw [if_neg q2, fnd_zA_two h01]; simp [nz, Option.filter_some]
      · rw [if_neg q1]
        by_cases q2 : m = n
        · subst q2
          rw [if_pos rfl, fnd_zA_two hm]; simp [nz, Option.filter_some]
        · rw [if_neg q2]
    unfold cF at e ⊢
    simp only at e
    rw [e]

theorem v11t {k : Nat} {f g : Fm} {N Z} (h1 : plF f) (e : f = g) (h : N (oB true) [oF f, oF g]) : PF (G (k + 2) 11 [oF f, oF g]) N Z := by
  subst e
  refine v11 h1 h1 ?_
  rw [decide_eq_true rfl]
  exact h
theorem v11n {k : Nat} {f g : Fm} {N Z} (h1 : plF f) (h2 : plF g) (e : f ≠ g) (h : N (oB false) [oF f, oF g]) : PF (G (k + 2) 11 [oF f, oF g]) N Z := by
  refine v11 h1 h2 ?_
  rw [decide_eq_false e]
  exact h
end LW


namespace LW
open VN FM

theorem un3 {n0 n1 n2 : Str} {x0 x1 x2 y0 y1 y2 : Int} {p0 p1 p2 q0 q1 q2 : Int × Int} : ((List.range 3).filter fun k => decide (([x0, x1, x2].getD k 0 ≠ 0 ∧ [y0, y1, y2].getD k 0 ≠ 0) ∧ [p0, p1, p2].getD k (0, 0) ≠ [q0, q1, q2].getD k (0, 0))).map (fun k => D.str ([n0, n1, n2].getD k FR)) = (unN [n0, n1, n2] [x0, x1, x2] [y0, y1, y2] [p0, p1, p2] [q0, q1, q2]).map D.str := by
  have e : List.range 3 = [0, 1, 2] := rfl
  rw [e]
  unfold unN unN unN unN
  by_cases h0 : x0 ≠ 0 ∧ y0 ≠ 0 ∧ p0 ≠ q0 <;> by_cases h1 : x1 ≠ 0 ∧ y1 ≠ 0 ∧ p1 ≠ q1 <;> by_cases h2 : x2 ≠ 0 ∧ y2 ≠ 0 ∧ p2 ≠ q2 <;> simp [h0, h1, h2, and_assoc]
theorem eqSp (p q : Int × Int) : eqD (spD p) (spD q) = some (decide (p = q)) := by
  rw [eqD_pl (n := 1) (by simp [plN]) (by simp [plN]) (by decide)]
  congr 1
  rw [Bool.eq_iff_iff]
  simp [Prod.ext_iff]
theorem ite01 {b : Bool} : 0 ≤ (if b = true then (1 : Int) else 0) ∧ (if b = true then (1 : Int) else 0) ≤ 1 := by
  cases b <;> simp
theorem ite_mul {q : Int} {b : Bool} (h0 : 0 ≤ q) (h1 : q < 9) : 0 ≤ (1 + q) * (if b = true then (1 : Int) else 0) ∧ (1 + q) * (if b = true then (1 : Int) else 0) ≤ 9 := by
  cases b
  · simp
  · simp; omega
abbrev spO (p : Int × Int) : O := .cell (.val (spD p))
theorem err_of {f g : Fm} {m : Str} {l U : List Str} (hn : (nms g.ts).Nodup) (hu : nms (g.ts.filter (unl f.ts)) = sortS U) (hS : sortS U = m :: l) (s : Int) : mrg f g s = .error m := by
  rw [hS] at hu
  cases e : g.ts.filter (unl f.ts) with
  | nil => rw [e] at hu; cases hu
  | cons y r =>
    rw [e] at hu
    have hu : y.n :: nms r = m :: l := hu
    rw [mrg_err hn e, (List.cons.inj hu).1]
theorem like_of {f g : Fm} (hu : nms (g.ts.filter (unl f.ts)) = []) : Like f.ts g.ts := by
  refine mrg_none ?_
  cases e : g.ts.filter (unl f.ts) with
  | nil => rfl
  | cons y r => rw [e] at hu; cases hu
theorem ne_of {f g : Fm} {m : Str} {l U : List Str} (hn : (nms g.ts).Nodup) (hu : nms (g.ts.filter (unl f.ts)) = sortS U) (hS : sortS U = m :: l) : f ≠ g := fun e => by
  subst e
  have := err_of hn hu hS 0
  cases e : f.ts.filter (unl f.ts) with
  | nil => rw [hS, e] at hu; cases hu
  | cons y r =>
    have hy : y ∈ f.ts.filter (unl f.ts) := by rw [e]; exact List.mem_cons_self
    obtain ⟨h1, h2⟩ := List.mem_filter.mp hy
    unfold unl at h2
    rw [fnd_mem hn h1] at h2
    simp at h2
theorem bd_of {f g : Fm} (hf : Can f.ts) (hg : Can g.ts) (hl : Like f.ts g.ts) (h1 : ∀ x ∈ f.ts, x.t.natAbs < 2 ^ 240 ∧ x.lo.natAbs < 2 ^ 250 ∧ x.hi.natAbs < 2 ^ 250) (h2 : ∀ x ∈ g.ts, x.t.natAbs < 2 ^ 240 ∧ x.lo.natAbs < 2 ^ 250 ∧ x.hi.natAbs < 2 ^ 250) (hlen : f.ts.length + g.ts.length ≤ 60) {s : Int} (hs : s = 1 ∨ s = -1) : ∃ q, mrg f g s = .ok q ∧ MulT q ∧ q.ts.length ≤ 1000 ∧ q.c = f.c + s * g.c := by
  obtain ⟨q, e1, e2, e3, e4⟩ := mrg_ok (s := s) hf hg hl
  have ends : ∀ x ∈ q.ts, (x.t.natAbs < 2 ^ 250 ∧ x.lo.natAbs < 2 ^ 250 ∧ x.hi.natAbs < 2 ^ 250) ∧ x.n ∈ nms f.ts ++ nms g.ts := fun x hx => by
    have e5 := e4 x.n
    rw [fnd_mem e2.nd hx] at e5
    cases ef : fnd f.ts x.n with
    | none =>
      cases eg : fnd g.ts x.n with
      | none => rw [ef, eg] at e5; cases e5
      | some y =>
        rw [ef, eg] at e5
        obtain ⟨gy, ny⟩ := fnd_some eg
        have b := h2 y gy
        simp only [cmbO, Option.filter_some] at e5
        split at e5
        · have e5 := Option.some.inj e5
          rw [e5]
          refine ⟨⟨?_, b.2.1, b.2.2⟩, List.mem_append_right _ (show y.n ∈ nms g.ts from List.mem_map_of_mem gy)⟩
          show (s * y.t).natAbs < _
          rcases hs with rfl | rfl <;> omega
        · cases e5
    | some z =>
      obtain ⟨gz, nz'⟩ := fnd_some ef
      have bz := h1 z gz
      cases eg : fnd g.ts x.n with
      | none =>
        rw [ef, eg] at e5
        simp only [cmbO, Option.filter_some] at e5
        split at e5
        · have e5 := Option.some.inj e5
          rw [e5]
          exact ⟨⟨by omega, bz.2.1, bz.2.2⟩, List.mem_append_left _ (List.mem_map_of_mem gz)⟩
        · cases e5
      | some y =>
        rw [ef, eg] at e5
        obtain ⟨gy, ny⟩ := fnd_some eg
        have b := h2 y gy
        simp only [cmbO, Option.filter_some] at e5
        split at e5
        · have e5 := Option.some.inj e5
          rw [e5]
          refine ⟨⟨?_, b.2.1, b.2.2⟩, List.mem_append_right _ (show y.n ∈ nms g.ts from List.mem_map_of_mem gy)⟩
          show (z.t + s * y.t).natAbs < _
          rcases hs with rfl | rfl <;> omega
        · cases e5
  refine ⟨q, e1, fun x hx => ?_, ?_, e3⟩
  · obtain ⟨⟨a, b, c⟩, _⟩ := ends x hx
    exact ⟨mul_small a b, mul_small a c⟩
  · have := nodup_len e2.nd (l2 := nms f.ts ++ nms g.ts) fun n hn => by
      obtain ⟨x, hx, rfl⟩ := List.mem_map.mp hn
      exact (ends x hx).2
    rw [List.length_append, List.length_map, List.length_map, List.length_map] at this
    omega

end LW


namespace LW
open VN FM

theorem look_rep : ∀ {ks : List Key} {vs : List D} {k x : Key} {d : D}, ks.length = vs.length → k ∈ ks → look ks (rep ks vs k d) x = if k = x then some d else look ks vs x
  | [], _, _, _, _, _, h => by cases h
  | y :: ks, [], _, _, _, h, _ => by cases h
  | y :: ks, v :: vs, k, x, d, hl, h => by
    show (if y = x then some (if y = k then d else v) else look ks (rep ks vs k d) x) = if k = x then some d else (if y = x then some v else look ks vs x)
    by_cases e : y = x
    · subst e
      rw [if_pos rfl, if_pos rfl]
      by_cases q : y = k
      · rw [if_pos q, if_pos q.symm]
      · rw [if_neg q, if_neg fun e => q e.symm]
    · rw [if_neg e, if_neg e]
      by_cases q : k ∈ ks
      · exact look_rep (by simpa using hl) q
      · have hk : k = y := by
          rcases List.mem_cons.mp h with w | w
          · exact w
          · exact absurd w q
        have e2 : rep ks vs k d = vs := by
          have : ∀ {ks : List Key} {vs : List D}, ks.length = vs.length → k ∉ ks → rep ks vs k d = vs := by
            intro ks
            induction ks with
            | nil => intro vs hl _; cases vs with
              | nil => rfl
              | cons v vs => cases hl
            | cons z ks ih =>
              intro vs hl hk
              cases vs with
              | nil => cases hl
              | cons v vs =>
                show (if z = k then d else v) :: rep ks vs k d = v :: vs
                rw [if_neg fun e => hk (by rw [e]; exact List.mem_cons_self), ih (by simpa using hl) fun h => hk (List.mem_cons_of_mem _ h)]
          exact this (by simpa using hl) q
        rw [e2, if_neg (by rw [hk]; exact e)]
theorem look_app : ∀ {ks : List Key} {vs : List D} {k x : Key} {d : D}, ks.length = vs.length → k ∉ ks → look (ks ++ [k]) (vs ++ [d]) x = if k = x then some d else look ks vs x
  | [], [], k, x, d, _, _ => by
    show (if k = x then some d else none) = _
    rfl
  | y :: ks, [], _, _, _, h, _ => by cases h
  | [], v :: vs, _, _, _, h, _ => by cases h
  | y :: ks, v :: vs, k, x, d, hl, h => by
    show (if y = x then some v else look (ks ++ [k]) (vs ++ [d]) x) = if k = x then some d else (if y = x then some v else look ks vs x)
    rw [look_app (by simpa using hl) fun q => h (List.mem_cons_of_mem _ q)]
    by_cases e : y = x
    · subst e
      rw [if_pos rfl, if_neg fun e => h (by rw [e]; exact List.mem_cons_self), if_pos rfl]
    · rw [if_neg e, if_neg e]
theorem put_len {ks : List Key} {vs : List D} {k : Key} {d : D} (hl : ks.length = vs.length) : (put ks vs k d).1.length = (put ks vs k d).2.length ∧ (put ks vs k d).1.length ≤ ks.length + 1 := by
  have hr : ∀ {ks : List Key} {vs : List D}, ks.length = vs.length → (rep ks vs k d).length = ks.length := by
    intro ks
    induction ks with
    | nil => intro vs hl; cases vs with
      | nil => rfl
      | cons v vs => cases hl
    | cons z ks ih => intro vs hl; cases vs with
      | nil => cases hl
      | cons v vs =>
        show (rep ks vs k d).length + 1 = ks.length + 1
        rw [ih (by simpa using hl)]
  unfold put
  split
  · exact ⟨(hr hl).symm, by simp⟩
  · simp [hl]
theorem look_put {ks : List Key} {vs : List D} {k x : Key} {d : D} (hl : ks.length = vs.length) : look (put ks vs k d).1 (put ks vs k d).2 x = if k = x then some d else look ks vs x := by
  unfold put
  by_cases h : ks.any (fun y => decide (y = k)) = true
  · rw [if_pos h]
    refine look_rep hl ?_
    obtain ⟨y, hy, e⟩ := List.any_eq_true.mp h
    rw [← of_decide_eq_true e]; exact hy
  · rw [if_neg h]
    refine look_app hl fun q => h ?_
    exact List.any_eq_true.mpr ⟨k, q, by simp⟩

end LW


namespace LW
open VN FM

def msF (b : Bool) (t : Int) (n : Str) : List Str := if b = false ∧ t ≠ 0 then [n] else []
theorem msF_len (b : Bool) (t : Int) (n : Str) : (msF b t n).length ≤ 1 := by
  unfold msF
  split <;> simp
theorem mem_msF {b : Bool} {t : Int} {n x : Str} : x ∈ msF b t n ↔ x = n ∧ b = false ∧ t ≠ 0 := by
  unfold msF
  by_cases h : b = false ∧ t ≠ 0
  · rw [if_pos h]; simp [h]
  · rw [if_neg h]; simp only [List.not_mem_nil, false_iff]; exact fun q => h q.2
theorem mem_cF3 {p0 p1 p2 : Int × Int} {c t0 t1 t2 : Int} {n0 m1 m2 n : Str} (hn : [n0, m1, m2].Nodup) : n ∈ nms (cF [n0, m1, m2] [p0, p1, p2] c [t0, t1, t2]).ts ↔ (n = n0 ∧ t0 ≠ 0) ∨ (n = m1 ∧ t1 ≠ 0) ∨ (n = m2 ∧ t2 ≠ 0) := by
  have e : n ∈ nms (cF [n0, m1, m2] [p0, p1, p2] c [t0, t1, t2]).ts ↔ fnd (cF [n0, m1, m2] [p0, p1, p2] c [t0, t1, t2]).ts n ≠ none := by
    rw [Ne, fnd_none, Decidable.not_not]
  rw [e, fnd_cF hn rfl rfl]
  simp only [List.nodup_cons, List.mem_cons, List.not_mem_nil, or_false, not_or] at hn
  obtain ⟨⟨h01, h02⟩, h12, _⟩ := hn
  unfold zA zA zA zA
  rw [fnd_cons, fnd_cons, fnd_cons]
  by_cases q0 : n0 = n
  · subst q0
    rw [if_pos rfl, Option.filter_some]
    by_cases z : t0 = 0
    · simp [nz, z, h01, h02]
    · simp [nz, z]
  · rw [if_neg q0]
    by_cases q1 : m1 = n
    · subst q1
      rw [if_pos rfl, Option.filter_some]
      by_cases z : t1 = 0
      · simp [nz, z, h12]
        exact fun e => absurd e.symm h01
      · simp [nz, z]
    · rw [if_neg q1]
      by_cases q2 : m2 = n
      · subst q2
        rw [if_pos rfl, Option.filter_some]
        by_cases z : t2 = 0
        · simp [nz, z]
          exact ⟨fun e => absurd e.symm h02, fun e => absurd e.symm h12⟩
        · simp [nz, z]
      · rw [if_neg q2]
        have a0 : ¬ n = n0 := fun e => q0 e.symm
        have a1 : ¬ n = m1 := fun e => q1 e.symm
        have a2 : ¬ n = m2 := fun e => q2 e.symm
        simp [fnd, a0, a1, a2]

end LW


namespace LW
open VN FM

theorem v31 {k : Nat} {F : D} {c x0 x1 x2 r0 r1 r2 : Int} {o1 : O} {N Z} (e1 : o1 = oT [F, .int c, .lst [.int x0, .int x1, .int x2]]) (m0 : mulOk x0 r0 = true) (m1 : mulOk x1 r1 = true) (m2 : mulOk x2 r2 = true) (h : N (oI (c + x0 * r0 + x1 * r1 + x2 * r2)) [o1, oL [.int r0, .int r1, .int r2]]) : PF (G (k + 2) 31 [o1, oL [.int r0, .int r1, .int r2]]) N Z := by
  subst e1
  refine pf_run s31 rfl ?_
  array_mem_dec
  exact h

theorem eqKI_refl : ∀ is : List Int, eqKI (is.map D.int) (is.map D.int) = true
  | [] => rfl
  | i :: is => by
    show (decide (i = i) && eqKI (is.map D.int) (is.map D.int)) = true
    rw [eqKI_refl is]
    simp
theorem op_eqK {ks : List Key} {is : List Int} {P : O → Prop} (h : ks.Nodup) (p : P (oB true)) : So (VE.pick [.eq, .eqK] (.dct ks (is.map D.int)) (.dct ks (is.map D.int))) P := by
  refine pick_tl ?_ (pick1 ?_)
  · show (eqD (.dct ks (is.map D.int)) (.dct ks (is.map D.int))).bind bO = none
    have : D.py (.dct ks (is.map D.int)) = none := by rw [D.py]; all_goals simp
    unfold eqD
    rw [this]
    rfl
  · refine so_of (a := oB true) ?_ p
    show (if ks = ks ∧ eqKI (is.map D.int) (is.map D.int) = true ∧ ks.Nodup then bO true else none) = _
    rw [if_pos ⟨rfl, eqKI_refl is, h⟩]
    rfl
/-- a dict of whole numbers -/
def DI (ks : List Key) (vs : List D) : Prop := ks.length = vs.length ∧ ks.Nodup ∧ ∃ is : List Int, vs = is.map D.int
theorem DI.put {ks : List Key} {vs : List D} {k : Key} {i : Int} (h : DI ks vs) : DI (put ks vs k (.int i)).1 (put ks vs k (.int i)).2 := by
  obtain ⟨h1, h2, is, rfl⟩ := h
  refine ⟨(put_len h1).1, ?_, ?_⟩
  · unfold VE.put
    split
    · exact h2
    · rename_i q
      refine List.nodup_append.mpr ⟨h2, by simp, fun a ha b hb e => q ?_⟩
      rw [List.mem_singleton.mp hb] at e
      exact List.any_eq_true.mpr ⟨a, ha, by simp [e]⟩
  · have hr : ∀ (ks : List Key) (is : List Int), ∃ js : List Int, rep ks (is.map D.int) k (.int i) = js.map D.int := by
      intro ks
      induction ks with
      | nil => intro is; exact ⟨[], by cases is <;> rfl⟩
      | cons y ks ih =>
        intro is
        cases is with
        | nil => exact ⟨[], rfl⟩
        | cons z is =>
          obtain ⟨js, e⟩ := ih is
          refine ⟨(if y = k then i else z) :: js, ?_⟩
          show (if y = k then D.int i else D.int z) :: rep ks (is.map D.int) k (.int i) = _
          rw [e, List.map_cons]
          split <;> rfl
    unfold VE.put
    split
    · exact hr ks is
    · exact ⟨is ++ [i], by simp⟩

theorem v32 {k : Nat} {f : Fm} {r0 r1 r2 due : Int} {n0 m1 m2 : Str} {N Z} (hn : [n0, m1, m2].Nodup) (hl : f.ts.length ≤ 1000) (hf : ∀ x ∈ f.ts, x.n ∈ [n0, m1, m2] ∧ mulOk x.t r0 = true ∧ mulOk x.t r1 = true ∧ mulOk x.t r2 = true) (hv : ∀ rho : Str → Int, rho n0 = r0 → rho m1 = r1 → rho m2 = r2 → valF f rho = due) (h : N (oB true) [oF f, oL [.str n0, .str m1, .str m2], oL [.int r0, .int r1, .int r2], oI due]) : PF (G (k + 4) 32 [oF f, oL [.str n0, .str m1, .str m2], oL [.int r0, .int r1, .int r2], oI due]) N Z := by
  refine pf_run s32 rfl ?_
  simp only [List.nodup_cons, List.mem_cons, List.not_mem_nil, or_false, not_or] at hn
  obtain ⟨⟨h01, h02⟩, h12, _⟩ := hn
  have K : ∀ {x y : Str}, ¬ x = y → ¬ (Sum.inr x : Key) = .inr y := fun h e => h (Sum.inr.inj e)
  and_intros
  refine ps_mid (fun e => (∃ (ks : List Key) (vs : List D), e = [some (oF f), some (oL [.str n0, .str m1, .str m2]), some (oL [.int r0, .int r1, .int r2]), some (oI due), some (.cell (.dct ks vs)), none, none, none] ∧ DI ks vs ∧ ks.length ≤ 1)) ?_ ?_
  · array_mem_dec
    exact ⟨_, _, rfl, ⟨rfl, by simp, [5], rfl⟩, by simp⟩
  rintro e ⟨ks, vs, rfl, d1, l1⟩
  have L : ks.length < sizeLine := sz_lt (m := 100) (by omega) (by decide)
  array_get_dec
  and_intros
  array_get_dec
  and_intros
  refine ps_mid (fun e => (∃ (ks : List Key) (vs : List D), e = [some (oF f), some (oL [.str n0, .str m1, .str m2]), some (oL [.int r0, .int r1, .int r2]), some (oI due), some (.cell (.dct ks vs)), some (oI 0), none, none] ∧ DI ks vs ∧ ks.length ≤ 2 ∧ look ks vs (.inr n0) = some (.int r0))) ?_ ?_
  · array_mem_dec
    exact ⟨_, _, rfl, d1.put, (by have := (put_len (k := .inr n0) (d := D.int r0) d1.1).2; omega), (by rw [look_put d1.1, if_pos rfl])⟩
  clear L d1 l1 
  clear ks vs
  rintro e ⟨ks, vs, rfl, d1, l1, g0⟩
  have L : ks.length < sizeLine := sz_lt (m := 100) (by omega) (by decide)
  and_intros
  array_get_dec
  and_intros
  refine ps_mid (fun e => (∃ (ks : List Key) (vs : List D), e = [some (oF f), some (oL [.str n0, .str m1, .str m2]), some (oL [.int r0, .int r1, .int r2]), some (oI due), some (.cell (.dct ks vs)), some (oI 1), none, none] ∧ DI ks vs ∧ ks.length ≤ 3 ∧ look ks vs (.inr n0) = some (.int r0) ∧ look ks vs (.inr m1) = some (.int r1))) ?_ ?_
  · array_mem_dec
    exact ⟨_, _, rfl, d1.put, (by have := (put_len (k := .inr m1) (d := D.int r1) d1.1).2; omega), (by rw [look_put d1.1, if_neg (K (fun e => h01 e.symm))]; exact g0), (by rw [look_put d1.1, if_pos rfl])⟩
  clear L d1 l1 g0
  clear ks vs
  rintro e ⟨ks, vs, rfl, d1, l1, g0, g1⟩
  have L : ks.length < sizeLine := sz_lt (m := 100) (by omega) (by decide)
  and_intros
  array_get_dec
  and_intros
  refine ps_mid (fun e => (∃ (ks : List Key) (vs : List D), e = [some (oF f), some (oL [.str n0, .str m1, .str m2]), some (oL [.int r0, .int r1, .int r2]), some (oI due), some (.cell (.dct ks vs)), some (oI 2), none, none] ∧ DI ks vs ∧ ks.length ≤ 4 ∧ look ks vs (.inr n0) = some (.int r0) ∧ look ks vs (.inr m1) = some (.int r1) ∧ look ks vs (.inr m2) = some (.int r2))) ?_ ?_
  · array_mem_dec
    exact ⟨_, _, rfl, d1.put, (by have := (put_len (k := .inr m2) (d := D.int r2) d1.1).2; omega), (by rw [look_put d1.1, if_neg (K (fun e => h02 e.symm))]; exact g0), (by rw [look_put d1.1, if_neg (K (fun e => h12 e.symm))]; exact g1), (by rw [look_put d1.1, if_pos rfl])⟩
  clear L d1 l1 g0 g1
  clear ks vs
  rintro e ⟨ks, vs, rfl, d1, l1, g0, g1, g2⟩
  obtain ⟨rho, hr⟩ : ∃ rho : Str → Int, rho = fun n => if n = n0 then r0 else if n = m1 then r1 else r2 := ⟨_, rfl⟩
  have R0 : rho n0 = r0 := by rw [hr]; simp
  have R1 : rho m1 = r1 := by
    rw [hr]
    show (if m1 = n0 then r0 else if m1 = m1 then r1 else r2) = r1
    rw [if_neg fun e => h01 e.symm, if_pos rfl]
  have R2 : rho m2 = r2 := by
    rw [hr]
    show (if m2 = n0 then r0 else if m2 = m1 then r1 else r2) = r2
    rw [if_neg fun e => h02 e.symm, if_neg fun e => h12 e.symm]
  have hlk : ∀ x ∈ f.ts, look ks vs (.inr x.n) = some (.int (rho x.n)) ∧ mulOk x.t (rho x.n) = true := fun x hx => by
    obtain ⟨a, b, c, d⟩ := hf x hx
    simp only [List.mem_cons, List.not_mem_nil, or_false] at a
    rcases a with e | e | e <;> rw [e]
    · rw [R0]; exact ⟨g0, b⟩
    · rw [R1]; exact ⟨g1, c⟩
    · rw [R2]; exact ⟨g2, d⟩
  have hval := hv rho R0 R1 R2
  obtain ⟨_, dn, is, rfl⟩ := d1
  array_mem_dec
  refine v10 (f := f) (rho := rho) (.inl rfl) hl (fun x hx d hd => ?_) (fun _ => ?_) fun p x r e _ hx => ?_
  · rw [(hlk x hx).1] at hd
    exact ⟨(Option.some.inj hd).symm, (hlk x hx).2⟩
  · array_mem_dec
    refine v25 ?_
    array_mem_dec
    refine op_eqK dn ?_
    array_mem_dec
    exact h
  · rw [(hlk x (by rw [e]; simp)).1] at hx
    cases hx
end LW


namespace LW
open VN FM

theorem log_big {n : Nat} (h : n < 10 ^ 120) : n.log2 < 400 := by
  by_cases z : n = 0
  · subst z; decide
  · exact (Nat.log2_lt z).mpr (Nat.lt_of_lt_of_le h (by decide +kernel))
theorem mul_big {i j : Int} (hi : i.natAbs < 10 ^ 120) (hj : j.natAbs < 10 ^ 120) : mulOk i j = true := by
  have h1 := log_big hi
  have h2 := log_big hj
  unfold mulOk
  rw [Bool.or_eq_true]
  right
  exact decide_eq_true
                      (by omega)
theorem prod_le {x y : Int} (hx : -10 ^ 56 ≤ x ∧ x ≤ 10 ^ 56) (hy : -10 ^ 56 ≤ y ∧ y ≤ 10 ^ 56) : -10 ^ 112 ≤ x * y ∧ x * y ≤ 10 ^ 112 := by
  have h : (x * y).natAbs ≤ 10 ^ 56 * 10 ^ 56 := by
    rw [Int.natAbs_mul]
    exact Nat.mul_le_mul (by omega) (by omega)
  omega
theorem f3ok {p0 p1 p2 : Int × Int} {n0 m1 m2 : Str} {cc u0 u1 u2 r0 r1 r2 due : Int} (hn : [n0, m1, m2].Nodup) (h0 : u0.natAbs < 10 ^ 120) (h1 : u1.natAbs < 10 ^ 120) (h2 : u2.natAbs < 10 ^ 120) (k0 : r0.natAbs < 10 ^ 120) (k1 : r1.natAbs < 10 ^ 120) (k2 : r2.natAbs < 10 ^ 120) (e : cc + u0 * r0 + u1 * r1 + u2 * r2 = due) :
    (cF [n0, m1, m2] [p0, p1, p2] cc [u0, u1, u2]).ts.length ≤ 1000 ∧ (∀ x ∈ (cF [n0, m1, m2] [p0, p1, p2] cc [u0, u1, u2]).ts, x.n ∈ [n0, m1, m2] ∧ mulOk x.t r0 = true ∧ mulOk x.t r1 = true ∧ mulOk x.t r2 = true) ∧ ∀ rho : Str → Int, rho n0 = r0 → rho m1 = r1 → rho m2 = r2 → valF (cF [n0, m1, m2] [p0, p1, p2] cc [u0, u1, u2]) rho = due := by
  refine ⟨?_, fun x hx => ?_, fun rho q0 q1 q2 => ?_⟩
  · have := cF_len (ns := [n0, m1, m2]) (sp := [p0, p1, p2]) (ts := [u0, u1, u2]) (c := cc) rfl rfl
    simp only [List.length_cons, List.length_nil] at this
    omega
  · obtain ⟨g1, _, g3⟩ := cF_bd hn rfl rfl x hx
    simp only [List.mem_cons, List.not_mem_nil, or_false] at g1
    refine ⟨g3, ?_⟩
    rcases g1 with e | e | e <;> rw [e]
    · exact ⟨mul_big h0 k0, mul_big h0 k1, mul_big h0 k2⟩
    · exact ⟨mul_big h1 k0, mul_big h1 k1, mul_big h1 k2⟩
    · exact ⟨mul_big h2 k0, mul_big h2 k1, mul_big h2 k2⟩
  · have h0 : ∀ x : Tm, x.t = 0 → x.t * rho x.n = 0 := fun x q => by rw [q, Int.zero_mul]
    have hz : (nms (zA [n0, m1, m2] [u0, u1, u2] [p0, p1, p2])).Nodup := by rw [nms_zA rfl rfl]; exact hn
    unfold valF cF
    show cc + ((srt (zA [n0, m1, m2] [u0, u1, u2] [p0, p1, p2])).map fun x => x.t * rho x.n).sum = _
    rw [sum_srt hz h0]
    show cc + ([u0 * rho n0, u1 * rho m1, u2 * rho m2] : List Int).sum = _
    rw [q0, q1, q2, ← e]
    simp only [List.sum_cons, List.sum_nil]
    omega

theorem v33 {k : Nat} {nl : List Int} {N Z} (hl : nl.length ≤ 63) (h : N (oB true) [.v (.lst (nl.map D.int))]) : PF (G (k + 10) 33 [.v (.lst (nl.map D.int))]) N Z := by
  refine pf_run s33 rfl ?_
  array_mem_dec
  refine v22 hl (by decide) (by decide) fun a b => ?_
  array_mem_dec
  refine v27 (by decide) (by decide) fun ns a1 n1 nd n3 => ?_
  obtain ⟨n0, m1, m2, rfl⟩ := len3 (show ns.length = 3 from n1)
  rw [show [n0, m1, m2].map D.str = [.str n0, .str m1, .str m2] from rfl]
  array_mem_dec
  refine v28 (by decide) (by decide) fun sp a2 q1 q2 => ?_
  obtain ⟨p0, p1, p2, rfl⟩ := len3 (show sp.length = 3 from q1)
  array_mem_dec
  refine v29 (ns := [n0, m1, m2]) (sp := [p0, p1, p2]) rfl rfl n3 rfl (by simp) q2 ?_
  array_mem_dec
  refine v22 hl (by decide) (by decide) fun a b => ?_
  array_mem_dec
  refine v30 (ns := [n0, m1, m2]) (sp := [p0, p1, p2]) nd rfl (by simp) fun c ts a t1 tb => ?_
  obtain ⟨x0, x1, x2, rfl⟩ := len3 (show ts.length = 3 from t1)
  array_mem_dec
  refine v30 (ns := [n0, m1, m2]) (sp := [p0, p1, p2]) nd rfl (by simp) fun d us a t2 ub => ?_
  obtain ⟨y0, y1, y2, rfl⟩ := len3 (show us.length = 3 from t2)
  array_mem_dec
  refine v26 fun n a nl0 nu0 => ?_
  have hc := tb c (by simp)
  have hx0 := tb x0 (by simp)
  have hx1 := tb x1 (by simp)
  have hx2 := tb x2 (by simp)
  have hd := ub d (by simp)
  have hy0 := ub y0 (by simp)
  have hy1 := ub y1 (by simp)
  have hy2 := ub y2 (by simp)
  have hn := And.intro nl0 nu0
  have pc := prod_le hc hn
  have px0 := prod_le hx0 hn
  have px1 := prod_le hx1 hn
  have px2 := prod_le hx2 hn
  have hF := (cF_can (c := c) (ts := [x0, x1, x2]) (sp := [p0, p1, p2]) nd rfl rfl).nd
  have hG := (cF_can (c := d) (ts := [y0, y1, y2]) (sp := [p0, p1, p2]) nd rfl rfl).nd
  have lF := cF_len (ns := [n0, m1, m2]) (sp := [p0, p1, p2]) (ts := [x0, x1, x2]) (c := c) rfl rfl
  have lG := cF_len (ns := [n0, m1, m2]) (sp := [p0, p1, p2]) (ts := [y0, y1, y2]) (c := d) rfl rfl
  simp only [List.length_cons, List.length_nil] at lF lG
  have A1 : mrg (cF [n0, m1, m2] [p0, p1, p2] c [x0, x1, x2]) (cF [n0, m1, m2] [p0, p1, p2] d [y0, y1, y2]) 1 = .ok (cF [n0, m1, m2] [p0, p1, p2] (c + d) [x0 + y0, x1 + y1, x2 + y2]) := (mrg_cF (ts := [x0, x1, x2]) (us := [y0, y1, y2]) nd rfl rfl rfl).trans (by simp)
  have A2 : mrg (cF [n0, m1, m2] [p0, p1, p2] c [x0, x1, x2]) (cF [n0, m1, m2] [p0, p1, p2] d [y0, y1, y2]) (-1) = .ok (cF [n0, m1, m2] [p0, p1, p2] (c - d) [x0 - y0, x1 - y1, x2 - y2]) := (mrg_cF (ts := [x0, x1, x2]) (us := [y0, y1, y2]) nd rfl rfl rfl).trans (by simp [Int.sub_eq_add_neg])
  have A3 : mrg (cF [n0, m1, m2] [p0, p1, p2] d [y0, y1, y2]) (cF [n0, m1, m2] [p0, p1, p2] c [x0, x1, x2]) (-1) = .ok (cF [n0, m1, m2] [p0, p1, p2] (d - c) [y0 - x0, y1 - x1, y2 - x2]) := (mrg_cF (ts := [y0, y1, y2]) (us := [x0, x1, x2]) nd rfl rfl rfl).trans (by simp [Int.sub_eq_add_neg])
  have A7 : mrg ⟨n, []⟩ (cF [n0, m1, m2] [p0, p1, p2] c [x0, x1, x2]) (-1) = .ok (cF [n0, m1, m2] [p0, p1, p2] (n - c) [-x0, -x1, -x2]) := (sub_cF (ts := [x0, x1, x2]) nd rfl rfl).trans (by simp [Int.sub_eq_add_neg])
  have A8 : mulF (cF [n0, m1, m2] [p0, p1, p2] c [x0, x1, x2]) n = cF [n0, m1, m2] [p0, p1, p2] (c * n) [x0 * n, x1 * n, x2 * n] := (mul_cF (ts := [x0, x1, x2]) nd rfl rfl).trans (by simp)
  have A10 : mulF (cF [n0, m1, m2] [p0, p1, p2] c [x0, x1, x2]) (-1) = cF [n0, m1, m2] [p0, p1, p2] (-c) [-x0, -x1, -x2] := (mul_cF (ts := [x0, x1, x2]) nd rfl rfl).trans (by simp)
  have m0 : mulOk c n = true := mul_big (by omega) (by omega)
  have hm : ∀ x ∈ (cF [n0, m1, m2] [p0, p1, p2] c [x0, x1, x2]).ts, mulOk x.t n = true := fun x hx => by
    obtain ⟨g1, _, _⟩ := cF_bd nd rfl rfl x hx
    simp only [List.mem_cons, List.not_mem_nil, or_false] at g1
    rcases g1 with e | e | e <;> rw [e] <;> exact mul_big (by omega) (by omega)
  array_mem_dec
  refine v12 (f := cF [n0, m1, m2] [p0, p1, p2] c [x0, x1, x2]) (g := cF [n0, m1, m2] [p0, p1, p2] d [y0, y1, y2]) hF (by omega) (fun q hq => ?_) fun q hq => by rw [A1] at hq; cases hq
  rw [A1] at hq
  cases hq
  array_mem_dec
  refine v14 (f := cF [n0, m1, m2] [p0, p1, p2] c [x0, x1, x2]) (g := cF [n0, m1, m2] [p0, p1, p2] d [y0, y1, y2]) hF (by omega) (fun q hq => ?_) fun q hq => by rw [A2] at hq; cases hq
  rw [A2] at hq
  cases hq
  array_mem_dec
  refine v14 (f := cF [n0, m1, m2] [p0, p1, p2] d [y0, y1, y2]) (g := cF [n0, m1, m2] [p0, p1, p2] c [x0, x1, x2]) hG (by omega) (fun q hq => ?_) fun q hq => by rw [A3] at hq; cases hq
  rw [A3] at hq
  cases hq
  array_mem_dec
  refine v12i (f := cF [n0, m1, m2] [p0, p1, p2] c [x0, x1, x2]) ?_
  array_mem_dec
  refine v13i (f := cF [n0, m1, m2] [p0, p1, p2] c [x0, x1, x2]) ?_
  array_mem_dec
  refine v14i (f := cF [n0, m1, m2] [p0, p1, p2] c [x0, x1, x2]) ?_
  array_mem_dec
  refine v15i (f := cF [n0, m1, m2] [p0, p1, p2] c [x0, x1, x2]) (by omega) (fun q hq => ?_) fun q hq => by rw [A7] at hq; cases hq
  rw [A7] at hq
  cases hq
  array_mem_dec
  refine v16 (f := cF [n0, m1, m2] [p0, p1, p2] c [x0, x1, x2]) (by omega) m0 hm ?_
  rw [A8]
  array_mem_dec
  refine v17 (f := cF [n0, m1, m2] [p0, p1, p2] c [x0, x1, x2]) (by omega) m0 hm ?_
  rw [A8]
  array_mem_dec
  refine v18 (f := cF [n0, m1, m2] [p0, p1, p2] c [x0, x1, x2]) (by omega) ?_
  rw [A10]
  array_mem_dec
  refine v22 hl (by decide) (by decide) fun a b => ?_
  array_mem_dec
  refine v26 fun r0 a r0l r0u => ?_
  array_mem_dec
  refine v26 fun r1 a r1l r1u => ?_
  array_mem_dec
  refine v26 fun r2 a r2l r2u => ?_
  array_mem_dec
  have ex0 := prod_le hx0 ⟨r0l, r0u⟩
  have ey0 := prod_le hy0 ⟨r0l, r0u⟩
  have ex1 := prod_le hx1 ⟨r1l, r1u⟩
  have ey1 := prod_le hy1 ⟨r1l, r1u⟩
  have ex2 := prod_le hx2 ⟨r2l, r2u⟩
  have ey2 := prod_le hy2 ⟨r2l, r2u⟩
  refine v31 rfl (mul_big (by omega) (by omega)) (mul_big (by omega) (by omega)) (mul_big (by omega) (by omega)) ?_
  array_mem_dec
  refine v31 rfl (mul_big (by omega) (by omega)) (mul_big (by omega) (by omega)) (mul_big (by omega) (by omega)) ?_
  have mA : mulOk (c + x0 * r0 + x1 * r1 + x2 * r2) n = true := mul_big (by omega) (by omega)
  have mB : mulOk n (c + x0 * r0 + x1 * r1 + x2 * r2) = true := mul_big (by omega) (by omega)
  array_mem_dec
  have K0 := f3ok (p0 := p0) (p1 := p1) (p2 := p2) (cc := c + d) (u0 := x0 + y0) (u1 := x1 + y1) (u2 := x2 + y2) (r0 := r0) (r1 := r1) (r2 := r2) (due := c + x0 * r0 + x1 * r1 + x2 * r2 + (d + y0 * r0 + y1 * r1 + y2 * r2)) nd (by omega) (by omega) (by omega) (by omega) (by omega) (by omega) (by simp only [Int.add_mul, Int.sub_mul, Int.neg_mul, Int.mul_add]; omega)
  refine v32 (f := cF [n0, m1, m2] [p0, p1, p2] (c + d) [x0 + y0, x1 + y1, x2 + y2]) nd K0.1 K0.2.1 K0.2.2 ?_
  array_mem_dec
  have K1 := f3ok (p0 := p0) (p1 := p1) (p2 := p2) (cc := c - d) (u0 := x0 - y0) (u1 := x1 - y1) (u2 := x2 - y2) (r0 := r0) (r1 := r1) (r2 := r2) (due := c + x0 * r0 + x1 * r1 + x2 * r2 - (d + y0 * r0 + y1 * r1 + y2 * r2)) nd (by omega) (by omega) (by omega) (by omega) (by omega) (by omega) (by simp only [Int.add_mul, Int.sub_mul, Int.neg_mul, Int.mul_add]; omega)
  refine v32 (f := cF [n0, m1, m2] [p0, p1, p2] (c - d) [x0 - y0, x1 - y1, x2 - y2]) nd K1.1 K1.2.1 K1.2.2 ?_
  array_mem_dec
  have K2 := f3ok (p0 := p0) (p1 := p1) (p2 := p2) (cc := d - c) (u0 := y0 - x0) (u1 := y1 - x1) (u2 := y2 - x2) (r0 := r0) (r1 := r1) (r2 := r2) (due := d + y0 * r0 + y1 * r1 + y2 * r2 - (c + x0 * r0 + x1 * r1 + x2 * r2)) nd (by omega) (by omega) (by omega) (by omega) (by omega) (by omega) (by simp only [Int.add_mul, Int.sub_mul, Int.neg_mul, Int.mul_add]; omega)
  refine v32 (f := cF [n0, m1, m2] [p0, p1, p2] (d - c) [y0 - x0, y1 - x1, y2 - x2]) nd K2.1 K2.2.1 K2.2.2 ?_
  array_mem_dec
  have K3 := f3ok (p0 := p0) (p1 := p1) (p2 := p2) (cc := c + n) (u0 := x0) (u1 := x1) (u2 := x2) (r0 := r0) (r1 := r1) (r2 := r2) (due := c + x0 * r0 + x1 * r1 + x2 * r2 + n) nd (by omega) (by omega) (by omega) (by omega) (by omega) (by omega) (by omega)
  refine v32 (f := cF [n0, m1, m2] [p0, p1, p2] (c + n) [x0, x1, x2]) nd K3.1 K3.2.1 K3.2.2 ?_
  array_mem_dec
  have K4 := f3ok (p0 := p0) (p1 := p1) (p2 := p2) (cc := c + n) (u0 := x0) (u1 := x1) (u2 := x2) (r0 := r0) (r1 := r1) (r2 := r2) (due := n + (c + x0 * r0 + x1 * r1 + x2 * r2)) nd (by omega) (by omega) (by omega) (by omega) (by omega) (by omega) (by omega)
  refine v32 (f := cF [n0, m1, m2] [p0, p1, p2] (c + n) [x0, x1, x2]) nd K4.1 K4.2.1 K4.2.2 ?_
  array_mem_dec
  have K5 := f3ok (p0 := p0) (p1 := p1) (p2 := p2) (cc := c - n) (u0 := x0) (u1 := x1) (u2 := x2) (r0 := r0) (r1 := r1) (r2 := r2) (due := c + x0 * r0 + x1 * r1 + x2 * r2 - n) nd (by omega) (by omega) (by omega) (by omega) (by omega) (by omega) (by omega)
  refine v32 (f := cF [n0, m1, m2] [p0, p1, p2] (c - n) [x0, x1, x2]) nd K5.1 K5.2.1 K5.2.2 ?_
  array_mem_dec
  have K6 := f3ok (p0 := p0) (p1 := p1) (p2 := p2) (cc := n - c) (u0 := -x0) (u1 := -x1) (u2 := -x2) (r0 := r0) (r1 := r1) (r2 := r2) (due := n - (c + x0 * r0 + x1 * r1 + x2 * r2)) nd (by omega) (by omega) (by omega) (by omega) (by omega) (by omega) (by simp only [Int.add_mul, Int.sub_mul, Int.neg_mul, Int.mul_add]; omega)
  refine v32 (f := cF [n0, m1, m2] [p0, p1, p2] (n - c) [-x0, -x1, -x2]) nd K6.1 K6.2.1 K6.2.2 ?_
  array_mem_dec
  have K7 := f3ok (p0 := p0) (p1 := p1) (p2 := p2) (cc := c * n) (u0 := x0 * n) (u1 := x1 * n) (u2 := x2 * n) (r0 := r0) (r1 := r1) (r2 := r2) (due := (c + x0 * r0 + x1 * r1 + x2 * r2) * n) nd (by omega) (by omega) (by omega) (by omega) (by omega) (by omega) (by rw [Int.mul_right_comm x0 n r0, Int.mul_right_comm x1 n r1, Int.mul_right_comm x2 n r2]; simp only [Int.add_mul])
  refine v32 (f := cF [n0, m1, m2] [p0, p1, p2] (c * n) [x0 * n, x1 * n, x2 * n]) nd K7.1 K7.2.1 K7.2.2 ?_
  array_mem_dec
  have K8 := f3ok (p0 := p0) (p1 := p1) (p2 := p2) (cc := c * n) (u0 := x0 * n) (u1 := x1 * n) (u2 := x2 * n) (r0 := r0) (r1 := r1) (r2 := r2) (due := n * (c + x0 * r0 + x1 * r1 + x2 * r2)) nd (by omega) (by omega) (by omega) (by omega) (by omega) (by omega) (by rw [Int.mul_right_comm x0 n r0, Int.mul_right_comm x1 n r1, Int.mul_right_comm x2 n r2]; rw [Int.mul_comm n]; simp only [Int.add_mul])
  refine v32 (f := cF [n0, m1, m2] [p0, p1, p2] (c * n) [x0 * n, x1 * n, x2 * n]) nd K8.1 K8.2.1 K8.2.2 ?_
  array_mem_dec
  have K9 := f3ok (p0 := p0) (p1 := p1) (p2 := p2) (cc := -c) (u0 := -x0) (u1 := -x1) (u2 := -x2) (r0 := r0) (r1 := r1) (r2 := r2) (due := -(c + x0 * r0 + x1 * r1 + x2 * r2)) nd (by omega) (by omega) (by omega) (by omega) (by omega) (by omega) (by simp only [Int.add_mul, Int.sub_mul, Int.neg_mul, Int.mul_add]; omega)
  refine v32 (f := cF [n0, m1, m2] [p0, p1, p2] (-c) [-x0, -x1, -x2]) nd K9.1 K9.2.1 K9.2.2 ?_
  array_mem_dec
  have K10 := f3ok (p0 := p0) (p1 := p1) (p2 := p2) (cc := c) (u0 := x0) (u1 := x1) (u2 := x2) (r0 := r0) (r1 := r1) (r2 := r2) (due := c + x0 * r0 + x1 * r1 + x2 * r2) nd (by omega) (by omega) (by omega) (by omega) (by omega) (by omega) (by rfl)
  refine v32 (f := cF [n0, m1, m2] [p0, p1, p2] (c) [x0, x1, x2]) nd K10.1 K10.2.1 K10.2.2 ?_
  array_mem_dec
  have K11 := f3ok (p0 := p0) (p1 := p1) (p2 := p2) (cc := d) (u0 := y0) (u1 := y1) (u2 := y2) (r0 := r0) (r1 := r1) (r2 := r2) (due := d + y0 * r0 + y1 * r1 + y2 * r2) nd (by omega) (by omega) (by omega) (by omega) (by omega) (by omega) (by rfl)
  refine v32 (f := cF [n0, m1, m2] [p0, p1, p2] (d) [y0, y1, y2]) nd K11.1 K11.2.1 K11.2.2 ?_
  array_mem_dec
  clear mA mB ex0 ey0 ex1 ey1 ex2 ey2 K0 K1 K2 K3 K4 K5 K6 K7 K8 K9 K10 K11
  refine v26 fun r0 a r0l r0u => ?_
  array_mem_dec
  refine v26 fun r1 a r1l r1u => ?_
  array_mem_dec
  refine v26 fun r2 a r2l r2u => ?_
  array_mem_dec
  have ex0 := prod_le hx0 ⟨r0l, r0u⟩
  have ey0 := prod_le hy0 ⟨r0l, r0u⟩
  have ex1 := prod_le hx1 ⟨r1l, r1u⟩
  have ey1 := prod_le hy1 ⟨r1l, r1u⟩
  have ex2 := prod_le hx2 ⟨r2l, r2u⟩
  have ey2 := prod_le hy2 ⟨r2l, r2u⟩
  refine v31 rfl (mul_big (by omega) (by omega)) (mul_big (by omega) (by omega)) (mul_big (by omega) (by omega)) ?_
  array_mem_dec
  refine v31 rfl (mul_big (by omega) (by omega)) (mul_big (by omega) (by omega)) (mul_big (by omega) (by omega)) ?_
  have mA : mulOk (c + x0 * r0 + x1 * r1 + x2 * r2) n = true := mul_big (by omega) (by omega)
  have mB : mulOk n (c + x0 * r0 + x1 * r1 + x2 * r2) = true := mul_big (by omega) (by omega)
  array_mem_dec
  have K0 := f3ok (p0 := p0) (p1 := p1) (p2 := p2) (cc := c + d) (u0 := x0 + y0) (u1 := x1 + y1) (u2 := x2 + y2) (r0 := r0) (r1 := r1) (r2 := r2) (due := c + x0 * r0 + x1 * r1 + x2 * r2 + (d + y0 * r0 + y1 * r1 + y2 * r2)) nd (by omega) (by omega) (by omega) (by omega) (by omega) (by omega) (by simp only [Int.add_mul, Int.sub_mul, Int.neg_mul, Int.mul_add]; omega)
  refine v32 (f := cF [n0, m1, m2] [p0, p1, p2] (c + d) [x0 + y0, x1 + y1, x2 + y2]) nd K0.1 K0.2.1 K0.2.2 ?_
  array_mem_dec
  have K1 := f3ok (p0 := p0) (p1 := p1) (p2 := p2) (cc := c - d) (u0 := x0 - y0) (u1 := x1 - y1) (u2 := x2 - y2) (r0 := r0) (r1 := r1) (r2 := r2) (due := c + x0 * r0 + x1 * r1 + x2 * r2 - (d + y0 * r0 + y1 * r1 + y2 * r2)) nd (by omega) (by omega) (by omega) (by omega) (by omega) (by omega) (by simp only [Int.add_mul, Int.sub_mul, Int.neg_mul, Int.mul_add]; omega)
  refine v32 (f := cF [n0, m1, m2] [p0, p1, p2] (c - d) [x0 - y0, x1 - y1, x2 - y2]) nd K1.1 K1.2.1 K1.2.2 ?_
  array_mem_dec
  have K2 := f3ok (p0 := p0) (p1 := p1) (p2 := p2) (cc := d - c) (u0 := y0 - x0) (u1 := y1 - x1) (u2 := y2 - x2) (r0 := r0) (r1 := r1) (r2 := r2) (due := d + y0 * r0 + y1 * r1 + y2 * r2 - (c + x0 * r0 + x1 * r1 + x2 * r2)) nd (by omega) (by omega) (by omega) (by omega) (by omega) (by omega) (by simp only [Int.add_mul, Int.sub_mul, Int.neg_mul, Int.mul_add]; omega)
  refine v32 (f := cF [n0, m1, m2] [p0, p1, p2] (d - c) [y0 - x0, y1 - x1, y2 - x2]) nd K2.1 K2.2.1 K2.2.2 ?_
  array_mem_dec
  have K3 := f3ok (p0 := p0) (p1 := p1) (p2 := p2) (cc := c + n) (u0 := x0) (u1 := x1) (u2 := x2) (r0 := r0) (r1 := r1) (r2 := r2) (due := c + x0 * r0 + x1 * r1 + x2 * r2 + n) nd (by omega) (by omega) (by omega) (by omega) (by omega) (by omega) (by omega)
  refine v32 (f := cF [n0, m1, m2] [p0, p1, p2] (c + n) [x0, x1, x2]) nd K3.1 K3.2.1 K3.2.2 ?_
  array_mem_dec
  have K4 := f3ok (p0 := p0) (p1 := p1) (p2 := p2) (cc := c + n) (u0 := x0) (u1 := x1) (u2 := x2) (r0 := r0) (r1 := r1) (r2 := r2) (due := n + (c + x0 * r0 + x1 * r1 + x2 * r2)) nd (by omega) (by omega) (by omega) (by omega) (by omega) (by omega) (by omega)
  refine v32 (f := cF [n0, m1, m2] [p0, p1, p2] (c + n) [x0, x1, x2]) nd K4.1 K4.2.1 K4.2.2 ?_
  array_mem_dec
  have K5 := f3ok (p0 := p0) (p1 := p1) (p2 := p2) (cc := c - n) (u0 := x0) (u1 := x1) (u2 := x2) (r0 := r0) (r1 := r1) (r2 := r2) (due := c + x0 * r0 + x1 * r1 + x2 * r2 - n) nd (by omega) (by omega) (by omega) (by omega) (by omega) (by omega) (by omega)
  refine v32 (f := cF [n0, m1, m2] [p0, p1, p2] (c - n) [x0, x1, x2]) nd K5.1 K5.2.1 K5.2.2 ?_
  array_mem_dec
  have K6 := f3ok (p0 := p0) (p1 := p1) (p2 := p2) (cc := n - c) (u0 := -x0) (u1 := -x1) (u2 := -x2) (r0 := r0) (r1 := r1) (r2 := r2) (due := n - (c + x0 * r0 + x1 * r1 + x2 * r2)) nd (by omega) (by omega) (by omega) (by omega) (by omega) (by omega) (by simp only [Int.add_mul, Int.sub_mul, Int.neg_mul, Int.mul_add]; omega)
  refine v32 (f := cF [n0, m1, m2] [p0, p1, p2] (n - c) [-x0, -x1, -x2]) nd K6.1 K6.2.1 K6.2.2 ?_
  array_mem_dec
  have K7 := f3ok (p0 := p0) (p1 := p1) (p2 := p2) (cc := c * n) (u0 := x0 * n) (u1 := x1 * n) (u2 := x2 * n) (r0 := r0) (r1 := r1) (r2 := r2) (due := (c + x0 * r0 + x1 * r1 + x2 * r2) * n) nd (by omega) (by omega) (by omega) (by omega) (by omega) (by omega) (by rw [Int.mul_right_comm x0 n r0, Int.mul_right_comm x1 n r1, Int.mul_right_comm x2 n r2]; simp only [Int.add_mul])
  refine v32 (f := cF [n0, m1, m2] [p0, p1, p2] (c * n) [x0 * n, x1 * n, x2 * n]) nd K7.1 K7.2.1 K7.2.2 ?_
  array_mem_dec
  have K8 := f3ok (p0 := p0) (p1 := p1) (p2 := p2) (cc := c * n) (u0 := x0 * n) (u1 := x1 * n) (u2 := x2 * n) (r0 := r0) (r1 := r1) (r2 := r2) (due := n * (c + x0 * r0 + x1 * r1 + x2 * r2)) nd (by omega) (by omega) (by omega) (by omega) (by omega) (by omega) (by rw [Int.mul_right_comm x0 n r0, Int.mul_right_comm x1 n r1, Int.mul_right_comm x2 n r2]; rw [Int.mul_comm n]; simp only [Int.add_mul])
  refine v32 (f := cF [n0, m1, m2] [p0, p1, p2] (c * n) [x0 * n, x1 * n, x2 * n]) nd K8.1 K8.2.1 K8.2.2 ?_
  array_mem_dec
  have K9 := f3ok (p0 := p0) (p1 := p1) (p2 := p2) (cc := -c) (u0 := -x0) (u1 := -x1) (u2 := -x2) (r0 := r0) (r1 := r1) (r2 := r2) (due := -(c + x0 * r0 + x1 * r1 + x2 * r2)) nd (by omega) (by omega) (by omega) (by omega) (by omega) (by omega) (by simp only [Int.add_mul, Int.sub_mul, Int.neg_mul, Int.mul_add]; omega)
  refine v32 (f := cF [n0, m1, m2] [p0, p1, p2] (-c) [-x0, -x1, -x2]) nd K9.1 K9.2.1 K9.2.2 ?_
  array_mem_dec
  have K10 := f3ok (p0 := p0) (p1 := p1) (p2 := p2) (cc := c) (u0 := x0) (u1 := x1) (u2 := x2) (r0 := r0) (r1 := r1) (r2 := r2) (due := c + x0 * r0 + x1 * r1 + x2 * r2) nd (by omega) (by omega) (by omega) (by omega) (by omega) (by omega) (by rfl)
  refine v32 (f := cF [n0, m1, m2] [p0, p1, p2] (c) [x0, x1, x2]) nd K10.1 K10.2.1 K10.2.2 ?_
  array_mem_dec
  have K11 := f3ok (p0 := p0) (p1 := p1) (p2 := p2) (cc := d) (u0 := y0) (u1 := y1) (u2 := y2) (r0 := r0) (r1 := r1) (r2 := r2) (due := d + y0 * r0 + y1 * r1 + y2 * r2) nd (by omega) (by omega) (by omega) (by omega) (by omega) (by omega) (by rfl)
  refine v32 (f := cF [n0, m1, m2] [p0, p1, p2] (d) [y0, y1, y2]) nd K11.1 K11.2.1 K11.2.2 ?_
  array_mem_dec
  clear mA mB ex0 ey0 ex1 ey1 ex2 ey2 K0 K1 K2 K3 K4 K5 K6 K7 K8 K9 K10 K11
  exact h
end LW

namespace LW
theorem val : ∀ ns : List Int, ns.length ≤ 63 → ∃ fin, Cs (lw.xcl.map (·.1)) lw.Fs 40 33 [.v (.lst (ns.map D.int))] = .ok (.v (.bl true)) fin := fun ns hl => val_of (v33 (k := 30) hl rfl)
end LW
end
namespace LW
open PySem PySem.Spec PyProof.Rows L2 VE
theorem ck4 : d4.chkB tab = true := by kernel_rfl
theorem ck5 : d5.chkB tab = true := by kernel_rfl
theorem ck6 : d6.chkB tab = true := by kernel_rfl
theorem ck7 : d7.chkB tab = true := by kernel_rfl
theorem ck8 : d8.chkB tab = true := by kernel_rfl
theorem ck9 : d9.chkB tab = true := by kernel_rfl
theorem ck10 : d10.chkB tab = true := by kernel_rfl
theorem ck11 : d11.chkB tab = true := by kernel_rfl
theorem ck12 : d12.chkB tab = true := by kernel_rfl
theorem ck13 : d13.chkB tab = true := by kernel_rfl
theorem ck14 : d14.chkB tab = true := by kernel_rfl
theorem ck15 : d15.chkB tab = true := by kernel_rfl
theorem ck16 : d16.chkB tab = true := by kernel_rfl
theorem ck17 : d17.chkB tab = true := by kernel_rfl
theorem ck18 : d18.chkB tab = true := by kernel_rfl
theorem ck19 : d19.chkB tab = true := by kernel_rfl
theorem ck20 : d20.chkB tab = true := by kernel_rfl
theorem ck21 : d21.chkB tab = true := by kernel_rfl
theorem ck22 : d22.chkB tab = true := by kernel_rfl
theorem ck23 : d23.chkB tab = true := by kernel_rfl
theorem ck24 : d24.chkB tab = true := by kernel_rfl
theorem ck25 : d25.chkB tab = true := by kernel_rfl
theorem ck26 : d26.chkB tab = true := by kernel_rfl
theorem ck27 : d27.chkB tab = true := by kernel_rfl
theorem ck28 : d28.chkB tab = true := by kernel_rfl
theorem ck29 : d29.chkB tab = true := by kernel_rfl
theorem ck30 : d30.chkB tab = true := by kernel_rfl
theorem ck31 : d31.chkB tab = true := by kernel_rfl
theorem ck32 : d32.chkB tab = true := by kernel_rfl
theorem ck33 : d33.chkB tab = true := by kernel_rfl
theorem p4 : PlainB d4 := by
  intro kV doc pm an cdv ct us hl
  match us, hl with
  | [_], _ => kernel_rfl
theorem p5 : PlainB d5 := by
  intro kV doc pm an cdv ct us hl
  match us, hl with
  | [_], _ => kernel_rfl
theorem p6 : PlainB d6 := by
  intro kV doc pm an cdv ct us hl
  match us, hl with
  | [_, _, _], _ => kernel_rfl
theorem p8 : PlainB d8 := by
  intro kV doc pm an cdv ct us hl
  match us, hl with
  | [_], _ => kernel_rfl
theorem p9 : PlainB d9 := by
  intro kV doc pm an cdv ct us hl
  match us, hl with
  | [_], _ => kernel_rfl
theorem p10 : PlainB d10 := by
  intro kV doc pm an cdv ct us hl
  match us, hl with
  | [_, _], _ => kernel_rfl
theorem p11 : PlainB d11 := by
  intro kV doc pm an cdv ct us hl
  match us, hl with
  | [_, _], _ => kernel_rfl
theorem p12 : PlainB d12 := by
  intro kV doc pm an cdv ct us hl
  match us, hl with
  | [_, _], _ => kernel_rfl
theorem p13 : PlainB d13 := by
  intro kV doc pm an cdv ct us hl
  match us, hl with
  | [_, _], _ => kernel_rfl
theorem p14 : PlainB d14 := by
  intro kV doc pm an cdv ct us hl
  match us, hl with
  | [_, _], _ => kernel_rfl
theorem p15 : PlainB d15 := by
  intro kV doc pm an cdv ct us hl
  match us, hl with
  | [_, _], _ => kernel_rfl
theorem p16 : PlainB d16 := by
  intro kV doc pm an cdv ct us hl
  match us, hl with
  | [_, _], _ => kernel_rfl
theorem p17 : PlainB d17 := by
  intro kV doc pm an cdv ct us hl
  match us, hl with
  | [_, _], _ => kernel_rfl
theorem p18 : PlainB d18 := by
  intro kV doc pm an cdv ct us hl
  match us, hl with
  | [_], _ => kernel_rfl
theorem p19 : PlainB d19 := by
  intro kV doc pm an cdv ct us hl
  match us, hl with
  | [_, _], _ => kernel_rfl
theorem p20 : PlainB d20 := by
  intro kV doc pm an cdv ct us hl
  match us, hl with
  | [_, _], _ => kernel_rfl
theorem p21 (kV doc pm : Value) (an : Option Addr) (cdv ct : Value) (us ws : List Value) (h1 : us.length = 1) (h2 : ws.length = ([(("low" : String) : Str), (("high" : String) : Str)] : List Str).length) : bindArgs (PySem.W.fnOf d21.name d21.qual d21.params d21.body d21.scope .none kV doc pm an cdv ct) ⟨us, ([(("low" : String) : Str), (("high" : String) : Str)] : List Str).zip ws⟩ = pure (d21.ps.zip (us ++ ws)) := by
  match us, h1, ws, h2 with
  | [_], _, [_, _], _ => kernel_rfl
theorem p22 : PlainB d22 := by
  intro kV doc pm an cdv ct us hl
  match us, hl with
  | [_, _], _ => kernel_rfl
theorem p23 : PlainB d23 := by
  intro kV doc pm an cdv ct us hl
  match us, hl with
  | [_, _], _ => kernel_rfl
theorem p24 : PlainB d24 := by
  intro kV doc pm an cdv ct us hl
  match us, hl with
  | [_], _ => kernel_rfl
theorem p25 : PlainB d25 := by
  intro kV doc pm an cdv ct us hl
  match us, hl with
  | [_], _ => kernel_rfl
theorem p26 : PlainB d26 := by
  intro kV doc pm an cdv ct us hl
  match us, hl with
  | [_], _ => kernel_rfl
theorem p27 : PlainB d27 := by
  intro kV doc pm an cdv ct us hl
  match us, hl with
  | [_, _], _ => kernel_rfl
theorem p28 : PlainB d28 := by
  intro kV doc pm an cdv ct us hl
  match us, hl with
  | [_, _], _ => kernel_rfl
theorem p29 : PlainB d29 := by
  intro kV doc pm an cdv ct us hl
  match us, hl with
  | [_, _], _ => kernel_rfl
theorem p30 : PlainB d30 := by
  intro kV doc pm an cdv ct us hl
  match us, hl with
  | [_, _], _ => kernel_rfl
theorem p31 : PlainB d31 := by
  intro kV doc pm an cdv ct us hl
  match us, hl with
  | [_, _], _ => kernel_rfl
theorem p32 : PlainB d32 := by
  intro kV doc pm an cdv ct us hl
  match us, hl with
  | [_, _, _, _], _ => kernel_rfl
theorem p33 : PlainB d33 := by
  intro kV doc pm an cdv ct us hl
  match us, hl with
  | [_], _ => kernel_rfl
theorem px2 : PlainX x2 := by
  intro doc pm an cdv ct cc us hl
  match us, hl with
  | [_, _], _ => kernel_rfl
theorem px4 : PlainX x4 := by
  intro doc pm an cdv ct cc us hl
  match us, hl with
  | [_, _], _ => kernel_rfl
theorem px5 : PlainX x5 := by
  intro doc pm an cdv ct cc us hl
  match us, hl with
  | [_, _], _ => kernel_rfl
theorem px7 : PlainX x7 := by
  intro doc pm an cdv ct cc us hl
  match us, hl with
  | [_, _, _], _ => kernel_rfl
def bs : BndS := ⟨[4, 5, 6, 8, 9, 10, 11, 12, 13, 14, 15, 16, 17, 18, 19, 20, 22, 23, 24, 25, 26, 27, 28, 29, 30, 31, 32, 33], [(21, 1, [(("low" : String) : Str), (("high" : String) : Str)])], [(7, [.tup []]), (7, [])]⟩
theorem cAll : ∀ d ∈ lw.defs, d.chkB lw.T = true := by
  intro d hd
  have hd : d ∈ [d4, d5, d6, d7, d8, d9, d10, d11, d12, d13, d14, d15, d16, d17, d18, d19, d20, d21, d22, d23, d24, d25, d26, d27, d28, d29, d30, d31, d32, d33] := hd
  simp only [List.mem_cons, List.not_mem_nil, or_false] at hd
  rcases hd with rfl | rfl | rfl | rfl | rfl | rfl | rfl | rfl | rfl | rfl | rfl | rfl | rfl | rfl | rfl | rfl | rfl | rfl | rfl | rfl | rfl | rfl | rfl | rfl | rfl | rfl | rfl | rfl | rfl | rfl
  · exact ck4
  · exact ck5
  · exact ck6
  · exact ck7
  · exact ck8
  · exact ck9
  · exact ck10
  · exact ck11
  · exact ck12
  · exact ck13
  · exact ck14
  · exact ck15
  · exact ck16
  · exact ck17
  · exact ck18
  · exact ck19
  · exact ck20
  · exact ck21
  · exact ck22
  · exact ck23
  · exact ck24
  · exact ck25
  · exact ck26
  · exact ck27
  · exact ck28
  · exact ck29
  · exact ck30
  · exact ck31
  · exact ck32
  · exact ck33
theorem xChk : ∀ e ∈ lw.exs, e.chkB = true := by
  intro e he
  have he : e ∈ [x2, x4, x5, x7] := he
  simp only [List.mem_cons, List.not_mem_nil, or_false] at he
  rcases he with rfl | rfl | rfl | rfl
  · kernel_rfl
  · kernel_rfl
  · kernel_rfl
  · kernel_rfl
theorem xPl : ∀ e ∈ lw.exs, PlainX e := by
  intro e he
  have he : e ∈ [x2, x4, x5, x7] := he
  simp only [List.mem_cons, List.not_mem_nil, or_false] at he
  rcases he with rfl | rfl | rfl | rfl
  · exact px2
  · exact px4
  · exact px5
  · exact px7
section
variable {K : Frag} (fs : FunAll lw K) (tp : ∀ p ∈ lw.tup0, tupE K (p K) = true)
include fs in
theorem bp : ∀ f ∈ bs.pl, Binds K ((lw.fns K).fd f) ((lw.fns K).ps f) [] := by
  intro f hf
  have hf : f ∈ ([4, 5, 6, 8, 9, 10, 11, 12, 13, 14, 15, 16, 17, 18, 19, 20, 22, 23, 24, 25, 26, 27, 28, 29, 30, 31, 32, 33] : List Nat) := hf
  simp only [List.mem_cons, List.not_mem_nil, or_false] at hf
  rcases hf with rfl | rfl | rfl | rfl | rfl | rfl | rfl | rfl | rfl | rfl | rfl | rfl | rfl | rfl | rfl | rfl | rfl | rfl | rfl | rfl | rfl | rfl | rfl | rfl | rfl | rfl | rfl | rfl
  · exact plain_bind (d := d4) fs (by kernel_rfl) rfl p4
  · exact plain_bind (d := d5) fs (by kernel_rfl) rfl p5
  · exact plain_bind (d := d6) fs (by kernel_rfl) rfl p6
  · exact plain_bind (d := d8) fs (by kernel_rfl) rfl p8
  · exact plain_bind (d := d9) fs (by kernel_rfl) rfl p9
  · exact plain_bind (d := d10) fs (by kernel_rfl) rfl p10
  · exact plain_bind (d := d11) fs (by kernel_rfl) rfl p11
  · exact plain_bind (d := d12) fs (by kernel_rfl) rfl p12
  · exact plain_bind (d := d13) fs (by kernel_rfl) rfl p13
  · exact plain_bind (d := d14) fs (by kernel_rfl) rfl p14
  · exact plain_bind (d := d15) fs (by kernel_rfl) rfl p15
  · exact plain_bind (d := d16) fs (by kernel_rfl) rfl p16
  · exact plain_bind (d := d17) fs (by kernel_rfl) rfl p17
  · exact plain_bind (d := d18) fs (by kernel_rfl) rfl p18
  · exact plain_bind (d := d19) fs (by kernel_rfl) rfl p19
  · exact plain_bind (d := d20) fs (by kernel_rfl) rfl p20
  · exact plain_bind (d := d22) fs (by kernel_rfl) rfl p22
  · exact plain_bind (d := d23) fs (by kernel_rfl) rfl p23
  · exact plain_bind (d := d24) fs (by kernel_rfl) rfl p24
  · exact plain_bind (d := d25) fs (by kernel_rfl) rfl p25
  · exact plain_bind (d := d26) fs (by kernel_rfl) rfl p26
  · exact plain_bind (d := d27) fs (by kernel_rfl) rfl p27
  · exact plain_bind (d := d28) fs (by kernel_rfl) rfl p28
  · exact plain_bind (d := d29) fs (by kernel_rfl) rfl p29
  · exact plain_bind (d := d30) fs (by kernel_rfl) rfl p30
  · exact plain_bind (d := d31) fs (by kernel_rfl) rfl p31
  · exact plain_bind (d := d32) fs (by kernel_rfl) rfl p32
  · exact plain_bind (d := d33) fs (by kernel_rfl) rfl p33
include fs in
theorem bk : ∀ q ∈ bs.sp, ShOk (lw.fns K) (lw.sta K) K q.1 q.2.1 q.2.2 [] := by
  intro q hq
  have hq : q ∈ ([(21, 1, [(("low" : String) : Str), (("high" : String) : Str)])] : List (Nat × Nat × List Str)) := hq
  simp only [List.mem_cons, List.not_mem_nil, or_false] at hq
  rcases hq with rfl
  · exact kw_bind (d := d21) fs (by kernel_rfl) rfl p21
include fs tp in
theorem bm : ∀ q ∈ bs.mks, ∃ dvs ds, Binds K ((lw.fns K).fd q.1) ((lw.fns K).ps q.1) ds ∧ Vals dvs ds ∧ ∀ F H, RepDs (lw.sta K) F H q.2 dvs := by
  have FD := fs d7 (LawD.find_mem (f := 7) (by kernel_rfl))
  have e2 : (lw.fns K).fd 7 = fdA K (d7.pth.adr K) := by
    show fdA K (lw.fa K 7) = _
    rw [LawD.find_fa (d := d7) (by kernel_rfl)]
  have ip : InitP d7.params := ⟨by kernel_rfl, by kernel_rfl, by kernel_rfl, by kernel_rfl, by kernel_rfl⟩
  have e4 : d7.ps = nmsI := by kernel_rfl
  have e3 : (lw.fns K).ps 7 = nmsI := by
    show (match lw.find 7 with | some d => d.ps | none => []) = _
    have z : lw.find 7 = some d7 := by kernel_rfl
    rw [z, ← e4]
  intro q hq
  have hq : q ∈ ([(7, [.tup []]), (7, [])] : List (Nat × List D)) := hq
  simp only [List.mem_cons, List.not_mem_nil, or_false] at hq
  rcases hq with rfl | rfl
  · obtain ⟨ds, v, b⟩ := FunD.binds1 (ps := nmsI) FD 2 0 (by simp [d7]) (by kernel_rfl) fun T kV doc pm an cdv ct us its h1 h2 => by
      match us, h1, its, h2 with
      | [u, v], _, [w], _ => exact init2 ip u v w
    refine ⟨_, ds, by rw [e2, e3]; exact b, v, fun F H => ⟨_, [], rfl, tupE_ok (tp _ List.mem_cons_self), rfl⟩⟩
  · obtain ⟨ds, v, b⟩ := FunD.binds1 (ps := nmsI) FD 3 1 (by simp [d7]) (by kernel_rfl) fun T kV doc pm an cdv ct us its h1 h2 => by
      match us, h1, its, h2 with
      | [u, v, z], _, [w], _ => exact init3 ip u v z w
    exact ⟨_, ds, by rw [e2, e3]; exact b, v, fun F H => rfl⟩
end
theorem bAll (K : Frag) (fs : FunAll lw K) (tp : ∀ p ∈ lw.tup0, tupE K (p K) = true) : BndOk lw K := bnd_ok bs (bp fs) (bk fs) (bm fs tp) (by kernel_rfl)
def loose : List Str := (["CardError", "BadName", "UnknownName", "UnlikeLimits", "BadLimits", "LETTERS", "FRAME", "is_word", "is_name", "merged", "Form", "measured", "_law_pot", "_law_pick", "_law_signed", "_law_whole", "_law_number", "_law_names", "_law_spans", "_law_ones", "_law_made", "_law_due", "_law_has_value"] : List Str)
abbrev hk : PySem.W.Hook := hookV 6 lw
def ob (s : PySem.W.SharedT) : AlV := obsV 6 lw (HandSHeadRun.getT s)
theorem ob_eq (s : PySem.W.SharedT) : ob s = hk.obs s.abs := obsV_eq (HandSHeadRun.getT_eq s)
theorem run (w : World) : HandSHeadRun.RunEq R (PySem.W.view R.prog [26]) hk ob 20000 loose w := by
  intro os
  kernel_rfl
end LW
open PySem PySem.W
open PySem.Calls PyProof.Rows
theorem PySem.Challenge.cw_shimcard_k01_form_values_holds : PySem.Challenge.rw_shimcard_k01_form_values.Holds := by
  w_on; o_law
  refine HandSHeadRun.head_any (r := OpenLaw.row PySem.Challenge.rw_shimcard_k01_form_values) (q := view (OpenLaw.row PySem.Challenge.rw_shimcard_k01_form_values).prog [26]) (H := LW.hk) (ob := LW.ob) (M := 20000) (loose := LW.loose)
    (d := HandSHeadRun.topDef (OpenLaw.row PySem.Challenge.rw_shimcard_k01_form_values).prog 26) (kwd := []) LW.ob_eq (by kernel_rfl) (fun s => by kernel_rfl) LW.run (by kernel_rfl) (by kernel_rfl) (by kernel_rfl) (by rfl)
    (by first
      | assumption
      | decide +kernel) (by decide +kernel) ⟨rfl, rfl, rfl, rfl, rfl, by decide +kernel⟩ ?hw ?hc
  case hw => w_witness2
  case hc => exact VE.law_end (l := PySem.Challenge.rw_shimcard_k01_form_values) LW.lw 33 LW.d33 rfl (by kernel_rfl) (by kernel_rfl) ⟨rfl, by decide, by decide⟩ (by kernel_rfl) rfl (by kernel_rfl) rfl LW.p33 LW.cAll LW.bAll (by kernel_rfl) (by kernel_rfl) LW.xChk LW.xPl LW.val
