import PyProof.Rows.All
import HandS.ForMost
import HandS.Wide
import KE.KDictKeyed
import KE.KeyNested
import HandS.Exc
import HandS.TryOnly
import HandS.TryMany
import HandS.ExcOwn
import HandS.WordsExc
import HandS.TupAny
import HandS.TupMul
import HandS.Style
import HandS.Conv
import HandS.IsInst
import HandS.Deep
import HandS.DictComp
import HandS.Lambda
import HandS.Text
import KE.GoesZip
import KE.GoesMore
import HandS.Zip
import HandS.Strs
import HandS.ExcInit
import HandS.ExcField
import HandS.ExcIs
import HandS.Ends
import HandS.Defaults
import PySem.Challenge.RW_notesbelow_k30_texts_that_are_spoilt
set_option Elab.async false
set_option linter.all false
set_option autoImplicit false
set_option maxRecDepth  100000
noncomputable section
namespace Ev
open PySem

/-- data by value; loc: a mutable object of the logical heap; scr: the law's script -/
inductive D where
  | non | bl (b : Bool) | int (i : Int) | str (x : Str)
  | tup (ds : List D) | lst (ds : List D) | loc (n : Nat) | scr (ns : List Int)
  | dct (ks vs : List D) | ins (c : Str) (fs : List Str) (ds : List D) | clo (i : Nat) (cs : List D)
  deriving Inhabited
/-- what stands at a location: a list, a dict, an instance of the class named so -/
inductive O where
  | lst (ds : List D) | dct (kvs : List (D × D)) | ins (c : Str) (fs : List (Str × D))
  deriving Inhabited
abbrev LH := List O
/-- an exception: its class's name, its attribute -/
structure Exn where
  cls : Str
  arg : Option (Str × D) := none
inductive Res (α : Type) where
  | ok (a : α) (h : LH)
  | ex (x : Exn) (h : LH)
  | no
def Res.bind {α β : Type} (r : Res α) (f : α → LH → Res β) : Res β := match r with
  | .ok a h => f a h
  | .ex x h => .ex x h
  | .no => .no
abbrev Env := List (Option D)
abbrev Fn := List D → LH → Res D

mutual
def pd : D → Option PyData
  | .non => some .none
  | .bl b => some (.bool b)
  | .int i => some (.int i)
  | .str x => some (.str x)
  | .tup ds => match pds ds with | some l => some (.tuple l) | none => none
  | .lst ds => match pds ds with | some l => some (.list l) | none => none
  | .loc _ => none
  | .scr _ => none
  | .dct _ _ => none
  | .ins _ _ _ => none
  | .clo _ _ => none
def pds : List D → Option (List PyData)
  | [] => some []
  | d :: ds => match pd d, pds ds with | some x, some l => some (x :: l) | _, _ => none
end
mutual
def nk : D → Option NestedKey
  | .non => some .none
  | .int i => some (.num i)
  | .str x => some (.text x)
  | .tup ds => match nks ds with | some l => some (.tup l) | none => none
  | _ => none
def nks : List D → Option (List NestedKey)
  | [] => some []
  | d :: ds => match nk d, nks ds with | some x, some l => some (x :: l) | _, _ => none
end
def keyB : D → Bool
  | .int _ => true
  | .str _ => true
  | _ => false
def keyT : D → Bool
  | .tup ds => match nks ds with | some l => decide ((NestedKey.tup l).depth ≤ 8) | none => false
  | _ => false
/-- a key of the kind of the dict's -/
def kOk (kvs : List (D × D)) (k : D) : Bool := (keyB k && kvs.all fun p => keyB p.1) || (keyT k && kvs.all fun p => keyT p.1)
open Classical in
def dget (kvs : List (D × D)) (k : D) : Option D := (kvs.find? fun p => decide (p.1 = k)).map (·.2)
open Classical in
def dput (kvs : List (D × D)) (k v : D) : List (D × D) := if (kvs.any fun p => decide (p.1 = k)) = true then kvs.map fun p => if p.1 = k then (p.1, v) else p else kvs ++ [(k, v)]
open Classical in
def ddel (kvs : List (D × D)) (k : D) : List (D × D) := kvs.filter fun p => decide (p.1 ≠ k)
def asD (h : LH) : D → Option (List (D × D))
  | .dct ks vs => some (ks.zip vs)
  | .loc n => match h[n]? with | some (.dct kvs) => some kvs | _ => none
  | _ => none
/-- an instance's class and variables -/
def asI (h : LH) : D → Option (Str × List (Str × D))
  | .ins c fs ds => some (c, fs.zip ds)
  | .loc n => match h[n]? with | some (.ins c fs) => some (c, fs) | _ => none
  | _ => none
/-- the items of a list, by value or at a location -/
def asL (h : LH) : D → Option (List D)
  | .lst ds => some ds
  | .loc n => match h[n]? with | some (.lst ds) => some ds | _ => none
  | _ => none
def asS (h : LH) : D → Option (List D)
  | .tup ds => some ds
  | d => asL h d
/-- data for == (a location's list is read) -/
def pdT (h : LH) (d : D) : Option PyData := match d with
  | .loc n => match h[n]? with | some (.lst ds) => pd (.lst ds) | _ => none
  | d => pd d
def eqP (h : LH) (a b : D) : Option Bool := match pdT h a, pdT h b with
  | some x, some y => if SeqAt.shaped x = true ∧ SeqAt.shaped y = true then some (PyData.eqv x y) else none
  | _, _ => none
/-- a dict with keys by value and one that is empty -/
def eqE (h : LH) (a b : D) : Option Bool := match asD h a, asD h b with
  | some kvs, some [] => if (kvs.all fun p => keyB p.1) = true then some kvs.isEmpty else none
  | _, _ => none
def eqD (h : LH) (a b : D) : Option Bool := match eqP h a b with | some k => some k | none => eqE h a b
def truthy (h : LH) : D → Option Bool
  | .non => some false
  | .bl b => some b
  | .int i => some (i != 0)
  | .str x => if x.length ≤ sizeLine then some ((x.length : Int) != 0) else none
  | .tup ds => some (!ds.isEmpty)
  | d => match asL h d with | some ds => some (!ds.isEmpty) | none => none
def allocD (kvs : List (D × D)) (h : LH) : Res D := .ok (.loc h.length) (h ++ [.dct kvs])
def alloc (m : Bool) (ds : List D) (h : LH) : Res D := if m then .ok (.loc h.length) (h ++ [.lst ds]) else .ok (.lst ds) h

def catL (m : Bool) (a b : Option (List D)) (h : LH) : Res D := match a, b with
  | some xs, some ys => if xs.length + ys.length ≤ sizeLine then alloc m (xs ++ ys) h else .no
  | _, _ => .no
def opAdd (m : Bool) (a b : D) (h : LH) : Res D := match a, b with
  | .int i, .int j => .ok (.int (i + j)) h
  | .str x, .str y => if x.length + y.length ≤ sizeLine then .ok (.str (x ++ y)) h else .no
  | .tup xs, .tup ys => if xs.length + ys.length ≤ sizeLine then .ok (.tup (xs ++ ys)) h else .no
  | a, b => catL m (asL h a) (asL h b) h
def opMul (a b : D) (h : LH) : Res D := match a, b with
  | .int i, .int j => if (-(2 ^ 64) < i ∧ i < 2 ^ 64) ∨ (-(2 ^ 64) < j ∧ j < 2 ^ 64) then .ok (.int (i * j)) h else .no
  | .tup xs, .int k => if xs ≠ [] ∧ 2 ≤ k ∧ k ≤ 1000 ∧ xs.length ≤ 1000 then .ok (.tup (List.replicate k.toNat xs).flatten) h else .no
  | _, _ => .no
def opBin (op : Operator) (m : Bool) (a b : D) (h : LH) : Res D := match op with
  | .Add => opAdd m a b h
  | .Sub => match a, b with | .int i, .int j => .ok (.int (i - j)) h | _, _ => .no
  | .Mult => opMul a b h
  | .FloorDiv => match a, b with | .int i, .int j => if 0 < j ∧ j.natAbs.log2 < 9000 then .ok (.int (i / j)) h else .no | _, _ => .no
  | .Mod => match a, b with | .int i, .int j => if 0 < j then .ok (.int (i % j)) h else .no | _, _ => .no
  | .Pow => match a, b with | .int i, .int j => if 0 ≤ j ∧ j ≤ 1000000 ∧ i.natAbs < 2 ^ 64 then .ok (.int (i ^ j.toNat)) h else .no | _, _ => .no
  | _ => .no
def inS (h : LH) (a b : D) : Option Bool := match a, b with
  | .str x, .str y => some (!(Builtin.Str.occurrences y x 0 y.length 1).isEmpty)
  | a, b => match asS h b with
    | some ds => match pdT h a, pds ds with
      | some x, some l => if SeqAt.shaped x = true ∧ SeqAt.shaped (.list l) = true then some (l.any fun z => PyData.eqv z x) else none
      | _, _ => none
    | none => none
def inD (h : LH) (a b : D) : Option Bool := match asD h b with
  | some kvs => if kOk kvs a = true then some (dget kvs a).isSome else none
  | none => inS h a b
def cmpI (p : Int → Int → Bool) (a b : D) (h : LH) : Res D := match a, b with | .int i, .int j => .ok (.bl (p i j)) h | _, _ => .no
def opCmp (op : CmpOp) (a b : D) (h : LH) : Res D := match op with
  | .Eq => match eqD h a b with | some k => .ok (.bl k) h | none => .no
  | .NotEq => match eqD h a b with | some k => .ok (.bl (!k)) h | none => .no
  | .Lt => cmpI (fun i j => decide (i < j)) a b h
  | .LtE => cmpI (fun i j => decide (i ≤ j)) a b h
  | .Gt => cmpI (fun i j => decide (j < i)) a b h
  | .GtE => cmpI (fun i j => decide (j ≤ i)) a b h
  | .In => match inD h a b with | some k => .ok (.bl k) h | none => .no
  | .NotIn => match inD h a b with | some k => .ok (.bl (!k)) h | none => .no
  | .Is => match b with | .non => .ok (.bl (match a with | .non => true | _ => false)) h | _ => .no
  | .IsNot => match b with | .non => .ok (.bl (match a with | .non => false | _ => true)) h | _ => .no
def opIdxS (a i : D) (h : LH) : Res D := match i with
  | .int k => match a with
    | .tup ds => match L2.atI ds k with | some d => .ok d h | none => .no
    | .str x => if x.length ≤ sizeLine then match L2.atI x.cps.toList k with | some c => .ok (.str ⟨#[c]⟩) h | none => .no else .no
    | .scr ns => match L2.atI ns k with | some n => .ok (.int n) h | none => .no
    | a => match asL h a with
      | some ds => match L2.atI ds k with | some d => .ok d h | none => .no
      | none => .no
  | _ => .no
def opIdx (a i : D) (h : LH) : Res D := match asD h a with
  | some kvs => if kOk kvs i = true then match dget kvs i with | some v => .ok v h | none => .no else .no
  | none => opIdxS a i h
def cutL {α : Type} (xs : List α) (lo hi : Option Int) : List α := (xs.drop (HT.sIx xs.length 0 lo)).take (HT.sIx xs.length xs.length hi - HT.sIx xs.length 0 lo)
def opCut (m : Bool) (a : D) (lo hi : Option Int) (h : LH) : Res D := match a with
  | .tup ds => .ok (.tup (cutL ds lo hi)) h
  | .str x => if x.length ≤ sizeLine then .ok (.str (L2.cutS x lo hi)) h else .no
  | a => match asL h a with
    | some ds => alloc m (cutL ds lo hi) h
    | none => .no
/-- isinstance, of a built-in class -/
def tyN (h : LH) : D → Option String
  | .non => some "NoneType"
  | .bl _ => some "bool"
  | .int _ => some "int"
  | .str _ => some "str"
  | .tup _ => some "tuple"
  | d => match asL h d with | some _ => some "list" | none => none
def isiTys : List String := ["str", "int", "bool", "tuple", "list"]
def isiD (h : LH) (T : String) (d : D) : Option Bool := match tyN h d with
  | some t => if isiTys.contains T = true then some (t == T || (t == "bool" && T == "int")) else none
  | none => none
def lenD (h : LH) : D → Option Int
  | .str x => if x.length ≤ sizeLine then some (x.length : Nat) else none
  | .tup ds => some (ds.length : Nat)
  | .scr ns => some (ns.length : Nat)
  | d => match asL h d with | some ds => some (ds.length : Nat) | none => none

inductive Bi where
  | len | int1 | abs1 | min2 | max2 | tuple1 | list1 | all1 | sum1 | str1
  deriving DecidableEq
def boolsOf : List D → Option (List Bool)
  | [] => some []
  | .bl b :: r => match boolsOf r with | some l => some (b :: l) | none => none
  | _ => none
def intsOf : List D → Option (List Int)
  | [] => some []
  | .int b :: r => match intsOf r with | some l => some (b :: l) | none => none
  | _ => none
def biF (f : Bi) (m : Bool) (ds : List D) (h : LH) : Res D := match f, ds with
  | .len, [d] => match lenD h d with | some n => .ok (.int n) h | none => .no
  | .int1, [.int i] => .ok (.int i) h
  | .int1, [.bl b] => .ok (.int (if b then 1 else 0)) h
  | .int1, [.str x] => match PySem.intText? x with | some n => if x.length ≤ 640 then .ok (.int n) h else .no | none => .no
  | .abs1, [.int i] => .ok (.int (if i < 0 then -i else i)) h
  | .min2, [.int i, .int j] => .ok (.int (if j < i then j else i)) h
  | .max2, [.int i, .int j] => .ok (.int (if j > i then j else i)) h
  | .tuple1, [d] => match asS h d with | some l => .ok (.tup l) h | none => .no
  | .list1, [d] => match asS h d with | some l => alloc m l h | none => .no
  | .all1, [d] => match (asL h d).bind boolsOf with | some bs => .ok (.bl (bs.all id)) h | none => .no
  | .sum1, [d] => match (asL h d).bind intsOf with | some bs => .ok (.int bs.sum) h | none => .no
  | .str1, [.int i] => if i.natAbs.log2 < 1920 then .ok (.str (toString i)) h else .no
  | _, _ => .no
inductive Mt where
  | append | pop0 | pop | popAt | index | join | split | get2 | popK
  deriving DecidableEq
def strsOf : List D → Option (List Str)
  | [] => some []
  | .str b :: r => match strsOf r with | some l => some (b :: l) | none => none
  | _ => none
/-- may the method be looked up on this value -/
def mtOk (f : Mt) (h : LH) (d : D) : Bool := match f, d with
  | .join, .str _ => true
  | .split, .str _ => true
  | .append, d => (asL h d).isSome
  | .pop0, d => (asL h d).isSome
  | .pop, d => (asL h d).isSome
  | .popAt, d => (asL h d).isSome
  | .get2, d => (asD h d).isSome
  | .popK, d => (asD h d).isSome
  | _, _ => false
def mtF (f : Mt) (m : Bool) (x : D) (ds : List D) (h : LH) : Res D := match f, x, ds with
  | .append, .loc n, [d] => match h[n]? with
    | some (.lst xs) => if xs.length < sizeLine then .ok .non (h.set n (.lst (xs ++ [d]))) else .no
    | _ => .no
  | .pop, .loc n, [] => match h[n]? with
    | some (.lst xs) => match xs[xs.length - 1]? with | some y => .ok y (h.set n (.lst xs.dropLast)) | none => .no
    | _ => .no
  | .popAt, .loc n, [.int i] => match h[n]? with
    | some (.lst xs) => if -(2 ^ 63) ≤ i ∧ i < 2 ^ 63 then match seqIndex? i xs.length with
      | some k => (match xs[k]? with | some y => .ok y (h.set n (.lst (xs.eraseIdx k))) | none => .no)
      | none => .no
      else .no
    | _ => .no
  | .join, .str s, [d] => match (asS h d).bind strsOf with
    | some ys => if (ys.map (·.length)).sum + ys.length * s.length ≤ 16777216 then .ok (.str (Txt.join s ys)) h else .no
    | none => .no
  | .get2, d, [k, x] => match asD h d with
    | some kvs => if kOk kvs k = true then .ok ((dget kvs k).getD x) h else .no
    | none => .no
  | .popK, .loc n, [k] => match h[n]? with
    | some (.dct kvs) => if keyB k = true ∧ (kvs.all fun p => keyB p.1) = true then match dget kvs k with | some v => .ok v (h.set n (.dct (ddel kvs k))) | none => .no else .no
    | _ => .no
  | .split, .str a, [.str b] => if (b.length == 0) = false ∧ a.length + 2 ≤ sizeLine then alloc m ((Txt.split a b).map D.str) h else .no
  | _, _, _ => .no

/-- a target: a slot, several targets -/
inductive T where
  | nm (i : Nat) | tp (ts : List T)
inductive E where
  | var (i : Nat) | cst (c : Const) | glob (x : Str) (d : D)
  | tup (es : List E) | lst (m : Bool) (es : List E)
  | bin (op : Operator) (m : Bool) (a b : E) | neg (a : E) | not (a : E)
  | and (es : List E) | or (es : List E)
  | cmp (op : CmpOp) (a b : E) | chn (op op' : CmpOp) (a b c : E)
  | ite (c a b : E) | idx (a i : E) | slc (m : Bool) (a lo hi : E) | noe
  | isi (a : E) (ty : String)
  | bui (f : Bi) (m : Bool) (es : List E)
  | met (f : Mt) (m : Bool) (o : E) (es : List E)
  | cal (x : Str) (S : Fn) (m : Nat) (dfl : List D) (es : List E)
  | lcp (own : List (Str × Nat)) (t : T) (it : E) (cond : List E) (elt : E)
  | itv (e : E) | rng (es : List E)
  | dsp (es : List E) | ds1 (k v : E) | tix (os : List E) (e : E) | lrg (m : Bool) (it : E)
  | att (c f : Str) (o : E) | mca (c x : Str) (S : Fn) (k : Nat) (dfl : List D) (o : E) (es : List E)
  | rvs (m : Bool) (a : E) | zip (a b : E) | enm (a : E) | bad

def cstD : Const → Option D
  | .none => some .non
  | .bool b => some (.bl b)
  | .int i => some (.int i)
  | .str x => some (.str x)
  | _ => none

mutual
def bindT : T → D → Env → Option Env
  | .nm i, d, env => if i < env.length then some (env.set i (some d)) else none
  | .tp ts, .tup ds, env => if ts.length = ds.length then bindTs ts ds env else none
  | .tp _, _, _ => none
def bindTs : List T → List D → Env → Option Env
  | [], [], env => some env
  | t :: ts, d :: ds, env => match bindT t d env with | some env' => bindTs ts ds env' | none => none
  | _, _, _ => none
end
def wipeE (env : Env) : List Nat → Env
  | [] => env
  | v :: vs => (wipeE env vs).set v none

abbrev Src := List (Nat × List D)
def SrcOk (s : Src) (h : LH) : Prop := ∀ p ∈ s, h[p.1]? = some (.lst p.2)
open Classical in
def compLoop (s : Src) (own : List Nat) (t : T) (f : Env → LH → Res (Option D)) : List D → List D → Env → LH → Res (List D)
  | [], acc, env, h => if SrcOk s h then .ok acc h else .no
  | x :: xs, acc, env, h => if SrcOk s h ∧ acc.length < sizeLine then match bindT t x (wipeE env own) with
    | none => .no
    | some env1 => match f env1 h with
      | .ok none h1 => compLoop s own t f xs acc env h1
      | .ok (some d) h1 => compLoop s own t f xs (acc ++ [d]) env h1
      | .ex _ _ => .no
      | .no => .no
    else .no
def rangeItems : List D → Option (List D)
  | [.int j] => if -(2 ^ 62) ≤ j ∧ j < 2 ^ 62 then some ((List.range j.toNat).map fun i => D.int (i : Nat)) else none
  | [.int i, .int j] => if -(2 ^ 62) ≤ i ∧ i < 2 ^ 62 ∧ -(2 ^ 62) ≤ j ∧ j < 2 ^ 62 then some ((List.range (j - i).toNat).map fun k => D.int (i + (k : Nat))) else none
  | _ => none
def rangeDown (i j : Int) : List D := (List.range (i - j).toNat).map fun k => D.int (i + (k : Nat) * (-1))
def zipD (xs ys : List D) : List D := (xs.zip ys).map fun p => .tup [p.1, p.2]
def enmD (xs : List D) : List D := xs.zipIdx.map fun p => .tup [.int (p.2 : Nat), p.1]
def pairUp : List D → Option (List (D × D))
  | [] => some []
  | x :: y :: r => match pairUp r with | some l => some ((x, y) :: l) | none => none
  | _ => none
def seqSrc (h : LH) (d : D) : Option (Src × List D) := match d with
  | .tup ds => some ([], ds)
  | .lst ds => some ([], ds)
  | .str x => some ([], x.cps.toList.map fun c => D.str ⟨#[c]⟩)
  | .loc n => match h[n]? with | some (.lst ds) => some ([(n, ds)], ds) | _ => none
  | _ => none

mutual
def evE : E → Env → LH → Res D
  | .var i, env, h => match env[i]? with | some (some d) => .ok d h | _ => .no
  | .cst c, _, h => match cstD c with | some d => .ok d h | none => .no
  | .glob _ d, _, h => .ok d h
  | .tup es, env, h => (evEs es env h).bind fun ds h1 => if ds.length ≤ sizeLine then .ok (.tup ds) h1 else .no
  | .lst m es, env, h => (evEs es env h).bind fun ds h1 => if ds.length ≤ sizeLine then alloc m ds h1 else .no
  | .bin op m a b, env, h => (evE a env h).bind fun x h1 => (evE b env h1).bind fun y h2 => opBin op m x y h2
  | .neg a, env, h => (evE a env h).bind fun x h1 => match x with | .int i => .ok (.int (-i)) h1 | _ => .no
  | .not a, env, h => (evE a env h).bind fun x h1 => match x with | .bl b => .ok (.bl (!b)) h1 | _ => .no
  | .and es, env, h => evAnd es env h
  | .or es, env, h => evOr es env h
  | .cmp op a b, env, h => (evE a env h).bind fun x h1 => (evE b env h1).bind fun y h2 => opCmp op x y h2
  | .chn op op' a b c, env, h => (evE a env h).bind fun x h1 => (evE b env h1).bind fun y h2 => (opCmp op x y h2).bind fun k h3 => match k with
    | .bl true => (evE c env h3).bind fun z h4 => opCmp op' y z h4
    | .bl false => .ok (.bl false) h3
    | _ => .no
  | .ite c a b, env, h => (evE c env h).bind fun x h1 => match truthy h1 x with
    | some true => evE a env h1
    | some false => evE b env h1
    | none => .no
  | .idx a i, env, h => (evE a env h).bind fun x h1 => (evE i env h1).bind fun y h2 => opIdx x y h2
  | .slc m a lo hi, env, h => (evE a env h).bind fun x h1 => (evO lo env h1).bind fun l h2 => (evO hi env h2).bind fun u h3 => opCut m x l u h3
  | .noe, _, _ => .no
  | .isi a ty, env, h => (evE a env h).bind fun x h1 => match isiD h1 ty x with | some b => .ok (.bl b) h1 | none => .no
  | .bui f m es, env, h => (evEs es env h).bind fun ds h1 => biF f m ds h1
  | .met f m o es, env, h => (evE o env h).bind fun x h1 => if mtOk f h1 x = true then (evEs es env h1).bind fun ds h2 => mtF f m x ds h2 else .no
  | .cal _ S m dfl es, env, h => (evEs es env h).bind fun ds h1 => if ds.length + dfl.length = m then S (ds ++ dfl) h1 else .no
  | .lcp own t it cond elt, env, h => (evI it env h).bind fun p h1 => (compLoop p.1 (own.map (·.2)) t (fun env1 h2 => (evC cond env1 h2).bind fun b h3 =>
      if b = true then (evE elt env1 h3).bind fun d h4 => .ok (some d) h4 else .ok none h3) p.2 [] env h1).bind fun ds h5 => .ok (.lst ds) h5
  | .itv _, _, _ => .no
  | .rng _, _, _ => .no
  | .zip _ _, _, _ => .no
  | .bad, _, _ => .no
  | .enm _, _, _ => .no
  | .dsp es, env, h => (evEs es env h).bind fun ds h1 => match pairUp ds with
    | none => .no
    | some kvs => if (kvs.all fun p => keyB p.1) = true ∧ kvs.length ≤ 15 then allocD (kvs.foldl (fun acc p => dput acc p.1 p.2) []) h1 else .no
  | .ds1 k v, env, h => (evE k env h).bind fun x h1 => (evE v env h1).bind fun y h2 => if keyT x = true then allocD [(x, y)] h2 else .no
  | .tix os e, env, h => (evEs os env h).bind fun ds h1 => if ds.length ≤ sizeLine then (evE e env h1).bind fun x h2 => match strsOf ds, x with
    | some ys, .str z => match ys.idxOf? z with | some k => .ok (.int (k : Nat)) h2 | none => .no
    | _, _ => .no
    else .no
  | .lrg m it, env, h => (evI it env h).bind fun p h1 => if p.2.length ≤ sizeLine then alloc m p.2 h1 else .no
  | .att c f o, env, h => (evE o env h).bind fun d h1 => match asI h1 d with
    | some (c', fs) => if c' = c then match fs.lookup f with | some v => .ok v h1 | none => .no else .no
    | none => .no
  | .mca c x S k dfl o es, env, h => (evE o env h).bind fun d h1 => match asI h1 d with
    | some (c', fs) => if c' = c ∧ fs.lookup x = none then (evEs es env h1).bind fun ds h2 => if ds.length + 1 + dfl.length = k then S (d :: (ds ++ dfl)) h2 else .no else .no
    | none => .no
  | .rvs m a, env, h => (evE a env h).bind fun d h1 => match asL h1 d with
    | some ds => alloc m ds.reverse h1
    | none => .no
def evEs : List E → Env → LH → Res (List D)
  | [], _, h => .ok [] h
  | e :: es, env, h => (evE e env h).bind fun d h1 => (evEs es env h1).bind fun ds h2 => .ok (d :: ds) h2
/-- and, or: all but the last are True or False -/
def evAnd : List E → Env → LH → Res D
  | [], _, _ => .no
  | [e], env, h => evE e env h
  | e :: es, env, h => (evE e env h).bind fun d h1 => match d with
    | .bl true => evAnd es env h1
    | .bl false => .ok (.bl false) h1
    | _ => .no
def evOr : List E → Env → LH → Res D
  | [], _, _ => .no
  | [e], env, h => evE e env h
  | e :: es, env, h => (evE e env h).bind fun d h1 => match d with
    | .bl false => evOr es env h1
    | .bl true => .ok (.bl true) h1
    | _ => .no
/-- a slice's part -/
def evO : E → Env → LH → Res (Option Int)
  | .noe, _, h => .ok none h
  | .itv e, env, h => (evE e env h).bind fun d h1 => match d with | .int i => .ok (some i) h1 | _ => .no
  | _, _, _ => .no
/-- what a for walks -/
def evI : E → Env → LH → Res (Src × List D)
  | .itv e, env, h => (evE e env h).bind fun d h1 => match seqSrc h1 d with | some p => .ok p h1 | none => .no
  | .rng [a], env, h => (evE a env h).bind fun d h1 => match rangeItems [d] with | some l => .ok ([], l) h1 | none => .no
  | .rng [a, b], env, h => (evE a env h).bind fun d h1 => (evE b env h1).bind fun e h2 => match rangeItems [d, e] with | some l => .ok ([], l) h2 | none => .no
  | .rng [a, b, c], env, h => (evE a env h).bind fun d h1 => (evE b env h1).bind fun e h2 => (evE c env h2).bind fun g h3 => match d, e, g with
    | .int i, .int j, .int z => if z = -1 ∧ -(2 ^ 62) ≤ i ∧ i < 2 ^ 62 ∧ -(2 ^ 62) ≤ j ∧ j < 2 ^ 62 then .ok ([], rangeDown i j) h3 else .no
    | _, _, _ => .no
  | .zip a b, env, h => (evE a env h).bind fun d h1 => (evE b env h1).bind fun e h2 => match seqSrc h2 d, seqSrc h2 e with
    | some p, some q => if (asS h2 d).isSome = true ∧ (asS h2 e).isSome = true then .ok (p.1 ++ q.1, zipD p.2 q.2) h2 else .no
    | _, _ => .no
  | .enm a, env, h => (evE a env h).bind fun d h1 => match seqSrc h1 d with
    | some p => if (asS h1 d).isSome = true then .ok (p.1, enmD p.2) h1 else .no
    | none => .no
  | _, _, _ => .no
/-- a comprehension's test -/
def evC : List E → Env → LH → Res Bool
  | [], _, h => .ok true h
  | e :: _, env, h => (evE e env h).bind fun d h1 => match truthy h1 d with
    | some b => .ok b h1
    | none => .no
end
def evT (c : E) (env : Env) (h : LH) : Res Bool := (evE c env h).bind fun d h1 => match truthy h1 d with
  | some b => .ok b h1
  | none => .no

inductive S where
  | set (i : Nat) (e : E)
  | sat (c f : Str) (o e : E)
  | unp (t : T) (e : E)
  | stx (o i e : E)
  | exp (e : E) | ret (e : E) | retN
  | ifs (c : E) (a b : List S)
  | for_ (t : T) (it : E) (b : List S)
  | whl (c : E) (b : List S)
  | rai (x : Str) | raiA (x f : Str) (e : E)
  | tryA (b : List S) (x : Str) (ei : Nat) (f : Str) (ti : Nat)
  | tryS (xs : List Str) (b : List S) (hs : List (Str × Nat × Const))
  | pas | brk | cnt | bad
inductive RS where
  | nx (env : Env) (h : LH)
  | rt (d : D) (h : LH)
  | bk (env : Env) (h : LH)
  | ct (env : Env) (h : LH)
  | ex (x : Exn) (env : Env) (h : LH)
  | no
/-- an expression within a statement -/
def Res.inS {α : Type} (r : Res α) (env : Env) (f : α → LH → RS) : RS := match r with
  | .ok a h => f a h
  | .ex x h => .ex x env h
  | .no => .no
def RS.seq (r : RS) (f : Env → LH → RS) : RS := match r with
  | .nx env h => f env h
  | r => r
/-- o.f = v -/
def setAtt (c f : Str) (o v : D) (h : LH) : Option LH := match o with
  | .loc n => match h[n]? with
    | some (.ins c' fs) => if c' = c ∧ fs.length < 1000 then some (h.set n (.ins c' (if (fs.any fun p => decide (p.1 = f)) = true then fs.map fun p => if p.1 = f then (p.1, v) else p else fs ++ [(f, v)]))) else none
    | _ => none
  | _ => none
def setSub (o i v : D) (h : LH) : Option LH := match o, i with
  | .loc n, k => match h[n]? with
    | some (.lst ds) => match k with
      | .int k => match L2.ixN ds.length k with | some j => some (h.set n (.lst (ds.set j v))) | none => none
      | _ => none
    | some (.dct kvs) => if kOk kvs k = true ∧ kvs.length < sizeLine then some (h.set n (.dct (dput kvs k v))) else none
    | _ => none
  | _, _ => none
open Classical in
def forLoop (s : Src) (t : T) (f : Env → LH → RS) : List D → Env → LH → RS
  | [], env, h => if SrcOk s h then .nx env h else .no
  | x :: xs, env, h => if SrcOk s h then match bindT t x env with
    | none => .no
    | some env1 => match f env1 h with
      | .nx e h1 => forLoop s t f xs e h1
      | .ct e h1 => forLoop s t f xs e h1
      | .bk e h1 => .nx e h1
      | r => r
    else .no
def whileLoop (c : Env → LH → Res Bool) (f : Env → LH → RS) : Nat → Env → LH → RS
  | 0, _, _ => .no
  | n + 1, env, h => (c env h).inS env fun b h1 => if b = true then match f env h1 with
      | .nx e h2 => whileLoop c f n e h2
      | .ct e h2 => whileLoop c f n e h2
      | .bk e h2 => .nx e h2
      | r => r
    else .nx env h1
/-- except X as e: t = e.f -/
def handleA (x : Str) (ei : Nat) (f : Str) (ti : Nat) (y : Exn) (env : Env) (h : LH) : RS := if y.cls = x then match y.arg with
  | some (g, d) => if g = f ∧ ti < env.length ∧ ei < env.length ∧ ei ≠ ti then .nx ((env.set ti (some d)).set ei none) h else .no
  | none => .no
  else .no
def handle (xs : List Str) : List (Str × Nat × Const) → Exn → Env → LH → RS
  | [], x, env, h => .ex x env h
  | (y, i, c) :: hs, x, env, h => if x.cls = y then (match cstD c with | some d => if i < env.length then .nx (env.set i (some d)) h else .no | none => .no) else handle xs hs x env h
mutual
def evS (F : Nat) : S → Env → LH → RS
  | .set i e, env, h => (evE e env h).inS env fun d h1 => if i < env.length then .nx (env.set i (some d)) h1 else .no
  | .sat c f o e, env, h => (evE e env h).inS env fun v h1 => (evE o env h1).inS env fun x h2 => match setAtt c f x v h2 with | some h3 => .nx env h3 | none => .no
  | .unp t e, env, h => (evE e env h).inS env fun d h1 => match bindT t d env with | some env' => .nx env' h1 | none => .no
  | .stx o i e, env, h => (evE e env h).inS env fun v h1 => (evE o env h1).inS env fun x h2 => (evE i env h2).inS env fun k h3 => match setSub x k v h3 with | some h4 => .nx env h4 | none => .no
  | .exp e, env, h => (evE e env h).inS env fun _ h1 => .nx env h1
  | .ret e, env, h => (evE e env h).inS env fun d h1 => .rt d h1
  | .retN, _, h => .rt .non h
  | .ifs c a b, env, h => (evT c env h).inS env fun k h1 => if k = true then evSs F a env h1 else evSs F b env h1
  | .for_ t it b, env, h => (evI it env h).inS env fun p h1 => forLoop p.1 t (fun env1 h2 => evSs F b env1 h2) p.2 env h1
  | .whl c b, env, h => whileLoop (fun env1 h1 => evT c env1 h1) (fun env1 h1 => evSs F b env1 h1) F env h
  | .rai x, env, h => .ex ⟨x, none⟩ env h
  | .raiA x f e, env, h => (evE e env h).inS env fun d h1 => .ex ⟨x, some (f, d)⟩ env h1
  | .tryA b x ei f ti, env, h => match evSs F b env h with
    | .ex y env1 h1 => handleA x ei f ti y env1 h1
    | r => r
  | .tryS xs b hs, env, h => match evSs F b env h with
    | .ex x env1 h1 => if xs.contains x.cls then handle xs hs x env1 h1 else .no
    | r => r
  | .pas, env, h => .nx env h
  | .brk, env, h => .bk env h
  | .cnt, env, h => .ct env h
  | .bad, _, _ => .no
def evSs (F : Nat) : List S → Env → LH → RS
  | [], env, h => .nx env h
  | s :: ss, env, h => (evS F s env h).seq fun env1 h1 => evSs F ss env1 h1
end
/-- a def's run -/
def runF (F : Nat) (n : Nat) (b : List S) (args : List D) (h : LH) : Res D := match evSs F b (args.map some ++ List.replicate (n - args.length) none) h with
  | .nx _ h1 => .ok .non h1
  | .rt d h1 => .ok d h1
  | .ex x _ h1 => .ex x h1
  | _ => .no
end Ev
end
namespace Ev
open PySem L2
abbrev Fg := PySem.W.Frag
def FzS (K : Fg) (H : Hp) (a : Addr) (xs : List V) : Prop :=
  (∃ o, H a = some (.frz o (.lst xs))) ∨ ∃ (o : Obj) (its : Array Value) (n : Nat), K.lookup a = some o ∧ o.cls = .type "list" ∧ o.dict = none ∧ o.data = .seq its n ∧ its.size ≤ sizeLine ∧ Vals xs its.toList
theorem FzS.sq {K : Fg} {H : Hp} {a : Addr} {xs : List V} (h : FzS K H a xs) : SqL K H a xs := by
  rcases h with ⟨o, h⟩ | h
  · exact .inl (.inr ⟨o, h⟩)
  · exact .inr h
/-- addresses that are set apart (lists in the making), beside the locations -/
abbrev Ap := Addr → Prop
/-- no location below n stands at a, nor is it set apart -/
def Unr (R : Ap) (n : Nat) (μ : Nat → Addr) (a : Addr) : Prop := ¬ R a ∧ ∀ l, l < n → μ l ≠ a
/-- a lambda of the text: its name in full, parameters, body, scope, what it captures -/
structure LamI where
  qual : Str
  params : Arguments
  body : Expr
  scope : Scope
  fr : List Str
/-- the world, the lambdas by number -/
class Tabs where
  w : World
  lam : Nat → Option LamI
/-- a dict whose keys are tuples: the keys, where they stand, the values -/
def DxO [Tabs] (a : Addr) (xs : List (NestedKey × Addr × V)) : HO := .ext fun h => (a == sysModules) = false ∧ xs.length ≤ sizeLine ∧ ∃ ys : List (NestedKey × Addr × Value),
  Paired (fun (p : NestedKey × Addr × V) (q : NestedKey × Addr × Value) => p.1 = q.1 ∧ p.2.1 = q.2.1 ∧ RelV p.2.2 q.2.2) xs ys ∧
  ∃ o es ep, h.get? a = some o ∧ o.ExactDict ∧ o.data = .dict es ep ∧ es.toList = ys.map (fun q => (⟨q.1.hash Tabs.w, .ref q.2.1, q.2.2⟩ : DictEntry)) ∧ (ys.map (·.1)).Nodup
/-- a lambda's object, a cell's -/
def LmO (f : Addr) (L : LamI) (cl : List (Str × Addr)) (c : Addr) : HO := .ext fun h => ∃ pm ctv, h.get? f = some (PySem.W.kla_obj "<lambda>" L.qual L.params L.body L.scope cl pm c ctv)
def CellO (a : Addr) (o : Obj) : HO := .ext fun h => h.get? a = some o
def keyD : Key → D
  | .inl i => .int i
  | .inr x => .str x
/-- at a stands a dict with the keys ks (the values kws) and the values ws -/
def DRaw [Tabs] (H : Hp) (a : Addr) (ks : List D) (kws ws : List V) : Prop :=
  (∃ kvs : List (Key × V), H a = some (.dK kvs) ∧ ks = kvs.map (fun p => keyD p.1) ∧ kws = kvs.map (fun p => kV p.1) ∧ ws = kvs.map (·.2)) ∨
  ∃ xs : List (NestedKey × Addr × V), xs ≠ [] ∧ H a = some (DxO a xs) ∧ ks.map nk = xs.map (fun x => some x.1) ∧ kws = xs.map (fun x => .ref x.2.1) ∧ ws = xs.map (·.2.2)
def CellsR (R : Ap) (n : Nat) (μ : Nat → Addr) (H : Hp) (cl : List (Str × Addr)) (fr : List Str) (ws : List V) : Prop :=
  fr.length = ws.length ∧ (∀ y a, cl.lookup y = some a → y ∈ fr) ∧ (∀ x y a, cl.lookup x = some a → cl.lookup y = some a → x = y) ∧
  ∀ (j : Nat) (y : Str) (w : V), fr[j]? = some y → ws[j]? = some w → ∃ a o u, cl.lookup y = some a ∧ H a = some (CellO a o) ∧ Unr R n μ a ∧ o.data = .cell (some u) ∧ RelV w u
/-- where the class of a name stands -/
def ClsAt (K : Fg) (c : Str) (C : Addr) : Prop := PySem.W.nsIn K mainGlobals c = some (some (.ref C))
variable [Tabs]
mutual
def Rep (K : Fg) (R : Ap) (n : Nat) (μ : Nat → Addr) (H : Hp) : D → V → Prop
  | .non, v => v = .non
  | .bl b, v => v = .bl b
  | .int i, v => v = .int i
  | .str x, v => v = .str x
  | .tup ds, v => ∃ a xs, v = .ref a ∧ SqT K H a xs ∧ Reps K R n μ H ds xs
  | .lst ds, v => ∃ a xs, v = .ref a ∧ H a = some (.lst xs) ∧ Unr R n μ a ∧ Reps K R n μ H ds xs
  | .loc l, v => l < n ∧ v = .ref (μ l)
  | .scr ns, v => ∃ a, v = .ref a ∧ FzS K H a (ns.map V.int)
  | .dct ks vs, v => ∃ a kws ws, v = .ref a ∧ DRaw H a ks kws ws ∧ Unr R n μ a ∧ Reps K R n μ H ks kws ∧ Reps K R n μ H vs ws
  | .ins c fs ds, v => ∃ a C dx ws, v = .ref a ∧ ClsAt K c C ∧ H a = some (.ins C dx (fs.zip ws)) ∧ fs.length = ws.length ∧ Unr R n μ a ∧ Reps K R n μ H ds ws
  | .clo i cs, v => ∃ f L cl c ws, v = .ref f ∧ Tabs.lam i = some L ∧ H f = some (LmO f L cl c) ∧ Unr R n μ f ∧ H c = some (LamX.CodeO c L.qual) ∧ Unr R n μ c ∧ CellsR R n μ H cl L.fr ws ∧ Reps K R n μ H cs ws
def Reps (K : Fg) (R : Ap) (n : Nat) (μ : Nat → Addr) (H : Hp) : List D → List V → Prop
  | [], xs => xs = []
  | d :: ds, xs => ∃ v vs, xs = v :: vs ∧ Rep K R n μ H d v ∧ Reps K R n μ H ds vs
end
def RepO (K : Fg) (R : Ap) (n : Nat) (μ : Nat → Addr) (H : Hp) (a : Addr) : O → Prop
  | .lst ds => ∃ xs, H a = some (.lst xs) ∧ Reps K R n μ H ds xs
  | .dct kvs => ∃ kws ws, DRaw H a (kvs.map (·.1)) kws ws ∧ Reps K R n μ H (kvs.map (·.1)) kws ∧ Reps K R n μ H (kvs.map (·.2)) ws
  | .ins c fs => ∃ C dx ws, ClsAt K c C ∧ H a = some (.ins C dx ((fs.map (·.1)).zip ws)) ∧ Reps K R n μ H (fs.map (·.2)) ws
structure SimH (K : Fg) (R : Ap) (μ : Nat → Addr) (H : Hp) (h : LH) : Prop where
  sep : ∀ l, l < h.length → ¬ R (μ l)
  apl : ∀ a, R a → ∃ u, H a = some u
  inj : ∀ i j, i < h.length → j < h.length → μ i = μ j → i = j
  obj : ∀ l o, h[l]? = some o → RepO K R h.length μ H (μ l) o
structure Ext (n : Nat) (μ : Nat → Addr) (H : Hp) (n' : Nat) (μ' : Nat → Addr) (H' : Hp) : Prop where
  le : n ≤ n'
  agree : ∀ l, l < n → μ' l = μ l
  keep : ∀ a o, (∀ l, l < n → μ l ≠ a) → H a = some o → H' a = some o
  fresh : ∀ l, n ≤ l → l < n' → H (μ' l) = none
section
variable {K : Fg} {R : Ap} {n n' n1 n2 : Nat} {μ μ' μ1 μ2 : Nat → Addr} {H H' H1 H2 : Hp} {h h' h1 h2 : LH}
theorem DRaw.there {a : Addr} {ks : List D} {kws ws : List V} (d : DRaw H a ks kws ws) : ∃ u, H a = some u := by
  rcases d with ⟨kvs, e, _⟩ | ⟨xs, _, e, _⟩ <;> exact ⟨_, e⟩
theorem DRaw.keep {a : Addr} {ks : List D} {kws ws : List V} (d : DRaw H a ks kws ws) (k : ∀ o, H a = some o → H' a = some o) : DRaw H' a ks kws ws := by
  rcases d with ⟨kvs, e, q⟩ | ⟨xs, n, e, q⟩
  · exact .inl ⟨kvs, k _ e, q⟩
  · exact .inr ⟨xs, n, k _ e, q⟩
/-- a dict is nothing else -/
theorem DRaw.ne {a : Addr} {ks : List D} {kws ws : List V} {u : HO} (d : DRaw H a ks kws ws) (e : H a = some u) : (∃ kvs, u = .dK kvs) ∨ ∃ xs, u = DxO a xs := by
  rcases d with ⟨kvs, q, _⟩ | ⟨xs, _, q, _⟩
  · rw [q] at e; cases e; exact .inl ⟨_, rfl⟩
  · rw [q] at e; cases e; exact .inr ⟨_, rfl⟩
theorem CellsR.keep {R' : Ap} {cl : List (Str × Addr)} {fr : List Str} {ws : List V} (c : CellsR R n μ H cl fr ws) (k : ∀ a o, Unr R n μ a → H a = some o → H' a = some o ∧ Unr R' n' μ' a) : CellsR R' n' μ' H' cl fr ws := by
  obtain ⟨c1, c2, c3, c4⟩ := c
  refine ⟨c1, c2, c3, fun j y w h1 h2 => ?_⟩
  obtain ⟨a, o, u, e1, e2, e3, e4⟩ := c4 j y w h1 h2
  obtain ⟨k1, k2⟩ := k a _ e3 e2
  exact ⟨a, o, u, e1, k1, k2, e4⟩
mutual
/-- what a value's lying leans on stays -/
theorem Rep.gen {R' : Ap} (k : ∀ a o, Unr R n μ a → H a = some o → H' a = some o ∧ Unr R' n' μ' a) (kt : ∀ a xs, SqT K H a xs → SqT K H' a xs) (kf : ∀ a xs, FzS K H a xs → FzS K H' a xs) (kl : ∀ l, l < n → l < n' ∧ μ' l = μ l) : ∀ (d : D) (v : V), Rep K R n μ H d v → Rep K R' n' μ' H' d v
  | .non, _, r => by simpa only [Rep] using r
  | .bl _, _, r => by simpa only [Rep] using r
  | .int _, _, r => by simpa only [Rep] using r
  | .str _, _, r => by simpa only [Rep] using r
  | .tup ds, v, r => by
    simp only [Rep] at r ⊢
    obtain ⟨a, xs, rfl, q, r⟩ := r
    exact ⟨a, xs, rfl, kt _ _ q, Reps.gen k kt kf kl ds xs r⟩
  | .lst ds, v, r => by
    simp only [Rep] at r ⊢
    obtain ⟨a, xs, rfl, q, u, r⟩ := r
    obtain ⟨q', u'⟩ := k _ _ u q
    exact ⟨a, xs, rfl, q', u', Reps.gen k kt kf kl ds xs r⟩
  | .loc l, v, r => by
    simp only [Rep] at r ⊢
    obtain ⟨h1, h2⟩ := kl l r.1
    exact ⟨h1, by rw [h2]; exact r.2⟩
  | .scr ns, v, r => by
    simp only [Rep] at r ⊢
    obtain ⟨a, rfl, q⟩ := r
    exact ⟨a, rfl, kf _ _ q⟩
  | .dct ks vs, v, r => by
    simp only [Rep] at r ⊢
    obtain ⟨a, kws, ws, rfl, q, u, r1, r2⟩ := r
    obtain ⟨o, e⟩ := q.there
    exact ⟨a, kws, ws, rfl, q.keep fun o e => (k _ _ u e).1, (k _ _ u e).2, Reps.gen k kt kf kl ks kws r1, Reps.gen k kt kf kl vs ws r2⟩
  | .ins c fs ds, v, r => by
    simp only [Rep] at r ⊢
    obtain ⟨a, C, dx, ws, rfl, c, q, hl, u, r⟩ := r
    obtain ⟨q', u'⟩ := k _ _ u q
    exact ⟨a, C, dx, ws, rfl, c, q', hl, u', Reps.gen k kt kf kl ds ws r⟩
  | .clo i cs, v, r => by
    simp only [Rep] at r ⊢
    obtain ⟨f, L, cl, c, ws, rfl, hL, q1, u1, q2, u2, cr, r⟩ := r
    obtain ⟨q1', u1'⟩ := k _ _ u1 q1
    obtain ⟨q2', u2'⟩ := k _ _ u2 q2
    exact ⟨f, L, cl, c, ws, rfl, hL, q1', u1', q2', u2', cr.keep k, Reps.gen k kt kf kl cs ws r⟩
theorem Reps.gen {R' : Ap} (k : ∀ a o, Unr R n μ a → H a = some o → H' a = some o ∧ Unr R' n' μ' a) (kt : ∀ a xs, SqT K H a xs → SqT K H' a xs) (kf : ∀ a xs, FzS K H a xs → FzS K H' a xs) (kl : ∀ l, l < n → l < n' ∧ μ' l = μ l) : ∀ (ds : List D) (vs : List V), Reps K R n μ H ds vs → Reps K R' n' μ' H' ds vs
  | [], _, r => by simpa only [Reps] using r
  | d :: ds, vs, r => by
    simp only [Reps] at r ⊢
    obtain ⟨v, ws, rfl, r1, r2⟩ := r
    exact ⟨v, ws, rfl, Rep.gen k kt kf kl d v r1, Reps.gen k kt kf kl ds ws r2⟩
end
theorem RepO.gen {R' : Ap} (k : ∀ a o, Unr R n μ a → H a = some o → H' a = some o ∧ Unr R' n' μ' a) (kt : ∀ a xs, SqT K H a xs → SqT K H' a xs) (kf : ∀ a xs, FzS K H a xs → FzS K H' a xs) (kl : ∀ l, l < n → l < n' ∧ μ' l = μ l) {a : Addr} {o : O} (r : RepO K R n μ H a o) (ha : ∀ u, H a = some u → H' a = some u) : RepO K R' n' μ' H' a o := by
  cases o with
  | lst ds =>
    obtain ⟨xs, q, r⟩ := r
    exact ⟨xs, ha _ q, Reps.gen k kt kf kl _ _ r⟩
  | dct kvs =>
    obtain ⟨kws, ws, q, r1, r2⟩ := r
    exact ⟨kws, ws, q.keep ha, Reps.gen k kt kf kl _ _ r1, Reps.gen k kt kf kl _ _ r2⟩
  | ins c fs =>
    obtain ⟨C, dx, ws, c, q, r⟩ := r
    exact ⟨C, dx, ws, c, ha _ q, Reps.gen k kt kf kl _ _ r⟩
theorem RepO.some {a : Addr} {o : O} (r : RepO K R n μ H a o) : ∃ u, H a = some u := by
  cases o with
  | lst ds => obtain ⟨xs, e, _⟩ := r; exact ⟨_, e⟩
  | dct kvs => obtain ⟨kws, ws, d, _⟩ := r; exact d.there
  | ins c fs => obtain ⟨C, dx, ws, _, e, _⟩ := r; exact ⟨_, e⟩
theorem SimH.live (S : SimH K R μ H h) {l : Nat} (hl : l < h.length) : ∃ o, H (μ l) = some o :=
  (S.obj l _ (List.getElem?_eq_getElem hl)).some
theorem SimH.loc_fresh (S : SimH K R μ H h) {p : Addr} (hp : H p = none) : ∀ l, l < h.length → μ l ≠ p := fun l hl e => by
  obtain ⟨o, q⟩ := S.live hl
  rw [e, hp] at q; cases q
theorem SimH.unr_fresh (S : SimH K R μ H h) {p : Addr} (hp : H p = none) : Unr R h.length μ p :=
  ⟨fun r => (by obtain ⟨xs, q⟩ := S.apl p r; rw [hp] at q; cases q), S.loc_fresh hp⟩
theorem SimH.unr_tup (S : SimH K R μ H h) {p : Addr} {xs : List V} (hp : Rd H p (.tup xs)) : ∀ l, l < h.length → μ l ≠ p := fun l hl e => by
  have r := S.obj l _ (List.getElem?_eq_getElem hl)
  rw [e] at r
  generalize h[l] = o at r
  cases o with
  | lst ds =>
    obtain ⟨ys, q, _⟩ := r
    rcases hp with z | ⟨_, z⟩
    · rw [q] at z; cases z
    · rw [q] at z; cases z
  | dct kvs =>
    obtain ⟨kws, ws, q, _⟩ := r
    rcases hp with z | ⟨_, z⟩ <;> rcases q.ne z with ⟨_, q⟩ | ⟨_, q⟩ <;> cases q
  | ins c fs =>
    obtain ⟨C, dx, ws, _, q, _⟩ := r
    rcases hp with z | ⟨_, z⟩
    · rw [q] at z; cases z
    · rw [q] at z; cases z
theorem SimH.unr_frz (S : SimH K R μ H h) {p : Addr} {o : Obj} {u : HO} (hp : H p = some (.frz o u)) : ∀ l, l < h.length → μ l ≠ p := fun l hl e => by
  have r := S.obj l _ (List.getElem?_eq_getElem hl)
  rw [e] at r
  generalize h[l] = o at r
  cases o with
  | lst ds =>
    obtain ⟨ys, q, _⟩ := r
    rw [q] at hp; cases hp
  | dct kvs =>
    obtain ⟨kws, ws, q, _⟩ := r
    rcases q.ne hp with ⟨_, q⟩ | ⟨_, q⟩ <;> cases q
  | ins c fs =>
    obtain ⟨C, dx, ws, _, q, _⟩ := r
    rw [q] at hp; cases hp
theorem Ext.refl : Ext n μ H n μ H := ⟨Nat.le_refl _, fun _ _ => rfl, fun _ _ _ e => e, fun l h1 h2 => absurd (Nat.lt_of_lt_of_le h2 h1) (Nat.lt_irrefl _)⟩
theorem Ext.loc (e : Ext n μ H n' μ' H') {a : Addr} {o : HO} (ha : H a = some o) (u : ∀ l, l < n → μ l ≠ a) : ∀ l, l < n' → μ' l ≠ a := fun l hl z => by
  by_cases q : l < n
  · rw [e.agree l q] at z; exact u l q z
  · have := e.fresh l (Nat.le_of_not_lt q) hl
    rw [z, ha] at this; cases this
theorem Ext.unr (e : Ext n μ H n' μ' H') {a : Addr} {o : HO} (ha : H a = some o) (u : Unr R n μ a) : Unr R n' μ' a := ⟨u.1, e.loc ha u.2⟩
theorem Ext.trans (a : Ext n μ H h1.length μ1 H1) (S : SimH K R μ1 H1 h1) (b : Ext h1.length μ1 H1 n2 μ2 H2) : Ext n μ H n2 μ2 H2 := by
  refine ⟨Nat.le_trans a.le b.le, fun l hl => (b.agree l (Nat.lt_of_lt_of_le hl a.le)).trans (a.agree l hl), fun c o u e => b.keep c o (a.loc e u) (a.keep c o u e), fun l h3 h4 => ?_⟩
  by_cases q : l < h1.length
  · rw [b.agree l q]; exact a.fresh l h3 q
  · cases e : H (μ2 l) with
    | none => rfl
    | some o =>
      have f := b.fresh l (Nat.le_of_not_lt q) h4
      by_cases u : ∀ l0, l0 < n → μ l0 ≠ μ2 l
      · rw [a.keep _ o u e] at f; cases f
      · exfalso
        apply u
        intro l0 hl0 z
        obtain ⟨o', q'⟩ := S.live (Nat.lt_of_lt_of_le hl0 a.le)
        rw [a.agree l0 hl0, z, f] at q'; cases q'
theorem mono_k {R0 : Ap} (S : SimH K R0 μ H h) (e : Ext h.length μ H n' μ' H') : (∀ a o, Unr R h.length μ a → H a = some o → H' a = some o ∧ Unr R n' μ' a) ∧ (∀ a xs, SqT K H a xs → SqT K H' a xs) ∧ (∀ a xs, FzS K H a xs → FzS K H' a xs) ∧ ∀ l, l < h.length → l < n' ∧ μ' l = μ l := by
  refine ⟨fun a o u q => ⟨e.keep a o u.2 q, e.unr q u⟩, fun a xs q => ?_, fun a xs q => ?_, fun l hl => ⟨Nat.lt_of_lt_of_le hl e.le, e.agree l hl⟩⟩
  · rcases q with q | q
    · have u := S.unr_tup q
      rcases q with q | ⟨o, q⟩
      · exact .inl (.inl (e.keep _ _ u q))
      · exact .inl (.inr ⟨o, e.keep _ _ u q⟩)
    · exact .inr q
  · rcases q with ⟨o, q⟩ | q
    · exact .inl ⟨o, e.keep _ _ (S.unr_frz q) q⟩
    · exact .inr q
theorem Rep.mono {R0 : Ap} (S : SimH K R0 μ H h) (e : Ext h.length μ H n' μ' H') (d : D) (v : V) (r : Rep K R h.length μ H d v) : Rep K R n' μ' H' d v :=
  let ⟨k, kt, kf, kl⟩ := mono_k (R := R) S e
  Rep.gen k kt kf kl d v r
theorem Reps.mono {R0 : Ap} (S : SimH K R0 μ H h) (e : Ext h.length μ H n' μ' H') (ds : List D) (vs : List V) (r : Reps K R h.length μ H ds vs) : Reps K R n' μ' H' ds vs :=
  let ⟨k, kt, kf, kl⟩ := mono_k (R := R) S e
  Reps.gen k kt kf kl ds vs r
theorem Reps.length : ∀ {ds : List D} {vs : List V}, Reps K R n μ H ds vs → ds.length = vs.length
  | [], _, r => by simp only [Reps] at r; subst r; rfl
  | d :: ds, _, r => by
    simp only [Reps] at r
    obtain ⟨v, ws, rfl, _, r2⟩ := r
    simp [Reps.length r2]
theorem Reps.append : ∀ {ds es : List D} {vs ws : List V}, Reps K R n μ H ds vs → Reps K R n μ H es ws → Reps K R n μ H (ds ++ es) (vs ++ ws)
  | [], _, _, _, r, q => by simp only [Reps] at r; subst r; exact q
  | d :: ds, _, _, _, r, q => by
    simp only [Reps] at r
    obtain ⟨v, ws, rfl, r1, r2⟩ := r
    simp only [List.cons_append, Reps]
    exact ⟨v, _, rfl, r1, Reps.append r2 q⟩
theorem Reps.get : ∀ {ds : List D} {vs : List V} {i : Nat} {d : D}, Reps K R n μ H ds vs → ds[i]? = some d → ∃ v, vs[i]? = some v ∧ Rep K R n μ H d v
  | [], _, _, _, _, e => by simp at e
  | d :: ds, _, 0, _, r, e => by
    simp only [Reps] at r
    obtain ⟨v, ws, rfl, r1, r2⟩ := r
    simp at e; subst e
    exact ⟨v, rfl, r1⟩
  | d :: ds, _, i + 1, _, r, e => by
    simp only [Reps] at r
    obtain ⟨v, ws, rfl, r1, r2⟩ := r
    obtain ⟨u, e1, e2⟩ := Reps.get (i := i) r2 (by simpa using e)
    exact ⟨u, by simpa using e1, e2⟩
theorem Reps.get' : ∀ {ds : List D} {vs : List V} {i : Nat} {v : V}, Reps K R n μ H ds vs → vs[i]? = some v → ∃ d, ds[i]? = some d ∧ Rep K R n μ H d v
  | [], _, _, _, r, e => by simp only [Reps] at r; subst r; simp at e
  | d :: ds, _, 0, _, r, e => by
    simp only [Reps] at r
    obtain ⟨v, ws, rfl, r1, r2⟩ := r
    simp at e; subst e
    exact ⟨d, rfl, r1⟩
  | d :: ds, _, i + 1, _, r, e => by
    simp only [Reps] at r
    obtain ⟨v, ws, rfl, r1, r2⟩ := r
    obtain ⟨u, e1, e2⟩ := Reps.get' (i := i) r2 (by simpa using e)
    exact ⟨u, by simpa using e1, e2⟩
theorem Reps.take : ∀ {ds : List D} {vs : List V} (k : Nat), Reps K R n μ H ds vs → Reps K R n μ H (ds.take k) (vs.take k)
  | _, _, 0, _ => by simp [Reps]
  | [], _, k + 1, r => by simp only [Reps] at r; subst r; simp [Reps]
  | d :: ds, _, k + 1, r => by
    simp only [Reps] at r
    obtain ⟨v, ws, rfl, r1, r2⟩ := r
    simp only [List.take_succ_cons, Reps]
    exact ⟨v, _, rfl, r1, Reps.take k r2⟩
theorem Reps.drop : ∀ {ds : List D} {vs : List V} (k : Nat), Reps K R n μ H ds vs → Reps K R n μ H (ds.drop k) (vs.drop k)
  | _, _, 0, r => r
  | [], _, k + 1, r => by simp only [Reps] at r; subst r; simp [Reps]
  | d :: ds, _, k + 1, r => by
    simp only [Reps] at r
    obtain ⟨v, ws, rfl, r1, r2⟩ := r
    simp only [List.drop_succ_cons]
    exact Reps.drop k r2
theorem Reps.dropLast {ds : List D} {vs : List V} (r : Reps K R n μ H ds vs) : Reps K R n μ H ds.dropLast vs.dropLast := by
  rw [List.dropLast_eq_take, List.dropLast_eq_take, r.length]
  exact r.take _
theorem Reps.cut {ds : List D} {vs : List V} (lo hi : Option Int) (r : Reps K R n μ H ds vs) : Reps K R n μ H (cutL ds lo hi) (cutV vs lo hi) := by
  unfold cutL cutV
  rw [r.length]
  exact (r.drop _).take _
theorem Reps.rep1 : ∀ {ds : List D} {vs : List V} (k : Nat), Reps K R n μ H ds vs → Reps K R n μ H (List.replicate k ds).flatten (List.replicate k vs).flatten
  | ds, vs, 0, r => by simp [Reps]
  | ds, vs, k + 1, r => by
    simp only [List.replicate_succ, List.flatten_cons]
    exact Reps.append r (Reps.rep1 k r)

/-- a new untracked-by-location object is laid -/
theorem Ext.laid {p : Addr} {o : HO} (hp : H p = none) : Ext n μ H n μ (upd H p o) := by
  refine ⟨Nat.le_refl _, fun _ _ => rfl, fun a u _ e => ?_, fun l h1 h2 => absurd (Nat.lt_of_lt_of_le h2 h1) (Nat.lt_irrefl _)⟩
  rw [upd_ne (ne_of_none e hp)]
  exact e
theorem RepO.mono {R0 : Ap} (S : SimH K R0 μ H h) (e : Ext h.length μ H n' μ' H') {a : Addr} {o : O} (r : RepO K R h.length μ H a o) (ha : H' a = H a) : RepO K R n' μ' H' a o :=
  let ⟨k, kt, kf, kl⟩ := mono_k (R := R) S e
  r.gen k kt kf kl fun u q => by rw [ha]; exact q
theorem SimH.laid {p : Addr} {o : HO} (S : SimH K R μ H h) (hp : H p = none) : SimH K R μ (upd H p o) h := by
  refine ⟨S.sep, fun a r => ?_, S.inj, fun l u e => ?_⟩
  · obtain ⟨xs, q⟩ := S.apl a r
    exact ⟨xs, by rw [upd_ne (ne_of_none q hp)]; exact q⟩
  have r := S.obj l u e
  refine r.mono S (Ext.laid hp) ?_
  obtain ⟨w, z⟩ := r.some
  exact upd_ne (ne_of_none z hp)
/-- a new location -/
def muN (μ : Nat → Addr) (n : Nat) (p : Addr) : Nat → Addr := fun l => if l = n then p else μ l
theorem muN_lt {p : Addr} {l : Nat} (h : l < n) : muN μ n p l = μ l := if_neg (Nat.ne_of_lt h)
theorem muN_eq {p : Addr} : muN μ n p n = p := if_pos rfl
theorem Ext.newLoc {p : Addr} {o : HO} (hp : H p = none) : Ext n μ H (n + 1) (muN μ n p) (upd H p o) := by
  refine ⟨Nat.le_succ _, fun l hl => muN_lt hl, fun a u _ e => ?_, fun l h1 h2 => ?_⟩
  · rw [upd_ne (ne_of_none e hp)]; exact e
  · have : l = n := by omega
    subst this
    rw [muN_eq]; exact hp
theorem SimH.newLoc {p : Addr} {ds : List D} {xs : List V} (S : SimH K R μ H h) (hp : H p = none) (r : Reps K R h.length μ H ds xs) : SimH K R (muN μ h.length p) (upd H p (.lst xs)) (h ++ [.lst ds]) := by
  have e : Ext h.length μ H (h ++ [O.lst ds]).length (muN μ h.length p) (upd H p (.lst xs)) := by
    rw [List.length_append]; exact Ext.newLoc hp
  have live : ∀ l, l < h.length → μ l ≠ p := S.loc_fresh hp
  refine ⟨fun l hl => ?_, fun a r => ?_, fun i j hi hj z => ?_, fun l o q => ?_⟩
  · simp only [List.length_append, List.length_cons, List.length_nil] at hl
    by_cases hl' : l < h.length
    · rw [muN_lt hl']; exact S.sep l hl'
    · have : l = h.length := by omega
      subst this
      rw [muN_eq]; exact (S.unr_fresh hp).1
  · obtain ⟨xs', q⟩ := S.apl a r
    exact ⟨xs', by rw [upd_ne (ne_of_none q hp)]; exact q⟩
  · simp only [List.length_append, List.length_cons, List.length_nil] at hi hj
    by_cases hi' : i < h.length
    · by_cases hj' : j < h.length
      · rw [muN_lt hi', muN_lt hj'] at z; exact S.inj i j hi' hj' z
      · have : j = h.length := by omega
        subst this
        rw [muN_lt hi', muN_eq] at z; exact absurd z (live i hi')
    · have : i = h.length := by omega
      subst this
      by_cases hj' : j < h.length
      · rw [muN_lt hj', muN_eq] at z; exact absurd z.symm (live j hj')
      · omega
  · by_cases hl : l < h.length
    · rw [List.getElem?_append_left hl] at q
      rw [muN_lt hl]
      have r := S.obj l o q
      refine r.mono S e ?_
      exact upd_ne (live l hl)
    · have hl2 : l < (h ++ [O.lst ds]).length := (List.getElem?_eq_some_iff.mp q).1
      simp only [List.length_append, List.length_cons, List.length_nil] at hl2
      have : l = h.length := by omega
      subst this
      simp at q
      subst q
      rw [muN_eq]
      exact ⟨xs, upd_same, Reps.mono S e _ _ r⟩
/-- a location's list is changed -/
theorem Ext.set {l : Nat} {o : HO} (hl : l < n) : Ext n μ H n μ (upd H (μ l) o) := by
  refine ⟨Nat.le_refl _, fun _ _ => rfl, fun a u w e => ?_, fun l h1 h2 => absurd (Nat.lt_of_lt_of_le h2 h1) (Nat.lt_irrefl _)⟩
  rw [upd_ne (fun z => w l hl z.symm)]
  exact e
theorem SimH.set {l : Nat} {ds : List D} {xs : List V} (S : SimH K R μ H h) (hl : l < h.length) (r : Reps K R h.length μ H ds xs) : SimH K R μ (upd H (μ l) (.lst xs)) (h.set l (.lst ds)) := by
  have e : Ext h.length μ H (h.set l (O.lst ds)).length μ (upd H (μ l) (.lst xs)) := by
    rw [List.length_set]; exact Ext.set hl
  refine ⟨fun m hm => S.sep m (by simpa using hm), fun a r => ?_, fun i j hi hj z => S.inj i j (by simpa using hi) (by simpa using hj) z, fun m o q => ?_⟩
  · obtain ⟨xs', q⟩ := S.apl a r
    exact ⟨xs', by rw [upd_ne (fun z => S.sep l hl (by rw [← z]; exact r))]; exact q⟩
  by_cases hm : m = l
  · subst hm
    rw [List.getElem?_set_self hl] at q
    cases q
    exact ⟨xs, upd_same, Reps.mono S e _ _ r⟩
  · rw [List.getElem?_set_ne (Ne.symm hm)] at q
    have r := S.obj m o q
    refine r.mono S e (upd_ne fun z => hm (S.inj m l (List.getElem?_eq_some_iff.mp q).1 hl z))
/-- what stands at a location is changed -/
theorem SimH.put {l : Nat} {u : HO} {o : O} (S : SimH K R μ H h) (hl : l < h.length) (new : Ext h.length μ H h.length μ (upd H (μ l) u) → RepO K R h.length μ (upd H (μ l) u) (μ l) o) : SimH K R μ (upd H (μ l) u) (h.set l o) := by
  have e : Ext h.length μ H (h.set l o).length μ (upd H (μ l) u) := by
    rw [List.length_set]; exact Ext.set hl
  refine ⟨fun m hm => S.sep m (by simpa using hm), fun a r => ?_, fun i j hi hj z => S.inj i j (by simpa using hi) (by simpa using hj) z, fun m o' q => ?_⟩
  · obtain ⟨xs', q⟩ := S.apl a r
    exact ⟨xs', by rw [upd_ne (fun z => S.sep l hl (by rw [← z]; exact r))]; exact q⟩
  by_cases hm : m = l
  · subst hm
    rw [List.getElem?_set_self hl] at q
    cases q
    have := new (by rw [List.length_set] at e; exact e)
    rw [List.length_set]
    exact this
  · rw [List.getElem?_set_ne (Ne.symm hm)] at q
    have r := S.obj m o' q
    refine r.mono S e (upd_ne fun z => hm (S.inj m l (List.getElem?_eq_some_iff.mp q).1 hl z))
theorem up_k {R' : Ap} (hR : ∀ a, R' a → R a ∨ H a = none) : ∀ a o, Unr R n μ a → H a = some o → H a = some o ∧ Unr R' n μ a := fun a o u q => by
  refine ⟨q, fun z => ?_, u.2⟩
  rcases hR a z with z | z
  · exact u.1 z
  · rw [q] at z; cases z
theorem Rep.up {R' : Ap} (hR : ∀ a, R' a → R a ∨ H a = none) (d : D) (v : V) (r : Rep K R n μ H d v) : Rep K R' n μ H d v := Rep.gen (up_k hR) (fun _ _ q => q) (fun _ _ q => q) (fun _ hl => ⟨hl, rfl⟩) d v r
theorem Reps.up {R' : Ap} (hR : ∀ a, R' a → R a ∨ H a = none) (ds : List D) (vs : List V) (r : Reps K R n μ H ds vs) : Reps K R' n μ H ds vs := Reps.gen (up_k hR) (fun _ _ q => q) (fun _ _ q => q) (fun _ hl => ⟨hl, rfl⟩) ds vs r
theorem RepO.up {R' : Ap} (hR : ∀ a, R' a → R a ∨ H a = none) {a : Addr} {o : O} (r : RepO K R n μ H a o) : RepO K R' n μ H a o := r.gen (up_k hR) (fun _ _ q => q) (fun _ _ q => q) (fun _ hl => ⟨hl, rfl⟩) fun _ q => q
/-- fewer addresses set apart -/
theorem SimH.weak {R' : Ap} (hR : ∀ a, R a → R' a) (S : SimH K R' μ H h) : SimH K R μ H h :=
  ⟨fun l hl r => S.sep l hl (hR _ r), fun a r => S.apl a (hR a r), S.inj, fun l o e => (S.obj l o e).up fun a r => .inl (hR a r)⟩
/-- one more, a list that was just laid -/
theorem SimH.apart {p : Addr} {u : HO} (S : SimH K R μ H h) (hp : H p = none) : SimH K (fun a => R a ∨ a = p) μ (upd H p u) h := by
  refine ⟨fun l hl r => ?_, fun a r => ?_, S.inj, fun l o e => ?_⟩
  · rcases r with r | r
    · exact S.sep l hl r
    · exact S.loc_fresh hp l hl r
  · rcases r with r | r
    · exact (S.laid hp).apl a r
    · subst r; exact ⟨u, upd_same⟩
  · have r := (S.obj l o e).up (R' := fun a => R a ∨ a = p) fun a r => by
      rcases r with r | r
      · exact .inl r
      · subst r; exact .inr hp
    refine r.mono S (Ext.laid hp) ?_
    obtain ⟨w, z⟩ := r.some
    exact upd_ne (ne_of_none z hp)
/-- what was set apart becomes a location -/
theorem Ext.newLocR {p : Addr} {o : HO} (e : Ext n μ H n' μ' H') (hp : H p = none) : Ext n μ H (n' + 1) (muN μ' n' p) (upd H' p o) := by
  refine ⟨Nat.le_succ_of_le e.le, fun l hl => by rw [muN_lt (Nat.lt_of_lt_of_le hl e.le)]; exact e.agree l hl, fun a u w q => ?_, fun l h1 h2 => ?_⟩
  · rw [upd_ne (ne_of_none q hp)]; exact e.keep a u w q
  · by_cases hl : l < n'
    · rw [muN_lt hl]; exact e.fresh l h1 hl
    · have : l = n' := by omega
      subst this
      rw [muN_eq]; exact hp
theorem SimH.newLocR {p : Addr} {u0 u : HO} {o : O} (S : SimH K (fun a => R a ∨ a = p) μ H h) (hR : ¬ R p) (hp : H p = some u0)
    (new : (∀ (d : D) (v : V), Rep K (fun a => R a ∨ a = p) h.length μ H d v → Rep K R (h.length + 1) (muN μ h.length p) (upd H p u) d v) → RepO K R (h.length + 1) (muN μ h.length p) (upd H p u) p o) (kt : ∀ a xs, SqT K H a xs → SqT K (upd H p u) a xs) (kf : ∀ a xs, FzS K H a xs → FzS K (upd H p u) a xs) : SimH K R (muN μ h.length p) (upd H p u) (h ++ [o]) := by
  have live : ∀ l, l < h.length → μ l ≠ p := fun l hl z => S.sep l hl (.inr z)
  have k : ∀ a w, Unr (fun a => R a ∨ a = p) h.length μ a → H a = some w → upd H p u a = some w ∧ Unr R (h.length + 1) (muN μ h.length p) a := fun a w ur q => by
    have hne : a ≠ p := fun z => ur.1 (.inr z)
    refine ⟨by rw [upd_ne hne]; exact q, fun z => ur.1 (.inl z), fun l hl => ?_⟩
    by_cases hl' : l < h.length
    · rw [muN_lt hl']; exact ur.2 l hl'
    · have : l = h.length := by omega
      subst this
      rw [muN_eq]; exact hne.symm
  have kl : ∀ l, l < h.length → l < h.length + 1 ∧ muN μ h.length p l = μ l := fun l hl => ⟨Nat.lt_succ_of_lt hl, muN_lt hl⟩
  refine ⟨fun l hl => ?_, fun a r => ?_, fun i j hi hj z => ?_, fun l o' q => ?_⟩
  · simp only [List.length_append, List.length_cons, List.length_nil] at hl
    by_cases hl' : l < h.length
    · rw [muN_lt hl']; exact fun z => S.sep l hl' (.inl z)
    · have : l = h.length := by omega
      subst this
      rw [muN_eq]; exact hR
  · obtain ⟨w, q⟩ := S.apl a (.inl r)
    exact ⟨w, by rw [upd_ne (fun z => hR (by rw [← z]; exact r))]; exact q⟩
  · simp only [List.length_append, List.length_cons, List.length_nil] at hi hj
    by_cases hi' : i < h.length
    · by_cases hj' : j < h.length
      · rw [muN_lt hi', muN_lt hj'] at z; exact S.inj i j hi' hj' z
      · have : j = h.length := by omega
        subst this
        rw [muN_lt hi', muN_eq] at z; exact absurd z (live i hi')
    · have : i = h.length := by omega
      subst this
      by_cases hj' : j < h.length
      · rw [muN_lt hj', muN_eq] at z; exact absurd z.symm (live j hj')
      · omega
  · rw [List.length_append]
    by_cases hl : l < h.length
    · rw [List.getElem?_append_left hl] at q
      rw [muN_lt hl]
      exact (S.obj l o' q).gen k kt kf kl fun w z => by rw [upd_ne (live l hl)]; exact z
    · have hl2 : l < (h ++ [o]).length := (List.getElem?_eq_some_iff.mp q).1
      simp only [List.length_append, List.length_cons, List.length_nil] at hl2
      have : l = h.length := by omega
      subst this
      simp at q
      subst q
      rw [muN_eq]
      exact new fun d v r => Rep.gen k kt kf kl d v r
theorem grow_k {p : Addr} {xs ys : List V} (hp : H p = some (.lst xs)) (hR : R p) : (∀ a o, Unr R n μ a → H a = some o → upd H p (.lst ys) a = some o ∧ Unr R n μ a) ∧ (∀ a xs, SqT K H a xs → SqT K (upd H p (.lst ys)) a xs) ∧ (∀ a xs, FzS K H a xs → FzS K (upd H p (.lst ys)) a xs) := by
  refine ⟨fun a o u q => ⟨by rw [upd_ne (fun z => u.1 (by rw [z]; exact hR))]; exact q, u⟩, fun a xs q => ?_, fun a xs q => ?_⟩
  · rcases q with (q | ⟨o, q⟩) | q
    · exact .inl (.inl (by rw [upd_ne (fun z => by rw [z, hp] at q; cases q)]; exact q))
    · exact .inl (.inr ⟨o, by rw [upd_ne (fun z => by rw [z, hp] at q; cases q)]; exact q⟩)
    · exact .inr q
  · rcases q with ⟨o, q⟩ | q
    · exact .inl ⟨o, by rw [upd_ne (fun z => by rw [z, hp] at q; cases q)]; exact q⟩
    · exact .inr q
/-- a list that is set apart grows -/
theorem Rep.grow {p : Addr} {xs ys : List V} (hp : H p = some (.lst xs)) (hR : R p) (d : D) (v : V) (r : Rep K R n μ H d v) : Rep K R n μ (upd H p (.lst ys)) d v :=
  let ⟨k, kt, kf⟩ := grow_k (K := K) (n := n) (μ := μ) (ys := ys) hp hR
  Rep.gen k kt kf (fun _ hl => ⟨hl, rfl⟩) d v r
theorem Reps.grow {p : Addr} {xs ys : List V} (hp : H p = some (.lst xs)) (hR : R p) (ds : List D) (vs : List V) (r : Reps K R n μ H ds vs) : Reps K R n μ (upd H p (.lst ys)) ds vs :=
  let ⟨k, kt, kf⟩ := grow_k (K := K) (n := n) (μ := μ) (ys := ys) hp hR
  Reps.gen k kt kf (fun _ hl => ⟨hl, rfl⟩) ds vs r
theorem SimH.grow {p : Addr} {xs ys : List V} (S : SimH K R μ H h) (hp : H p = some (.lst xs)) (hR : R p) : SimH K R μ (upd H p (.lst ys)) h := by
  refine ⟨S.sep, fun a r => ?_, S.inj, fun l o e => ?_⟩
  · by_cases ha : a = p
    · subst ha; exact ⟨_, upd_same⟩
    · rw [upd_ne ha]; exact S.apl a r
  · have r := S.obj l o e
    have hl := (List.getElem?_eq_some_iff.mp e).1
    obtain ⟨k, kt, kf⟩ := grow_k (K := K) (n := h.length) (μ := μ) (ys := ys) hp hR
    exact r.gen k kt kf (fun _ hl => ⟨hl, rfl⟩) fun u q => by rw [upd_ne (fun z => S.sep l hl (by rw [z]; exact hR))]; exact q
theorem Ext.grow {p : Addr} {o : HO} (e : Ext n μ H n' μ' H') (hp : H p = none) : Ext n μ H n' μ' (upd H' p o) := by
  refine ⟨e.le, e.agree, fun a u l q => ?_, e.fresh⟩
  rw [upd_ne (ne_of_none q hp)]
  exact e.keep a u l q
end
end Ev
namespace Ev
open PySem L2
variable [Tabs]
mutual
theorem nk_inj : ∀ {a b : D} {k : NestedKey}, nk a = some k → nk b = some k → a = b
  | .non, b, k, h1, h2 => by
    simp only [nk] at h1; cases h1
    cases b <;> simp only [nk] at h2 <;> first | rfl | (cases h2; done) | skip
    split at h2 <;> cases h2
  | .int i, b, k, h1, h2 => by
    simp only [nk] at h1; cases h1
    cases b <;> simp only [nk] at h2 <;> first | (cases h2; rfl) | (cases h2; done) | skip
    split at h2 <;> cases h2
  | .str x, b, k, h1, h2 => by
    simp only [nk] at h1; cases h1
    cases b <;> simp only [nk] at h2 <;> first | (cases h2; rfl) | (cases h2; done) | skip
    split at h2 <;> cases h2
  | .tup ds, b, k, h1, h2 => by
    simp only [nk] at h1
    split at h1
    · rename_i l q
      cases h1
      cases b <;> simp only [nk] at h2 <;> try (cases h2; done)
      split at h2
      · rename_i l' q'
        cases h2
        rw [nks_inj q q']
      · cases h2
    · cases h1
  | .bl _, _, _, h1, _ => by simp [nk] at h1
  | .lst _, _, _, h1, _ => by simp [nk] at h1
  | .loc _, _, _, h1, _ => by simp [nk] at h1
  | .scr _, _, _, h1, _ => by simp [nk] at h1
  | .dct _ _, _, _, h1, _ => by simp [nk] at h1
  | .ins _ _ _, _, _, h1, _ => by simp [nk] at h1
  | .clo _ _, _, _, h1, _ => by simp [nk] at h1
theorem nks_inj : ∀ {a b : List D} {k : List NestedKey}, nks a = some k → nks b = some k → a = b
  | [], [], _, _, _ => rfl
  | [], d :: ds, k, h1, h2 => by
    simp only [nks] at h1; cases h1
    simp only [nks] at h2
    split at h2 <;> cases h2
  | d :: ds, [], k, h1, h2 => by
    simp only [nks] at h2; cases h2
    simp only [nks] at h1
    split at h1 <;> cases h1
  | d :: ds, e :: es, k, h1, h2 => by
    simp only [nks] at h1 h2
    split at h1
    · rename_i x l q1 q2
      cases h1
      split at h2
      · rename_i x' l' q1' q2'
        cases h2
        rw [nk_inj q1 q1', nks_inj q2 q2']
      · cases h2
    · cases h1
end
theorem keyT_nk {d : D} (h : keyT d = true) : ∃ ds k, d = .tup ds ∧ nk d = some k ∧ k.depth ≤ 8 := by
  cases d <;> simp only [keyT] at h <;> try (cases h; done)
  split at h
  · rename_i l q
    exact ⟨_, .tup l, rfl, by simp only [nk, q], of_decide_eq_true h⟩
  · cases h
theorem keyD_inj {a b : Key} (h : keyD a = keyD b) : a = b := by
  cases a <;> cases b <;> simp only [keyD] at h <;> cases h <;> rfl
theorem keyD_B (k : Key) : keyB (keyD k) = true := by cases k <;> rfl
theorem keyD_T (k : Key) : keyT (keyD k) = false := by cases k <;> rfl
theorem keyB_of {d : D} (h : keyB d = true) : ∃ k, d = keyD k := by
  cases d <;> simp only [keyB] at h <;> try (cases h; done)
  · exact ⟨.inl _, rfl⟩
  · exact ⟨.inr _, rfl⟩
open Classical in
theorem dget_nil {k : D} : dget [] k = none := rfl
open Classical in
theorem dget_cons {p : D × D} {r : List (D × D)} {k : D} : dget (p :: r) k = if p.1 = k then some p.2 else dget r k := by
  unfold dget
  rw [List.find?_cons]
  by_cases h : p.1 = k <;> simp [h]
open Classical in
theorem dget_some_any {kvs : List (D × D)} {k : D} : (kvs.any fun p => decide (p.1 = k)) = (dget kvs k).isSome := by
  induction kvs with
  | nil => rfl
  | cons p r ih =>
    rw [List.any_cons, dget_cons, ih]
    by_cases h : p.1 = k <;> simp [h]
section
variable {K : Fg} {R : Ap} {n : Nat} {μ : Nat → Addr} {H H' : Hp} {h : LH} {P : Program} {w : World}
theorem rep_int {i : Int} {v : V} : Rep K R n μ H (.int i) v ↔ v = .int i := by simp only [Rep]
theorem rep_strV {i : Str} {v : V} : Rep K R n μ H (.str i) v ↔ v = .str i := by simp only [Rep]
theorem rep_keyD {k : Key} {v : V} (r : Rep K R n μ H (keyD k) v) : v = kV k := by
  cases k with
  | inl i => exact rep_int.mp r
  | inr x => exact rep_strV.mp r
theorem repv_keyD (k : Key) : Rep K R n μ H (keyD k) (kV k) := by
  cases k with
  | inl i => exact rep_int.mpr rfl
  | inr x => exact rep_strV.mpr rfl
mutual
theorem nested_of {hp : Heap} (X : K.In hp) (ok : HOk P w H hp) : ∀ (d : D) (k : NestedKey) (v : V) (u : Value), nk d = some k → Rep K R n μ H d v → RelV v u → NestedIs hp k u
  | .non, k, v, u, e, r, rv => by
    simp only [nk] at e; cases e
    simp only [Rep] at r; subst r
    cases (show u = Value.none from rv)
    exact .none
  | .int i, k, v, u, e, r, rv => by
    simp only [nk] at e; cases e
    simp only [Rep] at r; subst r
    obtain ⟨t, rfl⟩ := rv
    exact .int _ _
  | .str x, k, v, u, e, r, rv => by
    simp only [nk] at e; cases e
    simp only [Rep] at r; subst r
    obtain ⟨t, rfl⟩ := rv
    exact .text _ _
  | .tup ds, k, v, u, e, r, rv => by
    simp only [nk] at e
    split at e
    · rename_i l q
      cases e
      simp only [Rep] at r
      obtain ⟨a, xs, rfl, sq, r⟩ := r
      cases (show u = Value.ref a from rv)
      rcases sq with sq | ⟨o, its, m, q1, q2, q3, _, rl⟩
      · obtain ⟨_, its, rl, o, q1, q2, m, q3⟩ := sq.ok ok
        exact .tup q1 q2 q3 (nested_all X ok ds l xs its q r rl)
      · exact .tup (X _ _ q1) q2 q3 (nested_all X ok ds l xs its.toList q r rl)
    · cases e
  | .bl _, _, _, _, e, _, _ => by simp [nk] at e
  | .lst _, _, _, _, e, _, _ => by simp [nk] at e
  | .loc _, _, _, _, e, _, _ => by simp [nk] at e
  | .scr _, _, _, _, e, _, _ => by simp [nk] at e
  | .dct _ _, _, _, _, e, _, _ => by simp [nk] at e
  | .ins _ _ _, _, _, _, e, _, _ => by simp [nk] at e
  | .clo _ _, _, _, _, e, _, _ => by simp [nk] at e
theorem nested_all {hp : Heap} (X : K.In hp) (ok : HOk P w H hp) : ∀ (ds : List D) (ks : List NestedKey) (vs : List V) (us : List Value), nks ds = some ks → Reps K R n μ H ds vs → Vals vs us → NestedAll hp ks us
  | [], ks, vs, us, e, r, rv => by
    simp only [nks] at e; cases e
    simp only [Reps] at r; subst r
    cases rv
    exact .nil
  | d :: ds, ks, vs, us, e, r, rv => by
    simp only [nks] at e
    split at e
    · rename_i x l q1 q2
      cases e
      simp only [Reps] at r
      obtain ⟨v, ws, rfl, r1, r2⟩ := r
      cases rv with
      | cons a b => exact .cons (nested_of X ok d x v _ q1 r1 a) (nested_all X ok ds l ws _ q2 r2 b)
    · cases e
end
def DV (K : Fg) (R : Ap) (n : Nat) (μ : Nat → Addr) (H : Hp) (a : Addr) (kvs : List (D × D)) : Prop := ∃ kws ws, DRaw H a (kvs.map (·.1)) kws ws ∧ Reps K R n μ H (kvs.map (·.1)) kws ∧ Reps K R n μ H (kvs.map (·.2)) ws
theorem reps_len : ∀ {ds : List D} {vs : List V}, Reps K R n μ H ds vs → ds.length = vs.length := Reps.length
theorem asD_of {d : D} {kvs : List (D × D)} {v : V} (S : SimH K R μ H h) (r : Rep K R h.length μ H d v) (e : asD h d = some kvs) : ∃ a, v = .ref a ∧ DV K R h.length μ H a kvs := by
  cases d with
  | dct ks vs =>
    simp only [asD] at e; cases e
    simp only [Rep] at r
    obtain ⟨a, kws, ws, rfl, d, _, r1, r2⟩ := r
    have l1 := r1.length
    have l2 := r2.length
    have l3 : kws.length = ws.length := by
      rcases d with ⟨x, _, _, e1, e2⟩ | ⟨x, _, _, _, e1, e2⟩ <;> rw [e1, e2] <;> simp
    have e1 : (ks.zip vs).map (·.1) = ks := List.map_fst_zip (by omega)
    have e2 : (ks.zip vs).map (·.2) = vs := List.map_snd_zip (by omega)
    exact ⟨a, rfl, kws, ws, by rw [e1]; exact d, by rw [e1]; exact r1, by rw [e2]; exact r2⟩
  | loc l =>
    simp only [Rep] at r
    obtain ⟨hl, rfl⟩ := r
    simp only [asD] at e
    split at e
    · rename_i q
      cases e
      exact ⟨_, rfl, S.obj l _ q⟩
    · cases e
  | _ => simp [asD] at e
theorem dv_B {a : Addr} {kvs : List (D × D)} (dv : DV K R n μ H a kvs) (hb : (kvs.all fun p => keyB p.1) = true) : ∃ kk : List (Key × V), H a = some (.dK kk) ∧ kvs.map (·.1) = kk.map (fun p => keyD p.1) ∧ Reps K R n μ H (kvs.map (·.2)) (kk.map (·.2)) := by
  obtain ⟨kws, ws, d, r1, r2⟩ := dv
  rcases d with ⟨kk, e, e1, e2, e3⟩ | ⟨xs, hne, e, e1, e2, e3⟩
  · exact ⟨kk, e, e1, by rw [← e3]; exact r2⟩
  · exfalso
    cases xs with
    | nil => exact hne rfl
    | cons x xs =>
      cases kvs with
      | nil => simp at e1
      | cons p kvs =>
        simp only [List.all_cons, Bool.and_eq_true] at hb
        obtain ⟨k, hk⟩ := keyB_of hb.1
        subst e2
        simp only [List.map_cons, Reps, List.cons.injEq] at r1
        obtain ⟨v, vs, ⟨e5, _⟩, r, _⟩ := r1
        rw [hk] at r
        have := rep_keyD r
        rw [← e5] at this
        cases k <;> cases this
theorem dv_T {a : Addr} {kvs : List (D × D)} (dv : DV K R n μ H a kvs) (hb : (kvs.all fun p => keyT p.1) = true) : ∃ xs : List (NestedKey × Addr × V), (H a = some (DxO a xs) ∨ (xs = [] ∧ H a = some (.dK []))) ∧ (kvs.map (·.1)).map nk = xs.map (fun x => some x.1) ∧ Reps K R n μ H (kvs.map (·.1)) (xs.map fun x => .ref x.2.1) ∧ Reps K R n μ H (kvs.map (·.2)) (xs.map (·.2.2)) := by
  obtain ⟨kws, ws, d, r1, r2⟩ := dv
  rcases d with ⟨kk, e, e1, e2, e3⟩ | ⟨xs, hne, e, e1, e2, e3⟩
  · cases kvs with
    | nil =>
      cases kk with
      | nil => exact ⟨[], .inr ⟨rfl, e⟩, rfl, by simp [Reps], by simp [Reps]⟩
      | cons _ _ => simp at e1
    | cons p kvs =>
      exfalso
      cases kk with
      | nil => simp at e1
      | cons q kk =>
        simp only [List.map_cons, List.cons.injEq] at e1
        simp only [List.all_cons, Bool.and_eq_true] at hb
        rw [e1.1, keyD_T] at hb
        cases hb.1
  · exact ⟨xs, .inl e, e1, by rw [← e2]; exact r1, by rw [← e3]; exact r2⟩
theorem empty_heap {a : Addr} {P : Program} {w : World} {hp : Heap} {knd : HeapKind P w NestedKey} (h : hp.DictOf (mixKind P w) a []) : hp.DictOfH knd a [] := by
  obtain ⟨o, es, ep, h1, h2, h3, _, h5, _⟩ := h
  have : es.toList = [] := by
    generalize es.toList = l at h5
    cases h5
    rfl
  exact ⟨o, es, ep, h1, h2, h3, this, (fun _ hx => nomatch hx), List.nodup_nil⟩
/-- the keys as the model's dict has them -/
abbrev PX : (NestedKey × Addr × V) → (NestedKey × Addr × Value) → Prop := fun p q => p.1 = q.1 ∧ p.2.1 = q.2.1 ∧ RelV p.2.2 q.2.2
theorem is_all {hp : Heap} (X : K.In hp) (ok : HOk P w H hp) : ∀ {kvs : List (D × D)} {xs : List (NestedKey × Addr × V)} {ys : List (NestedKey × Addr × Value)}, (kvs.all fun p => keyT p.1) = true → (kvs.map (·.1)).map nk = xs.map (fun x => some x.1) → Reps K R n μ H (kvs.map (·.1)) (xs.map fun x => .ref x.2.1) → Paired PX xs ys → ∀ y ∈ ys, (nestedKind P w).is hp y.1 y.2.1
  | _, [], _, _, _, _, .nil => fun y hy => nomatch hy
  | [], x :: xs, _, _, e, _, _ => by simp at e
  | p :: kvs, x :: xs, _, ha, e, r, .cons (b := y0) q t => fun y hy => by
    simp only [List.all_cons, Bool.and_eq_true] at ha
    simp only [List.map_cons, List.cons.injEq] at e
    simp only [List.map_cons, Reps, List.cons.injEq] at r
    obtain ⟨v, vs, ⟨rfl, rfl⟩, r1, r2⟩ := r
    rcases List.mem_cons.mp hy with rfl | hy
    · obtain ⟨ds, k, _, hk, hd⟩ := keyT_nk ha.1
      have e1 : some k = some x.1 := hk.symm.trans e.1
      cases e1
      obtain ⟨q1, q2, _⟩ := q
      refine ⟨?_, by rw [← q1]; exact hd⟩
      rw [← q1]
      exact nested_of X ok p.1 x.1 _ _ e.1 r1 (by rw [← q2]; rfl)
    · exact is_all X ok ha.2 e.2 r2 t y hy
theorem dx_heap {hp : Heap} {a : Addr} {kvs : List (D × D)} {xs : List (NestedKey × Addr × V)} (X : K.In hp) (ok : HOk P w H hp) (hw : Tabs.w = w) (e : H a = some (DxO a xs) ∨ (xs = [] ∧ H a = some (.dK []))) (ha : (kvs.all fun p => keyT p.1) = true) (e1 : (kvs.map (·.1)).map nk = xs.map (fun x => some x.1))
    (r : Reps K R n μ H (kvs.map (·.1)) (xs.map fun x => .ref x.2.1)) : (a == sysModules) = false ∧ xs.length ≤ sizeLine ∧ ∃ ys, Paired PX xs ys ∧ hp.DictOfH (nestedKind P w) a ys := by
  rcases e with e | ⟨rfl, e⟩
  · obtain ⟨⟨hd, hl, ys, pr, o, es, ep, h1, h2, h3, h4, h5⟩, _, _⟩ := ok a _ e
    refine ⟨hd, hl, ys, pr, o, es, ep, h1, h2, h3, ?_, is_all X ok ha e1 r pr, h5⟩
    rw [h4, hw]
    rfl
  · obtain ⟨_, hd, vs, rel, dd⟩ := dk_of ok e
    cases rel
    exact ⟨hd, Nat.zero_le _, [], .nil, empty_heap dd⟩
open Classical in
theorem valV_dget {k : Key} : ∀ {kvs : List (D × D)} {kk : List (Key × V)}, kvs.map (·.1) = kk.map (fun p => keyD p.1) → Reps K R n μ H (kvs.map (·.2)) (kk.map (·.2)) → (dget kvs (keyD k) = none ∧ valV kk k = none) ∨ ∃ d v, dget kvs (keyD k) = some d ∧ valV kk k = some v ∧ Rep K R n μ H d v
  | [], [], _, _ => .inl ⟨rfl, rfl⟩
  | [], _ :: _, e, _ => by simp at e
  | _ :: _, [], e, _ => by simp at e
  | p :: kvs, q :: kk, e, r => by
    simp only [List.map_cons, List.cons.injEq] at e
    simp only [List.map_cons, Reps, List.cons.injEq] at r
    obtain ⟨v, vs, ⟨rfl, rfl⟩, r1, r2⟩ := r
    rw [dget_cons]
    by_cases h : q.1 = k
    · rw [if_pos (by rw [e.1, h]), valV_pos h]
      exact .inr ⟨_, _, rfl, rfl, r1⟩
    · rw [if_neg (by rw [e.1]; exact fun z => h (keyD_inj z)), valV_neg h]
      exact valV_dget e.2 r2
open Classical in
theorem atKey_dget {k : D} {kk : NestedKey} (hk : nk k = some kk) : ∀ {kvs : List (D × D)} {xs : List (NestedKey × Addr × V)} {ys : List (NestedKey × Addr × Value)}, (kvs.map (·.1)).map nk = xs.map (fun x => some x.1) → Reps K R n μ H (kvs.map (·.2)) (xs.map (·.2.2)) → Paired PX xs ys → (dget kvs k = none ∧ atKey ys kk = none) ∨ ∃ d v b u, dget kvs k = some d ∧ atKey ys kk = some (b, u) ∧ Rep K R n μ H d v ∧ RelV v u
  | [], [], _, _, _, .nil => .inl ⟨rfl, rfl⟩
  | [], _ :: _, _, e, _, _ => by simp at e
  | _ :: _, [], _, e, _, _ => by simp at e
  | p :: kvs, x :: xs, _, e, r, .cons (b := y) (l₂ := zs) q t => by
    simp only [List.map_cons, List.cons.injEq] at e
    simp only [List.map_cons, Reps, List.cons.injEq] at r
    obtain ⟨v, vs, ⟨rfl, rfl⟩, r1, r2⟩ := r
    obtain ⟨q1, q2, q3⟩ := q
    rw [dget_cons]
    by_cases h : y.1 = kk
    · have hp : p.1 = k := nk_inj (e.1.trans (by rw [q1, h])) hk
      rw [if_pos hp]
      refine .inr ⟨_, _, y.2.1, y.2.2, rfl, ?_, r1, q3⟩
      simp [atKey, List.find?_cons, h]
    · have hp : ¬ p.1 = k := fun z => by
        rw [z] at e
        have := hk.symm.trans e.1
        rw [q1] at this
        exact h (Option.some.inj this).symm
      rw [if_neg hp]
      have ih := atKey_dget hk e.2 r2 t
      have e3 : atKey (y :: zs) kk = atKey zs kk := by simp only [atKey, List.find?_cons, h, decide_false]
      rw [e3]
      exact ih
open Classical in
theorem putK_dput {k : Key} {d : D} {v : V} (rv : Rep K R n μ H d v) : ∀ {kvs : List (D × D)} {kk : List (Key × V)}, kvs.map (·.1) = kk.map (fun p => keyD p.1) → Reps K R n μ H (kvs.map (·.2)) (kk.map (·.2)) → (dput kvs (keyD k) d).map (·.1) = (putK kk k v).map (fun p => keyD p.1) ∧ Reps K R n μ H ((dput kvs (keyD k) d).map (·.2)) ((putK kk k v).map (·.2)) := by
  intro kvs kk e r
  have any : (kvs.any fun p => decide (p.1 = keyD k)) = kk.any fun p => decide (p.1 = k) := by
    rw [dget_some_any, valV_any]
    rcases valV_dget (k := k) e r with ⟨e1, e2⟩ | ⟨_, _, e1, e2, _⟩ <;> rw [e1, e2] <;> rfl
  have upd1 : ∀ {kvs : List (D × D)} {kk : List (Key × V)}, kvs.map (·.1) = kk.map (fun p => keyD p.1) → Reps K R n μ H (kvs.map (·.2)) (kk.map (·.2)) → (kvs.map fun p => if p.1 = keyD k then (p.1, d) else p).map (·.1) = (kk.map fun p => if p.1 = k then (p.1, v) else p).map (fun p => keyD p.1) ∧ Reps K R n μ H ((kvs.map fun p => if p.1 = keyD k then (p.1, d) else p).map (·.2)) ((kk.map fun p => if p.1 = k then (p.1, v) else p).map (·.2)) := by
    intro kvs
    induction kvs with
    | nil => intro kk e r; cases kk with
      | nil => exact ⟨rfl, by simp [Reps]⟩
      | cons _ _ => simp at e
    | cons p kvs ih =>
      intro kk e r
      cases kk with
      | nil => simp at e
      | cons q kk =>
        simp only [List.map_cons, List.cons.injEq] at e
        simp only [List.map_cons, Reps, List.cons.injEq] at r
        obtain ⟨v', vs, ⟨rfl, rfl⟩, r1, r2⟩ := r
        obtain ⟨i1, i2⟩ := ih e.2 r2
        simp only [List.map_cons, Reps, List.cons.injEq]
        by_cases h : q.1 = k
        · have hp : p.1 = keyD k := by rw [e.1, h]
          rw [if_pos h, if_pos hp]
          exact ⟨⟨by rw [hp, h], i1⟩, _, _, ⟨rfl, rfl⟩, rv, i2⟩
        · have hp : ¬ p.1 = keyD k := by rw [e.1]; exact fun z => h (keyD_inj z)
          rw [if_neg h, if_neg hp]
          exact ⟨⟨e.1, i1⟩, _, _, ⟨rfl, rfl⟩, r1, i2⟩
  unfold dput putK
  rw [any]
  by_cases h : (kk.any fun p => decide (p.1 = k)) = true
  · rw [if_pos h, if_pos h]
    exact upd1 e r
  · rw [if_neg h, if_neg h]
    simp only [List.map_append, List.map_cons, List.map_nil]
    refine ⟨by rw [e], r.append ?_⟩
    simp only [Reps]
    exact ⟨_, _, rfl, rv, rfl⟩
open Classical in
theorem dropK_ddel {k : Key} : ∀ {kvs : List (D × D)} {kk : List (Key × V)}, kvs.map (·.1) = kk.map (fun p => keyD p.1) → Reps K R n μ H (kvs.map (·.2)) (kk.map (·.2)) → (ddel kvs (keyD k)).map (·.1) = (dropK kk k).map (fun p => keyD p.1) ∧ Reps K R n μ H ((ddel kvs (keyD k)).map (·.2)) ((dropK kk k).map (·.2))
  | [], [], _, _ => ⟨rfl, by simp [ddel, dropK, Reps]⟩
  | [], _ :: _, e, _ => by simp at e
  | _ :: _, [], e, _ => by simp at e
  | p :: kvs, q :: kk, e, r => by
    simp only [List.map_cons, List.cons.injEq] at e
    simp only [List.map_cons, Reps, List.cons.injEq] at r
    obtain ⟨v, vs, ⟨rfl, rfl⟩, r1, r2⟩ := r
    obtain ⟨i1, i2⟩ := dropK_ddel (k := k) e.2 r2
    unfold ddel dropK at i1 i2 ⊢
    by_cases h : q.1 = k
    · rw [List.filter_cons_of_neg (by rw [e.1, h]; simp), List.filter_cons_of_neg (by simp [h])]
      exact ⟨i1, i2⟩
    · rw [List.filter_cons_of_pos (by rw [e.1]; simpa using fun z => h (keyD_inj z)), List.filter_cons_of_pos (by simpa using h)]
      simp only [List.map_cons, Reps, List.cons.injEq]
      exact ⟨⟨e.1, i1⟩, _, _, ⟨rfl, rfl⟩, r1, i2⟩
theorem reps_keys : ∀ l : List (Key × V), Reps K R n μ H (l.map fun p => keyD p.1) (l.map fun p => kV p.1)
  | [] => by simp [Reps]
  | q :: l => by
    simp only [List.map_cons, Reps]
    exact ⟨_, _, rfl, repv_keyD _, reps_keys l⟩
def putN (xs : List (NestedKey × Addr × V)) (k : NestedKey) (b : Addr) (v : V) : List (NestedKey × Addr × V) := if (xs.any fun x => decide (x.1 = k)) = true then xs.map fun x => if x.1 = k then (x.1, x.2.1, v) else x else xs ++ [(k, b, v)]
theorem any_atKey (k : NestedKey) : ∀ {xs : List (NestedKey × Addr × V)} {ys : List (NestedKey × Addr × Value)}, Paired PX xs ys → (xs.any fun x => decide (x.1 = k)) = (atKey ys k).isSome
  | _, _, .nil => rfl
  | _, _, .cons (a := x) (b := y) q t => by
    rw [List.any_cons, any_atKey k t, q.1]
    by_cases h : y.1 = k <;> simp [atKey, List.find?_cons, h]
theorem putN_pair {k : NestedKey} {b : Addr} {v : V} {u : Value} (rv : RelV v u) : ∀ {xs : List (NestedKey × Addr × V)} {ys : List (NestedKey × Addr × Value)}, Paired PX xs ys → Paired PX (putN xs k b v) (storedH ys k b u) := by
  intro xs ys t
  have upd1 : ∀ {xs : List (NestedKey × Addr × V)} {ys : List (NestedKey × Addr × Value)}, Paired PX xs ys → Paired PX (xs.map fun x => if x.1 = k then (x.1, x.2.1, v) else x) (ys.map (putAt k u)) := by
    intro xs ys t
    induction t with
    | nil => exact .nil
    | @cons x y xs ys q t ih =>
      simp only [List.map_cons]
      refine .cons ?_ ih
      by_cases h : y.1 = k
      · rw [if_pos (q.1.trans h), putAt, if_pos h]
        exact ⟨q.1, q.2.1, rv⟩
      · rw [if_neg (fun z => h (q.1.symm.trans z)), putAt, if_neg h]
        exact q
  unfold putN storedH
  rw [any_atKey k t]
  by_cases h : (atKey ys k).isSome = true
  · rw [if_pos h, if_pos h]
    exact upd1 t
  · rw [if_neg h, if_neg h]
    have app : ∀ {xs : List (NestedKey × Addr × V)} {ys : List (NestedKey × Addr × Value)}, Paired PX xs ys → Paired PX (xs ++ [(k, b, v)]) (ys ++ [(k, b, u)]) := by
      intro xs ys t
      induction t with
      | nil => exact .cons ⟨rfl, rfl, rv⟩ .nil
      | cons q _ ih => exact .cons q ih
    exact app t
open Classical in
theorem putN_dput {k : D} {kk : NestedKey} {b : Addr} {d : D} {v : V} (hk : nk k = some kk) (rk : Rep K R n μ H k (.ref b)) (rv : Rep K R n μ H d v) : ∀ {kvs : List (D × D)} {xs : List (NestedKey × Addr × V)}, (kvs.map (·.1)).map nk = xs.map (fun x => some x.1) → Reps K R n μ H (kvs.map (·.1)) (xs.map fun x => .ref x.2.1) → Reps K R n μ H (kvs.map (·.2)) (xs.map (·.2.2)) →
    ((dput kvs k d).map (·.1)).map nk = (putN xs kk b v).map (fun x => some x.1) ∧ Reps K R n μ H ((dput kvs k d).map (·.1)) ((putN xs kk b v).map fun x => .ref x.2.1) ∧ Reps K R n μ H ((dput kvs k d).map (·.2)) ((putN xs kk b v).map (·.2.2)) := by
  have same : ∀ {p : D × D} {x : NestedKey × Addr × V}, nk p.1 = some x.1 → (p.1 = k ↔ x.1 = kk) := fun {p x} e => ⟨fun z => by rw [z, hk] at e; exact (Option.some.inj e).symm, fun z => nk_inj (e.trans (by rw [z])) hk⟩
  have any : ∀ {kvs : List (D × D)} {xs : List (NestedKey × Addr × V)}, (kvs.map (·.1)).map nk = xs.map (fun x => some x.1) → (kvs.any fun p => decide (p.1 = k)) = xs.any fun x => decide (x.1 = kk) := by
    intro kvs
    induction kvs with
    | nil => intro xs e; cases xs with
      | nil => rfl
      | cons _ _ => simp at e
    | cons p kvs ih =>
      intro xs e
      cases xs with
      | nil => simp at e
      | cons x xs =>
        simp only [List.map_cons, List.cons.injEq] at e
        rw [List.any_cons, List.any_cons, ih e.2, decide_eq_decide.mpr (same e.1)]
  have upd1 : ∀ {kvs : List (D × D)} {xs : List (NestedKey × Addr × V)}, (kvs.map (·.1)).map nk = xs.map (fun x => some x.1) → Reps K R n μ H (kvs.map (·.1)) (xs.map fun x => .ref x.2.1) → Reps K R n μ H (kvs.map (·.2)) (xs.map (·.2.2)) →
      ((kvs.map fun p => if p.1 = k then (p.1, d) else p).map (·.1)).map nk = (xs.map fun x => if x.1 = kk then (x.1, x.2.1, v) else x).map (fun x => some x.1) ∧ Reps K R n μ H ((kvs.map fun p => if p.1 = k then (p.1, d) else p).map (·.1)) ((xs.map fun x => if x.1 = kk then (x.1, x.2.1, v) else x).map fun x => .ref x.2.1) ∧
        Reps K R n μ H ((kvs.map fun p => if p.1 = k then (p.1, d) else p).map (·.2)) ((xs.map fun x => if x.1 = kk then (x.1, x.2.1, v) else x).map (·.2.2)) := by
    intro kvs
    induction kvs with
    | nil => intro xs e r r'; cases xs with
      | nil => exact ⟨rfl, by simp [Reps], by simp [Reps]⟩
      | cons _ _ => simp at e
    | cons p kvs ih =>
      intro xs e r r'
      cases xs with
      | nil => simp at e
      | cons x xs =>
        simp only [List.map_cons, List.cons.injEq] at e
        simp only [List.map_cons, Reps, List.cons.injEq] at r r'
        obtain ⟨v1, vs1, ⟨rfl, rfl⟩, r1, r2⟩ := r
        obtain ⟨v2, vs2, ⟨rfl, rfl⟩, r3, r4⟩ := r'
        obtain ⟨i1, i2, i3⟩ := ih e.2 r2 r4
        simp only [List.map_cons, Reps, List.cons.injEq]
        by_cases h : x.1 = kk
        · rw [if_pos h, if_pos ((same e.1).mpr h)]
          exact ⟨⟨e.1, i1⟩, ⟨_, _, ⟨rfl, rfl⟩, r1, i2⟩, _, _, ⟨rfl, rfl⟩, rv, i3⟩
        · rw [if_neg h, if_neg (fun z => h ((same e.1).mp z))]
          exact ⟨⟨e.1, i1⟩, ⟨_, _, ⟨rfl, rfl⟩, r1, i2⟩, _, _, ⟨rfl, rfl⟩, r3, i3⟩
  intro kvs xs e r r'
  unfold dput putN
  rw [any e]
  by_cases h : (xs.any fun x => decide (x.1 = kk)) = true
  · rw [if_pos h, if_pos h]
    exact upd1 e r r'
  · rw [if_neg h, if_neg h]
    simp only [List.map_append, List.map_cons, List.map_nil]
    refine ⟨by rw [e, hk], r.append ?_, r'.append ?_⟩
    · simp only [Reps]
      exact ⟨_, _, rfl, rk, rfl⟩
    · simp only [Reps]
      exact ⟨_, _, rfl, rv, rfl⟩
end
section
variable {X : Cx} {pins : List (Addr × Obj)} {σ : L2.St} {H : Hp} {s : Shared} {a : Addr} {y : V} {u : Value} {A : Around} {E : Value → Shared → Prop} {R : Ap} {n : Nat} {μ : Nat → Addr} {kvs : List (D × D)} {k : D}
theorem kOk_cases (h : kOk kvs k = true) : (keyB k = true ∧ (kvs.all fun p => keyB p.1) = true) ∨ (keyT k = true ∧ (kvs.all fun p => keyT p.1) = true) := by
  unfold kOk at h
  rw [Bool.or_eq_true, Bool.and_eq_true, Bool.and_eq_true] at h
  exact h
theorem rep_tupT {K : Fg} {y : V} (hk : keyT k = true) (rk : Rep K R n μ H k y) : ∃ b kk, y = .ref b ∧ nk k = some kk ∧ kk.depth ≤ 8 := by
  obtain ⟨ds, kk, rfl, e, hd⟩ := keyT_nk hk
  simp only [Rep] at rk
  obtain ⟨b, _, rfl, _⟩ := rk
  exact ⟨b, kk, rfl, e, hd⟩
theorem dv_getItem {d : D} {Q : Value → Shared → Prop} (hw : Tabs.w = X.w) (hu : A.units + 9 < cLine) (I : L2.Inv X pins σ H s) (dv : DV X.K R n μ H a kvs) (ko : kOk kvs k = true) (rk : Rep X.K R n μ H k y) (ry : L2.RelV y u) (e : dget kvs k = some d)
    (h : ∀ v w' s', Rep X.K R n μ H d v → L2.RelV v w' → L2.Inv X pins σ H s' → Q w' s') : wpAny (model X.prog X.w) A (getItem (.ref a) u) Q E s := by
  rcases kOk_cases ko with ⟨hk, ha⟩ | ⟨hk, ha⟩
  · obtain ⟨kk, hH, e1, r⟩ := dv_B dv ha
    obtain ⟨k, rfl⟩ := keyB_of hk
    cases rep_keyD rk
    rcases valV_dget (k := k) e1 r with ⟨z, _⟩ | ⟨d', v, e2, e3, rv⟩
    · rw [e] at z; cases z
    · rw [e] at e2; cases e2
      exact d_getItem (by omega) I (.inl ⟨kk, k, .inl hH, rfl, e3.symm⟩) ry fun w' s' I' rw' => h v w' s' rv rw' I'
  · obtain ⟨b, kk, rfl, hnk, hd⟩ := rep_tupT hk rk
    cases (show u = Value.ref b from ry)
    obtain ⟨xs, hH, e1, r1, r2⟩ := dv_T dv ha
    obtain ⟨hs, hl, ys, pr, dd⟩ := dx_heap I.kIn I.hok hw hH ha e1 r1
    rcases atKey_dget hnk e1 r2 pr with ⟨z, _⟩ | ⟨d', v, b', u', e2, e3, rv, ru⟩
    · rw [e] at z; cases z
    · rw [e] at e2; cases e2
      refine wpAny_getItem_heap (knd := nestedKind X.prog X.w) (k := kk) (by show A.units + 1 + 8 < cLine; omega) ⟨nested_of I.kIn I.hok _ _ _ _ hnk rk rfl, hd⟩ dd e3 ?_
      exact h v _ _ rv ru (I.tok _)
theorem dv_in {Q : Value → Shared → Prop} (hw : Tabs.w = X.w) (hu : A.units + 9 < cLine) (I : L2.Inv X pins σ H s) (dv : DV X.K R n μ H a kvs) (ko : kOk kvs k = true) (rk : Rep X.K R n μ H k y) (ry : L2.RelV y u)
    (h : ∀ s', L2.Inv X pins σ H s' → Q (.bool (dget kvs k).isSome) s') : wpAny (model X.prog X.w) A (compareOp .In u (.ref a)) Q E s := by
  rcases kOk_cases ko with ⟨hk, ha⟩ | ⟨hk, ha⟩
  · obtain ⟨kk, hH, e1, r⟩ := dv_B dv ha
    obtain ⟨k, rfl⟩ := keyB_of hk
    cases rep_keyD rk
    refine d_in (o := valV kk k) (by omega) I (.inl ⟨kk, k, .inl hH, rfl, rfl⟩) ry fun s' I' => ?_
    have := h s' I'
    rcases valV_dget (k := k) e1 r with ⟨z1, z2⟩ | ⟨d', v, z1, z2, rv⟩
    · rw [z1] at this; rw [z2]; exact this
    · rw [z1] at this; rw [z2]; exact this
  · obtain ⟨b, kk, rfl, hnk, hd⟩ := rep_tupT hk rk
    cases (show u = Value.ref b from ry)
    obtain ⟨xs, hH, e1, r1, r2⟩ := dv_T dv ha
    obtain ⟨hs, hl, ys, pr, dd⟩ := dx_heap I.kIn I.hok hw hH ha e1 r1
    refine wpAny_in_heap (knd := nestedKind X.prog X.w) (k := kk) (by show A.units + 1 + 8 < cLine; omega) ⟨nested_of I.kIn I.hok _ _ _ _ hnk rk rfl, hd⟩ hs dd ?_
    have := h _ (I.tok (s.toks + (nestedKind X.prog X.w).draws kk))
    rcases atKey_dget hnk e1 r2 pr with ⟨z1, z2⟩ | ⟨d', v, b', u', z1, z2, rv, ru⟩
    · rw [z1] at this; rw [z2]; exact this
    · rw [z1] at this; rw [z2]; exact this
theorem dv_notIn {Q : Value → Shared → Prop} (hw : Tabs.w = X.w) (hu : A.units + 9 < cLine) (I : L2.Inv X pins σ H s) (dv : DV X.K R n μ H a kvs) (ko : kOk kvs k = true) (rk : Rep X.K R n μ H k y) (ry : L2.RelV y u)
    (h : ∀ s', L2.Inv X pins σ H s' → Q (.bool (!(dget kvs k).isSome)) s') : wpAny (model X.prog X.w) A (compareOp .NotIn u (.ref a)) Q E s := by
  rcases kOk_cases ko with ⟨hk, ha⟩ | ⟨hk, ha⟩
  · obtain ⟨kk, hH, e1, r⟩ := dv_B dv ha
    obtain ⟨k, rfl⟩ := keyB_of hk
    cases rep_keyD rk
    refine d_notIn (o := valV kk k) (by omega) I (.inl ⟨kk, k, .inl hH, rfl, rfl⟩) ry fun s' I' => ?_
    have := h s' I'
    rcases valV_dget (k := k) e1 r with ⟨z1, z2⟩ | ⟨d', v, z1, z2, rv⟩
    · rw [z1] at this; rw [z2]; exact this
    · rw [z1] at this; rw [z2]; exact this
  · obtain ⟨b, kk, rfl, hnk, hd⟩ := rep_tupT hk rk
    cases (show u = Value.ref b from ry)
    obtain ⟨xs, hH, e1, r1, r2⟩ := dv_T dv ha
    obtain ⟨hs, hl, ys, pr, dd⟩ := dx_heap I.kIn I.hok hw hH ha e1 r1
    refine PyProof.Rows.wpAny_notIn_heap (knd := nestedKind X.prog X.w) (k := kk) (by show A.units + 1 + 8 < cLine; omega) ⟨nested_of I.kIn I.hok _ _ _ _ hnk rk rfl, hd⟩ hs dd ?_
    have := h _ (I.tok (s.toks + (nestedKind X.prog X.w).draws kk))
    rcases atKey_dget hnk e1 r2 pr with ⟨z1, z2⟩ | ⟨d', v, b', u', z1, z2, rv, ru⟩
    · rw [z1] at this; rw [z2]; exact this
    · rw [z1] at this; rw [z2]; exact this
/-- d.get(k, x) -/
theorem dv_get2 {x : D} {z : V} {r : Value} {Q : Value → Shared → Prop} (hw : Tabs.w = X.w) (hu : A.units + 9 < cLine) (I : L2.Inv X pins σ H s) (dv : DV X.K R n μ H a kvs) (ko : kOk kvs k = true) (rk : Rep X.K R n μ H k y) (ry : L2.RelV y u) (rx : Rep X.K R n μ H x z) (rz : L2.RelV z r)
    (h : ∀ v w' s', Rep X.K R n μ H ((dget kvs k).getD x) v → L2.RelV v w' → L2.Inv X pins σ H s' → Q w' s') : wpAny (model X.prog X.w) A (call (.builtin "dict.get") [.ref a, u, r]) Q E s := by
  rcases kOk_cases ko with ⟨hk, ha⟩ | ⟨hk, ha⟩
  · obtain ⟨kk, hH, e1, rr⟩ := dv_B dv ha
    obtain ⟨k, rfl⟩ := keyB_of hk
    cases rep_keyD rk
    refine d_get2 (o := valV kk k) (by omega) I (.inl ⟨kk, k, .inl hH, rfl, rfl⟩) ry rz fun w' s' I' rw' => ?_
    refine h _ w' s' ?_ rw' I'
    rcases valV_dget (k := k) e1 rr with ⟨z1, z2⟩ | ⟨d', v, z1, z2, rv⟩
    · rw [z1, z2]; exact rx
    · rw [z1, z2]; exact rv
  · obtain ⟨b, kk, rfl, hnk, hd⟩ := rep_tupT hk rk
    cases (show u = Value.ref b from ry)
    obtain ⟨xs, hH, e1, r1, r2⟩ := dv_T dv ha
    obtain ⟨hs, hl, ys, pr, dd⟩ := dx_heap I.kIn I.hok hw hH ha e1 r1
    refine call_meetsIn PySem.F.slot_dict_get dd.typeIs PySem.F.entry_dict_get (PySem.F.args_dict_get_3 _ _ _) (meetsH_dict_get_default (nestedKind X.prog X.w) a b hs r) ⟨(by show A.units + 1 + 8 < cLine; omega), kk, ys, ⟨nested_of I.kIn I.hok _ _ _ _ hnk rk rfl, hd⟩, dd, ?_⟩
    rcases atKey_dget hnk e1 r2 pr with ⟨z1, z2⟩ | ⟨d', v, b', u', z1, z2, rv, ru⟩
    · rw [z2]
      refine h z r _ ?_ rz (I.tok _)
      rw [z1]; exact rx
    · rw [z2]
      refine h v u' _ ?_ ru (I.tok _)
      rw [z1]; exact rv
/-- d[k] = x -/
theorem dv_setItem {x : D} {z : V} {r : Value} {Q : Unit → Shared → Prop} (hw : Tabs.w = X.w) (hu : A.units + 9 < cLine) (I : L2.Inv X pins σ H s) (dv : DV X.K R n μ H a kvs) (hsz : kvs.length < sizeLine) (ko : kOk kvs k = true) (rk : Rep X.K R n μ H k y) (ry : L2.RelV y u) (rx : Rep X.K R n μ H x z) (rz : L2.RelV z r)
    (h : ∀ o s' kws ws, Mut (H a) → DRaw (upd H a o) a ((dput kvs k x).map (·.1)) kws ws → Reps X.K R n μ H ((dput kvs k x).map (·.1)) kws → Reps X.K R n μ H ((dput kvs k x).map (·.2)) ws → L2.Inv X pins σ (upd H a o) s' → Q () s') : wpAny (model X.prog X.w) A (setItem (.ref a) u r) Q E s := by
  rcases kOk_cases ko with ⟨hk, ha⟩ | ⟨hk, ha⟩
  · obtain ⟨kk, hH, e1, rr⟩ := dv_B dv ha
    obtain ⟨k, rfl⟩ := keyB_of hk
    cases rep_keyD rk
    have hl : kk.length = kvs.length := by have := congrArg List.length e1; simpa using this.symm
    obtain ⟨p1, p2⟩ := putK_dput (k := k) rx e1 rr
    refine d_setItem (by omega) I (.inl ⟨kk, k, hH, rfl, by omega, rfl⟩) ry rz fun s' I' => ?_
    refine h _ s' ((putK kk k z).map fun p => kV p.1) _ (by rw [hH]; exact True.intro) (.inl ⟨_, upd_same, p1, rfl, rfl⟩) ?_ p2 I'
    rw [p1]
    have all : ∀ l : List (Key × V), Reps X.K R n μ H (l.map fun p => keyD p.1) (l.map fun p => kV p.1) := by
      intro l
      induction l with
      | nil => simp [Reps]
      | cons q l ih =>
        simp only [List.map_cons, Reps]
        exact ⟨_, _, rfl, repv_keyD _, ih⟩
    exact all _
  · obtain ⟨b, kk, rfl, hnk, hd⟩ := rep_tupT hk rk
    cases (show u = Value.ref b from ry)
    obtain ⟨xs, hH, e1, r1, r2⟩ := dv_T dv ha
    obtain ⟨hs, hl, ys, pr, dd⟩ := dx_heap I.kIn I.hok hw hH ha e1 r1
    have hly : ys.length = xs.length := (Paired.length pr).symm
    have hlx : xs.length = kvs.length := by have := congrArg List.length e1; simpa using this.symm
    obtain ⟨p1, p2, p3⟩ := putN_dput (b := b) hnk rk rx e1 r1 r2
    have hmu : Mut (H a) := by
      rcases hH with z | ⟨_, z⟩ <;> rw [z] <;> exact True.intro
    refine wpAny_setItem_heap (knd := nestedKind X.prog X.w) (k := kk) (hsz := by omega) (by show A.units + 1 + 8 < cLine; omega) ⟨nested_of I.kIn I.hok _ _ _ _ hnk rk rfl, hd⟩ dd fun h' dd' hs' => ?_
    have hne : putN xs kk b z ≠ [] := by
      unfold putN
      split
      · rename_i q
        cases xs with
        | nil => simp at q
        | cons _ _ => simp
      · simp
    have hlen : (putN xs kk b z).length ≤ sizeLine := by
      unfold putN
      split
      · rw [List.length_map]; omega
      · rw [List.length_append]; simp only [List.length_cons, List.length_nil]; omega
    obtain ⟨q, es, ep, hq, h2, h3, h4, _, h5⟩ := dd'
    refine h (DxO a (putN xs kk b z)) _ _ _ hmu (.inr ⟨_, hne, upd_same, p1, rfl, rfl⟩) p2 p3 ?_
    refine d_write I hmu hs' ⟨q, hq⟩ ⟨⟨hs, hlen, _, putN_pair rz pr, q, es, ep, hq, h2, h3, ?_, h5⟩, ⟨q, hq⟩, ?_⟩
    · rw [h4, hw]
      rfl
    · rintro g1 g2 ⟨c1, c2, ys', c3, o', es', ep', c4, c5⟩ st
      exact ⟨c1, c2, ys', c3, o', es', ep', st _ c4, c5⟩
end
end Ev
namespace Ev
open PySem L2
variable [Tabs]
abbrev Mg := Str → Option Value
def RepX (K : Fg) (mg : Mg) (R : Ap) (n : Nat) (μ : Nat → Addr) (H : Hp) (x : Exn) (cls : Value) (dx : Option Addr) : Prop :=
  ∃ C, mg x.cls = some (.ref C) ∧ cls = .ref C ∧ match x.arg with
    | none => dx = none
    | some (f, d) => ∃ a v, dx = some a ∧ H a = some (.xd [(f, v)]) ∧ Rep K R n μ H d v
/-- what is wanted: P of the result, E of an exception; from the state n μ H -/
def Post {α : Type} (K : Fg) (mg : Mg) (E : XK) (R : Ap) (n : Nat) (μ : Nat → Addr) (H : Hp) (P : α → LH → (Nat → Addr) → Hp → Prop) : Res α → Prop
  | .ok a h' => ∀ μ' H', Ext n μ H h'.length μ' H' → SimH K R μ' H' h' → P a h' μ' H'
  | .ex x h' => ∀ μ' H' cls dx, Ext n μ H h'.length μ' H' → SimH K R μ' H' h' → RepX K mg R h'.length μ' H' x cls dx → E cls dx H'
  | .no => False
/-- a value is handed on -/
abbrev PV (K : Fg) (R : Ap) (Q : VK) : D → LH → (Nat → Addr) → Hp → Prop := fun d h' μ' H' => ∀ v, Rep K R h'.length μ' H' d v → Q v H'
section
variable {α β : Type} {K : Fg} {mg : Mg} {E : XK} {R : Ap} {n : Nat} {μ μ1 : Nat → Addr} {H H1 : Hp} {h h1 : LH}
theorem Post.bind {r : Res α} {f : α → LH → Res β} {P : β → LH → (Nat → Addr) → Hp → Prop} (p : Post K mg E R n μ H P (r.bind f)) :
    Post K mg E R n μ H (fun a h1 μ1 H1 => Post K mg E R h1.length μ1 H1 P (f a h1)) r := by
  cases r with
  | ok a h1 =>
    intro μ1 H1 e1 S1
    have p : Post K mg E R n μ H P (f a h1) := p
    show Post K mg E R h1.length μ1 H1 P (f a h1)
    cases q : f a h1 with
    | ok b h2 =>
      rw [q] at p
      exact fun μ2 H2 e2 S2 => p μ2 H2 (e1.trans S1 e2) S2
    | ex x h2 =>
      rw [q] at p
      exact fun μ2 H2 cls dx e2 S2 rx => p μ2 H2 cls dx (e1.trans S1 e2) S2 rx
    | no =>
      rw [q] at p
      exact p
  | ex x h1 => exact p
  | no => exact p
theorem Post.imp {r : Res α} {P P' : α → LH → (Nat → Addr) → Hp → Prop} (p : Post K mg E R n μ H P r)
    (f : ∀ a h' μ' H', Ext n μ H h'.length μ' H' → SimH K R μ' H' h' → P a h' μ' H' → P' a h' μ' H') : Post K mg E R n μ H P' r := by
  cases r with
  | ok a h1 => exact fun μ1 H1 e S => f _ _ _ _ e S (p μ1 H1 e S)
  | ex x h1 => exact p
  | no => exact p
/-- from further on -/
theorem Post.later {r : Res α} {P : α → LH → (Nat → Addr) → Hp → Prop} (p : Post K mg E R n μ H P r) (e : Ext n μ H h1.length μ1 H1) (S : SimH K R μ1 H1 h1) : Post K mg E R h1.length μ1 H1 P r := by
  cases r with
  | ok b h2 => exact fun μ2 H2 e2 S2 => p μ2 H2 (e.trans S e2) S2
  | ex x h2 => exact fun μ2 H2 cls dx e2 S2 rx => p μ2 H2 cls dx (e.trans S e2) S2 rx
  | no => exact p
/-- nothing new -/
theorem Post.val {d : D} {Q : VK} {v : V} (S : SimH K R μ H h) (r : Rep K R h.length μ H d v) (p : Post K mg E R h.length μ H (PV K R Q) (.ok d h)) : Q v H := p μ H Ext.refl S v r
theorem tup_ok {ds : List D} {xs : List V} {Q : VK} (S : SimH K R μ H h) (r : Reps K R h.length μ H ds xs) (p : Post K mg E R h.length μ H (PV K R Q) (.ok (.tup ds) h)) :
    ∀ p, H p = none → Q (.ref p) (upd H p (.tup xs)) := fun a ha => by
  refine p μ _ (Ext.laid ha) (S.laid ha) _ ?_
  simp only [Rep]
  exact ⟨a, xs, rfl, SqT.of upd_same, Reps.mono S (Ext.laid ha) _ _ r⟩
theorem lst_ok {m : Bool} {ds : List D} {xs : List V} {Q : VK} (S : SimH K R μ H h) (r : Reps K R h.length μ H ds xs) (p : Post K mg E R h.length μ H (PV K R Q) (alloc m ds h)) :
    ∀ p, H p = none → Q (.ref p) (upd H p (.lst xs)) := fun a ha => by
  unfold alloc at p
  cases m with
  | false =>
    refine p μ _ (Ext.laid ha) (S.laid ha) _ ?_
    simp only [Rep]
    exact ⟨a, xs, rfl, upd_same, S.unr_fresh ha, Reps.mono S (Ext.laid ha) _ _ r⟩
  | true =>
    have e : Ext h.length μ H (h ++ [O.lst ds]).length (muN μ h.length a) (upd H a (.lst xs)) := by
      rw [List.length_append]; exact Ext.newLoc ha
    refine p (muN μ h.length a) _ e (S.newLoc ha r) _ ?_
    simp only [Rep]
    refine ⟨by simp, ?_⟩
    rw [muN_eq]

theorem Rep.lst_of {d : D} {ds : List D} {v : V} (S : SimH K R μ H h) (r : Rep K R h.length μ H d v) (e : asL h d = some ds) : ∃ a xs, v = .ref a ∧ H a = some (.lst xs) ∧ Reps K R h.length μ H ds xs := by
  cases d with
  | lst es =>
    simp only [Rep] at r
    obtain ⟨a, xs, rfl, q, _, r⟩ := r
    cases e
    exact ⟨a, xs, rfl, q, r⟩
  | loc l =>
    simp only [Rep] at r
    obtain ⟨hl, rfl⟩ := r
    unfold asL at e
    simp only at e
    split at e
    · rename_i es q
      cases e
      obtain ⟨xs, q', r⟩ := S.obj l _ q
      exact ⟨_, xs, rfl, q', r⟩
    · cases e
  | _ => simp [asL] at e
theorem Rep.seq_of {d : D} {ds : List D} {v : V} (S : SimH K R μ H h) (r : Rep K R h.length μ H d v) (e : asS h d = some ds) : ∃ a xs, v = .ref a ∧ (SqL K H a xs ∨ SqT K H a xs) ∧ Reps K R h.length μ H ds xs := by
  have go : asL h d = some ds → ∃ a xs, v = .ref a ∧ (SqL K H a xs ∨ SqT K H a xs) ∧ Reps K R h.length μ H ds xs := fun e => by
    obtain ⟨a, xs, e1, q, r⟩ := r.lst_of S e
    exact ⟨a, xs, e1, .inl (SqL.of q), r⟩
  cases d with
  | tup es =>
    simp only [Rep] at r
    obtain ⟨a, xs, rfl, q, r⟩ := r
    cases e
    exact ⟨a, xs, rfl, .inr q, r⟩
  | _ => exact go e
mutual
theorem pd_ok : ∀ (d : D) (p : PyData) (v : V), pd d = some p → Rep K R n μ H d v → Dp K H v p
  | .non, p, v, e, r => by
    simp only [pd] at e; cases e
    simp only [Rep] at r; subst r
    exact .non
  | .bl b, p, v, e, r => by
    simp only [pd] at e; cases e
    simp only [Rep] at r; subst r
    exact .bl b
  | .int b, p, v, e, r => by
    simp only [pd] at e; cases e
    simp only [Rep] at r; subst r
    exact .int b
  | .str b, p, v, e, r => by
    simp only [pd] at e; cases e
    simp only [Rep] at r; subst r
    exact .str b
  | .tup ds, p, v, e, r => by
    simp only [pd] at e
    split at e
    · rename_i l q
      cases e
      simp only [Rep] at r
      obtain ⟨a, xs, rfl, s, r⟩ := r
      exact .tup s (pds_ok ds l xs q r)
    · cases e
  | .lst ds, p, v, e, r => by
    simp only [pd] at e
    split at e
    · rename_i l q
      cases e
      simp only [Rep] at r
      obtain ⟨a, xs, rfl, s, _, r⟩ := r
      exact .lst (SqL.of s) (pds_ok ds l xs q r)
    · cases e
  | .loc _, _, _, e, _ => by simp [pd] at e
  | .scr _, _, _, e, _ => by simp [pd] at e
theorem pds_ok : ∀ (ds : List D) (ps : List PyData) (vs : List V), pds ds = some ps → Reps K R n μ H ds vs → DpAll K H vs ps
  | [], ps, vs, e, r => by
    simp only [pds] at e; cases e
    simp only [Reps] at r; subst r
    exact .nil
  | d :: ds, ps, vs, e, r => by
    simp only [pds] at e
    split at e
    · rename_i x l q1 q2
      cases e
      simp only [Reps] at r
      obtain ⟨v, ws, rfl, r1, r2⟩ := r
      exact .cons (pd_ok d x v q1 r1) (pds_ok ds l ws q2 r2)
    · cases e
end
theorem pdT_ok {d : D} {p : PyData} {v : V} (S : SimH K R μ H h) (e : pdT h d = some p) (r : Rep K R h.length μ H d v) : Dp K H v p := by
  cases d with
  | loc l =>
    simp only [Rep] at r
    obtain ⟨hl, rfl⟩ := r
    simp only [pdT] at e
    split at e
    · rename_i ds q
      simp only [pd] at e
      split at e
      · rename_i l' q2
        cases e
        obtain ⟨xs, q', r⟩ := S.obj l _ q
        exact .lst (SqL.of q') (pds_ok ds l' xs q2 r)
      · cases e
    · cases e
  | _ => exact pd_ok _ _ _ e r
theorem truthy_ok {d : D} {b : Bool} {v : V} (S : SimH K R μ H h) (e : truthy h d = some b) (r : Rep K R h.length μ H d v) : TruV K v H b := by
  cases d with
  | non =>
    simp only [Rep] at r; subst r
    simp only [truthy] at e; cases e
    rfl
  | bl k =>
    simp only [Rep] at r; subst r
    simp only [truthy] at e; cases e
    rfl
  | int i =>
    simp only [Rep] at r; subst r
    simp only [truthy] at e; cases e
    rfl
  | str x =>
    simp only [Rep] at r; subst r
    simp only [truthy] at e
    split at e
    · cases e; exact ⟨by assumption, rfl⟩
    · cases e
  | tup ds =>
    simp only [Rep] at r
    obtain ⟨a, xs, rfl, q, r⟩ := r
    simp only [truthy] at e; cases e
    refine .inr (.inl ⟨xs, q, ?_⟩)
    have := r.length
    cases ds <;> cases xs <;> simp_all
  | lst ds =>
    simp only [truthy, asL] at e; cases e
    obtain ⟨a, xs, rfl, q, r⟩ := r.lst_of (ds := ds) S rfl
    refine .inl ⟨xs, SqL.of q, ?_⟩
    have := r.length
    cases ds <;> cases xs <;> simp_all
  | loc l =>
    simp only [truthy] at e
    split at e
    · rename_i ds q
      cases e
      obtain ⟨a, xs, rfl, q, r⟩ := r.lst_of (ds := ds) S q
      refine .inl ⟨xs, SqL.of q, ?_⟩
      have := r.length
      cases ds <;> cases xs <;> simp_all
    · cases e
  | scr _ => simp [truthy, asL] at e
  | dct _ _ => simp [truthy, asL] at e
  | ins _ _ _ => simp [truthy, asL] at e
  | clo _ _ => simp [truthy, asL] at e

/-- an operator's reading: the data of both sides -/
def rD2 (K : Fg) (mg : Mg) (f : D → D → LH → Res D) : R2 := fun x y H Q => ∃ E R μ h d e, SimH K R μ H h ∧ Rep K R h.length μ H d x ∧ Rep K R h.length μ H e y ∧ Post K mg E R h.length μ H (PV K R Q) (f d e h)
theorem repI {i : Int} {v : V} : Rep K R n μ H (.int i) v ↔ v = .int i := by simp only [Rep]
theorem repB {i : Bool} {v : V} : Rep K R n μ H (.bl i) v ↔ v = .bl i := by simp only [Rep]
theorem repS {i : Str} {v : V} : Rep K R n μ H (.str i) v ↔ v = .str i := by simp only [Rep]
theorem repN {v : V} : Rep K R n μ H .non v ↔ v = .non := by simp only [Rep]
theorem Post.int {i : Int} {Q : VK} (S : SimH K R μ H h) (p : Post K mg E R h.length μ H (PV K R Q) (.ok (.int i) h)) : Q (.int i) H := p.val S (repI.mpr rfl)
theorem Post.bl {i : Bool} {Q : VK} (S : SimH K R μ H h) (p : Post K mg E R h.length μ H (PV K R Q) (.ok (.bl i) h)) : Q (.bl i) H := p.val S (repB.mpr rfl)
theorem Post.str {i : Str} {Q : VK} (S : SimH K R μ H h) (p : Post K mg E R h.length μ H (PV K R Q) (.ok (.str i) h)) : Q (.str i) H := p.val S (repS.mpr rfl)
theorem Post.no_of {P : α → LH → (Nat → Addr) → Hp → Prop} (p : Post K mg E R n μ H P .no) : False := p
end
section
variable {X : Cx}
theorem opAdd_ok {m : Bool} : OpR X (binaryOp .Add) (rD2 X.K X.mg (opAdd m)) := by
  intro pins s σ H x y v u Q I rx ry hq
  obtain ⟨E, R, μ, h, d, e, S, r1, r2, p⟩ := hq
  have gen : Post X.K X.mg E R h.length μ H (PV X.K R Q) (catL m (asL h d) (asL h e) h) → wpAny (model X.prog X.w) X.A (binaryOp .Add v u) (EP X pins σ Q) X.xe s := by
    intro p
    unfold catL at p
    split at p
    · rename_i xs ys e1 e2
      obtain ⟨a, vs, rfl, ha, ra⟩ := r1.lst_of S e1
      obtain ⟨b, ws, rfl, hb, rb⟩ := r2.lst_of S e2
      split at p
      · rename_i hl
        refine op_cat pins s σ H _ _ v u Q I rx ry ⟨a, b, vs, ws, rfl, rfl, ha, hb, by rw [← ra.length, ← rb.length]; exact hl, lst_ok S (ra.append rb) p⟩
      · exact p.elim
    · exact p.elim
  cases d with
  | int i =>
    cases e with
    | int j =>
      cases repI.mp r1; cases repI.mp r2
      exact op_add pins s σ H _ _ v u Q I rx ry ⟨i, j, rfl, rfl, p.int S⟩
    | _ => exact gen p
  | str i =>
    cases e with
    | str j =>
      cases repS.mp r1; cases repS.mp r2
      simp only [opAdd] at p
      split at p
      · exact op_add_str pins s σ H _ _ v u Q I rx ry ⟨i, j, rfl, rfl, by assumption, p.str S⟩
      · exact p.elim
    | _ => exact gen p
  | tup xs =>
    cases e with
    | tup ys =>
      simp only [Rep] at r1 r2
      obtain ⟨a, vs, rfl, ha, ra⟩ := r1
      obtain ⟨b, ws, rfl, hb, rb⟩ := r2
      simp only [opAdd] at p
      split at p
      · rename_i hl
        have la := ra.length
        have lb := rb.length
        refine op_catA pins s σ H _ _ v u Q I rx ry ⟨a, b, vs, ws, rfl, rfl, ha, hb, by omega, fun z => ?_, fun _ z => ?_, fun _ _ => tup_ok S (ra.append rb) p⟩
        · subst z
          obtain rfl : xs = [] := List.length_eq_zero_iff.mp la
          refine p.val S ?_
          simp only [Rep, List.nil_append]
          exact ⟨b, ws, rfl, hb, rb⟩
        · subst z
          obtain rfl : ys = [] := List.length_eq_zero_iff.mp lb
          refine p.val S ?_
          simp only [Rep, List.append_nil]
          exact ⟨a, vs, rfl, ha, ra⟩
      · exact p.elim
    | _ => exact gen p
  | _ => cases e <;> exact gen p
theorem opMul_ok : OpR X (binaryOp .Mult) (rD2 X.K X.mg opMul) := by
  intro pins s σ H x y v u Q I rx ry hq
  obtain ⟨E, R, μ, h, d, e, S, r1, r2, p⟩ := hq
  cases d with
  | int i =>
    cases e with
    | int j =>
      cases repI.mp r1; cases repI.mp r2
      simp only [opMul] at p
      split at p
      · exact op_mul pins s σ H _ _ v u Q I rx ry ⟨i, j, rfl, rfl, by assumption, p.int S⟩
      · exact p.elim
    | _ => simp [opMul] at p; exact p.elim
  | tup xs =>
    cases e with
    | int k =>
      cases repI.mp r2
      simp only [Rep] at r1
      obtain ⟨a, vs, rfl, ha, ra⟩ := r1
      simp only [opMul] at p
      split at p
      · rename_i c
        obtain ⟨c1, c2, c3, c4⟩ := c
        have la := ra.length
        exact op_repT pins s σ H _ _ v u Q I rx ry ⟨a, k, vs, rfl, rfl, ha, (fun z => c1 (List.length_eq_zero_iff.mp (by rw [la, z]; rfl))), c2, c3, by omega, tup_ok S (ra.rep1 _) p⟩
      · exact p.elim
    | _ => simp [opMul] at p; exact p.elim
  | _ => simp [opMul] at p; exact p.elim
theorem opBin_ok {op : Operator} {m : Bool} : OpR X (binaryOp op) (rD2 X.K X.mg (opBin op m)) := by
  cases op with
  | Add => exact opAdd_ok
  | Mult => exact opMul_ok
  | Sub =>
    intro pins s σ H x y v u Q I rx ry hq
    obtain ⟨E, R, μ, h, d, e, S, r1, r2, p⟩ := hq
    simp only [opBin] at p
    split at p
    · cases repI.mp r1; cases repI.mp r2
      exact op_sub pins s σ H _ _ v u Q I rx ry ⟨_, _, rfl, rfl, p.int S⟩
    · exact p.elim
  | FloorDiv =>
    intro pins s σ H x y v u Q I rx ry hq
    obtain ⟨E, R, μ, h, d, e, S, r1, r2, p⟩ := hq
    simp only [opBin] at p
    split at p
    · cases repI.mp r1; cases repI.mp r2
      split at p
      · exact op_fdivW pins s σ H _ _ v u Q I rx ry ⟨_, _, rfl, rfl, by assumption, p.int S⟩
      · exact p.elim
    · exact p.elim
  | Mod =>
    intro pins s σ H x y v u Q I rx ry hq
    obtain ⟨E, R, μ, h, d, e, S, r1, r2, p⟩ := hq
    simp only [opBin] at p
    split at p
    · cases repI.mp r1; cases repI.mp r2
      split at p
      · exact op_mod pins s σ H _ _ v u Q I rx ry ⟨_, _, rfl, rfl, by assumption, p.int S⟩
      · exact p.elim
    · exact p.elim
  | Pow =>
    intro pins s σ H x y v u Q I rx ry hq
    obtain ⟨E, R, μ, h, d, e, S, r1, r2, p⟩ := hq
    simp only [opBin] at p
    split at p
    · cases repI.mp r1; cases repI.mp r2
      split at p
      · exact op_pow pins s σ H _ _ v u Q I rx ry ⟨_, _, rfl, rfl, by assumption, p.int S⟩
      · exact p.elim
    · exact p.elim
  | _ =>
    intro pins s σ H x y v u Q I rx ry hq
    obtain ⟨E, R, μ, h, d, e, S, r1, r2, p⟩ := hq
    exact p.elim
theorem cmpI_ok {op : CmpOp} {f : Int → Int → Bool} (ho : OpR X (compareOp op) (rI0 fun i j => .bl (f i j))) : OpR X (compareOp op) (rD2 X.K X.mg (cmpI f)) := by
  intro pins s σ H x y v u Q I rx ry hq
  obtain ⟨E, R, μ, h, d, e, S, r1, r2, p⟩ := hq
  unfold cmpI at p
  split at p
  · cases repI.mp r1; cases repI.mp r2
    exact ho pins s σ H _ _ v u Q I rx ry ⟨_, _, rfl, rfl, p.bl S⟩
  · exact p.elim
theorem inSq_ok (hu : X.A.units + 65 < cLine) (neg : Bool) {pins : List (Addr × Obj)} {s : Shared} {σ : St} {H : Hp} {x y : V} {v u : Value} {Q : VK} {R : Ap} {μ : Nat → Addr} {h : LH} {d e : D} {k : Bool} (I : Inv X pins σ H s) (rx : RelV x v) (ry : RelV y u)
    (S : SimH X.K R μ H h) (r1 : Rep X.K R h.length μ H d x) (r2 : Rep X.K R h.length μ H e y) (q : inS h d e = some k) (hQ : Q (.bl (if neg then !k else k)) H) :
    wpAny (model X.prog X.w) X.A (compareOp (if neg then .NotIn else .In) v u) (EP X pins σ Q) X.xe s := by
  have gen : (match asS h e with
      | some ds => match pdT h d, pds ds with
        | some x, some l => if SeqAt.shaped x = true ∧ SeqAt.shaped (.list l) = true then some (l.any fun z => PyData.eqv z x) else none
        | _, _ => none
      | none => none) = some k → wpAny (model X.prog X.w) X.A (compareOp (if neg then .NotIn else .In) v u) (EP X pins σ Q) X.xe s := by
    intro q
    split at q
    · rename_i ds q1
      split at q
      · rename_i px pl q2 q3
        split at q
        · rename_i c
          cases q
          obtain ⟨a, xs, rfl, sq, ra⟩ := r2.seq_of S q1
          have d1 := pdT_ok S q2 r1
          have d2 := pds_ok ds pl xs q3 ra
          have hc : PyData.canLayAll0 pl = true := SeqAt.canLay_of_shaped c.2
          obtain ⟨bs, rd⟩ := Dp.reads I px x v d1 rx
          rcases sq with sq | sq
          · obtain ⟨as, rl⟩ := Dp.reads I (.list pl) _ u (.lst sq d2) ry
            cases neg with
            | false => exact SeqAt.in_list_reads rl rd hc (SeqAt.canLay_of_shaped c.1) (PyProof.Rows.room_in_shaped c.1 hu) ⟨.bl _, H, I, rfl, hQ⟩
            | true => exact SeqAt.notIn_list_reads rl rd hc (SeqAt.canLay_of_shaped c.1) (PyProof.Rows.room_in_shaped c.1 hu) ⟨.bl _, H, I, rfl, hQ⟩
          · obtain ⟨as, rl⟩ := Dp.reads I (.tuple pl) _ u (.tup sq d2) ry
            cases neg with
            | false => exact SeqAt.in_tuple_reads rl rd hc (SeqAt.canLay_of_shaped c.1) (PyProof.Rows.room_in_shaped c.1 hu) ⟨.bl _, H, I, rfl, hQ⟩
            | true => exact SeqAt.notIn_tuple_reads rl rd hc (SeqAt.canLay_of_shaped c.1) (PyProof.Rows.room_in_shaped c.1 hu) ⟨.bl _, H, I, rfl, hQ⟩
        · cases q
      · cases q
    · cases q
  unfold inS at q
  split at q
  · cases repS.mp r1; cases repS.mp r2
    cases q
    cases neg with
    | false => exact op_in_str pins s σ H _ _ v u Q I rx ry ⟨_, _, rfl, rfl, hQ⟩
    | true => exact op_notin_str pins s σ H _ _ v u Q I rx ry ⟨_, _, rfl, rfl, hQ⟩
  · exact gen q
theorem inD_ok (hw : Tabs.w = X.w) (hu : X.A.units + 65 < cLine) (neg : Bool) {pins : List (Addr × Obj)} {s : Shared} {σ : St} {H : Hp} {x y : V} {v u : Value} {Q : VK} {R : Ap} {μ : Nat → Addr} {h : LH} {d e : D} {k : Bool} (I : Inv X pins σ H s) (rx : RelV x v) (ry : RelV y u)
    (S : SimH X.K R μ H h) (r1 : Rep X.K R h.length μ H d x) (r2 : Rep X.K R h.length μ H e y) (q : inD h d e = some k) (hQ : Q (.bl (if neg then !k else k)) H) :
    wpAny (model X.prog X.w) X.A (compareOp (if neg then .NotIn else .In) v u) (EP X pins σ Q) X.xe s := by
  unfold inD at q
  split at q
  · rename_i kvs e1
    split at q
    · rename_i ko
      cases q
      obtain ⟨a, rfl, dv⟩ := asD_of S r2 e1
      obtain rfl : u = Value.ref a := ry
      cases neg with
      | false => exact dv_in hw (by omega) I dv ko r1 rx fun s' I' => ⟨.bl _, H, I', rfl, hQ⟩
      | true => exact dv_notIn hw (by omega) I dv ko r1 rx fun s' I' => ⟨.bl _, H, I', rfl, hQ⟩
    · cases q
  · exact inSq_ok hu neg I rx ry S r1 r2 q hQ
/-- a dict against an empty one -/
theorem eqE_ok (hu : X.A.units + 65 < cLine) (neg : Bool) {pins : List (Addr × Obj)} {s : Shared} {σ : St} {H : Hp} {x y : V} {v u : Value} {Q : VK} {R : Ap} {μ : Nat → Addr} {h : LH} {d e : D} {k : Bool} (I : Inv X pins σ H s) (rx : RelV x v) (ry : RelV y u)
    (S : SimH X.K R μ H h) (r1 : Rep X.K R h.length μ H d x) (r2 : Rep X.K R h.length μ H e y) (q : eqE h d e = some k) (hQ : Q (.bl (if neg then !k else k)) H) :
    wpAny (model X.prog X.w) X.A (compareOp (if neg then .NotEq else .Eq) v u) (EP X pins σ Q) X.xe s := by
  unfold eqE at q
  split at q
  · rename_i kvs e1 e2
    split at q
    · rename_i hb
      cases q
      obtain ⟨a, rfl, dv⟩ := asD_of S r1 e1
      obtain ⟨b, rfl, dv2⟩ := asD_of S r2 e2
      obtain rfl : v = Value.ref a := rx
      obtain rfl : u = Value.ref b := ry
      obtain ⟨kk, hH, e3, _⟩ := dv_B dv hb
      obtain ⟨kk2, hH2, e4, _⟩ := dv_B dv2 rfl
      obtain rfl : kk2 = [] := by cases kk2 with
        | nil => rfl
        | cons _ _ => simp at e4
      obtain ⟨_, ya, va, ra, da⟩ := dk_of I.hok hH
      obtain ⟨_, yb, vb, rb, db⟩ := dk_of I.hok hH2
      cases rb
      have hl : va.length = kvs.length := by rw [← ra.length]; have := congrArg List.length e3; simpa using this.symm
      have ne : va.length = ([] : List (Key × Value)).length → PySem.W.KeqHits X.A.in1 s ([] : List (Key × Value)) va true := fun z => by
        cases va with
        | nil => exact .nil
        | cons _ _ => simp at z
      have hk : (va.length == ([] : List (Key × Value)).length && true) = kvs.isEmpty := by
        rw [hl, Bool.and_true]
        cases kvs <;> rfl
      cases neg with
      | false => exact PySem.W.keq_eq (knd := mixKind X.prog X.w) (r := true) ya yb da db (by omega) ne ⟨.bl _, H, I, by rw [hk]; rfl, hQ⟩
      | true => exact PySem.W.keq_ne (knd := mixKind X.prog X.w) (r := true) ya yb da db (by omega) ne ⟨.bl _, H, I, by rw [hk]; rfl, hQ⟩
    · cases q
  · cases q
theorem opCmp_ok (hw : Tabs.w = X.w) (hu : X.A.units + 65 < cLine) {op : CmpOp} : OpR X (compareOp op) (rD2 X.K X.mg (opCmp op)) := by
  cases op with
  | Eq =>
    intro pins s σ H x y v u Q I rx ry hq
    obtain ⟨E, R, μ, h, d, e, S, r1, r2, p⟩ := hq
    simp only [opCmp] at p
    split at p
    · rename_i k q
      unfold eqD at q
      split at q
      · rename_i k' q0
        cases q
        unfold eqP at q0
        split at q0
        · rename_i a b q1 q2
          split at q0
          · rename_i c
            cases q0
            exact op_eqD (by omega) pins s σ H x y v u Q I rx ry ⟨a, b, pdT_ok S q1 r1, pdT_ok S q2 r2, c.1, c.2, p.bl S⟩
          · cases q0
        · cases q0
      · exact eqE_ok hu false I rx ry S r1 r2 q (p.bl S)
    · exact p.elim
  | NotEq =>
    intro pins s σ H x y v u Q I rx ry hq
    obtain ⟨E, R, μ, h, d, e, S, r1, r2, p⟩ := hq
    simp only [opCmp] at p
    split at p
    · rename_i k q
      unfold eqD at q
      split at q
      · rename_i k' q0
        cases q
        unfold eqP at q0
        split at q0
        · rename_i a b q1 q2
          split at q0
          · rename_i c
            cases q0
            exact op_neD (by omega) pins s σ H x y v u Q I rx ry ⟨a, b, pdT_ok S q1 r1, pdT_ok S q2 r2, c.1, c.2, p.bl S⟩
          · cases q0
        · cases q0
      · exact eqE_ok hu true I rx ry S r1 r2 q (p.bl S)
    · exact p.elim
  | Lt => exact cmpI_ok op_lt
  | LtE => exact cmpI_ok op_le
  | Gt => exact cmpI_ok op_gt
  | GtE => exact cmpI_ok op_ge
  | Is =>
    intro pins s σ H x y v u Q I rx ry hq
    obtain ⟨E, R, μ, h, d, e, S, r1, r2, p⟩ := hq
    simp only [opCmp] at p
    split at p
    · cases repN.mp r2
      refine op_isN pins s σ H _ _ v u Q I rx ry ⟨rfl, ?_⟩
      have q := p.bl S
      cases d <;> simp only [Rep] at r1 <;> first
        | (subst r1; simpa using q)
        | (obtain ⟨a, xs, rfl, _⟩ := r1; simpa using q)
        | (obtain ⟨_, rfl⟩ := r1; simpa using q)
        | (obtain ⟨a, rfl, _⟩ := r1; simpa using q)
        | (obtain ⟨a, _, _, rfl, _⟩ := r1; simpa using q)
        | (obtain ⟨a, _, _, _, rfl, _⟩ := r1; simpa using q)
        | (obtain ⟨a, _, _, _, _, rfl, _⟩ := r1; simpa using q)
    · exact p.elim
  | IsNot =>
    intro pins s σ H x y v u Q I rx ry hq
    obtain ⟨E, R, μ, h, d, e, S, r1, r2, p⟩ := hq
    simp only [opCmp] at p
    split at p
    · cases repN.mp r2
      refine op_notN pins s σ H _ _ v u Q I rx ry ⟨rfl, ?_⟩
      have q := p.bl S
      cases d <;> simp only [Rep] at r1 <;> first
        | (subst r1; simpa using q)
        | (obtain ⟨a, xs, rfl, _⟩ := r1; simpa using q)
        | (obtain ⟨_, rfl⟩ := r1; simpa using q)
        | (obtain ⟨a, rfl, _⟩ := r1; simpa using q)
        | (obtain ⟨a, _, _, rfl, _⟩ := r1; simpa using q)
        | (obtain ⟨a, _, _, _, rfl, _⟩ := r1; simpa using q)
        | (obtain ⟨a, _, _, _, _, rfl, _⟩ := r1; simpa using q)
    · exact p.elim
  | In =>
    intro pins s σ H x y v u Q I rx ry hq
    obtain ⟨E, R, μ, h, d, e, S, r1, r2, p⟩ := hq
    simp only [opCmp] at p
    split at p
    · rename_i k q
      exact inD_ok hw hu false I rx ry S r1 r2 q (p.bl S)
    · exact p.elim
  | NotIn =>
    intro pins s σ H x y v u Q I rx ry hq
    obtain ⟨E, R, μ, h, d, e, S, r1, r2, p⟩ := hq
    simp only [opCmp] at p
    split at p
    · rename_i k q
      exact inD_ok hw hu true I rx ry S r1 r2 q (p.bl S)
    · exact p.elim
end
end Ev
namespace Ev
open PySem L2
variable [Tabs]
section
variable {X : Cx}
theorem atI_map {α β : Type} {f : α → β} {xs : List α} {i : Int} {a : α} (h : atI xs i = some a) : atI (xs.map f) i = some (f a) := by
  unfold atI at *
  rw [List.length_map]
  cases e : ixN xs.length i with
  | none => rw [e] at h; cases h
  | some j =>
    rw [e] at h
    simp only [Option.bind_some] at h ⊢
    rw [List.getElem?_map, h]
    rfl
theorem Reps.atI {K : Fg} {R : Ap} {n : Nat} {μ : Nat → Addr} {H : Hp} {ds : List D} {vs : List V} {i : Int} {d : D} (r : Reps K R n μ H ds vs) (e : L2.atI ds i = some d) : ∃ v, L2.atI vs i = some v ∧ Rep K R n μ H d v := by
  unfold L2.atI at *
  rw [r.length] at e
  cases q : ixN vs.length i with
  | none => rw [q] at e; cases e
  | some j =>
    rw [q] at e
    simp only [Option.bind_some] at e ⊢
    exact r.get e
theorem opIdxS_ok : IxR X (rD2 X.K X.mg opIdxS) := by
  intro value slice pins s σ H x y v u Q I rx ry hq
  obtain ⟨E, R, μ, h, d, e, S, r1, r2, p⟩ := hq
  unfold opIdxS at p
  split at p
  · rename_i k
    cases repI.mp r2
    split at p
    · rename_i ds
      split at p
      · rename_i z q
        simp only [Rep] at r1
        obtain ⟨a, xs, rfl, sq, ra⟩ := r1
        obtain ⟨w, q2, rw'⟩ := ra.atI q
        exact ix_tup value slice pins s σ H _ _ v u Q I rx ry ⟨a, xs, k, w, rfl, rfl, sq, q2, p.val S rw'⟩
      · exact p.elim
    · split at p
      · split at p
        · rename_i c q
          cases repS.mp r1
          exact ix_str value slice pins s σ H _ _ v u Q I rx ry ⟨_, k, c, rfl, rfl, by assumption, q, p.str S⟩
        · exact p.elim
      · exact p.elim
    · rename_i ns
      split at p
      · rename_i m q
        simp only [Rep] at r1
        obtain ⟨a, rfl, sq⟩ := r1
        exact ix_list value slice pins s σ H _ _ v u Q I rx ry ⟨a, _, k, _, rfl, rfl, sq.sq, atI_map q, p.int S⟩
      · exact p.elim
    · split at p
      · rename_i ds q0
        split at p
        · rename_i z q
          obtain ⟨a, xs, rfl, sq, ra⟩ := r1.lst_of S q0
          obtain ⟨w, q2, rw'⟩ := ra.atI q
          exact ix_list value slice pins s σ H _ _ v u Q I rx ry ⟨a, xs, k, w, rfl, rfl, SqL.of sq, q2, p.val S rw'⟩
        · exact p.elim
      · exact p.elim
  · exact p.elim
theorem dv_typeIs {pins : List (Addr × Obj)} {s : Shared} {σ : St} {H : Hp} {R : Ap} {n : Nat} {μ : Nat → Addr} {a : Addr} {kvs : List (D × D)} (I : Inv X pins σ H s) (dv : DV X.K R n μ H a kvs) : s.TypeIs (.ref a) "dict" ∧ ∀ b, Value.ref a = .ref b → ∃ ob, s.heap.get? b = some ob ∧ ob.dict = none := by
  obtain ⟨kws, ws, d, _⟩ := dv
  rcases d with ⟨kk, e, _⟩ | ⟨xs, _, e, _⟩
  · obtain ⟨_, hd, vs, _, dd⟩ := dk_of I.hok e
    refine ⟨dd.typeIs, fun b q => ?_⟩
    cases q
    obtain ⟨ob, _, _, h1, h2, _⟩ := dd
    exact ⟨ob, h1, h2.2.1⟩
  · obtain ⟨⟨_, _, ys, _, o, es, ep, h1, h2, _⟩, _, _⟩ := I.hok a _ e
    refine ⟨⟨o, h1, h2.1⟩, fun b q => ?_⟩
    cases q
    exact ⟨o, h1, h2.2.1⟩
/-- the end of a subscription of a dict -/
theorem tail_dict {prog : Program} {w : World} {A : Around} {E : Value → Shared → Prop} {s : Shared} {value slice : Expr} {o i : Value} {T id : String} {Q : Value → Shared → Prop} (hl : typeLookup (.type T) "__getitem__" = pure (some (.builtin id))) (hs : subscripted slice false o i = operate [o, i] (getItem o i)) (hT : s.TypeIs o T) (h : wpAny (model prog w) A (getItem o i) Q E s) : wpAny (model prog w) A (PyProof.Rows.subscriptTail value slice o i) Q E s := by
  unfold PyProof.Rows.subscriptTail
  refine wpAny_bind ?_
  rw [getitemInPython_of_ne hT.not_modules]
  refine wpAny_bind (wpAny_specialOf hT hl ?_)
  have fin : wpAny (model prog w) A (subscripted slice false o i) (fun r s₃ => wpAny (model prog w) A (letTemporaryGo value o r >>= fun _ => pure r) Q E s₃) E s := by
    rw [hs]
    exact wpAny_operating (wpAny_mono h (fun r s₃ h₃ => wpAny_bind (wpAny_letTemporaryGo (wpAny_pure h₃))) fun _ _ x => x)
  first
    | exact wpAny_pure (wpAny_bind fin)
    | exact wpAny_bind (wpAny_pure (wpAny_bind fin))
    | exact wpAny_bind fin
theorem opIdx_ok (hw : Tabs.w = X.w) (hu : X.A.units + 65 < cLine) : IxR X (rD2 X.K X.mg opIdx) := by
  intro value slice pins s σ H x y v u Q I rx ry hq hs
  obtain ⟨E, R, μ, h, d, e, S, r1, r2, p⟩ := hq
  unfold opIdx at p
  split at p
  · rename_i kvs e1
    split at p
    · rename_i ko
      split at p
      · rename_i vd e2
        obtain ⟨a, rfl, dv⟩ := asD_of S r1 e1
        obtain rfl : v = Value.ref a := rx
        exact tail_dict PySem.F.slot_dict_getitem.lookup hs (dv_typeIs I dv).1 (dv_getItem hw (by omega) I dv ko r2 ry e2 fun vv w' s' rv rw' I' => ⟨vv, H, I', rw', p.val S rv⟩)
      · exact p.elim
    · exact p.elim
  · exact opIdxS_ok value slice pins s σ H x y v u Q I rx ry ⟨E, R, μ, h, d, e, S, r1, r2, p⟩ hs
theorem cut_whole {α : Type} {xs : List α} {lo hi : Option Int} (h : HT.sIx xs.length 0 lo = 0 ∧ HT.sIx xs.length xs.length hi = xs.length) : cutL xs lo hi = xs := by
  unfold cutL
  rw [h.1, h.2]
  simp
def rSl (K : Fg) (mg : Mg) (m : Bool) : V → Option Int → Option Int → Hp → VK → Prop := fun x lo hi H Q => ∃ E R μ h d, SimH K R μ H h ∧ Rep K R h.length μ H d x ∧ Post K mg E R h.length μ H (PV K R Q) (opCut m d lo hi h)
theorem opCut_ok {m : Bool} : SlR X (rSl X.K X.mg m) := by
  intro pins s σ H x v vl vu lo hi sl Q I rx hs pl pu hq
  obtain ⟨E, R, μ, h, d, S, r1, p⟩ := hq
  unfold opCut at p
  split at p
  · rename_i ds
    simp only [Rep] at r1
    obtain ⟨a, xs, rfl, sq, ra⟩ := r1
    refine sl_tupA pins s σ H _ v vl vu lo hi sl Q I rx hs pl pu ⟨a, xs, rfl, sq, fun w => ?_, fun _ => tup_ok S (ra.cut lo hi) p⟩
    refine p.val S ?_
    rw [cut_whole (by rw [ra.length]; exact w)]
    simp only [Rep]
    exact ⟨a, xs, rfl, sq, ra⟩
  · split at p
    · cases repS.mp r1
      exact sl_str pins s σ H _ v vl vu lo hi sl Q I rx hs pl pu ⟨_, rfl, by assumption, p.str S⟩
    · exact p.elim
  · split at p
    · rename_i ds q
      obtain ⟨a, xs, rfl, sq, ra⟩ := r1.lst_of S q
      exact sl_list pins s σ H _ v vl vu lo hi sl Q I rx hs pl pu ⟨a, xs, rfl, SqL.of sq, lst_ok S (ra.cut lo hi) p⟩
    · exact p.elim

theorem tyN_mem {h : LH} {d : D} {t : String} (e : tyN h d = some t) : t ∈ ["NoneType", "bool", "int", "str", "tuple", "list"] := by
  unfold tyN at e
  split at e
  · cases e; decide
  · cases e; decide
  · cases e; decide
  · cases e; decide
  · cases e; decide
  · split at e
    · cases e; decide
    · cases e
theorem kit_tab : ∀ t ∈ ["NoneType", "bool", "int", "str", "tuple", "list"], ∀ T ∈ isiTys, kitB t T = some (t == T || (t == "bool" && T == "int")) := by decide +kernel
theorem tyN_ok {K : Fg} {R : Ap} {μ : Nat → Addr} {H : Hp} {h : LH} {d : D} {t : String} {v : V} (S : SimH K R μ H h) (r : Rep K R h.length μ H d v) (e : tyN h d = some t) : TyX K H v (.type t) := by
  have gen : (match asL h d with | some _ => some "list" | none => none) = some t → TyX K H v (.type t) := fun e => by
    split at e
    · rename_i ds q
      cases e
      obtain ⟨a, xs, rfl, sq, _⟩ := r.lst_of S q
      exact .base (.lst sq)
    · cases e
  cases d with
  | non => cases repN.mp r; cases e; exact .base .non
  | bl b => cases repB.mp r; cases e; exact .base (.bl b)
  | int b => cases repI.mp r; cases e; exact .base (.int b)
  | str b => cases repS.mp r; cases e; exact .base (.str b)
  | tup ds =>
    cases e
    simp only [Rep] at r
    obtain ⟨a, xs, rfl, sq, _⟩ := r
    rcases sq with (sq | ⟨o, sq⟩) | ⟨o, its, n, q1, q2, _⟩
    · exact .base (.tup sq)
    · exact .fTuple sq
    · exact .kTuple q1 q2
  | _ => exact gen e
theorem isi_ok {K : Fg} {R : Ap} {μ : Nat → Addr} {H : Hp} {h : LH} {d : D} {T : String} {b : Bool} {v : V} {Q : VK} (S : SimH K R μ H h) (r : Rep K R h.length μ H d v) (e : isiD h T d = some b) (q : Q (.bl b) H) : rIsi K [v, .ty T] H Q := by
  unfold isiD at e
  split at e
  · rename_i t q1
    split at e
    · rename_i c
      cases e
      exact ⟨v, .ty T, .type t, .type T, _, rfl, .ty T, tyN_ok S r q1, kit_ty (kit_tab t (tyN_mem q1) T (by simpa using c)), q⟩
    · cases e
  · cases e

def rBi (K : Fg) (mg : Mg) (f : Bi) (m : Bool) : List V → Hp → VK → Prop := fun vs H Q => ∃ E R μ h ds, SimH K R μ H h ∧ Reps K R h.length μ H ds vs ∧ Post K mg E R h.length μ H (PV K R Q) (biF f m ds h)
theorem reps1 {K : Fg} {R : Ap} {n : Nat} {μ : Nat → Addr} {H : Hp} {d : D} {vs : List V} : Reps K R n μ H [d] vs ↔ ∃ v, vs = [v] ∧ Rep K R n μ H d v := by
  simp only [Reps]
  constructor
  · rintro ⟨v, ws, rfl, r, rfl⟩; exact ⟨v, rfl, r⟩
  · rintro ⟨v, rfl, r⟩; exact ⟨v, [], rfl, r, rfl⟩
theorem reps2 {K : Fg} {R : Ap} {n : Nat} {μ : Nat → Addr} {H : Hp} {d e : D} {vs : List V} : Reps K R n μ H [d, e] vs ↔ ∃ v w, vs = [v, w] ∧ Rep K R n μ H d v ∧ Rep K R n μ H e w := by
  simp only [Reps]
  constructor
  · rintro ⟨v, ws, rfl, r, w, ws', rfl, r', rfl⟩; exact ⟨v, w, rfl, r, r'⟩
  · rintro ⟨v, w, rfl, r, r'⟩; exact ⟨v, [w], rfl, r, w, [], rfl, r', rfl⟩
theorem boolsOf_ok {K : Fg} {R : Ap} {n : Nat} {μ : Nat → Addr} {H : Hp} : ∀ {ds : List D} {bs : List Bool} {vs : List V}, boolsOf ds = some bs → Reps K R n μ H ds vs → vs = bs.map V.bl
  | [], _, _, e, r => by simp only [boolsOf] at e; cases e; simp only [Reps] at r; subst r; rfl
  | d :: ds, bs, vs, e, r => by
    cases d <;> simp only [boolsOf] at e <;> try (cases e; done)
    split at e
    · rename_i l q
      cases e
      simp only [Reps] at r
      obtain ⟨v, ws, rfl, r1, r2⟩ := r
      rw [repB.mp r1, boolsOf_ok q r2]
      rfl
    · cases e
theorem intsOf_ok {K : Fg} {R : Ap} {n : Nat} {μ : Nat → Addr} {H : Hp} : ∀ {ds : List D} {bs : List Int} {vs : List V}, intsOf ds = some bs → Reps K R n μ H ds vs → vs = bs.map V.int
  | [], _, _, e, r => by simp only [intsOf] at e; cases e; simp only [Reps] at r; subst r; rfl
  | d :: ds, bs, vs, e, r => by
    cases d <;> simp only [intsOf] at e <;> try (cases e; done)
    split at e
    · rename_i l q
      cases e
      simp only [Reps] at r
      obtain ⟨v, ws, rfl, r1, r2⟩ := r
      rw [repI.mp r1, intsOf_ok q r2]
      rfl
    · cases e
theorem strsOf_ok {K : Fg} {R : Ap} {n : Nat} {μ : Nat → Addr} {H : Hp} : ∀ {ds : List D} {bs : List Str} {vs : List V}, strsOf ds = some bs → Reps K R n μ H ds vs → vs = bs.map V.str
  | [], _, _, e, r => by simp only [strsOf] at e; cases e; simp only [Reps] at r; subst r; rfl
  | d :: ds, bs, vs, e, r => by
    cases d <;> simp only [strsOf] at e <;> try (cases e; done)
    split at e
    · rename_i l q
      cases e
      simp only [Reps] at r
      obtain ⟨v, ws, rfl, r1, r2⟩ := r
      rw [repS.mp r1, strsOf_ok q r2]
      rfl
    · cases e
def biV : Bi → Value
  | .len => .builtin "len" | .int1 => .type "int" | .abs1 => .builtin "abs" | .min2 => .builtin "min" | .max2 => .builtin "max"
  | .tuple1 => .type "tuple" | .list1 => .type "list" | .all1 => .builtin "all" | .sum1 => .builtin "sum" | .str1 => .type "str"
theorem reps_strs {K : Fg} {R : Ap} {n : Nat} {μ : Nat → Addr} {H : Hp} : ∀ (ys : List Str), Reps K R n μ H (ys.map D.str) (ys.map V.str)
  | [] => by simp [Reps]
  | y :: ys => by
    simp only [List.map_cons, Reps]
    exact ⟨_, _, rfl, repS.mpr rfl, reps_strs ys⟩
theorem biF_ok (hc : X.calm = true) {f : Bi} {m : Bool} : CallR X (biV f) (rBi X.K X.mg f m) := by
  intro pins s σ H xs us Q I rx hq
  obtain ⟨E, R, μ, h, ds, S, r, p⟩ := hq
  unfold biF at p
  split at p
  · rename_i d
    obtain ⟨v, rfl, r1⟩ := reps1.mp r
    split at p
    · rename_i n q
      refine call_len pins s σ H _ us Q I rx ⟨v, ?_⟩
      have pi := p.int S
      unfold lenD at q
      split at q
      · split at q
        · cases q
          cases repS.mp r1
          exact ⟨_, rfl, ⟨by assumption, rfl⟩, pi⟩
        · cases q
      · cases q
        simp only [Rep] at r1
        obtain ⟨a, ys, rfl, sq, ra⟩ := r1
        exact ⟨_, rfl, .inr ⟨_, sq, ra.length⟩, pi⟩
      · cases q
        simp only [Rep] at r1
        obtain ⟨a, rfl, sq⟩ := r1
        exact ⟨_, rfl, .inl ⟨_, sq.sq, by rw [List.length_map]⟩, pi⟩
      · split at q
        · rename_i l q'
          cases q
          obtain ⟨a, ys, rfl, sq, ra⟩ := r1.lst_of S q'
          exact ⟨_, rfl, .inl ⟨_, SqL.of sq, ra.length⟩, pi⟩
        · cases q
    · exact p.elim
  · obtain ⟨v, rfl, r1⟩ := reps1.mp r
    cases repI.mp r1
    exact call_int1 pins s σ H _ us Q I rx (.inl ⟨_, rfl, p.int S⟩)
  · obtain ⟨v, rfl, r1⟩ := reps1.mp r
    cases repB.mp r1
    exact call_int1 pins s σ H _ us Q I rx (.inr ⟨_, rfl, p.int S⟩)
  · obtain ⟨v, rfl, r1⟩ := reps1.mp r
    cases repS.mp r1
    split at p
    · rename_i n hn
      split at p
      · rename_i hl
        exact call_int_str pins s σ H _ us Q I rx ⟨_, _, rfl, hn, hl, p.int S⟩
      · exact p.elim
    · exact p.elim
  · obtain ⟨v, rfl, r1⟩ := reps1.mp r
    cases repI.mp r1
    exact call_abs pins s σ H _ us Q I rx ⟨_, rfl, p.int S⟩
  · obtain ⟨v, w, rfl, r1, r2⟩ := reps2.mp r
    cases repI.mp r1; cases repI.mp r2
    exact call_min2 hc pins s σ H _ us Q I rx ⟨_, _, rfl, p.int S⟩
  · obtain ⟨v, w, rfl, r1, r2⟩ := reps2.mp r
    cases repI.mp r1; cases repI.mp r2
    exact call_max2 hc pins s σ H _ us Q I rx ⟨_, _, rfl, p.int S⟩
  · obtain ⟨v, rfl, r1⟩ := reps1.mp r
    split at p
    · rename_i l q
      obtain ⟨a, ys, rfl, sq, ra⟩ := r1.seq_of S q
      refine call_tuple_of pins s σ H _ us Q I rx ⟨a, ys, rfl, ?_⟩
      rcases sq with sq | sq
      · exact .inl ⟨sq, tup_ok S ra p⟩
      · refine .inr ⟨sq, p.val S ?_⟩
        simp only [Rep]
        exact ⟨a, ys, rfl, sq, ra⟩
    · exact p.elim
  · obtain ⟨v, rfl, r1⟩ := reps1.mp r
    split at p
    · rename_i l q
      obtain ⟨a, ys, rfl, sq, ra⟩ := r1.seq_of S q
      exact call_list_of pins s σ H _ us Q I rx ⟨a, ys, rfl, sq, lst_ok S ra p⟩
    · exact p.elim
  · obtain ⟨v, rfl, r1⟩ := reps1.mp r
    split at p
    · rename_i bs q
      obtain ⟨l, q1, q2⟩ := Option.bind_eq_some_iff.mp q
      obtain ⟨a, ys, rfl, sq, ra⟩ := r1.lst_of S q1
      rw [boolsOf_ok q2 ra] at sq
      exact cr_all hc pins s σ H _ us Q I rx ⟨a, bs, rfl, SqL.of sq, p.bl S⟩
    · exact p.elim
  · obtain ⟨v, rfl, r1⟩ := reps1.mp r
    split at p
    · rename_i bs q
      obtain ⟨l, q1, q2⟩ := Option.bind_eq_some_iff.mp q
      obtain ⟨a, ys, rfl, sq, ra⟩ := r1.lst_of S q1
      rw [intsOf_ok q2 ra] at sq
      exact cr_sum hc pins s σ H _ us Q I rx ⟨a, bs, rfl, SqL.of sq, p.int S⟩
    · exact p.elim
  · obtain ⟨v, rfl, r1⟩ := reps1.mp r
    split at p
    · cases repI.mp r1
      exact call_str_int pins s σ H _ us Q I rx ⟨_, rfl, by assumption, p.str S⟩
    · exact p.elim
  · exact p.elim

def rMt (K : Fg) (mg : Mg) (f : Mt) (m : Bool) : V → List V → Hp → VK → Prop := fun x vs H Q => ∃ E R μ h d ds, SimH K R μ H h ∧ Rep K R h.length μ H d x ∧ Reps K R h.length μ H ds vs ∧ Post K mg E R h.length μ H (PV K R Q) (mtF f m d ds h)
def mtId : Mt → String
  | .append => "list.append" | .pop0 => "list.pop" | .pop => "list.pop" | .popAt => "list.pop" | .index => "list.index" | .join => "str.join" | .split => "str.split" | .get2 => "dict.get" | .popK => "dict.pop"
def mtT : Mt → String
  | .append => "list" | .pop0 => "list" | .pop => "list" | .popAt => "list" | .index => "list" | .join => "str" | .split => "str" | .get2 => "dict" | .popK => "dict"
def mtName : Mt → Str
  | .append => "append" | .pop0 => "pop" | .pop => "pop" | .popAt => "pop" | .index => "index" | .join => "join" | .split => "split" | .get2 => "get" | .popK => "pop"
theorem Reps.eraseIdx {K : Fg} {R : Ap} {n : Nat} {μ : Nat → Addr} {H : Hp} : ∀ {ds : List D} {vs : List V} {k : Nat}, Reps K R n μ H ds vs → Reps K R n μ H (ds.eraseIdx k) (vs.eraseIdx k)
  | [], vs, k, r => by
    simp only [Reps] at r
    subst r
    simp only [List.eraseIdx_nil, Reps]
  | d :: ds, vs, k, r => by
    simp only [Reps] at r
    obtain ⟨v, ws, rfl, r1, r2⟩ := r
    cases k with
    | zero => exact r2
    | succ k =>
      simp only [List.eraseIdx_cons_succ, Reps]
      exact ⟨v, _, rfl, r1, Reps.eraseIdx r2⟩
theorem mtF_ok (hw : Tabs.w = X.w) (hu : X.A.units + 65 < cLine) {f : Mt} {m : Bool} : MtM X (mtId f) (rMt X.K X.mg f m) := by
  intro pins s σ H x xs v us Q I rx rxs hq
  obtain ⟨E, R, μ, h, d, ds, S, r, rs, p⟩ := hq
  unfold mtF at p
  split at p
  · rename_i n d
    obtain ⟨w, rfl, rw'⟩ := reps1.mp rs
    simp only [Rep] at r
    obtain ⟨hn, rfl⟩ := r
    split at p
    · rename_i ys q
      split at p
      · rename_i hl
        obtain ⟨zs, e, ra⟩ := S.obj n _ q
        refine mt_append pins s σ H _ _ v us Q I rx rxs ⟨_, zs, w, rfl, rfl, e, by rw [← ra.length]; exact hl, ?_⟩
        have e' : Ext h.length μ H (h.set n (O.lst (ys ++ [d]))).length μ (upd H (μ n) (.lst (zs ++ [w]))) := by rw [List.length_set]; exact Ext.set hn
        exact p μ _ e' (S.set hn (ra.append (reps1.mpr ⟨w, rfl, rw'⟩))) _ (repN.mpr rfl)
      · exact p.elim
    · exact p.elim
  · rename_i n
    simp only [Reps] at rs
    subst rs
    simp only [Rep] at r
    obtain ⟨hn, rfl⟩ := r
    split at p
    · rename_i ys q
      split at p
      · rename_i y q2
        obtain ⟨zs, e, ra⟩ := S.obj n _ q
        rw [ra.length] at q2
        obtain ⟨w, q3, rw'⟩ := ra.get q2
        refine mt_pop pins s σ H _ _ v us Q I rx rxs ⟨_, zs, w, rfl, rfl, e, q3, ?_⟩
        have e' : Ext h.length μ H (h.set n (O.lst ys.dropLast)).length μ (upd H (μ n) (.lst zs.dropLast)) := by rw [List.length_set]; exact Ext.set hn
        refine p μ _ e' (S.set hn ra.dropLast) _ ?_
        exact Rep.mono S e' _ _ rw'
      · exact p.elim
    · exact p.elim
  · rename_i n i
    obtain ⟨w, rfl, rw'⟩ := reps1.mp rs
    cases repI.mp rw'
    simp only [Rep] at r
    obtain ⟨hn, rfl⟩ := r
    split at p
    · rename_i ys q
      split at p
      · rename_i hi
        split at p
        · rename_i k qk
          split at p
          · rename_i y q2
            obtain ⟨zs, e, ra⟩ := S.obj n _ q
            obtain ⟨w, q3, rw'⟩ := ra.get q2
            rw [ra.length] at qk
            refine mt_popAt pins s σ H _ _ v us Q I rx rxs ⟨_, zs, i, k, w, rfl, rfl, e, hi.1, hi.2, qk, q3, ?_⟩
            have e' : Ext h.length μ H (h.set n (O.lst (ys.eraseIdx k))).length μ (upd H (μ n) (.lst (zs.eraseIdx k))) := by rw [List.length_set]; exact Ext.set hn
            refine p μ _ e' (S.set hn ra.eraseIdx) _ ?_
            exact Rep.mono S e' _ _ rw'
          · exact p.elim
        · exact p.elim
      · exact p.elim
    · exact p.elim
  · rename_i s0 d
    obtain ⟨w, rfl, rw'⟩ := reps1.mp rs
    cases repS.mp r
    split at p
    · rename_i ys q
      split at p
      · obtain ⟨l, q1, q2⟩ := Option.bind_eq_some_iff.mp q
        obtain ⟨a, zs, rfl, sq, ra⟩ := rw'.seq_of S q1
        rw [strsOf_ok q2 ra] at sq
        exact mt_join pins s σ H _ _ v us Q I rx rxs ⟨s0, a, ys, rfl, rfl, sq, by assumption, p.str S⟩
      · exact p.elim
    · exact p.elim
  · rename_i k x0
    obtain ⟨y, z, rfl, rk, rx0⟩ := reps2.mp rs
    obtain ⟨u1, u2, rfl, ry, rz⟩ := Vals.two rxs
    split at p
    · rename_i kvs e1
      split at p
      · rename_i ko
        obtain ⟨a, rfl, dv⟩ := asD_of S r e1
        obtain rfl : v = Value.ref a := rx
        exact dv_get2 hw (by omega) I dv ko rk ry rx0 rz fun vv w' s' rv rw' I' => ⟨vv, H, I', rw', p.val S rv⟩
      · exact p.elim
    · exact p.elim
  · rename_i n k
    obtain ⟨y, rfl, rk⟩ := reps1.mp rs
    obtain ⟨u1, rfl, ry⟩ := Vals.one rxs
    simp only [Rep] at r
    obtain ⟨hn, rfl⟩ := r
    obtain rfl : v = Value.ref (μ n) := rx
    split at p
    · rename_i kvs q
      split at p
      · rename_i c
        split at p
        · rename_i vd e2
          have dv : DV X.K R h.length μ H (μ n) kvs := S.obj n _ q
          obtain ⟨kk, hH, e3, r3⟩ := dv_B dv c.2
          obtain ⟨k, rfl⟩ := keyB_of c.1
          cases rep_keyD rk
          rcases valV_dget (k := k) e3 r3 with ⟨z1, _⟩ | ⟨d', vv, z1, z2, rv⟩
          · rw [z1] at e2; cases e2
          · rw [z1] at e2; cases e2
            refine d_pop I hH ry z2 (.inl rfl) fun w' s' I' rw' => ⟨vv, _, I', rw', ?_⟩
            have e' : Ext h.length μ H (h.set n (O.dct (ddel kvs (keyD k)))).length μ (upd H (μ n) (.dK (dropK kk k))) := by rw [List.length_set]; exact Ext.set hn
            refine p μ _ e' (S.put hn fun e5 => ?_) _ (Rep.mono S e' _ _ rv)
            obtain ⟨d1, d2⟩ := dropK_ddel (k := k) e3 r3
            refine ⟨(dropK kk k).map fun p => kV p.1, _, .inl ⟨_, upd_same, d1, rfl, rfl⟩, ?_, Reps.mono S e5 _ _ d2⟩
            rw [d1]
            exact reps_keys _
        · exact p.elim
      · exact p.elim
    · exact p.elim
  · obtain ⟨w, rfl, rw'⟩ := reps1.mp rs
    cases repS.mp r
    cases repS.mp rw'
    split at p
    · rename_i c
      exact mt_split pins s σ H _ _ v us Q I rx rxs ⟨_, _, rfl, rfl, c.1, c.2, lst_ok S (reps_strs _) p⟩
    · exact p.elim
  · exact p.elim
end
end Ev
namespace Ev
open PySem L2
variable [Tabs]
mutual
def noLoc (n : Nat) : D → Bool
  | .tup ds => noLocs n ds
  | .lst ds => noLocs n ds
  | .loc l => decide (l < n)
  | .dct ks vs => noLocs n ks && noLocs n vs
  | .ins _ _ ds => noLocs n ds
  | .clo _ ds => noLocs n ds
  | _ => true
def noLocs (n : Nat) : List D → Bool
  | [] => true
  | d :: ds => noLoc n d && noLocs n ds
end
def noLocO (n : Nat) : O → Bool
  | .lst ds => noLocs n ds
  | .dct kvs => noLocs n (kvs.map (·.1)) && noLocs n (kvs.map (·.2))
  | .ins _ fs => noLocs n (fs.map (·.2))
def frz (h : LH) (n : Nat) : Nat → D → D
  | 0, d => d
  | f + 1, .loc l => if l < n then .loc l else match h[l]? with
    | some (.lst ds) => .lst (ds.map (frz h n f))
    | some (.dct kvs) => .dct (kvs.map fun p => frz h n f p.1) (kvs.map fun p => frz h n f p.2)
    | some (.ins c fs) => .ins c (fs.map (·.1)) (fs.map fun p => frz h n f p.2)
    | none => .loc l
  | f + 1, .dct ks vs => .dct (ks.map (frz h n f)) (vs.map (frz h n f))
  | f + 1, .ins c fs ds => .ins c fs (ds.map (frz h n f))
  | f + 1, .clo i ds => .clo i (ds.map (frz h n f))
  | f + 1, .tup ds => .tup (ds.map (frz h n f))
  | f + 1, .lst ds => .lst (ds.map (frz h n f))
  | _ + 1, d => d
section
variable {K : Fg} {R : Ap} {n n1 : Nat} {μ : Nat → Addr} {H : Hp} {h : LH}
mutual
theorem Rep.noLoc : ∀ (d : D) (v : V), Rep K R n μ H d v → noLoc n d = true
  | .non, _, _ => rfl
  | .bl _, _, _ => rfl
  | .int _, _, _ => rfl
  | .str _, _, _ => rfl
  | .tup ds, v, r => by
    simp only [Rep] at r
    obtain ⟨a, xs, _, _, r⟩ := r
    simp only [Ev.noLoc]
    exact Reps.noLocs ds xs r
  | .lst ds, v, r => by
    simp only [Rep] at r
    obtain ⟨a, xs, _, _, _, r⟩ := r
    simp only [Ev.noLoc]
    exact Reps.noLocs ds xs r
  | .loc l, v, r => by
    simp only [Rep] at r
    simp only [Ev.noLoc, decide_eq_true_eq]
    exact r.1
  | .scr _, _, _ => rfl
  | .dct ks vs, v, r => by
    simp only [Rep] at r
    obtain ⟨a, kws, ws, _, _, _, r1, r2⟩ := r
    simp only [Ev.noLoc, Reps.noLocs ks kws r1, Reps.noLocs vs ws r2]
    rfl
  | .ins c fs ds, v, r => by
    simp only [Rep] at r
    obtain ⟨a, C, dx, ws, _, _, _, _, _, r⟩ := r
    simp only [Ev.noLoc]
    exact Reps.noLocs ds ws r
  | .clo i cs, v, r => by
    simp only [Rep] at r
    obtain ⟨f, L, cl, c, ws, _, _, _, _, _, _, _, r⟩ := r
    simp only [Ev.noLoc]
    exact Reps.noLocs cs ws r
theorem Reps.noLocs : ∀ (ds : List D) (vs : List V), Reps K R n μ H ds vs → noLocs n ds = true
  | [], _, _ => rfl
  | d :: ds, vs, r => by
    simp only [Reps] at r
    obtain ⟨v, ws, rfl, r1, r2⟩ := r
    simp only [Ev.noLocs, Rep.noLoc d v r1, Reps.noLocs ds ws r2]
    rfl
end
theorem Unr.cut (hn : n ≤ n1) {a : Addr} (u : Unr R n1 μ a) : Unr R n μ a := ⟨u.1, fun l hl => u.2 l (Nat.lt_of_lt_of_le hl hn)⟩
mutual
theorem Rep.cut (hn : n ≤ n1) : ∀ (d : D) (v : V), noLoc n d = true → Rep K R n1 μ H d v → Rep K R n μ H d v
  | .non, _, _, r => by simpa only [Rep] using r
  | .bl _, _, _, r => by simpa only [Rep] using r
  | .int _, _, _, r => by simpa only [Rep] using r
  | .str _, _, _, r => by simpa only [Rep] using r
  | .tup ds, v, q, r => by
    simp only [Rep] at r ⊢
    simp only [Ev.noLoc] at q
    obtain ⟨a, xs, e, s, r⟩ := r
    exact ⟨a, xs, e, s, Reps.cut' hn ds xs q r⟩
  | .lst ds, v, q, r => by
    simp only [Rep] at r ⊢
    simp only [Ev.noLoc] at q
    obtain ⟨a, xs, e, s, u, r⟩ := r
    exact ⟨a, xs, e, s, u.cut hn, Reps.cut' hn ds xs q r⟩
  | .loc l, v, q, r => by
    simp only [Rep] at r ⊢
    simp only [Ev.noLoc, decide_eq_true_eq] at q
    exact ⟨q, r.2⟩
  | .scr _, _, _, r => by simpa only [Rep] using r
  | .dct ks vs, v, q, r => by
    simp only [Rep] at r ⊢
    simp only [Ev.noLoc, Bool.and_eq_true] at q
    obtain ⟨a, kws, ws, e, d, u, r1, r2⟩ := r
    exact ⟨a, kws, ws, e, d, u.cut hn, Reps.cut' hn ks kws q.1 r1, Reps.cut' hn vs ws q.2 r2⟩
  | .ins c fs ds, v, q, r => by
    simp only [Rep] at r ⊢
    simp only [Ev.noLoc] at q
    obtain ⟨a, C, dx, ws, e, c, s, l, u, r⟩ := r
    exact ⟨a, C, dx, ws, e, c, s, l, u.cut hn, Reps.cut' hn ds ws q r⟩
  | .clo i cs, v, q, r => by
    simp only [Rep] at r ⊢
    simp only [Ev.noLoc] at q
    obtain ⟨f, L, cl, c, ws, e, e1, e2, u1, e3, u2, e4, r⟩ := r
    exact ⟨f, L, cl, c, ws, e, e1, e2, u1.cut hn, e3, u2.cut hn, e4.keep fun a o u e => ⟨e, u.cut hn⟩, Reps.cut' hn cs ws q r⟩
theorem Reps.cut' (hn : n ≤ n1) : ∀ (ds : List D) (vs : List V), noLocs n ds = true → Reps K R n1 μ H ds vs → Reps K R n μ H ds vs
  | [], _, _, r => by simpa only [Reps] using r
  | d :: ds, vs, q, r => by
    simp only [Reps] at r ⊢
    simp only [Ev.noLocs, Bool.and_eq_true] at q
    obtain ⟨v, ws, e, r1, r2⟩ := r
    exact ⟨v, ws, e, Rep.cut hn d v q.1 r1, Reps.cut' hn ds ws q.2 r2⟩
end
/-- keys bear no locations -/
theorem frz_nk : ∀ (f : Nat) {d : D} {k : NestedKey}, nk d = some k → Ev.frz h n f d = d
  | 0, _, _, _ => rfl
  | f + 1, .tup ds, k, e => by
    simp only [nk] at e
    split at e
    · rename_i l q
      simp only [Ev.frz]
      have all : ∀ (ds : List D) (l : List NestedKey), nks ds = some l → ds.map (Ev.frz h n f) = ds := by
        intro ds
        induction ds with
        | nil => intro l _; rfl
        | cons d ds ih =>
          intro l e
          simp only [nks] at e
          split at e
          · rename_i x l' q1 q2
            rw [List.map_cons, frz_nk f q1, ih l' q2]
          · cases e
      rw [all ds l q]
    · cases e
  | f + 1, .non, _, _ => rfl
  | f + 1, .int _, _, _ => rfl
  | f + 1, .str _, _, _ => rfl
  | f + 1, .bl _, _, e => by simp [nk] at e
  | f + 1, .lst _, _, e => by simp [nk] at e
  | f + 1, .loc _, _, e => by simp [nk] at e
  | f + 1, .scr _, _, e => by simp [nk] at e
  | f + 1, .dct _ _, _, e => by simp [nk] at e
  | f + 1, .ins _ _ _, _, e => by simp [nk] at e
  | f + 1, .clo _ _, _, e => by simp [nk] at e
theorem frz_keyD (f : Nat) (k : Key) : Ev.frz h n f (keyD k) = keyD k := by
  cases k <;> cases f <;> rfl
theorem DRaw.frz_keys {a : Addr} {ks : List D} {kws ws : List V} (d : DRaw H a ks kws ws) (f : Nat) : ks.map (Ev.frz h n f) = ks := by
  rcases d with ⟨kvs, _, e, _⟩ | ⟨xs, _, _, e, _⟩
  · rw [e, List.map_map]
    exact List.map_congr_left fun p _ => frz_keyD f p.1
  · have all : ∀ (ks : List D) (xs : List (NestedKey × Addr × V)), ks.map nk = xs.map (fun x => some x.1) → ks.map (Ev.frz h n f) = ks := by
      intro ks
      induction ks with
      | nil => intro _ _; rfl
      | cons k ks ih =>
        intro xs e
        cases xs with
        | nil => simp at e
        | cons x xs =>
          simp only [List.map_cons, List.cons.injEq] at e
          rw [List.map_cons, frz_nk f e.1, ih xs e.2]
    exact all ks xs e
theorem Rep.frz (S : SimH K R μ H h) (hn : n ≤ h.length) : ∀ (f : Nat) (d : D) (v : V), Ev.noLoc n (Ev.frz h n f d) = true → Rep K R h.length μ H d v → Rep K R n μ H (Ev.frz h n f d) v
  | 0, d, v, q, r => Rep.cut hn d v q r
  | f + 1, d, v, q, r => by
    have all : ∀ (ds : List D) (vs : List V), Ev.noLocs n (ds.map (Ev.frz h n f)) = true → Reps K R h.length μ H ds vs → Reps K R n μ H (ds.map (Ev.frz h n f)) vs := by
      intro ds
      induction ds with
      | nil => intro vs _ r; simpa only [Reps, List.map_nil] using r
      | cons d ds ih =>
        intro vs q r
        simp only [List.map_cons, Ev.noLocs, Bool.and_eq_true] at q
        simp only [Reps, List.map_cons] at r ⊢
        obtain ⟨v, ws, e, r1, r2⟩ := r
        exact ⟨v, ws, e, Rep.frz S hn f d v q.1 r1, ih ws q.2 r2⟩
    cases d with
    | tup ds =>
      simp only [Ev.frz, Ev.noLoc] at q
      simp only [Ev.frz, Rep] at r ⊢
      obtain ⟨a, xs, e, s, r⟩ := r
      exact ⟨a, xs, e, s, all ds xs q r⟩
    | lst ds =>
      simp only [Ev.frz, Ev.noLoc] at q
      simp only [Ev.frz, Rep] at r ⊢
      obtain ⟨a, xs, e, s, u, r⟩ := r
      exact ⟨a, xs, e, s, u.cut hn, all ds xs q r⟩
    | dct ks vs =>
      simp only [Ev.frz, Ev.noLoc, Bool.and_eq_true] at q
      simp only [Ev.frz, Rep] at r ⊢
      obtain ⟨a, kws, ws, e, s, u, r1, r2⟩ := r
      have ek := s.frz_keys (h := h) (n := n) f
      exact ⟨a, kws, ws, e, by rw [ek]; exact s, u.cut hn, all ks kws q.1 r1, all vs ws q.2 r2⟩
    | ins c fs ds =>
      simp only [Ev.frz, Ev.noLoc] at q
      simp only [Ev.frz, Rep] at r ⊢
      obtain ⟨a, C, dx, ws, e, c, s, l, u, r⟩ := r
      exact ⟨a, C, dx, ws, e, c, s, l, u.cut hn, all ds ws q r⟩
    | clo i cs =>
      simp only [Ev.frz, Ev.noLoc] at q
      simp only [Ev.frz, Rep] at r ⊢
      obtain ⟨g, L, cl, c, ws, e, e1, e2, u1, e3, u2, e4, r⟩ := r
      exact ⟨g, L, cl, c, ws, e, e1, e2, u1.cut hn, e3, u2.cut hn, e4.keep fun a o u e => ⟨e, u.cut hn⟩, all cs ws q r⟩
    | loc l =>
      simp only [Ev.frz] at q ⊢
      split
      · rename_i hl
        simp only [Rep] at r ⊢
        exact ⟨hl, r.2⟩
      · rename_i hl
        rw [if_neg hl] at q
        have un : ∀ {l2}, l2 = l → l < h.length → Unr R n μ (μ l2) := fun {l2} e hl2 => by
          subst e
          refine ⟨S.sep l2 hl2, fun l' hl' z => hl ?_⟩
          rw [← S.inj l' l2 (Nat.lt_of_lt_of_le hl' hn) hl2 z]
          exact hl'
        split at q
        · rename_i ds e
          simp only [Ev.noLoc] at q
          simp only [Rep] at r
          obtain ⟨hl2, rfl⟩ := r
          obtain ⟨xs, e1, ra⟩ := S.obj l _ e
          simp only [Rep]
          exact ⟨μ l, xs, rfl, e1, un rfl hl2, all ds xs q ra⟩
        · rename_i kvs e
          simp only [Ev.noLoc, Bool.and_eq_true] at q
          simp only [Rep] at r
          obtain ⟨hl2, rfl⟩ := r
          obtain ⟨kws, ws, e1, r1, r2⟩ := S.obj l _ e
          have ek := e1.frz_keys (h := h) (n := n) f
          rw [List.map_map] at ek
          have ek : (kvs.map fun p => Ev.frz h n f p.1) = kvs.map (·.1) := ek
          have ev : (kvs.map fun p => Ev.frz h n f p.2) = (kvs.map (·.2)).map (Ev.frz h n f) := by rw [List.map_map]; rfl
          simp only [Rep]
          refine ⟨μ l, kws, ws, rfl, by rw [ek]; exact e1, un rfl hl2, ?_, by rw [ev] at q ⊢; exact all _ ws q.2 r2⟩
          have ek2 : (kvs.map fun p => Ev.frz h n f p.1) = (kvs.map (·.1)).map (Ev.frz h n f) := by rw [List.map_map]; rfl
          rw [ek2] at q ⊢
          exact all _ kws q.1 r1
        · rename_i c fs e
          simp only [Ev.noLoc] at q
          simp only [Rep] at r
          obtain ⟨hl2, rfl⟩ := r
          obtain ⟨C, dx, ws, c1, e1, ra⟩ := S.obj l _ e
          have ev : (fs.map fun p => Ev.frz h n f p.2) = (fs.map (·.2)).map (Ev.frz h n f) := by rw [List.map_map]; rfl
          have hlen := ra.length
          simp only [Rep]
          exact ⟨μ l, C, dx, ws, rfl, c1, e1, by simpa using hlen, un rfl hl2, by rw [ev] at q ⊢; exact all _ ws q ra⟩
        · rename_i e
          exact Rep.cut hn _ _ q r
    | non => exact Rep.cut hn _ _ q r
    | bl _ => exact Rep.cut hn _ _ q r
    | int _ => exact Rep.cut hn _ _ q r
    | str _ => exact Rep.cut hn _ _ q r
    | scr _ => exact Rep.cut hn _ _ q r
theorem RepO.cut (hn : n ≤ n1) {a : Addr} {o : O} (q : noLocO n o = true) (r : RepO K R n1 μ H a o) : RepO K R n μ H a o := by
  cases o with
  | lst ds =>
    obtain ⟨xs, e, ra⟩ := r
    exact ⟨xs, e, Reps.cut' hn ds xs q ra⟩
  | dct kvs =>
    obtain ⟨kws, ws, e, r1, r2⟩ := r
    simp only [noLocO, Bool.and_eq_true] at q
    exact ⟨kws, ws, e, Reps.cut' hn _ kws q.1 r1, Reps.cut' hn _ ws q.2 r2⟩
  | ins c fs =>
    obtain ⟨C, dx, ws, c1, e, ra⟩ := r
    exact ⟨C, dx, ws, c1, e, Reps.cut' hn _ ws q ra⟩
theorem RepO.noLocO {a : Addr} {o : O} (r : RepO K R n μ H a o) : Ev.noLocO n o = true := by
  cases o with
  | lst ds =>
    obtain ⟨xs, e, ra⟩ := r
    exact Reps.noLocs ds xs ra
  | dct kvs =>
    obtain ⟨kws, ws, e, r1, r2⟩ := r
    simp only [Ev.noLocO, Reps.noLocs _ kws r1, Reps.noLocs _ ws r2]
    rfl
  | ins c fs =>
    obtain ⟨C, dx, ws, c1, e, ra⟩ := r
    exact Reps.noLocs _ ws ra
/-- the run's result is promised as s -/
inductive Fin (h : LH) : Res D → Res D → Prop
  | same (r : Res D) : Fin h r r
  | frz (f : Nat) {d : D} {h1 : LH} (hl : h.length ≤ h1.length) (hp : ∀ l o, l < h.length → h1[l]? = some o → h[l]? = some o ∨ noLocO h.length o = true) (hd : noLoc h.length (frz h1 h.length f d) = true) : Fin h (.ok d h1) (.ok (frz h1 h.length f d) (h1.take h.length))
theorem Fin.post {K : Fg} {mg : Mg} {E : XK} {R : Ap} {μ : Nat → Addr} {H : Hp} {h : LH} {r s : Res D} {Q : VK} (S : SimH K R μ H h) (f : Fin h r s) (p : Post K mg E R h.length μ H (PV K R Q) s) : Post K mg E R h.length μ H (PV K R Q) r := by
  cases f with
  | same => exact p
  | frz f hl hp hd =>
    rename_i d h1
    intro μ1 H1 e1 S1 v rv
    have ht : (h1.take h.length).length = h.length := by rw [List.length_take]; omega
    have e2 : Ext h.length μ H (h1.take h.length).length μ1 H1 := by
      rw [ht]
      exact ⟨Nat.le_refl _, e1.agree, e1.keep, fun l a b => absurd (Nat.lt_of_lt_of_le b a) (Nat.lt_irrefl _)⟩
    have S2 : SimH K R μ1 H1 (h1.take h.length) := by
      refine ⟨fun l hl' => S1.sep l (by rw [ht] at hl'; omega), S1.apl, fun i j hi hj => S1.inj i j (by rw [ht] at hi; omega) (by rw [ht] at hj; omega), fun l o e => ?_⟩
      have hl2 := (List.getElem?_eq_some_iff.mp e).1
      rw [ht] at hl2
      rw [List.getElem?_take_of_lt hl2] at e
      have ro := S1.obj l o e
      rw [ht]
      refine ro.cut hl ?_
      rcases hp l _ hl2 e with z | z
      · exact (S.obj l _ z).noLocO
      · exact z
    refine p μ1 H1 e2 S2 v ?_
    rw [ht]
    exact Rep.frz S1 hl f d v hd rv
end
open Classical in
noncomputable def frzR (f : Nat) (h : LH) : Res D → Res D
  | .ok d h1 => if h.length ≤ h1.length ∧ (∀ l o, l < h.length → h1[l]? = some o → h[l]? = some o ∨ noLocO h.length o = true) ∧ noLoc h.length (frz h1 h.length f d) = true then .ok (frz h1 h.length f d) (h1.take h.length) else .no
  | r => r
theorem frzR_fin {f : Nat} {h : LH} {r : Res D} : frzR f h r = .no ∨ Fin h r (frzR f h r) := by
  cases r with
  | ok d h1 =>
    by_cases c : h.length ≤ h1.length ∧ (∀ l o, l < h.length → h1[l]? = some o → h[l]? = some o ∨ noLocO h.length o = true) ∧ noLoc h.length (frz h1 h.length f d) = true
    · right
      simp only [frzR]
      rw [if_pos c]
      exact Fin.frz f c.1 c.2.1 c.2.2
    · left
      simp only [frzR]
      rw [if_neg c]
  | ex x h1 => exact .inr (.same _)
  | no => exact .inl rfl
end Ev
namespace Ev
open PySem L2
variable [Tabs]
def visB (sc : Scope) (x : Str) : Bool := match sc.names.lookup x with
  | some .local => true
  | some .cell => true
  | some .free => true
  | _ => false
def locB (sc : Scope) (x : Str) : Bool := match sc.names.lookup x with
  | some .local => true
  | some .cell => true
  | _ => false
def glB (sc : Scope) (x : Str) : Bool := decide (sc.names.lookup x = some .globalImplicit)
def noDbg (x : Str) : Bool := !(x == ("__debug__" : Str)) && !(x == ("__classdict__" : Str)) && decide (x ≠ "__name__")
def biName : Bi → Str
  | .len => "len" | .int1 => "int" | .abs1 => "abs" | .min2 => "min" | .max2 => "max" | .tuple1 => "tuple" | .list1 => "list" | .all1 => "all" | .sum1 => "sum" | .str1 => "str"
/-- the built-in names that a program here may use -/
def BN : List Str := ["len", "int", "abs", "min", "max", "tuple", "list", "all", "sum", "str", "isinstance", "bool", "range", "sorted", "enumerate", "zip", "set", "dict"]
def isStarredE : Expr → Bool
  | .Starred .. => true
  | _ => false
def isCallE : Expr → Bool
  | .Call .. => true
  | _ => false
def isCompE : Expr → Bool
  | .ListComp .. => true
  | .SetComp .. => true
  | .DictComp .. => true
  | _ => false
def isSliceE : Expr → Bool
  | .Slice .. => true
  | _ => false
def isSetE : Expr → Bool
  | .Set .. => true
  | _ => false
mutual
/-- targets, of names in the slots N that st allows to be stored -/
def chkTg (N : List Str) (st : Str → Bool) : T → Expr → Bool
  | .nm i, .Name x _ => decide (N[i]? = some x) && st x
  | .tp ts, .Tuple es _ _ => chkTgs N st ts es
  | _, _ => false
def chkTgs (N : List Str) (st : Str → Bool) : List T → List Expr → Bool
  | [], [] => true
  | t :: ts, e :: es => !isStarredE e && chkTg N st t e && chkTgs N st ts es
  | _, _ => false
end
mutual
def tSlots : T → List Nat
  | .nm i => [i]
  | .tp ts => tSlotss ts
def tSlotss : List T → List Nat
  | [] => []
  | t :: ts => tSlots t ++ tSlotss ts
end
def chkOwn (own : List (Str × Nat)) (t : T) : Bool := (tSlots t).all fun i => (own.map (·.2)).contains i
def blkSt (scope : Scope) (x : Str) : Bool := match scope.names.lookup x with
  | some .local => true
  | some .cell => true
  | _ => false
def cmp1 : Expr → Option (Expr × CmpOp × Expr)
  | .Compare l [o] [r] _ => some (l, o, r)
  | _ => none
def cmp2 : Expr → Option (Expr × CmpOp × Expr × CmpOp × Expr)
  | .Compare l [o, o'] [r, r'] _ => some (l, o, r, o', r')
  | _ => none
def sub1 : Expr → Option (Expr × Expr)
  | .Subscript e f _ => some (e, f)
  | _ => none
def slc1 : Expr → Option (Option Expr × Option Expr)
  | .Slice l u none _ => some (l, u)
  | _ => none
/-- a call of a name, without keywords -/
def calN : Expr → Option (Str × List Expr)
  | .Call (.Name n _) fs [] _ => some (n, fs)
  | _ => none
def calM : Expr → Option (Expr × Str × Nat × List Expr × Nat)
  | .Call (.Attribute e n apos) fs [] cpos => some (e, n, apos.endLine, fs, cpos.line)
  | _ => none
def nameE : Expr → Option Str
  | .Name n _ => some n
  | _ => none
def dct1 : Expr → Option (List (Option Expr) × List Expr)
  | .Dict ks vs _ => some (ks, vs)
  | _ => none
def tupL : Expr → Option (List Expr)
  | .Tuple fs _ _ => some fs
  | _ => none
def att1 : Expr → Option (Expr × Str)
  | .Attribute e f _ => some (e, f)
  | _ => none
def rev1 : Expr → Bool
  | .Slice none none (some (.UnaryOp .USub (.Constant (.int 1) _ _) _)) _ => true
  | _ => false
theorem dct1_eq {e : Expr} {ks : List (Option Expr)} {vs : List Expr} (h : dct1 e = some (ks, vs)) : ∃ pos, e = .Dict ks vs pos := by
  unfold dct1 at h; split at h
  · cases h; exact ⟨_, rfl⟩
  · cases h
theorem tupL_eq {e : Expr} {fs : List Expr} (h : tupL e = some fs) : ∃ k pos, e = .Tuple fs k pos := by
  unfold tupL at h; split at h
  · cases h; exact ⟨_, _, rfl⟩
  · cases h
theorem att1_eq {e o : Expr} {f : Str} (h : att1 e = some (o, f)) : ∃ pos, e = .Attribute o f pos := by
  unfold att1 at h; split at h
  · cases h; exact ⟨_, rfl⟩
  · cases h
theorem rev1_eq {e : Expr} (h : rev1 e = true) : ∃ k p1 p2 p3, e = .Slice none none (some (.UnaryOp .USub (.Constant (.int 1) k p1) p2)) p3 := by
  unfold rev1 at h; split at h
  · exact ⟨_, _, _, _, rfl⟩
  · cases h
def isTupE : Expr → Bool
  | .Tuple .. => true
  | _ => false
theorem isTupE_eq {e : Expr} (h : isTupE e = true) : ∃ fs k pos, e = .Tuple fs k pos := by
  cases e <;> simp only [isTupE, Bool.false_eq_true] at h
  exact ⟨_, _, _, rfl⟩
/-- walks that hand out pairs -/
def itTup : E → Bool
  | .zip _ _ => true
  | .enm _ => true
  | _ => false
def lcp1 : Expr → Option (Expr × Expr × Expr × List Expr × Int × Scope)
  | .ListComp e [⟨tg, iter, ifs, a⟩] scope _ => some (e, tg, iter, ifs, a, scope)
  | _ => none
theorem cmp1_eq {e l r : Expr} {o : CmpOp} (h : cmp1 e = some (l, o, r)) : ∃ pos, e = .Compare l [o] [r] pos := by
  unfold cmp1 at h; split at h
  · cases h; exact ⟨_, rfl⟩
  · cases h
theorem cmp2_eq {e l r r' : Expr} {o o' : CmpOp} (h : cmp2 e = some (l, o, r, o', r')) : ∃ pos, e = .Compare l [o, o'] [r, r'] pos := by
  unfold cmp2 at h; split at h
  · cases h; exact ⟨_, rfl⟩
  · cases h
theorem sub1_eq {e l r : Expr} (h : sub1 e = some (l, r)) : ∃ pos, e = .Subscript l r pos := by
  unfold sub1 at h; split at h
  · cases h; exact ⟨_, rfl⟩
  · cases h
theorem slc1_eq {e : Expr} {l r : Option Expr} (h : slc1 e = some (l, r)) : ∃ pos, e = .Slice l r none pos := by
  unfold slc1 at h; split at h
  · cases h; exact ⟨_, rfl⟩
  · cases h
theorem calN_eq {e : Expr} {n : Str} {fs : List Expr} (h : calN e = some (n, fs)) : ∃ p pos, e = .Call (.Name n p) fs [] pos := by
  unfold calN at h; split at h
  · cases h; exact ⟨_, _, rfl⟩
  · cases h
theorem calM_eq {e o : Expr} {n : Str} {a b : Nat} {fs : List Expr} (h : calM e = some (o, n, a, fs, b)) : ∃ apos cpos, e = .Call (.Attribute o n apos) fs [] cpos ∧ apos.endLine = a ∧ cpos.line = b := by
  unfold calM at h; split at h
  · cases h; exact ⟨_, _, rfl, rfl, rfl⟩
  · cases h
theorem nameE_eq {e : Expr} {n : Str} (h : nameE e = some n) : ∃ pos, e = .Name n pos := by
  unfold nameE at h; split at h
  · cases h; exact ⟨_, rfl⟩
  · cases h
theorem lcp1_eq {e elt tg iter : Expr} {ifs : List Expr} {a : Int} {scope : Scope} (h : lcp1 e = some (elt, tg, iter, ifs, a, scope)) : ∃ pos, e = .ListComp elt [⟨tg, iter, ifs, a⟩] scope pos := by
  unfold lcp1 at h; split at h
  · cases h; exact ⟨_, rfl⟩
  · cases h
mutual
def chkE (N : List Str) (sc : Scope) : E → Expr → Bool
  | .var i, .Name x _ => decide (N[i]? = some x) && visB sc x && noDbg x
  | .cst c, .Constant c' _ _ => decide (c = c') && (cstD c).isSome
  | .glob x _, .Name y _ => decide (x = y) && glB sc y && noDbg y
  | .tup es, .Tuple fs _ _ => chkEs N sc es fs
  | .lst _ es, .List fs _ => chkEs N sc es fs
  | .bin op _ a b, .BinOp e o f _ => decide (o = op) && chkE N sc a e && chkE N sc b f
  | .neg a, .UnaryOp o e _ => decide (o = .USub) && chkE N sc a e
  | .not a, .UnaryOp o e _ => decide (o = .Not) && chkE N sc a e
  | .and es, .BoolOp o fs _ => decide (o = .And) && chkEs N sc es fs
  | .or es, .BoolOp o fs _ => decide (o = .Or) && chkEs N sc es fs
  | .cmp op a b, x => match cmp1 x with
    | some (e, o, f) => decide (o = op) && !isSetE f && chkE N sc a e && chkE N sc b f
    | none => false
  | .chn op op' a b c, x => match cmp2 x with
    | some (e, o, f, o', g) => decide (o = op) && decide (o' = op') && !isSetE f && !isSetE g && chkE N sc a e && chkE N sc b f && chkE N sc c g
    | none => false
  | .ite c a b, .IfExp t e f _ => chkE N sc c t && chkE N sc a e && chkE N sc b f
  | .idx a i, x => match sub1 x with
    | some (e, f) => chkE N sc a e && chkE N sc i f && !isSliceE f
    | none => false
  | .slc _ a lo hi, x => match sub1 x with
    | some (e, s) => match slc1 s with
      | some (l, u) => chkE N sc a e && chkO N sc lo l && chkO N sc hi u
      | none => false
    | none => false
  | .isi a ty, x => match calN x with
    | some (n, [e, f]) => match nameE f with
      | some t => decide (n = "isinstance") && decide (t = Str.ofString ty) && isiTys.contains ty && glB sc n && glB sc t && chkE N sc a e && !isStarredE e
      | none => false
    | _ => false
  | .bui f _ es, x => match calN x with
    | some (n, e :: fs) => decide (n = biName f) && glB sc n && chkEs N sc es (e :: fs)
    | _ => false
  | .met f _ o es, x => match calM x with
    | some (e, n, a, fs, b) => decide (n = mtName f) && decide (a = b) && !isCallE e && chkE N sc o e && chkEs N sc es fs && decide (fs.length < 30)
    | none => false
  | .cal x _ _ _ es, y => match calN y with
    | some (n, e :: fs) => decide (n = x) && glB sc n && noDbg n && chkEs N sc es (e :: fs)
    | _ => false
  | .lcp own t it cond elt, x => match lcp1 x with
    | some (e, tg, iter, ifs, a, scope) => decide (a = 0) && !isSetE iter && blkC N sc scope own && chkI N sc it iter && chkTg N (blkSt scope) t tg && chkOwn own t
      && chkC N (relS scope sc) cond ifs && chkE N (relS scope sc) elt e && (!itTup it || isTupE tg)
    | none => false
  | .dsp es, x => match dct1 x with
    | some (ks, vs) => chkDs N sc es ks vs && decide (ks.length = vs.length) && decide (ks.length ≤ 15)
    | none => false
  | .ds1 k v, x => match dct1 x with
    | some ([some e], [f]) => chkE N sc k e && chkE N sc v f
    | _ => false
  | .tix os c, x => match calM x with
    | some (e, n, a, [f], b) => match tupL e with
      | some fs => decide (n = "index") && decide (a = b) && chkEs N sc os fs && chkE N sc c f && !isStarredE f
      | none => false
    | _ => false
  | .lrg _ it, x => match calN x with
    | some (n, [r]) => decide (n = "list") && glB sc n && chkR N sc it r
    | _ => false
  | .att _ f o, x => match att1 x with
    | some (e, g) => decide (f = g) && !isCallE e && chkE N sc o e
    | none => false
  | .mca _ m _ _ _ o es, x => match calM x with
    | some (e, n, a, fs, b) => decide (n = m) && decide (a = b) && !isCallE e && chkE N sc o e && chkEs N sc es fs && decide (fs.length < 30)
    | none => false
  | .rvs _ a, x => match sub1 x with
    | some (e, s) => rev1 s && chkE N sc a e
    | none => false
  | .bad, _ => true
  | _, _ => false
/-- list(range(..)) -/
def chkR (N : List Str) (sc : Scope) : E → Expr → Bool
  | .rng es, x => match calN x with
    | some (n, fs) => decide (n = "range") && glB sc n && chkEs N sc es fs && (decide (es.length = 1) || decide (es.length = 2))
    | none => false
  | _, _ => false
/-- a display's keys and values -/
def chkDs (N : List Str) (sc : Scope) : List E → List (Option Expr) → List Expr → Bool
  | [], [], [] => true
  | k :: v :: es, some e :: ks, f :: vs => chkE N sc k e && chkE N sc v f && chkDs N sc es ks vs
  | _, _, _ => false
def chkEs (N : List Str) (sc : Scope) : List E → List Expr → Bool
  | [], [] => true
  | c :: cs, e :: es => !isStarredE e && chkE N sc c e && chkEs N sc cs es
  | _, _ => false
def chkO (N : List Str) (sc : Scope) : E → Option Expr → Bool
  | .noe, none => true
  | .itv c, some e => chkE N sc c e
  | _, _ => false
def chkI (N : List Str) (sc : Scope) : E → Expr → Bool
  | .itv c, e => chkE N sc c e
  | .rng es, x => match calN x with
    | some (n, fs) => decide (n = "range") && glB sc n && chkEs N sc es fs && (decide (es.length = 1) || decide (es.length = 2) || decide (es.length = 3))
    | none => false
  | .zip a b, x => match calN x with
    | some (n, [e, f]) => decide (n = "zip") && glB sc n && chkE N sc a e && chkE N sc b f && !isStarredE e && !isStarredE f
    | _ => false
  | .enm a, x => match calN x with
    | some (n, [e]) => decide (n = "enumerate") && glB sc n && chkE N sc a e && !isStarredE e
    | _ => false
  | _, _ => false
def chkC (N : List Str) (sc : Scope) : List E → List Expr → Bool
  | [], [] => true
  | [c], [e] => chkE N sc c e
  | _, _ => false
end
end Ev
namespace Ev
open PySem L2
variable [Tabs]
def isStar (e : Expr) : Bool := match e with
  | .Starred .. => true
  | _ => false
def swNames (sc : Scope) (ts : List Expr) : List Str := ts.filterMap fun
  | .Name id pos => if (sc.names.lookup id == some .local && pos.line == (ts.head?.map (·.pos.line)).getD 0) = true then some id else none
  | _ => none
/-- the tuple's stores are not exchanged -/
def noSwapB (sc : Scope) (ts vs : List Expr) : Bool :=
  (!(ts.length == 2 || ts.length == 3) || vs.length != ts.length) || vs.any isStar || ((swNames sc ts).length != ts.length || (swNames sc ts).eraseDups.length != (swNames sc ts).length) || vs.all (foldedForSure 8)
/-- a, b = x, y: two or three locals on one line, not all constants -/
def swapB (sc : Scope) (ts vs : List Expr) : Bool :=
  !(!(ts.length == 2 || ts.length == 3) || vs.length != ts.length) && !vs.any isStar && !((swNames sc ts).length != ts.length || (swNames sc ts).eraseDups.length != (swNames sc ts).length) && !vs.all (foldedForSure 8) && !vs.all (constantsAlone 8)
def isNmE : Expr → Bool
  | .Name .. => true
  | _ => false
def tupE : Expr → Option (List Expr)
  | .Tuple es _ _ => some es
  | _ => none
def nmsT : T → Option (List Nat)
  | .tp ts => ts.mapM fun | .nm i => some i | _ => none
  | _ => none
/-- the comprehension's list is stored within its frame -/
def compSwap (sc : Scope) (y : Str) (py : Pos) : Expr → Bool
  | .ListComp _ _ scope pos => decide (sc.names.lookup y = some .local) && py.line == pos.line && !(scope.names.any fun (n, k) => n == y && (k == .local || k == .cell))
  | _ => false
def handlerB (N : List Str) (sc : Scope) : Str × Nat × Const → ExceptHandler → Bool
  | (y, i, c), .ExceptHandler (some (.Name x _)) none [.Assign [.Name z pz] (.Constant c' _ _) _] _ => decide (x = y) && glB sc x && noDbg x && decide (N[i]? = some z) && locB sc z && decide (c = c') && (cstD c).isSome
  | _, _ => false
def handlersB (N : List Str) (sc : Scope) : List (Str × Nat × Const) → List ExceptHandler → Bool
  | [], [] => true
  | h :: hs, e :: es => handlerB N sc h e && handlersB N sc hs es
  | _, _ => false
def raiE : Expr → Option Str
  | .Call (.Name n _) [.Constant (.str _) _ _] [] _ => some n
  | _ => none
/-- the forms of an exchange: names in different slots, as many expressions -/
def parB : List T → List Expr → E → Bool
  | [.nm i, .nm j], [.Name _ _, .Name _ _], .tup [_, _] => decide (i ≠ j)
  | [.nm i, .nm j, .nm l], [.Name _ _, .Name _ _, .Name _ _], .tup [_, _, _] => decide (i ≠ j) && decide (i ≠ l) && decide (j ≠ l)
  | _, _, _ => false
def asg1 : Stmt → Option (Expr × Expr × Pos)
  | .Assign [t] f pos => some (t, f, pos)
  | _ => none
def exp1 : Stmt → Option Expr
  | .Expr f _ => some f
  | _ => none
def ret1 : Stmt → Option (Option Expr)
  | .Return o _ => some o
  | _ => none
def if1 : Stmt → Option (Expr × List Stmt × List Stmt)
  | .If t x y _ => some (t, x, y)
  | _ => none
def for1 : Stmt → Option (Expr × Expr × List Stmt)
  | .For tg iter x [] _ => some (tg, iter, x)
  | _ => none
def whl1 : Stmt → Option (Expr × List Stmt)
  | .While t x [] _ => some (t, x)
  | _ => none
def rai1 : Stmt → Option Expr
  | .Raise (some e) none _ => some e
  | _ => none
def try1 : Stmt → Option (List Stmt × List ExceptHandler)
  | .Try x hds [] [] _ => some (x, hds)
  | _ => none
def smp1 : Stmt → Nat
  | .Pass _ => 1
  | .Break _ => 2
  | .Continue _ => 3
  | _ => 0
def nmP : Expr → Option (Str × Pos)
  | .Name x p => some (x, p)
  | _ => none
def tupP : Expr → Option (List Expr × Nat × Pos)
  | .Tuple es k p => some (es, k, p)
  | _ => none
/-- raise X(e) -/
def raiX : Expr → Option (Str × Expr)
  | .Call (.Name n _) [e] [] _ => some (n, e)
  | _ => none
/-- except X as e: t = e.f -/
def hndA : List ExceptHandler → Option (Str × Str × Str × Str × Str)
  | [.ExceptHandler (some (.Name x _)) (some e) [.Assign [.Name t _] (.Attribute (.Name e' _) f _) _] _] => some (x, e, t, e', f)
  | _ => none
theorem raiX_eq {e a : Expr} {n : Str} (h : raiX e = some (n, a)) : ∃ p pos, e = .Call (.Name n p) [a] [] pos := by
  unfold raiX at h; split at h
  · cases h; exact ⟨_, _, rfl⟩
  · cases h
theorem hndA_eq {hs : List ExceptHandler} {x e t e' f : Str} (h : hndA hs = some (x, e, t, e', f)) : ∃ p1 p2 p3 p4 p5 p6, hs = [.ExceptHandler (some (.Name x p1)) (some e) [.Assign [.Name t p2] (.Attribute (.Name e' p3) f p4) p5] p6] := by
  unfold hndA at h; split at h
  · cases h; exact ⟨_, _, _, _, _, _, rfl⟩
  · cases h
theorem asg1_eq {s : Stmt} {t f : Expr} {pos : Pos} (h : asg1 s = some (t, f, pos)) : s = .Assign [t] f pos := by
  unfold asg1 at h; split at h
  · cases h; rfl
  · cases h
theorem exp1_eq {s : Stmt} {f : Expr} (h : exp1 s = some f) : ∃ pos, s = .Expr f pos := by
  unfold exp1 at h; split at h
  · cases h; exact ⟨_, rfl⟩
  · cases h
theorem ret1_eq {s : Stmt} {f : Option Expr} (h : ret1 s = some f) : ∃ pos, s = .Return f pos := by
  unfold ret1 at h; split at h
  · cases h; exact ⟨_, rfl⟩
  · cases h
theorem if1_eq {s : Stmt} {t : Expr} {x y : List Stmt} (h : if1 s = some (t, x, y)) : ∃ pos, s = .If t x y pos := by
  unfold if1 at h; split at h
  · cases h; exact ⟨_, rfl⟩
  · cases h
theorem for1_eq {s : Stmt} {tg iter : Expr} {x : List Stmt} (h : for1 s = some (tg, iter, x)) : ∃ pos, s = .For tg iter x [] pos := by
  unfold for1 at h; split at h
  · cases h; exact ⟨_, rfl⟩
  · cases h
theorem whl1_eq {s : Stmt} {t : Expr} {x : List Stmt} (h : whl1 s = some (t, x)) : ∃ pos, s = .While t x [] pos := by
  unfold whl1 at h; split at h
  · cases h; exact ⟨_, rfl⟩
  · cases h
theorem rai1_eq {s : Stmt} {e : Expr} (h : rai1 s = some e) : ∃ pos, s = .Raise (some e) none pos := by
  unfold rai1 at h; split at h
  · cases h; exact ⟨_, rfl⟩
  · cases h
theorem try1_eq {s : Stmt} {x : List Stmt} {hds : List ExceptHandler} (h : try1 s = some (x, hds)) : ∃ pos, s = .Try x hds [] [] pos := by
  unfold try1 at h; split at h
  · cases h; exact ⟨_, rfl⟩
  · cases h
theorem nmP_eq {e : Expr} {x : Str} {p : Pos} (h : nmP e = some (x, p)) : e = .Name x p := by
  unfold nmP at h; split at h
  · cases h; rfl
  · cases h
theorem tupP_eq {e : Expr} {es : List Expr} {k : Nat} {p : Pos} (h : tupP e = some (es, k, p)) : e = .Tuple es k p := by
  unfold tupP at h; split at h
  · cases h; rfl
  · cases h
mutual
def chkS (N : List Str) (sc : Scope) : S → Stmt → Bool
  | .set i e, s => match asg1 s with
    | some (t, f, _) => match nmP t with
      | some (x, px) => decide (N[i]? = some x) && locB sc x && chkE N sc e f && (!isCompE f || (compSwap sc x px f || decide (sc.names.lookup x = some .cell)))
      | none => false
    | none => false
  | .sat _ f o e, s => match asg1 s with
    | some (t, g, _) => match att1 t with
      | some (a, f') => decide (f = f') && chkE N sc o a && chkE N sc e g && !isCompE g
      | none => false
    | none => false
  | .unp (.tp ts) e, s => match asg1 s with
    | some (t, f, _) => match tupP t with
      | some (es, k, p) => chkTg N (locB sc) (.tp ts) (.Tuple es k p) && chkE N sc e f && !isCompE f && (match tupE f with
        | none => true
        | some vs => noSwapB sc es vs || (swapB sc es vs && parB ts es e))
      | none => false
    | none => false
  | .stx o i e, s => match asg1 s with
    | some (t, f, _) => match sub1 t with
      | some (a, b) => chkE N sc o a && chkE N sc i b && chkE N sc e f && !isSliceE b && !isCompE f
      | none => false
    | none => false
  | .exp e, s => match exp1 s with
    | some f => chkE N sc e f && !isCompE f
    | none => false
  | .ret e, s => match ret1 s with
    | some (some f) => chkE N sc e f
    | _ => false
  | .retN, s => match ret1 s with
    | some none => true
    | _ => false
  | .ifs c a b, s => match if1 s with
    | some (t, x, y) => chkE N sc c t && chkSs N sc a x && chkSs N sc b y
    | none => false
  | .for_ t it b, s => match for1 s with
    | some (tg, iter, x) => chkTg N (locB sc) t tg && chkI N sc it iter && !isSetE iter && chkSs N sc b x && (!itTup it || isTupE tg)
    | none => false
  | .whl c b, s => match whl1 s with
    | some (t, x) => chkE N sc c t && chkSs N sc b x
    | none => false
  | .rai x, s => match rai1 s with
    | some e => decide (raiE e = some x) && glB sc x && noDbg x
    | none => false
  | .raiA x _ e, s => match rai1 s with
    | some r => match raiX r with
      | some (n, a) => decide (n = x) && glB sc n && noDbg n && chkE N sc e a && !isStarredE a
      | none => false
    | none => false
  | .tryA b x ei f ti, s => match try1 s with
    | some (y, hds) => match hndA hds with
      | some (n, e, t, e', g) => decide (n = x) && glB sc n && noDbg n && decide (e = e') && decide (N[ei]? = some e) && decide (N[ti]? = some t) && decide (ei ≠ ti) && decide (f = g) && decide (sc.names.lookup e = some .local) && locB sc t && noDbg e && chkSs N sc b y
      | none => false
    | none => false
  | .tryS _ b hs, s => match try1 s with
    | some (x, hds) => !hds.isEmpty && chkSs N sc b x && handlersB N sc hs hds
    | none => false
  | .pas, s => smp1 s == 1
  | .brk, s => smp1 s == 2
  | .cnt, s => smp1 s == 3
  | .bad, _ => true
  | .unp (.nm _) _, _ => false
def chkSs (N : List Str) (sc : Scope) : List S → List Stmt → Bool
  | [], [] => true
  | s :: ss, x :: xs => chkS N sc s x && chkSs N sc ss xs
  | _, _ => false
end
end Ev
namespace Ev
open PySem L2
variable [Tabs]
/-- the slots hold what the environment says -/
structure RepEnv (K : Fg) (R : Ap) (n : Nat) (μ : Nat → Addr) (H : Hp) (env : Env) (σ : L2.St) : Prop where
  len : env.length = σ.length
  at_ : ∀ (i : Nat) (d : D), env[i]? = some (some d) → ∃ v, σ[i]? = some (some v) ∧ Rep K R n μ H d v
section
variable {K : Fg} {R : Ap} {n n' : Nat} {μ μ' : Nat → Addr} {H H' : Hp} {h h' : LH} {env : Env} {σ : L2.St}
theorem RepEnv.mono {R0 : Ap} (r : RepEnv K R h.length μ H env σ) (S : SimH K R0 μ H h) (e : Ext h.length μ H n' μ' H') : RepEnv K R n' μ' H' env σ :=
  ⟨r.len, fun i d q => let ⟨v, q1, q2⟩ := r.at_ i d q; ⟨v, q1, Rep.mono S e d v q2⟩⟩
theorem RepEnv.up {R' : Ap} (hR : ∀ a, R' a → R a ∨ H a = none) (r : RepEnv K R n μ H env σ) : RepEnv K R' n μ H env σ :=
  ⟨r.len, fun i d q => let ⟨v, q1, q2⟩ := r.at_ i d q; ⟨v, q1, Rep.up hR d v q2⟩⟩
theorem RepEnv.set (r : RepEnv K R n μ H env σ) {i : Nat} {d : D} {v : V} (rv : Rep K R n μ H d v) : RepEnv K R n μ H (env.set i (some d)) (σ.set i (some v)) := by
  refine ⟨by simpa using r.len, fun j e q => ?_⟩
  by_cases hj : j = i
  · subst hj
    by_cases hl : j < env.length
    · rw [List.getElem?_set_self hl] at q
      cases q
      exact ⟨v, List.getElem?_set_self (by rw [← r.len]; exact hl), rv⟩
    · rw [List.getElem?_eq_none (by simpa using Nat.le_of_not_lt hl)] at q
      cases q
  · rw [List.getElem?_set_ne (Ne.symm hj)] at q
    obtain ⟨w, q1, q2⟩ := r.at_ j e q
    exact ⟨w, by rw [List.getElem?_set_ne (Ne.symm hj)]; exact q1, q2⟩
theorem wipeE_length : ∀ (vs : List Nat), (wipeE env vs).length = env.length
  | [] => rfl
  | v :: vs => by simp [wipeE, wipeE_length vs]
theorem wipeE_some : ∀ {vs : List Nat} {j : Nat} {d : D}, (wipeE env vs)[j]? = some (some d) → env[j]? = some (some d) ∧ j ∉ vs
  | [], _, _, e => ⟨e, by simp⟩
  | v :: vs, j, d, e => by
    unfold wipeE at e
    by_cases hj : j = v
    · subst hj
      by_cases hl : j < (wipeE env vs).length
      · rw [List.getElem?_set_self hl] at e; cases e
      · rw [List.getElem?_eq_none (by simpa using Nat.le_of_not_lt hl)] at e; cases e
    · rw [List.getElem?_set_ne (Ne.symm hj)] at e
      obtain ⟨e1, e2⟩ := wipeE_some e
      exact ⟨e1, by simp [hj, e2]⟩
theorem RepEnv.wipe (r : RepEnv K R n μ H env σ) (vs : List Nat) : RepEnv K R n μ H (wipeE env vs) (wipe σ vs) := by
  refine ⟨by rw [wipeE_length, L2.wipe_length]; exact r.len, fun j d q => ?_⟩
  obtain ⟨q1, q2⟩ := wipeE_some q
  obtain ⟨v, q3, q4⟩ := r.at_ j d q1
  exact ⟨v, by rw [wipe_out q2]; exact q3, q4⟩
end
theorem PE.imp {X : Cx} {e : Expr} {t t' : TE} (p : PE X e t) (f : ∀ σ H Q, t' σ H Q → t σ H Q) : PE X e t' := ⟨fun pins s σ H Q I q => p.run pins s σ H Q I (f σ H Q q)⟩
theorem PT.imp {X : Cx} {e : Expr} {t t' : TT} (p : PT X e t) (f : ∀ σ H Q, t' σ H Q → t σ H Q) : PT X e t' := ⟨fun pins s σ H Q I q => p.run pins s σ H Q I (f σ H Q q)⟩
theorem PW.imp {X : Cx} {e : Expr} {t t' : TT} (p : PW X e t) (f : ∀ σ H Q, t' σ H Q → t σ H Q) : PW X e t' := ⟨fun wh pins s σ H Q I q => p.run wh pins s σ H Q I (f σ H Q q)⟩
theorem PA.imp {X : Cx} {e : List Expr} {t t' : TA} (p : PA X e t) (f : ∀ σ H Q, t' σ H Q → t σ H Q) : PA X e t' := ⟨fun pos pins s σ H Q I q => p.run pos pins s σ H Q I (f σ H Q q)⟩
theorem PO.imp {X : Cx} {e : Option Expr} {t t' : TO} (p : PO X e t) (f : ∀ σ H Q, t' σ H Q → t σ H Q) : PO X e t' := ⟨fun pins s σ H Q I q => p.run pins s σ H Q I (f σ H Q q)⟩
theorem PS.imp {X : Cx} {e : Stmt} {t t' : TS} (p : PS X e t) (f : ∀ D σ H, t' D σ H → t D σ H) : PS X e t' := ⟨fun pins s σ H D I q => p.run pins s σ H D I (f D σ H q)⟩
theorem PSs.imp {X : Cx} {e : List Stmt} {t t' : TS} (p : PSs X e t) (f : ∀ D σ H, t' D σ H → t D σ H) : PSs X e t' := ⟨fun pins s σ H D I q => p.run pins s σ H D I (f D σ H q)⟩
theorem PG.imp {X : Cx} {e : Expr} {t t' : TG} (p : PG X e t) (f : ∀ v σ H Q, t' v σ H Q → t v σ H Q) : PG X e t' := ⟨fun pins s σ H v u Q I r q => p.run pins s σ H v u Q I r (f v σ H Q q)⟩
theorem PGs.imp {X : Cx} {e : List Expr} {t t' : TGs} (p : PGs X e t) (f : ∀ v σ H Q, t' v σ H Q → t v σ H Q) : PGs X e t' := ⟨fun pins s σ H v u Q I r q => p.run pins s σ H v u Q I r (f v σ H Q q)⟩
theorem PI.imp {X : Cx} {tg e : Expr} {t t' : TI} (p : PI X tg e t) (f : ∀ σ H R, t' σ H R → t σ H R) : PI X tg e t' := ⟨fun pins s σ H R I q => p.run pins s σ H R I (f σ H R q)⟩

/-- the state in the evaluator's words -/
def In1 (X : Cx) (σ : L2.St) (H : Hp) (P : Ap → (Nat → Addr) → LH → Env → Prop) : Prop := ∃ R μ h env, SimH X.K R μ H h ∧ RepEnv X.K R h.length μ H env σ ∧ P R μ h env
abbrev WP (X : Cx) (W : WX) (σ : L2.St) : XK := fun cls d H' => W cls d σ H'
def rdE (X : Cx) (W : WX) (c : E) : TE := fun σ H Q => In1 X σ H fun R μ h env => Post X.K X.mg (WP X W σ) R h.length μ H (PV X.K R Q) (evE c env h)
def rdT (X : Cx) (W : WX) (c : E) : TT := fun σ H Q => In1 X σ H fun R μ h env => Post X.K X.mg (WP X W σ) R h.length μ H (fun b _ _ H' => Q b H') (evT c env h)
def rdEs (X : Cx) (W : WX) (cs : List E) : TA := fun σ H Q => In1 X σ H fun R μ h env => Post X.K X.mg (WP X W σ) R h.length μ H (fun ds h' μ' H' => ∀ vs, Reps X.K R h'.length μ' H' ds vs → Q vs H') (evEs cs env h)
def rdAnd (X : Cx) (W : WX) (cs : List E) : TE := fun σ H Q => In1 X σ H fun R μ h env => Post X.K X.mg (WP X W σ) R h.length μ H (PV X.K R Q) (evAnd cs env h)
def rdOr (X : Cx) (W : WX) (cs : List E) : TE := fun σ H Q => In1 X σ H fun R μ h env => Post X.K X.mg (WP X W σ) R h.length μ H (PV X.K R Q) (evOr cs env h)
def truR (h : LH) (d : D) : Res Bool := match truthy h d with
  | some b => .ok b h
  | none => .no
def rdAndT (X : Cx) (W : WX) (cs : List E) : TT := fun σ H Q => In1 X σ H fun R μ h env => Post X.K X.mg (WP X W σ) R h.length μ H (fun b _ _ H' => Q b H') ((evAnd cs env h).bind fun d h1 => truR h1 d)
def rdOrT (X : Cx) (W : WX) (cs : List E) : TT := fun σ H Q => In1 X σ H fun R μ h env => Post X.K X.mg (WP X W σ) R h.length μ H (fun b _ _ H' => Q b H') ((evOr cs env h).bind fun d h1 => truR h1 d)
def rdO (X : Cx) (W : WX) (c : E) : TO := fun σ H Q => In1 X σ H fun R μ h env => Post X.K X.mg (WP X W σ) R h.length μ H (fun o _ _ H' => Q o H') (evO c env h)
def rdC (X : Cx) (W : WX) (cs : List E) : TT := fun σ H Q => In1 X σ H fun R μ h env => Post X.K X.mg (WP X W σ) R h.length μ H (fun b _ _ H' => Q b H') (evC cs env h)
/-- an iterator that walks the items, from the state n1 μ1 H1 on -/
structure Wk (K : Fg) (R : Ap) (J : It) (src : Src) (items : List D) (n1 : Nat) (μ1 : Nat → Addr) (H1 : Hp) : Prop where
  stop : ∀ (R' : Ap) μ H h, (∀ a, R' a → R a ∨ H1 a = none) → Ext n1 μ1 H1 h.length μ H → SimH K R' μ H h → SrcOk src h → J.stop items.length H
  go : ∀ (R' : Ap) i μ H h, (∀ a, R' a → R a ∨ H1 a = none) → i < items.length → Ext n1 μ1 H1 h.length μ H → SimH K R' μ H h → SrcOk src h → J.go i H
  yld : ∀ (R' : Ap) i d μ H h x H', (∀ a, R' a → R a ∨ H1 a = none) → items[i]? = some d → Ext n1 μ1 H1 h.length μ H → SimH K R' μ H h → SrcOk src h → J.yld i H x H' → Ext h.length μ H h.length μ H' ∧ SimH K R' μ H' h ∧ Rep K R' h.length μ H' d x
def rdI (X : Cx) (W : WX) (c : E) : TI := fun σ H P => In1 X σ H fun R μ h env => Post X.K X.mg (WP X W σ) R h.length μ H (fun p h' μ' H' => ∀ J, Wk X.K R J p.1 p.2 h'.length μ' H' → P J H') (evI c env h)

mutual
theorem bindT_len : ∀ {t : T} {d : D} {env env' : Env}, bindT t d env = some env' → env'.length = env.length
  | .nm i, d, env, env', h => by
    simp only [bindT] at h
    split at h
    · cases h; simp
    · cases h
  | .tp ts, d, env, env', h => by
    cases d with
    | tup ds =>
      simp only [bindT] at h
      split at h
      · exact bindTs_len h
      · cases h
    | _ => simp [bindT] at h
theorem bindTs_len : ∀ {ts : List T} {ds : List D} {env env' : Env}, bindTs ts ds env = some env' → env'.length = env.length
  | [], [], env, env', h => by simp only [bindTs] at h; cases h; rfl
  | [], _ :: _, _, _, h => by simp [bindTs] at h
  | _ :: _, [], _, _, h => by simp [bindTs] at h
  | t :: ts, d :: ds, env, env', h => by
    simp only [bindTs] at h
    split at h
    · rename_i env1 h1
      rw [bindTs_len h, bindT_len h1]
    · cases h
end
def rdG (X : Cx) (t : T) : TG := fun v σ H Q => In1 X σ H fun R μ h env => ∃ d env', Rep X.K R h.length μ H d v ∧ bindT t d env = some env' ∧
  ∀ σ', RepEnv X.K R h.length μ H env' σ' → (∀ j, j ∉ tSlots t → σ'[j]? = σ[j]?) → Q σ' H
def rdGs (X : Cx) (ts : List T) : TGs := fun vs σ H Q => In1 X σ H fun R μ h env => ∃ ds env', Reps X.K R h.length μ H ds vs ∧ bindTs ts ds env = some env' ∧
  ∀ σ', RepEnv X.K R h.length μ H env' σ' → (∀ j, j ∉ tSlotss ts → σ'[j]? = σ[j]?) → Q σ' H
theorem noStar_each {env : PySem.Env} {e : Expr} {es : List Expr} (h : isStarredE e = false) : assignEach (e :: es) env = (false, assign e env) :: assignEach es env := by
  cases e <;> first | rfl | (simp [isStarredE] at h)
theorem chkTgs_len {N : List Str} {st : Str → Bool} {env : PySem.Env} : ∀ {ts : List T} {es : List Expr}, chkTgs N st ts es = true → (assignEach es env).length = ts.length ∧ (assignEach es env).findIdx? (·.1) = none
  | [], [], _ => ⟨rfl, rfl⟩
  | [], _ :: _, h => by simp [chkTgs] at h
  | _ :: _, [], h => by simp [chkTgs] at h
  | t :: ts, e :: es, h => by
    simp only [chkTgs, Bool.and_eq_true, Bool.not_eq_true'] at h
    obtain ⟨h1, h2⟩ := chkTgs_len (env := env) h.2
    rw [noStar_each h.1.1]
    refine ⟨by simp [h1], ?_⟩
    rw [List.findIdx?_cons]
    simp [h2]
section
variable {X : Cx}
mutual
theorem pg_ok {st : Str → Bool} (hN : X.N.Nodup) (hc : X.calm = true) (hst : ∀ x, st x = true → Loc X.env.scope x ∧ (X.fn x = true ∨ X.env.scope.names.lookup x = some .local)) : ∀ (t : T) (e : Expr), chkTg X.N st t e = true → PG X e (rdG X t)
  | .nm i, .Name x pos, h => by
    simp only [chkTg, Bool.and_eq_true, decide_eq_true_eq] at h
    obtain ⟨h1, h2⟩ := hst x h.2
    refine PG.imp (pg_name hN h.1 h1 h2) fun v σ H Q q => ?_
    obtain ⟨R, μ, lh, env, S, Ev, d, env', r, b, q⟩ := q
    simp only [bindT] at b
    split at b
    · cases b
      refine q _ (Ev.set r) fun j hj => ?_
      simp only [tSlots, List.mem_singleton] at hj
      exact List.getElem?_set_ne (Ne.symm hj)
    · cases b
  | .tp ts, .Tuple es k pos, h => by
    simp only [chkTg] at h
    obtain ⟨l1, l2⟩ := chkTgs_len (env := X.env) h
    refine PG.imp (pg_tup hc (pgs_ok hN hc hst ts es h) l1 l2) fun v σ H Q q => ?_
    obtain ⟨R, μ, lh, env, S, Ev, d, env', r, b, q⟩ := q
    cases d with
    | tup ds =>
      simp only [bindT] at b
      split at b
      · rename_i hl
        simp only [Rep] at r
        obtain ⟨a, xs, rfl, sq, ra⟩ := r
        refine ⟨a, xs, rfl, sq, by rw [hl]; exact ra.length.symm, R, μ, lh, env, S, Ev, ds, env', ra, b, fun σ' r' f => q σ' r' f⟩
      · cases b
    | _ => simp [bindT] at b
  | .nm _, .Tuple .., h => by simp [chkTg] at h
  | .tp _, .Name .., h => by simp [chkTg] at h
  | t, .BoolOp .., h => by cases t <;> simp [chkTg] at h
  | t, .NamedExpr .., h => by cases t <;> simp [chkTg] at h
  | t, .BinOp .., h => by cases t <;> simp [chkTg] at h
  | t, .UnaryOp .., h => by cases t <;> simp [chkTg] at h
  | t, .Lambda .., h => by cases t <;> simp [chkTg] at h
  | t, .IfExp .., h => by cases t <;> simp [chkTg] at h
  | t, .Dict .., h => by cases t <;> simp [chkTg] at h
  | t, .Set .., h => by cases t <;> simp [chkTg] at h
  | t, .ListComp .., h => by cases t <;> simp [chkTg] at h
  | t, .SetComp .., h => by cases t <;> simp [chkTg] at h
  | t, .DictComp .., h => by cases t <;> simp [chkTg] at h
  | t, .GeneratorExp .., h => by cases t <;> simp [chkTg] at h
  | t, .Await .., h => by cases t <;> simp [chkTg] at h
  | t, .Yield .., h => by cases t <;> simp [chkTg] at h
  | t, .YieldFrom .., h => by cases t <;> simp [chkTg] at h
  | t, .Compare .., h => by cases t <;> simp [chkTg] at h
  | t, .Call .., h => by cases t <;> simp [chkTg] at h
  | t, .FormattedValue .., h => by cases t <;> simp [chkTg] at h
  | t, .JoinedStr .., h => by cases t <;> simp [chkTg] at h
  | t, .Constant .., h => by cases t <;> simp [chkTg] at h
  | t, .Attribute .., h => by cases t <;> simp [chkTg] at h
  | t, .Subscript .., h => by cases t <;> simp [chkTg] at h
  | t, .Starred .., h => by cases t <;> simp [chkTg] at h
  | t, .List .., h => by cases t <;> simp [chkTg] at h
  | t, .Slice .., h => by cases t <;> simp [chkTg] at h
theorem pgs_ok {st : Str → Bool} (hN : X.N.Nodup) (hc : X.calm = true) (hst : ∀ x, st x = true → Loc X.env.scope x ∧ (X.fn x = true ∨ X.env.scope.names.lookup x = some .local)) : ∀ (ts : List T) (es : List Expr), chkTgs X.N st ts es = true → PGs X es (rdGs X ts)
  | [], [], _ => by
    refine PGs.imp pgs_nil fun v σ H Q q => ?_
    obtain ⟨R, μ, lh, env, S, Ev, ds, env', r, b, q⟩ := q
    cases ds with
    | nil =>
      simp only [bindTs] at b
      cases b
      simp only [Reps] at r
      exact ⟨r, q _ Ev fun _ _ => rfl⟩
    | cons _ _ => simp [bindTs] at b
  | [], _ :: _, h => by simp [chkTgs] at h
  | _ :: _, [], h => by simp [chkTgs] at h
  | t :: ts, e :: es, h => by
    simp only [chkTgs, Bool.and_eq_true, Bool.not_eq_true'] at h
    refine PGs.imp (pgs_cons (pg_ok hN hc hst t e h.1.2) (pgs_ok hN hc hst ts es h.2) (by rw [noStar_each h.1.1]; rfl)) fun vs σ H Q q => ?_
    obtain ⟨R, μ, lh, env, S, Ev, ds, env', r, b, q⟩ := q
    cases ds with
    | nil => simp [bindTs] at b
    | cons d ds =>
      simp only [bindTs] at b
      split at b
      · rename_i env1 b1
        simp only [Reps] at r
        obtain ⟨v, ws, rfl, r1, r2⟩ := r
        refine ⟨v, ws, rfl, R, μ, lh, env, S, Ev, d, env1, r1, b1, fun σ1 r' f1 => ?_⟩
        refine ⟨R, μ, lh, env1, S, r', ds, env', r2, b, fun σ2 r'' f2 => q σ2 r'' fun j hj => ?_⟩
        simp only [tSlotss, List.mem_append, not_or] at hj
        rw [f2 j hj.2, f1 j hj.1]
      · cases b
end

theorem wk_tup {K : Fg} {R : Ap} {μ : Nat → Addr} {H : Hp} {h : LH} {ds : List D} {a : Addr} (S : SimH K R μ H h) (r : Rep K R h.length μ H (.tup ds) (.ref a)) : Wk K R (Itt K a) [] ds h.length μ H := by
  have at_ : ∀ {R' : Ap} {μ' H' h'}, (∀ a, R' a → R a ∨ H a = none) → Ext h.length μ H (List.length (h' : LH)) μ' H' → ∃ xs, SqT K H' a xs ∧ Reps K R' h'.length μ' H' ds xs := fun {R' μ' H' h'} hR e => by
    have r := Rep.mono S e _ _ (Rep.up hR _ _ r)
    simp only [Rep] at r
    obtain ⟨b, xs, q, sq, ra⟩ := r
    cases q
    exact ⟨xs, sq, ra⟩
  refine ⟨fun R' μ' H' h' hR e S' _ => ?_, fun R' i μ' H' h' hR hi e S' _ => ?_, fun R' i d μ' H' h' x H2 hR hd e S' _ y => ?_⟩
  · obtain ⟨xs, sq, ra⟩ := at_ hR e
    exact ⟨xs, sq, by rw [ra.length]; exact Nat.le_refl _⟩
  · obtain ⟨xs, sq, ra⟩ := at_ hR e
    obtain ⟨v, q, _⟩ := ra.get (List.getElem?_eq_getElem hi)
    exact ⟨xs, v, sq, q⟩
  · obtain ⟨xs, sq, ra⟩ := at_ hR e
    obtain ⟨v, q, rv⟩ := ra.get hd
    obtain ⟨rfl, y⟩ := y
    have := y xs sq
    rw [q] at this
    cases this
    exact ⟨Ext.refl, S', rv⟩
theorem wk_lst {K : Fg} {R : Ap} {μ : Nat → Addr} {H : Hp} {h : LH} {ds : List D} {a : Addr} {d0 : D} {src : Src} (S : SimH K R μ H h) (r : Rep K R h.length μ H d0 (.ref a)) (hs : seqSrc h d0 = some (src, ds)) (hl : (asL h d0).isSome = true) : Wk K R (Itl K a) src ds h.length μ H := by
  have at_ : ∀ {R' : Ap} {μ' H' h'}, (∀ a, R' a → R a ∨ H a = none) → Ext h.length μ H (List.length (h' : LH)) μ' H' → SimH K R' μ' H' h' → SrcOk src h' → ∃ xs, H' a = some (.lst xs) ∧ Reps K R' h'.length μ' H' ds xs := fun {R' μ' H' h'} hR e S' ok => by
    have r := Rep.mono S e _ _ (Rep.up hR _ _ r)
    cases d0 with
    | lst es =>
      cases hs
      simp only [Rep] at r
      obtain ⟨b, xs, q, sq, _, ra⟩ := r
      cases q
      exact ⟨xs, sq, ra⟩
    | loc n =>
      simp only [seqSrc] at hs
      split at hs
      · rename_i es q
        cases hs
        have q' : h'[n]? = some (.lst ds) := ok (n, ds) (by simp)
        simp only [Rep] at r
        obtain ⟨_, q2⟩ := r
        cases q2
        obtain ⟨xs, q3, ra⟩ := S'.obj n _ q'
        exact ⟨xs, q3, ra⟩
      · cases hs
    | _ => simp [asL] at hl
  refine ⟨fun R' μ' H' h' hR e S' ok => ?_, fun R' i μ' H' h' hR hi e S' ok => ?_, fun R' i d μ' H' h' x H2 hR hd e S' ok y => ?_⟩
  · obtain ⟨xs, sq, ra⟩ := at_ hR e S' ok
    exact ⟨xs, SqL.of sq, by rw [ra.length]; exact Nat.le_refl _⟩
  · obtain ⟨xs, sq, ra⟩ := at_ hR e S' ok
    obtain ⟨v, q, _⟩ := ra.get (List.getElem?_eq_getElem hi)
    exact ⟨xs, v, SqL.of sq, q⟩
  · obtain ⟨xs, sq, ra⟩ := at_ hR e S' ok
    obtain ⟨v, q, rv⟩ := ra.get hd
    obtain ⟨rfl, y⟩ := y
    have := y xs (SqL.of sq)
    rw [q] at this
    cases this
    exact ⟨Ext.refl, S', rv⟩
theorem wk_str {K : Fg} {R : Ap} {μ : Nat → Addr} {H : Hp} {h : LH} {x : Str} : Wk K R (Its x) [] (x.cps.toList.map fun c => D.str ⟨#[c]⟩) h.length μ H := by
  refine ⟨fun R' μ' H' h' _ e S' _ => ?_, fun R' i μ' H' h' _ hi e S' _ => ?_, fun R' i d μ' H' h' v H2 _ hd e S' _ y => ?_⟩
  · show x.cps.size ≤ _
    simp
  · show i < x.cps.size
    simpa using hi
  · obtain ⟨rfl, c, q, rfl⟩ := y
    refine ⟨Ext.refl, S', ?_⟩
    rw [List.getElem?_map] at hd
    have q' : x.cps.toList[i]? = some c := by simpa using q
    rw [q'] at hd
    cases hd
    exact repS.mpr rfl
theorem wk_rng {K : Fg} {R : Ap} {μ : Nat → Addr} {H : Hp} {h : LH} {lo : Int} {n : Nat} : Wk K R (Itr lo n) [] ((List.range n).map fun k => D.int (lo + (k : Nat))) h.length μ H := by
  refine ⟨fun R' μ' H' h' _ e S' _ => ?_, fun R' i μ' H' h' _ hi e S' _ => ?_, fun R' i d μ' H' h' v H2 _ hd e S' _ y => ?_⟩
  · show n ≤ _
    simp
  · show i < n
    simpa using hi
  · obtain ⟨rfl, rfl⟩ := y
    refine ⟨Ext.refl, S', ?_⟩
    rw [List.getElem?_map] at hd
    cases q : (List.range n)[i]? with
    | none => rw [q] at hd; cases hd
    | some j =>
      rw [q] at hd
      cases hd
      obtain ⟨hi, hj⟩ := List.getElem?_eq_some_iff.mp q
      rw [List.getElem_range] at hj
      subst hj
      exact repI.mpr rfl
end
end Ev
namespace Ev
open PySem L2 PyProof.Rows
theorem addr_ne {a b : Nat} (h : a < b ∨ b < a) : (a : Addr) ≠ b := fun z => by
  have z : (a : Nat) = b := z
  omega
theorem zsep {n a b : Nat} (la : a < n) (lb : b < n) : ZipSep2 (n + 4) (n + 2) (n + 3) n (n + 1) [n, a] [n + 1, b] where
  TIz := addr_ne (by omega)
  TOz := addr_ne (by omega)
  TITO := addr_ne (by omega)
  TIi1 := addr_ne (by omega)
  mem1 := List.mem_cons_self
  zf1 := by simp only [List.mem_cons, List.not_mem_nil, or_false, not_or]; exact ⟨addr_ne (by omega), addr_ne (by omega)⟩
  Tf1 := by simp only [List.mem_cons, List.not_mem_nil, or_false, not_or]; exact ⟨addr_ne (by omega), addr_ne (by omega)⟩
  TIi2 := addr_ne (by omega)
  mem2 := List.mem_cons_self
  zf2 := by simp only [List.mem_cons, List.not_mem_nil, or_false, not_or]; exact ⟨addr_ne (by omega), addr_ne (by omega)⟩
  Tf2 := by simp only [List.mem_cons, List.not_mem_nil, or_false, not_or]; exact ⟨addr_ne (by omega), addr_ne (by omega)⟩
  sep1_2 := by simp only [List.mem_cons, List.not_mem_nil, or_false, not_or]; exact ⟨addr_ne (by omega), addr_ne (by omega)⟩
  sep2_1 := by simp only [List.mem_cons, List.not_mem_nil, or_false, not_or]; exact ⟨addr_ne (by omega), addr_ne (by omega)⟩
section
/-- a tuple (t) or a list -/
def SqB (t : Bool) (K : Fg) (H : Hp) (a : Addr) (xs : List V) : Prop := match t with | true => SqT K H a xs | false => SqL K H a xs
def HasB (t : Bool) (h : Heap) (a : Addr) (us : Array Value) : Prop := match t with | true => h.IsTuple a us | false => h.IsList a us
def AtB (t : Bool) (h : Heap) (it a : Addr) (i : Nat) : Prop := match t with | true => h.IsTupleIter it a i | false => h.IsListIter it a i
def itNm (t : Bool) : String := match t with | true => "tuple_iterator" | false => "list_iterator"
theorem itNm_ne : ∀ t, itNm t ≠ "tuple" ∧ itNm t ≠ "list" := by decide
def itO (t : Bool) (a : Addr) : Obj := { cls := .type (itNm t), data := .fields #[.ref a, .int 0 0] }
theorem beginsB (t : Bool) (a : Addr) (us : Array Value) : Begins (.ref a) (itO t a) fun h => HasB t h a us := by
  cases t
  · exact begins_list a us
  · exact begins_tuple a us
theorem drawsB {P : Program} {w : World} {A : Around} (t : Bool) (hd : A.handled = none) (it a : Addr) (ne : a ≠ it) (us : Array Value) :
    Draws P w A it [it, a] us.size (fun i v => us[i]? = some v) (fun i h => AtB t h it a i ∧ HasB t h a us) := by
  cases t
  · exact Draws.list hd it a ne us
  · exact Draws.tuple hd it a ne us
theorem atB_new {t : Bool} {h : Heap} {it a : Addr} (e : h.get? it = some (itO t a)) : AtB t h it a 0 := by
  cases t <;> exact ⟨_, e, rfl, rfl⟩
theorem atB_obj {t : Bool} {h : Heap} {it a : Addr} {i : Nat} (q : AtB t h it a i) : ∃ o, h.get? it = some o ∧ o.cls = .type (itNm t) ∧ o.data = .fields #[.ref a, .int i 0] := by
  cases t <;> exact q
theorem atB_keep {t : Bool} {h h' : Heap} {it a : Addr} {i : Nat} (q : AtB t h it a i) (k : ∀ o, h.get? it = some o → h'.get? it = some o) : AtB t h' it a i := by
  cases t
  · exact Heap.IsListIter.at q k
  · exact Heap.IsTupleIter.at q k
theorem hasB_obj {t : Bool} {h : Heap} {a : Addr} {us : Array Value} (q : HasB t h a us) : ∃ o, h.get? a = some o ∧ (o.cls = .type "tuple" ∨ o.cls = .type "list") := by
  cases t
  · obtain ⟨o, e, c, _⟩ := q
    exact ⟨o, e, .inr c⟩
  · obtain ⟨o, e, c, _⟩ := q
    exact ⟨o, e, .inl c⟩
end
section
variable {X : Cx} {pins : List (Addr × Obj)} {σ : L2.St} {H : Hp} {s : Shared}
theorem sqB_at {t : Bool} {a : Addr} {xs : List V} (I : L2.Inv X pins σ H s) (q : SqB t X.K H a xs) : ∃ us : List Value, Vals xs us ∧ HasB t s.heap a us.toArray := by
  cases t
  · obtain ⟨us, r, p, _⟩ := I.list q
    exact ⟨us, r, p.isList⟩
  · obtain ⟨us, r, p, _⟩ := I.tuple q
    exact ⟨us, r, p⟩
theorem sqB_inj {t : Bool} {a : Addr} {xs ys : List V} (I : L2.Inv X pins σ H s) (p : SqB t X.K H a xs) (q : SqB t X.K H a ys) : xs = ys := by
  cases t
  · exact I.list_inj p q
  · exact I.tuple_inj p q
end
def IteB (t : Bool) (K : Fg) (a : Addr) : It where
  go := fun i H => ∃ xs x, SqB t K H a xs ∧ xs[i]? = some x
  yld := fun i H v H' => ∃ T x, v = .ref T ∧ H T = none ∧ H' = upd H T (.tup [.int (i : Nat), x]) ∧ ∀ xs, SqB t K H a xs → xs[i]? = some x
  stop := fun i H => ∃ xs, SqB t K H a xs ∧ xs.length ≤ i
theorem turn_enB {P : Program} {w : World} {K : Fg} {es : List Expr} {kk : Nat} {tp : Pos} {t : Bool} {a it e : Addr} (ne : e ≠ it) :
    Turn P w K (.Tuple es kk tp) (IteB t K a) [e, it] e (fun i h => (∃ old, IsEnum h e it i old) ∧ AtB t h it a i) where
  mem := by simp
  obj := fun i h st b hb => by
    obtain ⟨⟨old, he⟩, hi⟩ := st
    obtain ⟨o, e1, _, e3⟩ := atB_obj hi
    rcases (by simpa using hb : b = e ∨ b = it) with rfl | rfl
    · exact ⟨_, he, fun v z => by cases z⟩
    · exact ⟨o, e1, fun v z => by rw [e3] at z; cases z⟩
  keep := fun i h h' st k => ⟨let ⟨old, he⟩ := st.1; ⟨old, k e (by simp) _ he⟩, atB_keep st.2 fun o q => k it (by simp) o q⟩
  item := by
    intro X hP hw hK hc i pins s σ H E I hf st hg
    subst hP hw hK
    obtain ⟨⟨old, he⟩, hi⟩ := st
    obtain ⟨xs, x, hq, hx⟩ := hg
    obtain ⟨us, rv, p⟩ := sqB_at I hq
    obtain ⟨u, hu, ru⟩ := rv.get hx
    obtain ⟨oa, ha1, ha2⟩ := hasB_obj p
    obtain ⟨oi, hi1, hi2, _⟩ := atB_obj hi
    have nea : e ≠ a := fun z => by
      rw [← z, he] at ha1
      cases ha1
      rcases ha2 with q | q <;> injection q with q <;> exact absurd q (by decide)
    have nia : a ≠ it := fun z => by
      rw [z, hi1] at ha1
      cases ha1
      rcases ha2 with q | q <;> rw [hi2] at q <;> injection q with q
      · exact (itNm_ne t).1 q
      · exact (itNm_ne t).2 q
    have D := drawsB (P := X.prog) (w := X.w) (A := X.A.in1) t (I.ok.hd hc) it a nia us.toArray
    have hel := Heap.lt_size he
    have hil := Heap.lt_size hi1
    have hlt : i < us.toArray.size := by
      have := (List.getElem?_eq_some_iff.mp hu).1
      simpa using this
    refine wpAny_pyNext_enum_itemD D he ⟨hi, p⟩ hlt ne (by simp [ne, nea]) fun y h1 tk hy out st1 tup sz kp => ?_
    have ey : y = u := by
      have hy : us.toArray[i]? = some y := hy
      rw [List.getElem?_toArray, hu] at hy
      exact (Option.some.inj hy).symm
    subst ey
    refine ⟨_, rfl, wpAny_letOwnedTupleGo_enum (s := { s with heap := h1, toks := tk + 1 }) out fun h2 he2 sb => ?_⟩
    have tup2 : h2.get? s.heap.objs.size = some { cls := .type "tuple", data := .seq #[.int i tk, y] } := (sb.2 _ (Nat.ne_of_gt hel)).trans tup
    have fresh := I.hok.fresh (Nat.le_refl s.heap.objs.size)
    have I2 : L2.Inv X pins σ (upd H s.heap.objs.size (.tup [.int (i : Nat), x])) { s with heap := h2, toks := tk + 1 } := by
      refine I.turnedNew (ch := [e, it]) (fun b o nb q => ?_) hf (Nat.le_refl _) ⟨by show 2 ≤ sizeLine; decide, [.int i tk, y], .cons ⟨_, rfl⟩ (.cons ru .nil), ⟨_, tup2, rfl, _, rfl⟩⟩
      simp only [List.mem_cons, List.not_mem_nil, or_false, not_or] at nb
      exact (sb.2 b nb.1).trans (kp b o nb.1 nb.2 q)
    refine ⟨.ref s.heap.objs.size, _, I2, rfl, ⟨_, x, rfl, fresh, rfl, fun ys hy => by rw [sqB_inj I hy hq]; exact hx⟩, ⟨⟨y, ?_⟩, atB_keep st1.1 fun o q => (sb.2 it (Ne.symm ne)).trans q⟩, fun b hb => ?_⟩
    · rw [show ((i + 1 : Nat) : Int) = (i : Int) + 1 by omega]
      exact he2
    · have hlt : b < s.heap.objs.size := by
        rcases (by simpa using hb : b = e ∨ b = it) with rfl | rfl
        · exact hel
        · exact hil
      rw [upd_ne (Nat.ne_of_lt hlt)]
      exact (hf b hb).1
  done := by
    intro X hP hw hK hc i pins s σ H E I hf st hg
    subst hP hw hK
    obtain ⟨⟨old, he⟩, hi⟩ := st
    obtain ⟨xs, hq, hx⟩ := hg
    obtain ⟨us, rv, p⟩ := sqB_at I hq
    obtain ⟨oa, ha1, ha2⟩ := hasB_obj p
    obtain ⟨oi, hi1, hi2, hi3⟩ := atB_obj hi
    have nia : a ≠ it := fun z => by
      rw [z, hi1] at ha1
      cases ha1
      rcases ha2 with q | q <;> rw [hi2] at q <;> injection q with q
      · exact (itNm_ne t).1 q
      · exact (itNm_ne t).2 q
    have ex (o : Obj) : True := trivial
    have fin := fun (h1 : Heap) (eb : Heap.ExtBut it s.heap h1) => (⟨rfl, I.turnedL (t' := s.toks) (ch := [e, it]) (fun b o nb q => eb b o (by simp only [List.mem_cons, List.not_mem_nil, or_false, not_or] at nb; exact nb.2) q) hf⟩ : (none : Option Value) = none ∧ L2.Inv X pins σ H { s with heap := h1 })
    have hle : us.length ≤ i := by rw [← rv.length]; exact hx
    cases t with
    | false =>
      obtain ⟨us2, rv2, p2, _⟩ := I.list hq
      have l2 := rv2.length
      exact wpAny_pyNext_enum_end (I.ok.hd hc) he hi p2.isList (by simp; omega) fun h1 eb => fin h1 eb
    | true =>
      have hT : s.TypeIs (.ref e) "enumerate" := ⟨_, he, rfl⟩
      unfold pyNext
      refine wpAny_bind (wpAny_attempt (wpAny_callSpecial?_slot (name := Str.ofString "__next__") hT F.slot_enumerate_next
        (wpAny_call_entry F.slot_enumerate_next hT F.entry_enumerate_next ?_ (F.args_enumerate_next_1 _))))
      show wpAny _ _ (field (.ref e) 2 >>= _) _ _ _
      refine wpAny_bind (wpAny_field he rfl (x := .ref it) rfl ?_)
      refine wpAny_bind (wpAny_nextOf_tuple_end (items := us.toArray) (I.ok.hd hc) hi p (by simp; omega) fun h1 z eb hz => ?_)
      obtain ⟨o, ho, hcl⟩ := hz
      refine wpAny_bind (wpAny_isInstance (T := "StopIteration") (b := true) ⟨o, ho, hcl⟩ isSubtype_stop ?_)
      exact wpAny_pure (fin _ eb)
  self := fun A i s Q E st q => let ⟨⟨_, he⟩, _⟩ := st; wpAny_pyIter_enum he q
set_option maxHeartbeats 1000000 in
/-- enumerate(v): its start, the count from 0 on -/
theorem en_new {v : Value} {ob : Obj} {St : Heap → Prop} (B : Begins v ob St) :
    Meets (Builtin.«enumerate.__new__» ⟨[.type "enumerate", v], []⟩) (fun _ R s => St s.heap ∧
      R (.ok (.ret (.ref (s.heap.push ob).objs.size))) { s with heap := (s.heap.push ob).push { cls := .type "enumerate", data := .fields #[.none, .bool false, .ref s.heap.objs.size, rawInt 0, .none, .none] } }) :=
  .of_wp fun prog w A R s h => by
    obtain ⟨hp, g, d, tk, os⟩ := s
    obtain ⟨h0, hR⟩ := h
    have hsub := sub_enumerate
    have begun : ∀ {A2 : Around} {E2 : Value → Shared → Prop} {Q2 : Value → Shared → Prop}, Q2 (.ref hp.objs.size) ⟨hp.push ob, g, d, tk, os⟩ → wpAny (model prog w) A2 (pyIter v) Q2 E2 ⟨hp, g, d, tk, os⟩ :=
      fun z => B.iter prog w _ _ ⟨hp, g, d, tk, os⟩ _ h0 z
    wp_walk using begun
    refine wpAny_stack_any fun _ => wpAny_pure ?_
    split
    · rename_i c _ _ _ _ _
      cases (c == Value.type "enumerate") <;> (wp_walk using begun; exact ⟨_, rfl, hR⟩)
    · wp_walk using begun
      exact ⟨_, rfl, hR⟩
theorem en_call {P : Program} {w : World} {A : Around} {E : Value → Shared → Prop} {s : Shared} {v : Value} {ob : Obj} {St : Heap → Prop} {Q : Value → Shared → Prop} (B : Begins v ob St) (h0 : St s.heap)
    (h : ∀ g, IsEnum g (s.heap.objs.size + 1) s.heap.objs.size 0 .none → g.get? s.heap.objs.size = some ob → (∀ b o, s.heap.get? b = some o → g.get? b = some o) → Q (.ref (s.heap.objs.size + 1)) { s with heap := g }) :
    wpAny (model P w) A (call (.type "enumerate") [v]) Q E s := by
  refine callType_new F.called_enumerate (by decide) (F.typeCall_enumerate_1 _) (F.newCall_enumerate_1 _) (fun z => F.args_object_init_2 z _) F.entry_enumerate_new (en_new B) ⟨h0, ?_⟩
  have sz : (s.heap.push ob).objs.size = s.heap.objs.size + 1 := Heap.size_push ..
  have top := Heap.get?_push_size (s.heap.push ob) (o := { cls := .type "enumerate", data := .fields #[.none, .bool false, .ref s.heap.objs.size, rawInt 0, .none, .none] }) rfl
  rw [sz] at top
  show _ ∧ _
  rw [sz]
  exact ⟨⟨_, top, rfl⟩, h _ top (Heap.get?_push_of_some _ (Heap.get?_push_size _ B.free)) fun b o q => Heap.get?_push_of_some _ (Heap.get?_push_of_some _ q)⟩
def iEnB (K : Fg) (ta : TA) : TI := fun σ H R => ta σ H fun vs H1 => ∃ t a xs, vs = [.ref a] ∧ SqB t K H1 a xs ∧ R (IteB t K a) H1
theorem pi_enB {X : Cx} {e : Expr} {ta : TA} {p pos tp : Pos} {es : List Expr} {kk : Nat} (hg : Gl X "enumerate") (hm : X.mg "enumerate" = none) (ha : PA X [e] ta) (hs : starEach [e] X.env = [(false, eval e X.env)]) :
    PI X (.Tuple es kk tp) (.Call (.Name "enumerate" p) [e] [] pos) (iEnB X.K ta) := by
  refine ⟨fun pins s σ H R I h => ?_⟩
  have hrun := ha.run pos pins s σ H _ I h
  refine Call_ (ld_blt I hg hm boot_enumerate (PyProof.Rows.callWith_type1 (thn hrun fun us s1 q1 => ?_) hs rfl))
  obtain ⟨vs, H1, I1, r1, t, a, xs, rfl, hq, q⟩ := q1
  obtain ⟨u, rfl, ru⟩ := Vals.one r1
  obtain rfl : u = Value.ref a := ru
  obtain ⟨us, rv, pl⟩ := sqB_at I1 hq
  refine en_call (beginsB t a us.toArray) pl fun g he hi kp => wpAny_pyIter_enum he ?_
  have I2 : L2.Inv X pins σ H1 { s1 with heap := g } := I1.kept (t' := s1.toks) kp
  refine ⟨s1.heap.objs.size + 1, [s1.heap.objs.size + 1, s1.heap.objs.size], _, _, H1, rfl, I2, turn_enB (t := t) (a := a) (it := s1.heap.objs.size) (e := s1.heap.objs.size + 1) (Nat.succ_ne_self _), ⟨⟨.none, he⟩, atB_new hi⟩, fun b hb => ?_, q⟩
  have hle : s1.heap.objs.size ≤ b := by
    rcases (by simpa using hb : b = s1.heap.objs.size + 1 ∨ b = s1.heap.objs.size) with z | z <;> rw [z] <;> first | exact Nat.le_refl _ | exact Nat.le_add_right _ _
  exact I1.fpOk hle (I1.hok.fresh hle)
def ItzB (t1 t2 : Bool) (K : Fg) (a b : Addr) : It where
  go := fun i H => ∃ xs ys x y, SqB t1 K H a xs ∧ SqB t2 K H b ys ∧ xs[i]? = some x ∧ ys[i]? = some y
  yld := fun i H v H' => ∃ T x y, v = .ref T ∧ H T = none ∧ H' = upd H T (.tup [x, y]) ∧ (∀ xs, SqB t1 K H a xs → xs[i]? = some x) ∧ ∀ ys, SqB t2 K H b ys → ys[i]? = some y
  stop := fun i H => ∃ xs ys, SqB t1 K H a xs ∧ SqB t2 K H b ys ∧ (xs.length = i ∧ i ≤ ys.length ∨ ys.length = i ∧ i ≤ xs.length)
theorem turn_zpB {P : Program} {w : World} {K : Fg} {es : List Expr} {kk : Nat} {tp : Pos} {t1 t2 : Bool} {a b z TI TO i1 i2 : Addr} (S : ZipSep2 z TI TO i1 i2 [i1, a] [i2, b]) :
    Turn P w K (.Tuple es kk tp) (ItzB t1 t2 K a b) [z, TI, TO, i1, i2] z (fun i h => IsZip h z TI TO .none ∧ IsTupOf2 h TI (.ref i1) (.ref i2) ∧ (∃ x y, IsTupOf2 h TO x y) ∧ AtB t1 h i1 a i ∧ AtB t2 h i2 b i) where
  mem := by simp
  obj := fun i h st c hc => by
    obtain ⟨hz, hI, ⟨x, y, hO⟩, q1, q2⟩ := st
    obtain ⟨o1, e1, _, d1⟩ := atB_obj q1
    obtain ⟨o2, e2, _, d2⟩ := atB_obj q2
    rcases (by simpa using hc : c = z ∨ c = TI ∨ c = TO ∨ c = i1 ∨ c = i2) with rfl | rfl | rfl | rfl | rfl
    · exact ⟨_, hz, fun v k => by cases k⟩
    · exact ⟨_, hI, fun v k => by cases k⟩
    · exact ⟨_, hO, fun v k => by cases k⟩
    · exact ⟨o1, e1, fun v k => by rw [d1] at k; cases k⟩
    · exact ⟨o2, e2, fun v k => by rw [d2] at k; cases k⟩
  keep := fun i h h' st k => by
    obtain ⟨hz, hI, ⟨x, y, hO⟩, q1, q2⟩ := st
    exact ⟨k z (by simp) _ hz, k TI (by simp) _ hI, ⟨x, y, k TO (by simp) _ hO⟩, atB_keep q1 fun o q => k i1 (by simp) o q, atB_keep q2 fun o q => k i2 (by simp) o q⟩
  item := by
    intro X hP hw hK hc i pins s σ H E I hf st hg
    subst hP hw hK
    obtain ⟨hz, hI, ⟨x0, y0, hO⟩, q1, q2⟩ := st
    obtain ⟨xs, ys, x, y, hqx, hqy, hx, hy⟩ := hg
    obtain ⟨us, rv, p⟩ := sqB_at I hqx
    obtain ⟨ws, rw', p2⟩ := sqB_at I hqy
    obtain ⟨u, hu, ru⟩ := rv.get hx
    obtain ⟨v, hv, rv2⟩ := rw'.get hy
    have hzl := Heap.lt_size hz
    obtain ⟨o1, e1, _, _⟩ := atB_obj q1
    obtain ⟨o2, e2, _, _⟩ := atB_obj q2
    have nia : a ≠ i1 := fun k => by
      obtain ⟨oa, ha1, ha2⟩ := hasB_obj p
      obtain ⟨oi, hi1, hi2, _⟩ := atB_obj q1
      rw [k, hi1] at ha1
      cases ha1
      rcases ha2 with q | q <;> rw [hi2] at q <;> injection q with q
      · exact (itNm_ne t1).1 q
      · exact (itNm_ne t1).2 q
    have nib : b ≠ i2 := fun k => by
      obtain ⟨oa, ha1, ha2⟩ := hasB_obj p2
      obtain ⟨oi, hi1, hi2, _⟩ := atB_obj q2
      rw [k, hi1] at ha1
      cases ha1
      rcases ha2 with q | q <;> rw [hi2] at q <;> injection q with q
      · exact (itNm_ne t2).1 q
      · exact (itNm_ne t2).2 q
    have D1 := drawsB (P := X.prog) (w := X.w) (A := X.A.in1) t1 (I.ok.hd hc) i1 a nia us.toArray
    have D2 := drawsB (P := X.prog) (w := X.w) (A := X.A.in1) t2 (I.ok.hd hc) i2 b nib ws.toArray
    have l1 : i < us.toArray.size := by have := (List.getElem?_eq_some_iff.mp hu).1; simpa using this
    have l2 : i < ws.toArray.size := by have := (List.getElem?_eq_some_iff.mp hv).1; simpa using this
    refine wpAny_pyNext_zipD2_item S D1 D2 hz hI hO ⟨q1, p⟩ ⟨q2, p2⟩ l1 l2 fun x1 x2 h1 tk hx1 hx2 z1 O1 s1 s2 tup sz kp => ?_
    have ex1 : x1 = u := by
      have k : us.toArray[i]? = some x1 := hx1
      rw [List.getElem?_toArray, hu] at k
      exact (Option.some.inj k).symm
    have ex2 : x2 = v := by
      have k : ws.toArray[i]? = some x2 := hx2
      rw [List.getElem?_toArray, hv] at k
      exact (Option.some.inj k).symm
    subst ex1 ex2
    refine ⟨_, rfl, wpAny_letOwnedTupleGo_zip (s := { s with heap := h1, toks := tk }) z1 fun h2 z2 sb => ?_⟩
    have tup2 : h2.get? s.heap.objs.size = some { cls := .type "tuple", data := .seq #[x1, x2] } := (sb.2 _ (Nat.ne_of_gt hzl)).trans tup
    have fresh := I.hok.fresh (Nat.le_refl s.heap.objs.size)
    have I2 : L2.Inv X pins σ (upd H s.heap.objs.size (.tup [x, y])) { s with heap := h2, toks := tk } := by
      refine I.turnedNew (ch := [z, TI, TO, i1, i2]) (fun c o nc q => ?_) hf (Nat.le_refl _) ⟨by show 2 ≤ sizeLine; decide, [x1, x2], .cons ru (.cons rv2 .nil), ⟨_, tup2, rfl, _, rfl⟩⟩
      simp only [List.mem_cons, List.not_mem_nil, or_false, not_or] at nc
      exact (sb.2 c nc.1).trans (kp c o nc.1 nc.2.2.1 nc.2.2.2.1 nc.2.2.2.2 q)
    refine ⟨.ref s.heap.objs.size, _, I2, rfl, ⟨_, x, y, rfl, fresh, rfl, fun l hl => by rw [sqB_inj I hl hqx]; exact hx, fun l hl => by rw [sqB_inj I hl hqy]; exact hy⟩, ⟨z2, ?_, ⟨x1, x2, ?_⟩, ?_, ?_⟩, fun c hcm => ?_⟩
    · exact (sb.2 _ S.TIz).trans (kp _ _ S.TIz S.TITO S.TIi1 S.TIi2 hI)
    · exact (sb.2 _ S.TOz).trans O1
    · exact atB_keep s1.1 fun o q => (sb.2 _ (Ne.symm S.zi1)).trans q
    · exact atB_keep s2.1 fun o q => (sb.2 _ (Ne.symm S.zi2)).trans q
    · have hlt : c < s.heap.objs.size := by
        rcases (by simpa using hcm : c = z ∨ c = TI ∨ c = TO ∨ c = i1 ∨ c = i2) with rfl | rfl | rfl | rfl | rfl
        · exact hzl
        · exact Heap.lt_size hI
        · exact Heap.lt_size hO
        · exact Heap.lt_size e1
        · exact Heap.lt_size e2
      rw [upd_ne (Nat.ne_of_lt hlt)]
      exact (hf c hcm).1
  done := by
    intro X hP hw hK hc i pins s σ H E I hf st hg
    subst hP hw hK
    obtain ⟨hz, hI, ⟨x0, y0, hO⟩, q1, q2⟩ := st
    obtain ⟨xs, ys, hqx, hqy, hend⟩ := hg
    obtain ⟨us, rv, p⟩ := sqB_at I hqx
    obtain ⟨ws, rw', p2⟩ := sqB_at I hqy
    have l1 := rv.length
    have l2 := rw'.length
    have nia : a ≠ i1 := fun k => by
      obtain ⟨oa, ha1, ha2⟩ := hasB_obj p
      obtain ⟨oi, hi1, hi2, _⟩ := atB_obj q1
      rw [k, hi1] at ha1
      cases ha1
      rcases ha2 with q | q <;> rw [hi2] at q <;> injection q with q
      · exact (itNm_ne t1).1 q
      · exact (itNm_ne t1).2 q
    have nib : b ≠ i2 := fun k => by
      obtain ⟨oa, ha1, ha2⟩ := hasB_obj p2
      obtain ⟨oi, hi1, hi2, _⟩ := atB_obj q2
      rw [k, hi1] at ha1
      cases ha1
      rcases ha2 with q | q <;> rw [hi2] at q <;> injection q with q
      · exact (itNm_ne t2).1 q
      · exact (itNm_ne t2).2 q
    have D1 := drawsB (P := X.prog) (w := X.w) (A := X.A.in1) t1 (I.ok.hd hc) i1 a nia us.toArray
    have D2 := drawsB (P := X.prog) (w := X.w) (A := X.A.in1) t2 (I.ok.hd hc) i2 b nib ws.toArray
    refine wpAny_pyNext_zipD2_end S D1 D2 hz hI hO ⟨q1, p⟩ ⟨q2, p2⟩ (by simp; omega) (by simp; omega) (by simp; omega) fun h1 tk kp => ⟨rfl, I.turnedL (ch := [z, TI, TO, i1, i2]) (fun c o nc q => ?_) hf⟩
    simp only [List.mem_cons, List.not_mem_nil, or_false, not_or] at nc
    exact kp c o nc.1 nc.2.2.1 nc.2.2.2.1 nc.2.2.2.2 q
  self := fun A i s Q E st q => wpAny_pyIter_zip st.1 q
def iZpB (K : Fg) (ta : TA) : TI := fun σ H R => ta σ H fun vs H1 => ∃ t1 t2 a b xs ys, vs = [.ref a, .ref b] ∧ SqB t1 K H1 a xs ∧ SqB t2 K H1 b ys ∧ R (ItzB t1 t2 K a b) H1
theorem pi_zpB {X : Cx} {e e2 : Expr} {ta : TA} {p pos tp : Pos} {es : List Expr} {kk : Nat} (hg : Gl X "zip") (hm : X.mg "zip" = none) (ha : PA X [e, e2] ta)
    (hs : starEach [e, e2] X.env = (false, eval e X.env) :: starEach [e2] X.env) (hpl : (backTo pos (starEach [e2] X.env)).any (·.1) = false) :
    PI X (.Tuple es kk tp) (.Call (.Name "zip" p) [e, e2] [] pos) (iZpB X.K ta) := by
  refine ⟨fun pins s σ H R I h => ?_⟩
  have hrun := ha.run pos pins s σ H _ I h
  refine Call_ (ld_blt I hg hm PyProof.Rows.boot_zip (PyProof.Rows.callWith_type1 (thn hrun fun us s1 q1 => ?_) hs hpl))
  obtain ⟨vs, H1, I1, r1, t1, t2, a, b, xs, ys, rfl, hqx, hqy, q⟩ := q1
  obtain ⟨u, v, rfl, ru, rv⟩ := Vals.two r1
  obtain rfl : u = Value.ref a := ru
  obtain rfl : v = Value.ref b := rv
  obtain ⟨us, ra, pa⟩ := sqB_at I1 hqx
  obtain ⟨ws, rb, pb⟩ := sqB_at I1 hqy
  have la : a < s1.heap.objs.size := let ⟨_, k, _⟩ := hasB_obj pa; Heap.lt_size k
  have lb : b < s1.heap.objs.size := let ⟨_, k, _⟩ := hasB_obj pb; Heap.lt_size k
  refine zip_begins2 (beginsB t1 a us.toArray) (beginsB t2 b ws.toArray) pa pb fun g hz hI hO h1 h2 _ kp => wpAny_pyIter_zip hz ?_
  have I2 : L2.Inv X pins σ H1 { s1 with heap := g } := I1.kept (t' := s1.toks) kp
  have S : ZipSep2 (s1.heap.objs.size + 4) (s1.heap.objs.size + 2) (s1.heap.objs.size + 3) s1.heap.objs.size (s1.heap.objs.size + 1) [s1.heap.objs.size, a] [s1.heap.objs.size + 1, b] := zsep la lb
  refine ⟨s1.heap.objs.size + 4, [s1.heap.objs.size + 4, s1.heap.objs.size + 2, s1.heap.objs.size + 3, s1.heap.objs.size, s1.heap.objs.size + 1], _, _, H1, rfl, I2, turn_zpB (t1 := t1) (t2 := t2) S, ⟨hz, hI, ⟨_, _, hO⟩, atB_new h1, atB_new h2⟩, fun c hcm => ?_, q⟩
  have hle : s1.heap.objs.size ≤ c := by
    rcases (by simpa using hcm : c = s1.heap.objs.size + 4 ∨ c = s1.heap.objs.size + 2 ∨ c = s1.heap.objs.size + 3 ∨ c = s1.heap.objs.size ∨ c = s1.heap.objs.size + 1) with k | k | k | k | k <;> rw [k] <;> first | exact Nat.le_refl _ | exact Nat.le_add_right _ _
  exact I1.fpOk hle (I1.hok.fresh hle)
end Ev
namespace Ev
open PySem L2
variable [Tabs]
def SemTy (X : Cx) (T : String) (x : V) (H : Hp) : Prop := ∀ (pins : List (Addr × Obj)) (σ : L2.St) (s : Shared) (v : Value), L2.Inv X pins σ H s → RelV x v → s.TypeIs v T ∧ ∀ a, v = .ref a → ∃ ob, s.heap.get? a = some ob ∧ ob.dict = none
theorem SemTy.of {X : Cx} {T : String} {x : V} {H : Hp} (t : tyV X.K T x H) : SemTy X T x H := fun _ _ _ _ I r => tyV_is I r t
theorem SemTy.dv {X : Cx} {R : Ap} {n : Nat} {μ : Nat → Addr} {H : Hp} {a : Addr} {kvs : List (D × D)} (t : DV X.K R n μ H a kvs) : SemTy X "dict" (.ref a) H := fun pins σ s v I r => by
  obtain rfl : v = Value.ref a := r
  have z : ∃ o, s.heap.get? a = some o ∧ o.ExactDict := by
    obtain ⟨kws, ws, hr, _⟩ := t
    rcases hr with ⟨kk, e, _⟩ | ⟨xs, _, e, _⟩
    · obtain ⟨_, _, _, _, o, _, _, e, ex, _⟩ := I.hok a _ e
      exact ⟨o, e, ex⟩
    · obtain ⟨⟨_, _, ys, _, o, es, ep, e, ex, _⟩, _⟩ := I.hok a _ e
      exact ⟨o, e, ex⟩
  obtain ⟨o, e, ex⟩ := z
  refine ⟨⟨o, e, ex.1⟩, fun b e2 => ?_⟩
  cases e2
  exact ⟨o, e, ex.2.1⟩
section
variable {X : Cx} {o e : Expr} {es : List Expr} {to : TE} {t : TA} {name : Str} {apos cpos : Pos} {T id : String} {r : V → List V → Hp → VK → Prop}
theorem pe_bmS0 (pa : PlainAttrs T) (slot : Slot T name id) (hty : typeOf (.builtin id) = pure (.type "method_descriptor")) (hm : MtM X id r) (ho : PE X o to)
    (hbase : attributeBase o name X.env (eval o X.env) = eval o X.env) (hline : (apos.endLine == cpos.line) = true) :
    PE X (.Call (.Attribute o name apos) [] [] cpos) (fun σ H Q => to σ H fun x H1 => SemTy X T x H1 ∧ r x [] H1 Q) := by
  refine ⟨fun pins s σ H Q I h => wpAny_Call_method0_late hbase hline ?_⟩
  have hx := ho.run pins s σ H _ I h
  refine thn hx fun v s1 q => ?_
  obtain ⟨x, H1, I1, r1, ty, q1⟩ := q
  have hh := ty pins σ s1 v I1 r1
  exact ⟨T, id, pa, slot, hty, hh.1, hh.2, Calls.callWith_builtin rfl (PySem.evalArgs_none (hm pins s1 σ H1 x [] v [] Q I1 r1 .nil q1))⟩
theorem pe_bmS (pa : PlainAttrs T) (slot : Slot T name id) (hty : typeOf (.builtin id) = pure (.type "method_descriptor")) (hm : MtM X id r) (ho : PE X o to) (ha : PA X (e :: es) t)
    (hbase : attributeBase o name X.env (eval o X.env) = eval o X.env)
    (hfew : ((backTo cpos (starEach (e :: es) X.env)).all (fun x => !x.1) && (backToKw cpos (keywordEach [] X.env)).all (fun x => x.1.isSome)
      && decide ((e :: es).length + ([] : List Keyword).length + (if ([] : List Keyword).isEmpty then 0 else 1) < 30)) = true)
    (hline : (apos.endLine == cpos.line) = true) (hs : starEach (e :: es) X.env = (false, eval e X.env) :: starEach es X.env) (hplain : (backTo cpos (starEach es X.env)).any (·.1) = false) :
    PE X (.Call (.Attribute o name apos) (e :: es) [] cpos) (fun σ H Q => to σ H fun x H1 => SemTy X T x H1 ∧ t σ H1 fun xs H2 => r x xs H2 Q) := by
  refine ⟨fun pins s σ H Q I h => wpAny_Call_method_late hbase hfew hline rfl ?_⟩
  have hx := ho.run pins s σ H _ I h
  refine thn hx fun v s1 q => ?_
  obtain ⟨x, H1, I1, r1, ty, q1⟩ := q
  have hh := ty pins σ s1 v I1 r1
  refine ⟨T, id, pa, slot, hty, hh.1, hh.2, ?_⟩
  have hA := ha.run cpos pins s1 σ H1 _ I1 q1
  rw [hs] at hA ⊢
  refine Calls.callWith_builtin (by show (false || (backTo cpos (starEach es X.env)).any (·.1)) = false; rw [hplain] <;> rfl) (Calls.evalArgs_plain ?_)
  refine thn hA fun us s2 q2 => ?_
  obtain ⟨vs, H2, I2, r2, q2⟩ := q2
  exact hm pins s2 σ H2 x vs v us Q I2 r1 r2 q2
/-- (a, b, ..).index(x): the texts of a tuple that was just written -/
def tTix (K : Fg) (t : TA) (te : TE) : TE := fun σ H Q => t σ H fun xs H1 => xs.length ≤ sizeLine ∧ ∀ p, H1 p = none → te σ (upd H1 p (.tup xs)) fun x H2 =>
  ∃ ys : List Str, ∃ z j, xs = ys.map V.str ∧ x = .str z ∧ SqT K H2 p xs ∧ ys[j]? = some z ∧ (∀ m, m < j → ys[m]? ≠ some z) ∧ Q (.int (j : Nat)) H2
theorem pe_tix {fs : List Expr} {kk : Nat} {tpos : Pos} {f : Expr} {te : TE} (ha : PA X fs t) (hf : PE X f te)
    (hs : starEach [f] X.env = [(false, eval f X.env)]) (hline : (apos.endLine == cpos.line) = true) :
    PE X (.Call (.Attribute (.Tuple fs kk tpos) "index" apos) [f] [] cpos) (tTix X.K t te) := by
  refine ⟨fun pins s σ H Q I h => wpAny_Call_method1_late rfl hline (by rw [hs]; rfl) ?_⟩
  refine wpAny_Tuple_spliced ?_
  refine thn (ha.run tpos pins s σ H _ I h) fun us s1 q => ?_
  obtain ⟨xs, H1, I1, r, z, q⟩ := q
  refine ⟨by rw [← r.length]; exact z, ?_⟩
  have hn : H1 s1.heap.objs.size = none := I1.hok.fresh (Nat.le_refl _)
  have hg : (s1.heap.push { cls := .type "tuple", data := .seq us.toArray }).get? s1.heap.objs.size = some { cls := .type "tuple", data := .seq us.toArray } := Heap.get?_push_size _ rfl
  have I2 : L2.Inv X pins σ (upd H1 s1.heap.objs.size (.tup xs)) { s1 with heap := s1.heap.push { cls := .type "tuple", data := .seq us.toArray } } :=
    I1.laid (t' := s1.toks) (fun b u e => Heap.get?_push_of_some _ e) (Nat.le_refl _) ⟨z, us, r, ⟨_, hg, rfl, _, rfl⟩⟩
  refine ⟨"tuple", "tuple.index", PySem.F.plainAttrs_tuple, PySem.F.slot_tuple_index, PySem.F.type_tuple_index, ⟨_, hg, rfl⟩, fun a e => ?_, ?_⟩
  · cases e; exact ⟨_, hg, rfl⟩
  refine Calls.callWith_builtin rfl (Calls.evalArgs_plain ?_)
  refine Calls.spliced_cons (thn (hf.run pins _ σ _ _ I2 (q _ hn)) fun u s2 q2 => ?_)
  obtain ⟨x, H2, I3, rx, ys, w, j, e1, e2, sq, h1, h2, q2⟩ := q2
  refine Calls.spliced_nil ?_
  subst e1 e2
  exact mt_tup_index pins s2 σ H2 (.ref s1.heap.objs.size) [.str w] (.ref s1.heap.objs.size) [u] Q I3 rfl (.cons rx .nil) ⟨_, ys, w, j, rfl, rfl, sq, h1, h2, q2⟩
end
def prs : List V → List (V × V)
  | x :: y :: r => (x, y) :: prs r
  | _ => []
def trsE (X : Cx) (W : WX) : List E → List (TE × TE)
  | k :: v :: r => (rdE X W k, rdE X W v) :: trsE X W r
  | _ => []
def rdPs (X : Cx) (W : WX) (es : List E) : L2.St → Hp → (List (V × V) → Hp → Prop) → Prop := fun σ H Q => In1 X σ H fun R μ h env => Post X.K X.mg (WP X W σ) R h.length μ H (fun ds h' μ' H' => ∀ vs, Reps X.K R h'.length μ' H' ds vs → Q (prs vs) H') (evEs es env h)
theorem pairs_rd {X : Cx} {W : WX} : ∀ (es : List E) (σ : L2.St) (H : Hp) (Q : List (V × V) → Hp → Prop), es.length % 2 = 0 → rdPs X W es σ H Q → tPairs (trsE X W es) σ H Q
  | [], σ, H, Q, _, q => by
    obtain ⟨R, μ, h, env, S, Ev, p⟩ := q
    exact p μ H Ext.refl S [] (by simp [Reps])
  | [_], _, _, _, hl, _ => by simp at hl
  | k :: v :: r, σ, H, Q, hl, q => by
    obtain ⟨R, μ, h, env, S, Ev, p⟩ := q
    simp only [evEs] at p
    refine ⟨R, μ, h, env, S, Ev, p.bind.imp fun d1 h1 μ1 H1 e1 S1 p1 x rx => ?_⟩
    have Ev1 := Ev.mono S e1
    refine ⟨R, μ1, h1, env, S1, Ev1, p1.bind.bind.imp fun d2 h2 μ2 H2 e2 S2 p2 y ry => ?_⟩
    refine pairs_rd r σ H2 _ (by simp only [List.length_cons] at hl; omega) ⟨R, μ2, h2, env, S2, Ev1.mono S1 e2, p2.bind.imp fun ds h3 μ3 H3 e3 S3 p3 vs rs => ?_⟩
    have p4 := p3 μ3 H3 Ext.refl S3
    refine p4 μ3 H3 Ext.refl S3 (x :: y :: vs) ?_
    simp only [Reps]
    exact ⟨x, _, rfl, Rep.mono S2 e3 _ _ (Rep.mono S1 e2 _ _ rx), y, vs, rfl, Rep.mono S2 e3 _ _ ry, rs⟩
theorem dK_keep {K : Fg} {H : Hp} {p : Addr} {kvs : List (Key × V)} {u : HO} (hp : H p = some (.dK kvs)) : (∀ a xs, SqT K H a xs → SqT K (upd H p u) a xs) ∧ (∀ a xs, FzS K H a xs → FzS K (upd H p u) a xs) := by
  refine ⟨fun a xs q => ?_, fun a xs q => ?_⟩
  · rcases q with (q | ⟨o, q⟩) | q
    · exact .inl (.inl (by rw [upd_ne (fun z => by rw [z, hp] at q; cases q)]; exact q))
    · exact .inl (.inr ⟨o, by rw [upd_ne (fun z => by rw [z, hp] at q; cases q)]; exact q⟩)
    · exact .inr q
  · rcases q with ⟨o, q⟩ | q
    · exact .inl ⟨o, by rw [upd_ne (fun z => by rw [z, hp] at q; cases q)]; exact q⟩
    · exact .inr q
section
variable {K : Fg} {R : Ap} {n : Nat} {μ : Nat → Addr} {H : Hp}
theorem prs_rep : ∀ (ds : List D) (vs : List V) (kvs : List (D × D)), pairUp ds = some kvs → Reps K R n μ H ds vs → (kvs.all fun p => keyB p.1) = true →
    ∃ kk : List (Key × V), prs vs = kk.map (fun p => (kV p.1, p.2)) ∧ kvs.map (·.1) = kk.map (fun p => keyD p.1) ∧ Reps K R n μ H (kvs.map (·.2)) (kk.map (·.2))
  | [], vs, kvs, e, r, _ => by
    simp only [pairUp] at e; cases e
    simp only [Reps] at r; subst r
    exact ⟨[], rfl, rfl, by simp [Reps]⟩
  | [_], _, _, e, _, _ => by simp [pairUp] at e
  | x :: y :: ds, vs, kvs, e, r, hk => by
    simp only [pairUp] at e
    split at e
    · rename_i l q
      cases e
      simp only [Reps] at r
      obtain ⟨v, ws, rfl, rx, w, us, rfl, ry, rr⟩ := r
      simp only [List.all_cons, Bool.and_eq_true] at hk
      obtain ⟨kk, h1, h2, h3⟩ := prs_rep ds us l q rr hk.2
      obtain ⟨k, rfl⟩ := keyB_of hk.1
      cases rep_keyD rx
      refine ⟨(k, w) :: kk, by simp only [prs, List.map_cons, h1], by simp [h2], ?_⟩
      simp only [List.map_cons, Reps]
      exact ⟨w, _, rfl, ry, h3⟩
    · cases e
theorem merge_dput : ∀ (kvs : List (D × D)) (kk : List (Key × V)) (acc : List (D × D)) (ak : List (Key × V)), kvs.map (·.1) = kk.map (fun p => keyD p.1) → Reps K R n μ H (kvs.map (·.2)) (kk.map (·.2)) →
    acc.map (·.1) = ak.map (fun p => keyD p.1) → Reps K R n μ H (acc.map (·.2)) (ak.map (·.2)) →
    (kvs.foldl (fun acc p => dput acc p.1 p.2) acc).map (·.1) = (mergeK ak kk).map (fun p => keyD p.1) ∧ Reps K R n μ H ((kvs.foldl (fun acc p => dput acc p.1 p.2) acc).map (·.2)) ((mergeK ak kk).map (·.2))
  | [], [], _, _, _, _, e, r => ⟨e, r⟩
  | [], _ :: _, _, _, e, _, _, _ => by simp at e
  | _ :: _, [], _, _, e, _, _, _ => by simp at e
  | p :: kvs, q :: kk, acc, ak, e, r, e0, r0 => by
    simp only [List.map_cons, List.cons.injEq] at e
    simp only [List.map_cons, Reps, List.cons.injEq] at r
    obtain ⟨v, vs, ⟨rfl, rfl⟩, r1, r2⟩ := r
    obtain ⟨d1, d2⟩ := putK_dput (k := q.1) r1 e0 r0
    have := merge_dput kvs kk (dput acc p.1 p.2) (putK ak q.1 q.2) e.2 r2 (by rw [e.1]; exact d1) (by rw [e.1]; exact d2)
    exact this
end
theorem dsp_rd {X : Cx} {W : WX} {es : List E} {σ : L2.St} {H : Hp} {Q : VK} (hl : es.length % 2 = 0) (q : rdE X W (.dsp es) σ H Q) : tDisp (trsE X W es) σ H Q := by
  intro p0 hp
  obtain ⟨R, μ, h, env, S, Ev, p⟩ := q
  simp only [evE] at p
  have hR : ∀ a, (R a ∨ a = p0) → R a ∨ H a = none := fun a r => by
    rcases r with r | r
    · exact .inl r
    · subst r; exact .inr hp
  have e0 : Ext h.length μ H h.length μ (upd H p0 (.dK [])) := Ext.laid hp
  have S0 := S.apart (u := .dK []) hp
  have nR : ¬ R p0 := (S.unr_fresh hp).1
  refine pairs_rd es σ _ _ hl ⟨fun a => R a ∨ a = p0, μ, h, env, S0, (Ev.up hR).mono S e0, ?_⟩
  cases e : evEs es env h with
  | no => rw [e] at p; exact p.elim
  | ex x h1 =>
    rw [e] at p ⊢
    exact fun μ1 H1 cls dx e1 S1 rx => p μ1 H1 cls dx (e0.trans S0 e1) (S1.weak fun _ r => .inl r) (by
      obtain ⟨C, c1, c2, c3⟩ := rx
      refine ⟨C, c1, c2, ?_⟩
      split at c3
      · exact c3
      · obtain ⟨a, v, q1, q2, q3⟩ := c3
        exact ⟨a, v, q1, q2, Rep.up (fun a r => .inl (.inl r)) _ _ q3⟩)
  | ok ds h1 =>
    rw [e] at p ⊢
    simp only [Res.bind] at p
    intro μ1 H1 e1 S1 vs r
    split at p
    · exact p.elim
    · rename_i kvs hkv
      split at p
      · rename_i c
        obtain ⟨kk, k1, k2, k3⟩ := prs_rep ds vs kvs hkv r c.1
        have hdK : H1 p0 = some (.dK []) := e1.keep p0 _ (fun l hl z => S0.sep l hl (.inr z)) upd_same
        have hlen : kk.length ≤ 15 := by
          have := congrArg List.length k2
          simp only [List.length_map] at this
          omega
        refine ⟨hdK, kk, k1, hlen, ?_⟩
        obtain ⟨d1, d2⟩ := merge_dput kvs kk [] [] k2 k3 rfl (by simp [Reps])
        obtain ⟨kt, kf⟩ := dK_keep (K := X.K) (u := .dK (mergeK [] kk)) hdK
        have S2 := S1.newLocR (u := .dK (mergeK [] kk)) (o := .dct (kvs.foldl (fun acc p => dput acc p.1 p.2) [])) nR hdK (fun gen => by
          have gens : ∀ (ds : List D) (vs : List V), Reps X.K (fun a => R a ∨ a = p0) h1.length μ1 H1 ds vs → Reps X.K R (h1.length + 1) (muN μ1 h1.length p0) (upd H1 p0 (.dK (mergeK [] kk))) ds vs := by
            intro ds
            induction ds with
            | nil => intro vs r; simpa only [Reps] using r
            | cons d ds ih =>
              intro vs r
              simp only [Reps] at r ⊢
              obtain ⟨v, ws, rfl, r1, r2⟩ := r
              exact ⟨v, ws, rfl, gen _ _ r1, ih _ r2⟩
          refine ⟨(mergeK [] kk).map fun p => kV p.1, (mergeK [] kk).map (·.2), .inl ⟨_, upd_same, d1, rfl, rfl⟩, ?_, gens _ _ d2⟩
          rw [d1]
          exact reps_keys _) kt kf
        have e2 : Ext h.length μ H (h1 ++ [O.dct (kvs.foldl (fun acc p => dput acc p.1 p.2) [])]).length (muN μ1 h1.length p0) (upd H1 p0 (.dK (mergeK [] kk))) := by
          rw [List.length_append]
          exact (e0.trans S0 e1).newLocR hp
        refine p _ _ e2 S2 _ ?_
        simp only [Rep]
        refine ⟨by simp, ?_⟩
        rw [muN_eq]
      · exact p.elim
theorem idxOf_at {ys : List Str} {z : Str} {k : Nat} (h : ys.idxOf? z = some k) : ys[k]? = some z ∧ ∀ m, m < k → ys[m]? ≠ some z := by
  rw [List.idxOf?, List.findIdx?_eq_some_iff_getElem] at h
  obtain ⟨hl, h1, h2⟩ := h
  refine ⟨by rw [List.getElem?_eq_getElem hl, eq_of_beq h1], fun m hm e => ?_⟩
  have hml : m < ys.length := Nat.lt_trans hm hl
  rw [List.getElem?_eq_getElem hml, Option.some.injEq] at e
  exact h2 m hm (by rw [e]; exact beq_self_eq_true z)
theorem tix_rd {X : Cx} {W : WX} {os : List E} {c : E} {σ : L2.St} {H : Hp} {Q : VK} (q : rdE X W (.tix os c) σ H Q) : tTix X.K (rdEs X W os) (rdE X W c) σ H Q := by
  obtain ⟨R, μ, h, env, S, Ev, p⟩ := q
  simp only [evE] at p
  refine ⟨R, μ, h, env, S, Ev, p.bind.imp fun ds h1 μ1 H1 e1 S1 p1 xs rs => ?_⟩
  split at p1
  · rename_i hl
    refine ⟨by rw [← rs.length]; exact hl, fun a ha => ?_⟩
    have eL : Ext h1.length μ1 H1 h1.length μ1 (upd H1 a (.tup xs)) := Ext.laid ha
    have SL := S1.laid (o := .tup xs) ha
    refine ⟨R, μ1, h1, env, SL, (Ev.mono S e1).mono S1 eL, (p1.later eL SL).bind.imp fun d2 h2 μ2 H2 e2 S2 p2 v2 r2 => ?_⟩
    split at p2
    · rename_i ys z qs
      cases repS.mp r2
      split at p2
      · rename_i k qk
        obtain ⟨i1, i2⟩ := idxOf_at qk
        have exs := strsOf_ok qs rs
        have sq : SqT X.K H2 a xs := (mono_k (R := R) SL e2).2.1 a xs (SqT.of upd_same)
        exact ⟨ys, z, k, exs, rfl, sq, i1, i2, p2.int S2⟩
      · exact p2.elim
    · exact p2.elim
  · exact p1.elim
theorem reps_ints {K : Fg} {R : Ap} {n : Nat} {μ : Nat → Addr} {H : Hp} {α : Type} (f : α → Int) : ∀ l : List α, Reps K R n μ H (l.map fun k => D.int (f k)) (l.map fun k => V.int (f k))
  | [] => by simp [Reps]
  | a :: l => by
    simp only [List.map_cons, Reps]
    exact ⟨_, _, rfl, rep_int.mpr rfl, reps_ints f l⟩
theorem lrg1_rd {X : Cx} {W : WX} {m : Bool} {a : E} {σ : L2.St} {H : Hp} {Q : VK} (q : rdE X W (.lrg m (.rng [a])) σ H Q) : tLstRg (tRg1 (rdE X W a)) σ H Q := by
  obtain ⟨R, μ, h, env, S, Ev, p⟩ := q
  simp only [evE, evI] at p
  refine ⟨R, μ, h, env, S, Ev, p.bind.bind.imp fun d1 h1 μ1 H1 e1 S1 p1 v1 r1 => ?_⟩
  split at p1
  · rename_i l q
    unfold rangeItems at q
    split at q
    · rename_i j q5
      cases q5
      split at q
      · rename_i c
        cases q
        cases repI.mp r1
        have p2 := p1 μ1 H1 Ext.refl S1
        simp only at p2
        split at p2
        · rename_i hz
          have e1 : ∀ i : Nat, (0 : Int) + (i : Nat) = ((i : Nat) : Int) := fun i => by omega
          have hz' : (j - 0).toNat ≤ 2 ^ 24 := by
            have : ((List.range j.toNat).map fun i => D.int (i : Nat)).length ≤ sizeLine := hz
            rw [List.length_map, List.length_range, sizeLine_eq] at this
            omega
          refine ⟨j, rfl, ⟨by decide, by decide, c.1, c.2, hz'⟩, ?_⟩
          have r : Reps X.K R h1.length μ1 H1 ((List.range j.toNat).map fun i => D.int (i : Nat)) (rgV 0 j) := by
            unfold rgV
            rw [show (j - 0).toNat = j.toNat by omega]
            simp only [e1]
            exact reps_ints (fun i : Nat => ((i : Nat) : Int)) _
          exact lst_ok S1 r p2
        · exact p2.elim
      · cases q
    · rename_i q5; cases q5
    · cases q
  · exact p1.elim
theorem lrg2_rd {X : Cx} {W : WX} {m : Bool} {a b : E} {σ : L2.St} {H : Hp} {Q : VK} (q : rdE X W (.lrg m (.rng [a, b])) σ H Q) : tLstRg (tRg2 (rdE X W a) (rdE X W b)) σ H Q := by
  obtain ⟨R, μ, h, env, S, Ev, p⟩ := q
  simp only [evE, evI] at p
  refine ⟨R, μ, h, env, S, Ev, p.bind.bind.imp fun d1 h1 μ1 H1 e1 S1 p1 v1 r1 => ?_⟩
  refine ⟨R, μ1, h1, env, S1, Ev.mono S e1, p1.bind.imp fun d2 h2 μ2 H2 e2 S2 p2 v2 r2 => ?_⟩
  split at p2
  · rename_i l q
    unfold rangeItems at q
    split at q
    · rename_i q5; cases q5
    · rename_i i j q5
      cases q5
      split at q
      · rename_i c
        cases q
        cases repI.mp (Rep.mono S1 e2 _ _ r1)
        cases repI.mp r2
        have p3 := p2 μ2 H2 Ext.refl S2
        simp only at p3
        split at p3
        · rename_i hz
          have hz' : (j - i).toNat ≤ 2 ^ 24 := by
            have : ((List.range (j - i).toNat).map fun k => D.int (i + (k : Nat))).length ≤ sizeLine := hz
            rw [List.length_map, List.length_range, sizeLine_eq] at this
            exact this
          refine ⟨i, j, rfl, rfl, ⟨c.1, c.2.1, c.2.2.1, c.2.2.2, hz'⟩, ?_⟩
          exact lst_ok S2 (reps_ints (fun k : Nat => i + (k : Nat)) _) p3
        · exact p3.elim
      · cases q
    · cases q
  · exact p2.elim
theorem Reps.reverse {K : Fg} {R : Ap} {n : Nat} {μ : Nat → Addr} {H : Hp} : ∀ {ds : List D} {vs : List V}, Reps K R n μ H ds vs → Reps K R n μ H ds.reverse vs.reverse
  | [], vs, r => by simp only [Reps] at r; subst r; simp [Reps]
  | d :: ds, vs, r => by
    simp only [Reps] at r
    obtain ⟨v, ws, rfl, r1, r2⟩ := r
    rw [List.reverse_cons, List.reverse_cons]
    exact (Reps.reverse r2).append (reps1.mpr ⟨v, rfl, r1⟩)
theorem wk_rngC {K : Fg} {R : Ap} {μ : Nat → Addr} {H : Hp} {h : LH} {i j : Int} : Wk K R (Itc i (-1) (i - j).toNat) [] (rangeDown i j) h.length μ H := by
  have hl : (rangeDown i j).length = (i - j).toNat := by simp [rangeDown]
  refine ⟨fun R' μ' H' h' hR e S' _ => ?_, fun R' k μ' H' h' hR hk e S' _ => ?_, fun R' k d μ' H' h' x H2 hR hd e S' _ y => ?_⟩
  · show (i - j).toNat ≤ _
    rw [hl]; exact Nat.le_refl _
  · show k < (i - j).toNat
    rw [← hl]; exact hk
  · obtain ⟨rfl, rfl⟩ := y
    refine ⟨Ext.refl, S', ?_⟩
    unfold rangeDown at hd
    rw [List.getElem?_map] at hd
    have hk : k < (i - j).toNat := by rw [← hl]; exact (List.getElem?_eq_some_iff.mp (by unfold rangeDown; rw [List.getElem?_map]; exact hd)).1
    rw [List.getElem?_range hk] at hd
    cases hd
    exact rep_int.mpr rfl
/-- a list or tuple that stands for the items, whatever comes -/
def SqW (K : Fg) (R : Ap) (t : Bool) (a : Addr) (src : Src) (items : List D) (n1 : Nat) (μ1 : Nat → Addr) (H1 : Hp) : Prop :=
  ∀ (R' : Ap) μ H (h : LH), (∀ b, R' b → R b ∨ H1 b = none) → Ext n1 μ1 H1 h.length μ H → SimH K R' μ H h → SrcOk src h → ∃ xs, SqB t K H a xs ∧ Reps K R' h.length μ H items xs
theorem sqw_of {K : Fg} {R : Ap} {μ : Nat → Addr} {H : Hp} {h : LH} {d : D} {v : V} {src : Src} {items : List D} (S : SimH K R μ H h) (r : Rep K R h.length μ H d v) (hs : seqSrc h d = some (src, items)) (hl : (asS h d).isSome = true) :
    ∃ t a, v = .ref a ∧ (∃ xs, SqB t K H a xs) ∧ SqW K R t a src items h.length μ H := by
  have mono : ∀ {R' : Ap} {μ' H' h'}, (∀ b, R' b → R b ∨ H b = none) → Ext h.length μ H (List.length (h' : LH)) μ' H' → Rep K R' h'.length μ' H' d v := fun {R' μ' H' h'} hR e => Rep.mono S e _ _ (Rep.up hR _ _ r)
  cases d with
  | tup ds =>
    cases hs
    have r0 := r
    simp only [Rep] at r0
    obtain ⟨a, xs, rfl, sq, _⟩ := r0
    refine ⟨true, a, rfl, ⟨xs, sq⟩, fun R' μ' H' h' hR e S' _ => ?_⟩
    have r1 := mono hR e
    simp only [Rep] at r1
    obtain ⟨b, ys, q, sq1, ra⟩ := r1
    cases q
    exact ⟨ys, sq1, ra⟩
  | lst ds =>
    cases hs
    have r0 := r
    simp only [Rep] at r0
    obtain ⟨a, xs, rfl, sq, _⟩ := r0
    refine ⟨false, a, rfl, ⟨xs, SqL.of sq⟩, fun R' μ' H' h' hR e S' _ => ?_⟩
    have r1 := mono hR e
    simp only [Rep] at r1
    obtain ⟨b, ys, q, sq1, _, ra⟩ := r1
    cases q
    exact ⟨ys, SqL.of sq1, ra⟩
  | loc n =>
    simp only [seqSrc] at hs
    split at hs
    · rename_i es q
      cases hs
      have r0 := r
      simp only [Rep] at r0
      obtain ⟨hn, rfl⟩ := r0
      obtain ⟨xs, e1, _⟩ := S.obj n _ q
      refine ⟨false, μ n, rfl, ⟨xs, SqL.of e1⟩, fun R' μ' H' h' hR e S' ok => ?_⟩
      have q' : h'[n]? = some (.lst items) := ok (n, items) (by simp)
      obtain ⟨ys, e2, ra⟩ := S'.obj n _ q'
      rw [e.agree n hn] at e2
      exact ⟨ys, SqL.of e2, ra⟩
    · cases hs
  | _ => simp [asS, asL] at hl
theorem wk_enB {K : Fg} {R : Ap} {t : Bool} {μ : Nat → Addr} {H : Hp} {h : LH} {a : Addr} {src : Src} {items : List D} (w : SqW K R t a src items h.length μ H) : Wk K R (IteB t K a) src (enmD items) h.length μ H := by
  have hl : (enmD items).length = items.length := by simp [enmD]
  refine ⟨fun R' μ' H' h' hR e S' ok => ?_, fun R' k μ' H' h' hR hk e S' ok => ?_, fun R' k d μ' H' h' x H2 hR hd e S' ok y => ?_⟩
  · obtain ⟨xs, sq, ra⟩ := w R' μ' H' h' hR e S' ok
    exact ⟨xs, sq, by rw [hl, ra.length]; exact Nat.le_refl _⟩
  · obtain ⟨xs, sq, ra⟩ := w R' μ' H' h' hR e S' ok
    obtain ⟨v, q, _⟩ := ra.get (List.getElem?_eq_getElem (by rw [← hl]; exact hk))
    exact ⟨xs, v, sq, q⟩
  · obtain ⟨xs, sq, ra⟩ := w R' μ' H' h' hR e S' ok
    obtain ⟨T, x0, rfl, hT, rfl, hx⟩ := y
    have hk : k < items.length := by rw [← hl]; exact (List.getElem?_eq_some_iff.mp hd).1
    obtain ⟨v, q, rv⟩ := ra.get (List.getElem?_eq_getElem hk)
    have z := hx xs sq
    rw [q] at z
    cases z
    have eL : Ext h'.length μ' H' h'.length μ' (upd H' T (.tup [.int (k : Nat), x0])) := Ext.laid hT
    refine ⟨eL, S'.laid hT, ?_⟩
    unfold enmD at hd
    rw [List.getElem?_map, List.getElem?_zipIdx, List.getElem?_eq_getElem hk] at hd
    simp only [Option.map_some, Option.some.injEq] at hd
    subst hd
    simp only [Rep]
    refine ⟨T, _, rfl, SqT.of upd_same, ?_⟩
    simp only [Reps]
    exact ⟨_, _, rfl, by simp [Rep], x0, [], rfl, Rep.mono S' eL _ _ rv, rfl⟩
theorem wk_zpB {K : Fg} {R : Ap} {t1 t2 : Bool} {μ : Nat → Addr} {H : Hp} {h : LH} {a b : Addr} {s1 s2 : Src} {i1 i2 : List D} (w1 : SqW K R t1 a s1 i1 h.length μ H) (w2 : SqW K R t2 b s2 i2 h.length μ H) : Wk K R (ItzB t1 t2 K a b) (s1 ++ s2) (zipD i1 i2) h.length μ H := by
  have hl : (zipD i1 i2).length = min i1.length i2.length := by simp [zipD]
  have ok1 {g : LH} (ok : SrcOk (s1 ++ s2) g) : SrcOk s1 g ∧ SrcOk s2 g := ⟨fun p hp => ok p (List.mem_append_left _ hp), fun p hp => ok p (List.mem_append_right _ hp)⟩
  refine ⟨fun R' μ' H' h' hR e S' ok => ?_, fun R' k μ' H' h' hR hk e S' ok => ?_, fun R' k d μ' H' h' x H2 hR hd e S' ok y => ?_⟩
  · obtain ⟨xs, sq, ra⟩ := w1 R' μ' H' h' hR e S' (ok1 ok).1
    obtain ⟨ys, sq2, rb⟩ := w2 R' μ' H' h' hR e S' (ok1 ok).2
    have := ra.length
    have := rb.length
    exact ⟨xs, ys, sq, sq2, by rw [hl]; omega⟩
  · obtain ⟨xs, sq, ra⟩ := w1 R' μ' H' h' hR e S' (ok1 ok).1
    obtain ⟨ys, sq2, rb⟩ := w2 R' μ' H' h' hR e S' (ok1 ok).2
    obtain ⟨u, q1, _⟩ := ra.get (List.getElem?_eq_getElem (show k < i1.length by omega))
    obtain ⟨v, q2, _⟩ := rb.get (List.getElem?_eq_getElem (show k < i2.length by omega))
    exact ⟨xs, ys, u, v, sq, sq2, q1, q2⟩
  · obtain ⟨xs, sq, ra⟩ := w1 R' μ' H' h' hR e S' (ok1 ok).1
    obtain ⟨ys, sq2, rb⟩ := w2 R' μ' H' h' hR e S' (ok1 ok).2
    obtain ⟨T, x0, y0, rfl, hT, rfl, hx, hy⟩ := y
    have hk : k < (zipD i1 i2).length := (List.getElem?_eq_some_iff.mp hd).1
    have k1 : k < i1.length := by omega
    have k2 : k < i2.length := by omega
    obtain ⟨u, q1, r1⟩ := ra.get (List.getElem?_eq_getElem k1)
    obtain ⟨v, q2, r2⟩ := rb.get (List.getElem?_eq_getElem k2)
    have z1 := hx xs sq
    rw [q1] at z1
    cases z1
    have z2 := hy ys sq2
    rw [q2] at z2
    cases z2
    have eL : Ext h'.length μ' H' h'.length μ' (upd H' T (.tup [x0, y0])) := Ext.laid hT
    refine ⟨eL, S'.laid hT, ?_⟩
    have ed : d = .tup [i1[k], i2[k]] := by
      unfold zipD at hd
      rw [List.getElem?_map, List.getElem?_eq_getElem (by simp; omega)] at hd
      simp only [Option.map_some, Option.some.injEq, List.getElem_zip] at hd
      exact hd.symm
    subst ed
    simp only [Rep]
    refine ⟨T, _, rfl, SqT.of upd_same, ?_⟩
    simp only [Reps]
    exact ⟨_, _, rfl, Rep.mono S' eL _ _ r1, y0, [], rfl, Rep.mono S' eL _ _ r2, rfl⟩
end Ev
namespace Ev
open PySem L2
variable [Tabs]
/-- a law's fixed things, the level of calls -/
structure Gam where
  P : Program
  w : World
  K : Fg
  mg : Mg
  base : Heap
  k : Nat
abbrev gam (X : Cx) (k : Nat) : Gam := ⟨X.prog, X.w, X.K, X.mg, X.base, k⟩
/-- a def's promise in the evaluator's words -/
def spD (K : Fg) (mg : Mg) (m : Nat) (S : Fn) : Sp := fun vs H Q E => ∃ R μ h ds, ds.length = m ∧ SimH K R μ H h ∧ Reps K R h.length μ H ds vs ∧ Post K mg E R h.length μ H (PV K R Q) (S ds h)
structure FnD (Γ : Gam) (x : Str) (S : Fn) (m : Nat) (dfl : List D) : Prop where
  ex : ∃ (f : Addr) (fd : FuncData) (ps : List Str) (j : Nat) (ds : List Value) (dvs : List V), Γ.mg x = some (.ref f) ∧ j ≤ Γ.k ∧ FnOk Γ.P Γ.w Γ.K Γ.mg Γ.base (L2.CX Γ.P Γ.w) j f fd ps (spD Γ.K Γ.mg m S) ∧
    PySem.W.keepIn Γ.K (.ref f) = true ∧ Binds Γ.K fd ps ds ∧ Vals dvs ds ∧ ∀ R n μ H, Reps Γ.K R n μ H dfl dvs
structure GlobD (Γ : Gam) (x : Str) (d : D) : Prop where
  ex : ∃ u v, Γ.mg x = some u ∧ RelV v u ∧ ∀ R n μ H, Rep Γ.K R n μ H d v
mutual
def okE (Γ : Gam) : E → Prop
  | .var _ => True
  | .cst _ => True
  | .glob x d => GlobD Γ x d
  | .tup es => okEs Γ es
  | .lst _ es => okEs Γ es
  | .bin _ _ a b => okE Γ a ∧ okE Γ b
  | .neg a => okE Γ a
  | .not a => okE Γ a
  | .and es => okEs Γ es
  | .or es => okEs Γ es
  | .cmp _ a b => okE Γ a ∧ okE Γ b
  | .chn _ _ a b c => okE Γ a ∧ okE Γ b ∧ okE Γ c
  | .ite c a b => okE Γ c ∧ okE Γ a ∧ okE Γ b
  | .idx a i => okE Γ a ∧ okE Γ i
  | .slc _ a lo hi => okE Γ a ∧ okE Γ lo ∧ okE Γ hi
  | .noe => True
  | .isi a _ => okE Γ a
  | .bui _ _ es => okEs Γ es
  | .met _ _ o es => okE Γ o ∧ okEs Γ es
  | .cal x S m dfl es => FnD Γ x S m dfl ∧ okEs Γ es
  | .lcp _ _ it cond elt => okE Γ it ∧ okEs Γ cond ∧ okE Γ elt
  | .itv e => okE Γ e
  | .rng es => okEs Γ es
  | .dsp es => okEs Γ es
  | .ds1 _ _ => False
  | .tix os e => okEs Γ os ∧ okE Γ e
  | .lrg _ it => okE Γ it
  | .att _ _ _ => False
  | .mca _ _ _ _ _ _ _ => False
  | .rvs _ a => okE Γ a
  | .zip a b => okE Γ a ∧ okE Γ b
  | .enm a => okE Γ a
  | .bad => True
def okEs (Γ : Gam) : List E → Prop
  | [] => True
  | e :: es => okE Γ e ∧ okEs Γ es
end
/-- a context in which names, calls and built-ins mean what they should -/
structure Good (k : Nat) (sc : Scope) (X : Cx) : Prop where
  nd : X.N.Nodup
  hsc : X.env.scope = sc
  calm : X.calm = true
  room : Room k X.A
  nb : ∀ x ∈ BN, X.mg x = none
  hw : Tabs.w = X.w

section
variable {X : Cx} {k : Nat} {sc : Scope} {W : WX}
theorem Good.units (G : Good k sc X) : X.A.units + 65 < cLine := by have := G.room.un; omega
theorem Good.units1 (G : Good k sc X) : X.A.units + 64 < cLine := by have := G.room.un; omega
theorem noStar_star {env : PySem.Env} {e : Expr} {es : List Expr} (h : isStarredE e = false) : starEach (e :: es) env = (false, eval e env) :: starEach es env := by
  cases e <;> first | rfl | (simp [isStarredE] at h)
theorem chkEs_star {N : List Str} {env : PySem.Env} {pos : Pos} : ∀ {cs : List E} {es : List Expr}, chkEs N sc cs es = true → (backTo pos (starEach es env)).any (·.1) = false ∧ (backTo pos (starEach es env)).all (fun x => !x.1) = true
  | [], [], _ => ⟨rfl, rfl⟩
  | [], _ :: _, h => by simp [chkEs] at h
  | _ :: _, [], h => by simp [chkEs] at h
  | c :: cs, e :: es, h => by
    simp only [chkEs, Bool.and_eq_true, Bool.not_eq_true'] at h
    obtain ⟨h1, h2⟩ := chkEs_star (env := env) (pos := pos) h.2
    rw [noStar_star h.1.1]
    simp only [backTo, List.map_cons, List.any_cons, List.all_cons] at h1 h2 ⊢
    exact ⟨by rw [h1]; rfl, by rw [h2]; rfl⟩
theorem visB_ok {x : Str} (h : visB sc x = true) (e : X.env.scope = sc) : Vis X.env.scope x := by
  rw [e]
  unfold visB at h
  split at h
  · exact .inl (by assumption)
  · exact .inr (.inl (by assumption))
  · exact .inr (.inr (by assumption))
  · cases h
theorem glB_ok {x : Str} (h : glB sc x = true) (e : X.env.scope = sc) : Gl X x := by
  have h := of_decide_eq_true h
  show X.env.scope.names.lookup x = _
  rw [e]
  exact h
theorem noDbg_ok {x : Str} (h : noDbg x = true) : (x == ("__debug__" : Str)) = false ∧ (x == ("__classdict__" : Str)) = false ∧ x ≠ "__name__" := by
  unfold noDbg at h
  simp only [Bool.and_eq_true, Bool.not_eq_true', decide_eq_true_eq] at h
  exact ⟨h.1.1, h.1.2, h.2⟩
theorem BN_dbg : ∀ x ∈ BN, (x == ("__debug__" : Str)) = false ∧ x ≠ "__name__" := by decide +kernel
theorem biName_mem : ∀ f : Bi, biName f ∈ BN := by intro f; cases f <;> decide +kernel
theorem biV_boot : ∀ f : Bi, bootBuiltins (biName f) = some (biV f) := by intro f; cases f <;> decide +kernel
theorem biV_kind : ∀ f : Bi, (∃ id, biV f = .builtin id) ∨ ∃ T, biV f = .type T := by
  intro f
  cases f <;> first | exact .inl ⟨_, rfl⟩ | exact .inr ⟨_, rfl⟩
theorem isiTys_mem {ty : String} (h : isiTys.contains ty = true) : Str.ofString ty ∈ BN ∧ bootBuiltins (Str.ofString ty) = some (.type ty) := by
  have h : ty ∈ isiTys := by simpa using h
  have all : ∀ t ∈ isiTys, Str.ofString t ∈ BN ∧ bootBuiltins (Str.ofString t) = some (.type t) := by decide +kernel
  exact all ty h
/-- a def is called, with its defaults -/
theorem pe_callD {x : Str} {S : Fn} {m : Nat} {dfl : List D} {e : Expr} {es : List Expr} {t : TA} {p pos : Pos} (F : FnD (gam X k) x S m dfl) (hr : Room k X.A) (hg : Gl X x) (tk : Takes X W) (ha : PA X (e :: es) t) (hdb : (x == ("__debug__" : Str)) = false)
    (he : starEach (e :: es) X.env = (false, eval e X.env) :: starEach es X.env) (hpl : (backTo pos (starEach es X.env)).any (·.1) = false) :
    PE X (.Call (.Name x p) (e :: es) [] pos) (fun σ H Q => t σ H fun vs H1 => ∀ dvs, (∀ R n μ H, Reps X.K R n μ H dfl dvs) → spD X.K X.mg m S (vs ++ dvs) H1 Q (WE W σ)) := by
  obtain ⟨f, fd, ps, j, ds, dvs, hm, hj, hF, hk, hb, hd, hrep⟩ := F.ex
  refine ⟨fun pins s σ H Q I h => ?_⟩
  refine wpAny_Call_Name_kw (ld_glob I hg hm ?_ hdb)
  refine PySem.W.callWith_K (h₀ := X.base) I.ok.mod.kin hk (thn (ha.run pos pins s σ H _ I h) fun us s1 ⟨vs, H1, I1, r, q⟩ => ⟨I1.kIn, ?_⟩) he hpl
  have q := q dvs hrep
  have r2 : Vals (vs ++ dvs) (us ++ ds) := r.append hd
  have F' : FnOk X.prog X.w X.K X.mg X.base (L2.CX X.prog X.w) k f fd ps (spD X.K X.mg m S) := hF.mono hj
  have hl : (us ++ ds).length = ps.length := by rw [← r2.length]; exact F'.len _ _ _ _ q
  refine wpAny_call (codeAny_mono (F'.run X.A X.stack s1 H1 ⟨us, []⟩ (us ++ ds) (vs ++ dvs) Q (WE W σ) hr I1.env0 (hb s1 us I1.kIn hl) r2 q) fun r s' hq => ?_)
  match r, hq with
  | .error z, hq => exact passAt tk σ pins H1 s1 z s' I1 hq
  | .ok (.ret u), hq => exact I1.after hq
  | .ok .next, hq => exact False.elim hq
  | .ok .brk, hq => exact False.elim hq
  | .ok .cont, hq => exact False.elim hq

theorem wipe_in {σ : L2.St} : ∀ {vs : List Nat} {j : Nat}, j ∈ vs → (wipe σ vs)[j]? = if j < σ.length then some none else none
  | [], j, h => by simp at h
  | v :: vs, j, h => by
    show ((wipe σ vs).set v none)[j]? = _
    by_cases hj : j = v
    · subst hj
      split
      · exact List.getElem?_set_self (by rw [L2.wipe_length]; assumption)
      · exact List.getElem?_eq_none (by rw [List.length_set, L2.wipe_length]; omega)
    · rw [List.getElem?_set_ne (Ne.symm hj)]
      exact wipe_in (by simpa [hj] using h)
theorem wipe_same {σ σ' : L2.St} {vs : List Nat} {is : List Nat} (h : ∀ j, j ∉ is → σ'[j]? = (wipe σ vs)[j]?) (hl : σ'.length = σ.length) (hi : ∀ j ∈ is, j ∈ vs) : wipe σ' vs = wipe σ vs := by
  apply List.ext_getElem?
  intro j
  by_cases hj : j ∈ vs
  · rw [wipe_in hj, wipe_in hj, hl]
  · rw [wipe_out hj, h j fun z => hj (hi j z)]
/-- no exception leaves the block -/
abbrev W0 : WX := fun _ _ _ _ => False
theorem lcp_rd {own : List (Str × Nat)} {t : T} {it elt : E} {cond : List E} {σ : L2.St} {H : Hp} {Q : VK} (hown : chkOwn own t = true) (q : rdE X W (.lcp own t it cond elt) σ H Q) :
    tLc (rdI X W it) (rdG X t) (rdC X W0 cond) (rdE X W0 elt) (own.map (·.2)) σ H Q := by
  obtain ⟨R, μ, h, env, S, Ev, p⟩ := q
  simp only [evE] at p
  refine ⟨R, μ, h, env, S, Ev, p.bind.imp fun src h1 μ1 H1 e1 S1 p1 J wk Dd hD => ?_⟩
  have Ev1 := Ev.mono S e1
  generalize hvs : own.map (·.2) = vs at p1 ⊢
  have hsub : ∀ j ∈ tSlots t, j ∈ vs := fun j hj => by
    unfold chkOwn at hown
    rw [List.all_eq_true] at hown
    have := hown j hj
    rw [hvs] at this
    simpa using this
  generalize hf : (fun env1 h2 => (evC cond env1 h2).bind fun b h3 => if b = true then (evE elt env1 h3).bind fun d h4 => Res.ok (some d) h4 else Res.ok none h3) = f at p1
  -- the slots ahead, the list in the making set apart
  have hR : ∀ a, (R a ∨ a = Dd) → R a ∨ H1 a = none := fun a r => by
    rcases r with r | r
    · exact .inl r
    · subst r; exact .inr hD
  have EvR : RepEnv X.K (fun a => R a ∨ a = Dd) h1.length μ1 H1 env σ := Ev1.up hR
  refine ⟨fun i m H => m = src.2.length - i ∧ i ≤ src.2.length ∧ ∃ μ' h' acc accV, Ext h1.length μ1 H1 (List.length (h' : LH)) μ' H ∧ SimH X.K (fun a => R a ∨ a = Dd) μ' H h' ∧ H Dd = some (.lst accV) ∧
      Reps X.K (fun a => R a ∨ a = Dd) h'.length μ' H acc accV ∧
      Post X.K X.mg (WP X W σ) R h1.length μ1 H1 (PV X.K R Q) ((compLoop src.1 vs t f (src.2.drop i) acc env h').bind fun ds h5 => .ok (.lst ds) h5), ⟨src.2.length, by omega, Nat.zero_le _, μ1, h1, [], [], Ext.laid hD, S1.apart hD, upd_same, by simp [Reps], p1⟩, ?_⟩
  rintro i m H2 ⟨rfl, hi, μ', h', acc, accV, e2, S2, hacc, rA, p2⟩
  have nR : ¬ R Dd := (S1.unr_fresh hD).1
  have S2R : SimH X.K R μ' H2 h' := S2.weak fun _ r => .inl r
  by_cases hlt : i < src.2.length
  · -- a turn
    refine .inr ?_
    rw [List.drop_eq_getElem_cons hlt] at p2
    simp only [compLoop] at p2
    split at p2
    · rename_i c
      obtain ⟨ok1, hsz⟩ := c
      refine ⟨wk.go _ i μ' H2 h' hR hlt e2 S2 ok1, _, fun H' n => ⟨src.2.length - (i + 1), by omega, rfl, hlt, n⟩, fun x H3 y => ?_⟩
      obtain ⟨e3, S3, rx⟩ := wk.yld _ i _ μ' H2 h' x H3 hR (List.getElem?_eq_getElem hlt) e2 S2 ok1 y
      split at p2
      · exact p2.elim
      · rename_i env1 hb
        have eA := e2.trans S2 e3
        have Ev3 : RepEnv X.K (fun a => R a ∨ a = Dd) h'.length μ' H3 (wipeE env vs) (wipe σ vs) := (EvR.mono S1 eA).wipe vs
        refine ⟨_, μ', h', wipeE env vs, S3, Ev3, src.2[i], env1, rx, hb, fun σ' r' fr => ⟨wipe_same fr (by rw [← r'.len, bindT_len hb, wipeE_length]; exact Ev.len) hsub, ?_⟩⟩
        -- the test
        have accK : ∀ {μ4 H4 h4}, Ext h'.length μ' H3 (List.length (h4 : LH)) μ4 H4 → H4 Dd = some (.lst accV) := fun {μ4 H4 h4} e4 => by
          have u : ∀ l, l < h'.length → μ' l ≠ Dd := fun l hl z => S3.sep l hl (.inr z)
          have u2 : ∀ l, l < h'.length → μ' l ≠ Dd := fun l hl z => S2.sep l hl (.inr z)
          exact e4.keep Dd _ u (e3.keep Dd _ u2 hacc)
        refine ⟨_, μ', h', env1, S3, r', ?_⟩
        show Post _ _ _ _ _ _ _ _ (evC cond env1 h')
        cases q1 : evC cond env1 h' with
        | no =>
          have q3 : f env1 h' = .no := by rw [← hf]; simp only [q1, Res.bind]
          rw [q3] at p2; exact p2.elim
        | ex x' h3 =>
          have q3 : f env1 h' = .ex x' h3 := by rw [← hf]; simp only [q1, Res.bind]
          rw [q3] at p2; exact p2.elim
        | ok b h3 =>
          intro μ3 H4 e4 S4
          cases b with
          | false =>
            have q3 : f env1 h' = .ok none h3 := by rw [← hf]; simp only [q1, Res.bind, Bool.false_eq_true, if_false]
            rw [q3] at p2
            show if false = true then _ else _
            rw [if_neg Bool.false_ne_true]
            have acc4 := accK e4
            refine ⟨μ3, h3, acc, accV, eA.trans S3 e4, S4, acc4, ?_, p2⟩
            exact Reps.mono S3 e4 _ _ (Reps.mono S2 e3 _ _ rA)
          | true =>
            show if true = true then _ else _
            rw [if_pos rfl]
            refine ⟨_, μ3, h3, env1, S4, r'.mono S3 e4, ?_⟩
            show Post _ _ _ _ _ _ _ _ (evE elt env1 h3)
            cases q2 : evE elt env1 h3 with
            | no =>
              have q3 : f env1 h' = .no := by rw [← hf]; simp only [q1, q2, Res.bind, if_true]
              rw [q3] at p2; exact p2.elim
            | ex x' h4 =>
              have q3 : f env1 h' = .ex x' h4 := by rw [← hf]; simp only [q1, q2, Res.bind, if_true]
              rw [q3] at p2; exact p2.elim
            | ok d h4 =>
              have q3 : f env1 h' = .ok (some d) h4 := by rw [← hf]; simp only [q1, q2, Res.bind, if_true]
              rw [q3] at p2
              intro μ4 H5 e5 S5 v rv
              have e45 := e4.trans S4 e5
              have acc5 := accK e45
              refine ⟨accV, acc5, by rw [← rA.length]; exact hsz, μ4, h4, acc ++ [d], accV ++ [v], (eA.trans S3 e45).grow hD, S5.grow acc5 (.inr rfl), upd_same, ?_, p2⟩
              refine Reps.append ?_ (reps1.mpr ⟨v, rfl, ?_⟩)
              · exact Reps.grow acc5 (.inr rfl) _ _ (Reps.mono S3 e45 _ _ (Reps.mono S2 e3 _ _ rA))
              · exact Rep.grow acc5 (.inr rfl) _ _ rv
    · exact p2.elim
  · -- the end
    have : i = src.2.length := by omega
    subst this
    rw [List.drop_length] at p2
    simp only [compLoop] at p2
    split at p2
    · rename_i ok1
      refine .inl ⟨wk.stop _ μ' H2 h' hR e2 S2 ok1, ?_⟩
      refine p2 μ' H2 e2 S2R _ ?_
      simp only [Rep]
      refine ⟨Dd, accV, rfl, hacc, ⟨nR, fun l hl z => S2.sep l hl (.inr z)⟩, Reps.up (fun a r => .inl (.inl r)) _ _ rA⟩
    · exact p2.elim
theorem lcp_ok {own : List (Str × Nat)} {t : T} {it elt : E} {cond : List E} {e tg iter : Expr} {ifs : List Expr} {scope : Scope} {pos : Pos} (G : Good k sc X) (hi : PI X tg iter (rdI X W it)) (ok : BlkOk X.N X.env.scope scope own) (hown : chkOwn own t = true)
    (hg : ∀ (s : Shared) (H : Hp) (C : Addr) (cl : List (Str × Addr)) (fp : List Addr), PG (X.blk s H scope (compEnvC scope cl C X.env) fp) tg (rdG X t))
    (ht : ∀ (s : Shared) (H : Hp) (C : Addr) (cl : List (Str × Addr)) (fp : List Addr), PTs (X.blk s H scope (compEnvC scope cl C X.env) fp) ifs (rdC X W0 cond))
    (he : ∀ (s : Shared) (H : Hp) (C : Addr) (cl : List (Str × Addr)) (fp : List Addr), PE (X.blk s H scope (compEnvC scope cl C X.env) fp) e (rdE X W0 elt))
    (hs : ∀ x, foldedSetIterable iter X.env x = pure x) : PE X (.ListComp e [⟨tg, iter, ifs, 0⟩] scope pos) (rdE X W (.lcp own t it cond elt)) :=
  PE.imp (pe_lc G.calm G.nd hi ok hg ht he hs) fun σ H Q q => lcp_rd hown q
end
end Ev
namespace Ev
open PySem L2 PyProof.Rows
variable [Tabs]
/-- B.__init__(self, ..), B a class of the program over ValueError without an __init__ of its own -/
structure BaseI (K : Fg) (B : Addr) : Prop where
  ga : PySem.W.specialIn K (.ref B) "__getattribute__" = some (some (.builtin "type.__getattribute__"))
  rd : PySem.W.readsIn K B (.type "type") = true
  fc : PySem.W.findCls K (.ref B) (.type "type") "__init__" = some (.val (.builtin "ValueError.__init__"))
theorem pe_baseI {X : Cx} {b : Str} {B : Addr} {e : Expr} {es : List Expr} {ta : TA} {p1 p2 pos : Pos} {pl : Sem Bool} (T : BaseI X.K B) (hg : Gl X b) (hm : X.mg b = some (.ref B)) (hdb : (b == ("__debug__" : Str)) = false) (ha : PA X (e :: es) ta)
    (hc : eval (.Call (.Attribute (.Name b p1) "__init__" p2) (e :: es) [] pos) X.env = (do
      let ov ← eval (.Name b p1) X.env
      standAt p2.atName
      let (f, first) ← holding [ov] (getMethod ov "__init__" pl)
      callWith pos f first (backTo pos (starEach (e :: es) X.env)) (backToKw pos (keywordEach [] X.env))))
    (he : starEach (e :: es) X.env = (false, eval e X.env) :: starEach es X.env) (hpl : (backTo pos (starEach es X.env)).any (·.1) = false) :
    PE X (.Call (.Attribute (.Name b p1) "__init__" p2) (e :: es) [] pos) (tVeI X.K ta) := by
  refine ⟨fun pins s σ H Q I h => ?_⟩
  refine PySem.W.methodCall_KW (ld_glob I hg hm ?_ hdb) hc
  refine PySem.W.method_cls I.kIn T.ga (PySem.W.cls_value I.kIn T.rd T.fc (by decide +kernel) ?_)
  have hrun := ha.run pos pins _ σ H _ (I.tok (s.toks + 1)) h
  refine PyProof.Rows.callWith_method1 (thn hrun fun us s1 q1 => ?_) he hpl
  obtain ⟨vs, H1, I1, r1, a, C, ws, rfl, hl, O, ea, q⟩ := q1
  cases r1 with
  | @cons _ u0 _ ur ra rr =>
    obtain rfl : u0 = Value.ref a := ra
    have hlen : ur.length ≤ sizeLine := by
      have := Paired.length rr
      rw [sizeLine_eq]
      omega
    exact oinit_ok O I1 ea hlen fun s' J => ⟨.non, H1, J, rfl, q⟩
/-- the promise of such an __init__: the one field is stored -/
def spIni (C : Addr) (f : Str) : Sp := fun vs H Q _ => ∃ a v, vs = [.ref a, v] ∧ H a = some (exo a C none) ∧ ∀ d, H d = none → d ≠ a → Q .non (upd (upd H d (exd d [(f, v)])) a (exo a C (some d)))
theorem ini_ok {P : Program} {w : World} {K : Fg} {mg : Mg} {base : Heap} {k : Nat} {x qual b self par f m : Str} {st : Stmt} {fI C B : Addr} {fd : FuncData} {p1 p2 p3 p4 p5 p6 p7 p8 p9 p10 : Pos} {kk : Nat}
    (F : L2.Fun K x qual st fI fd) (S : FnScope [self, par] [self, par] (defScope st))
    (hb : defBody st = [.Expr (.Call (.Attribute (.Name b p1) "__init__" p2) [.Name self p3, .Constant (.str m) kk p4] [] p5) p6, .Assign [.Attribute (.Name self p7) f p8] (.Name par p9) p10])
    (hc : ∀ X : Cx, ∃ pl, eval (.Call (.Attribute (.Name b p1) "__init__" p2) [.Name self p3, .Constant (.str m) kk p4] [] p5) X.env = (do
      let ov ← eval (.Name b p1) X.env
      standAt p2.atName
      let (f, first) ← holding [ov] (getMethod ov "__init__" pl)
      callWith p5 f first (backTo p5 (starEach [.Name self p3, .Constant (.str m) kk p4] X.env)) (backToKw p5 (keywordEach [] X.env))))
    (O : OexC K C) (no : PySem.W.findIn K (.ref C) f = some none) (T : BaseI K B) (hm : mg b = some (.ref B)) (gb : (defScope st).names.lookup b = some .globalImplicit)
    (d1 : noDbg b = true) (d2 : noDbg self = true) (d3 : noDbg par = true) (v1 : visB (defScope st) self = true) (v2 : visB (defScope st) par = true) (ne : self ≠ par) :
    FnOk P w K mg base (L2.CX P w) (k + 1) fI fd [self, par] (spIni C f) := by
  refine F.okX S (fun vs H Q E hsp => ?_) (fun cdv A outer s H vs Q E hr hsp => ?_)
  · obtain ⟨a, v, rfl, _⟩ := hsp
    rfl
  · obtain ⟨a, v, rfl, ea, q⟩ := hsp
    rw [hb]
    let X : Cx := cxOf (L2.CX P w) P w K mg base [self, par] qual (defScope st) fI cdv A outer s H E
    obtain ⟨pl, hc⟩ := hc X
    have pself (p : Pos) : PE X (.Name self p) (tVar 0) := pe_var (by rfl) (visB_ok v1 rfl) (noDbg_ok d2).1 (noDbg_ok d2).2.1
    have ppar (p : Pos) : PE X (.Name par p) (tVar 1) := pe_var (by rfl) (visB_ok v2 rfl) (noDbg_ok d3).1 (noDbg_ok d3).2.1
    have call := pe_baseI (X := X) T gb hm (noDbg_ok d1).1 (pa_cons (pself p3) (pa_cons pe_str pa_nil)) hc (by rfl) (by rfl)
    refine ⟨_, pss_cons (ps_expr call) (pss_cons (ps_ost (pself p7) (ppar p9)) pss_nil), ?_⟩
    show tVar 0 (L2.start [self, par] [.ref a, v]) H _
    refine ⟨.ref a, rfl, ?_⟩
    refine ⟨a, C, [.str m], rfl, by simp, O, ea, ?_⟩
    change tOst K f (tVar 0) (tVar 1) _ _ _
    refine ⟨v, rfl, .ref a, rfl, a, C, rfl, O, no, .inl ⟨ea, fun d hd hne => q d hd hne⟩⟩
theorem cx_no {P : Program} {w : World} {o : List PySem.Env} {H : Hp} {s s' : Shared} {e : Value} (h : L2.CX P w o H s (fun _ _ _ => False) e s') : False := by
  obtain ⟨_, _, _, _, _, _, _, _, _, _, _, _, z⟩ := h
  exact z
/-- an exception class of the program whose __init__ stores one field -/
structure ExcF (Γ : Gam) (x f : Str) : Prop where
  ex : ∃ (C fI : Addr) (fd : FuncData) (ps : List Str) (j : Nat), Γ.mg x = some (.ref C) ∧ OexC Γ.K C ∧ PySem.W.findIn Γ.K (.ref C) "__init__" = some (some (.ref fI)) ∧ PySem.W.typeIn Γ.K (.ref fI) = some (.type "function") ∧ j + 1 ≤ Γ.k ∧
    FnOk Γ.P Γ.w Γ.K Γ.mg Γ.base (L2.CX Γ.P Γ.w) j fI fd ps (spIni C f) ∧ Binds Γ.K fd ps []
theorem ps_raiF {X : Cx} {W : WX} {k : Nat} {x f : Str} {e : Expr} {c : E} {p cpos pos : Pos} (F : ExcF (gam X k) x f) (hr : Room k X.A) (hcm : X.calm = true) (tk : Takes X W) (hg : Gl X x) (hdb : (x == ("__debug__" : Str)) = false) (he : PE X e (rdE X W c)) (hs : starEach [e] X.env = [(false, eval e X.env)]) :
    PS X (.Raise (some (.Call (.Name x p) [e] [] cpos)) none pos) (fun D σ H => rdE X W c σ H fun v H1 => ∀ C, X.mg x = some (.ref C) → ∀ d, H1 d = none → W (.ref C) (some d) σ (upd H1 d (.xd [(f, v)]))) := by
  obtain ⟨C, fI, fd, ps, j, hm, O, h1, h2, hj, F1, hb⟩ := F.ex
  have mk := pmk_oex (X := X) (pos := cpos) (p := p) (ds := []) (dvs := []) O h1 h2 F1 (hr.mono hj) hb .nil (fun _ _ _ _ _ _ _ z => (cx_no z).elim) hg hm (pa_cons he pa_nil hs) hdb hs (by rfl)
  refine PS.imp (ps_raise hcm tk mk) fun D σ H q => ?_
  show rdE X W c σ H _
  obtain ⟨R, μ, h, env, S, Ev, p⟩ := q
  refine ⟨R, μ, h, env, S, Ev, p.imp fun d h1 μ1 H1 e1 S1 p1 v r => ?_⟩
  have q := p1 v r C hm
  refine ⟨by simp, fun a ha => ⟨a, v, rfl, upd_same, fun d hd hne => ⟨rfl, d, [(f, v)], upd_same, ?_, ?_, ?_⟩⟩⟩
  · rw [upd_ne hne, upd_same]
  · rw [upd_ne hne] at hd; exact hd
  · rw [upd_ne hne] at hd
    have z := q d hd
    have e2 : upd (del (upd (upd (upd H1 a (exo a C none)) d (exd d [(f, v)])) a (exo a C (some d))) a) d (.xd [(f, v)]) = upd H1 d (.xd [(f, v)]) := by
      funext b
      by_cases hbd : b = d
      · rw [hbd, upd_same, upd_same]
      · rw [upd_ne hbd, upd_ne hbd]
        by_cases hba : b = a
        · rw [hba, del_same, ha]
        · rw [del_ne hba, upd_ne hba, upd_ne hbd, upd_ne hba]
    rw [e2]
    exact z
/-- .. whose field is read in an except suite -/
structure ExcH (Γ : Gam) (x f : Str) : Prop where
  ex : ∃ C, Γ.mg x = some (.ref C) ∧ XfC Γ.K C ∧ PySem.W.findIn Γ.K (.ref C) f = some none ∧ PySem.W.exmOne Γ.K (.ref C) (.ref C) = some true
theorem RepEnv.caught {K : Fg} {R : Ap} {n : Nat} {μ : Nat → Addr} {H : Hp} {env : Env} {σ : L2.St} {ei ti : Nat} {d : D} {v a : V} (r : RepEnv K R n μ H env σ) (ne : ei ≠ ti) (rv : Rep K R n μ H d v) :
    RepEnv K R n μ H ((env.set ti (some d)).set ei none) (((σ.set ei (some a)).set ti (some v)).set ei none) := by
  refine ⟨by simpa using r.len, fun j e q => ?_⟩
  by_cases hj : j = ei
  · subst hj
    by_cases hl : j < (env.set ti (some d)).length
    · rw [List.getElem?_set_self hl] at q; cases q
    · rw [List.getElem?_eq_none (by simpa using Nat.le_of_not_lt hl)] at q; cases q
  · rw [List.getElem?_set_ne (Ne.symm hj)] at q ⊢
    by_cases ht : j = ti
    · subst ht
      by_cases hl : j < env.length
      · rw [List.getElem?_set_self hl] at q
        cases q
        exact ⟨v, List.getElem?_set_self (by rw [List.length_set, ← r.len]; exact hl), rv⟩
      · rw [List.getElem?_eq_none (by simpa using Nat.le_of_not_lt hl)] at q; cases q
    · rw [List.getElem?_set_ne (Ne.symm ht)] at q ⊢
      rw [List.getElem?_set_ne (Ne.symm hj)]
      exact r.at_ j e q
end Ev
namespace Ev
open PySem L2
variable [Tabs]
theorem Good.blk {X : Cx} {k : Nat} {sc scope : Scope} (G : Good k sc X) (s : Shared) (H : Hp) (C : Addr) (cl : List (Str × Addr)) (fp : List Addr) : Good k (relS scope sc) (X.blk s H scope (compEnvC scope cl C X.env) fp) :=
  ⟨G.nd, by rw [← G.hsc]; rfl, G.calm, ⟨G.room.hd, G.room.dp, G.room.un⟩, G.nb, G.hw⟩
theorem blkSt_ok {X : Cx} {scope : Scope} {s : Shared} {H : Hp} {C : Addr} {cl : List (Str × Addr)} {fp : List Addr} {x : Str} (h : blkSt scope x = true) :
    Loc (X.blk s H scope (compEnvC scope cl C X.env) fp).env.scope x ∧ ((X.blk s H scope (compEnvC scope cl C X.env) fp).fn x = true ∨ (X.blk s H scope (compEnvC scope cl C X.env) fp).env.scope.names.lookup x = some .local) := by
  unfold blkSt at h
  split at h
  · rename_i e
    have q : (relS scope X.env.scope).names.lookup x = some .local := lookup_relS_keep (by decide) e
    exact ⟨.inl q, .inr q⟩
  · rename_i e
    have q : (relS scope X.env.scope).names.lookup x = some .cell := lookup_relS_keep (by decide) e
    refine ⟨.inr q, .inl ?_⟩
    show (scope.names.lookup x == some .cell) = true
    rw [e]
    rfl
  · cases h
theorem seqSrc_wk {X : Cx} {R : Ap} {μ : Nat → Addr} {H : Hp} {h : LH} {d : D} {v : V} {src : Src} {items : List D} (S : SimH X.K R μ H h) (r : Rep X.K R h.length μ H d v) (e : seqSrc h d = some (src, items)) :
    (∃ a, v = .ref a ∧ (∃ xs, SqT X.K H a xs) ∧ (∃ ds, d = .tup ds) ∧ Wk X.K R (Itt X.K a) src items h.length μ H) ∨ (∃ a, v = .ref a ∧ (∃ xs, SqL X.K H a xs) ∧ (asL h d).isSome = true ∧ Wk X.K R (Itl X.K a) src items h.length μ H) ∨
      (∃ x, v = .str x ∧ d = .str x ∧ Wk X.K R (Its x) src items h.length μ H) := by
  cases d with
  | tup ds =>
    cases e
    have r' := r
    simp only [Rep] at r'
    obtain ⟨a, xs, rfl, sq, _⟩ := r'
    exact .inl ⟨a, rfl, ⟨xs, sq⟩, ⟨_, rfl⟩, wk_tup S r⟩
  | lst ds =>
    obtain ⟨a, xs, rfl, sq, _⟩ := r.lst_of (ds := ds) S rfl
    exact .inr (.inl ⟨a, rfl, ⟨xs, SqL.of sq⟩, rfl, wk_lst S r e rfl⟩)
  | loc n =>
    have hl : (asL h (.loc n)).isSome = true := by
      simp only [seqSrc] at e
      split at e
      · rename_i q
        simp only [asL, q]
        rfl
      · cases e
    obtain ⟨ds, q⟩ := Option.isSome_iff_exists.mp hl
    obtain ⟨a, xs, rfl, sq, _⟩ := r.lst_of (ds := ds) S q
    exact .inr (.inl ⟨a, rfl, ⟨xs, SqL.of sq⟩, hl, wk_lst S r e hl⟩)
  | str x =>
    cases e
    cases repS.mp r
    exact .inr (.inr ⟨x, rfl, rfl, wk_str⟩)
  | _ => simp [seqSrc] at e
section
variable {k : Nat}
theorem attrBase {X : Cx} {e : Expr} {n : Str} (h : isCallE e = false) : attributeBase e n X.env (eval e X.env) = eval e X.env := by
  cases e <;> first | rfl | (simp [isCallE] at h)
theorem plainIx {e : Expr} (h : isSliceE e = false) : PlainIx e := by
  intro o i
  cases e <;> first | rfl | (simp [isSliceE] at h)
theorem setIter {X : Cx} {e : Expr} (h : isSetE e = false) (x : Value) : foldedSetIterable e X.env x = pure x := by
  cases e <;> first | rfl | (simp [isSetE] at h)
theorem markBehind {e : Expr} (h : isSetE e = false) (op : CmpOp) : behindInMarks op e = false := by
  cases e <;> first | rfl | (simp [isSetE] at h)
theorem repsApp {K : Fg} {R : Ap} {n : Nat} {μ : Nat → Addr} {H : Hp} {ds es : List D} {vs ws : List V} (r : Reps K R n μ H ds vs) (q : Reps K R n μ H es ws) : Reps K R n μ H (ds ++ es) (vs ++ ws) := Reps.append r q
/-- a compound test that the model does not treat apart -/
def plainT : E → Bool
  | .not _ => false
  | .and _ => false
  | .or _ => false
  | .cmp .. => false
  | .chn .. => false
  | .ite .. => false
  | .bad => false
  | _ => true
theorem plain_isTrue {X : Cx} {N : List Str} {sc : Scope} {c : E} {e : Expr} (h : chkE N sc c e = true) (p : plainT c = true) (wh : Sem Value) : isTrue e X.env wh = (do let v ← wh; standAt e.pos; holding [v] (PySem.truthy v)) := by
  cases c <;> simp only [plainT, Bool.false_eq_true] at p <;> cases e <;> first | rfl | (simp [chkE, sub1, calN, calM, lcp1, dct1, att1] at h; done) | skip
  rename_i a op o p2
  simp only [chkE, Bool.and_eq_true, decide_eq_true_eq] at h
  obtain ⟨rfl, _⟩ := h
  rfl
theorem pt_of {X : Cx} {W : WX} {c : E} {e : Expr} (hp : PE X e (rdE X W c)) (he : ∀ wh, isTrue e X.env wh = (do let v ← wh; standAt e.pos; holding [v] (PySem.truthy v))) : PT X e (rdT X W c) := by
  refine PT.imp (pt_truth hp he) fun σ H Q q => ?_
  obtain ⟨R, μ, h, env, S, Ev, p⟩ := q
  unfold evT at p
  refine ⟨R, μ, h, env, S, Ev, p.bind.imp fun d h1 μ1 H1 e1 S1 p1 v r => ?_⟩
  split at p1
  · rename_i b q
    exact ⟨b, truthy_ok S1 q r, p1 μ1 H1 Ext.refl S1⟩
  · exact p1.elim
theorem rdT_of {X : Cx} {W : WX} {c : E} {σ : L2.St} {H : Hp} {Q : Bool → Hp → Prop} (q : In1 X σ H fun R μ h env => Post X.K X.mg (WP X W σ) R h.length μ H (fun b _ _ H' => Q b H') ((evE c env h).bind fun d h1 => truR h1 d)) : rdT X W c σ H Q := q
theorem cmp_rd {X : Cx} {W : WX} {op : CmpOp} {a b : E} {σ : L2.St} {H : Hp} {Q : VK} (q : rdE X W (.cmp op a b) σ H Q) : tOp (rD2 X.K X.mg (opCmp op)) (rdE X W a) (rdE X W b) σ H Q := by
  obtain ⟨R, μ, h, env, S, Ev, p⟩ := q
  simp only [evE] at p
  refine ⟨R, μ, h, env, S, Ev, p.bind.imp fun d1 h1 μ1 H1 e1 S1 p1 v1 r1 => ?_⟩
  refine ⟨R, μ1, h1, env, S1, Ev.mono S e1, p1.bind.imp fun d2 h2 μ2 H2 e2 S2 p2 v2 r2 => ?_⟩
  exact ⟨_, R, μ2, h2, d1, d2, S2, Rep.mono S1 e2 _ _ r1, r2, p2⟩
theorem opCmp_bl {op : CmpOp} {a b d : D} {h h' : LH} (e : opCmp op a b h = .ok d h') : ∃ k, d = .bl k := by
  cases op <;> simp only [opCmp, cmpI] at e <;> split at e <;> first | (cases e; exact ⟨_, rfl⟩) | (cases e; done)
theorem chn_rd {X : Cx} {W : WX} {op op' : CmpOp} {a b c : E} {σ : L2.St} {H : Hp} {Q : VK} (q : rdE X W (.chn op op' a b c) σ H Q) :
    tChain (rD2 X.K X.mg (opCmp op)) (rD2 X.K X.mg (opCmp op')) (rdE X W a) (rdE X W b) (rdE X W c) σ H Q := by
  obtain ⟨R, μ, h, env, S, Ev, p⟩ := q
  simp only [evE] at p
  refine ⟨R, μ, h, env, S, Ev, p.bind.imp fun d1 h1 μ1 H1 e1 S1 p1 v1 r1 => ?_⟩
  refine ⟨R, μ1, h1, env, S1, Ev.mono S e1, p1.bind.imp fun d2 h2 μ2 H2 e2 S2 p2 v2 r2 => ?_⟩
  refine ⟨_, R, μ2, h2, d1, d2, S2, Rep.mono S1 e2 _ _ r1, r2, p2.bind.imp fun z h3 μ3 H3 e3 S3 p3 v3 r3 => ?_⟩
  split at p3
  · cases repB.mp r3
    refine ⟨true, rfl, ?_⟩
    show if true = true then _ else _
    rw [if_pos rfl]
    refine ⟨R, μ3, h3, env, S3, ((Ev.mono S e1).mono S1 e2).mono S2 e3, p3.bind.imp fun d4 h4 μ4 H4 e4 S4 p4 v4 r4 => ?_⟩
    exact ⟨_, R, μ4, h4, d2, d4, S4, Rep.mono S3 e4 _ _ (Rep.mono S2 e3 _ _ r2), r4, p4⟩
  · cases repB.mp r3
    refine ⟨false, rfl, ?_⟩
    show if false = true then _ else _
    rw [if_neg Bool.false_ne_true]
    exact p3.bl S3
  · exact p3.elim
/-- a test whose value is a bool -/
theorem rdB_of {X : Cx} {W : WX} {c : E} {σ : L2.St} {H : Hp} {Q : Bool → Hp → Prop} (hb : ∀ env h d h', evE c env h = .ok d h' → ∃ k, d = .bl k) (q : rdT X W c σ H Q) : rdE X W c σ H (fun x H' => ∃ k, x = .bl k ∧ Q k H') := by
  obtain ⟨R, μ, h, env, S, Ev, p⟩ := q
  refine ⟨R, μ, h, env, S, Ev, ?_⟩
  show Post _ _ _ _ _ _ _ _ (evE c env h)
  unfold evT at p
  cases e : evE c env h with
  | no => rw [e] at p; exact p.elim
  | ex x h1 => rw [e] at p; exact p
  | ok d h1 =>
    rw [e] at p
    obtain ⟨k, rfl⟩ := hb _ _ _ _ e
    intro μ1 H1 e1 S1 v r
    cases repB.mp r
    exact ⟨k, rfl, p μ1 H1 e1 S1⟩
theorem bind_ok {α β : Type} {r : Res α} {f : α → LH → Res β} {b : β} {h' : LH} (e : r.bind f = .ok b h') : ∃ a h, r = .ok a h ∧ f a h = .ok b h' := by
  cases r with
  | ok a h => exact ⟨a, h, rfl, e⟩
  | ex x h => cases e
  | no => cases e
theorem cmp_bl {op : CmpOp} {a b : E} : ∀ env h d h', evE (.cmp op a b) env h = .ok d h' → ∃ k, d = .bl k := by
  intro env h d h' e
  simp only [evE] at e
  obtain ⟨_, _, _, e⟩ := bind_ok e
  obtain ⟨_, _, _, e⟩ := bind_ok e
  exact opCmp_bl e
theorem chn_bl {op op' : CmpOp} {a b c : E} : ∀ env h d h', evE (.chn op op' a b c) env h = .ok d h' → ∃ k, d = .bl k := by
  intro env h d h' e
  simp only [evE] at e
  obtain ⟨_, _, _, e⟩ := bind_ok e
  obtain ⟨_, _, _, e⟩ := bind_ok e
  obtain ⟨_, _, _, e⟩ := bind_ok e
  split at e
  · obtain ⟨_, _, _, e⟩ := bind_ok e
    exact opCmp_bl e
  · cases e; exact ⟨_, rfl⟩
  · cases e
theorem ite_eq {c a b : E} {env : Env} {h : LH} : evE (.ite c a b) env h = (evT c env h).bind fun k h1 => if k = true then evE a env h1 else evE b env h1 := by
  simp only [evE]
  unfold evT
  cases evE c env h with
  | no => rfl
  | ex x h1 => rfl
  | ok d h1 =>
    simp only [Res.bind]
    cases truthy h1 d with
    | none => rfl
    | some k => cases k <;> rfl
theorem andT_cons {X : Cx} {W : WX} {c c2 : E} {cs : List E} {σ : L2.St} {H : Hp} {Q : Bool → Hp → Prop} (q : rdAndT X W (c :: c2 :: cs) σ H Q) : tAnd (rdT X W c) (rdAndT X W (c2 :: cs)) σ H Q := by
  obtain ⟨R, μ, h, env, S, Ev, p⟩ := q
  refine ⟨R, μ, h, env, S, Ev, ?_⟩
  show Post _ _ _ _ _ _ _ _ (evT c env h)
  unfold evT
  simp only [evAnd] at p
  cases e : evE c env h with
  | no => rw [e] at p; exact p.elim
  | ex x h1 => rw [e] at p; exact p
  | ok d h1 =>
    rw [e] at p
    cases d with
    | bl k =>
      simp only [Res.bind, truthy] at p ⊢
      intro μ1 H1 e1 S1
      cases k with
      | true =>
        show if true = true then _ else _
        rw [if_pos rfl]
        exact ⟨R, μ1, h1, env, S1, Ev.mono S e1, p.later e1 S1⟩
      | false =>
        show if false = true then _ else _
        rw [if_neg Bool.false_ne_true]
        exact p μ1 H1 e1 S1
    | _ => exact (show False from p).elim
theorem orT_cons {X : Cx} {W : WX} {c c2 : E} {cs : List E} {σ : L2.St} {H : Hp} {Q : Bool → Hp → Prop} (q : rdOrT X W (c :: c2 :: cs) σ H Q) : tOr (rdT X W c) (rdOrT X W (c2 :: cs)) σ H Q := by
  obtain ⟨R, μ, h, env, S, Ev, p⟩ := q
  refine ⟨R, μ, h, env, S, Ev, ?_⟩
  show Post _ _ _ _ _ _ _ _ (evT c env h)
  unfold evT
  simp only [evOr] at p
  cases e : evE c env h with
  | no => rw [e] at p; exact p.elim
  | ex x h1 => rw [e] at p; exact p
  | ok d h1 =>
    rw [e] at p
    cases d with
    | bl k =>
      simp only [Res.bind, truthy] at p ⊢
      intro μ1 H1 e1 S1
      cases k with
      | true =>
        show if true = true then _ else _
        rw [if_pos rfl]
        exact p μ1 H1 e1 S1
      | false =>
        show if false = true then _ else _
        rw [if_neg Bool.false_ne_true]
        exact ⟨R, μ1, h1, env, S1, Ev.mono S e1, p.later e1 S1⟩
    | _ => exact (show False from p).elim
theorem mt_facts : ∀ f : Mt, PlainAttrs (mtT f) ∧ Slot (mtT f) (mtName f) (mtId f) ∧ typeOf (.builtin (mtId f)) = pure (.type "method_descriptor")
  | .append => ⟨PySem.F.plainAttrs_list, PySem.F.slot_list_append, PySem.F.type_list_append⟩
  | .pop0 => ⟨PySem.F.plainAttrs_list, PySem.F.slot_list_pop, PySem.F.type_list_pop⟩
  | .pop => ⟨PySem.F.plainAttrs_list, PySem.F.slot_list_pop, PySem.F.type_list_pop⟩
  | .popAt => ⟨PySem.F.plainAttrs_list, PySem.F.slot_list_pop, PySem.F.type_list_pop⟩
  | .index => ⟨PySem.F.plainAttrs_list, PySem.F.slot_list_index, PySem.F.type_list_index⟩
  | .join => ⟨PySem.F.plainAttrs_str, PySem.F.slot_str_join, PySem.F.type_str_join⟩
  | .split => ⟨PySem.F.plainAttrs_str, PySem.F.slot_str_split, PySem.F.type_str_split⟩
  | .get2 => ⟨PySem.F.plainAttrs_dict, PySem.F.slot_dict_get, PySem.F.type_dict_get⟩
  | .popK => ⟨PySem.F.plainAttrs_dict, PySem.F.slot_dict_pop, PySem.F.type_dict_pop⟩
theorem mtOk_ok {X : Cx} {R : Ap} {μ : Nat → Addr} {H : Hp} {h : LH} {f : Mt} {d : D} {v : V} (S : SimH X.K R μ H h) (r : Rep X.K R h.length μ H d v) (e : mtOk f h d = true) : SemTy X (mtT f) v H := by
  have go : (asL h d).isSome = true → SemTy X "list" v H := fun q => by
    obtain ⟨ds, q⟩ := Option.isSome_iff_exists.mp q
    obtain ⟨a, xs, rfl, sq, _⟩ := r.lst_of S q
    exact .of (.inl ⟨rfl, xs, SqL.of sq⟩)
  have god : (asD h d).isSome = true → SemTy X "dict" v H := fun q => by
    obtain ⟨ds, q⟩ := Option.isSome_iff_exists.mp q
    obtain ⟨a, rfl, dv⟩ := asD_of S r q
    exact .dv dv
  cases f with
  | append => exact go (by simpa [mtOk] using e)
  | pop0 => exact go (by simpa [mtOk] using e)
  | pop => exact go (by simpa [mtOk] using e)
  | popAt => exact go (by simpa [mtOk] using e)
  | get2 => exact god (by simpa [mtOk] using e)
  | popK => exact god (by simpa [mtOk] using e)
  | index => cases d <;> simp [mtOk] at e
  | join => cases d <;> first | (cases repS.mp r; exact .of rfl) | (simp [mtOk] at e)
  | split => cases d <;> first | (cases repS.mp r; exact .of rfl) | (simp [mtOk] at e)
theorem plainB {X : Cx} {W : WX} {N : List Str} {sc : Scope} {c : E} {e : Expr} (h : chkE N sc c e = true) (p : plainT c = true) (q : PE X e (rdE X W c)) : PE X e (rdE X W c) ∧ PT X e (rdT X W c) := ⟨q, pt_of q (plain_isTrue h p)⟩
theorem chkEs_head {N : List Str} {sc : Scope} {cs : List E} {e : Expr} {es : List Expr} (h : chkEs N sc cs (e :: es) = true) : isStarredE e = false := by
  cases cs with
  | nil => simp [chkEs] at h
  | cons c cs =>
    simp only [chkEs, Bool.and_eq_true, Bool.not_eq_true'] at h
    exact h.1.1
mutual
theorem soundE : ∀ (c : E) (sc : Scope) (X : Cx) (W : WX) (e : Expr), chkE X.N sc c e = true → okE (gam X k) c → Good k sc X → Takes X W → PE X e (rdE X W c) ∧ PT X e (rdT X W c)
  | .var i, sc, X, W, e, h, ok, G, tk => by
    refine plainB h rfl ?_
    cases e <;> simp only [chkE, Bool.and_eq_true, decide_eq_true_eq, Bool.false_eq_true] at h
    obtain ⟨⟨h1, h2⟩, h3⟩ := h
    obtain ⟨d1, d2, _⟩ := noDbg_ok h3
    refine PE.imp (pe_var h1 (visB_ok h2 G.hsc) d1 d2) fun σ H Q q => ?_
    obtain ⟨R, μ, h, env, S, Ev, p⟩ := q
    simp only [evE] at p
    split at p
    · rename_i d q
      obtain ⟨v, e1, r⟩ := Ev.at_ i d q
      exact ⟨v, e1, p.val S r⟩
    · exact p.elim
  | .cst c, sc, X, W, e, h, ok, G, tk => by
    refine plainB h rfl ?_
    cases e <;> simp only [chkE, Bool.and_eq_true, decide_eq_true_eq, Bool.false_eq_true] at h
    obtain ⟨rfl, h2⟩ := h
    cases c <;> simp only [cstD, Option.isSome_some, Option.isSome_none, Bool.false_eq_true] at h2
    · refine PE.imp pe_non fun σ H Q q => ?_
      obtain ⟨R, μ, h, env, S, Ev, p⟩ := q
      exact p.val S (repN.mpr rfl)
    · refine PE.imp pe_bl fun σ H Q q => ?_
      obtain ⟨R, μ, h, env, S, Ev, p⟩ := q
      exact p.val S (repB.mpr rfl)
    · refine PE.imp pe_int fun σ H Q q => ?_
      obtain ⟨R, μ, h, env, S, Ev, p⟩ := q
      exact p.val S (repI.mpr rfl)
    · refine PE.imp pe_str fun σ H Q q => ?_
      obtain ⟨R, μ, h, env, S, Ev, p⟩ := q
      exact p.val S (repS.mpr rfl)
  | .glob x d, sc, X, W, e, h, ok, G, tk => by
    refine plainB h rfl ?_
    cases e <;> simp only [chkE, Bool.and_eq_true, decide_eq_true_eq, Bool.false_eq_true] at h
    obtain ⟨⟨rfl, h2⟩, h3⟩ := h
    simp only [okE] at ok
    obtain ⟨u, v, hm, rv, rep⟩ := ok.ex
    refine PE.imp (pe_glob (glB_ok h2 G.hsc) hm rv (noDbg_ok h3).1) fun σ H Q q => ?_
    obtain ⟨R, μ, h, env, S, Ev, p⟩ := q
    exact p.val S (rep _ _ _ _)
  | .tup es, sc, X, W, e, h, ok, G, tk => by
    refine plainB h rfl ?_
    cases e <;> simp only [chkE, Bool.false_eq_true] at h
    simp only [okE] at ok
    refine PE.imp (pe_tup (soundEs es sc X W _ h ok G tk)) fun σ H Q q => ?_
    obtain ⟨R, μ, h, env, S, Ev, p⟩ := q
    simp only [evE] at p
    refine ⟨R, μ, h, env, S, Ev, p.bind.imp fun ds h1 μ1 H1 e1 S1 p1 vs r => ?_⟩
    split at p1
    · rename_i hl
      exact ⟨by rw [← r.length]; exact hl, tup_ok S1 r p1⟩
    · exact p1.elim
  | .lst m es, sc, X, W, e, h, ok, G, tk => by
    refine plainB h rfl ?_
    cases e <;> simp only [chkE, Bool.false_eq_true] at h
    simp only [okE] at ok
    refine PE.imp (pe_lst (soundEs es sc X W _ h ok G tk)) fun σ H Q q => ?_
    obtain ⟨R, μ, h, env, S, Ev, p⟩ := q
    simp only [evE] at p
    refine ⟨R, μ, h, env, S, Ev, p.bind.imp fun ds h1 μ1 H1 e1 S1 p1 vs r => ?_⟩
    split at p1
    · rename_i hl
      exact ⟨by rw [← r.length]; exact hl, lst_ok S1 r p1⟩
    · exact p1.elim
  | .bin op m a b, sc, X, W, e, h, ok, G, tk => by
    refine plainB h rfl ?_
    cases e <;> simp only [chkE, Bool.and_eq_true, decide_eq_true_eq, Bool.false_eq_true] at h
    obtain ⟨⟨rfl, h2⟩, h3⟩ := h
    simp only [okE] at ok
    refine PE.imp (pe_op (opBin_ok (m := m)) (soundE a sc X W _ h2 ok.1 G tk).1 (soundE b sc X W _ h3 ok.2 G tk).1) fun σ H Q q => ?_
    obtain ⟨R, μ, h, env, S, Ev, p⟩ := q
    simp only [evE] at p
    refine ⟨R, μ, h, env, S, Ev, p.bind.imp fun d1 h1 μ1 H1 e1 S1 p1 v1 r1 => ?_⟩
    refine ⟨R, μ1, h1, env, S1, Ev.mono S e1, p1.bind.imp fun d2 h2 μ2 H2 e2 S2 p2 v2 r2 => ?_⟩
    exact ⟨_, R, μ2, h2, d1, d2, S2, Rep.mono S1 e2 _ _ r1, r2, p2⟩
  | .neg a, sc, X, W, e, h, ok, G, tk => by
    refine plainB h rfl ?_
    cases e <;> simp only [chkE, Bool.and_eq_true, decide_eq_true_eq, Bool.false_eq_true] at h
    obtain ⟨rfl, h2⟩ := h
    simp only [okE] at ok
    refine PE.imp (pe_un un_neg (soundE a sc X W _ h2 ok G tk).1) fun σ H Q q => ?_
    obtain ⟨R, μ, h, env, S, Ev, p⟩ := q
    simp only [evE] at p
    refine ⟨R, μ, h, env, S, Ev, p.bind.imp fun d1 h1 μ1 H1 e1 S1 p1 v1 r1 => ?_⟩
    split at p1
    · cases repI.mp r1
      exact ⟨_, rfl, p1.int S1⟩
    · exact p1.elim
  | .not a, sc, X, W, e, h, ok, G, tk => by
    refine ⟨?_, ?_⟩
    · skip
      cases e <;> simp only [chkE, Bool.and_eq_true, decide_eq_true_eq, Bool.false_eq_true] at h
      obtain ⟨rfl, h2⟩ := h
      simp only [okE] at ok
      refine PE.imp (pe_not (soundE a sc X W _ h2 ok G tk).1) fun σ H Q q => ?_
      obtain ⟨R, μ, h, env, S, Ev, p⟩ := q
      simp only [evE] at p
      refine ⟨R, μ, h, env, S, Ev, p.bind.imp fun d1 h1 μ1 H1 e1 S1 p1 v1 r1 => ?_⟩
      split at p1
      · cases repB.mp r1
        exact ⟨_, rfl, p1.bl S1⟩
      · exact p1.elim
    · skip
      cases e <;> simp only [chkE, Bool.and_eq_true, decide_eq_true_eq, Bool.false_eq_true] at h
      obtain ⟨rfl, h2⟩ := h
      simp only [okE] at ok
      refine PT.imp (pt_not (soundE a sc X W _ h2 ok G tk).2) fun σ H Q q => ?_
      obtain ⟨R, μ, h, env, S, Ev, p⟩ := q
      refine ⟨R, μ, h, env, S, Ev, ?_⟩
      show Post _ _ _ _ _ _ _ _ (evT a env h)
      unfold evT at p ⊢
      simp only [evE] at p
      cases e : evE a env h with
      | no => rw [e] at p; exact p.elim
      | ex x h1 => rw [e] at p; exact p
      | ok d h1 =>
        rw [e] at p
        cases d with
        | bl k => exact p
        | _ => exact (show False from p).elim
  | .and es, sc, X, W, e, h, ok, G, tk => by
    refine ⟨?_, ?_⟩
    · skip
      cases e <;> simp only [chkE, Bool.and_eq_true, decide_eq_true_eq, Bool.false_eq_true] at h
      obtain ⟨rfl, h2⟩ := h
      simp only [okE] at ok
      refine PE.imp (soundAnd es sc X W _ _ h2 ok G tk) fun σ H Q q => ?_
      obtain ⟨R, μ, h, env, S, Ev, p⟩ := q
      simp only [evE] at p
      exact ⟨R, μ, h, env, S, Ev, p⟩
    · skip
      cases e <;> simp only [chkE, Bool.and_eq_true, decide_eq_true_eq, Bool.false_eq_true] at h
      obtain ⟨rfl, h2⟩ := h
      simp only [okE] at ok
      refine PT.imp (soundAndT es sc X W _ _ h2 ok G tk).pt fun σ H Q q => ?_
      obtain ⟨R, μ, h, env, S, Ev, p⟩ := q
      unfold evT at p
      simp only [evE] at p
      exact ⟨R, μ, h, env, S, Ev, p⟩
  | .or es, sc, X, W, e, h, ok, G, tk => by
    refine ⟨?_, ?_⟩
    · skip
      cases e <;> simp only [chkE, Bool.and_eq_true, decide_eq_true_eq, Bool.false_eq_true] at h
      obtain ⟨rfl, h2⟩ := h
      simp only [okE] at ok
      refine PE.imp (soundOr es sc X W _ _ h2 ok G tk) fun σ H Q q => ?_
      obtain ⟨R, μ, h, env, S, Ev, p⟩ := q
      simp only [evE] at p
      exact ⟨R, μ, h, env, S, Ev, p⟩
    · skip
      cases e <;> simp only [chkE, Bool.and_eq_true, decide_eq_true_eq, Bool.false_eq_true] at h
      obtain ⟨rfl, h2⟩ := h
      simp only [okE] at ok
      refine PT.imp (soundOrT es sc X W _ _ h2 ok G tk).pt fun σ H Q q => ?_
      obtain ⟨R, μ, h, env, S, Ev, p⟩ := q
      unfold evT at p
      simp only [evE] at p
      exact ⟨R, μ, h, env, S, Ev, p⟩
  | .cmp op a b, sc, X, W, e, h, ok, G, tk => by
    refine ⟨?_, ?_⟩
    · skip
      simp only [chkE] at h
      split at h <;> try (cases h; done)
      rename_i e o f q0
      obtain ⟨pos, rfl⟩ := cmp1_eq q0
      simp only [Bool.and_eq_true, decide_eq_true_eq, Bool.not_eq_true'] at h
      obtain ⟨⟨⟨rfl, hm⟩, h2⟩, h3⟩ := h
      simp only [okE] at ok
      exact PE.imp (pe_cmpR (opCmp_ok G.hw G.units) (soundE a sc X W _ h2 ok.1 G tk).1 (soundE b sc X W _ h3 ok.2 G tk).1 (markBehind hm o)) fun σ H Q q => cmp_rd q
    · skip
      simp only [chkE] at h
      split at h <;> try (cases h; done)
      rename_i e o f q0
      obtain ⟨pos, rfl⟩ := cmp1_eq q0
      simp only [Bool.and_eq_true, decide_eq_true_eq, Bool.not_eq_true'] at h
      obtain ⟨⟨⟨rfl, hm⟩, h2⟩, h3⟩ := h
      simp only [okE] at ok
      exact PT.imp (pt_cmpR (opCmp_ok G.hw G.units) (soundE a sc X W _ h2 ok.1 G tk).1 (soundE b sc X W _ h3 ok.2 G tk).1 (markBehind hm o)) fun σ H Q q => cmp_rd (rdB_of cmp_bl q)
  | .chn op op' a b c, sc, X, W, e, h, ok, G, tk => by
    refine ⟨?_, ?_⟩
    · skip
      simp only [chkE] at h
      split at h <;> try (cases h; done)
      rename_i e o f o' g q0
      obtain ⟨pos, rfl⟩ := cmp2_eq q0
      simp only [Bool.and_eq_true, decide_eq_true_eq, Bool.not_eq_true'] at h
      obtain ⟨⟨⟨⟨⟨⟨rfl, rfl⟩, hm⟩, hm'⟩, h2⟩, h3⟩, h4⟩ := h
      simp only [okE] at ok
      exact PE.imp (pe_chain (opCmp_ok G.hw G.units) (opCmp_ok G.hw G.units) (soundE a sc X W _ h2 ok.1 G tk).1 (soundE b sc X W _ h3 ok.2.1 G tk).1 (soundE c sc X W _ h4 ok.2.2 G tk).1 (markBehind hm' o')) fun σ H Q q => chn_rd q
    · skip
      simp only [chkE] at h
      split at h <;> try (cases h; done)
      rename_i e o f o' g q0
      obtain ⟨pos, rfl⟩ := cmp2_eq q0
      simp only [Bool.and_eq_true, decide_eq_true_eq, Bool.not_eq_true'] at h
      obtain ⟨⟨⟨⟨⟨⟨rfl, rfl⟩, hm⟩, hm'⟩, h2⟩, h3⟩, h4⟩ := h
      simp only [okE] at ok
      exact PT.imp (pt_chain (opCmp_ok G.hw G.units) (opCmp_ok G.hw G.units) (soundE a sc X W _ h2 ok.1 G tk).1 (soundE b sc X W _ h3 ok.2.1 G tk).1 (soundE c sc X W _ h4 ok.2.2 G tk).1 (markBehind hm' o')) fun σ H Q q => chn_rd (rdB_of chn_bl q)
  | .ite c a b, sc, X, W, e, h, ok, G, tk => by
    refine ⟨?_, ?_⟩
    · skip
      cases e <;> simp only [chkE, Bool.and_eq_true, decide_eq_true_eq, Bool.false_eq_true] at h
      obtain ⟨⟨h1, h2⟩, h3⟩ := h
      simp only [okE] at ok
      refine PE.imp (pe_ifExp (soundE c sc X W _ h1 ok.1 G tk).2 (soundE a sc X W _ h2 ok.2.1 G tk).1 (soundE b sc X W _ h3 ok.2.2 G tk).1) fun σ H Q q => ?_
      obtain ⟨R, μ, h, env, S, Ev, p⟩ := q
      rw [ite_eq] at p
      refine ⟨R, μ, h, env, S, Ev, p.bind.imp fun b h1 μ1 H1 e1 S1 p1 => ?_⟩
      cases b with
      | true => exact ⟨R, μ1, h1, env, S1, Ev.mono S e1, p1⟩
      | false => exact ⟨R, μ1, h1, env, S1, Ev.mono S e1, p1⟩
    · skip
      cases e <;> simp only [chkE, Bool.and_eq_true, decide_eq_true_eq, Bool.false_eq_true] at h
      obtain ⟨⟨h1, h2⟩, h3⟩ := h
      simp only [okE] at ok
      have pc := (soundE c sc X W _ h1 ok.1 G tk).2
      have pa := (soundE a sc X W _ h2 ok.2.1 G tk).2
      have pb := (soundE b sc X W _ h3 ok.2.2 G tk).2
      refine ⟨fun pins s σ H Q I q => ?_⟩
      obtain ⟨R, μ, h, env, S, Ev, p⟩ := q
      unfold evT at p
      rw [ite_eq] at p
      have p' : Post X.K X.mg (WP X W σ) R h.length μ H (fun b _ _ H' => Q b H') ((evT c env h).bind fun k h1 => if k = true then evT a env h1 else evT b env h1) := by
        have e : (((evT c env h).bind fun k h1 => if k = true then evE a env h1 else evE b env h1).bind fun d h1 => match truthy h1 d with | some b => Res.ok b h1 | none => Res.no) = ((evT c env h).bind fun k h1 => if k = true then evT a env h1 else evT b env h1) := by
          cases evT c env h with
          | no => rfl
          | ex x h1 => rfl
          | ok k h1 => cases k <;> rfl
        rw [← e]
        exact p
      refine PyProof.Rows.isTrue_IfExp (thn (pc.run pins s σ H (fun k H1 => if k = true then rdT X W a σ H1 Q else rdT X W b σ H1 Q) I ⟨R, μ, h, env, S, Ev, p'.bind.imp fun k h1 μ1 H1 e1 S1 p1 => ?_⟩) fun k s1 hk => ?_)
      · cases k with
        | true => exact ⟨R, μ1, h1, env, S1, Ev.mono S e1, p1⟩
        | false => exact ⟨R, μ1, h1, env, S1, Ev.mono S e1, p1⟩
      · obtain ⟨H1, I1, q1⟩ := hk
        cases k with
        | true => exact pa.run pins s1 σ H1 Q I1 q1
        | false => exact pb.run pins s1 σ H1 Q I1 q1
  | .idx a i, sc, X, W, e, h, ok, G, tk => by
    refine plainB h rfl ?_
    simp only [chkE] at h
    split at h <;> try (cases h; done)
    rename_i e f q0
    obtain ⟨pos, rfl⟩ := sub1_eq q0
    simp only [Bool.and_eq_true, Bool.not_eq_true'] at h
    obtain ⟨⟨h2, h3⟩, h4⟩ := h
    simp only [okE] at ok
    refine PE.imp (pe_ix (opIdx_ok G.hw G.units) (soundE a sc X W _ h2 ok.1 G tk).1 (soundE i sc X W _ h3 ok.2 G tk).1 (plainIx h4)) fun σ H Q q => ?_
    obtain ⟨R, μ, h, env, S, Ev, p⟩ := q
    simp only [evE] at p
    refine ⟨R, μ, h, env, S, Ev, p.bind.imp fun d1 h1 μ1 H1 e1 S1 p1 v1 r1 => ?_⟩
    refine ⟨R, μ1, h1, env, S1, Ev.mono S e1, p1.bind.imp fun d2 h2 μ2 H2 e2 S2 p2 v2 r2 => ?_⟩
    exact ⟨_, R, μ2, h2, d1, d2, S2, Rep.mono S1 e2 _ _ r1, r2, p2⟩
  | .slc m a lo hi, sc, X, W, e, h, ok, G, tk => by
    refine plainB h rfl ?_
    simp only [chkE] at h
    split at h <;> try (cases h; done)
    rename_i e s q0
    split at h <;> try (cases h; done)
    rename_i l u q1
    obtain ⟨pos, rfl⟩ := sub1_eq q0
    obtain ⟨p2, rfl⟩ := slc1_eq q1
    simp only [Bool.and_eq_true] at h
    obtain ⟨⟨h2, h3⟩, h4⟩ := h
    simp only [okE] at ok
    refine PE.imp (pe_slice (opCut_ok (m := m)) (soundE a sc X W _ h2 ok.1 G tk).1 (soundO lo sc X W _ h3 ok.2.1 G tk) (soundO hi sc X W _ h4 ok.2.2 G tk)) fun σ H Q q => ?_
    obtain ⟨R, μ, h, env, S, Ev, p⟩ := q
    simp only [evE] at p
    refine ⟨R, μ, h, env, S, Ev, p.bind.imp fun d1 h1 μ1 H1 e1 S1 p1 v1 r1 => ?_⟩
    refine ⟨R, μ1, h1, env, S1, Ev.mono S e1, p1.bind.imp fun l h2 μ2 H2 e2 S2 p2 => ?_⟩
    refine ⟨R, μ2, h2, env, S2, (Ev.mono S e1).mono S1 e2, p2.bind.imp fun u h3 μ3 H3 e3 S3 p3 => ?_⟩
    exact ⟨_, R, μ3, h3, d1, S3, Rep.mono S2 e3 _ _ (Rep.mono S1 e2 _ _ r1), p3⟩
  | .noe, sc, X, W, e, h, ok, G, tk => by simp [chkE] at h
  | .isi a ty, sc, X, W, e, h, ok, G, tk => by
    refine plainB h rfl ?_
    simp only [chkE] at h
    split at h <;> try (cases h; done)
    rename_i n e f q0
    split at h <;> try (cases h; done)
    rename_i t q1
    obtain ⟨p1, pos, rfl⟩ := calN_eq q0
    obtain ⟨p2, rfl⟩ := nameE_eq q1
    simp only [Bool.and_eq_true, decide_eq_true_eq, Bool.not_eq_true'] at h
    obtain ⟨⟨⟨⟨⟨⟨rfl, rfl⟩, h3⟩, h4⟩, h5⟩, h6⟩, h7⟩ := h
    simp only [okE] at ok
    obtain ⟨m1, m2⟩ := isiTys_mem h3
    obtain ⟨b1, b2⟩ := BN_dbg _ m1
    have pt : PE X (.Name (Str.ofString ty) p2) (tC (.ty ty)) := pe_bltn (glB_ok h5 G.hsc) (G.nb _ m1) m2 rfl b2 b1
    refine PE.imp (pe_callB call_isi (glB_ok h4 G.hsc) (G.nb _ (by decide +kernel)) (by decide +kernel) (pa_cons (soundE a sc X W _ h6 ok G tk).1 (pa_cons pt pa_nil (by rfl)) (noStar_star h7)) (by decide +kernel) (by decide +kernel) (noStar_star h7) (by rfl)) fun σ H Q q => ?_
    obtain ⟨R, μ, h, env, S, Ev, p⟩ := q
    simp only [evE] at p
    refine ⟨R, μ, h, env, S, Ev, p.bind.imp fun d1 h1 μ1 H1 e1 S1 p1 v1 r1 => ?_⟩
    split at p1
    · rename_i b q
      exact isi_ok S1 r1 q (p1.bl S1)
    · exact p1.elim
  | .bui f m es, sc, X, W, e, h, ok, G, tk => by
    refine plainB h rfl ?_
    simp only [chkE] at h
    split at h <;> try (cases h; done)
    rename_i n e fs q0
    obtain ⟨p1, pos, rfl⟩ := calN_eq q0
    simp only [Bool.and_eq_true, decide_eq_true_eq] at h
    obtain ⟨⟨rfl, h2⟩, h3⟩ := h
    simp only [okE] at ok
    have hst := chkEs_head h3
    have hpl : (backTo pos (starEach fs X.env)).any (·.1) = false := by
      have q := (chkEs_star (env := X.env) (pos := pos) h3).1
      rw [noStar_star hst] at q
      simpa only [backTo, List.map_cons, List.any_cons, Bool.false_or] using q
    obtain ⟨b1, b2⟩ := BN_dbg _ (biName_mem f)
    have pa := soundEs es sc X W _ h3 ok G tk
    have fin : ∀ σ H Q, rdE X W (.bui f m es) σ H Q → tCB (rBi X.K X.mg f m) (rdEs X W es) σ H Q := fun σ H Q q => by
      obtain ⟨R, μ, h, env, S, Ev, p⟩ := q
      simp only [evE] at p
      exact ⟨R, μ, h, env, S, Ev, p.bind.imp fun ds h1 μ1 H1 e1 S1 p1 vs r => ⟨_, R, μ1, h1, ds, S1, r, p1⟩⟩
    have hb := biV_boot f
    have hc : CallR X (biV f) (rBi X.K X.mg f m) := biF_ok G.calm
    rcases biV_kind f with ⟨id, hid⟩ | ⟨T, hT⟩
    · rw [hid] at hb hc
      exact PE.imp (pe_callB hc (glB_ok h2 G.hsc) (G.nb _ (biName_mem f)) hb pa b2 b1 (noStar_star hst) hpl) fin
    · rw [hT] at hb hc
      exact PE.imp (pe_callTy hc (glB_ok h2 G.hsc) (G.nb _ (biName_mem f)) hb pa b2 b1 (noStar_star hst) hpl) fin
  | .met f m o es, sc, X, W, e, h, ok, G, tk => by
    refine plainB h rfl ?_
    simp only [chkE] at h
    split at h <;> try (cases h; done)
    rename_i e n a0 fs b0 q0
    obtain ⟨apos, pos, rfl, rfl, rfl⟩ := calM_eq q0
    simp only [Bool.and_eq_true, decide_eq_true_eq, Bool.not_eq_true'] at h
    obtain ⟨⟨⟨⟨⟨rfl, h2⟩, h3⟩, h4⟩, h5⟩, h6⟩ := h
    simp only [okE] at ok
    obtain ⟨f1, f2, f3⟩ := mt_facts f
    have pe := (soundE o sc X W _ h4 ok.1 G tk).1
    have hline : (apos.endLine == pos.line) = true := by rw [h2]; simp
    cases fs with
    | nil =>
      refine PE.imp (pe_bmS0 f1 f2 f3 (mtF_ok G.hw G.units (m := m)) pe (attrBase h3) hline) fun σ H Q q => ?_
      obtain ⟨R, μ, h, env, S, Ev, p⟩ := q
      simp only [evE] at p
      refine ⟨R, μ, h, env, S, Ev, p.bind.imp fun d1 h1 μ1 H1 e1 S1 p1 v1 r1 => ?_⟩
      split at p1
      · rename_i hm
        refine ⟨mtOk_ok S1 r1 hm, ?_⟩
        cases es with
        | nil => exact ⟨_, R, μ1, h1, d1, [], S1, r1, by simp [Reps], p1⟩
        | cons _ _ => simp [chkEs] at h5
      · exact p1.elim
    | cons e2 fs =>
      have hst := chkEs_head h5
      have hq := chkEs_star (env := X.env) (pos := pos) h5
      have hpl : (backTo pos (starEach fs X.env)).any (·.1) = false := by
        have q := hq.1
        rw [noStar_star hst] at q
        simpa only [backTo, List.map_cons, List.any_cons, Bool.false_or] using q
      have hfew : ((backTo pos (starEach (e2 :: fs) X.env)).all (fun x => !x.1) && (backToKw pos (keywordEach [] X.env)).all (fun x => x.1.isSome)
          && decide ((e2 :: fs).length + ([] : List Keyword).length + (if ([] : List Keyword).isEmpty then 0 else 1) < 30)) = true := by
        rw [hq.2]
        show (true && true && decide ((e2 :: fs).length + 0 + 0 < 30)) = true
        simpa using h6
      refine PE.imp (pe_bmS f1 f2 f3 (mtF_ok G.hw G.units (m := m)) pe (soundEs es sc X W _ h5 ok.2 G tk) (attrBase h3) hfew hline (noStar_star hst) hpl) fun σ H Q q => ?_
      obtain ⟨R, μ, h, env, S, Ev, p⟩ := q
      simp only [evE] at p
      refine ⟨R, μ, h, env, S, Ev, p.bind.imp fun d1 h1 μ1 H1 e1 S1 p1 v1 r1 => ?_⟩
      split at p1
      · rename_i hm
        refine ⟨mtOk_ok S1 r1 hm, R, μ1, h1, env, S1, Ev.mono S e1, p1.bind.imp fun ds h2 μ2 H2 e2 S2 p2 vs r2 => ?_⟩
        exact ⟨_, R, μ2, h2, d1, ds, S2, Rep.mono S1 e2 _ _ r1, r2, p2⟩
      · exact p1.elim
  | .cal x S m dfl es, sc, X, W, e, h, ok, G, tk => by
    refine plainB h rfl ?_
    simp only [chkE] at h
    split at h <;> try (cases h; done)
    rename_i n e fs q0
    obtain ⟨p1, pos, rfl⟩ := calN_eq q0
    simp only [Bool.and_eq_true, decide_eq_true_eq] at h
    obtain ⟨⟨⟨rfl, h2⟩, h4⟩, h3⟩ := h
    simp only [okE] at ok
    have hst := chkEs_head h3
    have hpl : (backTo pos (starEach fs X.env)).any (·.1) = false := by
      have q := (chkEs_star (env := X.env) (pos := pos) h3).1
      rw [noStar_star hst] at q
      simpa only [backTo, List.map_cons, List.any_cons, Bool.false_or] using q
    refine PE.imp (pe_callD ok.1 G.room (glB_ok h2 G.hsc) tk (soundEs es sc X W _ h3 ok.2 G tk) (noDbg_ok h4).1 (noStar_star hst) hpl) fun σ H Q q => ?_
    obtain ⟨R, μ, h, env, S, Ev, p⟩ := q
    simp only [evE] at p
    refine ⟨R, μ, h, env, S, Ev, p.bind.imp fun ds h1 μ1 H1 e1 S1 p1 vs r dvs hr => ?_⟩
    split at p1
    · rename_i hl
      exact ⟨R, μ1, h1, ds ++ dfl, by rw [List.length_append]; exact hl, S1, r.append (hr _ _ _ _), p1⟩
    · exact p1.elim
  | .lcp own t it cond elt, sc, X, W, e, h, ok, G, tk => by
    refine plainB h rfl ?_
    simp only [chkE] at h
    split at h <;> try (cases h; done)
    rename_i e tg iter ifs a scope q0
    obtain ⟨pos, rfl⟩ := lcp1_eq q0
    simp only [Bool.and_eq_true, decide_eq_true_eq, Bool.not_eq_true'] at h
    obtain ⟨⟨⟨⟨⟨⟨⟨⟨rfl, h2⟩, h3⟩, h4⟩, h5⟩, h6⟩, h7⟩, h8⟩, h9⟩ := h
    simp only [okE] at ok
    have hsc : X.env.scope = sc := G.hsc
    refine lcp_ok G (soundI it sc X W tg _ h4 h9 ok.1 G tk) (by rw [hsc]; exact blkOk_by h3) h6 (fun s H C cl fp => ?_) (fun s H C cl fp => ?_) (fun s H C cl fp => ?_) (setIter h2)
    · exact pg_ok (X := X.blk s H scope (compEnvC scope cl C X.env) fp) G.nd G.calm (fun x hx => blkSt_ok hx) t tg h5
    · exact soundC cond (relS scope sc) (X.blk s H scope (compEnvC scope cl C X.env) fp) W0 ifs h7 ok.2.1 (G.blk s H C cl fp) takes0
    · exact (soundE elt (relS scope sc) (X.blk s H scope (compEnvC scope cl C X.env) fp) W0 e h8 ok.2.2 (G.blk s H C cl fp) takes0).1
  | .itv e', sc, X, W, e, h, ok, G, tk => by simp [chkE] at h
  | .rng es, sc, X, W, e, h, ok, G, tk => by simp [chkE] at h
  | .dsp es, sc, X, W, e, h, ok, G, tk => by
    refine plainB h rfl ?_
    simp only [chkE] at h
    split at h <;> try (cases h; done)
    rename_i ks vs q0
    obtain ⟨pos, rfl⟩ := dct1_eq q0
    simp only [Bool.and_eq_true, decide_eq_true_eq] at h
    obtain ⟨⟨h1, h2⟩, h3⟩ := h
    simp only [okE] at ok
    obtain ⟨s1, s2, s3⟩ := soundDs es sc X W ks vs pos h1 ok G tk
    cases ks with
    | nil =>
      cases vs with
      | cons _ _ => simp at h2
      | nil =>
        cases es with
        | cons _ _ => simp [chkDs] at h1
        | nil =>
          refine PE.imp pe_dnewK fun σ H Q q p hp => ?_
          obtain ⟨_, kvs, e1, _, q1⟩ := dsp_rd (by rfl) q p hp
          cases kvs with
          | cons _ _ => simp at e1
          | nil => rw [upd_upd] at q1; exact q1
    | cons k ks => exact PE.imp (pe_disp s1 s2 h2 (by simp) h3) fun σ H Q q => dsp_rd s3 q
  | .ds1 .., sc, X, W, e, h, ok, G, tk => (show False from ok).elim
  | .att .., sc, X, W, e, h, ok, G, tk => (show False from ok).elim
  | .mca .., sc, X, W, e, h, ok, G, tk => (show False from ok).elim
  | .zip .., sc, X, W, e, h, ok, G, tk => by simp [chkE] at h
  | .bad, sc, X, W, e, h, ok, G, tk => ⟨⟨fun pins s σ H Q I q => by obtain ⟨R, μ, h, env, S, Ev, p⟩ := q; exact (show False from p).elim⟩, ⟨fun pins s σ H Q I q => by obtain ⟨R, μ, h, env, S, Ev, p⟩ := q; exact (show False from p).elim⟩⟩
  | .enm .., sc, X, W, e, h, ok, G, tk => by simp [chkE] at h
  | .tix os c, sc, X, W, e, h, ok, G, tk => by
    refine plainB h rfl ?_
    simp only [chkE] at h
    split at h <;> try (cases h; done)
    rename_i e n a0 f b0 q0
    split at h <;> try (cases h; done)
    rename_i fs q1
    obtain ⟨apos, pos, rfl, rfl, rfl⟩ := calM_eq q0
    obtain ⟨kk, tpos, rfl⟩ := tupL_eq q1
    simp only [Bool.and_eq_true, decide_eq_true_eq, Bool.not_eq_true'] at h
    obtain ⟨⟨⟨⟨rfl, h2⟩, h3⟩, h4⟩, h5⟩ := h
    simp only [okE] at ok
    refine PE.imp (pe_tix (soundEs os sc X W _ h3 ok.1 G tk) (soundE c sc X W _ h4 ok.2 G tk).1 (noStar_star h5) (by rw [h2]; simp)) fun σ H Q q => tix_rd q
  | .lrg m it, sc, X, W, e, h, ok, G, tk => by
    refine plainB h rfl ?_
    simp only [chkE] at h
    split at h <;> try (cases h; done)
    rename_i n r q0
    obtain ⟨p1, pos, rfl⟩ := calN_eq q0
    simp only [Bool.and_eq_true, decide_eq_true_eq] at h
    obtain ⟨⟨rfl, h2⟩, h3⟩ := h
    cases it <;> simp only [chkR, Bool.false_eq_true] at h3
    rename_i es
    split at h3 <;> try (cases h3; done)
    rename_i n fs q0
    obtain ⟨p2, pos2, rfl⟩ := calN_eq q0
    simp only [Bool.and_eq_true, decide_eq_true_eq, Bool.or_eq_true] at h3
    obtain ⟨⟨⟨rfl, g2⟩, g3⟩, g4⟩ := h3
    simp only [okE] at ok
    have nbl := G.nb "list" (by decide +kernel)
    have nbr := G.nb "range" (by decide +kernel)
    match es, fs, g3, g4, ok with
    | [a], [x], g3, _, ok =>
      simp only [chkEs, Bool.and_eq_true, Bool.not_eq_true'] at g3
      simp only [okEs] at ok
      exact PE.imp (pe_listRg G.calm (glB_ok h2 G.hsc) nbl (prg_1 (glB_ok g2 G.hsc) nbr (soundE a sc X W _ g3.1.2 ok.1 G tk).1 (noStar_star g3.1.1))) fun σ H Q q => lrg1_rd q
    | [a, b], [x, y], g3, _, ok =>
      simp only [chkEs, Bool.and_eq_true, Bool.not_eq_true'] at g3
      simp only [okEs] at ok
      have hy := noStar_star (env := X.env) (es := []) g3.2.1.1
      exact PE.imp (pe_listRg G.calm (glB_ok h2 G.hsc) nbl (prg_2 (glB_ok g2 G.hsc) nbr (soundE a sc X W _ g3.1.2 ok.1 G tk).1 (soundE b sc X W _ g3.2.1.2 ok.2.1 G tk).1 (noStar_star g3.1.1) hy (by rw [hy]; rfl))) fun σ H Q q => lrg2_rd q
    | [], _, _, g4, _ => simp at g4
    | _ :: _ :: _ :: _, _, _, g4, _ => simp at g4
    | [_], [], g3, _, _ => simp [chkEs] at g3
    | [_], _ :: _ :: _, g3, _, _ => simp [chkEs] at g3
    | [_, _], [], g3, _, _ => simp [chkEs] at g3
    | [_, _], [_], g3, _, _ => simp [chkEs] at g3
    | [_, _], _ :: _ :: _ :: _, g3, _, _ => simp [chkEs] at g3
  | .rvs m a, sc, X, W, e, h, ok, G, tk => by
    refine plainB h rfl ?_
    simp only [chkE] at h
    split at h <;> try (cases h; done)
    rename_i e s0 q0
    obtain ⟨pos, rfl⟩ := sub1_eq q0
    simp only [Bool.and_eq_true] at h
    simp only [okE] at ok
    obtain ⟨hr, h2⟩ := h
    unfold rev1 at hr
    split at hr <;> try (cases hr; done)
    refine PE.imp (pe_revL (soundE a sc X W _ h2 ok G tk).1) fun σ H Q q => ?_
    obtain ⟨R, μ, h, env, S, Ev, p⟩ := q
    simp only [evE] at p
    refine ⟨R, μ, h, env, S, Ev, p.bind.imp fun d1 h1 μ1 H1 e1 S1 p1 v1 r1 => ?_⟩
    split at p1
    · rename_i ds q
      obtain ⟨b, xs, rfl, sq, ra⟩ := r1.lst_of S1 q
      exact ⟨b, xs, rfl, SqL.of sq, lst_ok S1 ra.reverse p1⟩
    · exact p1.elim
theorem soundDs : ∀ (cs : List E) (sc : Scope) (X : Cx) (W : WX) (ks : List (Option Expr)) (vs : List Expr) (pos : Pos), chkDs X.N sc cs ks vs = true → okEs (gam X k) cs → Good k sc X → Takes X W → PPs X pos ks vs (trsE X W cs) ∧ ks.all (·.isSome) = true ∧ cs.length % 2 = 0
  | [], sc, X, W, ks, vs, pos, h, ok, G, tk => by
    cases ks with
    | cons _ _ => simp [chkDs] at h
    | nil =>
      cases vs with
      | cons _ _ => simp [chkDs] at h
      | nil => exact ⟨pps_nil, rfl, rfl⟩
  | [_], sc, X, W, ks, vs, pos, h, ok, G, tk => by cases ks <;> cases vs <;> simp [chkDs] at h
  | a :: b :: cs, sc, X, W, ks, vs, pos, h, ok, G, tk => by
    cases ks with
    | nil => cases vs <;> simp [chkDs] at h
    | cons o ks =>
      cases o with
      | none => cases vs <;> simp [chkDs] at h
      | some e =>
        cases vs with
        | nil => simp [chkDs] at h
        | cons f vs =>
          simp only [chkDs, Bool.and_eq_true] at h
          simp only [okEs] at ok
          obtain ⟨i1, i2, i3⟩ := soundDs cs sc X W ks vs pos h.2 ok.2.2 G tk
          refine ⟨pps_cons (soundE a sc X W _ h.1.1 ok.1 G tk).1 (soundE b sc X W _ h.1.2 ok.2.1 G tk).1 i1, by simpa using i2, by simp only [List.length_cons]; omega⟩
theorem soundEs : ∀ (cs : List E) (sc : Scope) (X : Cx) (W : WX) (es : List Expr), chkEs X.N sc cs es = true → okEs (gam X k) cs → Good k sc X → Takes X W → PA X es (rdEs X W cs)
  | [], sc, X, W, es, h, ok, G, tk => by
    cases es with
    | nil =>
      refine PA.imp pa_nil fun σ H Q q => ?_
      obtain ⟨R, μ, h, env, S, Ev, p⟩ := q
      exact p μ H Ext.refl S [] (by simp [Reps])
    | cons _ _ => simp [chkEs] at h
  | c :: cs, sc, X, W, es, h, ok, G, tk => by
    cases es with
    | nil => simp [chkEs] at h
    | cons e es =>
      simp only [chkEs, Bool.and_eq_true, Bool.not_eq_true'] at h
      simp only [okEs] at ok
      refine PA.imp (pa_cons (soundE c sc X W _ h.1.2 ok.1 G tk).1 (soundEs cs sc X W _ h.2 ok.2 G tk) (noStar_star h.1.1)) fun σ H Q q => ?_
      obtain ⟨R, μ, h, env, S, Ev, p⟩ := q
      simp only [evEs] at p
      refine ⟨R, μ, h, env, S, Ev, p.bind.imp fun d1 h1 μ1 H1 e1 S1 p1 v1 r1 => ?_⟩
      refine ⟨R, μ1, h1, env, S1, Ev.mono S e1, p1.bind.imp fun ds h2 μ2 H2 e2 S2 p2 vs r2 => ?_⟩
      refine p2 μ2 H2 Ext.refl S2 (v1 :: vs) ?_
      simp only [Reps]
      exact ⟨v1, vs, rfl, Rep.mono S1 e2 _ _ r1, r2⟩
theorem soundAnd : ∀ (cs : List E) (sc : Scope) (X : Cx) (W : WX) (es : List Expr) (pos : Pos), chkEs X.N sc cs es = true → okEs (gam X k) cs → Good k sc X → Takes X W → PE X (.BoolOp .And es pos) (rdAnd X W cs)
  | [], sc, X, W, es, pos, h, ok, G, tk => ⟨fun pins s σ H Q I q => by obtain ⟨R, μ, h, env, S, Ev, p⟩ := q; exact (show False from p).elim⟩
  | [c], sc, X, W, es, pos, h, ok, G, tk => by
    cases es with
    | nil => simp [chkEs] at h
    | cons e es =>
      simp only [chkEs, Bool.and_eq_true, Bool.not_eq_true'] at h
      simp only [okEs] at ok
      cases es with
      | cons _ _ => simp [chkEs] at h
      | nil =>
        refine PE.imp (pe_one (soundE c sc X W _ h.1.2 ok.1 G tk).1) fun σ H Q q => ?_
        obtain ⟨R, μ, h, env, S, Ev, p⟩ := q
        simp only [evAnd] at p
        exact ⟨R, μ, h, env, S, Ev, p⟩
  | c :: c2 :: cs, sc, X, W, es, pos, h, ok, G, tk => by
    cases es with
    | nil => simp [chkEs] at h
    | cons e es =>
      rw [chkEs] at h
      simp only [Bool.and_eq_true, Bool.not_eq_true'] at h
      rw [okEs] at ok
      cases es with
      | nil => simp [chkEs] at h
      | cons e2 es =>
        refine PE.imp (pe_and (soundE c sc X W _ h.1.2 ok.1 G tk).1 (soundAnd (c2 :: cs) sc X W _ pos h.2 ok.2 G tk)) fun σ H Q q => ?_
        obtain ⟨R, μ, h, env, S, Ev, p⟩ := q
        simp only [evAnd] at p
        refine ⟨R, μ, h, env, S, Ev, p.bind.imp fun d1 h1 μ1 H1 e1 S1 p1 v1 r1 => ?_⟩
        split at p1
        · cases repB.mp r1
          exact ⟨true, rfl, by rw [if_pos rfl]; exact ⟨R, μ1, h1, env, S1, Ev.mono S e1, p1⟩⟩
        · cases repB.mp r1
          exact ⟨false, rfl, by rw [if_neg Bool.false_ne_true]; exact p1.bl S1⟩
        · exact p1.elim
theorem soundOr : ∀ (cs : List E) (sc : Scope) (X : Cx) (W : WX) (es : List Expr) (pos : Pos), chkEs X.N sc cs es = true → okEs (gam X k) cs → Good k sc X → Takes X W → PE X (.BoolOp .Or es pos) (rdOr X W cs)
  | [], sc, X, W, es, pos, h, ok, G, tk => ⟨fun pins s σ H Q I q => by obtain ⟨R, μ, h, env, S, Ev, p⟩ := q; exact (show False from p).elim⟩
  | [c], sc, X, W, es, pos, h, ok, G, tk => by
    cases es with
    | nil => simp [chkEs] at h
    | cons e es =>
      simp only [chkEs, Bool.and_eq_true, Bool.not_eq_true'] at h
      simp only [okEs] at ok
      cases es with
      | cons _ _ => simp [chkEs] at h
      | nil =>
        refine PE.imp (pe_one (soundE c sc X W _ h.1.2 ok.1 G tk).1) fun σ H Q q => ?_
        obtain ⟨R, μ, h, env, S, Ev, p⟩ := q
        simp only [evOr] at p
        exact ⟨R, μ, h, env, S, Ev, p⟩
  | c :: c2 :: cs, sc, X, W, es, pos, h, ok, G, tk => by
    cases es with
    | nil => simp [chkEs] at h
    | cons e es =>
      rw [chkEs] at h
      simp only [Bool.and_eq_true, Bool.not_eq_true'] at h
      rw [okEs] at ok
      cases es with
      | nil => simp [chkEs] at h
      | cons e2 es =>
        refine PE.imp (pe_or (soundE c sc X W _ h.1.2 ok.1 G tk).1 (soundOr (c2 :: cs) sc X W _ pos h.2 ok.2 G tk)) fun σ H Q q => ?_
        obtain ⟨R, μ, h, env, S, Ev, p⟩ := q
        simp only [evOr] at p
        refine ⟨R, μ, h, env, S, Ev, p.bind.imp fun d1 h1 μ1 H1 e1 S1 p1 v1 r1 => ?_⟩
        split at p1
        · cases repB.mp r1
          exact ⟨false, rfl, by rw [if_neg Bool.false_ne_true]; exact ⟨R, μ1, h1, env, S1, Ev.mono S e1, p1⟩⟩
        · cases repB.mp r1
          exact ⟨true, rfl, by rw [if_pos rfl]; exact p1.bl S1⟩
        · exact p1.elim
theorem soundAndT : ∀ (cs : List E) (sc : Scope) (X : Cx) (W : WX) (es : List Expr) (pos : Pos), chkEs X.N sc cs es = true → okEs (gam X k) cs → Good k sc X → Takes X W → PW X (.BoolOp .And es pos) (rdAndT X W cs)
  | [], sc, X, W, es, pos, h, ok, G, tk => ⟨fun wh pins s σ H Q I q => by obtain ⟨R, μ, h, env, S, Ev, p⟩ := q; exact (show False from p).elim⟩
  | [c], sc, X, W, es, pos, h, ok, G, tk => by
    cases es with
    | nil => simp [chkEs] at h
    | cons e es =>
      simp only [chkEs, Bool.and_eq_true, Bool.not_eq_true'] at h
      simp only [okEs] at ok
      cases es with
      | cons _ _ => simp [chkEs] at h
      | nil =>
        refine PW.imp (pw_and1 (soundE c sc X W _ h.1.2 ok.1 G tk).2) fun σ H Q q => ?_
        obtain ⟨R, μ, h, env, S, Ev, p⟩ := q
        simp only [evAnd] at p
        exact ⟨R, μ, h, env, S, Ev, p⟩
  | c :: c2 :: cs, sc, X, W, es, pos, h, ok, G, tk => by
    cases es with
    | nil => simp [chkEs] at h
    | cons e es =>
      rw [chkEs] at h
      simp only [Bool.and_eq_true, Bool.not_eq_true'] at h
      rw [okEs] at ok
      cases es with
      | nil => simp [chkEs] at h
      | cons e2 es => exact PW.imp (pw_and (soundE c sc X W _ h.1.2 ok.1 G tk).2 (soundAndT (c2 :: cs) sc X W _ pos h.2 ok.2 G tk)) fun σ H Q q => andT_cons q
theorem soundOrT : ∀ (cs : List E) (sc : Scope) (X : Cx) (W : WX) (es : List Expr) (pos : Pos), chkEs X.N sc cs es = true → okEs (gam X k) cs → Good k sc X → Takes X W → PW X (.BoolOp .Or es pos) (rdOrT X W cs)
  | [], sc, X, W, es, pos, h, ok, G, tk => ⟨fun wh pins s σ H Q I q => by obtain ⟨R, μ, h, env, S, Ev, p⟩ := q; exact (show False from p).elim⟩
  | [c], sc, X, W, es, pos, h, ok, G, tk => by
    cases es with
    | nil => simp [chkEs] at h
    | cons e es =>
      simp only [chkEs, Bool.and_eq_true, Bool.not_eq_true'] at h
      simp only [okEs] at ok
      cases es with
      | cons _ _ => simp [chkEs] at h
      | nil =>
        refine PW.imp (pw_or1 (soundE c sc X W _ h.1.2 ok.1 G tk).2) fun σ H Q q => ?_
        obtain ⟨R, μ, h, env, S, Ev, p⟩ := q
        simp only [evOr] at p
        exact ⟨R, μ, h, env, S, Ev, p⟩
  | c :: c2 :: cs, sc, X, W, es, pos, h, ok, G, tk => by
    cases es with
    | nil => simp [chkEs] at h
    | cons e es =>
      rw [chkEs] at h
      simp only [Bool.and_eq_true, Bool.not_eq_true'] at h
      rw [okEs] at ok
      cases es with
      | nil => simp [chkEs] at h
      | cons e2 es => exact PW.imp (pw_or (soundE c sc X W _ h.1.2 ok.1 G tk).2 (soundOrT (c2 :: cs) sc X W _ pos h.2 ok.2 G tk)) fun σ H Q q => orT_cons q
theorem soundO : ∀ (c : E) (sc : Scope) (X : Cx) (W : WX) (e : Option Expr), chkO X.N sc c e = true → okE (gam X k) c → Good k sc X → Takes X W → PO X e (rdO X W c)
  | .noe, sc, X, W, e, h, ok, G, tk => by
    cases e with
    | some _ => simp [chkO] at h
    | none =>
      refine PO.imp po_none fun σ H Q q => ?_
      obtain ⟨R, μ, h, env, S, Ev, p⟩ := q
      exact p μ H Ext.refl S
  | .itv c, sc, X, W, e, h, ok, G, tk => by
    cases e with
    | none => simp [chkO] at h
    | some e =>
      simp only [chkO] at h
      simp only [okE] at ok
      refine PO.imp (po_some (soundE c sc X W _ h ok G tk).1) fun σ H Q q => ?_
      obtain ⟨R, μ, h, env, S, Ev, p⟩ := q
      simp only [evO] at p
      refine ⟨R, μ, h, env, S, Ev, p.bind.imp fun d1 h1 μ1 H1 e1 S1 p1 v1 r1 => ?_⟩
      split at p1
      · cases repI.mp r1
        exact ⟨_, rfl, p1 μ1 H1 Ext.refl S1⟩
      · exact p1.elim
  | .var _, sc, X, W, e, h, ok, G, tk => by simp [chkO] at h
  | .cst _, sc, X, W, e, h, ok, G, tk => by simp [chkO] at h
  | .glob .., sc, X, W, e, h, ok, G, tk => by simp [chkO] at h
  | .tup _, sc, X, W, e, h, ok, G, tk => by simp [chkO] at h
  | .lst .., sc, X, W, e, h, ok, G, tk => by simp [chkO] at h
  | .bin .., sc, X, W, e, h, ok, G, tk => by simp [chkO] at h
  | .neg _, sc, X, W, e, h, ok, G, tk => by simp [chkO] at h
  | .not _, sc, X, W, e, h, ok, G, tk => by simp [chkO] at h
  | .and _, sc, X, W, e, h, ok, G, tk => by simp [chkO] at h
  | .or _, sc, X, W, e, h, ok, G, tk => by simp [chkO] at h
  | .cmp .., sc, X, W, e, h, ok, G, tk => by simp [chkO] at h
  | .chn .., sc, X, W, e, h, ok, G, tk => by simp [chkO] at h
  | .ite .., sc, X, W, e, h, ok, G, tk => by simp [chkO] at h
  | .idx .., sc, X, W, e, h, ok, G, tk => by simp [chkO] at h
  | .slc .., sc, X, W, e, h, ok, G, tk => by simp [chkO] at h
  | .isi .., sc, X, W, e, h, ok, G, tk => by simp [chkO] at h
  | .bui .., sc, X, W, e, h, ok, G, tk => by simp [chkO] at h
  | .met .., sc, X, W, e, h, ok, G, tk => by simp [chkO] at h
  | .cal .., sc, X, W, e, h, ok, G, tk => by simp [chkO] at h
  | .lcp .., sc, X, W, e, h, ok, G, tk => by simp [chkO] at h
  | .rng _, sc, X, W, e, h, ok, G, tk => by simp [chkO] at h
  | .dsp .., sc, X, W, e, h, ok, G, tk => by simp [chkO] at h
  | .ds1 .., sc, X, W, e, h, ok, G, tk => by simp [chkO] at h
  | .tix .., sc, X, W, e, h, ok, G, tk => by simp [chkO] at h
  | .lrg .., sc, X, W, e, h, ok, G, tk => by simp [chkO] at h
  | .att .., sc, X, W, e, h, ok, G, tk => by simp [chkO] at h
  | .mca .., sc, X, W, e, h, ok, G, tk => by simp [chkO] at h
  | .rvs .., sc, X, W, e, h, ok, G, tk => by simp [chkO] at h
  | .zip .., sc, X, W, e, h, ok, G, tk => by simp [chkO] at h
  | .enm .., sc, X, W, e, h, ok, G, tk => by simp [chkO] at h
  | .bad, sc, X, W, e, h, ok, G, tk => by simp [chkO] at h
theorem soundI : ∀ (c : E) (sc : Scope) (X : Cx) (W : WX) (tg : Expr) (e : Expr), chkI X.N sc c e = true → (!itTup c || isTupE tg) = true → okE (gam X k) c → Good k sc X → Takes X W → PI X tg e (rdI X W c)
  | .itv c, sc, X, W, tg, e, h, ht, ok, G, tk => by
    simp only [chkI] at h
    simp only [okE] at ok
    have pe := (soundE c sc X W _ h ok G tk).1
    refine ⟨fun pins s σ H P I q => ?_⟩
    obtain ⟨R, μ, h, env, S, Ev, p⟩ := q
    simp only [evI] at p
    -- which kind of value comes
    have go : ∀ {wi : TI}, PI X tg e wi → wi σ H P → wpAny (model X.prog X.w) X.A (eval e X.env) (fun v s1 => wpAny (model X.prog X.w) X.A (pyIter v) (PIE X pins σ tg P) X.xe s1) X.xe s := fun hp hw => hp.run pins s σ H P I hw
    have at_ : ∀ {d h1}, evE c env h = .ok d h1 → ∀ {Q : VK}, (∀ μ1 H1 v, Ext h.length μ H (List.length (h1 : LH)) μ1 H1 → SimH X.K R μ1 H1 h1 → Rep X.K R h1.length μ1 H1 d v → Q v H1) → rdE X W c σ H Q := fun {d h1} e {Q} f => by
      refine ⟨R, μ, h, env, S, Ev, ?_⟩
      show Post _ _ _ _ _ _ _ _ (evE c env h)
      rw [e]
      exact fun μ1 H1 e1 S1 v r => f μ1 H1 v e1 S1 r
    cases e : evE c env h with
    | no => rw [e] at p; exact p.elim
    | ex x h1 =>
      rw [e] at p
      refine go (pi_tup pe) ⟨R, μ, h, env, S, Ev, ?_⟩
      show Post _ _ _ _ _ _ _ _ (evE c env h)
      rw [e]
      exact p
    | ok d h1 =>
      rw [e] at p
      simp only [Res.bind] at p
      split at p
      · rename_i src q
        obtain ⟨src, items⟩ := src
        cases d with
        | tup ds =>
          refine go (pi_tup pe) (at_ e fun μ1 H1 v e1 S1 r => ?_)
          rcases seqSrc_wk S1 r q with ⟨a, rfl, ⟨xs, sq⟩, _, wk⟩ | ⟨a, rfl, _, hl, wk⟩ | ⟨x, rfl, hx, wk⟩
          · exact ⟨a, rfl, ⟨xs, sq⟩, p μ1 H1 e1 S1 _ wk⟩
          · simp [asL] at hl
          · cases hx
        | str z =>
          refine go (pi_str pe) (at_ e fun μ1 H1 v e1 S1 r => ?_)
          rcases seqSrc_wk S1 r q with ⟨a, rfl, _, ⟨ds, hd⟩, wk⟩ | ⟨a, rfl, _, hl, wk⟩ | ⟨x, rfl, hx, wk⟩
          · cases hd
          · simp [asL] at hl
          · exact ⟨x, rfl, p μ1 H1 e1 S1 _ wk⟩
        | _ =>
          refine go (pi_list pe) (at_ e fun μ1 H1 v e1 S1 r => ?_)
          rcases seqSrc_wk S1 r q with ⟨a, rfl, _, ⟨ds, hd⟩, wk⟩ | ⟨a, rfl, ⟨xs, sq⟩, _, wk⟩ | ⟨x, rfl, hx, wk⟩
          · cases hd
          · exact ⟨a, rfl, ⟨xs, sq⟩, p μ1 H1 e1 S1 _ wk⟩
          · cases hx
      · exact p.elim
  | .rng [a], sc, X, W, tg, e, h, ht, ok, G, tk => by
    simp only [chkI] at h
    split at h <;> try (cases h; done)
    rename_i n fs q0
    obtain ⟨p1, pos, rfl⟩ := calN_eq q0
    simp only [Bool.and_eq_true, decide_eq_true_eq] at h
    obtain ⟨⟨⟨rfl, h2⟩, h3⟩, h4⟩ := h
    simp only [okE, okEs] at ok
    cases fs with
    | nil => simp [chkEs] at h3
    | cons x fs =>
      simp only [chkEs, Bool.and_eq_true, Bool.not_eq_true'] at h3
      cases fs with
      | cons _ _ => simp [chkEs] at h3
      | nil =>
        have pa := (soundE a sc X W _ h3.1.2 ok.1 G tk).1
        refine PI.imp (pi_range1 (glB_ok h2 G.hsc) (G.nb _ (by decide +kernel)) (pa_cons pa pa_nil (noStar_star h3.1.1)) (noStar_star h3.1.1)) fun σ H P q => ?_
        obtain ⟨R, μ, h, env, S, Ev, p⟩ := q
        simp only [evI] at p
        refine ⟨R, μ, h, env, S, Ev, p.bind.imp fun d1 h1 μ1 H1 e1 S1 p1 v1 r1 => ?_⟩
        split at p1
        · rename_i l q
          unfold rangeItems at q
          split at q
          · rename_i j q5
            cases q5
            split at q
            · rename_i c
              cases q
              cases repI.mp r1
              refine ⟨j, rfl, c.1, c.2, p1 μ1 H1 Ext.refl S1 _ ?_⟩
              have w := wk_rng (K := X.K) (R := R) (μ := μ1) (H := H1) (h := h1) (lo := 0) (n := j.toNat)
              simpa using w
            · cases q
          · rename_i q5; cases q5
          · cases q
        · exact p1.elim
  | .rng [a, b], sc, X, W, tg, e, h, ht, ok, G, tk => by
    simp only [chkI] at h
    split at h <;> try (cases h; done)
    rename_i n fs q0
    obtain ⟨p1, pos, rfl⟩ := calN_eq q0
    simp only [Bool.and_eq_true, decide_eq_true_eq] at h
    obtain ⟨⟨⟨rfl, h2⟩, h3⟩, h4⟩ := h
    simp only [okE, okEs] at ok
    cases fs with
    | nil => simp [chkEs] at h3
    | cons x fs =>
      cases fs with
      | nil => simp [chkEs] at h3
      | cons y fs =>
        simp only [chkEs, Bool.and_eq_true, Bool.not_eq_true'] at h3
        cases fs with
        | cons _ _ => simp [chkEs] at h3
        | nil =>
          have pa := (soundE a sc X W _ h3.1.2 ok.1 G tk).1
          have pb := (soundE b sc X W _ h3.2.1.2 ok.2.1 G tk).1
          have hy := noStar_star (env := X.env) (es := []) h3.2.1.1
          refine PI.imp (pi_range2 (glB_ok h2 G.hsc) (G.nb _ (by decide +kernel)) (pa_cons pa (pa_cons pb pa_nil hy) (noStar_star h3.1.1)) (by rw [noStar_star h3.1.1, hy]; rfl) hy) fun σ H P q => ?_
          obtain ⟨R, μ, h, env, S, Ev, p⟩ := q
          simp only [evI] at p
          refine ⟨R, μ, h, env, S, Ev, p.bind.imp fun d1 h1 μ1 H1 e1 S1 p1 v1 r1 => ?_⟩
          refine ⟨R, μ1, h1, env, S1, Ev.mono S e1, p1.bind.imp fun d2 h2 μ2 H2 e2 S2 p2 v2 r2 => ?_⟩
          split at p2
          · rename_i l q
            unfold rangeItems at q
            split at q
            · rename_i q5; cases q5
            · rename_i i j q5
              cases q5
              split at q
              · rename_i c
                cases q
                cases repI.mp (Rep.mono S1 e2 _ _ r1)
                cases repI.mp r2
                exact ⟨i, j, rfl, c, p2 μ2 H2 Ext.refl S2 _ wk_rng⟩
              · cases q
            · cases q
          · exact p2.elim
  | .rng [], sc, X, W, tg, e, h, ht, ok, G, tk => by
    simp only [chkI] at h
    split at h <;> try (cases h; done)
    simp at h
  | .rng [a, b, c], sc, X, W, tg, e, h, ht, ok, G, tk => by
    simp only [chkI] at h
    split at h <;> try (cases h; done)
    rename_i n fs q0
    obtain ⟨p1, pos, rfl⟩ := calN_eq q0
    simp only [Bool.and_eq_true, decide_eq_true_eq] at h
    obtain ⟨⟨⟨rfl, h2⟩, h3⟩, h4⟩ := h
    simp only [okE, okEs] at ok
    cases fs with
    | nil => simp [chkEs] at h3
    | cons x fs =>
      cases fs with
      | nil => simp [chkEs] at h3
      | cons y fs =>
        cases fs with
        | nil => simp [chkEs] at h3
        | cons z fs =>
          simp only [chkEs, Bool.and_eq_true, Bool.not_eq_true'] at h3
          cases fs with
          | cons _ _ => simp [chkEs] at h3
          | nil =>
            have pa := (soundE a sc X W _ h3.1.2 ok.1 G tk).1
            have pb := (soundE b sc X W _ h3.2.1.2 ok.2.1 G tk).1
            have pc := (soundE c sc X W _ h3.2.2.1.2 ok.2.2.1 G tk).1
            have hz := noStar_star (env := X.env) (es := []) h3.2.2.1.1
            have hy := noStar_star (env := X.env) (es := [z]) h3.2.1.1
            refine PI.imp (pi_range3 (glB_ok h2 G.hsc) (G.nb _ (by decide +kernel)) (pa_cons pa (pa_cons pb (pa_cons pc pa_nil hz) hy) (noStar_star h3.1.1)) (noStar_star h3.1.1) (by rw [hy, hz]; rfl)) fun σ H P q => ?_
            obtain ⟨R, μ, h, env, S, Ev, p⟩ := q
            simp only [evI] at p
            refine ⟨R, μ, h, env, S, Ev, p.bind.imp fun d1 h1 μ1 H1 e1 S1 p1 v1 r1 => ?_⟩
            refine ⟨R, μ1, h1, env, S1, Ev.mono S e1, p1.bind.imp fun d2 h2 μ2 H2 e2 S2 p2 v2 r2 => ?_⟩
            refine ⟨R, μ2, h2, env, S2, (Ev.mono S e1).mono S1 e2, p2.bind.imp fun d3 h3 μ3 H3 e3 S3 p3 v3 r3 => ?_⟩
            split at p3
            · rename_i i j g
              split at p3
              · rename_i c
                obtain ⟨rfl, c1, c2, c3, c4⟩ := c
                cases repI.mp (Rep.mono S2 e3 _ _ (Rep.mono S1 e2 _ _ r1))
                cases repI.mp (Rep.mono S2 e3 _ _ r2)
                cases repI.mp r3
                exact ⟨i, j, -1, (i - j).toNat, rfl, RgC.neg c1 c2 c3 c4, p3 μ3 H3 Ext.refl S3 _ wk_rngC⟩
              · exact p3.elim
            · exact p3.elim
  | .rng (_ :: _ :: _ :: _ :: _), sc, X, W, tg, e, h, ht, ok, G, tk => by
    simp only [chkI] at h
    split at h <;> try (cases h; done)
    simp at h
  | .enm a, sc, X, W, tg, e, h, ht, ok, G, tk => by
    simp only [chkI] at h
    split at h <;> try (cases h; done)
    rename_i n x q0
    obtain ⟨p1, pos, rfl⟩ := calN_eq q0
    simp only [Bool.and_eq_true, decide_eq_true_eq, Bool.not_eq_true'] at h
    obtain ⟨⟨⟨rfl, h2⟩, h3⟩, h4⟩ := h
    simp only [okE] at ok
    obtain ⟨fs, kk, tpos, rfl⟩ := isTupE_eq (by simpa [itTup] using ht)
    have pa := (soundE a sc X W _ h3 ok G tk).1
    refine PI.imp (pi_enB (glB_ok h2 G.hsc) (G.nb _ (by decide +kernel)) (pa_cons pa pa_nil (noStar_star h4)) (noStar_star h4)) fun σ H P q => ?_
    obtain ⟨R, μ, h, env, S, Ev, p⟩ := q
    simp only [evI] at p
    refine ⟨R, μ, h, env, S, Ev, p.bind.imp fun d1 h1 μ1 H1 e1 S1 p1 v1 r1 => ?_⟩
    split at p1
    · rename_i src q
      split at p1
      · rename_i hl
        obtain ⟨t, a, rfl, ⟨xs, sq⟩, w⟩ := sqw_of S1 r1 q hl
        exact ⟨t, a, xs, rfl, sq, p1 μ1 H1 Ext.refl S1 _ (wk_enB w)⟩
      · exact p1.elim
    · exact p1.elim
  | .zip a b, sc, X, W, tg, e, h, ht, ok, G, tk => by
    simp only [chkI] at h
    split at h <;> try (cases h; done)
    rename_i n x y q0
    obtain ⟨p1, pos, rfl⟩ := calN_eq q0
    simp only [Bool.and_eq_true, decide_eq_true_eq, Bool.not_eq_true'] at h
    obtain ⟨⟨⟨⟨⟨rfl, h2⟩, h3⟩, h4⟩, h5⟩, h6⟩ := h
    simp only [okE] at ok
    obtain ⟨fs, kk, tpos, rfl⟩ := isTupE_eq (by simpa [itTup] using ht)
    have pa := (soundE a sc X W _ h3 ok.1 G tk).1
    have pb := (soundE b sc X W _ h4 ok.2 G tk).1
    have hy := noStar_star (env := X.env) (es := []) h6
    refine PI.imp (pi_zpB (glB_ok h2 G.hsc) (G.nb _ (by decide +kernel)) (pa_cons pa (pa_cons pb pa_nil hy) (noStar_star h5)) (noStar_star h5) (by rw [hy]; rfl)) fun σ H P q => ?_
    obtain ⟨R, μ, h, env, S, Ev, p⟩ := q
    simp only [evI] at p
    refine ⟨R, μ, h, env, S, Ev, p.bind.imp fun d1 h1 μ1 H1 e1 S1 p1 v1 r1 => ?_⟩
    refine ⟨R, μ1, h1, env, S1, Ev.mono S e1, p1.bind.imp fun d2 h2 μ2 H2 e2 S2 p2 v2 r2 => ?_⟩
    split at p2
    · rename_i sa sb qa qb
      split at p2
      · rename_i hl
        obtain ⟨t1, a1, rfl, ⟨xs, sq⟩, w1⟩ := sqw_of S2 (Rep.mono S1 e2 _ _ r1) qa hl.1
        obtain ⟨t2, a2, rfl, ⟨ys, sq2⟩, w2⟩ := sqw_of S2 r2 qb hl.2
        exact ⟨t1, t2, a1, a2, xs, ys, rfl, sq, sq2, p2 μ2 H2 Ext.refl S2 _ (wk_zpB w1 w2)⟩
      · exact p2.elim
    · exact p2.elim
  | .dsp .., sc, X, W, tg, e, h, ht, ok, G, tk => by simp [chkI] at h
  | .ds1 .., sc, X, W, tg, e, h, ht, ok, G, tk => by simp [chkI] at h
  | .tix .., sc, X, W, tg, e, h, ht, ok, G, tk => by simp [chkI] at h
  | .lrg .., sc, X, W, tg, e, h, ht, ok, G, tk => by simp [chkI] at h
  | .att .., sc, X, W, tg, e, h, ht, ok, G, tk => by simp [chkI] at h
  | .mca .., sc, X, W, tg, e, h, ht, ok, G, tk => by simp [chkI] at h
  | .rvs .., sc, X, W, tg, e, h, ht, ok, G, tk => by simp [chkI] at h
  | .bad, sc, X, W, tg, e, h, ht, ok, G, tk => by simp [chkI] at h
  | .var _, sc, X, W, tg, e, h, ht, ok, G, tk => by simp [chkI] at h
  | .cst _, sc, X, W, tg, e, h, ht, ok, G, tk => by simp [chkI] at h
  | .glob .., sc, X, W, tg, e, h, ht, ok, G, tk => by simp [chkI] at h
  | .tup _, sc, X, W, tg, e, h, ht, ok, G, tk => by simp [chkI] at h
  | .lst .., sc, X, W, tg, e, h, ht, ok, G, tk => by simp [chkI] at h
  | .bin .., sc, X, W, tg, e, h, ht, ok, G, tk => by simp [chkI] at h
  | .neg _, sc, X, W, tg, e, h, ht, ok, G, tk => by simp [chkI] at h
  | .not _, sc, X, W, tg, e, h, ht, ok, G, tk => by simp [chkI] at h
  | .and _, sc, X, W, tg, e, h, ht, ok, G, tk => by simp [chkI] at h
  | .or _, sc, X, W, tg, e, h, ht, ok, G, tk => by simp [chkI] at h
  | .cmp .., sc, X, W, tg, e, h, ht, ok, G, tk => by simp [chkI] at h
  | .chn .., sc, X, W, tg, e, h, ht, ok, G, tk => by simp [chkI] at h
  | .ite .., sc, X, W, tg, e, h, ht, ok, G, tk => by simp [chkI] at h
  | .idx .., sc, X, W, tg, e, h, ht, ok, G, tk => by simp [chkI] at h
  | .slc .., sc, X, W, tg, e, h, ht, ok, G, tk => by simp [chkI] at h
  | .noe, sc, X, W, tg, e, h, ht, ok, G, tk => by simp [chkI] at h
  | .isi .., sc, X, W, tg, e, h, ht, ok, G, tk => by simp [chkI] at h
  | .bui .., sc, X, W, tg, e, h, ht, ok, G, tk => by simp [chkI] at h
  | .met .., sc, X, W, tg, e, h, ht, ok, G, tk => by simp [chkI] at h
  | .cal .., sc, X, W, tg, e, h, ht, ok, G, tk => by simp [chkI] at h
  | .lcp .., sc, X, W, tg, e, h, ht, ok, G, tk => by simp [chkI] at h
theorem soundC : ∀ (cs : List E) (sc : Scope) (X : Cx) (W : WX) (es : List Expr), chkC X.N sc cs es = true → okEs (gam X k) cs → Good k sc X → Takes X W → PTs X es (rdC X W cs)
  | [], sc, X, W, es, h, ok, G, tk => by
    cases es with
    | cons _ _ => simp [chkC] at h
    | nil =>
      exact ⟨fun pins s σ H Q I q => pts_nil.run pins s σ H Q I (by
        obtain ⟨R, μ, h, env, S, Ev, p⟩ := q
        exact p μ H Ext.refl S)⟩
  | [c], sc, X, W, es, h, ok, G, tk => by
    cases es with
    | nil => simp [chkC] at h
    | cons e es =>
    cases es with
    | cons _ _ => simp [chkC] at h
    | nil =>
    
    simp only [chkC] at h
    simp only [okEs] at ok
    exact ⟨fun pins s σ H Q I q => (pts_one (soundE c sc X W e h ok.1 G tk).2).run pins s σ H Q I (by
      obtain ⟨R, μ, h, env, S, Ev, p⟩ := q
      simp only [evC] at p
      exact ⟨R, μ, h, env, S, Ev, p⟩)⟩
  | _ :: _ :: _, sc, X, W, es, h, ok, G, tk => by cases es <;> simp [chkC] at h
end
end
end Ev
namespace Ev
open PySem L2
variable [Tabs]
def PostS (K : Fg) (mg : Mg) (W : WX) (R : Ap) (n : Nat) (μ : Nat → Addr) (H : Hp) (D : Ends) : RS → Prop
  | .nx env' h' => ∀ μ' H' σ', Ext n μ H h'.length μ' H' → SimH K R μ' H' h' → RepEnv K R h'.length μ' H' env' σ' → D.nx σ' H'
  | .rt d h' => ∀ μ' H' v, Ext n μ H h'.length μ' H' → SimH K R μ' H' h' → Rep K R h'.length μ' H' d v → D.rt v H'
  | .bk env' h' => ∀ μ' H' σ', Ext n μ H h'.length μ' H' → SimH K R μ' H' h' → RepEnv K R h'.length μ' H' env' σ' → D.bk σ' H'
  | .ct env' h' => ∀ μ' H' σ', Ext n μ H h'.length μ' H' → SimH K R μ' H' h' → RepEnv K R h'.length μ' H' env' σ' → D.ct σ' H'
  | .ex x env' h' => ∀ μ' H' σ' cls dx, Ext n μ H h'.length μ' H' → SimH K R μ' H' h' → RepEnv K R h'.length μ' H' env' σ' → RepX K mg R h'.length μ' H' x cls dx → W cls dx σ' H'
  | .no => False
def rdS (X : Cx) (W : WX) (F : Nat) (s : S) : TS := fun D σ H => In1 X σ H fun R μ h env => PostS X.K X.mg W R h.length μ H D (evS F s env h)
def rdSs (X : Cx) (W : WX) (F : Nat) (ss : List S) : TS := fun D σ H => In1 X σ H fun R μ h env => PostS X.K X.mg W R h.length μ H D (evSs F ss env h)
section
variable {K : Fg} {mg : Mg} {W : WX} {R : Ap} {n : Nat} {μ μ1 : Nat → Addr} {H H1 : Hp} {h h1 : LH} {D : Ends} {env : Env} {σ : L2.St}
theorem PostS.later {r : RS} (p : PostS K mg W R n μ H D r) (e : Ext n μ H h1.length μ1 H1) (S : SimH K R μ1 H1 h1) : PostS K mg W R h1.length μ1 H1 D r := by
  cases r with
  | nx env' h' => exact fun μ' H' σ' e' S' r' => p μ' H' σ' (e.trans S e') S' r'
  | rt d h' => exact fun μ' H' v e' S' r' => p μ' H' v (e.trans S e') S' r'
  | bk env' h' => exact fun μ' H' σ' e' S' r' => p μ' H' σ' (e.trans S e') S' r'
  | ct env' h' => exact fun μ' H' σ' e' S' r' => p μ' H' σ' (e.trans S e') S' r'
  | ex x env' h' => exact fun μ' H' σ' cls dx e' S' r' rx => p μ' H' σ' cls dx (e.trans S e') S' r' rx
  | no => exact p
theorem PostS.inS {α : Type} {r : Res α} {f : α → LH → RS} (S : SimH K R μ H h) (Ev : RepEnv K R h.length μ H env σ) (p : PostS K mg W R h.length μ H D (r.inS env f)) :
    Post K mg (fun cls d H' => W cls d σ H') R h.length μ H (fun a h1 μ1 H1 => PostS K mg W R h1.length μ1 H1 D (f a h1)) r := by
  cases r with
  | ok a h1 => exact fun μ1 H1 e1 S1 => PostS.later (r := f a h1) p e1 S1
  | ex x h1 => exact fun μ1 H1 cls dx e1 S1 rx => p μ1 H1 σ cls dx e1 S1 (Ev.mono S e1) rx
  | no => exact p
/-- other wishes, at least as strong -/
theorem PostS.imp {r : RS} {D' : Ends} {W' : WX} (p : PostS K mg W R n μ H D r) (hn : ∀ σ' H', D.nx σ' H' → D'.nx σ' H') (hr : ∀ v H', D.rt v H' → D'.rt v H') (hb : ∀ σ' H', D.bk σ' H' → D'.bk σ' H') (hc : ∀ σ' H', D.ct σ' H' → D'.ct σ' H')
    (hx : ∀ cls dx σ' H', W cls dx σ' H' → W' cls dx σ' H') : PostS K mg W' R n μ H D' r := by
  cases r with
  | nx env' h' => exact fun μ' H' σ' e' S' r' => hn _ _ (p μ' H' σ' e' S' r')
  | rt d h' => exact fun μ' H' v e' S' r' => hr _ _ (p μ' H' v e' S' r')
  | bk env' h' => exact fun μ' H' σ' e' S' r' => hb _ _ (p μ' H' σ' e' S' r')
  | ct env' h' => exact fun μ' H' σ' e' S' r' => hc _ _ (p μ' H' σ' e' S' r')
  | ex x env' h' => exact fun μ' H' σ' cls dx e' S' r' rx => hx _ _ _ _ (p μ' H' σ' cls dx e' S' r' rx)
  | no => exact p
end
/-- an exception class of the program, without an __init__ of its own -/
structure ExcD (Γ : Gam) (x : Str) : Prop where
  ex : ∃ C, Γ.mg x = some (.ref C) ∧ PySem.W.excIn Γ.K C [.type "ValueError", .type "Exception", .type "BaseException", .type "object"] "ValueError.__new__" = true ∧ PySem.W.keepIn Γ.K (.ref C) = true ∧
    PySem.W.subIn Γ.K (.ref C) (.type "BaseException") = some true ∧ PySem.W.typeIn Γ.K (.ref C) = some (.type "type")
structure ExcP (Γ : Gam) (x y : Str) : Prop where
  ex : ∃ C D, Γ.mg x = some (.ref C) ∧ Γ.mg y = some (.ref D) ∧ PySem.W.exmOne Γ.K (.ref C) (.ref D) = some (decide (x = y))
mutual
def okS (Γ : Gam) : S → Prop
  | .set _ e => okE Γ e
  | .sat _ _ _ _ => False
  | .raiA x f e => ExcF Γ x f ∧ okE Γ e
  | .tryA b x _ f _ => okSs Γ b ∧ ExcH Γ x f
  | .bad => True
  | .unp _ e => okE Γ e
  | .stx o i e => okE Γ o ∧ okE Γ i ∧ okE Γ e
  | .exp e => okE Γ e
  | .ret e => okE Γ e
  | .retN => True
  | .ifs c a b => okE Γ c ∧ okSs Γ a ∧ okSs Γ b
  | .for_ _ it b => okE Γ it ∧ okSs Γ b
  | .whl c b => okE Γ c ∧ okSs Γ b
  | .rai x => ExcD Γ x
  | .tryS xs b hs => okSs Γ b ∧ (∀ x ∈ xs, ∀ p ∈ hs, ExcP Γ x p.1) ∧ (∀ p ∈ hs, ∃ C, Γ.mg p.1 = some (.ref C))
  | .pas => True
  | .brk => True
  | .cnt => True
def okSs (Γ : Gam) : List S → Prop
  | [] => True
  | s :: ss => okS Γ s ∧ okSs Γ ss
end
/-- .. for statements: a def's body -/
structure GoodS (k : Nat) (sc : Scope) (X : Cx) : Prop extends Good k sc X where
  own : PassesOwn (model X.prog X.w) X.A X.env X.xe
  stk : X.stack = X.env :: X.outer
  fr : X.env.frame = some X.env.locals
  fn : ∀ x, X.fn x = true
  knd : sc.kind = .function
section
variable {X : Cx} {k : Nat} {sc : Scope} {W : WX} {F : Nat}
theorem swaps_none {e : Expr} {tg : Option Expr} {l : Nat} {env : PySem.Env} (h : isCompE e = false) : swapsWith e tg l env = pure false := by
  cases e <;> first | rfl | (simp [isCompE] at h)
theorem sole {e tg : Expr} {l : Nat} {env : PySem.Env} (h : isCompE e = false) : swapsWithSole [tg] e l env = pure false := swaps_none h
theorem swaps_cell {e : Expr} {x : Str} {px : Pos} {l : Nat} (hx : X.env.scope.names.lookup x = some .cell) : swapsWith e (some (.Name x px)) l X.env = pure false := by
  have hk : (X.env.kindOf x == some NameKind.local) = false := by
    show (X.env.scope.names.lookup x == some NameKind.local) = false
    rw [hx]; rfl
  cases e <;> first
    | rfl
    | (unfold swapsWith
       simp only [hk, Bool.and_false, Bool.false_and])
theorem compSwap_ok {e : Expr} {x : Str} {px : Pos} {l : Nat} (hk : X.env.scope.kind = .function) (h : compSwap X.env.scope x px e = true) : swapsWith e (some (.Name x px)) l X.env = pure true := by
  cases e <;> simp only [compSwap, Bool.false_eq_true] at h
  rename_i elt gs scope pos
  simp only [Bool.and_eq_true, decide_eq_true_eq, Bool.not_eq_true'] at h
  exact sw_true hk h.1.1 h.1.2 h.2
theorem locB_ok {x : Str} (h : locB sc x = true) (e : X.env.scope = sc) : Loc X.env.scope x := by
  rw [e]
  unfold locB at h
  split at h
  · exact .inl (by assumption)
  · exact .inr (by assumption)
  · cases h
theorem noSwap_ok {ts vs : List Expr} {kt k2 : Nat} {pt p2 : Pos} (hk : X.env.scope.kind = .function) (h : noSwapB X.env.scope ts vs = true) : swappedStores [.Tuple ts kt pt] (.Tuple vs k2 p2) X.env = pure none := by
  have hb : X.env.blockKind = .function := by unfold Env.blockKind; rw [hk]; rfl
  unfold swappedStores
  simp only [hb]
  split
  · rfl
  · rename_i c1
    split
    · rfl
    · rename_i c2
      split
      · rfl
      · rename_i c3
        split
        · rfl
        · rename_i c4
          exfalso
          have c1' : ¬ ((!(ts.length == 2 || ts.length == 3) || vs.length != ts.length) = true) := fun z => c1 (by rw [z]; rfl)
          unfold noSwapB at h
          simp only [Bool.or_eq_true (_ || _ || _)] at h
          rcases Bool.or_eq_true _ _ ▸ h with h | h
          · rcases Bool.or_eq_true _ _ ▸ h with h | h
            · rcases Bool.or_eq_true _ _ ▸ h with h | h
              · exact c1' h
              · exact c2 h
            · exact c3 h
          · exact c4 h
theorem swap_ok {ts vs : List Expr} {kt k2 : Nat} {pt p2 : Pos} (hk : X.env.scope.kind = .function) (h : swapB X.env.scope ts vs = true) : swappedStores [.Tuple ts kt pt] (.Tuple vs k2 p2) X.env = pure (some (swNames X.env.scope ts)) := by
  have hb : X.env.blockKind = .function := by unfold Env.blockKind; rw [hk]; rfl
  unfold swapB at h
  simp only [Bool.and_eq_true, Bool.not_eq_true'] at h
  obtain ⟨⟨⟨⟨c1, c2⟩, c3⟩, c4⟩, c5⟩ := h
  unfold swappedStores
  simp only [hb]
  rw [if_neg (by rw [c1]; decide)]
  rw [if_neg (by intro z; exact absurd (c2.symm.trans z) (by decide))]
  rw [if_neg (by intro z; exact absurd (c3.symm.trans z) (by decide)), if_neg (by rw [c4]; decide), if_neg (by rw [c5]; decide)]
  rfl
theorem swNames2 {x y : Str} {px py : Pos} (h : (swNames sc [.Name x px, .Name y py]).length = 2) : swNames sc [.Name x px, .Name y py] = [x, y] ∧ sc.names.lookup x = some .local ∧ sc.names.lookup y = some .local := by
  unfold swNames at h ⊢
  simp only [List.filterMap_cons, List.filterMap_nil] at h ⊢
  split at h <;> split at h <;> simp_all
  rename_i ha hb
  exact ⟨ha.2 ▸ ha.1.1, hb.2 ▸ hb.1.1⟩
theorem swNames3 {x y z : Str} {px py pz : Pos} (h : (swNames sc [.Name x px, .Name y py, .Name z pz]).length = 3) : swNames sc [.Name x px, .Name y py, .Name z pz] = [x, y, z] ∧ sc.names.lookup x = some .local ∧ sc.names.lookup y = some .local ∧ sc.names.lookup z = some .local := by
  unfold swNames at h ⊢
  simp only [List.filterMap_cons, List.filterMap_nil] at h ⊢
  split at h <;> split at h <;> split at h <;> simp_all
  rename_i ha hb hc
  exact ⟨ha.2 ▸ ha.1.1, hb.2 ▸ hb.1.1, hc.2 ▸ hc.1.1⟩
theorem swap_len {ts vs : List Expr} (h : swapB sc ts vs = true) : (swNames sc ts).length = ts.length := by
  unfold swapB at h
  simp only [Bool.and_eq_true, Bool.not_eq_true', Bool.or_eq_false_iff] at h
  have := h.1.1.2.1
  simpa using this

theorem GoodS.tr (G : GoodS k sc X) (pn : List (Addr × Obj)) (xe : Value → Shared → Prop) (hp : PassesOwn (model X.prog X.w) X.A X.env xe) : GoodS k sc (X.tr pn xe) :=
  ⟨⟨G.nd, G.hsc, G.calm, ⟨G.room.hd, G.room.dp, G.room.un⟩, G.nb, G.hw⟩, hp, G.stk, G.fr, G.fn, G.knd⟩
/-- from here on, in the readings' form -/
theorem in1 {P : Ap → (Nat → Addr) → LH → Env → Prop} {σ : L2.St} {H : Hp} {R : Ap} {μ : Nat → Addr} {h : LH} {env : Env} (S : SimH X.K R μ H h) (Ev : RepEnv X.K R h.length μ H env σ) (p : P R μ h env) : In1 X σ H P := ⟨R, μ, h, env, S, Ev, p⟩
/-- one slot is stored -/
theorem set_fin {R : Ap} {μ : Nat → Addr} {H : Hp} {h : LH} {env : Env} {σ : L2.St} {i : Nat} {d : D} {v : V} {D : Ends} (S : SimH X.K R μ H h) (Ev : RepEnv X.K R h.length μ H env σ) (r : Rep X.K R h.length μ H d v)
    (p : PostS X.K X.mg W R h.length μ H D (if i < env.length then .nx (env.set i (some d)) h else .no)) : D.nx (σ.set i (some v)) H := by
  split at p
  · exact p μ H _ Ext.refl S (Ev.set r)
  · exact p.elim

theorem for_rd {t : T} {it : E} {b : List S} {D : Ends} {σ : L2.St} {H : Hp} (q : rdS X W F (.for_ t it b) D σ H) : tFor (rdI X W it) (rdG X t) (rdSs X W F b) D σ H := by
  obtain ⟨R, μ, h, env, S, Ev, p⟩ := q
  simp only [evS] at p
  refine ⟨R, μ, h, env, S, Ev, (p.inS S Ev).imp fun src h1 μ1 H1 e1 S1 p1 J wk => ?_⟩
  have Ev1 := Ev.mono S e1
  have hR : ∀ a, R a → R a ∨ H1 a = none := fun a r => .inl r
  refine ⟨fun i m σ' H' => m = src.2.length - i ∧ i ≤ src.2.length ∧ ∃ μ' h' env', Ext h1.length μ1 H1 (List.length (h' : LH)) μ' H' ∧ SimH X.K R μ' H' h' ∧ RepEnv X.K R h'.length μ' H' env' σ' ∧
      PostS X.K X.mg W R h1.length μ1 H1 D (forLoop src.1 t (fun env1 h2 => evSs F b env1 h2) (src.2.drop i) env' h'), ⟨src.2.length, by omega, Nat.zero_le _, μ1, h1, env, Ext.refl, S1, Ev1, p1⟩, ?_⟩
  rintro i m σ2 H2 ⟨rfl, hi, μ', h', env', e2, S2, Ev2, p2⟩
  by_cases hlt : i < src.2.length
  · refine .inr ?_
    rw [List.drop_eq_getElem_cons hlt] at p2
    simp only [forLoop] at p2
    split at p2
    · rename_i ok1
      refine ⟨wk.go R i μ' H2 h' hR hlt e2 S2 ok1, _, fun σ3 H3 n => ⟨src.2.length - (i + 1), by omega, rfl, hlt, n⟩, fun x H3 y => ?_⟩
      obtain ⟨e3, S3, rx⟩ := wk.yld R i _ μ' H2 h' x H3 hR (List.getElem?_eq_getElem hlt) e2 S2 ok1 y
      split at p2
      · exact p2.elim
      · rename_i env1 hb
        have eA := e2.trans S2 e3
        refine ⟨R, μ', h', env', S3, Ev2.mono S2 e3, src.2[i], env1, rx, hb, fun σ4 r4 _ => ?_⟩
        refine ⟨R, μ', h', env1, S3, r4, ?_⟩
        show PostS _ _ _ _ _ _ _ _ (evSs F b env1 h')
        cases q1 : evSs F b env1 h' with
        | no => simp only [q1] at p2; exact p2.elim
        | nx e h2 => simp only [q1] at p2; exact fun μ5 H5 σ5 e5 S5 r5 => ⟨μ5, h2, e, eA.trans S3 e5, S5, r5, p2⟩
        | ct e h2 => simp only [q1] at p2; exact fun μ5 H5 σ5 e5 S5 r5 => ⟨μ5, h2, e, eA.trans S3 e5, S5, r5, p2⟩
        | bk e h2 => simp only [q1] at p2; exact fun μ5 H5 σ5 e5 S5 r5 => p2 μ5 H5 σ5 (eA.trans S3 e5) S5 r5
        | rt d h2 => simp only [q1] at p2; exact fun μ5 H5 v e5 S5 r5 => p2 μ5 H5 v (eA.trans S3 e5) S5 r5
        | ex x e h2 => simp only [q1] at p2; exact fun μ5 H5 σ5 cls dx e5 S5 r5 rx => p2 μ5 H5 σ5 cls dx (eA.trans S3 e5) S5 r5 rx
    · exact p2.elim
  · have : i = src.2.length := by omega
    subst this
    rw [List.drop_length] at p2
    simp only [forLoop] at p2
    split at p2
    · rename_i ok1
      exact .inl ⟨wk.stop R μ' H2 h' hR e2 S2 ok1, p2 μ' H2 σ2 e2 S2 Ev2⟩
    · exact p2.elim
theorem whl_rd {c : E} {b : List S} {D : Ends} {σ : L2.St} {H : Hp} (q : rdS X W F (.whl c b) D σ H) : tWhile (rdT X W c) (rdSs X W F b) D σ H := by
  obtain ⟨R, μ, h, env, S, Ev, p⟩ := q
  simp only [evS] at p
  refine ⟨fun m σ' H' => ∃ μ' h' env', SimH X.K R μ' H' h' ∧ RepEnv X.K R h'.length μ' H' env' σ' ∧ PostS X.K X.mg W R h'.length μ' H' D (whileLoop (fun env1 h1 => evT c env1 h1) (fun env1 h1 => evSs F b env1 h1) m env' h'), ⟨F, μ, h, env, S, Ev, p⟩, ?_⟩
  rintro m σ1 H1 ⟨μ1, h1, env1, S1, Ev1, p1⟩
  cases m with
  | zero => exact (show False from p1).elim
  | succ m =>
    simp only [whileLoop] at p1
    refine ⟨R, μ1, h1, env1, S1, Ev1, (p1.inS S1 Ev1).imp fun k h2 μ2 H2 e2 S2 p2 => ?_⟩
    have Ev2 := Ev1.mono S1 e2
    cases k with
    | false =>
      show if false = true then _ else _
      rw [if_neg Bool.false_ne_true]
      exact p2 μ2 H2 σ1 Ext.refl S2 Ev2
    | true =>
      show if true = true then _ else _
      rw [if_pos rfl]
      rw [if_pos rfl] at p2
      refine ⟨fun σ' H' => ∃ μ' h' env', SimH X.K R μ' H' h' ∧ RepEnv X.K R h'.length μ' H' env' σ' ∧ PostS X.K X.mg W R h'.length μ' H' D (whileLoop (fun env1 h1 => evT c env1 h1) (fun env1 h1 => evSs F b env1 h1) m env' h'), fun σ' H' n => ⟨m, Nat.lt_succ_self _, n⟩, R, μ2, h2, env1, S2, Ev2, ?_⟩
      show PostS _ _ _ _ _ _ _ _ (evSs F b env1 h2)
      cases q1 : evSs F b env1 h2 with
      | no => simp only [q1] at p2; exact p2.elim
      | nx e h3 => simp only [q1] at p2; exact fun μ5 H5 σ5 e5 S5 r5 => ⟨μ5, h3, e, S5, r5, p2.later e5 S5⟩
      | ct e h3 => simp only [q1] at p2; exact fun μ5 H5 σ5 e5 S5 r5 => ⟨μ5, h3, e, S5, r5, p2.later e5 S5⟩
      | bk e h3 => simp only [q1] at p2; exact fun μ5 H5 σ5 e5 S5 r5 => p2 μ5 H5 σ5 e5 S5 r5
      | rt d h3 => simp only [q1] at p2; exact fun μ5 H5 v e5 S5 r5 => p2 μ5 H5 v e5 S5 r5
      | ex x e h3 => simp only [q1] at p2; exact fun μ5 H5 σ5 cls dx e5 S5 r5 rx => p2 μ5 H5 σ5 cls dx e5 S5 r5 rx

theorem handlers_ok (G : GoodS k sc X) : ∀ {hs : List (Str × Nat × Const)} {es : List ExceptHandler}, handlersB X.N sc hs es = true → (∀ p ∈ hs, ∃ C, X.mg p.1 = some (.ref C)) →
    ∃ l : List (Value × (Addr → Value → Option Addr → TS)), HdsOk X es l ∧ ∀ (xs : List Str) (x : Exn) (D : Ends) (R : Ap) (μ : Nat → Addr) (H : Hp) (h : LH) (env : Env) (σ : L2.St) (cls : Value) (dx : Option Addr), (∀ x ∈ xs, ∀ p ∈ hs, ExcP (gam X k) x p.1) → x.cls ∈ xs →
      SimH X.K R μ H h → RepEnv X.K R h.length μ H env σ → RepX X.K X.mg R h.length μ H x cls dx → PostS X.K X.mg W R h.length μ H D (handle xs hs x env h) → wMany X.K W D l cls dx σ H
  | [], [], _, _ => ⟨[], .nil, fun xs x D R μ H h env σ cls dx _ _ S Ev rx p => p μ H σ cls dx Ext.refl S Ev rx⟩
  | [], _ :: _, h, _ => by simp [handlersB] at h
  | _ :: _, [], h, _ => by simp [handlersB] at h
  | (y, i, c) :: hs, e :: es, h, hc => by
    simp only [handlersB, Bool.and_eq_true] at h
    obtain ⟨h1, h2⟩ := h
    obtain ⟨l, L1, L2'⟩ := handlers_ok G h2 fun p hp => hc p (List.mem_cons_of_mem _ hp)
    unfold handlerB at h1
    split at h1
    · rename_i y i c x0 np z pz c0 kk pp pp2 pp3 q
      cases q
      simp only [Bool.and_eq_true, decide_eq_true_eq] at h1
      obtain ⟨⟨⟨⟨⟨⟨rfl, g1⟩, g2⟩, g3⟩, g4⟩, rfl⟩, g5⟩ := h1
      obtain ⟨d, hd⟩ := Option.isSome_iff_exists.mp g5
      obtain ⟨C, hC⟩ := hc (x0, i, c) List.mem_cons_self
      -- the suite's one row
      have suite : ∃ v, (∀ R n μ H, Rep X.K R n μ H d v) ∧ ∀ (a : Addr) (pn : List (Addr × Obj)), PSs (X.suite a pn) [.Assign [.Name z pz] (.Constant c kk pp) pp2] (tAsg (tC v) (gName i)) := by
        have row : ∀ {v : V} (a : Addr) (pn : List (Addr × Obj)), PE (X.suite a pn) (.Constant c kk pp) (tC v) → PSs (X.suite a pn) [.Assign [.Name z pz] (.Constant c kk pp) pp2] (tAsg (tC v) (gName i)) := fun {v} a pn he =>
          pss_one (ps_set (X := X.suite a pn) G.nd g3 (locB_ok g4 G.hsc) he (by rfl) (.inl (G.fn _)))
        cases c with
        | none => cases hd; exact ⟨.non, fun R n μ H => repN.mpr rfl, fun a pn => row a pn pe_non⟩
        | bool b => cases hd; exact ⟨.bl b, fun R n μ H => repB.mpr rfl, fun a pn => row a pn pe_bl⟩
        | int b => cases hd; exact ⟨.int b, fun R n μ H => repI.mpr rfl, fun a pn => row a pn pe_int⟩
        | str b => cases hd; exact ⟨.str b, fun R n μ H => repS.mpr rfl, fun a pn => row a pn pe_str⟩
        | _ => cases hd
      obtain ⟨v, rv, hsuite⟩ := suite
      refine ⟨(.ref C, fun _ _ _ => tAsg (tC v) (gName i)) :: l, .cons ⟨glB_ok g1 G.hsc, (noDbg_ok g2).1, .inl hC⟩ (fun a oe cls d pn _ _ => hsuite a _) L1, fun xs x D R μ H h env σ cls dx hp hx S Ev rx p => ?_⟩
      obtain ⟨C1, D1, m1, m2, m3⟩ := (hp _ hx (x0, i, c) List.mem_cons_self).ex
      obtain ⟨C2, n1, rfl, n3⟩ := id rx
      have m1 : X.mg x.cls = some (.ref C1) := m1
      have m2 : X.mg x0 = some (.ref D1) := m2
      rw [n1] at m1; cases m1
      rw [hC] at m2; cases m2
      refine ⟨_, m3, fun hb a _ => ?_, fun hb => ?_⟩
      · have e := of_decide_eq_true hb
        simp only [handle, e, if_true, hd] at p
        exact set_fin S Ev (rv _ _ _ _) p
      · have e := of_decide_eq_false hb
        simp only [handle, if_neg e] at p
        exact L2' xs x D R μ H h env σ _ dx (fun x hx p hp' => hp x hx p (List.mem_cons_of_mem _ hp')) hx S Ev rx p
    · cases h1
theorem Reps.set {K : Fg} {R : Ap} {n : Nat} {μ : Nat → Addr} {H : Hp} {d : D} {v : V} (r : Rep K R n μ H d v) : ∀ {ds : List D} {vs : List V} (j : Nat), Reps K R n μ H ds vs → Reps K R n μ H (ds.set j d) (vs.set j v)
  | [], _, _, q => by simp only [Reps] at q; subst q; simp [Reps]
  | x :: ds, _, 0, q => by
    simp only [Reps] at q
    obtain ⟨w, ws, rfl, _, q2⟩ := q
    simp only [List.set_cons_zero, Reps]
    exact ⟨v, ws, rfl, r, q2⟩
  | x :: ds, _, j + 1, q => by
    simp only [Reps] at q
    obtain ⟨w, ws, rfl, q1, q2⟩ := q
    simp only [List.set_cons_succ, Reps]
    exact ⟨w, _, rfl, q1, Reps.set r j q2⟩
def rStx (X : Cx) : V → V → V → Hp → (Hp → Prop) → Prop := fun ov iv vv H Q => ∃ R μ h h' o i v, SimH X.K R μ H h ∧ Rep X.K R h.length μ H o ov ∧ Rep X.K R h.length μ H i iv ∧ Rep X.K R h.length μ H v vv ∧ setSub o i v h = some h' ∧
  ∀ H', Ext h.length μ H h'.length μ H' → SimH X.K R μ H' h' → Q H'
theorem set_any (hw : Tabs.w = X.w) (hu : X.A.units + 65 < cLine) : PSet X (rStx X) := by
  intro pins s σ H ov iv vv ou iu vu Q I xo xi xv hq
  obtain ⟨R, μ, h, h', o, i, v, S, ro, ri, rv, e, hq⟩ := hq
  unfold setSub at e
  split at e
  · rename_i n
    simp only [Rep] at ro
    obtain ⟨hn, rfl⟩ := ro
    split at e
    · rename_i ds q
      split at e
      · rename_i k
        split at e
        · rename_i j hj
          cases e
          cases repI.mp ri
          obtain ⟨xs, e1, ra⟩ := S.obj n _ q
          refine set_list pins s σ H _ _ vv ou iu vu Q I xo xi xv ⟨_, xs, k, j, rfl, rfl, e1, by rw [← ra.length]; exact hj, ?_⟩
          refine hq _ ?_ (S.set hn (Reps.set rv j ra))
          rw [List.length_set]
          exact Ext.set hn
        · cases e
      · cases e
    · rename_i kvs q
      split at e
      · rename_i c
        cases e
        have dv : DV X.K R h.length μ H (μ n) kvs := S.obj n _ q
        obtain rfl : ou = Value.ref (μ n) := xo
        refine dv_setItem hw (by omega) I dv c.2 c.1 ri xi rv xv fun o s' kws ws _ hr r1 r2 I' => ?_
        refine ⟨_, I', hq _ ?_ (S.put hn fun e5 => ⟨kws, ws, hr, Reps.mono S e5 _ _ r1, Reps.mono S e5 _ _ r2⟩)⟩
        rw [List.length_set]
        exact Ext.set hn
      · cases e
    · cases e
  · cases e
theorem sub_assign {a b : Expr} {pos : Pos} {env : PySem.Env} (h : isSliceE b = false) (v : Value) : assign (.Subscript a b pos) env v = (do
      let ov ← holding [v] (eval a env)
      let iv ← holding [v, ov] (eval b env)
      standAt pos
      holding [v, ov, iv] (setItem ov iv v)
      release [v, ov, iv] []) := by
  cases b <;> first | rfl | (simp [isSliceE] at h)
theorem raiE_eq {e : Expr} {x : Str} (h : raiE e = some x) : ∃ p m j p2 pos, e = .Call (.Name x p) [.Constant (.str m) j p2] [] pos := by
  unfold raiE at h
  split at h
  · cases h; exact ⟨_, _, _, _, _, rfl⟩
  · cases h
theorem tupE_eq {e : Expr} {vs : List Expr} (h : tupE e = some vs) : ∃ k pos, e = .Tuple vs k pos := by
  unfold tupE at h
  split at h
  · cases h; exact ⟨_, _, rfl⟩
  · cases h
theorem tupE_no {ts : List Expr} {kt : Nat} {pt : Pos} {e : Expr} {env : PySem.Env} (h : tupE e = none) : swappedStores [.Tuple ts kt pt] e env = pure none := by
  cases e <;> first | rfl | (simp [tupE] at h)
theorem bindT_nm {i : Nat} {d : D} {env env' : Env} (h : bindT (.nm i) d env = some env') : i < env.length ∧ env' = env.set i (some d) := by
  simp only [bindT] at h
  split at h
  · cases h; exact ⟨by assumption, rfl⟩
  · cases h
/-- the lcp's parts, from its check -/
theorem comp_set {i : Nat} {x : Str} {px pos : Pos} {e : E} {f : Expr} (G : GoodS k sc X) (tk : Takes X W) (h1 : X.N[i]? = some x) (h : chkE X.N sc e f = true) (ok : okE (gam X k) e) (hs : compSwap sc x px f = true) :
    PS X (.Assign [.Name x px] f pos) (fun D σ H => rdE X W e σ H fun v H1 => D.nx (σ.set i (some v)) H1) := by
  have hs' := hs
  cases f <;> simp only [compSwap, Bool.false_eq_true] at hs
  rename_i elt0 gs scope0 pos0
  simp only [Bool.and_eq_true, decide_eq_true_eq] at hs
  by_cases hbad : e = .bad
  · subst hbad
    exact ⟨fun pins s σ H D I q => by obtain ⟨R, μ, h, env, S, Ev, p⟩ := q; exact (show False from p).elim⟩
  cases e <;> first | exact absurd rfl hbad | simp only [chkE, Bool.false_eq_true, cmp1, cmp2, sub1, calN, calM, dct1, att1] at h
  rename_i own t it cond elt
  split at h <;> try (cases h; done)
  rename_i e tg iter ifs a scope q0
  obtain ⟨pos1, q1⟩ := lcp1_eq q0
  cases q1
  simp only [Bool.and_eq_true, decide_eq_true_eq, Bool.not_eq_true'] at h
  obtain ⟨⟨⟨⟨⟨⟨⟨⟨rfl, h2⟩, h3⟩, h4⟩, h5⟩, h6⟩, h7⟩, h8⟩, h9⟩ := h
  simp only [okE] at ok
  have hsc : X.env.scope = sc := G.hsc
  have hsw := compSwap_ok (X := X) (l := pos.line) (by rw [hsc]; exact G.knd) (by rw [hsc]; exact hs')
  refine PS.imp (ps_setLc G.calm G.nd h1 (by rw [hsc]; exact hs.1.1) hsw (soundI it sc X W tg _ h4 h9 ok.1 G.toGood tk) (by rw [hsc]; exact blkOk_by h3) (fun s H C cl fp => ?_) (fun s H C cl fp => ?_) (fun s H C cl fp => ?_) (setIter h2)) fun D σ H q => lcp_rd h6 q
  · exact pg_ok (X := X.blk s H scope0 (compEnvC scope0 cl C X.env) fp) G.nd G.calm (fun x hx => blkSt_ok hx) t tg h5
  · exact soundC cond (relS scope0 sc) (X.blk s H scope0 (compEnvC scope0 cl C X.env) fp) W0 ifs h7 ok.2.1 (G.toGood.blk s H C cl fp) takes0
  · exact (soundE elt (relS scope0 sc) (X.blk s H scope0 (compEnvC scope0 cl C X.env) fp) W0 _ h8 ok.2.2 (G.toGood.blk s H C cl fp) takes0).1
mutual
theorem soundS : ∀ (c : S) (sc : Scope) (X : Cx) (W : WX) (s : Stmt), chkS X.N sc c s = true → okS (gam X k) c → GoodS k sc X → Takes X W → PS X s (rdS X W F c)
  | .set i e, sc, X, W, s, h, ok, G, tk => by
    simp only [chkS] at h
    split at h <;> try (cases h; done)
    rename_i t f pos q0
    split at h <;> try (cases h; done)
    rename_i x px q1
    obtain rfl := asg1_eq q0
    obtain rfl := nmP_eq q1
    simp only [Bool.and_eq_true, decide_eq_true_eq, Bool.or_eq_true, Bool.not_eq_true'] at h
    obtain ⟨⟨⟨h1, h2⟩, h3⟩, h4⟩ := h
    simp only [okS] at ok
    have fin : ∀ D σ H, rdS X W F (.set i e) D σ H → rdE X W e σ H fun v H1 => D.nx (σ.set i (some v)) H1 := fun D σ H q => by
      obtain ⟨R, μ, h, env, S, Ev, p⟩ := q
      simp only [evS] at p
      refine ⟨R, μ, h, env, S, Ev, (p.inS S Ev).imp fun d h1 μ1 H1 e1 S1 p1 v r => ?_⟩
      exact set_fin S1 (Ev.mono S e1) r p1
    have plain : ∀ (hs : swapsWith f (some (.Name x px)) pos.line X.env = pure false), PS X (.Assign [.Name x px] f pos) (rdS X W F (.set i e)) := fun hs =>
      PS.imp (ps_set G.nd h1 (locB_ok h2 G.hsc) (soundE e sc X W _ h3 ok G.toGood tk).1 hs (.inl (G.fn _))) fin
    rcases h4 with h4 | h4 | h4
    · exact plain (swaps_none h4)
    · exact PS.imp (comp_set G tk h1 h3 ok h4) fin
    · exact plain (swaps_cell (by rw [G.hsc]; exact h4))
  | .unp (.tp ts) e, sc, X, W, s, h, ok, G, tk => by
    simp only [chkS] at h
    split at h <;> try (cases h; done)
    rename_i t f pos q0
    split at h <;> try (cases h; done)
    rename_i es kk pp q1
    obtain rfl := asg1_eq q0
    obtain rfl := tupP_eq q1
    simp only [Bool.and_eq_true, Bool.not_eq_true'] at h
    obtain ⟨⟨⟨h1, h2⟩, h3⟩, h4⟩ := h
    simp only [okS] at ok
    have pe := (soundE e sc X W _ h2 ok G.toGood tk).1
    have pg := pg_ok (st := locB sc) G.nd G.calm (fun x hx => ⟨locB_ok hx G.hsc, .inl (G.fn _)⟩) (.tp ts) (.Tuple es kk pp) h1
    have plain : swappedStores [.Tuple es kk pp] f X.env = pure none → PS X (.Assign [.Tuple es kk pp] f pos) (rdS X W F (.unp (.tp ts) e)) := fun hw => by
      refine PS.imp (ps_asg pe pg (sole h3) hw (by rfl)) fun D σ H q => ?_
      obtain ⟨R, μ, h, env, S, Ev, p⟩ := q
      simp only [evS] at p
      refine ⟨R, μ, h, env, S, Ev, (p.inS S Ev).imp fun d h1 μ1 H1 e1 S1 p1 v r => ?_⟩
      split at p1
      · rename_i env' hb
        exact ⟨R, μ1, h1, env, S1, Ev.mono S e1, d, env', r, hb, fun σ' r' _ => p1 μ1 H1 σ' Ext.refl S1 r'⟩
      · exact p1.elim
    split at h4
    · rename_i q2
      exact plain (tupE_no q2)
    · rename_i vs q2
      simp only [Bool.or_eq_true, Bool.and_eq_true] at h4
      obtain ⟨k2, p2, rfl⟩ := tupE_eq q2
      have hk : X.env.scope.kind = .function := by rw [G.hsc]; exact G.knd
      rcases h4 with h4 | ⟨h4, h5⟩
      · exact plain (noSwap_ok hk (by rw [G.hsc]; exact h4))
      · have hsw := swap_ok (X := X) (kt := kk) (pt := pp) (k2 := k2) (p2 := p2) hk (by rw [G.hsc]; exact h4)
        have hln := swap_len h4
        unfold parB at h5
        split at h5
        · -- two names
          rename_i i j x px y py c1 c2
          simp only [decide_eq_true_eq] at h5
          obtain ⟨n1, n2, n3⟩ := swNames2 (sc := sc) hln
          rw [G.hsc, n1] at hsw
          simp only [chkE] at h2
          simp only [okE] at ok
          have vl : ∃ a b, vs = [a, b] := by
            match vs, h2 with
            | [a, b], _ => exact ⟨a, b, rfl⟩
            | [], h2 => simp [chkEs] at h2
            | [_], h2 => simp [chkEs] at h2
            | _ :: _ :: _ :: _, h2 => simp [chkEs] at h2
          obtain ⟨a, b, rfl⟩ := vl
          have pa := soundEs [c1, c2] sc X W [a, b] h2 ok G.toGood tk
          simp only [chkTg, chkTgs, Bool.and_eq_true, decide_eq_true_eq] at h1
          refine PS.imp (ps_par G.calm G.nd h1.1.2.1 h1.2.1.2.1 h5 (by rw [G.hsc]; exact n2) (by rw [G.hsc]; exact n3) pa hsw (sole rfl)) fun D σ H q => ?_
          obtain ⟨R, μ, h, env, S, Ev, p⟩ := q
          simp only [evS, evE] at p
          refine ⟨R, μ, h, env, S, Ev, ((p.inS S Ev).bind).imp fun ds h1 μ1 H1 e1 S1 p1 us r => ?_⟩
          split at p1
          · have p1 := p1 μ1 H1 Ext.refl S1
            match ds, r, p1 with
            | [d1, d2], r, p1 =>
              obtain ⟨v1, v2, rfl, r1, r2⟩ := reps2.mp r
              refine ⟨v1, v2, rfl, ?_⟩
              split at p1
              · rename_i env' hb
                simp only [bindT, bindTs, List.length_cons, List.length_nil, if_true] at hb
                split at hb
                · rename_i e5 he5
                  split at he5
                  · cases he5
                    split at hb
                    · rename_i e6 he6
                      split at he6
                      · cases he6; cases hb
                        exact p1 μ1 H1 _ Ext.refl S1 (((Ev.mono S e1).set r1).set r2)
                      · cases he6
                    · cases hb
                  · cases he5
                · cases hb
              · exact p1.elim
            | [], r, p1 => exact (show False from p1).elim
            | [_], r, p1 => exact (show False from p1).elim
            | _ :: _ :: _ :: _, r, p1 => exact (show False from p1).elim
          · exact p1.elim
        · -- three names
          rename_i i j l x px y py z pz c1 c2 c3
          simp only [Bool.and_eq_true, decide_eq_true_eq] at h5
          obtain ⟨⟨h5, h6⟩, h7⟩ := h5
          obtain ⟨n1, n2, n3, n4⟩ := swNames3 (sc := sc) hln
          rw [G.hsc, n1] at hsw
          simp only [chkE] at h2
          simp only [okE] at ok
          have vl : ∃ a b c, vs = [a, b, c] := by
            match vs, h2 with
            | [a, b, c], _ => exact ⟨a, b, c, rfl⟩
            | [], h2 => simp [chkEs] at h2
            | [_], h2 => simp [chkEs] at h2
            | [_, _], h2 => simp [chkEs] at h2
            | _ :: _ :: _ :: _ :: _, h2 => simp [chkEs] at h2
          obtain ⟨a, b, c, rfl⟩ := vl
          have pa := soundEs [c1, c2, c3] sc X W [a, b, c] h2 ok G.toGood tk
          simp only [chkTg, chkTgs, Bool.and_eq_true, decide_eq_true_eq] at h1
          refine PS.imp (ps_par3 G.calm G.nd h1.1.2.1 h1.2.1.2.1 h1.2.2.1.2.1 h5 h6 h7 (by rw [G.hsc]; exact n2) (by rw [G.hsc]; exact n3) (by rw [G.hsc]; exact n4) pa hsw (sole rfl)) fun D σ H q => ?_
          obtain ⟨R, μ, h, env, S, Ev, p⟩ := q
          simp only [evS, evE] at p
          refine ⟨R, μ, h, env, S, Ev, ((p.inS S Ev).bind).imp fun ds h1 μ1 H1 e1 S1 p1 us r => ?_⟩
          split at p1
          · have p1 := p1 μ1 H1 Ext.refl S1
            match ds, r, p1 with
            | [d1, d2, d3], r, p1 =>
              simp only [Reps] at r
              obtain ⟨v1, us1, rfl, r1, v2, us2, rfl, r2, v3, us3, rfl, r3, rfl⟩ := r
              refine ⟨v1, v2, v3, rfl, ?_⟩
              split at p1
              · rename_i env' hb
                simp only [bindT, bindTs, List.length_cons, List.length_nil, if_true] at hb
                split at hb
                · rename_i e5 he5
                  split at he5
                  · cases he5
                    split at hb
                    · rename_i e6 he6
                      split at he6
                      · cases he6
                        split at hb
                        · rename_i e7 he7
                          split at he7
                          · cases he7; cases hb
                            exact p1 μ1 H1 _ Ext.refl S1 ((((Ev.mono S e1).set r1).set r2).set r3)
                          · cases he7
                        · cases hb
                      · cases he6
                    · cases hb
                  · cases he5
                · cases hb
              · exact p1.elim
            | [], r, p1 => exact (show False from p1).elim
            | [_], r, p1 => exact (show False from p1).elim
            | [_, _], r, p1 => exact (show False from p1).elim
            | _ :: _ :: _ :: _ :: _, r, p1 => exact (show False from p1).elim
          · exact p1.elim
        · cases h5
  | .unp (.nm _) e, sc, X, W, s, h, ok, G, tk => by simp [chkS] at h
  | .stx o i e, sc, X, W, s, h, ok, G, tk => by
    simp only [chkS] at h
    split at h <;> try (cases h; done)
    rename_i t f pos q0
    split at h <;> try (cases h; done)
    rename_i a b q1
    obtain rfl := asg1_eq q0
    obtain ⟨pp, rfl⟩ := sub1_eq q1
    simp only [Bool.and_eq_true, Bool.not_eq_true'] at h
    obtain ⟨⟨⟨⟨h1, h2⟩, h3⟩, h4⟩, h5⟩ := h
    simp only [okS] at ok
    have po := (soundE o sc X W _ h1 ok.1 G.toGood tk).1
    have pi := (soundE i sc X W _ h2 ok.2.1 G.toGood tk).1
    have pe := (soundE e sc X W _ h3 ok.2.2 G.toGood tk).1
    refine PS.imp (ps_asg pe (pg_sub po pi (set_any G.hw G.units) (sub_assign h4)) (sole h5) (by rfl) (by rfl)) fun D σ H q => ?_
    obtain ⟨R, μ, h, env, S, Ev, p⟩ := q
    simp only [evS] at p
    refine ⟨R, μ, h, env, S, Ev, (p.inS S Ev).imp fun v h1 μ1 H1 e1 S1 p1 vv rv => ?_⟩
    have Ev1 := Ev.mono S e1
    refine ⟨R, μ1, h1, env, S1, Ev1, (p1.inS S1 Ev1).imp fun x h2 μ2 H2 e2 S2 p2 xv rx => ?_⟩
    have Ev2 := Ev1.mono S1 e2
    refine ⟨R, μ2, h2, env, S2, Ev2, (p2.inS S2 Ev2).imp fun y h3 μ3 H3 e3 S3 p3 yv ry => ?_⟩
    have Ev3 := Ev2.mono S2 e3
    split at p3
    · rename_i h4 q
      exact ⟨R, μ3, _, _, _, _, _, S3, Rep.mono S2 e3 _ _ rx, ry, Rep.mono S2 e3 _ _ (Rep.mono S1 e2 _ _ rv), q, fun H' e' S' => p3 _ _ _ e' S' (Ev3.mono S3 e')⟩
    · exact p3.elim
  | .exp e, sc, X, W, s, h, ok, G, tk => by
    simp only [chkS] at h
    split at h <;> try (cases h; done)
    rename_i f q0
    obtain ⟨pos, rfl⟩ := exp1_eq q0
    simp only [Bool.and_eq_true, Bool.not_eq_true'] at h
    simp only [okS] at ok
    refine PS.imp (ps_expr (soundE e sc X W _ h.1 ok G.toGood tk).1 (swaps_none h.2)) fun D σ H q => ?_
    obtain ⟨R, μ, h, env, S, Ev, p⟩ := q
    simp only [evS] at p
    exact ⟨R, μ, h, env, S, Ev, (p.inS S Ev).imp fun d h1 μ1 H1 e1 S1 p1 v r => p1 μ1 H1 σ Ext.refl S1 (Ev.mono S e1)⟩
  | .ret e, sc, X, W, s, h, ok, G, tk => by
    simp only [chkS] at h
    split at h <;> try (cases h; done)
    rename_i f q0
    obtain ⟨pos, rfl⟩ := ret1_eq q0
    simp only [okS] at ok
    refine PS.imp (ps_ret (soundE e sc X W _ h ok G.toGood tk).1) fun D σ H q => ?_
    obtain ⟨R, μ, h, env, S, Ev, p⟩ := q
    simp only [evS] at p
    exact ⟨R, μ, h, env, S, Ev, (p.inS S Ev).imp fun d h1 μ1 H1 e1 S1 p1 v r => p1 μ1 H1 v Ext.refl S1 r⟩
  | .retN, sc, X, W, s, h, ok, G, tk => by
    simp only [chkS] at h
    split at h <;> try (cases h; done)
    rename_i q0
    obtain ⟨pos, rfl⟩ := ret1_eq q0
    refine PS.imp ps_retN fun D σ H q => ?_
    obtain ⟨R, μ, h, env, S, Ev, p⟩ := q
    simp only [evS] at p
    exact p μ H .non Ext.refl S (repN.mpr rfl)
  | .ifs c a b, sc, X, W, s, h, ok, G, tk => by
    simp only [chkS] at h
    split at h <;> try (cases h; done)
    rename_i t x y q0
    obtain ⟨pos, rfl⟩ := if1_eq q0
    simp only [Bool.and_eq_true] at h
    simp only [okS] at ok
    refine PS.imp (ps_if (soundE c sc X W _ h.1.1 ok.1 G.toGood tk).2 (soundSs a sc X W _ h.1.2 ok.2.1 G tk) (soundSs b sc X W _ h.2 ok.2.2 G tk)) fun D σ H q => ?_
    obtain ⟨R, μ, h, env, S, Ev, p⟩ := q
    simp only [evS] at p
    refine ⟨R, μ, h, env, S, Ev, (p.inS S Ev).imp fun k h1 μ1 H1 e1 S1 p1 => ?_⟩
    cases k with
    | true => exact ⟨R, μ1, h1, env, S1, Ev.mono S e1, p1⟩
    | false => exact ⟨R, μ1, h1, env, S1, Ev.mono S e1, p1⟩
  | .for_ t it b, sc, X, W, s, h, ok, G, tk => by
    simp only [chkS] at h
    split at h <;> try (cases h; done)
    rename_i tg iter x q0
    obtain ⟨pos, rfl⟩ := for1_eq q0
    simp only [Bool.and_eq_true, Bool.not_eq_true'] at h
    obtain ⟨⟨⟨⟨h1, h2⟩, h3⟩, h4⟩, h5⟩ := h
    simp only [okS] at ok
    exact PS.imp (ps_for G.own G.calm (soundI it sc X W tg _ h2 h5 ok.1 G.toGood tk) (pg_ok (st := locB sc) G.nd G.calm (fun x hx => ⟨locB_ok hx G.hsc, .inl (G.fn _)⟩) t tg h1) (soundSs b sc X W _ h4 ok.2 G tk) (setIter h3)) fun D σ H q => for_rd q
  | .whl c b, sc, X, W, s, h, ok, G, tk => by
    simp only [chkS] at h
    split at h <;> try (cases h; done)
    rename_i t x q0
    obtain ⟨pos, rfl⟩ := whl1_eq q0
    simp only [Bool.and_eq_true] at h
    simp only [okS] at ok
    exact PS.imp (ps_while G.own (soundE c sc X W _ h.1 ok.1 G.toGood tk).2 (soundSs b sc X W _ h.2 ok.2 G tk)) fun D σ H q => whl_rd q
  | .rai x, sc, X, W, s, h, ok, G, tk => by
    simp only [chkS] at h
    split at h <;> try (cases h; done)
    rename_i e q0
    obtain ⟨pos, rfl⟩ := rai1_eq q0
    simp only [Bool.and_eq_true, decide_eq_true_eq] at h
    obtain ⟨⟨h1, h2⟩, h3⟩ := h
    obtain ⟨p, m, j, p2, pos2, rfl⟩ := raiE_eq h1
    simp only [okS] at ok
    obtain ⟨C, c1, c2, c3, c4, c5⟩ := ok.ex
    refine PS.imp (ps_raise G.calm tk (pmk_own PySem.F.excBase_ValueError c2 c1 c3 (raises_own c4 c5) (glB_ok h2 G.hsc) (noDbg_ok h3).1)) fun D σ H q => ?_
    obtain ⟨R, μ, h, env, S, Ev, p⟩ := q
    simp only [evS] at p
    exact p μ H σ (.ref C) none Ext.refl S Ev ⟨C, c1, rfl, rfl⟩
  | .tryS xs b hs, sc, X, W, s, h, ok, G, tk => by
    simp only [chkS] at h
    split at h <;> try (cases h; done)
    rename_i x hds q0
    obtain ⟨pos, rfl⟩ := try1_eq q0
    simp only [Bool.and_eq_true] at h
    obtain ⟨⟨h1, h2⟩, h3⟩ := h
    simp only [okS] at ok
    cases hds with
    | nil => simp at h1
    | cons hd hds =>
      obtain ⟨l, L1, L2'⟩ := handlers_ok (W := W) G h3 ok.2.2
      refine PS.imp (ps_try_many (Wout := W) (tb := fun W' => rdSs X W' F b) G.stk G.fr tk (fun W' pn xe tk' hp => soundSs b sc (X.tr pn xe) W' x h2 ok.1 (G.tr pn xe hp) tk') L1) fun D σ H q => ?_
      obtain ⟨R, μ, h, env, S, Ev, p⟩ := q
      simp only [evS] at p
      refine ⟨R, μ, h, env, S, Ev, ?_⟩
      show PostS _ _ _ _ _ _ _ _ (evSs F b env h)
      cases q1 : evSs F b env h with
      | no => simp only [q1] at p; exact p.elim
      | nx e h2 => simp only [q1] at p; exact p
      | ct e h2 => simp only [q1] at p; exact p
      | bk e h2 => simp only [q1] at p; exact p
      | rt d h2 => simp only [q1] at p; exact p
      | ex x e h2 =>
        simp only [q1] at p
        intro μ5 H5 σ5 cls dx e5 S5 r5 rx
        split at p
        · rename_i hx
          exact L2' xs x D R μ5 H5 h2 e σ5 cls dx ok.2.1 (by simpa using hx) S5 r5 rx (p.later e5 S5)
        · exact p.elim
  | .pas, sc, X, W, s, h, ok, G, tk => by
    cases s <;> simp [chkS, smp1] at h
    refine PS.imp ps_pass fun D σ H q => ?_
    obtain ⟨R, μ, h, env, S, Ev, p⟩ := q
    exact p μ H σ Ext.refl S Ev
  | .brk, sc, X, W, s, h, ok, G, tk => by
    cases s <;> simp [chkS, smp1] at h
    refine PS.imp ps_break fun D σ H q => ?_
    obtain ⟨R, μ, h, env, S, Ev, p⟩ := q
    exact p μ H σ Ext.refl S Ev
  | .cnt, sc, X, W, s, h, ok, G, tk => by
    cases s <;> simp [chkS, smp1] at h
    refine PS.imp ps_continue fun D σ H q => ?_
    obtain ⟨R, μ, h, env, S, Ev, p⟩ := q
    exact p μ H σ Ext.refl S Ev
  | .sat .., sc, X, W, s, h, ok, G, tk => (show False from ok).elim
  | .raiA x f e, sc, X, W, s, h, ok, G, tk => by
    simp only [chkS] at h
    split at h <;> try (cases h; done)
    rename_i r q0
    split at h <;> try (cases h; done)
    rename_i n a q1
    obtain ⟨pos, rfl⟩ := rai1_eq q0
    obtain ⟨p, cpos, rfl⟩ := raiX_eq q1
    simp only [Bool.and_eq_true, decide_eq_true_eq, Bool.not_eq_true'] at h
    obtain ⟨⟨⟨⟨rfl, h2⟩, h3⟩, h4⟩, h5⟩ := h
    simp only [okS] at ok
    have pe := (soundE e sc X W _ h4 ok.2 G.toGood tk).1
    refine PS.imp (ps_raiF ok.1 G.room G.calm tk (glB_ok h2 G.hsc) (noDbg_ok h3).1 pe (noStar_star h5)) fun D σ H q => ?_
    obtain ⟨R, μ, h, env, S, Ev, p⟩ := q
    simp only [evS] at p
    refine ⟨R, μ, h, env, S, Ev, (p.inS S Ev).imp fun d h1 μ1 H1 e1 S1 p1 v rv => ?_⟩
    intro C hC dx hdx
    have eL : Ext h1.length μ1 H1 h1.length μ1 (upd H1 dx (.xd [(f, v)])) := Ext.laid hdx
    exact p1 μ1 _ σ (.ref C) (some dx) eL (S1.laid hdx) ((Ev.mono S e1).mono S1 eL) ⟨C, hC, rfl, dx, v, rfl, upd_same, Rep.mono S1 eL _ _ rv⟩
  | .tryA b x ei f ti, sc, X, W, s, h, ok, G, tk => by
    simp only [chkS] at h
    split at h <;> try (cases h; done)
    rename_i y hds q0
    split at h <;> try (cases h; done)
    rename_i n e t e' g q1
    obtain ⟨pos, rfl⟩ := try1_eq q0
    obtain ⟨p1, p2, p3, p4, p5, p6, rfl⟩ := hndA_eq q1
    simp only [Bool.and_eq_true, decide_eq_true_eq] at h
    obtain ⟨⟨⟨⟨⟨⟨⟨⟨⟨⟨⟨rfl, h2⟩, h3⟩, rfl⟩, h5⟩, h6⟩, h7⟩, rfl⟩, h9⟩, h10⟩, h11⟩, h12⟩ := h
    simp only [okS] at ok
    obtain ⟨C, hC, T, hno, hex⟩ := ok.2.ex
    have hln : X.env.kindOf e = some .local := by
      show X.env.scope.names.lookup e = _
      rw [G.hsc]; exact h9
    have hv : Vis X.env.scope e := .inl hln
    have row (a : Addr) (oe : Obj) (cls : Value) (d : Option Addr) (pn : List (Addr × Obj)) (hz : Zc cls d oe) (hf : ∃ vs, oe.data = .fields vs) :
        PSs (X.suite a ((a, oe) :: pn)) [.Assign [.Name t p2] (.Attribute (.Name e p3) f p4) p5] (tAsg (tXf a cls d C f (tVar ei)) (gName ti)) :=
      pss_one (ps_set (X := X.suite a ((a, oe) :: pn)) G.nd h6 (locB_ok h10 G.hsc) (pe_xf T hno hz hf (pe_var (X := X.suite a ((a, oe) :: pn)) h5 hv (noDbg_ok h11).1 (noDbg_ok h11).2.1)) (by rfl) (.inl (G.fn _)))
    refine PS.imp (ps_try_as (Wout := W) (tb := fun W' => rdSs X W' F b) (ts := fun a cls d => tAsg (tXf a cls d C f (tVar ei)) (gName ti)) G.stk G.fr G.nd h5 hln ⟨glB_ok h2 G.hsc, (noDbg_ok h3).1, .inl hC⟩ tk (fun W' pn xe tk' hp => soundSs b sc (X.tr pn xe) W' y h12 ok.1 (G.tr pn xe hp) tk') row) fun D σ H q => ?_
    obtain ⟨R, μ, h, env, S, Ev, p⟩ := q
    simp only [evS] at p
    refine ⟨R, μ, h, env, S, Ev, ?_⟩
    show PostS _ _ _ _ _ _ _ _ (evSs F b env h)
    cases q1 : evSs F b env h with
    | no => simp only [q1] at p; exact p.elim
    | nx e h2 => simp only [q1] at p; exact p
    | ct e h2 => simp only [q1] at p; exact p
    | bk e h2 => simp only [q1] at p; exact p
    | rt d h2 => simp only [q1] at p; exact p
    | ex z env2 h2 =>
      simp only [q1] at p
      intro μ5 H5 σ5 cls dx e5 S5 r5 rx
      unfold handleA at p
      split at p
      · rename_i hz
        split at p
        · rename_i g d hd
          split at p
          · rename_i c
            obtain ⟨rfl, c2, c3, c4⟩ := c
            obtain ⟨C', m1, m2, m3⟩ := rx
            rw [hd] at m3
            obtain ⟨da, v, rfl, m5, m6⟩ := m3
            rw [hz] at m1
            cases hC.symm.trans m1
            subst m2
            refine ⟨true, hex, fun _ a ha => ?_, fun k => by cases k⟩
            have hlen : ei < σ5.length := by rw [← r5.len]; exact c3
            refine ⟨.ref a, List.getElem?_set_self hlen, rfl, rfl, da, _, v, rfl, m5, by simp, ?_⟩
            exact p μ5 H5 _ e5 S5 (r5.caught h7 m6)
          · exact p.elim
        · exact p.elim
      · exact p.elim
  | .bad, sc, X, W, s, h, ok, G, tk => ⟨fun pins s σ H D I q => by obtain ⟨R, μ, h, env, S, Ev, p⟩ := q; exact (show False from p).elim⟩
theorem soundSs : ∀ (cs : List S) (sc : Scope) (X : Cx) (W : WX) (ss : List Stmt), chkSs X.N sc cs ss = true → okSs (gam X k) cs → GoodS k sc X → Takes X W → PSs X ss (rdSs X W F cs)
  | [], sc, X, W, ss, h, ok, G, tk => by
    cases ss with
    | cons _ _ => simp [chkSs] at h
    | nil =>
      refine PSs.imp pss_nil fun D σ H q => ?_
      obtain ⟨R, μ, h, env, S, Ev, p⟩ := q
      exact p μ H σ Ext.refl S Ev
  | c :: cs, sc, X, W, ss, h, ok, G, tk => by
    cases ss with
    | nil => simp [chkSs] at h
    | cons s ss =>
      simp only [chkSs, Bool.and_eq_true] at h
      simp only [okSs] at ok
      refine PSs.imp (pss_cons (soundS c sc X W s h.1 ok.1 G tk) (soundSs cs sc X W ss h.2 ok.2 G tk)) fun D σ H q => ?_
      obtain ⟨R, μ, h, env, S, Ev, p⟩ := q
      simp only [evSs] at p
      refine ⟨R, μ, h, env, S, Ev, ?_⟩
      show PostS _ _ _ _ _ _ _ _ (evS F c env h)
      cases q1 : evS F c env h with
      | no => rw [q1] at p; exact p.elim
      | nx e h2 => rw [q1] at p; exact fun μ5 H5 σ5 e5 S5 r5 => ⟨R, μ5, h2, e, S5, r5, PostS.later (r := evSs F cs e h2) p e5 S5⟩
      | ct e h2 => rw [q1] at p; exact p
      | bk e h2 => rw [q1] at p; exact p
      | rt d h2 => rw [q1] at p; exact p
      | ex x e h2 => rw [q1] at p; exact p
end
end
end Ev
namespace Ev
open PySem L2
variable [Tabs]
theorem repEnv_start {K : Fg} {R : Ap} {n : Nat} {μ : Nat → Addr} {H : Hp} {N : List Str} {ds : List D} {vs : List V} (r : Reps K R n μ H ds vs) : RepEnv K R n μ H (ds.map some ++ List.replicate (N.length - ds.length) none) (L2.start N vs) := by
  have hl := r.length
  unfold L2.start
  rw [hl]
  refine ⟨by simp [hl], fun i d e => ?_⟩
  by_cases hi : i < ds.length
  · rw [List.getElem?_append_left (by simpa using hi), List.getElem?_map] at e
    cases q : ds[i]? with
    | none => rw [q] at e; cases e
    | some d' =>
      rw [q] at e
      cases e
      obtain ⟨v, q1, q2⟩ := r.get q
      exact ⟨v, by rw [List.getElem?_append_left (by rw [List.length_map]; omega), List.getElem?_map, q1]; rfl, q2⟩
  · rw [List.getElem?_append_right (by simpa using Nat.le_of_not_lt hi), List.getElem?_replicate] at e
    split at e <;> cases e
/-- a def keeps its promise -/
theorem fn_ok {P : Program} {w : World} {K : Fg} {mg : Mg} {base : Heap} {k m : Nat} {x qual : Str} {st : Stmt} {f : Addr} {fd : FuncData} {N ps : List Str} {b : List S} {Sp : Fn} (F : L2.Fun K x qual st f fd) (S : FnScope N ps (defScope st)) (hm : ps.length = m)
    (nb : ∀ x ∈ BN, mg x = none) (hw : Tabs.w = w) (hc : chkSs N (defScope st) b (defBody st) = true) (ok : okSs ⟨P, w, K, mg, base, k⟩ b)
    (run : ∀ (args : List D) (h : LH), args.length = m → Sp args h = .no ∨ ∃ F, Fin h (runF F N.length b args h) (Sp args h)) : FnOk P w K mg base (L2.CX P w) (k + 1) f fd ps (spD K mg m Sp) := by
  refine F.okX S (fun vs H Q E hsp => ?_) (fun cdv A outer s H vs Q E hr hsp => ?_)
  · obtain ⟨R, μ, h, ds, hl, _, r, _⟩ := hsp
    rw [← r.length, hl, hm]
  · obtain ⟨R, μ, h, ds, hl, Sm, r, p⟩ := hsp
    rcases run ds h hl with hno | ⟨F0, hf⟩
    · rw [hno] at p; exact p.elim
    · have G : GoodS k (defScope st) (cxOf (L2.CX P w) P w K mg base N qual (defScope st) f cdv A outer s H E) :=
        ⟨⟨S.nd, rfl, rfl, hr, nb, hw⟩, passes_of rfl, rfl, rfl, fun _ => rfl, S.kind⟩
      refine ⟨_, soundSs (F := F0) b (defScope st) (cxOf (L2.CX P w) P w K mg base N qual (defScope st) f cdv A outer s H E) (fun cls d _ H => E cls d H) (defBody st) hc ok G (takes_of rfl rfl rfl rfl), R, μ, h, _, Sm, repEnv_start r, ?_⟩
      have p2 := hf.post Sm p
      unfold runF at p2
      show PostS _ _ _ _ _ _ _ _ (evSs F0 b (ds.map some ++ List.replicate (N.length - ds.length) none) h)
      cases q : evSs F0 b (ds.map some ++ List.replicate (N.length - ds.length) none) h with
      | no => rw [q] at p2; exact p2.elim
      | nx e h1 => rw [q] at p2; exact fun μ' H' σ' e' S' r' => p2 μ' H' e' S' _ (repN.mpr rfl)
      | rt d h1 => rw [q] at p2; exact fun μ' H' v e' S' r' => p2 μ' H' e' S' v r'
      | ex x e h1 => rw [q] at p2; exact fun μ' H' σ' cls dx e' S' _ rx => p2 μ' H' cls dx e' S' rx
      | bk e h1 => rw [q] at p2; exact p2.elim
      | ct e h1 => rw [q] at p2; exact p2.elim
/-- .. with defaults -/
theorem fn_okD {P : Program} {w : World} {K : Fg} {mg : Mg} {base : Heap} {k m : Nat} {x qual : Str} {st : Stmt} {f : Addr} {fd : FuncData} {N ps : List Str} {b : List S} {Sp : Fn} {dvs : List V} (F : L2.FunD K x qual (defArgs st) (defBody st) (defScope st) dvs [] f fd) (S : FnScope N ps (defScope st)) (hm : ps.length = m)
    (nb : ∀ x ∈ BN, mg x = none) (hw : Tabs.w = w) (hc : chkSs N (defScope st) b (defBody st) = true) (ok : okSs ⟨P, w, K, mg, base, k⟩ b)
    (run : ∀ (args : List D) (h : LH), args.length = m → Sp args h = .no ∨ ∃ F, Fin h (runF F N.length b args h) (Sp args h)) : FnOk P w K mg base (L2.CX P w) (k + 1) f fd ps (spD K mg m Sp) := by
  refine F.ok S (fun vs H Q E hsp => ?_) (fun cdv A outer s H vs Q E hr hsp => ?_)
  · obtain ⟨R, μ, h, ds, hl, _, r, _⟩ := hsp
    rw [← r.length, hl, hm]
  · obtain ⟨R, μ, h, ds, hl, Sm, r, p⟩ := hsp
    rcases run ds h hl with hno | ⟨F0, hf⟩
    · rw [hno] at p; exact p.elim
    · have G : GoodS k (defScope st) (cxOf (L2.CX P w) P w K mg base N qual (defScope st) f cdv A outer s H E) :=
        ⟨⟨S.nd, rfl, rfl, hr, nb, hw⟩, passes_of rfl, rfl, rfl, fun _ => rfl, S.kind⟩
      refine ⟨_, soundSs (F := F0) b (defScope st) (cxOf (L2.CX P w) P w K mg base N qual (defScope st) f cdv A outer s H E) (fun cls d _ H => E cls d H) (defBody st) hc ok G (takes_of rfl rfl rfl rfl), R, μ, h, _, Sm, repEnv_start r, ?_⟩
      have p2 := hf.post Sm p
      unfold runF at p2
      show PostS _ _ _ _ _ _ _ _ (evSs F0 b (ds.map some ++ List.replicate (N.length - ds.length) none) h)
      cases q : evSs F0 b (ds.map some ++ List.replicate (N.length - ds.length) none) h with
      | no => rw [q] at p2; exact p2.elim
      | nx e h1 => rw [q] at p2; exact fun μ' H' σ' e' S' r' => p2 μ' H' e' S' _ (repN.mpr rfl)
      | rt d h1 => rw [q] at p2; exact fun μ' H' v e' S' r' => p2 μ' H' e' S' v r'
      | ex x e h1 => rw [q] at p2; exact fun μ' H' σ' cls dx e' S' _ rx => p2 μ' H' cls dx e' S' rx
      | bk e h1 => rw [q] at p2; exact p2.elim
      | ct e h1 => rw [q] at p2; exact p2.elim
omit [Tabs] in
/-- the law's own promise: True for every script -/
def spLaw (K : Fg) : Sp := fun vs H Q _ => ∃ (a : Addr) (ns : List Int), vs = [.ref a] ∧ SqL K H a (ns.map V.int) ∧ Only H ∧ ns.length ≤ 63 ∧ ∀ H', Q (.bl true) H'
omit [Tabs] in
def fnLaw : Fn := fun ds h => match ds, h with
  | [.scr ns], [] => if ns.length ≤ 63 then .ok (.bl true) [] else .no
  | _, _ => .no
theorem law_imp {P : Program} {w : World} {K : Fg} {mg : Mg} {base : Heap} {k : Nat} {f : Addr} {fd : FuncData} {ps : List Str} (F : FnOk P w K mg base (L2.CX P w) k f fd ps (spD K mg 1 fnLaw)) : FnOk P w K mg base (L2.CX P w) k f fd ps (spLaw K) := by
  refine F.imp fun vs H Q E hsp => ?_
  obtain ⟨a, ns, rfl, sq, ho, hl, q⟩ := hsp
  refine ⟨fun _ => False, fun _ => 0, [], [.scr ns], rfl, ⟨fun l hl => absurd hl (Nat.not_lt_zero _), fun a r => r.elim, fun i j hi => absurd hi (Nat.not_lt_zero _), fun l o e => by simp at e⟩, reps1.mpr ⟨.ref a, rfl, ?_⟩, ?_⟩
  · simp only [Rep]
    refine ⟨a, rfl, ?_⟩
    rcases sq with sq | sq
    · rcases ho a with z | ⟨o, xs, z⟩
      · rcases sq with sq | ⟨_, sq⟩ <;> (rw [z] at sq; cases sq)
      · rcases sq with sq | ⟨o', sq⟩
        · rw [z] at sq; cases sq
        · exact .inl ⟨o', sq⟩
    · exact .inr sq
  · unfold fnLaw
    simp only
    rw [if_pos hl]
    intro μ' H' _ _ v r
    cases repB.mp r
    exact q H'
end Ev
noncomputable section
namespace Ev
open PySem L2
variable {α β : Type} {h : LH} {env : Env} {m : Bool} {F : Nat}
@[simp] theorem b_ok {a : α} {f : α → LH → Res β} : (Res.ok a h).bind f = f a h := (rfl)
@[simp] theorem bind_ex {x : Exn} {f : α → LH → Res β} : (Res.ex x h).bind f = .ex x h := (rfl)
@[simp] theorem bind_no {f : α → LH → Res β} : (Res.no : Res α).bind f = .no := (rfl)
@[simp] theorem inS_ok {a : α} {f : α → LH → RS} : (Res.ok a h).inS env f = f a h := (rfl)
@[simp] theorem inS_ex {x : Exn} {f : α → LH → RS} : (Res.ex x h).inS env f = .ex x env h := (rfl)
@[simp] theorem inS_no {f : α → LH → RS} : (Res.no : Res α).inS env f = .no := (rfl)
@[simp] theorem seq_nx {f : Env → LH → RS} : (RS.nx env h).seq f = f env h := (rfl)
@[simp] theorem seq_rt {f : Env → LH → RS} {d : D} : (RS.rt d h).seq f = .rt d h := (rfl)
@[simp] theorem seq_bk {f : Env → LH → RS} : (RS.bk env h).seq f = .bk env h := (rfl)
@[simp] theorem seq_ct {f : Env → LH → RS} : (RS.ct env h).seq f = .ct env h := (rfl)
@[simp] theorem seq_ex {f : Env → LH → RS} {x : Exn} : (RS.ex x env h).seq f = .ex x env h := (rfl)
@[simp] theorem seq_no {f : Env → LH → RS} : (RS.no).seq f = .no := (rfl)
/-- a def's end -/
def fin : RS → Res D
  | .nx _ h1 => .ok .non h1
  | .rt d h1 => .ok d h1
  | .ex x _ h1 => .ex x h1
  | _ => .no
@[simp] theorem fin_nx : fin (.nx env h) = .ok .non h := (rfl)
@[simp] theorem fin_rt {d : D} : fin (.rt d h) = .ok d h := (rfl)
@[simp] theorem fin_ex {x : Exn} : fin (.ex x env h) = .ex x h := (rfl)
@[simp] theorem fin_no : fin .no = .no := (rfl)
theorem runF_eq {n : Nat} {b : List S} {args : List D} : runF F n b args h = fin (evSs F b (args.map some ++ List.replicate (n - args.length) none) h) := by
  unfold runF fin
  cases evSs F b (args.map some ++ List.replicate (n - args.length) none) h <;> rfl
@[simp] theorem asL_lst {ds : List D} : asL h (.lst ds) = some ds := (rfl)
theorem asL_loc {n : Nat} {ds : List D} (e : h[n]? = some (.lst ds)) : asL h (.loc n) = some ds := by simp only [asL, e]
@[simp] theorem asL_tup {ds : List D} : asL h (.tup ds) = none := (rfl)
@[simp] theorem asL_str {x : Str} : asL h (.str x) = none := (rfl)
@[simp] theorem asL_int {x : Int} : asL h (.int x) = none := (rfl)
@[simp] theorem asL_bl {x : Bool} : asL h (.bl x) = none := (rfl)
@[simp] theorem asL_non : asL h .non = none := (rfl)
@[simp] theorem asS_tup {ds : List D} : asS h (.tup ds) = some ds := (rfl)
@[simp] theorem asS_lst {ds : List D} : asS h (.lst ds) = some ds := (rfl)
theorem asS_loc {n : Nat} {ds : List D} (e : h[n]? = some (.lst ds)) : asS h (.loc n) = some ds := by simp only [asS, asL, e]
@[simp] theorem truthy_non : truthy h .non = some false := (rfl)
@[simp] theorem truthy_bl {b : Bool} : truthy h (.bl b) = some b := (rfl)
@[simp] theorem truthy_int {i : Int} : truthy h (.int i) = some (i != 0) := (rfl)
@[simp] theorem truthy_tup {ds : List D} : truthy h (.tup ds) = some (!ds.isEmpty) := (rfl)
@[simp] theorem truthy_lst {ds : List D} : truthy h (.lst ds) = some (!ds.isEmpty) := (rfl)
theorem truthy_loc {n : Nat} {ds : List D} (e : h[n]? = some (.lst ds)) : truthy h (.loc n) = some (!ds.isEmpty) := by simp only [truthy, asL, e]
theorem truthy_str {x : Str} (e : x.length ≤ sizeLine) : truthy h (.str x) = some ((x.length : Int) != 0) := by simp only [truthy, e, if_true]
@[simp] theorem alloc_t {ds : List D} : alloc true ds h = .ok (.loc h.length) (h ++ [.lst ds]) := (rfl)
@[simp] theorem alloc_f {ds : List D} : alloc false ds h = .ok (.lst ds) h := (rfl)
@[simp] theorem lenD_tup {ds : List D} : lenD h (.tup ds) = some ((ds.length : Nat) : Int) := (rfl)
@[simp] theorem lenD_lst {ds : List D} : lenD h (.lst ds) = some ((ds.length : Nat) : Int) := (rfl)
@[simp] theorem lenD_scr {ds : List Int} : lenD h (.scr ds) = some ((ds.length : Nat) : Int) := (rfl)
theorem lenD_loc {n : Nat} {ds : List D} (e : h[n]? = some (.lst ds)) : lenD h (.loc n) = some ((ds.length : Nat) : Int) := by simp only [lenD, asL, e]
theorem lenD_str {x : Str} (e : x.length ≤ sizeLine) : lenD h (.str x) = some ((x.length : Nat) : Int) := by simp only [lenD, e, if_true]
@[simp] theorem add_int {i j : Int} : opBin .Add m (.int i) (.int j) h = .ok (.int (i + j)) h := (rfl)
@[simp] theorem sub_int {i j : Int} : opBin .Sub m (.int i) (.int j) h = .ok (.int (i - j)) h := (rfl)
@[simp] theorem mul_int {i j : Int} : opBin .Mult m (.int i) (.int j) h = if (-(2 ^ 64) < i ∧ i < 2 ^ 64) ∨ (-(2 ^ 64) < j ∧ j < 2 ^ 64) then .ok (.int (i * j)) h else .no := (rfl)
@[simp high] theorem mul_lr {i : Int} {n : Nat} (e : n < 18446744073709551616) : opBin .Mult m (.int i) (.int (no_index (OfNat.ofNat n))) h = .ok (.int (i * OfNat.ofNat n)) h := by
  have q : (OfNat.ofNat n : Int) = (n : Int) := (rfl)
  rw [mul_int, if_pos (.inr (by rw [q]; omega))]
@[simp high] theorem mul_ll {i : Int} {n : Nat} (e : n < 18446744073709551616) : opBin .Mult m (.int (no_index (OfNat.ofNat n))) (.int i) h = .ok (.int (OfNat.ofNat n * i)) h := by
  have q : (OfNat.ofNat n : Int) = (n : Int) := (rfl)
  rw [mul_int, if_pos (.inl (by rw [q]; omega))]
@[simp] theorem mul_tup {ds : List D} {k : Int} : opBin .Mult m (.tup ds) (.int k) h = if ds ≠ [] ∧ 2 ≤ k ∧ k ≤ 1000 ∧ ds.length ≤ 1000 then .ok (.tup (List.replicate k.toNat ds).flatten) h else .no := (rfl)
@[simp] theorem div_int {i j : Int} : opBin .FloorDiv m (.int i) (.int j) h = if 0 < j ∧ j.natAbs.log2 < 9000 then .ok (.int (i / j)) h else .no := (rfl)
@[simp] theorem mod_int {i j : Int} : opBin .Mod m (.int i) (.int j) h = if 0 < j then .ok (.int (i % j)) h else .no := (rfl)
@[simp] theorem pow_int {i j : Int} : opBin .Pow m (.int i) (.int j) h = if 0 ≤ j ∧ j ≤ 1000000 ∧ i.natAbs < 2 ^ 64 then .ok (.int (i ^ j.toNat)) h else .no := (rfl)
@[simp] theorem add_str {x y : Str} : opBin .Add m (.str x) (.str y) h = if x.length + y.length ≤ sizeLine then .ok (.str (x ++ y)) h else .no := (rfl)
@[simp] theorem add_tup {x y : List D} : opBin .Add m (.tup x) (.tup y) h = if x.length + y.length ≤ sizeLine then .ok (.tup (x ++ y)) h else .no := (rfl)
@[simp] theorem add_lst {x y : List D} : opBin .Add m (.lst x) (.lst y) h = if x.length + y.length ≤ sizeLine then alloc m (x ++ y) h else .no := (rfl)
@[simp] theorem cmp_eq {a b : D} : opCmp .Eq a b h = match eqD h a b with | some k => .ok (.bl k) h | none => .no := (rfl)
@[simp] theorem cmp_ne {a b : D} : opCmp .NotEq a b h = match eqD h a b with | some k => .ok (.bl (!k)) h | none => .no := (rfl)
@[simp] theorem cmp_in {a b : D} : opCmp .In a b h = match inD h a b with | some k => .ok (.bl k) h | none => .no := (rfl)
@[simp] theorem cmp_ni {a b : D} : opCmp .NotIn a b h = match inD h a b with | some k => .ok (.bl (!k)) h | none => .no := (rfl)
@[simp] theorem cmp_lt {i j : Int} : opCmp .Lt (.int i) (.int j) h = .ok (.bl (decide (i < j))) h := (rfl)
@[simp] theorem cmp_le {i j : Int} : opCmp .LtE (.int i) (.int j) h = .ok (.bl (decide (i ≤ j))) h := (rfl)
@[simp] theorem cmp_gt {i j : Int} : opCmp .Gt (.int i) (.int j) h = .ok (.bl (decide (j < i))) h := (rfl)
@[simp] theorem cmp_ge {i j : Int} : opCmp .GtE (.int i) (.int j) h = .ok (.bl (decide (j ≤ i))) h := (rfl)
def isNon : D → Bool | .non => true | _ => false
@[simp] theorem isNon1 : isNon .non = true := (rfl)
@[simp] theorem isNon2 {i : Int} : isNon (.int i) = false := (rfl)
@[simp] theorem isNon3 {i : Bool} : isNon (.bl i) = false := (rfl)
@[simp] theorem isNon4 {i : Str} : isNon (.str i) = false := (rfl)
@[simp] theorem isNon5 {i : List D} : isNon (.tup i) = false := (rfl)
@[simp] theorem isNon6 {i : List D} : isNon (.lst i) = false := (rfl)
@[simp] theorem isNon7 {i : Nat} : isNon (.loc i) = false := (rfl)
@[simp] theorem cmp_is {a : D} : opCmp .Is a .non h = .ok (.bl (isNon a)) h := by cases a <;> rfl
@[simp] theorem cmp_isn {a : D} : opCmp .IsNot a .non h = .ok (.bl (!isNon a)) h := by cases a <;> rfl
theorem eqD_of {a b : D} {x y : PyData} (e1 : pdT h a = some x) (e2 : pdT h b = some y) (s1 : SeqAt.shaped x = true) (s2 : SeqAt.shaped y = true) : eqD h a b = some (PyData.eqv x y) := by simp only [eqD, eqP, e1, e2, s1, s2, and_self, if_true]
@[simp] theorem eqD_int {i j : Int} : eqD h (.int i) (.int j) = some (decide (i = j)) := (rfl)
@[simp] theorem idx_tup {ds : List D} {k : Int} : opIdx (.tup ds) (.int k) h = match atI ds k with | some d => .ok d h | none => .no := (rfl)
@[simp] theorem idx_lst {ds : List D} {k : Int} : opIdx (.lst ds) (.int k) h = match atI ds k with | some d => .ok d h | none => .no := (rfl)
@[simp] theorem idx_scr {ds : List Int} {k : Int} : opIdx (.scr ds) (.int k) h = match atI ds k with | some d => .ok (.int d) h | none => .no := (rfl)
theorem idx_loc {n : Nat} {ds : List D} {k : Int} (e : h[n]? = some (.lst ds)) : opIdx (.loc n) (.int k) h = match atI ds k with | some d => .ok d h | none => .no := by simp only [opIdx, opIdxS, asD, asL, e] <;> rfl
theorem idx_str {x : Str} {k : Int} (e : x.length ≤ sizeLine) : opIdx (.str x) (.int k) h = match atI x.cps.toList k with | some c => .ok (.str ⟨#[c]⟩) h | none => .no := by simp only [opIdx, opIdxS, asD, e, if_true] <;> rfl
theorem atI_nat {α : Type} {xs : List α} {k : Nat} {x : α} (e : xs[k]? = some x) : atI xs (k : Int) = some x := by
  have hk := (List.getElem?_eq_some_iff.mp e).1
  have h1 : (0 : Int) ≤ (k : Int) := by omega
  have h2 : (k : Int) < (xs.length : Int) := by omega
  simp only [atI, ixN, h1, h2, if_true, Option.bind_some, Int.toNat_natCast, e]
@[simp] theorem atI0 {α : Type} {x : α} {xs : List α} : atI (x :: xs) 0 = some x := atI_nat (k := 0) rfl
@[simp] theorem atI1 {α : Type} {x y : α} {xs : List α} : atI (x :: y :: xs) 1 = some y := atI_nat (k := 1) rfl
@[simp] theorem atI2 {α : Type} {x y z : α} {xs : List α} : atI (x :: y :: z :: xs) 2 = some z := atI_nat (k := 2) rfl
@[simp] theorem cut_tup {ds : List D} {lo hi : Option Int} : opCut m (.tup ds) lo hi h = .ok (.tup (cutL ds lo hi)) h := (rfl)
@[simp] theorem cut_lst {ds : List D} {lo hi : Option Int} : opCut m (.lst ds) lo hi h = alloc m (cutL ds lo hi) h := (rfl)
theorem cut_loc {n : Nat} {ds : List D} {lo hi : Option Int} (e : h[n]? = some (.lst ds)) : opCut m (.loc n) lo hi h = alloc m (cutL ds lo hi) h := by simp only [opCut, asL, e]
theorem cut_str {x : Str} {lo hi : Option Int} (e : x.length ≤ sizeLine) : opCut m (.str x) lo hi h = .ok (.str (cutS x lo hi)) h := by simp only [opCut, e, if_true]
theorem isi_in {T t : String} {d : D} (e : tyN h d = some t) (c : isiTys.contains T = true) : isiD h T d = some (t == T || (t == "bool" && T == "int")) := by simp only [isiD, e, c, if_true]
@[simp] theorem isi_s1 : isiD h "str" .non = some false := (rfl)
@[simp] theorem isi_s2 {b : Bool} : isiD h "str" (.bl b) = some false := (rfl)
@[simp] theorem isi_s3 {b : Int} : isiD h "str" (.int b) = some false := (rfl)
@[simp] theorem isi_s4 {b : Str} : isiD h "str" (.str b) = some true := (rfl)
@[simp] theorem isi_s5 {b : List D} : isiD h "str" (.tup b) = some false := (rfl)
@[simp] theorem isi_s6 {b : List D} : isiD h "str" (.lst b) = some false := (rfl)
@[simp] theorem isi_i1 : isiD h "int" .non = some false := (rfl)
@[simp] theorem isi_i2 {b : Bool} : isiD h "int" (.bl b) = some true := (rfl)
@[simp] theorem isi_i3 {b : Int} : isiD h "int" (.int b) = some true := (rfl)
@[simp] theorem isi_i4 {b : Str} : isiD h "int" (.str b) = some false := (rfl)
@[simp] theorem isi_i5 {b : List D} : isiD h "int" (.tup b) = some false := (rfl)
@[simp] theorem isi_i6 {b : List D} : isiD h "int" (.lst b) = some false := (rfl)
@[simp] theorem isi_b1 : isiD h "bool" .non = some false := (rfl)
@[simp] theorem isi_b2 {b : Bool} : isiD h "bool" (.bl b) = some true := (rfl)
@[simp] theorem isi_b3 {b : Int} : isiD h "bool" (.int b) = some false := (rfl)
@[simp] theorem isi_b4 {b : Str} : isiD h "bool" (.str b) = some false := (rfl)
@[simp] theorem isi_b5 {b : List D} : isiD h "bool" (.tup b) = some false := (rfl)
@[simp] theorem isi_b6 {b : List D} : isiD h "bool" (.lst b) = some false := (rfl)
@[simp] theorem isi_t1 : isiD h "tuple" .non = some false := (rfl)
@[simp] theorem isi_t2 {b : Bool} : isiD h "tuple" (.bl b) = some false := (rfl)
@[simp] theorem isi_t3 {b : Int} : isiD h "tuple" (.int b) = some false := (rfl)
@[simp] theorem isi_t4 {b : Str} : isiD h "tuple" (.str b) = some false := (rfl)
@[simp] theorem isi_t5 {b : List D} : isiD h "tuple" (.tup b) = some true := (rfl)
@[simp] theorem isi_t6 {b : List D} : isiD h "tuple" (.lst b) = some false := (rfl)
@[simp] theorem isi_l1 : isiD h "list" .non = some false := (rfl)
@[simp] theorem isi_l2 {b : Bool} : isiD h "list" (.bl b) = some false := (rfl)
@[simp] theorem isi_l3 {b : Int} : isiD h "list" (.int b) = some false := (rfl)
@[simp] theorem isi_l4 {b : Str} : isiD h "list" (.str b) = some false := (rfl)
@[simp] theorem isi_l5 {b : List D} : isiD h "list" (.tup b) = some false := (rfl)
@[simp] theorem isi_l6 {b : List D} : isiD h "list" (.lst b) = some true := (rfl)
@[simp] theorem bi_len {d : D} : biF .len m [d] h = match lenD h d with | some n => .ok (.int n) h | none => .no := by cases d <;> rfl
@[simp] theorem bi_int {i : Int} : biF .int1 m [.int i] h = .ok (.int i) h := (rfl)
@[simp] theorem bi_intb {i : Bool} : biF .int1 m [.bl i] h = .ok (.int (if i then 1 else 0)) h := (rfl)
theorem bi_ints {x : Str} {n : Int} (e : PySem.intText? x = some n) (l : x.length ≤ 640) : biF .int1 m [.str x] h = .ok (.int n) h := by simp only [biF, e, l, if_true]
@[simp] theorem bi_abs {i : Int} : biF .abs1 m [.int i] h = .ok (.int (if i < 0 then -i else i)) h := (rfl)
@[simp] theorem bi_min {i j : Int} : biF .min2 m [.int i, .int j] h = .ok (.int (if j < i then j else i)) h := (rfl)
@[simp] theorem bi_max {i j : Int} : biF .max2 m [.int i, .int j] h = .ok (.int (if j > i then j else i)) h := (rfl)
@[simp] theorem bi_tup {d : D} : biF .tuple1 m [d] h = match asS h d with | some l => .ok (.tup l) h | none => .no := by cases d <;> rfl
@[simp] theorem bi_lst {d : D} : biF .list1 m [d] h = match asS h d with | some l => alloc m l h | none => .no := by cases d <;> rfl
@[simp] theorem bi_all {d : D} : biF .all1 m [d] h = match (asL h d).bind boolsOf with | some bs => .ok (.bl (bs.all id)) h | none => .no := by cases d <;> rfl
@[simp] theorem bi_sum {d : D} : biF .sum1 m [d] h = match (asL h d).bind intsOf with | some bs => .ok (.int bs.sum) h | none => .no := by cases d <;> rfl
@[simp] theorem bi_str {i : Int} : biF .str1 m [.int i] h = if i.natAbs.log2 < 1920 then .ok (.str (toString i)) h else .no := (rfl)
@[simp] theorem mt_app {n : Nat} {d : D} : mtF .append m (.loc n) [d] h = match h[n]? with | some (.lst xs) => if xs.length < sizeLine then .ok .non (h.set n (.lst (xs ++ [d]))) else .no | _ => .no := (rfl)
@[simp] theorem mt_pop {n : Nat} : mtF .pop m (.loc n) [] h = match h[n]? with | some (.lst xs) => (match xs[xs.length - 1]? with | some y => .ok y (h.set n (.lst xs.dropLast)) | none => .no) | _ => .no := (rfl)
theorem mt_pop0 {n : Nat} {x : D} {xs : List D} (e : h[n]? = some (.lst (x :: xs))) : mtF .popAt m (.loc n) [.int 0] h = .ok x (h.set n (.lst xs)) := by
  have q : seqIndex? 0 (x :: xs).length = some 0 := by simp [seqIndex?]
  simp only [mtF, e, q]
  simp
@[simp] theorem mo_popAt {d : D} : mtOk .popAt h d = (asL h d).isSome := by cases d <;> rfl
@[simp] theorem mt_join {s : Str} {d : D} : mtF .join m (.str s) [d] h = match (asS h d).bind strsOf with | some ys => if (ys.map (·.length)).sum + ys.length * s.length ≤ 16777216 then .ok (.str (Txt.join s ys)) h else .no | none => .no := by cases d <;> rfl
@[simp] theorem mt_split {a b : Str} : mtF .split m (.str a) [.str b] h = if (b.length == 0) = false ∧ a.length + 2 ≤ sizeLine then alloc m ((Txt.split a b).map D.str) h else .no := (rfl)
@[simp] theorem mo_join {s : Str} : mtOk .join h (.str s) = true := (rfl)
@[simp] theorem mo_split {s : Str} : mtOk .split h (.str s) = true := (rfl)
@[simp] theorem mo_app {d : D} : mtOk .append h d = (asL h d).isSome := by cases d <;> rfl
@[simp] theorem mo_pop {d : D} : mtOk .pop h d = (asL h d).isSome := by cases d <;> rfl
@[simp] theorem bools_nil : boolsOf [] = some [] := (rfl)
@[simp] theorem bools_map {α : Type} (f : α → Bool) : ∀ l : List α, boolsOf (l.map fun x => D.bl (f x)) = some (l.map f)
  | [] => rfl
  | x :: l => by simp only [List.map_cons, boolsOf, bools_map f l]
@[simp] theorem ints_map {α : Type} (f : α → Int) : ∀ l : List α, intsOf (l.map fun x => D.int (f x)) = some (l.map f)
  | [] => rfl
  | x :: l => by simp only [List.map_cons, intsOf, ints_map f l]
@[simp] theorem strs_map {α : Type} (f : α → Str) : ∀ l : List α, strsOf (l.map fun x => D.str (f x)) = some (l.map f)
  | [] => rfl
  | x :: l => by simp only [List.map_cons, strsOf, strs_map f l]
@[simp] theorem bT_nm {i : Nat} {d : D} : bindT (.nm i) d env = if i < env.length then some (env.set i (some d)) else none := by rw [bindT]
@[simp] theorem bindT_tp {ts : List T} {ds : List D} : bindT (.tp ts) (.tup ds) env = if ts.length = ds.length then bindTs ts ds env else none := by rw [bindT]
@[simp] theorem bindTs_nil : bindTs [] [] env = some env := by rw [bindTs]
@[simp] theorem bindTs_cons {t : T} {ts : List T} {d : D} {ds : List D} : bindTs (t :: ts) (d :: ds) env = match bindT t d env with | some env' => bindTs ts ds env' | none => none := by rw [bindTs] <;> rfl
@[simp] theorem wipe_nil : wipeE env [] = env := (rfl)
@[simp] theorem wipe_cons {v : Nat} {vs : List Nat} : wipeE env (v :: vs) = (wipeE env vs).set v none := (rfl)
@[simp] theorem src_tup {ds : List D} : seqSrc h (.tup ds) = some ([], ds) := (rfl)
@[simp] theorem src_lst {ds : List D} : seqSrc h (.lst ds) = some ([], ds) := (rfl)
@[simp] theorem src_str {x : Str} : seqSrc h (.str x) = some ([], x.cps.toList.map fun c => D.str ⟨#[c]⟩) := (rfl)
theorem src_loc {n : Nat} {ds : List D} (e : h[n]? = some (.lst ds)) : seqSrc h (.loc n) = some ([(n, ds)], ds) := by simp only [seqSrc, e]
@[simp] theorem rng1 {j : Int} : rangeItems [.int j] = if -(2 ^ 62) ≤ j ∧ j < 2 ^ 62 then some ((List.range j.toNat).map fun i => D.int (i : Nat)) else none := (rfl)
@[simp] theorem rng2 {i j : Int} : rangeItems [.int i, .int j] = if -(2 ^ 62) ≤ i ∧ i < 2 ^ 62 ∧ -(2 ^ 62) ≤ j ∧ j < 2 ^ 62 then some ((List.range (j - i).toNat).map fun k => D.int (i + (k : Nat))) else none := (rfl)
def setL (h : LH) (n : Nat) (k : Int) (v : D) : Option LH := match h[n]? with | some (.lst ds) => (match ixN ds.length k with | some j => some (h.set n (.lst (ds.set j v))) | none => none) | some (.dct kvs) => (if kOk kvs (.int k) = true ∧ kvs.length < sizeLine then some (h.set n (.dct (dput kvs (.int k) v))) else none) | _ => none
@[simp] theorem set_loc {n : Nat} {k : Int} {v : D} : setSub (.loc n) (.int k) v h = setL h n k v := (rfl)
@[simp] theorem setL_eq {n : Nat} {k : Int} {v : D} {ds : List D} (e : h[n]? = some (.lst ds)) : setL h n k v = match ixN ds.length k with | some j => some (h.set n (.lst (ds.set j v))) | none => none := by simp only [setL, e] <;> rfl
theorem set_dct {n : Nat} {k v : D} {kvs : List (D × D)} (e : h[n]? = some (.dct kvs)) : setSub (.loc n) k v h = if kOk kvs k = true ∧ kvs.length < sizeLine then some (h.set n (.dct (dput kvs k v))) else none := by simp only [setSub, e]
@[simp] theorem cst_n : cstD .none = some .non := (rfl)
@[simp] theorem cst_b {b : Bool} : cstD (.bool b) = some (.bl b) := (rfl)
@[simp] theorem cst_i {b : Int} : cstD (.int b) = some (.int b) := (rfl)
@[simp] theorem cst_s {b : Str} : cstD (.str b) = some (.str b) := (rfl)
def rdv (env : Env) (h : LH) (i : Nat) : Res D := match env[i]? with | some (some d) => .ok d h | _ => .no
@[simp] theorem rdv0 {d : D} : rdv (some d :: env) h 0 = .ok d h := (rfl)
@[simp] theorem rdv_s {x : Option D} {i : Nat} : rdv (x :: env) h (i + 1) = rdv env h i := by simp only [rdv, List.getElem?_cons_succ]
def ofI : D → LH → Res D | .int i, h => .ok (.int (-i)) h | _, _ => .no
def ofN : D → LH → Res D | .bl b, h => .ok (.bl (!b)) h | _, _ => .no
@[simp] theorem ofI_int {i : Int} : ofI (.int i) h = .ok (.int (-i)) h := (rfl)
@[simp] theorem ofN_bl {i : Bool} : ofN (.bl i) h = .ok (.bl (!i)) h := (rfl)
@[simp] theorem e_var {i : Nat} : evE (.var i) env h = rdv env h i := by rw [evE] <;> rfl
@[simp] theorem e_cst {c : Const} : evE (.cst c) env h = match cstD c with | some d => .ok d h | none => .no := by rw [evE] <;> rfl
@[simp] theorem e_glob {x : Str} {d : D} : evE (.glob x d) env h = .ok d h := by rw [evE]
def kTup (ds : List D) (h1 : LH) : Res D := if ds.length ≤ sizeLine then .ok (.tup ds) h1 else .no
@[simp] theorem kTup_eq {ds : List D} : kTup ds h = if ds.length ≤ sizeLine then .ok (.tup ds) h else .no := (rfl)
@[simp] theorem e_tup {es : List E} : evE (.tup es) env h = (evEs es env h).bind kTup := by rw [evE] <;> rfl
def kLst (m : Bool) (ds : List D) (h1 : LH) : Res D := if ds.length ≤ sizeLine then alloc m ds h1 else .no
@[simp] theorem kLst_eq {ds : List D} : kLst m ds h = if ds.length ≤ sizeLine then alloc m ds h else .no := (rfl)
@[simp] theorem e_lst {es : List E} : evE (.lst m es) env h = (evEs es env h).bind (kLst m) := by rw [evE] <;> rfl
def kBin (op : Operator) (m : Bool) (b : E) (env : Env) (x : D) (h1 : LH) : Res D := (evE b env h1).bind (opBin op m x)
@[simp] theorem kBin_eq {op : Operator} {b : E} {x : D} : kBin op m b env x h = (evE b env h).bind (opBin op m x) := (rfl)
@[simp] theorem e_bin {op : Operator} {a b : E} : evE (.bin op m a b) env h = (evE a env h).bind (kBin op m b env) := by rw [evE] <;> rfl
@[simp] theorem e_neg {a : E} : evE (.neg a) env h = (evE a env h).bind ofI := by
  rw [evE]; congr 1; funext x h1; cases x <;> rfl
@[simp] theorem e_not {a : E} : evE (.not a) env h = (evE a env h).bind ofN := by
  rw [evE]; congr 1; funext x h1; cases x <;> rfl
@[simp] theorem e_and {es : List E} : evE (.and es) env h = evAnd es env h := by rw [evE]
@[simp] theorem e_or {es : List E} : evE (.or es) env h = evOr es env h := by rw [evE]
def kCmp (op : CmpOp) (b : E) (env : Env) (x : D) (h1 : LH) : Res D := (evE b env h1).bind (opCmp op x)
@[simp] theorem kCmp_eq {op : CmpOp} {b : E} {x : D} : kCmp op b env x h = (evE b env h).bind (opCmp op x) := (rfl)
@[simp] theorem e_cmp {op : CmpOp} {a b : E} : evE (.cmp op a b) env h = (evE a env h).bind (kCmp op b env) := by rw [evE] <;> rfl
def brB (f g : LH → Res D) : D → LH → Res D
  | .bl true, h => f h
  | .bl false, h => g h
  | _, _ => .no
@[simp] theorem brB_bl {f g : LH → Res D} {b : Bool} : brB f g (.bl b) h = if b = true then f h else g h := by cases b <;> rfl
def kBl (b : Bool) (h : LH) : Res D := .ok (.bl b) h
@[simp] theorem kBl_eq {b : Bool} : kBl b h = .ok (.bl b) h := (rfl)
def kChn3 (op' : CmpOp) (c : E) (env : Env) (y : D) (h3 : LH) : Res D := (evE c env h3).bind (opCmp op' y)
@[simp] theorem kChn3_eq {op' : CmpOp} {c : E} {y : D} : kChn3 op' c env y h = (evE c env h).bind (opCmp op' y) := (rfl)
def kChn2 (op op' : CmpOp) (c : E) (env : Env) (x y : D) (h2 : LH) : Res D := (opCmp op x y h2).bind (brB (kChn3 op' c env y) (kBl false))
@[simp] theorem kChn2_eq {op op' : CmpOp} {c : E} {x y : D} : kChn2 op op' c env x y h = (opCmp op x y h).bind (brB (kChn3 op' c env y) (kBl false)) := (rfl)
def kChn (op op' : CmpOp) (b c : E) (env : Env) (x : D) (h1 : LH) : Res D := (evE b env h1).bind (kChn2 op op' c env x)
@[simp] theorem kChn_eq {op op' : CmpOp} {b c : E} {x : D} : kChn op op' b c env x h = (evE b env h).bind (kChn2 op op' c env x) := (rfl)
@[simp] theorem e_chn {op op' : CmpOp} {a b c : E} : evE (.chn op op' a b c) env h = (evE a env h).bind (kChn op op' b c env) := by
  rw [evE]; congr 1; funext x h1; rw [kChn_eq]; congr 1; funext y h2; rw [kChn2_eq]; congr 1; funext k h3
  cases k <;> try rfl
  rename_i b; cases b <;> rfl
def brT (f g : LH → Res D) : Option Bool → LH → Res D
  | some true, h => f h
  | some false, h => g h
  | none, _ => .no
@[simp] theorem brT_s {f g : LH → Res D} {b : Bool} : brT f g (some b) h = if b = true then f h else g h := by cases b <;> rfl
def kIte (a b : E) (env : Env) (x : D) (h1 : LH) : Res D := brT (evE a env) (evE b env) (truthy h1 x) h1
@[simp] theorem kIte_eq {a b : E} {x : D} : kIte a b env x h = brT (evE a env) (evE b env) (truthy h x) h := (rfl)
@[simp] theorem e_ite {c a b : E} : evE (.ite c a b) env h = (evE c env h).bind (kIte a b env) := by
  rw [evE]; congr 1; funext x h1; rw [kIte_eq]
  cases truthy h1 x <;> try rfl
  rename_i b; cases b <;> rfl
def kIdx (i : E) (env : Env) (x : D) (h1 : LH) : Res D := (evE i env h1).bind (opIdx x)
@[simp] theorem kIdx_eq {i : E} {x : D} : kIdx i env x h = (evE i env h).bind (opIdx x) := (rfl)
@[simp] theorem e_idx {a i : E} : evE (.idx a i) env h = (evE a env h).bind (kIdx i env) := by rw [evE] <;> rfl
def kSlc2 (m : Bool) (hi : E) (env : Env) (x : D) (l : Option Int) (h2 : LH) : Res D := (evO hi env h2).bind (opCut m x l)
@[simp] theorem kSlc2_eq {hi : E} {x : D} {l : Option Int} : kSlc2 m hi env x l h = (evO hi env h).bind (opCut m x l) := (rfl)
def kSlc (m : Bool) (lo hi : E) (env : Env) (x : D) (h1 : LH) : Res D := (evO lo env h1).bind (kSlc2 m hi env x)
@[simp] theorem kSlc_eq {lo hi : E} {x : D} : kSlc m lo hi env x h = (evO lo env h).bind (kSlc2 m hi env x) := (rfl)
@[simp] theorem e_slc {a lo hi : E} : evE (.slc m a lo hi) env h = (evE a env h).bind (kSlc m lo hi env) := by rw [evE] <;> rfl
def kIsi (ty : String) (x : D) (h1 : LH) : Res D := match isiD h1 ty x with | some b => .ok (.bl b) h1 | none => .no
@[simp] theorem kIsi_eq {ty : String} {x : D} : kIsi ty x h = match isiD h ty x with | some b => .ok (.bl b) h | none => .no := (rfl)
@[simp] theorem e_isi {a : E} {ty : String} : evE (.isi a ty) env h = (evE a env h).bind (kIsi ty) := by rw [evE] <;> rfl
@[simp] theorem e_bui {f : Bi} {es : List E} : evE (.bui f m es) env h = (evEs es env h).bind (biF f m) := by rw [evE] <;> rfl
def kMet (f : Mt) (m : Bool) (es : List E) (env : Env) (x : D) (h1 : LH) : Res D := if mtOk f h1 x = true then (evEs es env h1).bind (mtF f m x) else .no
@[simp] theorem kMet_eq {f : Mt} {es : List E} {x : D} : kMet f m es env x h = if mtOk f h x = true then (evEs es env h).bind (mtF f m x) else .no := (rfl)
@[simp] theorem e_met {f : Mt} {o : E} {es : List E} : evE (.met f m o es) env h = (evE o env h).bind (kMet f m es env) := by rw [evE] <;> rfl
def kCal (Sp : Fn) (k : Nat) (dfl : List D) (ds : List D) (h1 : LH) : Res D := if ds.length + dfl.length = k then Sp (ds ++ dfl) h1 else .no
@[simp] theorem kCal_eq {Sp : Fn} {k : Nat} {dfl ds : List D} : kCal Sp k dfl ds h = if ds.length + dfl.length = k then Sp (ds ++ dfl) h else .no := (rfl)
@[simp] theorem e_cal {x : Str} {Sp : Fn} {k : Nat} {dfl : List D} {es : List E} : evE (.cal x Sp k dfl es) env h = (evEs es env h).bind (kCal Sp k dfl) := by rw [evE] <;> rfl
/-- a comprehension's run -/
def lcpR (own : List (Str × Nat)) (t : T) (cond : List E) (elt : E) (s : Src) (xs : List D) (env : Env) (h : LH) : Res (List D) := compLoop s (own.map (·.2)) t (fun env1 h2 => (evC cond env1 h2).bind fun b h3 =>
      if b = true then (evE elt env1 h3).bind fun d h4 => .ok (some d) h4 else .ok none h3) xs [] env h
def kLs (ds : List D) (h : LH) : Res D := .ok (.lst ds) h
@[simp] theorem kLs_eq {ds : List D} : kLs ds h = .ok (.lst ds) h := (rfl)
def kLcp (own : List (Str × Nat)) (t : T) (cond : List E) (elt : E) (env : Env) (p : Src × List D) (h1 : LH) : Res D := (lcpR own t cond elt p.1 p.2 env h1).bind kLs
@[simp] theorem kLcp_eq {own : List (Str × Nat)} {t : T} {cond : List E} {elt : E} {p : Src × List D} : kLcp own t cond elt env p h = (lcpR own t cond elt p.1 p.2 env h).bind kLs := (rfl)
@[simp] theorem e_lcp {own : List (Str × Nat)} {t : T} {it : E} {cond : List E} {elt : E} : evE (.lcp own t it cond elt) env h = (evI it env h).bind (kLcp own t cond elt env) := by rw [evE] <;> rfl
def kCons (d : D) (ds : List D) (h : LH) : Res (List D) := .ok (d :: ds) h
@[simp] theorem kCons_eq {d : D} {ds : List D} : kCons d ds h = .ok (d :: ds) h := (rfl)
def kEs (es : List E) (env : Env) (d : D) (h1 : LH) : Res (List D) := (evEs es env h1).bind (kCons d)
@[simp] theorem kEs_eq {es : List E} {d : D} : kEs es env d h = (evEs es env h).bind (kCons d) := (rfl)
@[simp] theorem es_nil : evEs [] env h = .ok [] h := by rw [evEs]
@[simp] theorem es_cons {e : E} {es : List E} : evEs (e :: es) env h = (evE e env h).bind (kEs es env) := by rw [evEs] <;> rfl
@[simp] theorem and_one {e : E} : evAnd [e] env h = evE e env h := by rw [evAnd]
@[simp] theorem and_cons {e e' : E} {es : List E} : evAnd (e :: e' :: es) env h = (evE e env h).bind (brB (evAnd (e' :: es) env) (kBl false)) := by
  rw [evAnd]
  · congr 1; funext x h1
    cases x <;> try rfl
    rename_i b; cases b <;> rfl
  · simp
@[simp] theorem or_one {e : E} : evOr [e] env h = evE e env h := by rw [evOr]
@[simp] theorem or_cons {e e' : E} {es : List E} : evOr (e :: e' :: es) env h = (evE e env h).bind (brB (kBl true) (evOr (e' :: es) env)) := by
  rw [evOr]
  · congr 1; funext x h1
    cases x <;> try rfl
    rename_i b; cases b <;> rfl
  · simp
def ofO : D → LH → Res (Option Int) | .int i, h => .ok (some i) h | _, _ => .no
@[simp] theorem ofO_int {i : Int} : ofO (.int i) h = .ok (some i) h := (rfl)
@[simp] theorem o_no : evO .noe env h = .ok none h := by rw [evO]
@[simp] theorem o_itv {e : E} : evO (.itv e) env h = (evE e env h).bind ofO := by
  rw [evO]; congr 1; funext x h1; cases x <;> rfl
def kItv (d : D) (h1 : LH) : Res (Src × List D) := match seqSrc h1 d with | some p => .ok p h1 | none => .no
@[simp] theorem kItv_eq {d : D} : kItv d h = match seqSrc h d with | some p => .ok p h | none => .no := (rfl)
@[simp] theorem i_itv {e : E} : evI (.itv e) env h = (evE e env h).bind kItv := by rw [evI] <;> rfl
def kR1 (d : D) (h1 : LH) : Res (Src × List D) := match rangeItems [d] with | some l => .ok ([], l) h1 | none => .no
@[simp] theorem kR1_eq {d : D} : kR1 d h = match rangeItems [d] with | some l => .ok ([], l) h | none => .no := (rfl)
@[simp] theorem i_rng1 {a : E} : evI (.rng [a]) env h = (evE a env h).bind kR1 := by rw [evI] <;> rfl
def kR22 (d e : D) (h1 : LH) : Res (Src × List D) := match rangeItems [d, e] with | some l => .ok ([], l) h1 | none => .no
@[simp] theorem kR22_eq {d e : D} : kR22 d e h = match rangeItems [d, e] with | some l => .ok ([], l) h | none => .no := (rfl)
def kR2 (b : E) (env : Env) (d : D) (h1 : LH) : Res (Src × List D) := (evE b env h1).bind (kR22 d)
@[simp] theorem kR2_eq {b : E} {d : D} : kR2 b env d h = (evE b env h).bind (kR22 d) := (rfl)
@[simp] theorem i_rng2 {a b : E} : evI (.rng [a, b]) env h = (evE a env h).bind (kR2 b env) := by rw [evI] <;> rfl
def kTru (d : D) (h1 : LH) : Res Bool := match truthy h1 d with | some b => .ok b h1 | none => .no
@[simp] theorem kTru_eq {d : D} : kTru d h = match truthy h d with | some b => .ok b h | none => .no := (rfl)
@[simp] theorem c_nil : evC [] env h = .ok true h := by rw [evC]
@[simp] theorem c_cons {e : E} {es : List E} : evC (e :: es) env h = (evE e env h).bind kTru := by rw [evC] <;> rfl
@[simp] theorem t_eq {e : E} : evT e env h = (evE e env h).bind kTru := (rfl)
@[simp] theorem asD_dct {ks vs : List D} : asD h (.dct ks vs) = some (ks.zip vs) := (rfl)
theorem asD_loc {n : Nat} {kvs : List (D × D)} (e : h[n]? = some (.dct kvs)) : asD h (.loc n) = some kvs := by simp only [asD, e]
theorem asD_locL {n : Nat} {ds : List D} (e : h[n]? = some (.lst ds)) : asD h (.loc n) = none := by simp only [asD, e]
@[simp] theorem asD_tup {x : List D} : asD h (.tup x) = none := (rfl)
@[simp] theorem asD_lst {x : List D} : asD h (.lst x) = none := (rfl)
@[simp] theorem asD_str {x : Str} : asD h (.str x) = none := (rfl)
theorem idx_D {d k v : D} {kvs : List (D × D)} (e : asD h d = some kvs) (ko : kOk kvs k = true) (g : dget kvs k = some v) : opIdx d k h = .ok v h := by simp only [opIdx, e, ko, g, if_true]
theorem in_D {d k : D} {kvs : List (D × D)} (e : asD h d = some kvs) (ko : kOk kvs k = true) : inD h k d = some (dget kvs k).isSome := by simp only [inD, e, ko, if_true]
theorem get_D {d k x : D} {kvs : List (D × D)} (e : asD h d = some kvs) (ko : kOk kvs k = true) : mtF .get2 m d [k, x] h = .ok ((dget kvs k).getD x) h := by simp only [mtF, e, ko, if_true]
@[simp] theorem mo_get {d : D} : mtOk .get2 h d = (asD h d).isSome := by cases d <;> rfl
@[simp] theorem mo_popK {d : D} : mtOk .popK h d = (asD h d).isSome := by cases d <;> rfl
@[simp] theorem alD {kvs : List (D × D)} : allocD kvs h = .ok (.loc h.length) (h ++ [.dct kvs]) := (rfl)
def kDsp (ds : List D) (h1 : LH) : Res D := match pairUp ds with | none => .no | some kvs => if (kvs.all fun p => keyB p.1) = true ∧ kvs.length ≤ 15 then allocD (kvs.foldl (fun acc p => dput acc p.1 p.2) []) h1 else .no
@[simp] theorem kDsp_eq {ds : List D} {kvs : List (D × D)} (e : pairUp ds = some kvs) (a : (kvs.all fun p => keyB p.1) = true) (b : kvs.length ≤ 15) : kDsp ds h = allocD (kvs.foldl (fun acc p => dput acc p.1 p.2) []) h := by simp only [kDsp, e, a, b, and_self, if_true]
@[simp] theorem pU_nil : pairUp [] = some [] := (rfl)
@[simp] theorem pU_cons {x y : D} {r : List D} : pairUp (x :: y :: r) = match pairUp r with | some l => some ((x, y) :: l) | none => none := (rfl)
@[simp] theorem kB_i {i : Int} : keyB (.int i) = true := (rfl)
@[simp] theorem kB_s {i : Str} : keyB (.str i) = true := (rfl)
theorem kOk_B {kvs : List (D × D)} {k : D} (a : keyB k = true) (b : (kvs.all fun p => keyB p.1) = true) : kOk kvs k = true := by simp only [kOk, a, b, Bool.and_self, Bool.true_or]
@[simp] theorem e_dsp {es : List E} : evE (.dsp es) env h = (evEs es env h).bind kDsp := by rw [evE] <;> rfl
def kTix2 (ds : List D) (x : D) (h2 : LH) : Res D := match strsOf ds, x with
    | some ys, .str z => match ys.idxOf? z with | some k => .ok (.int (k : Nat)) h2 | none => .no
    | _, _ => .no
theorem kTix2_eq {ds : List D} {ys : List Str} {z : Str} {k : Nat} (e : strsOf ds = some ys) (q : ys.idxOf? z = some k) : kTix2 ds (.str z) h = .ok (.int (k : Nat)) h := by simp only [kTix2, e, q]
def kTix (e : E) (env : Env) (ds : List D) (h1 : LH) : Res D := if ds.length ≤ sizeLine then (evE e env h1).bind (kTix2 ds) else .no
@[simp] theorem kTix_eq {e : E} {ds : List D} : kTix e env ds h = if ds.length ≤ sizeLine then (evE e env h).bind (kTix2 ds) else .no := (rfl)
@[simp] theorem e_tix {os : List E} {e : E} : evE (.tix os e) env h = (evEs os env h).bind (kTix e env) := by rw [evE] <;> rfl
def kLrg (m : Bool) (p : Src × List D) (h1 : LH) : Res D := if p.2.length ≤ sizeLine then alloc m p.2 h1 else .no
@[simp] theorem kLrg_eq {p : Src × List D} : kLrg m p h = if p.2.length ≤ sizeLine then alloc m p.2 h else .no := (rfl)
@[simp] theorem e_lrg {it : E} : evE (.lrg m it) env h = (evI it env h).bind (kLrg m) := by rw [evE] <;> rfl
def kRvs (m : Bool) (d : D) (h1 : LH) : Res D := match asL h1 d with | some ds => alloc m ds.reverse h1 | none => .no
@[simp] theorem kRvs_eq {d : D} : kRvs m d h = match asL h d with | some ds => alloc m ds.reverse h | none => .no := (rfl)
@[simp] theorem e_rvs {a : E} : evE (.rvs m a) env h = (evE a env h).bind (kRvs m) := by rw [evE] <;> rfl
def kR33 (d e g : D) (h3 : LH) : Res (Src × List D) := match d, e, g with
    | .int i, .int j, .int z => if z = -1 ∧ -(2 ^ 62) ≤ i ∧ i < 2 ^ 62 ∧ -(2 ^ 62) ≤ j ∧ j < 2 ^ 62 then .ok ([], rangeDown i j) h3 else .no
    | _, _, _ => .no
@[simp] theorem kR33_eq {i j z : Int} : kR33 (.int i) (.int j) (.int z) h = if z = -1 ∧ -(2 ^ 62) ≤ i ∧ i < 2 ^ 62 ∧ -(2 ^ 62) ≤ j ∧ j < 2 ^ 62 then .ok ([], rangeDown i j) h else .no := (rfl)
def kR32 (c : E) (env : Env) (d e : D) (h2 : LH) : Res (Src × List D) := (evE c env h2).bind (kR33 d e)
@[simp] theorem kR32_eq {c : E} {d e : D} : kR32 c env d e h = (evE c env h).bind (kR33 d e) := (rfl)
def kR31 (b c : E) (env : Env) (d : D) (h1 : LH) : Res (Src × List D) := (evE b env h1).bind (kR32 c env d)
@[simp] theorem kR31_eq {b c : E} {d : D} : kR31 b c env d h = (evE b env h).bind (kR32 c env d) := (rfl)
@[simp] theorem i_rng3 {a b c : E} : evI (.rng [a, b, c]) env h = (evE a env h).bind (kR31 b c env) := by rw [evI] <;> rfl
def kEnm (d : D) (h1 : LH) : Res (Src × List D) := match seqSrc h1 d with | some p => (if (asS h1 d).isSome = true then .ok (p.1, enmD p.2) h1 else .no) | none => .no
@[simp] theorem kEnm_eq {d : D} : kEnm d h = match seqSrc h d with | some p => (if (asS h d).isSome = true then .ok (p.1, enmD p.2) h else .no) | none => .no := (rfl)
@[simp] theorem i_enm {a : E} : evI (.enm a) env h = (evE a env h).bind kEnm := by rw [evI] <;> rfl
def kZp2 (d e : D) (h2 : LH) : Res (Src × List D) := match seqSrc h2 d, seqSrc h2 e with | some p, some q => (if (asS h2 d).isSome = true ∧ (asS h2 e).isSome = true then .ok (p.1 ++ q.1, zipD p.2 q.2) h2 else .no) | _, _ => .no
theorem kZp2_eq {d e : D} {p q : Src × List D} (e1 : seqSrc h d = some p) (e2 : seqSrc h e = some q) (e3 : (asS h d).isSome = true) (e4 : (asS h e).isSome = true) : kZp2 d e h = .ok (p.1 ++ q.1, zipD p.2 q.2) h := by simp only [kZp2, e1, e2, e3, e4, and_self, if_true]
def kZp1 (b : E) (env : Env) (d : D) (h1 : LH) : Res (Src × List D) := (evE b env h1).bind (kZp2 d)
@[simp] theorem kZp1_eq {b : E} {d : D} : kZp1 b env d h = (evE b env h).bind (kZp2 d) := (rfl)
@[simp] theorem i_zip {a b : E} : evI (.zip a b) env h = (evE a env h).bind (kZp1 b env) := by rw [evI] <;> rfl
def kSet (i : Nat) (env : Env) (d : D) (h1 : LH) : RS := if i < env.length then .nx (env.set i (some d)) h1 else .no
@[simp] theorem kSet_eq {i : Nat} {d : D} : kSet i env d h = if i < env.length then .nx (env.set i (some d)) h else .no := (rfl)
@[simp] theorem s_set {i : Nat} {e : E} : evS F (.set i e) env h = (evE e env h).inS env (kSet i env) := by rw [evS] <;> rfl
def kUnp (t : T) (env : Env) (d : D) (h1 : LH) : RS := match bindT t d env with | some env' => .nx env' h1 | none => .no
@[simp] theorem kUnp_eq {t : T} {d : D} : kUnp t env d h = match bindT t d env with | some env' => .nx env' h | none => .no := (rfl)
@[simp] theorem s_unp {t : T} {e : E} : evS F (.unp t e) env h = (evE e env h).inS env (kUnp t env) := by rw [evS] <;> rfl
def kStx3 (v x : D) (env : Env) (k : D) (h3 : LH) : RS := match setSub x k v h3 with | some h4 => .nx env h4 | none => .no
@[simp] theorem kStx3_eq {v x k : D} : kStx3 v x env k h = match setSub x k v h with | some h4 => .nx env h4 | none => .no := (rfl)
def kStx2 (v : D) (i : E) (env : Env) (x : D) (h2 : LH) : RS := (evE i env h2).inS env (kStx3 v x env)
@[simp] theorem kStx2_eq {v x : D} {i : E} : kStx2 v i env x h = (evE i env h).inS env (kStx3 v x env) := (rfl)
def kStx (o i : E) (env : Env) (v : D) (h1 : LH) : RS := (evE o env h1).inS env (kStx2 v i env)
@[simp] theorem kStx_eq {v : D} {o i : E} : kStx o i env v h = (evE o env h).inS env (kStx2 v i env) := (rfl)
@[simp] theorem s_stx {o i e : E} : evS F (.stx o i e) env h = (evE e env h).inS env (kStx o i env) := by rw [evS] <;> rfl
def kExp (env : Env) (_ : D) (h1 : LH) : RS := .nx env h1
@[simp] theorem kExp_eq {d : D} : kExp env d h = .nx env h := (rfl)
@[simp] theorem s_exp {e : E} : evS F (.exp e) env h = (evE e env h).inS env (kExp env) := by rw [evS] <;> rfl
@[simp] theorem s_ret {e : E} : evS F (.ret e) env h = (evE e env h).inS env RS.rt := by rw [evS]
@[simp] theorem s_retN : evS F .retN env h = .rt .non h := by rw [evS]
/-- an if's two ways -/
def br (a b : LH → RS) (k : Bool) (h : LH) : RS := if k = true then a h else b h
@[simp] theorem br_t {a b : LH → RS} : br a b true h = a h := (rfl)
@[simp] theorem br_f {a b : LH → RS} : br a b false h = b h := (rfl)
@[simp] theorem s_ifs {c : E} {a b : List S} : evS F (.ifs c a b) env h = (evT c env h).inS env (br (evSs F a env) (evSs F b env)) := by rw [evS] <;> rfl
def forR (F : Nat) (t : T) (b : List S) (s : Src) (xs : List D) (env : Env) (h : LH) : RS := forLoop s t (fun env1 h2 => evSs F b env1 h2) xs env h
def kFor (F : Nat) (t : T) (b : List S) (env : Env) (p : Src × List D) (h1 : LH) : RS := forR F t b p.1 p.2 env h1
@[simp] theorem kFor_eq {t : T} {b : List S} {p : Src × List D} : kFor F t b env p h = forR F t b p.1 p.2 env h := (rfl)
@[simp] theorem s_for {t : T} {it : E} {b : List S} : evS F (.for_ t it b) env h = (evI it env h).inS env (kFor F t b env) := by rw [evS] <;> rfl
def whR (F : Nat) (c : E) (b : List S) (n : Nat) (env : Env) (h : LH) : RS := whileLoop (fun env1 h1 => evT c env1 h1) (fun env1 h1 => evSs F b env1 h1) n env h
@[simp] theorem s_whl {c : E} {b : List S} : evS F (.whl c b) env h = whR F c b F env h := by rw [evS] <;> rfl
@[simp] theorem s_rai {x : Str} : evS F (.rai x) env h = .ex ⟨x, none⟩ env h := by rw [evS]
def kRaiA (x f : Str) (env : Env) (d : D) (h1 : LH) : RS := .ex ⟨x, some (f, d)⟩ env h1
@[simp] theorem kRaiA_eq {x f : Str} {d : D} : kRaiA x f env d h = .ex ⟨x, some (f, d)⟩ env h := (rfl)
@[simp] theorem s_raiA {x f : Str} {e : E} : evS F (.raiA x f e) env h = (evE e env h).inS env (kRaiA x f env) := by rw [evS] <;> rfl
def tryB (x : Str) (ei : Nat) (f : Str) (ti : Nat) : RS → RS
  | .ex y env1 h1 => handleA x ei f ti y env1 h1
  | r => r
@[simp] theorem tryB_nx {x f : Str} {ei ti : Nat} : tryB x ei f ti (.nx env h) = .nx env h := (rfl)
@[simp] theorem tryB_rt {x f : Str} {ei ti : Nat} {d : D} : tryB x ei f ti (.rt d h) = .rt d h := (rfl)
@[simp] theorem tryB_ex {x f : Str} {ei ti : Nat} {y : Exn} : tryB x ei f ti (.ex y env h) = handleA x ei f ti y env h := (rfl)
@[simp] theorem s_tryA {b : List S} {x f : Str} {ei ti : Nat} : evS F (.tryA b x ei f ti) env h = tryB x ei f ti (evSs F b env h) := by rw [evS] <;> rfl
def tryR (xs : List Str) (hs : List (Str × Nat × Const)) : RS → RS
  | .ex x env1 h1 => if xs.contains x.cls then handle xs hs x env1 h1 else .no
  | r => r
@[simp] theorem tryR_nx {xs : List Str} {hs : List (Str × Nat × Const)} : tryR xs hs (.nx env h) = .nx env h := (rfl)
@[simp] theorem tryR_rt {xs : List Str} {hs : List (Str × Nat × Const)} {d : D} : tryR xs hs (.rt d h) = .rt d h := (rfl)
@[simp] theorem tryR_ex {xs : List Str} {hs : List (Str × Nat × Const)} {x : Exn} : tryR xs hs (.ex x env h) = if xs.contains x.cls then handle xs hs x env h else .no := (rfl)
@[simp] theorem s_try {xs : List Str} {b : List S} {hs : List (Str × Nat × Const)} : evS F (.tryS xs b hs) env h = tryR xs hs (evSs F b env h) := by rw [evS] <;> rfl
@[simp] theorem s_pas : evS F .pas env h = .nx env h := by rw [evS]
@[simp] theorem s_brk : evS F .brk env h = .bk env h := by rw [evS]
@[simp] theorem s_cnt : evS F .cnt env h = .ct env h := by rw [evS]
@[simp] theorem ss_nil : evSs F [] env h = .nx env h := by rw [evSs]
@[simp] theorem ss_cons {s : S} {ss : List S} : evSs F (s :: ss) env h = (evS F s env h).seq (evSs F ss) := by rw [evSs]
end Ev
end
noncomputable section
namespace Ev
open PySem L2
/-- no location, no script, texts and rows of at most b, at most n deep -/
def fit (b : Nat) : Nat → D → Prop
  | _, .non => True
  | _, .bl _ => True
  | _, .int _ => True
  | _, .str x => x.length ≤ b ∧ PyData.strOk x = true
  | n + 1, .tup ds => ds.length ≤ b ∧ ∀ d ∈ ds, fit b n d
  | n + 1, .lst ds => ds.length ≤ b ∧ ∀ d ∈ ds, fit b n d
  | _, _ => False
def fitB (b : Nat) : Nat → D → Bool
  | _, .non => true
  | _, .bl _ => true
  | _, .int _ => true
  | _, .str x => decide (x.length ≤ b) && PyData.strOk x
  | n + 1, .tup ds => decide (ds.length ≤ b) && ds.all (fitB b n)
  | n + 1, .lst ds => decide (ds.length ≤ b) && ds.all (fitB b n)
  | _, _ => false
theorem fit_of : ∀ {b n : Nat} {d : D}, fitB b n d = true → fit b n d
  | b, n, .non, _ => by cases n <;> trivial
  | b, n, .bl _, _ => by cases n <;> trivial
  | b, n, .int _, _ => by cases n <;> trivial
  | b, n, .str x, h => by cases n <;> simpa [fitB, fit] using h
  | b, n + 1, .tup ds, h => by
    simp only [fitB, Bool.and_eq_true, decide_eq_true_eq, List.all_eq_true] at h
    exact ⟨h.1, fun d hd => fit_of (h.2 d hd)⟩
  | b, n + 1, .lst ds, h => by
    simp only [fitB, Bool.and_eq_true, decide_eq_true_eq, List.all_eq_true] at h
    exact ⟨h.1, fun d hd => fit_of (h.2 d hd)⟩
  | b, 0, .tup ds, h => by simp [fitB] at h
  | b, 0, .lst ds, h => by simp [fitB] at h
  | b, n, .loc _, h => by cases n <;> simp [fitB] at h
  | b, n, .scr _, h => by cases n <;> simp [fitB] at h
  | b, n, .dct _ _, h => by cases n <;> simp [fitB] at h
  | b, n, .ins _ _ _, h => by cases n <;> simp [fitB] at h
  | b, n, .clo _ _, h => by cases n <;> simp [fitB] at h
theorem fit_mono : ∀ {b b' n n' : Nat} {d : D}, b ≤ b' → n ≤ n' → fit b n d → fit b' n' d
  | b, b', n, n', .non, _, _, _ => by cases n' <;> trivial
  | b, b', n, n', .bl _, _, _, _ => by cases n' <;> trivial
  | b, b', n, n', .int _, _, _, _ => by cases n' <;> trivial
  | b, b', n, n', .str x, hb, _, h => by
    have : x.length ≤ b ∧ PyData.strOk x = true := by cases n <;> exact h
    cases n' <;> exact ⟨Nat.le_trans this.1 hb, this.2⟩
  | b, b', n + 1, n' + 1, .tup ds, hb, hn, h => ⟨Nat.le_trans h.1 hb, fun d hd => fit_mono hb (Nat.le_of_succ_le_succ hn) (h.2 d hd)⟩
  | b, b', n + 1, n' + 1, .lst ds, hb, hn, h => ⟨Nat.le_trans h.1 hb, fun d hd => fit_mono hb (Nat.le_of_succ_le_succ hn) (h.2 d hd)⟩
  | b, b', n + 1, 0, .tup ds, _, hn, _ => absurd hn (Nat.not_succ_le_zero n)
  | b, b', n + 1, 0, .lst ds, _, hn, _ => absurd hn (Nat.not_succ_le_zero n)
  | b, b', 0, n', .tup ds, _, _, h => h.elim
  | b, b', 0, n', .lst ds, _, _, h => h.elim
  | b, b', n, n', .loc _, _, _, h => by cases n <;> exact h.elim
  | b, b', n, n', .scr _, _, _, h => by cases n <;> exact h.elim
  | b, b', n, n', .dct _ _, _, _, h => by cases n <;> exact h.elim
  | b, b', n, n', .ins _ _ _, _, _, h => by cases n <;> exact h.elim
  | b, b', n, n', .clo _ _, _, _, h => by cases n <;> exact h.elim
@[simp] theorem fit_non {b n} : fit b n .non := by cases n <;> trivial
@[simp] theorem fit_bl {b n k} : fit b n (.bl k) := by cases n <;> trivial
@[simp] theorem fit_int {b n k} : fit b n (.int k) := by cases n <;> trivial
@[simp] theorem fit_str {b n x} : fit b n (.str x) ↔ x.length ≤ b ∧ PyData.strOk x = true := by cases n <;> exact Iff.rfl
@[simp] theorem fit_loc {b n k} : ¬ fit b n (.loc k) := by cases n <;> exact id
@[simp] theorem fit_scr {b n k} : ¬ fit b n (.scr k) := by cases n <;> exact id
@[simp] theorem fit_dct {b n k l} : ¬ fit b n (.dct k l) := by cases n <;> exact id
@[simp] theorem fit_ins {b n k l m} : ¬ fit b n (.ins k l m) := by cases n <;> exact id
@[simp] theorem fit_clo {b n k l} : ¬ fit b n (.clo k l) := by cases n <;> exact id
@[simp] theorem fit_tup {b n ds} : fit b (n + 1) (.tup ds) ↔ ds.length ≤ b ∧ ∀ d ∈ ds, fit b n d := Iff.rfl
@[simp] theorem fit_lst {b n ds} : fit b (n + 1) (.lst ds) ↔ ds.length ≤ b ∧ ∀ d ∈ ds, fit b n d := Iff.rfl
@[simp] theorem fit_tup0 {b ds} : ¬ fit b 0 (.tup ds) := id
@[simp] theorem fit_lst0 {b ds} : ¬ fit b 0 (.lst ds) := id
theorem fit_tup1 {b n ds} (h : fit b n (.tup ds)) : ds.length ≤ b ∧ ∀ d ∈ ds, fit b (n - 1) d := by
  cases n with
  | zero => exact h.elim
  | succ n => exact h
theorem fit_lst1 {b n ds} (h : fit b n (.lst ds)) : ds.length ≤ b ∧ ∀ d ∈ ds, fit b (n - 1) d := by
  cases n with
  | zero => exact h.elim
  | succ n => exact h
theorem all0 : ∀ {l : List PyData}, (∀ x ∈ l, x.canLay0 = true) → PyData.canLayAll0 l = true
  | [], _ => by rw [PyData.canLayAll0]
  | x :: l, h => by
    rw [PyData.canLayAll0, h x List.mem_cons_self, all0 fun y hy => h y (List.mem_cons_of_mem _ hy)]
    rfl
theorem depthAll_le {n : Nat} : ∀ {l : List PyData}, (∀ x ∈ l, x.depth ≤ n) → PyData.depthAll l ≤ n
  | [], _ => by rw [PyData.depthAll]; exact Nat.zero_le _
  | x :: l, h => by
    rw [PyData.depthAll]
    exact Nat.max_le.mpr ⟨h x List.mem_cons_self, depthAll_le fun y hy => h y (List.mem_cons_of_mem _ hy)⟩
theorem fit_pd : ∀ {b n : Nat} {d : D}, fit b n d → ∃ x, pd d = some x ∧ x.canLay0 = true ∧ x.depth ≤ n
  | b, n, .non, _ => ⟨_, rfl, by rw [PyData.canLay0], by rw [PyData.depth]; exact Nat.zero_le _⟩
  | b, n, .bl _, _ => ⟨_, rfl, by rw [PyData.canLay0], by rw [PyData.depth]; exact Nat.zero_le _⟩
  | b, n, .int _, _ => ⟨_, rfl, by rw [PyData.canLay0], by rw [PyData.depth]; exact Nat.zero_le _⟩
  | b, n, .str x, h => ⟨_, rfl, by rw [PyData.canLay0]; exact (by cases n <;> exact h : x.length ≤ b ∧ PyData.strOk x = true).2, by rw [PyData.depth]; exact Nat.zero_le _⟩
  | b, n + 1, .tup ds, h => by
    have all : ∀ es : List D, (∀ d ∈ es, fit b n d) → ∃ l, pds es = some l ∧ ∀ x ∈ l, x.canLay0 = true ∧ x.depth ≤ n := by
      intro es
      induction es with
      | nil => intro _; exact ⟨[], rfl, by simp⟩
      | cons e es ih =>
        intro he
        obtain ⟨x, e1, x1, x2⟩ := fit_pd (he e List.mem_cons_self)
        obtain ⟨l, e2, e3⟩ := ih fun d hd => he d (List.mem_cons_of_mem _ hd)
        refine ⟨x :: l, by simp only [pds, e1, e2], fun y hy => ?_⟩
        rcases List.mem_cons.mp hy with rfl | hy
        · exact ⟨x1, x2⟩
        · exact e3 y hy
    obtain ⟨l, e, p⟩ := all ds h.2
    refine ⟨.tuple l, by simp only [pd, e], ?_, ?_⟩
    · rw [PyData.canLay0]; exact all0 fun x hx => (p x hx).1
    · rw [PyData.depth]; exact Nat.succ_le_succ (depthAll_le fun x hx => (p x hx).2)
  | b, n + 1, .lst ds, h => by
    have all : ∀ es : List D, (∀ d ∈ es, fit b n d) → ∃ l, pds es = some l ∧ ∀ x ∈ l, x.canLay0 = true ∧ x.depth ≤ n := by
      intro es
      induction es with
      | nil => intro _; exact ⟨[], rfl, by simp⟩
      | cons e es ih =>
        intro he
        obtain ⟨x, e1, x1, x2⟩ := fit_pd (he e List.mem_cons_self)
        obtain ⟨l, e2, e3⟩ := ih fun d hd => he d (List.mem_cons_of_mem _ hd)
        refine ⟨x :: l, by simp only [pds, e1, e2], fun y hy => ?_⟩
        rcases List.mem_cons.mp hy with rfl | hy
        · exact ⟨x1, x2⟩
        · exact e3 y hy
    obtain ⟨l, e, p⟩ := all ds h.2
    refine ⟨.list l, by simp only [pd, e], ?_, ?_⟩
    · rw [PyData.canLay0]; exact all0 fun x hx => (p x hx).1
    · rw [PyData.depth]; exact Nat.succ_le_succ (depthAll_le fun x hx => (p x hx).2)
  | b, 0, .tup ds, h => h.elim
  | b, 0, .lst ds, h => h.elim
  | b, n, .loc _, h => by cases n <;> exact h.elim
  | b, n, .scr _, h => by cases n <;> exact h.elim
  | b, n, .dct _ _, h => by cases n <;> exact h.elim
  | b, n, .ins _ _ _, h => by cases n <;> exact h.elim
  | b, n, .clo _ _, h => by cases n <;> exact h.elim
theorem fit_pdT {b n : Nat} {d : D} {h : LH} (f : fit b n d) : pdT h d = pd d := by
  cases d <;> first | rfl | simp at f
theorem fit_shaped {b n : Nat} {d : D} (hn : n ≤ 64) (f : fit b n d) : ∃ x, pd d = some x ∧ SeqAt.shaped x = true := by
  obtain ⟨x, e, a, c⟩ := fit_pd f
  exact ⟨x, e, by simp only [SeqAt.shaped, a, Bool.true_and, decide_eq_true_eq]; omega⟩
def Sat (r : Res D) (Q : D → LH → Prop) : Prop := ∃ d h, r = .ok d h ∧ Q d h
theorem compLoop_pure {s : Src} {own : List Nat} {t : T} {f : Env → LH → Res (Option D)} {env : Env} {h : LH} (so : SrcOk s h) (g : D → Option D) : ∀ (xs acc : List D), (∀ x ∈ xs, ∃ env1, bindT t x (wipeE env own) = some env1 ∧ f env1 h = .ok (g x) h) → acc.length + xs.length ≤ sizeLine → compLoop s own t f xs acc env h = .ok (acc ++ xs.filterMap g) h
  | [], acc, _, _ => by simp [compLoop, so]
  | x :: xs, acc, H, hl => by
    obtain ⟨env1, e1, e2⟩ := H x List.mem_cons_self
    have hl2 : acc.length < sizeLine := by simp only [List.length_cons] at hl; omega
    simp only [compLoop, so, hl2, and_self, if_true, e1, e2]
    cases q : g x with
    | none =>
      simp only
      rw [compLoop_pure so g xs acc (fun y hy => H y (List.mem_cons_of_mem _ hy)) (by simp only [List.length_cons] at hl; omega)]
      simp [List.filterMap_cons, q]
    | some d =>
      simp only
      rw [compLoop_pure so g xs (acc ++ [d]) (fun y hy => H y (List.mem_cons_of_mem _ hy)) (by simp only [List.length_cons, List.length_append, List.length_nil] at hl ⊢; omega)]
      simp [List.filterMap_cons, q]
theorem srcOk_nil {h : LH} : SrcOk [] h := fun p hp => by simp at hp
theorem compLoop_inv {s : Src} {own : List Nat} {t : T} {f : Env → LH → Res (Option D)} {env : Env} {P : LH → Prop} {Q : D → Prop} (so : ∀ h, P h → SrcOk s h) : ∀ (xs acc : List D) (h : LH), P h → (∀ x ∈ xs, ∀ h, P h → ∃ env1, bindT t x (wipeE env own) = some env1 ∧ ∃ d h1, f env1 h = .ok (some d) h1 ∧ P h1 ∧ Q d) → acc.length + xs.length ≤ sizeLine → ∃ ds h1, compLoop s own t f xs acc env h = .ok (acc ++ ds) h1 ∧ P h1 ∧ (∀ d ∈ ds, Q d) ∧ ds.length = xs.length
  | [], acc, h, hp, _, _ => ⟨[], h, by simp [compLoop, so h hp], hp, by simp, rfl⟩
  | x :: xs, acc, h, hp, H, hl => by
    obtain ⟨env1, e1, d, h1, e2, p1, q1⟩ := H x List.mem_cons_self h hp
    have hl2 : acc.length < sizeLine := by simp only [List.length_cons] at hl; omega
    obtain ⟨ds, h2, e3, p2, q2, l2⟩ := compLoop_inv so xs (acc ++ [d]) h1 p1 (fun y hy => H y (List.mem_cons_of_mem _ hy)) (by simp only [List.length_cons, List.length_append, List.length_nil] at hl ⊢; omega)
    refine ⟨d :: ds, h2, ?_, p2, ?_, by simp [l2]⟩
    · simp only [compLoop, so h hp, hl2, and_self, if_true, e1, e2, e3]
      simp
    · intro y hy
      rcases List.mem_cons.mp hy with rfl | hy
      · exact q1
      · exact q2 y hy
theorem lcp_map {own : List (Str × Nat)} {t : T} {elt : E} {s : Src} {xs : List D} {env : Env} {h : LH} (g : D → D) (so : SrcOk s h) (hl : xs.length ≤ sizeLine) (H : ∀ x ∈ xs, ∃ env1, bindT t x (wipeE env (own.map (·.2))) = some env1 ∧ evE elt env1 h = .ok (g x) h) : lcpR own t [] elt s xs env h = .ok (xs.map g) h := by
  unfold lcpR
  rw [compLoop_pure so (fun x => some (g x)) xs [] (fun x hx => ?_) (by simpa using hl)]
  · simp
  · obtain ⟨env1, e1, e2⟩ := H x hx
    exact ⟨env1, e1, by simp [e2]⟩
theorem lcp_filter {own : List (Str × Nat)} {t : T} {c elt : E} {s : Src} {xs : List D} {env : Env} {h : LH} (p : D → Bool) (g : D → D) (so : SrcOk s h) (hl : xs.length ≤ sizeLine) (H : ∀ x ∈ xs, ∃ env1, bindT t x (wipeE env (own.map (·.2))) = some env1 ∧ evE c env1 h = .ok (.bl (p x)) h ∧ (p x = true → evE elt env1 h = .ok (g x) h)) : lcpR own t [c] elt s xs env h = .ok ((xs.filter p).map g) h := by
  unfold lcpR
  rw [compLoop_pure so (fun x => if p x = true then some (g x) else none) xs [] (fun x hx => ?_) (by simpa using hl)]
  · congr 1
    induction xs with
    | nil => rfl
    | cons x xs ih =>
      have ih2 := ih (by simp only [List.length_cons] at hl; omega) fun y hy => H y (List.mem_cons_of_mem _ hy)
      simp only [List.nil_append] at ih2 ⊢
      cases q : p x <;> simp [q, ih2]
  · obtain ⟨env1, e1, e2, e3⟩ := H x hx
    refine ⟨env1, e1, ?_⟩
    cases q : p x
    · simp [e2, q]
    · simp [e2, q, e3 q]
theorem lcp_inv {own : List (Str × Nat)} {t : T} {elt : E} {s : Src} {xs : List D} {env : Env} {h : LH} (P : LH → Prop) (Q : D → Prop) (so : ∀ h, P h → SrcOk s h) (hl : xs.length ≤ sizeLine) (hp : P h) (H : ∀ x ∈ xs, ∀ h, P h → ∃ env1, bindT t x (wipeE env (own.map (·.2))) = some env1 ∧ ∃ d h1, evE elt env1 h = .ok d h1 ∧ P h1 ∧ Q d) : ∃ ds h1, lcpR own t [] elt s xs env h = .ok ds h1 ∧ P h1 ∧ (∀ d ∈ ds, Q d) ∧ ds.length = xs.length := by
  unfold lcpR
  obtain ⟨ds, h1, e, r⟩ := compLoop_inv (f := fun env1 h2 => (evC [] env1 h2).bind fun b h3 => if b = true then (evE elt env1 h3).bind fun d h4 => .ok (some d) h4 else .ok none h3) so xs [] h hp (fun x hx h hp => by
    obtain ⟨env1, e1, d, h1, e2, r⟩ := H x hx h hp
    exact ⟨env1, e1, d, h1, by simp [e2], r⟩) (by simpa using hl)
  exact ⟨ds, h1, by simpa using e, r⟩
/-- a statement's end: on, or handing back -/
def RSat (N : Env → LH → Prop) (R : D → LH → Prop) : RS → Prop
  | .nx e h => N e h
  | .rt d h => R d h
  | _ => False
/-- a loop's body's end -/
def LSat (N B : Env → LH → Prop) (R : D → LH → Prop) : RS → Prop
  | .nx e h => N e h
  | .ct e h => N e h
  | .bk e h => B e h
  | .rt d h => R d h
  | _ => False
theorem forLoop_sat {s : Src} {t : T} {f : Env → LH → RS} {I : List D → Env → LH → Prop} {N : Env → LH → Prop} {R : D → LH → Prop} (step : ∀ x rest env h, I (x :: rest) env h → SrcOk s h ∧ ∃ env1, bindT t x env = some env1 ∧ LSat (I rest) N R (f env1 h)) (last : ∀ env h, I [] env h → SrcOk s h ∧ N env h) : ∀ (xs : List D) (env : Env) (h : LH), I xs env h → RSat N R (forLoop s t f xs env h)
  | [], env, h, hi => by
    obtain ⟨a, b⟩ := last env h hi
    simp only [forLoop, a, if_true]
    exact b
  | x :: xs, env, h, hi => by
    obtain ⟨a, env1, e1, l⟩ := step x xs env h hi
    simp only [forLoop, a, if_true, e1]
    cases q : f env1 h with
    | nx e h1 => rw [q] at l; exact forLoop_sat step last xs e h1 l
    | ct e h1 => rw [q] at l; exact forLoop_sat step last xs e h1 l
    | bk e h1 => rw [q] at l; exact l
    | rt d h1 => rw [q] at l; exact l
    | ex x e h1 => rw [q] at l; exact l.elim
    | no => rw [q] at l; exact l.elim
theorem RSat.seq {N N' : Env → LH → Prop} {R : D → LH → Prop} {r : RS} {f : Env → LH → RS} (a : RSat N' R r) (b : ∀ e h, N' e h → RSat N R (f e h)) : RSat N R (r.seq f) := by
  cases r with
  | nx e h => exact b e h a
  | rt d h => exact a
  | ex => exact a.elim
  | bk => exact a.elim
  | ct => exact a.elim
  | no => exact a.elim
theorem RSat.run {Q : D → LH → Prop} {F n : Nat} {b : List S} {args : List D} {h : LH} (a : RSat (fun _ h => Q .non h) Q (evSs F b (args.map some ++ List.replicate (n - args.length) none) h)) : Sat (runF F n b args h) Q := by
  unfold runF
  cases q : evSs F b (args.map some ++ List.replicate (n - args.length) none) h with
  | nx e h => rw [q] at a; exact ⟨_, _, rfl, a⟩
  | rt d h => rw [q] at a; exact ⟨_, _, rfl, a⟩
  | ex => rw [q] at a; exact a.elim
  | bk => rw [q] at a; exact a.elim
  | ct => rw [q] at a; exact a.elim
  | no => rw [q] at a; exact a.elim
theorem RSat.fin {Q : D → LH → Prop} {r : RS} (a : RSat (fun _ h => Q .non h) Q r) : ∃ d h, Ev.fin r = .ok d h ∧ Q d h := by
  cases r with
  | nx e h => exact ⟨_, _, rfl, a⟩
  | rt d h => exact ⟨_, _, rfl, a⟩
  | ex => exact a.elim
  | bk => exact a.elim
  | ct => exact a.elim
  | no => exact a.elim
theorem RSat.imp {N N' : Env → LH → Prop} {R R' : D → LH → Prop} {r : RS} (a : RSat N R r) (n : ∀ e h, N e h → N' e h) (q : ∀ d h, R d h → R' d h) : RSat N' R' r := by
  cases r with
  | nx e h => exact n e h a
  | rt d h => exact q d h a
  | _ => exact a.elim
def IsSrc (o : O) : Prop := ∃ a b c : Int, o = .lst [.int a, .int b, .int c]
def SrcAt (n : Nat) (h : LH) : Prop := ∃ o, h[n]? = some o ∧ IsSrc o
/-- only the source has moved -/
def Dr (n : Nat) (h h' : LH) : Prop := ∃ o, IsSrc o ∧ h' = h.set n o
theorem SrcAt.lt {n : Nat} {h : LH} (s : SrcAt n h) : n < h.length := by
  obtain ⟨o, e, _⟩ := s
  exact (List.getElem?_eq_some_iff.mp e).1
theorem Dr.refl {n : Nat} {h : LH} (s : SrcAt n h) : Dr n h h := by
  obtain ⟨o, e, s⟩ := s
  refine ⟨o, s, ?_⟩
  have := (List.getElem?_eq_some_iff.mp e)
  obtain ⟨a, rfl⟩ := this
  exact (List.set_getElem_self a).symm
theorem Dr.src {n : Nat} {h h' : LH} (s : SrcAt n h) (d : Dr n h h') : SrcAt n h' := by
  obtain ⟨o, so, rfl⟩ := d
  exact ⟨o, by rw [List.getElem?_set_self s.lt], so⟩
theorem Dr.trans {n : Nat} {h h' h'' : LH} (a : Dr n h h') (b : Dr n h' h'') : Dr n h h'' := by
  obtain ⟨o, so, rfl⟩ := a
  obtain ⟨o', so', rfl⟩ := b
  exact ⟨o', so', by rw [List.set_set]⟩
theorem Dr.len {n : Nat} {h h' : LH} (a : Dr n h h') : h'.length = h.length := by
  obtain ⟨o, so, rfl⟩ := a
  exact List.length_set
theorem Dr.get {n i : Nat} {h h' : LH} (a : Dr n h h') (hi : i ≠ n) : h'[i]? = h[i]? := by
  obtain ⟨o, so, rfl⟩ := a
  exact List.getElem?_set_ne (Ne.symm hi)
theorem shaped_str {x : Str} (h : PyData.strOk x = true) : SeqAt.shaped (.str x) = true := by
  obtain ⟨y, e1, e2⟩ := fit_shaped (b := x.length) (n := 0) (d := .str x) (by decide) (fit_str.mpr ⟨Nat.le_refl _, h⟩)
  cases e1
  exact e2
theorem len3 {α : Type} {ds : List α} (h : ds.length = 3) : ∃ a b c, ds = [a, b, c] := by
  match ds, h with
  | [a, b, c], _ => exact ⟨a, b, c, rfl⟩
theorem ne3 {ds : List D} (h : ds.length ≠ 3) : ¬ (ds.length : Int) = 3 := by omega
theorem log_small {m : Int} (h0 : 0 < m) (h1 : m < 18446744073709551616) : m.natAbs.log2 < 9000 := by
  have h2 : m.natAbs < 2 ^ 64 := by omega
  exact Nat.lt_trans ((Nat.log2_lt (by omega)).2 h2) (by decide)
theorem atI_mem {α : Type} {xs : List α} {r : Int} (h0 : 0 ≤ r) (h1 : r < (xs.length : Nat)) : ∃ x ∈ xs, atI xs r = some x := by
  obtain ⟨k, rfl⟩ := Int.eq_ofNat_of_zero_le h0
  have hk : k < xs.length := by omega
  exact ⟨xs[k], List.getElem_mem hk, atI_nat (List.getElem?_eq_getElem hk)⟩
theorem evSs_append {F : Nat} : ∀ (a b : List S) (env : Env) (h : LH), evSs F (a ++ b) env h = (evSs F a env h).seq fun e h1 => evSs F b e h1
  | [], b, env, h => by simp
  | s :: a, b, env, h => by
    simp only [List.cons_append, ss_cons]
    cases q : evS F s env h <;> simp [evSs_append a b]
theorem big0 {n : Nat} (h : n ≤ 1000) : n ≤ sizeLine := Nat.le_of_lt (small1000 h)
theorem eqvAll_nil {l : List PyData} : PyData.eqvAll l [] = l.isEmpty := by
  cases l <;> simp [PyData.eqvAll]
theorem pds_empty {ds : List D} {l : List PyData} (e : pds ds = some l) : l.isEmpty = ds.isEmpty := by
  cases ds with
  | nil => cases e; rfl
  | cons d ds =>
    simp only [pds] at e
    split at e
    · cases e; rfl
    · cases e
theorem pd_tup {ds : List D} {x : PyData} (e : pd (.tup ds) = some x) : ∃ l, pds ds = some l ∧ x = .tuple l := by
  simp only [pd] at e
  split at e
  · rename_i l q; cases e; exact ⟨l, q, rfl⟩
  · cases e
theorem pd_lst {ds : List D} {x : PyData} (e : pd (.lst ds) = some x) : ∃ l, pds ds = some l ∧ x = .list l := by
  simp only [pd] at e
  split at e
  · rename_i l q; cases e; exact ⟨l, q, rfl⟩
  · cases e
theorem eq_nilT {b n : Nat} {ds : List D} {h : LH} (hn : n ≤ 64) (f : fit b n (.tup ds)) : eqD h (.tup ds) (.tup []) = some ds.isEmpty := by
  obtain ⟨x, e, s⟩ := fit_shaped hn f
  obtain ⟨l, e2, rfl⟩ := pd_tup e
  rw [eqD_of (a := .tup ds) (b := .tup []) (x := .tuple l) (y := .tuple []) e rfl s (by decide +kernel), PyData.eqv, eqvAll_nil, pds_empty e2]
theorem eq_nilL {b n : Nat} {ds : List D} {h : LH} (hn : n ≤ 64) (f : fit b n (.lst ds)) : eqD h (.lst ds) (.lst []) = some ds.isEmpty := by
  obtain ⟨x, e, s⟩ := fit_shaped hn f
  obtain ⟨l, e2, rfl⟩ := pd_lst e
  rw [eqD_of (a := .lst ds) (b := .lst []) (x := .list l) (y := .list []) e rfl s (by decide +kernel), PyData.eqv, eqvAll_nil, pds_empty e2]
theorem cut_to {α : Type} {xs : List α} {k : Nat} : cutL xs none (some (k : Int)) = xs.take k := by
  have e1 : HT.sIx xs.length xs.length (some (k : Int)) = min k xs.length := HT.sIx_nat xs.length xs.length k
  have e2 : HT.sIx xs.length 0 none = 0 := HT.sIx_none ..
  simp only [cutL, e1, e2, Nat.sub_zero, List.drop_zero]
  rw [← List.take_eq_take_min]
theorem cut_from {α : Type} {xs : List α} {k : Nat} : cutL xs (some (k : Int)) none = xs.drop k := by
  have e1 : HT.sIx xs.length 0 (some (k : Int)) = min k xs.length := HT.sIx_nat xs.length 0 k
  have e2 : HT.sIx xs.length xs.length none = xs.length := HT.sIx_none ..
  simp only [cutL, e1, e2]
  rw [List.take_of_length_le (by simp)]
  by_cases h : k ≤ xs.length
  · rw [Nat.min_eq_left h]
  · rw [Nat.min_eq_right (by omega), List.drop_of_length_le (Nat.le_refl _), List.drop_of_length_le (by omega)]
theorem strOk_mem {x : Str} (h : PyData.strOk x = true) {c : Nat} (hc : c ∈ x.cps.toList) : PyData.strOk ⟨#[c]⟩ = true := by
  have q : ∀ c ∈ x.cps.toList, (decide (c < 1114112)) = true := by
    intro c hc
    unfold PyData.strOk at h
    rw [← Array.all_toList, List.all_eq_true] at h
    exact h c hc
  unfold PyData.strOk
  rw [← Array.all_toList]
  simpa using q c hc
theorem filter_not_empty {α : Type} (p : α → Bool) (l : List α) : (l.filter fun x => !p x).isEmpty = l.all p := by
  induction l with
  | nil => rfl
  | cons x l ih => cases h : p x <;> simp [h] at ih ⊢; exact ih
theorem filter_fit {b n : Nat} {ds : List D} {p : D → Bool} (h : ds.length ≤ b ∧ ∀ d ∈ ds, fit b n d) : fit b (n + 1) (.lst (ds.filter p)) :=
  ⟨Nat.le_trans (List.length_filter_le _ _) h.1, fun d hd => h.2 d (List.mem_filter.mp hd).1⟩
theorem eq_self {b n : Nat} {d : D} {h : LH} (hn : n ≤ 64) (f : fit b n d) : eqD h d d = some true := by
  obtain ⟨x, e, s⟩ := fit_shaped hn f
  have e2 := (fit_pdT (h := h) f).trans e
  rw [eqD_of e2 e2 s s, SeqAt.eqv_refl]
  unfold SeqAt.shaped at s
  simp only [Bool.and_eq_true] at s
  exact s.1
theorem LSat.of {N B : Env → LH → Prop} {R : D → LH → Prop} {r : RS} (a : RSat N R r) : LSat N B R r := by
  cases r <;> first | exact a | exact a.elim
mutual
/-- no location, no script inside -/
def purD : D → Bool
  | .tup ds => pursD ds
  | .lst ds => pursD ds
  | .loc _ => false
  | .dct ks vs => pursD ks && pursD vs
  | .ins _ _ ds => pursD ds
  | .clo _ ds => pursD ds
  | _ => true
def pursD : List D → Bool
  | [] => true
  | d :: ds => purD d && pursD ds
end
theorem pures_all : ∀ {ds : List D}, pursD ds = true → ∀ d ∈ ds, purD d = true
  | d :: ds, h, x, hx => by
    simp only [pursD, Bool.and_eq_true] at h
    rcases List.mem_cons.mp hx with rfl | hx
    · exact h.1
    · exact pures_all h.2 x hx
theorem pures_of : ∀ {ds : List D}, (∀ d ∈ ds, purD d = true) → pursD ds = true
  | [], _ => rfl
  | d :: ds, h => by
    simp only [pursD, Bool.and_eq_true]
    exact ⟨h d List.mem_cons_self, pures_of fun x hx => h x (List.mem_cons_of_mem _ hx)⟩
mutual
theorem pure_noLoc {n : Nat} : ∀ {d : D}, purD d = true → noLoc n d = true
  | .tup ds, h => by simp only [purD] at h; simp only [noLoc]; exact pures_noLocs h
  | .lst ds, h => by simp only [purD] at h; simp only [noLoc]; exact pures_noLocs h
  | .loc _, h => by simp [purD] at h
  | .non, _ => rfl
  | .bl _, _ => rfl
  | .int _, _ => rfl
  | .str _, _ => rfl
  | .scr _, _ => rfl
  | .dct ks vs, h => by simp only [purD, Bool.and_eq_true] at h; simp only [noLoc, pures_noLocs h.1, pures_noLocs h.2, Bool.and_self]
  | .ins _ _ ds, h => by simp only [purD] at h; simp only [noLoc]; exact pures_noLocs h
  | .clo _ ds, h => by simp only [purD] at h; simp only [noLoc]; exact pures_noLocs h
theorem pures_noLocs {n : Nat} : ∀ {ds : List D}, pursD ds = true → noLocs n ds = true
  | [], _ => rfl
  | d :: ds, h => by
    simp only [pursD, Bool.and_eq_true] at h
    simp only [noLocs, pure_noLoc h.1, pures_noLocs h.2]
    rfl
end
theorem frz_pure {h : LH} {n : Nat} : ∀ {f : Nat} {d : D}, purD d = true → frz h n f d = d
  | 0, _, _ => rfl
  | f + 1, .tup ds, q => by
    simp only [purD] at q
    simp only [frz]
    rw [show ds.map (frz h n f) = ds from (List.map_congr_left fun d hd => frz_pure (pures_all q d hd)).trans (List.map_id _)]
  | f + 1, .lst ds, q => by
    simp only [purD] at q
    simp only [frz]
    rw [show ds.map (frz h n f) = ds from (List.map_congr_left fun d hd => frz_pure (pures_all q d hd)).trans (List.map_id _)]
  | f + 1, .loc _, q => by simp [purD] at q
  | f + 1, .ins _ _ ds, q => by
    simp only [purD] at q
    simp only [frz]
    rw [show ds.map (frz h n f) = ds from (List.map_congr_left fun d hd => frz_pure (pures_all q d hd)).trans (List.map_id _)]
  | f + 1, .clo _ ds, q => by
    simp only [purD] at q
    simp only [frz]
    rw [show ds.map (frz h n f) = ds from (List.map_congr_left fun d hd => frz_pure (pures_all q d hd)).trans (List.map_id _)]
  | f + 1, .dct ks vs, q => by
    simp only [purD, Bool.and_eq_true] at q
    simp only [frz]
    rw [show ks.map (frz h n f) = ks from (List.map_congr_left fun d hd => frz_pure (pures_all q.1 d hd)).trans (List.map_id _)]
    rw [show vs.map (frz h n f) = vs from (List.map_congr_left fun d hd => frz_pure (pures_all q.2 d hd)).trans (List.map_id _)]
  | f + 1, .non, _ => rfl
  | f + 1, .bl _, _ => rfl
  | f + 1, .int _, _ => rfl
  | f + 1, .str _, _ => rfl
  | f + 1, .scr _, _ => rfl
/-- a new list is handed back by value -/
theorem frzR_new {f : Nat} {h t : LH} {l : Nat} {ds : List D} (q : pursD ds = true) (hl : h.length ≤ l) (e : (h ++ t)[l]? = some (.lst ds)) : frzR (f + 1) h (.ok (.loc l) (h ++ t)) = .ok (.lst ds) h := by
  have e2 : frz (h ++ t) h.length (f + 1) (.loc l) = .lst ds := by
    simp only [frz]
    rw [if_neg (by omega), e]
    simp only
    rw [show ds.map (frz (h ++ t) h.length f) = ds from (List.map_congr_left fun d hd => frz_pure (pures_all q d hd)).trans (List.map_id _)]
  simp only [frzR]
  rw [e2, if_pos]
  · simp
  · refine ⟨by simp, fun l o hl e => .inl ?_, by simp only [noLoc]; exact pures_noLocs q⟩
    rw [List.getElem?_append_left hl] at e
    exact e
theorem frzR_pure {f : Nat} {h t : LH} {d : D} (q : purD d = true) : frzR f h (.ok d (h ++ t)) = .ok d h := by
  simp only [frzR]
  rw [frz_pure q, if_pos]
  · simp
  · refine ⟨by simp, fun l o hl e => .inl ?_, pure_noLoc q⟩
    rw [List.getElem?_append_left hl] at e
    exact e
theorem frzR_tup2 {f : Nat} {h t : LH} {l : Nat} {ds es : List D} (q1 : pursD ds = true) (q : pursD es = true) (hl : h.length ≤ l) (e : (h ++ t)[l]? = some (.lst es)) : frzR (f + 2) h (.ok (.tup [.tup ds, .loc l]) (h ++ t)) = .ok (.tup [.tup ds, .lst es]) h := by
  have m (xs : List D) (q : pursD xs = true) (f : Nat) : xs.map (frz (h ++ t) h.length f) = xs := (List.map_congr_left fun d hd => frz_pure (pures_all q d hd)).trans (List.map_id _)
  have e2 : frz (h ++ t) h.length (f + 2) (.tup [.tup ds, .loc l]) = .tup [.tup ds, .lst es] := by
    simp only [frz, List.map_cons, List.map_nil]
    rw [if_neg (by omega), e]
    simp only
    rw [m ds q1, m es q]
  simp only [frzR]
  rw [e2, if_pos]
  · simp
  · refine ⟨by simp, fun l o hl e => .inl ?_, by simp only [noLoc, noLocs, pures_noLocs q, pures_noLocs q1]; rfl⟩
    rw [List.getElem?_append_left hl] at e
    exact e
theorem while_sat {F : Nat} {c : E} {b : List S} {I : Nat → Env → LH → Prop} {N : Env → LH → Prop} {R : D → LH → Prop}
    (step : ∀ k env h, I k env h → (∃ h', evT c env h = .ok false h' ∧ N env h') ∨ (∃ h', evT c env h = .ok true h' ∧ LSat (fun e h2 => ∃ k', k' < k ∧ I k' e h2) N R (evSs F b env h'))) :
    ∀ (n k : Nat) (env : Env) (h : LH), k < n → I k env h → RSat N R (whR F c b n env h)
  | 0, k, _, _, hk, _ => absurd hk (Nat.not_lt_zero _)
  | n + 1, k, env, h, hk, hi => by
    unfold whR whileLoop
    rcases step k env h hi with ⟨h', e, q⟩ | ⟨h', e, q⟩
    · simp only [e, inS_ok]
      exact q
    · simp only [e, inS_ok, if_true]
      cases z : evSs F b env h' with
      | nx e1 h1 =>
        rw [z] at q
        obtain ⟨k', hk', hi'⟩ := q
        exact while_sat step n k' e1 h1 (by omega) hi'
      | ct e1 h1 =>
        rw [z] at q
        obtain ⟨k', hk', hi'⟩ := q
        exact while_sat step n k' e1 h1 (by omega) hi'
      | bk e1 h1 => rw [z] at q; exact q
      | rt d h1 => rw [z] at q; exact q
      | ex x e1 h1 => rw [z] at q; exact q.elim
      | no => rw [z] at q; exact q.elim
def tx (xs : List Str) : D := .tup (xs.map D.str)
abbrev nt (as : List Str) (w : Str) (bs : List Str) : D := .tup [tx as, .str w, tx bs]
theorem pds_strs : ∀ xs : List Str, pds (xs.map D.str) = some (xs.map PyData.str)
  | [] => rfl
  | x :: xs => by simp only [List.map_cons, pds, pd, pds_strs xs]
theorem eqvAll_strs : ∀ xs ys : List Str, PyData.eqvAll (xs.map PyData.str) (ys.map PyData.str) = decide (xs = ys)
  | [], [] => by simp [PyData.eqvAll]
  | [], _ :: _ => by simp [PyData.eqvAll]
  | _ :: _, [] => by simp [PyData.eqvAll]
  | x :: xs, y :: ys => by
    simp only [List.map_cons, PyData.eqvAll, PyData.eqv, eqvAll_strs xs ys, List.cons.injEq, Bool.decide_and]
    rfl
theorem shaped_tx {xs : List Str} (h : ∀ x ∈ xs, PyData.strOk x = true) : SeqAt.shaped (.tuple (xs.map PyData.str)) = true := by
  have a : PyData.canLayAll0 (xs.map PyData.str) = true := all0 fun y hy => by
    obtain ⟨x, hx, rfl⟩ := List.mem_map.mp hy
    rw [PyData.canLay0]
    exact h x hx
  have b : PyData.depthAll (xs.map PyData.str) ≤ 0 := depthAll_le fun y hy => by
    obtain ⟨x, hx, rfl⟩ := List.mem_map.mp hy
    rw [PyData.depth]
    exact Nat.le_refl _
  unfold SeqAt.shaped
  rw [PyData.canLay0, PyData.depth, a, Bool.true_and, decide_eq_true_eq]
  omega
theorem eq_tx {h : LH} {xs ys : List Str} (hx : ∀ x ∈ xs, PyData.strOk x = true) (hy : ∀ y ∈ ys, PyData.strOk y = true) : eqD h (tx xs) (tx ys) = some (decide (xs = ys)) := by
  rw [eqD_of (x := .tuple (xs.map PyData.str)) (y := .tuple (ys.map PyData.str)) (by simp only [tx, pdT, pd, pds_strs]) (by simp only [tx, pdT, pd, pds_strs]) (shaped_tx hx) (shaped_tx hy), PyData.eqv, eqvAll_strs]
theorem eq_str {h : LH} {x y : Str} (hx : PyData.strOk x = true) (hy : PyData.strOk y = true) : eqD h (.str x) (.str y) = some (decide (x = y)) := by
  rw [eqD_of (x := .str x) (y := .str y) rfl rfl (shaped_str hx) (shaped_str hy), PyData.eqv]
  rfl
theorem pds_ints {α : Type} (f : α → Int) : ∀ xs : List α, pds (xs.map fun x => D.int (f x)) = some (xs.map fun x => PyData.int (f x))
  | [] => rfl
  | x :: xs => by simp only [List.map_cons, pds, pd, pds_ints f xs]
theorem eqvAll_refl : ∀ {l : List PyData}, PyData.canLayAll0 l = true → PyData.eqvAll l l = true
  | [], _ => by simp [PyData.eqvAll]
  | x :: l, h => by
    rw [PyData.canLayAll0, Bool.and_eq_true] at h
    rw [PyData.eqvAll, SeqAt.eqv_refl x h.1, eqvAll_refl h.2]
    rfl
theorem loc_lst {h : LH} {l : Nat} {ds : List D} (e : h[l]? = some (.lst ds)) : pdT h (.loc l) = pd (.lst ds) := by simp only [pdT, e]
theorem eqP_self {b n : Nat} {h : LH} {d : D} (hn : n ≤ 64) (f : fit b n d) : eqP h d d = some true := by
  obtain ⟨x, q, x1, x2⟩ := fit_pd f
  have sx : SeqAt.shaped x = true := by
    have := eq_self (h := h) hn f
    by_cases c : SeqAt.shaped x = true
    · exact c
    · exfalso
      have e1 : eqP h d d = none := by simp [eqP, fit_pdT f, q, c]
      have e2 : asD h d = none := by cases d <;> first | rfl | (cases n <;> exact f.elim)
      simp only [eqD, e1, eqE, e2] at this
      cases this
  simp only [eqP, fit_pdT f, q, sx, and_self, if_true, SeqAt.eqv_refl x x1]
theorem eq_locL {b n : Nat} {h : LH} {l : Nat} {ds : List D} (e : h[l]? = some (.lst ds)) (hn : n ≤ 64) (f : fit b n (.lst ds)) : eqD h (.loc l) (.lst ds) = some true := by
  have := eqP_self (h := h) hn f
  have q : eqP h (.loc l) (.lst ds) = some true := by
    rw [← this]; simp only [eqP, loc_lst e, fit_pdT f]
  simp only [eqD, q]
theorem eq_Lloc {b n : Nat} {h : LH} {l : Nat} {ds : List D} (e : h[l]? = some (.lst ds)) (hn : n ≤ 64) (f : fit b n (.lst ds)) : eqD h (.lst ds) (.loc l) = some true := by
  have := eqP_self (h := h) hn f
  have q : eqP h (.lst ds) (.loc l) = some true := by
    rw [← this]; simp only [eqP, loc_lst e, fit_pdT f]
  simp only [eqD, q]
theorem cutL_map {α β : Type} (f : α → β) {xs : List α} {lo hi : Option Int} : cutL (xs.map f) lo hi = (cutL xs lo hi).map f := by
  simp only [cutL, List.length_map, List.map_take, List.map_drop]
theorem cut_mid {α : Type} {xs : List α} {s n : Nat} : cutL xs (some (s : Int)) (some ((s + n : Nat) : Int)) = (xs.drop s).take n := by
  have e1 : HT.sIx xs.length 0 (some (s : Int)) = min s xs.length := HT.sIx_nat xs.length 0 s
  have e2 : HT.sIx xs.length xs.length (some ((s + n : Nat) : Int)) = min (s + n) xs.length := HT.sIx_nat xs.length xs.length (s + n)
  simp only [cutL, e1, e2]
  by_cases h : s ≤ xs.length
  · rw [Nat.min_eq_left h]
    by_cases h2 : s + n ≤ xs.length
    · rw [Nat.min_eq_left h2, Nat.add_sub_cancel_left]
    · rw [Nat.min_eq_right (by omega)]
      rw [List.take_of_length_le (by simp), List.take_of_length_le (by simp; omega)]
  · rw [Nat.min_eq_right (b := xs.length) (a := s) (by omega), List.drop_of_length_le (Nat.le_refl _), List.drop_of_length_le (by omega)]
    simp
section
variable {h : LH} {m : Bool} {xs ys : List Str}
theorem tx_to {k : Nat} : opCut m (tx xs) none (some (k : Int)) h = .ok (tx (xs.take k)) h := by
  unfold tx; rw [cut_tup, cutL_map, cut_to]
theorem tx_from {k : Nat} : opCut m (tx xs) (some (k : Int)) none h = .ok (tx (xs.drop k)) h := by
  unfold tx; rw [cut_tup, cutL_map, cut_from]
theorem tx_mid {s n : Nat} : opCut m (tx xs) (some (s : Int)) (some ((s + n : Nat) : Int)) h = .ok (tx ((xs.drop s).take n)) h := by
  unfold tx; rw [cut_tup, cutL_map, cut_mid]
@[simp] theorem tx_add : opBin .Add m (tx xs) (tx ys) h = if xs.length + ys.length ≤ sizeLine then .ok (tx (xs ++ ys)) h else .no := by
  unfold tx; rw [add_tup]; simp
@[simp] theorem tx_add1 {w : Str} : opBin .Add m (tx xs) (.tup [.str w]) h = if xs.length + 1 ≤ sizeLine then .ok (tx (xs ++ [w])) h else .no := by
  unfold tx; rw [add_tup]; simp
@[simp] theorem tx_len : lenD h (tx xs) = some ((xs.length : Nat) : Int) := by unfold tx; rw [lenD_tup]; simp
@[simp] theorem tx_isi1 : isiD h "tuple" (tx xs) = some true := (rfl)
@[simp] theorem tx_isi2 : isiD h "list" (tx xs) = some false := (rfl)
@[simp] theorem tx_isi3 : isiD h "str" (tx xs) = some false := (rfl)
@[simp] theorem tx_src : seqSrc h (tx xs) = some ([], xs.map D.str) := (rfl)
@[simp] theorem tx_asS : asS h (tx xs) = some (xs.map D.str) := (rfl)
theorem tx_idx {k : Nat} (hk : k < xs.length) : opIdx (tx xs) (.int (k : Int)) h = .ok (.str xs[k]) h := by
  unfold tx
  rw [idx_tup, atI_nat (show (xs.map D.str)[k]? = some (.str xs[k]) by simp [hk])]
theorem tx_fit {b n : Nat} (hl : xs.length ≤ b) (hx : ∀ x ∈ xs, x.length ≤ b ∧ PyData.strOk x = true) : fit b (n + 1) (tx xs) := by
  refine ⟨by simpa using hl, fun d hd => ?_⟩
  obtain ⟨x, hx2, rfl⟩ := List.mem_map.mp hd
  exact fit_str.mpr (hx x hx2)
end
theorem rng_nat {n : Nat} (h : n ≤ 1000000) : rangeItems [.int (n : Nat)] = some ((List.range n).map fun i => D.int (i : Nat)) := by
  have h1 : -(2 ^ 62) ≤ (n : Int) := by omega
  have h2 : (n : Int) < 2 ^ 62 := by omega
  simp only [rangeItems, h1, h2, and_self, if_true, Int.toNat_natCast]
theorem le_line {n : Nat} (h : n ≤ 1000) : n ≤ sizeLine := Nat.le_of_lt (small1000 h)
theorem le_line1 {n : Nat} (h : n ≤ 100000) : n ≤ sizeLine := by
  have e : sizeLine = 16777216 := rfl
  omega
end Ev
end
namespace Ev
open PySem L2
variable [Tabs]
section
variable {P : Program} {w : World} {K : Fg} {mg : Mg} {base : Heap}
/-- a def of the top keeps a promise -/
structure FnAt (P : Program) (w : World) (K : Fg) (mg : Mg) (base : Heap) (k : Nat) (x : Str) (ps : List Str) (m : Nat) (S : Fn) : Prop where
  ex : ∃ (f : Addr) (fd : FuncData), mg x = some (.ref f) ∧ PySem.W.keepIn K (.ref f) = true ∧ Binds K fd ps [] ∧ FnOk P w K mg base (L2.CX P w) k f fd ps (spD K mg m S)
theorem FnAt.fnD {k j : Nat} {x : Str} {ps : List Str} {m : Nat} {S : Fn} (F : FnAt P w K mg base j x ps m S) (h : j ≤ k) : FnD ⟨P, w, K, mg, base, k⟩ x S m [] := by
  obtain ⟨f, fd, e, kp, b, F⟩ := F
  exact ⟨f, fd, ps, j, [], [], e, h, F, kp, b, .nil, fun R n μ H => by simp [Reps]⟩
theorem FnAt.mk' {x qual : Str} {st : Stmt} {f : Addr} {fd : FuncData} {N ps : List Str} {m k : Nat} {b : List S} {Sp : Fn} (e : mg x = some (.ref f)) (F : L2.Fun K x qual st f fd) (S : FnScope N ps (defScope st)) (hm : ps.length = m)
    (hb : ∀ (kV doc pm : Value) (an : Option Addr) (cdv ct : Value) (us : List Value), us.length = ps.length → bindArgs (PySem.W.fnOf x qual (defArgs st) (defBody st) (defScope st) Value.none kV doc pm an cdv ct) { pos := us } = pure (ps.zip us))
    (nb : ∀ x ∈ BN, mg x = none) (hw : Tabs.w = w) (hc : chkSs N (defScope st) b (defBody st) = true) (ok : okSs ⟨P, w, K, mg, base, k⟩ b)
    (run : ∀ (args : List D) (h : LH), args.length = m → Sp args h = .no ∨ ∃ F, Fin h (runF F N.length b args h) (Sp args h)) : FnAt P w K mg base (k + 1) x ps m Sp :=
  ⟨f, fd, e, F.kp, F.binds hb, fn_ok F S hm nb hw hc ok run⟩
/-- .. with defaults -/
structure FnAtD (P : Program) (w : World) (K : Fg) (mg : Mg) (base : Heap) (k : Nat) (x : Str) (ps : List Str) (m : Nat) (S : Fn) (dfl : List D) : Prop where
  ex : ∃ (f : Addr) (fd : FuncData), mg x = some (.ref f) ∧ PySem.W.keepIn K (.ref f) = true ∧ FnOk P w K mg base (L2.CX P w) k f fd ps (spD K mg m S) ∧ ∀ i, i ≤ dfl.length → ∃ ds dvs, Binds K fd ps ds ∧ Vals dvs ds ∧ ∀ R n μ H, Reps K R n μ H (dfl.drop i) dvs
theorem FnAtD.fnD {k j : Nat} {x : Str} {ps : List Str} {m : Nat} {S : Fn} {dfl : List D} (F : FnAtD P w K mg base j x ps m S dfl) (i : Nat) (hi : i ≤ dfl.length) (h : j ≤ k) : FnD ⟨P, w, K, mg, base, k⟩ x S m (dfl.drop i) := by
  obtain ⟨f, fd, e, kp, F, b⟩ := F
  obtain ⟨ds, dvs, b1, b2, b3⟩ := b i hi
  exact ⟨f, fd, ps, j, ds, dvs, e, h, F, kp, b1, b2, b3⟩
theorem FnAtD.mk' {x qual : Str} {st : Stmt} {f : Addr} {fd : FuncData} {N ps : List Str} {m k : Nat} {b : List S} {Sp : Fn} {dvs : List V} {dfl : List D} (e : mg x = some (.ref f)) (F : L2.FunD K x qual (defArgs st) (defBody st) (defScope st) dvs [] f fd) (S : FnScope N ps (defScope st)) (hm : ps.length = m)
    (hr : ∀ R n μ H, Reps K R n μ H dfl dvs) (hb : ∀ i, i ≤ dfl.length → ∃ ds, Vals (dvs.drop i) ds ∧ Binds K fd ps ds)
    (nb : ∀ x ∈ BN, mg x = none) (hw : Tabs.w = w) (hc : chkSs N (defScope st) b (defBody st) = true) (ok : okSs ⟨P, w, K, mg, base, k⟩ b)
    (run : ∀ (args : List D) (h : LH), args.length = m → Sp args h = .no ∨ ∃ F, Fin h (runF F N.length b args h) (Sp args h)) : FnAtD P w K mg base (k + 1) x ps m Sp dfl :=
  ⟨f, fd, e, F.kp, fn_okD F S hm nb hw hc ok run, fun i hi => let ⟨ds, v, b⟩ := hb i hi; ⟨ds, dvs.drop i, b, v, fun R n μ H => (hr R n μ H).drop i⟩⟩
theorem funD_mk {x qual : Str} {st : Stmt} {f T : Addr} {oc tc : Value} {od an td : Option Addr} {osl tsl : Array (Option Value)} {kV doc pm cdv ct : Value} {its : List Value} {n : Nat} {dvs : List V} (l : K.lookup f = some ⟨oc, od, .func (PySem.W.fnOf x qual (defArgs st) (defBody st) (defScope st) (.ref T) kV doc pm an cdv ct), osl⟩)
    (c : PySem.W.codeIn K cdv qual = true) (k : PySem.W.keepIn K (.ref f) = true) (lT : K.lookup T = some ⟨tc, td, .seq its.toArray n, tsl⟩) (hv : Vals dvs its) (hd : dvs ≠ []) : L2.FunD K x qual (defArgs st) (defBody st) (defScope st) dvs [] f (PySem.W.fnOf x qual (defArgs st) (defBody st) (defScope st) (.ref T) kV doc pm an cdv ct) :=
  ⟨⟨oc, od, .ref T, kV, doc, pm, an, cdv, ct, osl, rfl, l, c, .inr ⟨hd, T, _, its, n, rfl, lT, rfl, hv⟩, .inl rfl⟩, k⟩
theorem FnAt.none {x qual : Str} {st : Stmt} {f : Addr} {fd : FuncData} {N ps : List Str} {m k : Nat} (e : mg x = some (.ref f)) (F : L2.Fun K x qual st f fd) (S : FnScope N ps (defScope st)) (hm : ps.length = m)
    (hb : ∀ (kV doc pm : Value) (an : Option Addr) (cdv ct : Value) (us : List Value), us.length = ps.length → bindArgs (PySem.W.fnOf x qual (defArgs st) (defBody st) (defScope st) Value.none kV doc pm an cdv ct) { pos := us } = pure (ps.zip us)) :
    FnAt P w K mg base (k + 1) x ps m (fun _ _ => .no) := by
  refine ⟨f, fd, e, F.kp, F.binds hb, F.okX S (fun vs H Q E hsp => ?_) (fun cdv A outer s H vs Q E hr hsp => ?_)⟩
  · obtain ⟨R, μ, h, ds, hl, _, r, p⟩ := hsp
    exact p.elim
  · obtain ⟨R, μ, h, ds, hl, _, r, p⟩ := hsp
    exact p.elim
theorem ExcD.mgC {k : Nat} {x : Str} (h : ExcD ⟨P, w, K, mg, base, k⟩ x) : ∃ C, mg x = some (.ref C) := let ⟨C, e, _⟩ := h.ex; ⟨C, e⟩
theorem rep_tupK {R : Ap} {n : Nat} {μ : Nat → Addr} {H : Hp} {a : Addr} {d : Option Addr} {its : Array Value} {k : Nat} {z : Array (Option Value)} {ds : List D} {xs : List V} (q : K.lookup a = some ⟨.type "tuple", d, .seq its k, z⟩) (hs : its.size ≤ sizeLine) (hv : Vals xs its.toList) (r : Reps K R n μ H ds xs) : Rep K R n μ H (.tup ds) (.ref a) := by
  simp only [Rep]
  exact ⟨a, xs, rfl, .inr ⟨_, _, _, q, rfl, rfl, hs, hv⟩, r⟩
theorem rp_nil {R : Ap} {n : Nat} {μ : Nat → Addr} {H : Hp} : Reps K R n μ H [] [] := by simp only [Reps]
theorem rp_cons {R : Ap} {n : Nat} {μ : Nat → Addr} {H : Hp} {d : D} {ds : List D} {v : V} {vs : List V} (a : Rep K R n μ H d v) (b : Reps K R n μ H ds vs) : Reps K R n μ H (d :: ds) (v :: vs) := by
  simp only [Reps]
  exact ⟨v, vs, rfl, a, b⟩
theorem rp_str {R : Ap} {n : Nat} {μ : Nat → Addr} {H : Hp} {x : Str} : Rep K R n μ H (.str x) (.str x) := by simp only [Rep]
theorem rp_int {R : Ap} {n : Nat} {μ : Nat → Addr} {H : Hp} {x : Int} : Rep K R n μ H (.int x) (.int x) := by simp only [Rep]
theorem rp_bl {R : Ap} {n : Nat} {μ : Nat → Addr} {H : Hp} {x : Bool} : Rep K R n μ H (.bl x) (.bl x) := by simp only [Rep]
theorem rp_non {R : Ap} {n : Nat} {μ : Nat → Addr} {H : Hp} : Rep K R n μ H .non .non := by simp only [Rep]
end
omit [Tabs] in
theorem cx_end {P : Program} {w : World} {o : List PySem.Env} {H : Hp} {s s' : Shared} {e : Value} (h : L2.CX P w o H s (fun _ _ _ => False) e s') : False := by
  obtain ⟨_, _, _, _, _, _, _, _, _, _, _, _, z⟩ := h
  exact z
omit [Tabs] in
theorem rel_str {x : Str} {t : Tok} : RelV (.str x) (.str x t) := ⟨t, rfl⟩
omit [Tabs] in
theorem rel_int {x : Int} {t : Tok} : RelV (.int x) (.int x t) := ⟨t, rfl⟩
omit [Tabs] in
theorem rel_bl {x : Bool} : RelV (.bl x) (.bool x) := rfl
omit [Tabs] in
theorem rel_non : RelV .non .none := rfl
omit [Tabs] in
theorem rel_ref {a : Addr} : RelV (.ref a) (.ref a) := rfl
/-- the law's run hands back True -/
theorem law_run {N : Nat} {b : List S} (hS : ∀ ns : List Int, ns.length ≤ 63 → ∃ F h', runF F N b [.scr ns] [] = .ok (.bl true) h') (args : List D) (h : LH) (hl : args.length = 1) : fnLaw args h = .no ∨ ∃ F, Fin h (runF F N b args h) (fnLaw args h) := by
  unfold fnLaw
  split
  · rename_i ns
    split
    · rename_i hn
      obtain ⟨F, h', e⟩ := hS ns hn
      right
      refine ⟨F, ?_⟩
      rw [e]
      exact Fin.frz (h := []) 0 (d := .bl true) (h1 := h') (Nat.zero_le _) (fun l o hl _ => absurd hl (Nat.not_lt_zero _)) rfl
    · exact .inl rfl
  · exact .inl rfl
/-- the j-th statement of a class statement -/
def clsBody (st : Stmt) (j : Nat) : Stmt := match st with
  | .ClassDef _ _ _ b _ _ _ _ _ _ _ => b.getD j (.Pass ⟨0, 0, 0, 0⟩)
  | _ => .Pass ⟨0, 0, 0, 0⟩
end Ev
noncomputable section
namespace Ev
open PySem L2
def c_LETTERS : D := .str "abcdefghijklmnopqrstuvwxyz"
def c_PICKS : D := .tup [(.str "first"), (.str "last"), (.str "only")]
def c_MOST_AROUND : D := .int 2
def c_MOST_ATTEMPTS : D := .int 2
def c_SIGN : D := .str "*"
def N_is_word : List Str := ["value", "letter"]
def b_is_word  : List S := [
  .ret (.and [(.isi (.var 0) "str"), (.chn .LtE .LtE (.cst (.int 1)) (.bui .len false [(.var 0)]) (.cst (.int 8))), (.bui .all1 false [(.lcp [("letter", 1)] (.nm 1) (.itv (.var 0)) [] (.cmp .In (.var 1) (.glob "LETTERS" c_LETTERS)))])])]
def S_is_word : Fn := fun as h => runF 1000000000 N_is_word.length (b_is_word ) as h
def N_are_words : List Str := ["value", "most", "word"]
def b_are_words (S_is_word : Fn) : List S := [
  .ret (.and [(.isi (.var 0) "tuple"), (.cmp .LtE (.bui .len false [(.var 0)]) (.var 1)), (.bui .all1 false [(.lcp [("word", 2)] (.nm 2) (.itv (.var 0)) [] (.cal "is_word" S_is_word 1 [] [(.var 2)]))])])]
def S_are_words : Fn := fun as h => runF 1000000000 N_are_words.length (b_are_words S_is_word) as h
def N_is_from : List Str := ["value", "low", "high"]
def b_is_from  : List S := [
  .ret (.and [(.isi (.var 0) "int"), (.not (.isi (.var 0) "bool")), (.chn .LtE .LtE (.var 1) (.var 0) (.var 2))])]
def S_is_from : Fn := fun as h => runF 1000000000 N_is_from.length (b_is_from ) as h
def N_is_note : List Str := ["value"]
def b_is_note (S_is_word : Fn) (S_are_words : Fn) : List S := [
  .ifs (.or [(.not (.isi (.var 0) "tuple")), (.cmp .NotEq (.bui .len false [(.var 0)]) (.cst (.int 3))), (.not (.cal "is_word" S_is_word 1 [] [(.idx (.var 0) (.cst (.int 1)))]))]) [.ret (.cst (.bool false))] [], 
  .ret (.and [(.cal "are_words" S_are_words 2 [] [(.idx (.var 0) (.cst (.int 0))), (.glob "MOST_AROUND" c_MOST_AROUND)]), (.cal "are_words" S_are_words 2 [] [(.idx (.var 0) (.cst (.int 2))), (.glob "MOST_AROUND" c_MOST_AROUND)])])]
def S_is_note : Fn := fun as h => runF 1000000000 N_is_note.length (b_is_note S_is_word S_are_words) as h
def N_is_pick : List Str := ["value"]
def b_is_pick  : List S := [
  .ret (.and [(.isi (.var 0) "str"), (.cmp .In (.var 0) (.glob "PICKS" c_PICKS))])]
def S_is_pick : Fn := fun as h => runF 1000000000 N_is_pick.length (b_is_pick ) as h
def N_is_attempt : List Str := ["value"]
def b_is_attempt (S_is_pick : Fn) (S_is_from : Fn) : List S := [
  .ifs (.or [(.not (.isi (.var 0) "tuple")), (.cmp .NotEq (.bui .len false [(.var 0)]) (.cst (.int 3))), (.not (.cal "is_pick" S_is_pick 1 [] [(.idx (.var 0) (.cst (.int 2)))]))]) [.ret (.cst (.bool false))] [], 
  .ret (.and [(.cal "is_from" S_is_from 3 [] [(.idx (.var 0) (.cst (.int 0))), (.cst (.int 0)), (.glob "MOST_AROUND" c_MOST_AROUND)]), (.cal "is_from" S_is_from 3 [] [(.idx (.var 0) (.cst (.int 1))), (.cst (.int 0)), (.glob "MOST_AROUND" c_MOST_AROUND)])])]
def S_is_attempt : Fn := fun as h => runF 1000000000 N_is_attempt.length (b_is_attempt S_is_pick S_is_from) as h
def N_is_policy : List Str := ["value", "attempt"]
def b_is_policy (S_is_attempt : Fn) : List S := [
  .ifs (.or [(.not (.isi (.var 0) "tuple")), (.not (.chn .LtE .LtE (.cst (.int 1)) (.bui .len false [(.var 0)]) (.glob "MOST_ATTEMPTS" c_MOST_ATTEMPTS)))]) [.ret (.cst (.bool false))] [], 
  .ret (.bui .all1 false [(.lcp [("attempt", 1)] (.nm 1) (.itv (.var 0)) [] (.cal "is_attempt" S_is_attempt 1 [] [(.var 1)]))])]
def S_is_policy : Fn := fun as h => runF 1000000000 N_is_policy.length (b_is_policy S_is_attempt) as h
def N_need_note : List Str := ["value"]
def b_need_note (S_is_note : Fn) : List S := [
  .ifs (.not (.cal "is_note" S_is_note 1 [] [(.var 0)])) [.rai "InvalidNote"] []]
def S_need_note : Fn := fun as h => runF 1000000000 N_need_note.length (b_need_note S_is_note) as h
def N_need_policy : List Str := ["value"]
def b_need_policy (S_is_policy : Fn) : List S := [
  .ifs (.not (.cal "is_policy" S_is_policy 1 [] [(.var 0)])) [.rai "InvalidPolicy"] []]
def S_need_policy : Fn := fun as h => runF 1000000000 N_need_policy.length (b_need_policy S_is_policy) as h
def N_need_both : List Str := ["note", "policy"]
def b_need_both (S_need_note : Fn) (S_need_policy : Fn) : List S := [
  .exp (.cal "need_note" S_need_note 1 [] [(.var 0)]), 
  .exp (.cal "need_policy" S_need_policy 1 [] [(.var 1)])]
def S_need_both : Fn := fun as h => runF 1000000000 N_need_both.length (b_need_both S_need_note S_need_policy) as h
def N_lines_of : List Str := ["note", "policy", "first", "attempt"]
def b_lines_of  : List S := [
  .set 2 (.met .join false (.cst (.str " ")) [(.bin .Add false (.bin .Add false (.bin .Add false (.tup [(.cst (.str "note"))]) (.idx (.var 0) (.cst (.int 0)))) (.tup [(.bin .Add false (.glob "SIGN" c_SIGN) (.idx (.var 0) (.cst (.int 1))))])) (.idx (.var 0) (.cst (.int 2))))]), 
  .ret (.bin .Add false (.lst false [(.var 2)]) (.lcp [("attempt", 3)] (.nm 3) (.itv (.var 1)) [] (.bin .Add false (.bin .Add false (.bin .Add false (.bin .Add false (.idx (.var 3) (.cst (.int 2))) (.cst (.str " "))) (.bui .str1 false [(.idx (.var 3) (.cst (.int 0)))])) (.cst (.str " "))) (.bui .str1 false [(.idx (.var 3) (.cst (.int 1)))]))))]
def S_lines_of : Fn := fun as h => runF 1000000000 N_lines_of.length (b_lines_of ) as h
def N_whole_text : List Str := ["note", "policy"]
def b_whole_text (S_need_both : Fn) (S_lines_of : Fn) : List S := [
  .exp (.cal "need_both" S_need_both 2 [] [(.var 0), (.var 1)]), 
  .ret (.met .join false (.cst (.str "\n")) [(.cal "lines_of" S_lines_of 2 [] [(.var 0), (.var 1)])])]
def S_whole_text : Fn := fun as h => runF 1000000000 N_whole_text.length (b_whole_text S_need_both S_lines_of) as h
def N_read_note : List Str := ["line", "words", "marked", "at", "note", "word"]
def b_read_note (S_is_note : Fn) : List S := [
  .set 1 (.bui .tuple1 false [(.met .split false (.var 0) [(.cst (.str " "))])]), 
  .set 2 (.lcp [("at", 3), ("word", 5)] (.tp [(.nm 3), (.nm 5)]) (.enm (.var 1)) [(.cmp .Eq (.slc false (.var 5) .noe (.itv (.cst (.int 1)))) (.glob "SIGN" c_SIGN))] (.var 3)), 
  .ifs (.or [(.cmp .NotEq (.idx (.var 1) (.cst (.int 0))) (.cst (.str "note"))), (.cmp .NotEq (.bui .len false [(.var 2)]) (.cst (.int 1)))]) [.ret (.cst .none)] [], 
  .set 3 (.idx (.var 2) (.cst (.int 0))), 
  .set 4 (.tup [(.slc false (.var 1) (.itv (.cst (.int 1))) (.itv (.var 3))), (.slc false (.idx (.var 1) (.var 3)) (.itv (.cst (.int 1))) .noe), (.slc false (.var 1) (.itv (.bin .Add false (.var 3) (.cst (.int 1)))) .noe)]), 
  .ret (.ite (.cal "is_note" S_is_note 1 [] [(.var 4)]) (.var 4) (.cst .none))]
def S_read_note : Fn := fun as h => runF 1000000000 N_read_note.length (b_read_note S_is_note) as h
def N_read_attempt : List Str := ["line", "words", "attempt"]
def b_read_attempt (S_is_attempt : Fn) : List S := [
  .set 1 (.met .split false (.var 0) [(.cst (.str " "))]), 
  .ifs (.or [(.cmp .NotEq (.bui .len false [(.var 1)]) (.cst (.int 3))), (.cmp .NotIn (.idx (.var 1) (.cst (.int 1))) (.tup [(.cst (.str "0")), (.cst (.str "1")), (.cst (.str "2"))])), (.cmp .NotIn (.idx (.var 1) (.cst (.int 2))) (.tup [(.cst (.str "0")), (.cst (.str "1")), (.cst (.str "2"))]))]) [.ret (.cst .none)] [], 
  .set 2 (.tup [(.bui .int1 false [(.idx (.var 1) (.cst (.int 1)))]), (.bui .int1 false [(.idx (.var 1) (.cst (.int 2)))]), (.idx (.var 1) (.cst (.int 0)))]), 
  .ret (.ite (.cal "is_attempt" S_is_attempt 1 [] [(.var 2)]) (.var 2) (.cst .none))]
def S_read_attempt : Fn := fun as h => runF 1000000000 N_read_attempt.length (b_read_attempt S_is_attempt) as h
def N_read_line : List Str := ["line", "note"]
def b_read_line (S_read_note : Fn) (S_read_attempt : Fn) : List S := [
  .set 1 (.cal "read_note" S_read_note 1 [] [(.var 0)]), 
  .ret (.ite (.cmp .Is (.var 1) (.cst .none)) (.cal "read_attempt" S_read_attempt 1 [] [(.var 0)]) (.var 1))]
def S_read_line : Fn := fun as h => runF 1000000000 N_read_line.length (b_read_line S_read_note S_read_attempt) as h
def N_read_text : List Str := ["value", "rows", "at", "line", "row"]
def b_read_text (S_read_line : Fn) (S_is_note : Fn) (S_is_policy : Fn) : List S := [
  .ifs (.not (.isi (.var 0) "str")) [.raiA "NoText" "line" (.cst (.int 0))] [], 
  .set 1 (.tup []), 
  .for_ (.tp [(.nm 2), (.nm 3)]) (.enm (.met .split false (.var 0) [(.cst (.str "\n"))])) [.set 4 (.cal "read_line" S_read_line 1 [] [(.var 3)]), .ifs (.cmp .Is (.var 4) (.cst .none)) [.raiA "NoText" "line" (.bin .Add false (.var 2) (.cst (.int 1)))] [], .set 1 (.bin .Add false (.var 1) (.tup [(.var 4)]))], 
  .ifs (.or [(.not (.cal "is_note" S_is_note 1 [] [(.idx (.var 1) (.cst (.int 0)))])), (.not (.cal "is_policy" S_is_policy 1 [] [(.slc false (.var 1) (.itv (.cst (.int 1))) .noe)]))]) [.raiA "NoText" "line" (.bin .Add false (.bui .len false [(.var 1)]) (.cst (.int 1)))] [], 
  .ret (.tup [(.idx (.var 1) (.cst (.int 0))), (.slc false (.var 1) (.itv (.cst (.int 1))) .noe)])]
def S_read_text : Fn := fun as h => runF 1000000000 N_read_text.length (b_read_text S_read_line S_is_note S_is_policy) as h
def N__law_source : List Str := ["script", "k", "cell", "start"]
def b__law_source  : List S := [
  .set 2 (.ite (.cmp .Lt (.var 1) (.bui .len false [(.var 0)])) (.bui .abs1 false [(.bui .int1 false [(.idx (.var 0) (.var 1))])]) (.bin .Add false (.bin .Mult false (.cst (.int 31)) (.var 1)) (.cst (.int 5)))), 
  .set 3 (.bin .Mod false (.bui .int1 false [(.bin .Add false (.bin .Add false (.bin .Mult false (.var 2) (.cst (.int 2654435761))) (.bin .Mult false (.cst (.int 977)) (.var 1))) (.cst (.int 13)))]) (.cst (.int 4294967291))), 
  .ret (.lst true [(.ite (.cmp .Gt (.var 2) (.bin .Pow false (.cst (.int 10)) (.cst (.int 17)))) (.var 2) (.cst (.int 0))), (.var 3), (.cst (.int 0))])]
def S__law_source : Fn := fun as h => runF 1000000000 N__law_source.length (b__law_source ) as h
def N__law_draw : List Str := ["source", "many", "low", "mixed"]
def b__law_draw  : List S := [
  .ifs (.cmp .Gt (.idx (.var 0) (.cst (.int 0))) (.cst (.int 0))) [.set 2 (.bin .Mod false (.bui .int1 false [(.idx (.var 0) (.cst (.int 0)))]) (.var 1)), .stx (.var 0) (.cst (.int 0)) (.bin .FloorDiv true (.idx (.var 0) (.cst (.int 0))) (.var 1)), .ret (.var 2)] [], 
  .stx (.var 0) (.cst (.int 2)) (.bin .Add true (.idx (.var 0) (.cst (.int 2))) (.cst (.int 1))), 
  .set 3 (.bin .Mod false (.bui .int1 false [(.bin .Add false (.idx (.var 0) (.cst (.int 1))) (.bin .Mult false (.cst (.int 40503)) (.idx (.var 0) (.cst (.int 2)))))]) (.cst (.int 4294967291))), 
  .set 3 (.bin .Mod false (.bui .int1 false [(.bin .Add false (.bin .Mult false (.var 3) (.var 3)) (.bin .Mult false (.cst (.int 71)) (.idx (.var 0) (.cst (.int 2)))))]) (.cst (.int 4294967291))), 
  .stx (.var 0) (.cst (.int 1)) (.bin .Mod true (.bui .int1 false [(.bin .Add false (.bin .Mult false (.var 3) (.cst (.int 69069))) (.cst (.int 1)))]) (.cst (.int 4294967291))), 
  .ret (.bin .Mod false (.bui .int1 false [(.bin .FloorDiv false (.var 3) (.cst (.int 128)))]) (.var 1))]
def S__law_draw : Fn := fun as h => runF 1000000000 N__law_draw.length (b__law_draw ) as h
def N__law_choice : List Str := ["source", "rows"]
def b__law_choice (S__law_draw : Fn) : List S := [
  .ret (.idx (.var 1) (.cal "_law_draw" S__law_draw 2 [] [(.var 0), (.bui .len false [(.var 1)])]))]
def S__law_choice : Fn := fun as h => runF 1000000000 N__law_choice.length (b__law_choice S__law_draw) as h
def N__law_menu : List Str := ["source", "some"]
def b__law_menu (S__law_choice : Fn) : List S := [
  .set 1 (.lst false [(.lst false [(.cst (.str "a"))]), (.lst false [(.cst (.str "a")), (.cst (.str "b"))]), (.lst false [(.cst (.str "a")), (.cst (.str "b"))]), (.lst false [(.cst (.str "the")), (.cst (.str "cat")), (.cst (.str "sat"))]), (.lst false [(.cst (.str "x")), (.cst (.str "zzzzzzzz"))]), (.lst false [(.cst (.str "a")), (.cst (.str "aa")), (.cst (.str "b"))])]), 
  .ret (.cal "_law_choice" S__law_choice 2 [] [(.var 0), (.var 1)])]
def S__law_menu : Fn := fun as h => runF 1000000000 N__law_menu.length (b__law_menu S__law_choice) as h
def N__law_row : List Str := ["source", "words", "most", "turn"]
def b__law_row (S__law_draw : Fn) (S__law_choice : Fn) : List S := [
  .ret (.bui .tuple1 false [(.lcp [("turn", 3)] (.nm 3) (.rng [(.cal "_law_draw" S__law_draw 2 [] [(.var 0), (.bin .Add false (.var 2) (.cst (.int 1)))])]) [] (.cal "_law_choice" S__law_choice 2 [] [(.var 0), (.var 1)]))])]
def S__law_row : Fn := fun as h => runF 1000000000 N__law_row.length (b__law_row S__law_draw S__law_choice) as h
def N__law_note : List Str := ["source", "most", "words"]
def b__law_note (S__law_menu : Fn) (S__law_row : Fn) (S__law_choice : Fn) : List S := [
  .set 2 (.cal "_law_menu" S__law_menu 1 [] [(.var 0)]), 
  .ret (.tup [(.cal "_law_row" S__law_row 3 [] [(.var 0), (.var 2), (.var 1)]), (.cal "_law_choice" S__law_choice 2 [] [(.var 0), (.var 2)]), (.cal "_law_row" S__law_row 3 [] [(.var 0), (.var 2), (.var 1)])])]
def S__law_note : Fn := fun as h => runF 1000000000 N__law_note.length (b__law_note S__law_menu S__law_row S__law_choice) as h
def N__law_attempt : List Str := ["source", "most", "pick"]
def b__law_attempt (S__law_choice : Fn) (S__law_draw : Fn) : List S := [
  .set 2 (.cal "_law_choice" S__law_choice 2 [] [(.var 0), (.lst false [(.cst (.str "only")), (.cst (.str "only")), (.cst (.str "first")), (.cst (.str "last"))])]), 
  .ret (.tup [(.cal "_law_draw" S__law_draw 2 [] [(.var 0), (.bin .Add false (.var 1) (.cst (.int 1)))]), (.cal "_law_draw" S__law_draw 2 [] [(.var 0), (.bin .Add false (.var 1) (.cst (.int 1)))]), (.var 2)])]
def S__law_attempt : Fn := fun as h => runF 1000000000 N__law_attempt.length (b__law_attempt S__law_choice S__law_draw) as h
def N__law_policy : List Str := ["source", "most", "turn"]
def b__law_policy (S__law_draw : Fn) (S__law_attempt : Fn) : List S := [
  .ret (.bui .tuple1 false [(.lcp [("turn", 2)] (.nm 2) (.rng [(.bin .Add false (.cst (.int 1)) (.cal "_law_draw" S__law_draw 2 [] [(.var 0), (.cst (.int 2))]))]) [] (.cal "_law_attempt" S__law_attempt 2 [] [(.var 0), (.var 1)]))])]
def S__law_policy : Fn := fun as h => runF 1000000000 N__law_policy.length (b__law_policy S__law_draw S__law_attempt) as h
def N__law_is_word : List Str := ["word", "letter"]
def b__law_is_word  : List S := [
  .ret (.and [(.chn .LtE .LtE (.cst (.int 1)) (.bui .len false [(.var 0)]) (.cst (.int 8))), (.cmp .Eq (.lcp [("letter", 1)] (.nm 1) (.itv (.var 0)) [(.cmp .NotIn (.var 1) (.cst (.str "abcdefghijklmnopqrstuvwxyz")))] (.var 1)) (.lst false []))])]
def S__law_is_word : Fn := fun as h => runF 1000000000 N__law_is_word.length (b__law_is_word ) as h
def N__law_line : List Str := ["line", "words", "marked", "at", "plain_so", "word"]
def b__law_line (S__law_is_word : Fn) : List S := [
  .set 1 (.met .split false (.var 0) [(.cst (.str " "))]), 
  .ifs (.and [(.cmp .Eq (.bui .len false [(.var 1)]) (.cst (.int 3))), (.cmp .In (.idx (.var 1) (.cst (.int 0))) (.lst false [(.cst (.str "first")), (.cst (.str "last")), (.cst (.str "only"))]))]) [.ifs (.and [(.cmp .In (.idx (.var 1) (.cst (.int 1))) (.lst false [(.cst (.str "0")), (.cst (.str "1")), (.cst (.str "2"))])), (.cmp .In (.idx (.var 1) (.cst (.int 2))) (.lst false [(.cst (.str "0")), (.cst (.str "1")), (.cst (.str "2"))]))]) [.ret (.tup [(.bui .int1 false [(.idx (.var 1) (.cst (.int 1)))]), (.bui .int1 false [(.idx (.var 1) (.cst (.int 2)))]), (.idx (.var 1) (.cst (.int 0)))])] [], .ret (.cst .none)] [], 
  .set 2 (.lcp [("at", 3), ("word", 5)] (.tp [(.nm 3), (.nm 5)]) (.enm (.var 1)) [(.cmp .Eq (.slc false (.var 5) .noe (.itv (.cst (.int 1)))) (.cst (.str "*")))] (.var 3)), 
  .ifs (.or [(.cmp .NotEq (.idx (.var 1) (.cst (.int 0))) (.cst (.str "note"))), (.cmp .NotEq (.bui .len false [(.var 2)]) (.cst (.int 1)))]) [.ret (.cst .none)] [], 
  .set 3 (.idx (.var 2) (.cst (.int 0))), 
  .set 4 (.bin .Add false (.bin .Add false (.slc false (.var 1) (.itv (.cst (.int 1))) (.itv (.var 3))) (.lst false [(.slc false (.idx (.var 1) (.var 3)) (.itv (.cst (.int 1))) .noe)])) (.slc false (.var 1) (.itv (.bin .Add false (.var 3) (.cst (.int 1)))) .noe)), 
  .ifs (.or [(.cmp .NotEq (.lcp [("word", 5)] (.nm 5) (.itv (.var 4)) [(.not (.cal "_law_is_word" S__law_is_word 1 [] [(.var 5)]))] (.var 5)) (.lst false [])), (.cmp .Gt (.var 3) (.cst (.int 3))), (.cmp .Gt (.bin .Sub false (.bui .len false [(.var 1)]) (.var 3)) (.cst (.int 3)))]) [.ret (.cst .none)] [], 
  .ret (.tup [(.bui .tuple1 false [(.slc false (.var 1) (.itv (.cst (.int 1))) (.itv (.var 3)))]), (.slc false (.idx (.var 1) (.var 3)) (.itv (.cst (.int 1))) .noe), (.bui .tuple1 false [(.slc false (.var 1) (.itv (.bin .Add false (.var 3) (.cst (.int 1)))) .noe)])])]
def S__law_line : Fn := fun as h => runF 1000000000 N__law_line.length (b__law_line S__law_is_word) as h
def N__law_read : List Str := ["text", "rows", "lines", "at", "line", "row", "notes"]
def b__law_read (S__law_line : Fn) : List S := [
  .unp (.tp [(.nm 1), (.nm 2)]) (.tup [(.lst true []), (.met .split false (.var 0) [(.cst (.str "\n"))])]), 
  .for_ (.tp [(.nm 3), (.nm 4)]) (.enm (.var 2)) [.set 5 (.cal "_law_line" S__law_line 1 [] [(.var 4)]), .ifs (.cmp .Is (.var 5) (.cst .none)) [.ret (.bin .Add false (.var 3) (.cst (.int 1)))] [], .exp (.met .append false (.var 1) [(.var 5)])], 
  .set 6 (.lcp [("row", 5)] (.nm 5) (.itv (.var 1)) [] (.isi (.idx (.var 5) (.cst (.int 0))) "tuple")), 
  .ifs (.cmp .NotIn (.var 6) (.lst false [(.lst false [(.cst (.bool true)), (.cst (.bool false))]), (.lst false [(.cst (.bool true)), (.cst (.bool false)), (.cst (.bool false))])])) [.ret (.bin .Add false (.bui .len false [(.var 2)]) (.cst (.int 1)))] [], 
  .ret (.tup [(.idx (.var 1) (.cst (.int 0))), (.bui .tuple1 false [(.slc false (.var 1) (.itv (.cst (.int 1))) .noe)])])]
def S__law_read : Fn := fun as h => runF 1000000000 N__law_read.length (b__law_read S__law_line) as h
def N__law_tried : List Str := ["value", "found", "e"]
def b__law_tried (S_read_text : Fn) : List S := [
  .set 1 (.cst .none), 
  .tryA [.set 1 (.cal "read_text" S_read_text 1 [] [(.var 0)])] "NoText" 2 "line" 1, 
  .ret (.var 1)]
def S__law_tried : Fn := fun as h => runF 1000000000 N__law_tried.length (b__law_tried S_read_text) as h
def N__law_bent : List Str := ["source", "text", "signs", "at", "lines", "here", "ways"]
def b__law_bent (S__law_draw : Fn) (S__law_choice : Fn) : List S := [
  .set 2 (.lst false [(.cst (.str " ")), (.cst (.str "\n")), (.cst (.str "0")), (.cst (.str "1")), (.cst (.str "2")), (.cst (.str "3")), (.cst (.str "a")), (.cst (.str "A")), (.cst (.str "")), (.cst (.str "*")), (.cst (.str " a")), (.cst (.str "only 1 1\n")), (.cst (.str "note *a\n"))]), 
  .set 3 (.cal "_law_draw" S__law_draw 2 [] [(.var 0), (.bin .Add false (.bui .len false [(.var 1)]) (.cst (.int 1)))]), 
  .set 1 (.bin .Add false (.bin .Add false (.slc false (.var 1) .noe (.itv (.var 3))) (.cal "_law_choice" S__law_choice 2 [] [(.var 0), (.var 2)])) (.slc false (.var 1) (.itv (.bin .Add false (.var 3) (.cal "_law_draw" S__law_draw 2 [] [(.var 0), (.cst (.int 3))]))) .noe)), 
  .set 4 (.met .split false (.var 1) [(.cst (.str "\n"))]), 
  .set 5 (.cal "_law_draw" S__law_draw 2 [] [(.var 0), (.bui .len false [(.var 4)])]), 
  .set 6 (.lst false [(.var 1), (.var 1), (.var 1), (.met .join false (.cst (.str "\n")) [(.bin .Add false (.slc false (.var 4) .noe (.itv (.var 5))) (.slc false (.var 4) (.itv (.bin .Add false (.var 5) (.cst (.int 1)))) .noe))])]), 
  .ret (.cal "_law_choice" S__law_choice 2 [] [(.var 0), (.bin .Add false (.var 6) (.lst false [(.met .join false (.cst (.str "\n")) [(.bin .Add false (.var 4) (.slc false (.var 4) (.itv (.var 5)) (.itv (.bin .Add false (.var 5) (.cst (.int 1))))))]), (.met .join false (.cst (.str "\n")) [(.bin .Add false (.slc false (.var 4) (.itv (.var 5)) .noe) (.slc false (.var 4) .noe (.itv (.var 5))))])]))])]
def S__law_bent : Fn := fun as h => runF 1000000000 N__law_bent.length (b__law_bent S__law_draw S__law_choice) as h
def N_law : List Str := ["script", "k", "source", "text", "value", "turn", "rows", "odd", "row"]
def b_law (S__law_source : Fn) (S_whole_text : Fn) (S__law_note : Fn) (S__law_policy : Fn) (S__law_bent : Fn) (S__law_tried : Fn) (S__law_read : Fn) : List S := [
  .for_ (.nm 1) (.rng [(.bin .Add false (.cst (.int 1)) (.bui .min2 false [(.bui .len false [(.var 0)]), (.cst (.int 8))]))]) [.set 2 (.cal "_law_source" S__law_source 2 [] [(.var 0), (.var 1)]), .set 3 (.cal "whole_text" S_whole_text 2 [] [(.cal "_law_note" S__law_note 2 [] [(.var 2), (.cst (.int 2))]), (.cal "_law_policy" S__law_policy 2 [] [(.var 2), (.cst (.int 2))])]), .set 4 (.var 3), .for_ (.nm 5) (.rng [(.cst (.int 16))]) [.set 4 (.ite (.or [(.cmp .Eq (.bin .Mod false (.var 5) (.cst (.int 3))) (.cst (.int 0))), (.cmp .Gt (.bui .len false [(.var 4)]) (.cst (.int 900)))]) (.var 3) (.var 4)), .set 4 (.cal "_law_bent" S__law_bent 2 [] [(.var 2), (.var 4)]), .ifs (.cmp .NotEq (.cal "_law_tried" S__law_tried 1 [] [(.var 4)]) (.cal "_law_read" S__law_read 1 [] [(.var 4)])) [.ret (.cst (.bool false))] []], .ifs (.cmp .NotEq (.lcp [("odd", 7)] (.nm 7) (.itv (.lst false [(.cst .none), (.cst (.int 5)), (.tup [(.var 3)]), (.lst false [(.var 3)]), (.cst (.bool true))])) [(.cmp .NotEq (.cal "_law_tried" S__law_tried 1 [] [(.var 7)]) (.cst (.int 0)))] (.var 7)) (.lst false [])) [.ret (.cst (.bool false))] []], 
  .set 6 (.lst false [(.cst (.str "")), (.cst (.str "note *a")), (.cst (.str "only 0 0")), (.cst (.str "note *a\nonly 0 0\nonly 0 0\nonly 0 0")), (.cst (.str "note *a\nfirst 3 0")), (.cst (.str "note a b c *d"))]), 
  .ret (.cmp .Eq (.lcp [("row", 8)] (.nm 8) (.itv (.var 6)) [] (.cal "_law_tried" S__law_tried 1 [] [(.var 8)])) (.lst false [(.cst (.int 1)), (.cst (.int 2)), (.cst (.int 2)), (.cst (.int 5)), (.cst (.int 2)), (.cst (.int 1))]))]
def S_law : Fn := fun as h => runF 1000000000 N_law.length (b_law S__law_source S_whole_text S__law_note S__law_policy S__law_bent S__law_tried S__law_read) as h
end Ev
end
noncomputable section
namespace Ev
open PySem L2
def low (y : Str) : Bool := !(Builtin.Str.occurrences "abcdefghijklmnopqrstuvwxyz" y 0 26 1).isEmpty
def isWord : D → Bool
  | .str x => decide (1 ≤ (x.length : Int)) && decide ((x.length : Int) ≤ 8) && x.cps.all fun c => low ⟨#[c]⟩
  | _ => false
theorem lit26 : (("abcdefghijklmnopqrstuvwxyz" : Str)).length = 26 := by decide +kernel
theorem in_low {h : LH} {x : Str} : inD h (.str x) (.str "abcdefghijklmnopqrstuvwxyz") = some (low x) := by simp only [inD, inS, lit26]; rfl
theorem is_word_ok {b n : Nat} {d : D} {h : LH} (hb : b ≤ sizeLine) (f : fit b n d) : S_is_word [d] h = .ok (.bl (isWord d)) h := by
  cases d with
  | str x =>
    have hx := (fit_str.mp f).1
    have hx2 : x.length ≤ sizeLine := Nat.le_trans hx hb
    have e : x.cps.size = x.length := rfl
    have e := lcp_map (own := [("letter", 1)]) (t := .nm 1) (elt := .cmp .In (.var 1) (.glob "LETTERS" c_LETTERS)) (s := []) (xs := x.cps.toList.map fun c => D.str ⟨#[c]⟩) (env := [some (.str x), none]) (h := h) (fun d => .bl (match d with | .str y => low y | _ => false)) srcOk_nil (by simp; omega) (by
      intro y hy
      obtain ⟨c, _, rfl⟩ := List.mem_map.mp hy
      exact ⟨_, rfl, by simp [c_LETTERS, in_low]⟩)
    simp only [S_is_word, b_is_word, N_is_word, runF_eq]
    by_cases h1 : 1 ≤ (x.length : Int) <;> by_cases h2 : (x.length : Int) ≤ 8 <;> simp [isWord, lenD_str hx2, e, h1, h2, Function.comp_def]
  | loc => simp at f
  | scr => simp at f
  | dct => simp at f
  | ins => simp at f
  | clo => simp at f
  | _ => simp [S_is_word, b_is_word, N_is_word, isWord, runF_eq]
def areWords (m : Int) : D → Bool
  | .tup ds => decide ((ds.length : Int) ≤ m) && ds.all isWord
  | _ => false
theorem are_words_ok {b n : Nat} {d : D} {m : Int} {h : LH} (hb : b ≤ sizeLine) (f : fit b n d) : S_are_words [d, .int m] h = .ok (.bl (areWords m d)) h := by
  cases d with
  | tup ds =>
    have hf := fit_tup1 f
    have e := lcp_map (own := [("word", 2)]) (t := .nm 2) (elt := .cal "is_word" S_is_word 1 [] [(.var 2)]) (s := []) (xs := ds) (env := [some (.tup ds), some (.int m), none]) (h := h) (fun d => .bl (isWord d)) srcOk_nil (by omega) (by
      intro y hy
      exact ⟨_, rfl, by simp [is_word_ok hb (hf.2 y hy)]⟩)
    simp only [S_are_words, b_are_words, N_are_words, runF_eq]
    by_cases h1 : (ds.length : Int) ≤ m <;> simp [areWords, e, h1, Function.comp_def]
  | loc => simp at f
  | scr => simp at f
  | dct => simp at f
  | ins => simp at f
  | clo => simp at f
  | _ => simp [S_are_words, b_are_words, N_are_words, areWords, runF_eq]
end Ev
end
noncomputable section
namespace Ev
open PySem L2
def isNote : D → Bool
  | .tup [a, w, c] => isWord w && areWords 2 a && areWords 2 c
  | _ => false
theorem isNote_ne {ds : List D} (h : ds.length ≠ 3) : isNote (.tup ds) = false := by
  unfold isNote
  split
  · rename_i e
    cases e
    simp at h
  · rfl
theorem is_note_ok {b n : Nat} {d : D} {h : LH} (hb : b ≤ sizeLine) (f : fit b n d) : S_is_note [d] h = .ok (.bl (isNote d)) h := by
  cases d with
  | tup ds =>
    have hf := fit_tup1 f
    simp only [S_is_note, b_is_note, N_is_note, runF_eq]
    by_cases h1 : ds.length = 3
    · obtain ⟨a, w, c, rfl⟩ := len3 h1
      simp at hf
      have e1 := is_word_ok (h := h) hb hf.2.2.1
      have e2 := are_words_ok (h := h) (m := 2) hb hf.2.1
      have e3 := are_words_ok (h := h) (m := 2) hb hf.2.2.2
      cases q1 : isWord w <;> cases q2 : areWords 2 a <;> simp [e1, q1, e2, q2, e3, isNote, c_MOST_AROUND]
    · simp [isNote_ne h1, ne3 h1]
  | loc => simp at f
  | scr => simp at f
  | dct => simp at f
  | ins => simp at f
  | clo => simp at f
  | _ => simp [S_is_note, b_is_note, N_is_note, isNote, runF_eq]
end Ev
end
noncomputable section
namespace Ev
open PySem L2
def isFrom (lo hi : Int) : D → Bool
  | .int i => decide (lo ≤ i) && decide (i ≤ hi)
  | _ => false
theorem is_from_ok {b n : Nat} {d : D} {lo hi : Int} {h : LH} (f : fit b n d) : S_is_from [d, .int lo, .int hi] h = .ok (.bl (isFrom lo hi d)) h := by
  cases d with
  | int i =>
    simp only [S_is_from, b_is_from, N_is_from, runF_eq]
    by_cases h1 : lo ≤ i <;> simp [isFrom, h1]
  | loc => simp at f
  | scr => simp at f
  | dct => simp at f
  | ins => simp at f
  | clo => simp at f
  | _ => simp [S_is_from, b_is_from, N_is_from, isFrom, runF_eq]
def isPick : D → Bool
  | .str x => (("first" : Str) == x || (("last" : Str) == x || ("only" : Str) == x))
  | _ => false
theorem is_pick_ok {b n : Nat} {d : D} {h : LH} (f : fit b n d) : S_is_pick [d] h = .ok (.bl (isPick d)) h := by
  cases d with
  | str x =>
    have hs := shaped_str (fit_str.mp f).2
    have hp : SeqAt.shaped (.list [.str "first", .str "last", .str "only"]) = true := by decide +kernel
    simp only [S_is_pick, b_is_pick, N_is_pick, runF_eq]
    simp [isPick, c_PICKS, inD, inS, pdT, pd, pds, hs, hp, PyData.eqv]
  | loc => simp at f
  | scr => simp at f
  | dct => simp at f
  | ins => simp at f
  | clo => simp at f
  | _ => simp [S_is_pick, b_is_pick, N_is_pick, isPick, runF_eq]
def isAttempt : D → Bool
  | .tup [a, w, c] => isPick c && isFrom 0 2 a && isFrom 0 2 w
  | _ => false
theorem isAttempt_ne {ds : List D} (h : ds.length ≠ 3) : isAttempt (.tup ds) = false := by
  unfold isAttempt
  split
  · rename_i e
    cases e
    simp at h
  · rfl
theorem is_attempt_ok {b n : Nat} {d : D} {h : LH} (f : fit b n d) : S_is_attempt [d] h = .ok (.bl (isAttempt d)) h := by
  cases d with
  | tup ds =>
    have hf := fit_tup1 f
    simp only [S_is_attempt, b_is_attempt, N_is_attempt, runF_eq]
    by_cases h1 : ds.length = 3
    · obtain ⟨a, w, c, rfl⟩ := len3 h1
      simp at hf
      have e1 := is_pick_ok (h := h) hf.2.2.2
      have e2 := is_from_ok (h := h) (lo := 0) (hi := 2) hf.2.1
      have e3 := is_from_ok (h := h) (lo := 0) (hi := 2) hf.2.2.1
      cases q1 : isPick c <;> cases q2 : isFrom 0 2 a <;> simp [e1, q1, e2, q2, e3, isAttempt, c_MOST_AROUND]
    · simp [isAttempt_ne h1, ne3 h1]
  | loc => simp at f
  | scr => simp at f
  | dct => simp at f
  | ins => simp at f
  | clo => simp at f
  | _ => simp [S_is_attempt, b_is_attempt, N_is_attempt, isAttempt, runF_eq]
def isPolicy : D → Bool
  | .tup ds => decide (1 ≤ (ds.length : Int)) && decide ((ds.length : Int) ≤ 2) && ds.all isAttempt
  | _ => false
theorem is_policy_ok {b n : Nat} {d : D} {h : LH} (hb : b ≤ sizeLine) (f : fit b n d) : S_is_policy [d] h = .ok (.bl (isPolicy d)) h := by
  cases d with
  | tup ds =>
    have hf := fit_tup1 f
    have e := lcp_map (own := [("attempt", 1)]) (t := .nm 1) (elt := .cal "is_attempt" S_is_attempt 1 [] [(.var 1)]) (s := []) (xs := ds) (env := [some (.tup ds), none]) (h := h) (fun d => .bl (isAttempt d)) srcOk_nil (by omega) (by
      intro y hy
      exact ⟨_, rfl, by simp [is_attempt_ok (hf.2 y hy)]⟩)
    simp only [S_is_policy, b_is_policy, N_is_policy, runF_eq]
    by_cases h1 : 1 ≤ (ds.length : Int) <;> by_cases h2 : (ds.length : Int) ≤ 2 <;> simp [isPolicy, e, h1, h2, Function.comp_def, c_MOST_ATTEMPTS]
  | loc => simp at f
  | scr => simp at f
  | dct => simp at f
  | ins => simp at f
  | clo => simp at f
  | _ => simp [S_is_policy, b_is_policy, N_is_policy, isPolicy, runF_eq]
end Ev
end
noncomputable section
namespace Ev
open PySem L2
theorem source_rest {F : Nat} {ns : List Int} {k : Nat} {h : LH} (z : Int) : ∃ o, fin (evSs F (b__law_source.drop 1) [some (.scr ns), some (.int k), some (.int z), none] h) = .ok (.loc h.length) (h ++ [o]) ∧ IsSrc o := by
  have h3 : 3 ≤ sizeLine := small1000 (by decide)
  simp only [b__law_source, List.drop_succ_cons, List.drop_zero]
  by_cases hz : 100000000000000000 < z <;> simp [hz, h3] <;> exact ⟨_, _, _, rfl⟩
theorem source_first {F : Nat} {ns : List Int} {k : Nat} {h : LH} : ∃ z : Int, evSs F (b__law_source.take 1) [some (.scr ns), some (.int k), none, none] h = .nx [some (.scr ns), some (.int k), some (.int z), none] h := by
  simp only [b__law_source, List.take_succ_cons, List.take_zero]
  by_cases hl : k < ns.length
  · have e := atI_nat (List.getElem?_eq_getElem hl)
    exact ⟨if ns[k] < 0 then -ns[k] else ns[k], by simp [hl, e]⟩
  · exact ⟨31 * (k : Int) + 5, by simp [hl]⟩
theorem source_ok {ns : List Int} {k : Nat} {h : LH} : ∃ o, S__law_source [.scr ns, .int k] h = .ok (.loc h.length) (h ++ [o]) ∧ IsSrc o := by
  obtain ⟨z, e⟩ := source_first (F := 1000000000) (ns := ns) (k := k) (h := h)
  obtain ⟨o, e2, so⟩ := source_rest (F := 1000000000) (ns := ns) (k := k) (h := h) z
  refine ⟨o, ?_, so⟩
  have q : b__law_source = b__law_source.take 1 ++ b__law_source.drop 1 := rfl
  simp only [S__law_source, runF_eq]
  rw [q, evSs_append]
  have q2 : ([D.scr ns, .int k].map some ++ List.replicate (N__law_source.length - [D.scr ns, .int k].length) none) = [some (.scr ns), some (.int k), none, none] := rfl
  rw [q2, e]
  exact e2
theorem draw_ok {h : LH} {n : Nat} {m : Int} (s : SrcAt n h) (hm : 0 < m) (hm2 : m < 18446744073709551616) : ∃ r h', S__law_draw [.loc n, .int m] h = .ok (.int r) h' ∧ Dr n h h' ∧ 0 ≤ r ∧ r < m := by
  have hn := s.lt
  obtain ⟨o, e, a, b, c, rfl⟩ := s
  have hl := log_small hm hm2
  have l2 : Nat.log2 128 < 9000 := by decide
  simp only [S__law_draw, b__law_draw, N__law_draw, runF_eq]
  by_cases ha : 0 < a
  · have q : ixN 3 0 = some 0 := by decide
    simp [idx_loc e, ha, hm, hl, e, q]
    exact ⟨_, _, ⟨rfl, rfl⟩, ⟨_, ⟨_, _, _, rfl⟩, rfl⟩, Int.emod_nonneg _ (by omega), Int.emod_lt_of_pos _ hm⟩
  · have q : ixN 3 2 = some 2 := by decide
    have q1 : ixN 3 1 = some 1 := by decide
    have e2 : (h.set n (.lst [.int a, .int b, .int (c + 1)]))[n]? = some (.lst [.int a, .int b, .int (c + 1)]) := List.getElem?_set_self hn
    have z (x : Int) : -18446744073709551616 < x % 4294967291 ∧ x % 4294967291 < 18446744073709551616 := by omega
    simp [idx_loc e, idx_loc e2, ha, hm, hl, e, q, q1, e2, l2, z]

    exact ⟨_, _, ⟨rfl, rfl⟩, ⟨_, ⟨_, _, _, rfl⟩, rfl⟩, Int.emod_nonneg _ (by omega), Int.emod_lt_of_pos _ hm⟩
theorem choice_ok {h : LH} {n : Nat} {ds : List D} (s : SrcAt n h) (hd : ds ≠ []) (hl : ds.length ≤ sizeLine) : ∃ d ∈ ds, ∃ h', S__law_choice [.loc n, .lst ds] h = .ok d h' ∧ Dr n h h' := by
  have hp : 0 < ds.length := List.length_pos_iff.mpr hd
  obtain ⟨r, h', e, d, r0, r1⟩ := draw_ok (m := (ds.length : Nat)) s (by omega) (by have : sizeLine = 16777216 := rfl; omega)
  obtain ⟨x, hx, ex⟩ := atI_mem r0 r1
  refine ⟨x, hx, h', ?_, d⟩
  simp only [S__law_choice, b__law_choice, N__law_choice, runF_eq]
  simp [e, ex]
theorem choice_tok {h : LH} {n : Nat} {ds : List D} (s : SrcAt n h) (hd : ds ≠ []) (hl : ds.length ≤ sizeLine) : ∃ d ∈ ds, ∃ h', S__law_choice [.loc n, .tup ds] h = .ok d h' ∧ Dr n h h' := by
  have hp : 0 < ds.length := List.length_pos_iff.mpr hd
  obtain ⟨r, h', e, d, r0, r1⟩ := draw_ok (m := (ds.length : Nat)) s (by omega) (by have : sizeLine = 16777216 := rfl; omega)
  obtain ⟨x, hx, ex⟩ := atI_mem r0 r1
  refine ⟨x, hx, h', ?_, d⟩
  simp only [S__law_choice, b__law_choice, N__law_choice, runF_eq]
  simp [e, ex]
end Ev
end
noncomputable section
namespace Ev
open PySem L2
/-- a word that fits -/
def Wd (d : D) : Prop := isWord d = true ∧ fit 8 0 d
theorem Wd.of {d : D} (h : (isWord d && fitB 8 0 d) = true) : Wd d := by
  rw [Bool.and_eq_true] at h
  exact ⟨h.1, fit_of h.2⟩
theorem menu_ok {h : LH} {n : Nat} (s : SrcAt n h) : ∃ ws h', S__law_menu [.loc n] h = .ok (.lst ws) h' ∧ Dr n h h' ∧ ws ≠ [] ∧ ws.length ≤ 3 ∧ ∀ w ∈ ws, Wd w := by
  obtain ⟨d, hd, h', e, r⟩ := choice_ok (ds := [.lst [.str "a"], .lst [.str "a", .str "b"], .lst [.str "a", .str "b"], .lst [.str "the", .str "cat", .str "sat"], .lst [.str "x", .str "zzzzzzzz"], .lst [.str "a", .str "aa", .str "b"]]) s (by simp) (big0 (by simp))
  have ev : S__law_menu [.loc n] h = .ok d h' := by
    simp only [S__law_menu, b__law_menu, N__law_menu, runF_eq]
    simp [e, big0 (show 1 ≤ 1000 by decide), big0 (show 2 ≤ 1000 by decide), big0 (show 3 ≤ 1000 by decide), big0 (show 6 ≤ 1000 by decide)]
  have w1 : ∀ w ∈ [D.str "a", .str "b", .str "the", .str "cat", .str "sat", .str "x", .str "zzzzzzzz", .str "aa"], Wd w := by
    have q : ([D.str "a", .str "b", .str "the", .str "cat", .str "sat", .str "x", .str "zzzzzzzz", .str "aa"].all fun w => isWord w && fitB 8 0 w) = true := by decide +kernel
    intro w hw
    exact Wd.of (List.all_eq_true.mp q w hw)
  simp only [List.mem_cons, List.not_mem_nil, or_false] at hd w1
  rcases hd with rfl | rfl | rfl | rfl | rfl | rfl <;> exact ⟨_, h', ev, r, by simp, by simp, by
    intro w hw
    simp only [List.mem_cons, List.not_mem_nil, or_false] at hw
    apply w1
    rcases hw with rfl | rfl | rfl <;> simp⟩
theorem row_ok {h : LH} {n : Nat} {ws : List D} {k : Nat} (s : SrcAt n h) (hw : ws ≠ []) (hl : ws.length ≤ sizeLine) (hk : k ≤ 1000) : ∃ ds h', S__law_row [.loc n, .lst ws, .int k] h = .ok (.tup ds) h' ∧ Dr n h h' ∧ ds.length ≤ k ∧ ∀ d ∈ ds, d ∈ ws := by
  obtain ⟨r, h1, e1, d1, r0, r1⟩ := draw_ok (m := (k : Int) + 1) s (by omega) (by omega)
  have s1 := d1.src s
  have hr : r.toNat ≤ 1000 := by omega
  obtain ⟨ds, h2, e2, d2, q, ql⟩ := lcp_inv (own := [("turn", 3)]) (t := .nm 3) (elt := .cal "_law_choice" S__law_choice 2 [] [(.var 0), (.var 1)]) (s := []) (xs := (List.range r.toNat).map fun i => D.int (i : Nat)) (env := [some (.loc n), some (.lst ws), some (.int k), none]) (h := h1) (fun h' => Dr n h1 h') (fun d => d ∈ ws) (fun _ _ => srcOk_nil) (by have := big0 hr; simpa using this) (Dr.refl s1) (by
    intro x hx h2 d2
    obtain ⟨d, hd, h3, e3, d3⟩ := choice_ok (d2.src s1) hw hl
    exact ⟨_, rfl, d, h3, by simp [e3], d2.trans d3, hd⟩)
  refine ⟨ds, h2, ?_, d1.trans d2, by simp at ql; omega, q⟩
  have b1 : -4611686018427387904 ≤ r ∧ r < 4611686018427387904 := by omega
  simp only [S__law_row, b__law_row, N__law_row, runF_eq]
  simp [e1, e2, b1]
/-- a note with at most k words around -/
def Note (k : Nat) (d : D) : Prop := ∃ as w bs, d = .tup [.tup as, w, .tup bs] ∧ as.length ≤ k ∧ bs.length ≤ k ∧ Wd w ∧ (∀ a ∈ as, Wd a) ∧ ∀ b ∈ bs, Wd b
theorem note_ok {h : LH} {n k : Nat} (s : SrcAt n h) (hk : k ≤ 1000) : ∃ d h', S__law_note [.loc n, .int k] h = .ok d h' ∧ Dr n h h' ∧ Note k d := by
  obtain ⟨ws, h1, e1, d1, w0, w1, w2⟩ := menu_ok s
  obtain ⟨as, h2, e2, d2, l2, q2⟩ := row_ok (k := k) (d1.src s) w0 (big0 (by omega)) hk
  obtain ⟨w, hw, h3, e3, d3⟩ := choice_ok ((d1.trans d2).src s) w0 (big0 (by omega))
  obtain ⟨bs, h4, e4, d4, l4, q4⟩ := row_ok (k := k) ((d1.trans (d2.trans d3)).src s) w0 (big0 (by omega)) hk
  refine ⟨_, h4, ?_, d1.trans (d2.trans (d3.trans d4)), as, w, bs, rfl, l2, l4, w2 w hw, fun a ha => w2 a (q2 a ha), fun b hb => w2 b (q4 b hb)⟩
  simp only [S__law_note, b__law_note, N__law_note, runF_eq]
  simp [e1, e2, e3, e4, big0 (show 3 ≤ 1000 by decide)]
def noteWords : D → List D
  | .tup [.tup as, w, .tup bs] => as ++ [w] ++ bs
  | _ => []
theorem noteWords_wd {k : Nat} {d : D} (hn : Note k d) : noteWords d ≠ [] ∧ (noteWords d).length ≤ 2 * k + 1 ∧ ∀ w ∈ noteWords d, Wd w := by
  obtain ⟨as, w, bs, rfl, l1, l2, qw, q1, q2⟩ := hn
  refine ⟨by simp [noteWords], by simp [noteWords]; omega, fun x hx => ?_⟩
  simp only [noteWords, List.mem_append, List.mem_singleton] at hx
  rcases hx with (hx | rfl) | hx
  · exact q1 x hx
  · exact qw
  · exact q2 x hx
theorem wd_fit {b n : Nat} {d : D} (hb : 8 ≤ b) (w : Wd d) : fit b n d := fit_mono hb (Nat.zero_le n) w.2
theorem note_fit {k : Nat} {d : D} (hk : k ≤ 100) (hn : Note k d) : fit 100 2 d := by
  obtain ⟨as, w, bs, rfl, l1, l2, qw, q1, q2⟩ := hn
  refine ⟨by simp, fun x hx => ?_⟩
  simp only [List.mem_cons, List.not_mem_nil, or_false] at hx
  rcases hx with rfl | rfl | rfl
  · exact ⟨by omega, fun a ha => wd_fit (by decide) (q1 a ha)⟩
  · exact wd_fit (by decide) qw
  · exact ⟨by omega, fun a ha => wd_fit (by decide) (q2 a ha)⟩
theorem text_fit {ds : List D} (l : ds.length ≤ 60) (q : ∀ w ∈ ds, Wd w) : fit 100 2 (.tup ds) := ⟨by omega, fun a ha => wd_fit (by decide) (q a ha)⟩
end Ev
end
noncomputable section
namespace Ev
open PySem L2
/-- an attempt, its numbers at most k -/
def Att (k : Nat) (d : D) : Prop := ∃ (x y : Nat) (p : Str), d = .tup [.int x, .int y, .str p] ∧ x ≤ k ∧ y ≤ k ∧ (p = "only" ∨ p = "first" ∨ p = "last")
theorem attempt_ok {h : LH} {n k : Nat} (s : SrcAt n h) (hk : k ≤ 1000) : ∃ d h', S__law_attempt [.loc n, .int k] h = .ok d h' ∧ Dr n h h' ∧ Att k d := by
  obtain ⟨p, hp, h1, e1, d1⟩ := choice_ok (ds := [.str "only", .str "only", .str "first", .str "last"]) s (by simp) (big0 (by simp))
  obtain ⟨x, h2, e2, d2, x0, x1⟩ := draw_ok (m := (k : Int) + 1) (d1.src s) (by omega) (by omega)
  obtain ⟨y, h3, e3, d3, y0, y1⟩ := draw_ok (m := (k : Int) + 1) ((d1.trans d2).src s) (by omega) (by omega)
  refine ⟨.tup [.int x, .int y, p], h3, ?_, d1.trans (d2.trans d3), ?_⟩
  · simp only [S__law_attempt, b__law_attempt, N__law_attempt, runF_eq]
    simp [e1, e2, e3, big0 (show 3 ≤ 1000 by decide), big0 (show 4 ≤ 1000 by decide)]
  · obtain ⟨x, rfl⟩ := Int.eq_ofNat_of_zero_le x0
    obtain ⟨y, rfl⟩ := Int.eq_ofNat_of_zero_le y0
    simp only [List.mem_cons, List.not_mem_nil, or_false] at hp
    rcases hp with rfl | rfl | rfl | rfl
    · exact ⟨x, y, _, rfl, by omega, by omega, .inl rfl⟩
    · exact ⟨x, y, _, rfl, by omega, by omega, .inl rfl⟩
    · exact ⟨x, y, _, rfl, by omega, by omega, .inr (.inl rfl)⟩
    · exact ⟨x, y, _, rfl, by omega, by omega, .inr (.inr rfl)⟩
def Pol (k : Nat) (d : D) : Prop := ∃ as, d = .tup as ∧ 1 ≤ as.length ∧ as.length ≤ 2 ∧ ∀ a ∈ as, Att k a
theorem policy_ok {h : LH} {n k : Nat} (s : SrcAt n h) (hk : k ≤ 1000) : ∃ d h', S__law_policy [.loc n, .int k] h = .ok d h' ∧ Dr n h h' ∧ Pol k d := by
  obtain ⟨r, h1, e1, d1, r0, r1⟩ := draw_ok (m := 2) s (by omega) (by omega)
  have s1 := d1.src s
  obtain ⟨ds, h2, e2, d2, q, ql⟩ := lcp_inv (own := [("turn", 2)]) (t := .nm 2) (elt := .cal "_law_attempt" S__law_attempt 2 [] [(.var 0), (.var 1)]) (s := []) (xs := (List.range (1 + r).toNat).map fun i => D.int (i : Nat)) (env := [some (.loc n), some (.int k), none]) (h := h1) (fun h' => Dr n h1 h') (Att k) (fun _ _ => srcOk_nil) (by have := big0 (show (1 + r).toNat ≤ 1000 by omega); simpa using this) (Dr.refl s1) (by
    intro x hx h2 d2
    obtain ⟨d, h3, e3, d3, hd⟩ := attempt_ok (d2.src s1) hk
    exact ⟨_, rfl, d, h3, by simp [e3], d2.trans d3, hd⟩)
  refine ⟨.tup ds, h2, ?_, d1.trans d2, ds, rfl, by simp at ql; omega, by simp at ql; omega, q⟩
  have b1 : -4611686018427387904 ≤ 1 + r ∧ 1 + r < 4611686018427387904 := by omega
  simp only [S__law_policy, b__law_policy, N__law_policy, runF_eq]
  simp [e1, e2, b1]
theorem att_fit {k n : Nat} {d : D} (h : Att k d) : fit 100 (n + 1) d := by
  obtain ⟨x, y, p, rfl, _, _, hp⟩ := h
  have q : ([D.str "only", .str "first", .str "last"].all fun d => fitB 100 0 d) = true := by decide +kernel
  have z : fit 100 0 (.str p) := fit_of (List.all_eq_true.mp q _ (by rcases hp with rfl | rfl | rfl <;> simp))
  exact ⟨by simp, by
    intro d hd
    simp only [List.mem_cons, List.not_mem_nil, or_false] at hd
    rcases hd with rfl | rfl | rfl
    · simp
    · simp
    · exact fit_mono (Nat.le_refl _) (Nat.zero_le _) z⟩
theorem pol_fit {k : Nat} {d : D} (h : Pol k d) : fit 100 2 d := by
  obtain ⟨as, rfl, _, l, q⟩ := h
  exact ⟨by omega, fun a ha => att_fit (q a ha)⟩
end Ev
end
noncomputable section
namespace Ev
open PySem L2
/-- a word, as a text -/
abbrev WS (x : Str) : Prop := Wd (.str x)
theorem Wd.str {d : D} (h : Wd d) : ∃ x, d = .str x := by
  cases d with
  | str x => exact ⟨x, rfl⟩
  | _ => simp [Wd, isWord] at h
theorem words_strs : ∀ {ds : List D}, (∀ d ∈ ds, Wd d) → ∃ xs : List Str, ds = xs.map D.str ∧ ∀ x ∈ xs, WS x
  | [], _ => ⟨[], rfl, by simp⟩
  | d :: ds, h => by
    obtain ⟨x, rfl⟩ := (h d List.mem_cons_self).str
    obtain ⟨xs, rfl, q⟩ := words_strs fun y hy => h y (List.mem_cons_of_mem _ hy)
    refine ⟨x :: xs, rfl, fun y hy => ?_⟩
    rcases List.mem_cons.mp hy with rfl | hy
    · exact h _ List.mem_cons_self
    · exact q y hy
theorem WS.ok {x : Str} (h : WS x) : PyData.strOk x = true := (fit_str.mp h.2).2
theorem WS.fits {x : Str} (h : WS x) : x.length ≤ 8 := (fit_str.mp h.2).1
/-- a note by its words, at most k around -/
structure NtOk (k : Nat) (as : List Str) (w : Str) (bs : List Str) : Prop where
  la : as.length ≤ k
  lb : bs.length ≤ k
  qa : ∀ x ∈ as, WS x
  qw : WS w
  qb : ∀ x ∈ bs, WS x
theorem Note.nt {k : Nat} {d : D} (h : Note k d) : ∃ as w bs, d = nt as w bs ∧ NtOk k as w bs := by
  obtain ⟨as, w, bs, rfl, l1, l2, qw, q1, q2⟩ := h
  obtain ⟨w, rfl⟩ := qw.str
  obtain ⟨as, rfl, q3⟩ := words_strs q1
  obtain ⟨bs, rfl, q4⟩ := words_strs q2
  exact ⟨as, w, bs, rfl, by simpa using l1, by simpa using l2, q3, qw, q4⟩
theorem NtOk.note {k : Nat} {as bs : List Str} {w : Str} (h : NtOk k as w bs) : Note k (nt as w bs) :=
  ⟨_, _, _, rfl, by simpa using h.la, by simpa using h.lb, h.qw, fun a ha => by obtain ⟨x, hx, rfl⟩ := List.mem_map.mp ha; exact h.qa x hx, fun a ha => by obtain ⟨x, hx, rfl⟩ := List.mem_map.mp ha; exact h.qb x hx⟩
theorem areWords_tx {xs : List Str} {m : Nat} (hl : xs.length ≤ m) (h : ∀ x ∈ xs, WS x) : areWords m (tx xs) = true := by
  simp only [areWords, tx, Bool.and_eq_true, decide_eq_true_eq, List.length_map, List.all_eq_true]
  refine ⟨by omega, fun d hd => ?_⟩
  obtain ⟨x, hx, rfl⟩ := List.mem_map.mp hd
  exact (h x hx).1
theorem NtOk.fits {k : Nat} {as bs : List Str} {w : Str} (h : NtOk k as w bs) (hk : k ≤ 100) : fit 100 2 (nt as w bs) := note_fit hk h.note
theorem tx_fits {xs : List Str} (hl : xs.length ≤ 100) (h : ∀ x ∈ xs, WS x) : fit 100 2 (tx xs) := tx_fit (n := 1) hl fun x hx => ⟨Nat.le_trans (h x hx).fits (by decide), (h x hx).ok⟩
end Ev
end
noncomputable section
namespace Ev
open PySem L2
theorem NtOk.isNote {as bs : List Str} {w : Str} (h : NtOk 2 as w bs) : isNote (nt as w bs) = true := by
  have e1 := areWords_tx (m := 2) h.la h.qa
  have e2 := areWords_tx (m := 2) h.lb h.qb
  have e3 := h.qw.1
  simp only [Ev.isNote, Bool.and_eq_true]
  exact ⟨⟨e3, e1⟩, e2⟩
theorem need_note_ok {b n : Nat} {d : D} {h : LH} (hb : b ≤ sizeLine) (f : fit b n d) (q : isNote d = true) : S_need_note [d] h = .ok .non h := by
  simp only [S_need_note, b_need_note, N_need_note, runF_eq]
  simp [is_note_ok hb f, q]
theorem nt_need {as bs : List Str} {w : Str} {h : LH} (q : NtOk 2 as w bs) : S_need_note [nt as w bs] h = .ok .non h := need_note_ok (le_line (by decide)) (q.fits (by decide)) q.isNote
end Ev
end
noncomputable section
namespace Ev
open PySem L2
theorem isFrom_nat {x : Nat} (h : x ≤ 2) : isFrom 0 2 (.int (x : Nat)) = true := by
  simp only [isFrom, Bool.and_eq_true, decide_eq_true_eq]
  omega
theorem Pol.isPolicy {d : D} (h : Pol 2 d) : isPolicy d = true := by
  obtain ⟨as, rfl, h1, h2, q⟩ := h
  simp only [Ev.isPolicy, Bool.and_eq_true, decide_eq_true_eq, List.all_eq_true]
  refine ⟨⟨by omega, by omega⟩, fun a ha => ?_⟩
  obtain ⟨x, y, p, rfl, hx, hy, hp⟩ := q a ha
  have e : isPick (.str p) = true := by rcases hp with rfl | rfl | rfl <;> decide +kernel
  simp only [isAttempt, e, isFrom_nat hx, isFrom_nat hy, Bool.and_self]
theorem need_policy_ok {b n : Nat} {d : D} {h : LH} (hb : b ≤ sizeLine) (f : fit b n d) (q : isPolicy d = true) : S_need_policy [d] h = .ok .non h := by
  simp only [S_need_policy, b_need_policy, N_need_policy, runF_eq]
  simp [is_policy_ok hb f, q]
theorem pol_need {d : D} {h : LH} (q : Pol 2 d) : S_need_policy [d] h = .ok .non h := need_policy_ok (le_line (by decide)) (pol_fit q) q.isPolicy
theorem need_both_ok {as bs : List Str} {w : Str} {d : D} {h : LH} (q : NtOk 2 as w bs) (q2 : Pol 2 d) : S_need_both [nt as w bs, d] h = .ok .non h := by
  have e1 := nt_need (h := h) q
  have e2 := pol_need (h := h) q2
  generalize nt as w bs = N at *
  simp only [S_need_both, b_need_both, N_need_both, runF_eq]
  simp [e1, e2]
end Ev
end
noncomputable section
namespace Ev
open PySem L2
theorem low_iff {c : Nat} : low ⟨#[c]⟩ = true ↔ 97 ≤ c ∧ c ≤ 122 := by
  have e : low ⟨#[c]⟩ = decide (c ∈ ("abcdefghijklmnopqrstuvwxyz" : Str).cps.toList) := by
    have := PySem.StrLaws.found_one "abcdefghijklmnopqrstuvwxyz" c
    rw [lit26] at this
    exact this
  have l : ("abcdefghijklmnopqrstuvwxyz" : Str).cps.toList = List.range' 97 26 := by decide +kernel
  rw [e, l, decide_eq_true_iff, List.mem_range'_1]
  omega
theorem WS.chars {x : Str} (h : WS x) : ∀ c ∈ TL.tl x, 97 ≤ c ∧ c ≤ 122 := by
  intro c hc
  have q := h.1
  simp only [isWord, Bool.and_eq_true] at q
  have q2 := q.2
  rw [← Array.all_toList] at q2
  exact low_iff.mp (List.all_eq_true.mp q2 c hc)
theorem WS.pos {x : Str} (h : WS x) : 1 ≤ x.length := by
  have q := h.1
  simp only [isWord, Bool.and_eq_true, decide_eq_true_eq] at q
  omega
theorem mem_joinL {S : List Nat} {c : Nat} : ∀ {l : List (List Nat)}, c ∈ TL.joinL S l → c ∈ S ∨ ∃ p ∈ l, c ∈ p
  | [], h => by simp [TL.joinL] at h
  | [p], h => .inr ⟨p, by simp, h⟩
  | p :: q :: r, h => by
    simp only [TL.joinL, List.mem_append] at h
    rcases h with h | h | h
    · exact .inr ⟨p, by simp, h⟩
    · exact .inl h
    · rcases mem_joinL h with h | ⟨z, hz, h⟩
      · exact .inl h
      · exact .inr ⟨z, List.mem_cons_of_mem _ hz, h⟩
theorem mem_join {sep : Str} {parts : List Str} {c : Nat} (h : c ∈ TL.tl (Txt.join sep parts)) : c ∈ TL.tl sep ∨ ∃ p ∈ parts, c ∈ TL.tl p := by
  rw [TL.join_eq, TL.tl_join] at h
  rcases mem_joinL h with h | ⟨z, hz, h⟩
  · exact .inl h
  · obtain ⟨p, hp, rfl⟩ := List.mem_map.mp hz
    exact .inr ⟨p, hp, h⟩
theorem join_cons {sep a b : Str} {r : List Str} : Txt.join sep (a :: b :: r) = a ++ sep ++ Txt.join sep (b :: r) := by
  rw [TL.join_eq, TL.join_eq]
  rfl
theorem str_assoc {a b c : Str} : a ++ b ++ c = a ++ (b ++ c) := TL.ext_tl (by simp only [TL.tl_append, List.append_assoc])
theorem ok_of {x : Str} (h : ∀ c ∈ TL.tl x, c < 1114112) : PyData.strOk x = true := by
  unfold PyData.strOk
  rw [← Array.all_toList, List.all_eq_true]
  intro c hc
  exact decide_eq_true (h c hc)
theorem join_len {sep : Str} {parts : List Str} : (Txt.join sep parts).length ≤ (parts.map (·.length)).sum + parts.length * sep.length := by
  rw [TL.join_eq]
  exact PySem.StrLaws.join_length_le sep parts
theorem sum_le {k : Nat} : ∀ {l : List Str}, (∀ x ∈ l, x.length ≤ k) → (l.map (·.length)).sum ≤ l.length * k
  | [], _ => by simp
  | x :: l, h => by
    have h1 := h x List.mem_cons_self
    have h2 := sum_le fun y hy => h y (List.mem_cons_of_mem _ hy)
    simp only [List.map_cons, List.sum_cons, List.length_cons, Nat.succ_mul]
    omega
theorem tl_lits : TL.tl " " = [32] ∧ TL.tl "\n" = [10] ∧ TL.tl "*" = [42] ∧ TL.tl "note" = [110, 111, 116, 101] := by decide +kernel
theorem len_lits : (" " : Str).length = 1 ∧ ("\n" : Str).length = 1 ∧ ("*" : Str).length = 1 ∧ ("note" : Str).length = 4 := by decide +kernel
theorem split_sp {parts : List Str} (h : parts ≠ []) (q : ∀ p ∈ parts, 32 ∉ TL.tl p) : Txt.split (Txt.join " " parts) " " = parts :=
  TL.split_join (s := 32) (S := []) tl_lits.1 (by decide +kernel) h q
theorem split_nl {parts : List Str} (h : parts ≠ []) (q : ∀ p ∈ parts, 10 ∉ TL.tl p) : Txt.split (Txt.join "\n" parts) "\n" = parts :=
  TL.split_join (s := 10) (S := []) tl_lits.2.1 (by decide +kernel) h q
/-- x[1:] of a sign and a text, x[:1] -/
theorem cut_star {w : Str} : cutS ("*" ++ w) (some 1) none = w := by
  refine TL.ext_tl ?_
  have e : TL.tl ("*" ++ w) = 42 :: TL.tl w := by rw [TL.tl_append, tl_lits.2.2.1]; rfl
  have l : ("*" ++ w : Str).length = (TL.tl w).length + 1 := by rw [TL.len_tl, e]; rfl
  show TL.tl (cutS ("*" ++ w) (some 1) none) = TL.tl w
  unfold cutS
  show ((TL.tl ("*" ++ w)).drop _).take _ = _
  rw [e, l]
  simp [HT.sIx]
  exact List.take_of_length_le (by simp)
theorem cut_one {x : Str} {c : Nat} {r : List Nat} (e : TL.tl x = c :: r) : cutS x none (some 1) = ⟨#[c]⟩ := by
  refine TL.ext_tl ?_
  have l : x.length = r.length + 1 := by rw [TL.len_tl, e]; rfl
  unfold cutS
  show ((TL.tl x).drop _).take _ = _
  rw [e, l]
  simp [HT.sIx]
def numS (n : Nat) : Str := toString ((n : Nat) : Int)
theorem numS_cases {n : Nat} (h : n ≤ 2) : (n = 0 ∧ numS n = "0") ∨ (n = 1 ∧ numS n = "1") ∨ (n = 2 ∧ numS n = "2") := by
  match n, h with
  | 0, _ => exact .inl ⟨rfl, by decide +kernel⟩
  | 1, _ => exact .inr (.inl ⟨rfl, by decide +kernel⟩)
  | 2, _ => exact .inr (.inr ⟨rfl, by decide +kernel⟩)
  | n + 3, h => omega
theorem num_tl {n : Nat} (h : n ≤ 2) : TL.tl (numS n) = [48 + n] := by
  rcases numS_cases h with ⟨rfl, e⟩ | ⟨rfl, e⟩ | ⟨rfl, e⟩ <;> rw [e] <;> decide +kernel
theorem num_int {n : Nat} (h : n ≤ 2) : PySem.intText? (numS n) = some (n : Int) := by
  rcases numS_cases h with ⟨rfl, e⟩ | ⟨rfl, e⟩ | ⟨rfl, e⟩ <;> rw [e] <;> decide +kernel
end Ev
end
noncomputable section
namespace Ev
open PySem L2
structure At where
  x : Nat
  y : Nat
  p : Str
def At.d (a : At) : D := .tup [.int a.x, .int a.y, .str a.p]
structure At.Ok (a : At) : Prop where
  hx : a.x ≤ 2
  hy : a.y ≤ 2
  hp : a.p = "only" ∨ a.p = "first" ∨ a.p = "last"
theorem Att.at {d : D} (h : Att 2 d) : ∃ a : At, d = a.d ∧ a.Ok := by
  obtain ⟨x, y, p, rfl, hx, hy, hp⟩ := h
  exact ⟨⟨x, y, p⟩, rfl, hx, hy, hp⟩
theorem atts_at : ∀ {ds : List D}, (∀ d ∈ ds, Att 2 d) → ∃ as : List At, ds = as.map At.d ∧ ∀ a ∈ as, a.Ok
  | [], _ => ⟨[], rfl, by simp⟩
  | d :: ds, h => by
    obtain ⟨a, rfl, ha⟩ := (h d List.mem_cons_self).at
    obtain ⟨as, rfl, q⟩ := atts_at fun y hy => h y (List.mem_cons_of_mem _ hy)
    refine ⟨a :: as, rfl, fun y hy => ?_⟩
    rcases List.mem_cons.mp hy with rfl | hy
    · exact ha
    · exact q y hy
theorem pick_tl {p : Str} (h : p = "only" ∨ p = "first" ∨ p = "last") : (∀ c ∈ TL.tl p, 97 ≤ c ∧ c ≤ 122) ∧ p.length ≤ 5 := by
  have q : (["only", "first", "last"] : List Str).all (fun p => (TL.tl p).all (fun c => decide (97 ≤ c ∧ c ≤ 122)) && decide (p.length ≤ 5)) = true := by decide +kernel
  have := List.all_eq_true.mp q p (by rcases h with rfl | rfl | rfl <;> simp)
  simp only [Bool.and_eq_true, List.all_eq_true, decide_eq_true_eq] at this
  exact this
def noteParts (as : List Str) (w : Str) (bs : List Str) : List Str := ([("note" : Str)] ++ as ++ [("*" : Str) ++ w] ++ bs)
def noteLine (as : List Str) (w : Str) (bs : List Str) : Str := Txt.join " " (noteParts as w bs)
def At.parts (a : At) : List Str := [a.p, numS a.x, numS a.y]
def At.line (a : At) : Str := Txt.join " " a.parts
def wlines (as : List Str) (w : Str) (bs : List Str) (ps : List At) : List Str := noteLine as w bs :: ps.map At.line
def wtext (as : List Str) (w : Str) (bs : List Str) (ps : List At) : Str := Txt.join "\n" (wlines as w bs ps)
section
variable {as bs : List Str} {w : Str} {ps : List At}
theorem notePart_chars (q : NtOk 2 as w bs) : ∀ p ∈ noteParts as w bs, ∀ c ∈ TL.tl p, 97 ≤ c ∧ c ≤ 122 ∨ c = 42 := by
  intro p hp c hc
  simp only [noteParts, List.mem_append, List.mem_singleton] at hp
  rcases hp with ((rfl | hp) | rfl) | hp
  · rw [tl_lits.2.2.2] at hc
    simp only [List.mem_cons, List.not_mem_nil, or_false] at hc
    left; omega
  · exact .inl ((q.qa p hp).chars c hc)
  · rw [TL.tl_append, tl_lits.2.2.1] at hc
    simp only [List.cons_append, List.nil_append, List.mem_cons] at hc
    rcases hc with rfl | hc
    · exact .inr rfl
    · exact .inl (q.qw.chars c hc)
  · exact .inl ((q.qb p hp).chars c hc)
theorem notePart_len (q : NtOk 2 as w bs) : ∀ p ∈ noteParts as w bs, p.length ≤ 9 := by
  intro p hp
  simp only [noteParts, List.mem_append, List.mem_singleton] at hp
  rcases hp with ((rfl | hp) | rfl) | hp
  · rw [len_lits.2.2.2]; omega
  · have := (q.qa p hp).fits; omega
  · have := q.qw.fits
    have e : ("*" ++ w : Str).length = w.length + 1 := by rw [TL.len_tl, TL.tl_append, tl_lits.2.2.1, TL.len_tl w]; simp
    omega
  · have := (q.qb p hp).fits; omega
theorem noteParts_len (q : NtOk 2 as w bs) : (noteParts as w bs).length ≤ 6 := by
  have := q.la
  have := q.lb
  simp [noteParts]
  omega
theorem noteLine_chars (q : NtOk 2 as w bs) : ∀ c ∈ TL.tl (noteLine as w bs), 97 ≤ c ∧ c ≤ 122 ∨ c = 42 ∨ c = 32 := by
  intro c hc
  rcases mem_join hc with h | ⟨p, hp, h⟩
  · rw [tl_lits.1] at h; simp at h; exact .inr (.inr h)
  · rcases notePart_chars q p hp c h with h | h
    · exact .inl h
    · exact .inr (.inl h)
theorem noteLine_len (q : NtOk 2 as w bs) : (noteLine as w bs).length ≤ 60 := by
  have h1 := join_len (sep := " ") (parts := noteParts as w bs)
  have h2 := sum_le (notePart_len q)
  have h3 := noteParts_len q
  rw [len_lits.1] at h1
  unfold noteLine
  omega
theorem atPart_chars {a : At} (h : a.Ok) : ∀ p ∈ a.parts, ∀ c ∈ TL.tl p, 97 ≤ c ∧ c ≤ 122 ∨ 48 ≤ c ∧ c ≤ 50 := by
  intro p hp c hc
  simp only [At.parts, List.mem_cons, List.not_mem_nil, or_false] at hp
  have hx := h.hx
  have hy := h.hy
  rcases hp with rfl | rfl | rfl
  · exact .inl ((pick_tl h.hp).1 c hc)
  · rw [num_tl hx] at hc; simp at hc; right; omega
  · rw [num_tl hy] at hc; simp at hc; right; omega
theorem atPart_len {a : At} (h : a.Ok) : ∀ p ∈ a.parts, p.length ≤ 5 := by
  intro p hp
  simp only [At.parts, List.mem_cons, List.not_mem_nil, or_false] at hp
  rcases hp with rfl | rfl | rfl
  · exact (pick_tl h.hp).2
  · rw [TL.len_tl, num_tl h.hx]; simp
  · rw [TL.len_tl, num_tl h.hy]; simp
theorem atLine_chars {a : At} (h : a.Ok) : ∀ c ∈ TL.tl a.line, 97 ≤ c ∧ c ≤ 122 ∨ 48 ≤ c ∧ c ≤ 50 ∨ c = 32 := by
  intro c hc
  rcases mem_join hc with z | ⟨p, hp, z⟩
  · rw [tl_lits.1] at z; simp at z; exact .inr (.inr z)
  · rcases atPart_chars h p hp c z with z | z
    · exact .inl z
    · exact .inr (.inl z)
theorem atLine_len {a : At} (h : a.Ok) : a.line.length ≤ 18 := by
  have h1 := join_len (sep := " ") (parts := a.parts)
  have h2 := sum_le (atPart_len h)
  rw [len_lits.1] at h1
  have h3 : a.parts.length = 3 := rfl
  unfold At.line
  omega
theorem wline_len (q : NtOk 2 as w bs) (h : ∀ a ∈ ps, a.Ok) : ∀ l ∈ wlines as w bs ps, l.length ≤ 60 := by
  intro l hl
  rcases List.mem_cons.mp hl with rfl | hl
  · exact noteLine_len q
  · obtain ⟨a, ha, rfl⟩ := List.mem_map.mp hl
    have := atLine_len (h a ha)
    omega
theorem wline_chars (q : NtOk 2 as w bs) (h : ∀ a ∈ ps, a.Ok) : ∀ l ∈ wlines as w bs ps, ∀ c ∈ TL.tl l, 32 ≤ c ∧ c ≤ 122 := by
  intro l hl c hc
  rcases List.mem_cons.mp hl with rfl | hl
  · rcases noteLine_chars q c hc with z | z | z <;> omega
  · obtain ⟨a, ha, rfl⟩ := List.mem_map.mp hl
    rcases atLine_chars (h a ha) c hc with z | z | z <;> omega
theorem wtext_split (q : NtOk 2 as w bs) (h : ∀ a ∈ ps, a.Ok) : Txt.split (wtext as w bs ps) "\n" = wlines as w bs ps :=
  split_nl (by simp [wlines]) fun p hp hc => by
    have := wline_chars q h p hp 10 hc
    omega
theorem wtext_ok (q : NtOk 2 as w bs) (h : ∀ a ∈ ps, a.Ok) : PyData.strOk (wtext as w bs ps) = true := ok_of fun c hc => by
  rcases mem_join hc with z | ⟨p, hp, z⟩
  · rw [tl_lits.2.1] at z; simp at z; omega
  · have := wline_chars q h p hp c z
    omega
theorem wtext_len (q : NtOk 2 as w bs) (h : ∀ a ∈ ps, a.Ok) (hl : ps.length ≤ 2) : (wtext as w bs ps).length ≤ 200 := by
  have h1 := join_len (sep := "\n") (parts := wlines as w bs ps)
  have h2 := sum_le (wline_len q h)
  have h3 : (wlines as w bs ps).length ≤ 3 := by simp [wlines]; omega
  rw [len_lits.2.1] at h1
  unfold wtext
  omega
/-- the joined pieces, one behind another -/
theorem atLine_eq {a : At} : a.line = a.p ++ " " ++ numS a.x ++ " " ++ numS a.y := by
  unfold At.line At.parts
  rw [join_cons, join_cons]
  have : Txt.join " " [numS a.y] = numS a.y := by rw [TL.join_eq]; rfl
  rw [this]
  simp only [str_assoc]
theorem strs_all (l : List Str) : strsOf (l.map D.str) = some l := by
  have := strs_map id l
  rw [List.map_id] at this
  exact this
theorem strs_nt {h : LH} : strsOf ((noteParts as w bs).map D.str) = some (noteParts as w bs) := strs_all _
theorem lines_of_ok {h : LH} (q : NtOk 2 as w bs) (hp : ∀ a ∈ ps, a.Ok) (hl : ps.length ≤ 2) : S_lines_of [nt as w bs, .tup (ps.map At.d)] h = .ok (.lst ((wlines as w bs ps).map D.str)) h := by
  have la := q.la
  have lb := q.lb
  have z1 : (1 : Nat) + as.length ≤ sizeLine := le_line1 (by omega)
  have z2 : (1 : Nat) + as.length + 1 ≤ sizeLine := le_line1 (by omega)
  have z3 : (1 : Nat) + as.length + 1 + bs.length ≤ sizeLine := le_line1 (by omega)
  have z4 : ("*" : Str).length + w.length ≤ sizeLine := le_line1 (by have := q.qw.fits; rw [len_lits.2.2.1]; omega)
  have js : ((noteParts as w bs).map (·.length)).sum + (noteParts as w bs).length * (" " : Str).length ≤ 16777216 := by
    have h2 := sum_le (notePart_len q)
    have h3 := noteParts_len q
    rw [len_lits.1]
    omega
  have e1 : evE (.met .join false (.cst (.str " ")) [(.bin .Add false (.bin .Add false (.bin .Add false (.tup [(.cst (.str "note"))]) (.idx (.var 0) (.cst (.int 0)))) (.tup [(.bin .Add false (.glob "SIGN" c_SIGN) (.idx (.var 0) (.cst (.int 1))))])) (.idx (.var 0) (.cst (.int 2))))]) [some (nt as w bs), some (.tup (ps.map At.d)), none, none] h = .ok (.str (noteLine as w bs)) h := by
    have e : (D.str "note" :: (as.map D.str ++ (D.str ("*" ++ w) :: bs.map D.str))) = (noteParts as w bs).map D.str := by simp [noteParts]
    have z1' : as.length + 1 ≤ sizeLine := by omega
    have z2' : as.length + 1 + 1 ≤ sizeLine := by omega
    have z3' : as.length + 1 + 1 + bs.length ≤ sizeLine := by omega
    have jn : mtF .join false (.str " ") [.tup ((noteParts as w bs).map D.str)] h = .ok (.str (noteLine as w bs)) h := by
      rw [mt_join]
      simp only [asS_tup, Option.bind_some, strs_nt (h := h), js, if_true]
      rfl
    simp [nt, tx, c_SIGN, z4, z1, z2, z3, z1', z2', z3', le_line1 (show 1 ≤ 100000 by decide), e, jn, -mt_join]
  have e2 := lcp_map (own := [("attempt", 3)]) (t := .nm 3) (elt := (.bin .Add false (.bin .Add false (.bin .Add false (.bin .Add false (.idx (.var 3) (.cst (.int 2))) (.cst (.str " "))) (.bui .str1 false [(.idx (.var 3) (.cst (.int 0)))])) (.cst (.str " "))) (.bui .str1 false [(.idx (.var 3) (.cst (.int 1)))]))) (s := []) (xs := ps.map At.d) (env := [some (nt as w bs), some (.tup (ps.map At.d)), some (.str (noteLine as w bs)), none]) (h := h) (fun d => match d with | .tup [.int x, .int y, .str p] => .str (At.line ⟨x.toNat, y.toNat, p⟩) | _ => .non) srcOk_nil (le_line1 (by simp; omega)) (by
    intro d hd
    obtain ⟨a, ha, rfl⟩ := List.mem_map.mp hd
    obtain ⟨x, y, p⟩ := a
    have ok := hp _ ha
    have p5 := (pick_tl ok.hp).2
    have hx := ok.hx
    have hy := ok.hy
    simp only at p5 hx hy
    have nx : (numS x).length = 1 := by rw [TL.len_tl, num_tl hx]; rfl
    have ny : (numS y).length = 1 := by rw [TL.len_tl, num_tl hy]; rfl
    have lg (n : Nat) (hn : n ≤ 2) : (n : Int).natAbs.log2 < 1920 := by
      rw [Int.natAbs_natCast]
      have : n.log2 ≤ n := Nat.log2_le_self n
      omega
    have a1 (u v : Str) : (u ++ v).length = u.length + v.length := by rw [TL.len_tl, TL.tl_append, TL.len_tl u, TL.len_tl v, List.length_append]
    refine ⟨_, rfl, ?_⟩
    have t1 : p.length + (" " : Str).length ≤ sizeLine := le_line1 (by rw [len_lits.1]; omega)
    have t2 : (p ++ " ").length + (numS x).length ≤ sizeLine := le_line1 (by rw [a1, nx, len_lits.1]; omega)
    have t3 : (p ++ " " ++ numS x).length + (" " : Str).length ≤ sizeLine := le_line1 (by rw [a1, a1, nx, len_lits.1]; omega)
    have t4 : (p ++ " " ++ numS x ++ " ").length + (numS y).length ≤ sizeLine := le_line1 (by rw [a1, a1, a1, nx, ny, len_lits.1]; omega)
    have n1 : biF .str1 false [.int (x : Int)] h = .ok (.str (numS x)) h := by rw [bi_str, if_pos (lg x hx)]; rfl
    have n2 : biF .str1 false [.int (y : Int)] h = .ok (.str (numS y)) h := by rw [bi_str, if_pos (lg y hy)]; rfl
    have fin : At.line ⟨x, y, p⟩ = p ++ " " ++ numS x ++ " " ++ numS y := atLine_eq
    simp [At.d, n1, n2, t1, t2, t3, t4, fin, -bi_str])
  have e3 : (ps.map At.d).map (fun d => match d with | .tup [.int x, .int y, .str p] => D.str (At.line ⟨x.toNat, y.toNat, p⟩) | _ => .non) = (ps.map At.line).map D.str := by
    rw [List.map_map, List.map_map]
    refine List.map_congr_left fun a _ => ?_
    simp [At.d]
  rw [e3] at e2
  simp only [S_lines_of, b_lines_of, N_lines_of, runF_eq]
  generalize nt as w bs = N at *
  have z5 : 1 + ps.length ≤ sizeLine := le_line1 (by omega)
  simp [-e_met, e1, e2, z5, wlines, le_line1 (show 1 ≤ 100000 by decide)]
theorem whole_text_ok {h : LH} (q : NtOk 2 as w bs) (hp : ∀ a ∈ ps, a.Ok) (hl : ps.length ≤ 2) (q2 : Pol 2 (.tup (ps.map At.d))) : S_whole_text [nt as w bs, .tup (ps.map At.d)] h = .ok (.str (wtext as w bs ps)) h := by
  have e1 := need_both_ok (h := h) q q2
  have e2 := lines_of_ok (h := h) q hp hl
  have js : ((wlines as w bs ps).map (·.length)).sum + (wlines as w bs ps).length * ("\n" : Str).length ≤ 16777216 := by
    have h2 := sum_le (wline_len q hp)
    have h3 : (wlines as w bs ps).length ≤ 3 := by simp [wlines]; omega
    rw [len_lits.2.1]
    omega
  have jn : mtF .join false (.str "\n") [.lst ((wlines as w bs ps).map D.str)] h = .ok (.str (wtext as w bs ps)) h := by
    rw [mt_join]
    simp only [asS_lst, Option.bind_some, strs_all, js, if_true]
    rfl
  simp only [S_whole_text, b_whole_text, N_whole_text, runF_eq]
  generalize nt as w bs = N at *
  generalize (wlines as w bs ps).map D.str = L at *
  simp [e1, e2, jn, -mt_join]
end
end Ev
end
noncomputable section
namespace Ev
open PySem L2
theorem spl_facts {s : Nat} : ∀ (l acc : List Nat), TL.spl [s] 0 acc l ≠ [] ∧ (TL.spl [s] 0 acc l).length ≤ l.length + 1 ∧ ∀ p ∈ TL.spl [s] 0 acc l, p.length ≤ acc.length + l.length ∧ ∀ c ∈ p, c ∈ acc ∨ c ∈ l
  | [], acc => by
    rw [TL.spl_nil]
    refine ⟨by simp, by simp, fun p hp => ?_⟩
    rw [List.mem_singleton.mp hp]
    exact ⟨by simp, fun c hc => .inl hc⟩
  | c :: r, acc => by
    by_cases h : TL.pre [s] (c :: r) = true
    · rw [TL.spl_hit h]
      obtain ⟨h1, h2, h3⟩ := spl_facts r ([] : List Nat) (s := s)
      refine ⟨by simp, by simp only [List.length_cons]; simp at h2 ⊢; omega, fun p hp => ?_⟩
      rcases List.mem_cons.mp hp with rfl | hp
      · exact ⟨by simp, fun c hc => .inl hc⟩
      · obtain ⟨q1, q2⟩ := h3 p hp
        refine ⟨by simp at q1 ⊢; omega, fun z hz => ?_⟩
        rcases q2 z hz with q | q
        · simp at q
        · exact .inr (List.mem_cons_of_mem _ q)
    · rw [TL.spl_miss (eq_false_of_ne_true h)]
      obtain ⟨h1, h2, h3⟩ := spl_facts r (acc ++ [c]) (s := s)
      refine ⟨h1, by simp only [List.length_cons]; omega, fun p hp => ?_⟩
      obtain ⟨q1, q2⟩ := h3 p hp
      refine ⟨by simp at q1 ⊢; omega, fun z hz => ?_⟩
      rcases q2 z hz with q | q
      · rcases List.mem_append.mp q with q | q
        · exact .inl q
        · exact .inr (by rw [List.mem_singleton.mp q]; exact List.mem_cons_self)
      · exact .inr (List.mem_cons_of_mem _ q)
theorem split_facts {x y : Str} {s : Nat} (ey : TL.tl y = [s]) (hk : y.cps.all (· < 256) = true) : Txt.split x y ≠ [] ∧ (Txt.split x y).length ≤ x.length + 1 ∧ ∀ p ∈ Txt.split x y, p.length ≤ x.length ∧ ∀ c ∈ TL.tl p, c ∈ TL.tl x := by
  have e := TL.split_spl x y (by rw [ey]; simp) (TL.kind_ok hk)
  rw [ey] at e
  obtain ⟨h1, h2, h3⟩ := spl_facts (s := s) (TL.tl x) []
  rw [← e] at h1 h2 h3
  refine ⟨fun z => h1 (by rw [z]; rfl), by rw [List.length_map] at h2; rw [TL.len_tl]; exact h2, fun p hp => ?_⟩
  obtain ⟨q1, q2⟩ := h3 (TL.tl p) (List.mem_map.mpr ⟨p, hp, rfl⟩)
  refine ⟨by rw [TL.len_tl p, TL.len_tl x]; simpa using q1, fun c hc => ?_⟩
  rcases q2 c hc with q | q
  · simp at q
  · exact q
/-- a text of at most k signs, all of them signs -/
structure Tx (k : Nat) (x : Str) : Prop where
  len : x.length ≤ k
  ch : ∀ c ∈ TL.tl x, c < 1114112
theorem Tx.ok {k : Nat} {x : Str} (h : Tx k x) : PyData.strOk x = true := ok_of h.ch
theorem Tx.fits {k : Nat} {x : Str} (h : Tx k x) {n : Nat} : fit k n (.str x) := fit_str.mpr ⟨h.len, h.ok⟩
theorem Tx.sp {k : Nat} {x : Str} (h : Tx k x) : Txt.split x " " ≠ [] ∧ (Txt.split x " ").length ≤ k + 1 ∧ ∀ p ∈ Txt.split x " ", Tx k p := by
  obtain ⟨h1, h2, h3⟩ := split_facts (x := x) tl_lits.1 (by decide +kernel)
  have := h.len
  exact ⟨h1, by omega, fun p hp => ⟨by have := (h3 p hp).1; omega, fun c hc => h.ch c ((h3 p hp).2 c hc)⟩⟩
theorem Tx.nl {k : Nat} {x : Str} (h : Tx k x) : Txt.split x "\n" ≠ [] ∧ (Txt.split x "\n").length ≤ k + 1 ∧ ∀ p ∈ Txt.split x "\n", Tx k p := by
  obtain ⟨h1, h2, h3⟩ := split_facts (x := x) tl_lits.2.1 (by decide +kernel)
  have := h.len
  exact ⟨h1, by omega, fun p hp => ⟨by have := (h3 p hp).1; omega, fun c hc => h.ch c ((h3 p hp).2 c hc)⟩⟩
/-- does the text begin with the sign of a noted word -/
def star (x : Str) : Bool := decide ((TL.tl x).head? = some 42)
theorem star_eq {k : Nat} {x : Str} {h : LH} (t : Tx k x) : eqD h (.str (cutS x none (some 1))) (.str "*") = some (star x) := by
  have s1 : PyData.strOk "*" = true := by decide +kernel
  cases e : TL.tl x with
  | nil =>
    have ex : x = "" := TL.ext_tl (by rw [e]; decide +kernel)
    subst ex
    have c0 : cutS "" none (some 1) = "" := by decide +kernel
    rw [c0, eq_str (by decide +kernel) s1]
    decide +kernel
  | cons c r =>
    rw [cut_one e]
    have hc : c < 1114112 := t.ch c (by rw [e]; simp)
    rw [eq_str (ok_of (x := ⟨#[c]⟩) (by intro z hz; simp [TL.tl] at hz; omega)) s1]
    simp only [star, e, List.head?_cons]
    rw [Option.some.injEq, decide_eq_decide, Option.some.injEq]
    constructor
    · intro z
      have := congrArg TL.tl z
      rw [tl_lits.2.2.1] at this
      simpa [TL.tl] using this
    · intro z
      subst z
      exact TL.ext_tl (by rw [tl_lits.2.2.1])
/-- the places of the marked words -/
def marksFrom : List Str → Nat → List Nat
  | [], _ => []
  | x :: r, k => if star x = true then k :: marksFrom r (k + 1) else marksFrom r (k + 1)
def marks (l : List Str) : List Nat := marksFrom l 0
theorem marksFrom_skip {b : List Str} : ∀ {a : List Str} {k : Nat}, (∀ x ∈ a, star x = false) → marksFrom (a ++ b) k = marksFrom b (k + a.length)
  | [], k, _ => rfl
  | x :: a, k, h => by
    have h1 := h x List.mem_cons_self
    have h2 := marksFrom_skip (k := k + 1) (b := b) fun y hy => h y (List.mem_cons_of_mem _ hy)
    simp only [List.cons_append, marksFrom, h1, Bool.false_eq_true, if_false, h2, List.length_cons]
    rw [Nat.add_assoc, Nat.add_comm 1]
theorem marksFrom_none {a : List Str} {k : Nat} (h : ∀ x ∈ a, star x = false) : marksFrom a k = [] := by
  have := marksFrom_skip (b := []) (k := k) h
  rw [List.append_nil] at this
  rw [this]
  rfl
theorem marksFrom_lt : ∀ {l : List Str} {k : Nat}, ∀ i ∈ marksFrom l k, k ≤ i ∧ i < k + l.length
  | [], k, i, h => by simp [marksFrom] at h
  | x :: r, k, i, h => by
    simp only [marksFrom] at h
    have go : i ∈ marksFrom r (k + 1) → k ≤ i ∧ i < k + (x :: r).length := fun h => by
      have := marksFrom_lt i h
      simp only [List.length_cons]
      omega
    split at h
    · rcases List.mem_cons.mp h with rfl | h
      · simp
      · exact go h
    · exact go h
def markP : D → Bool
  | .tup [_, .str x] => star x
  | _ => false
def markG : D → D
  | .tup [i, _] => i
  | _ => .non
theorem marks_eq : ∀ (l : List Str) (k : Nat), ((((l.map D.str).zipIdx k).map fun p => D.tup [.int (p.2 : Nat), p.1]).filter markP).map markG = (marksFrom l k).map fun i => D.int (i : Nat)
  | [], _ => rfl
  | x :: l, k => by
    have ih := marks_eq l (k + 1)
    simp only [List.map_cons, List.zipIdx_cons, marksFrom]
    by_cases hs : star x = true
    · rw [List.filter_cons_of_pos (show markP (D.tup [.int (k : Nat), .str x]) = true from hs), if_pos hs]
      simp only [List.map_cons, markG, ih]
    · rw [List.filter_cons_of_neg (show ¬ markP (D.tup [.int (k : Nat), .str x]) = true from hs), if_neg hs]
      exact ih
theorem enm_len {xs : List D} : (enmD xs).length = xs.length := by simp [enmD]
/-- marked = [at for at, word in enumerate(words) if word[:1] == '*'] -/
theorem marked_run {k n : Nat} {ws : List Str} {env : Env} {h : LH} {i j : Nat} {x y : Str} (hw : ∀ x ∈ ws, Tx k x) (hk : k ≤ 10000) (hl : ws.length ≤ 20000) (hn : env.length = n) (hi : i < n) (hj : j < n) (hij : i ≠ j) (c : E) (hc : ∀ (z : Str) (u : D) (h : LH), Tx k z → evE c (((wipeE env [i, j]).set i (some u)).set j (some (.str z))) h = .ok (.bl (star z)) h) :
    lcpR [(x, i), (y, j)] (.tp [.nm i, .nm j]) [c] (.var i) [] (enmD (ws.map D.str)) env h = .ok ((marks ws).map fun i => D.int (i : Nat)) h := by
  have e := lcp_filter (own := [(x, i), (y, j)]) (t := .tp [.nm i, .nm j]) (c := c) (elt := .var i) (s := []) (xs := enmD (ws.map D.str)) (env := env) (h := h) markP markG srcOk_nil (le_line1 (by rw [enm_len, List.length_map]; omega)) (by
    intro d hd
    simp only [enmD, List.mem_map] at hd
    obtain ⟨⟨z, m⟩, hz, rfl⟩ := hd
    have hz1 : z ∈ ws.map D.str := by
      have := List.mem_zipIdx hz
      rw [this.2.2]
      exact List.getElem_mem _
    obtain ⟨z, hz2, rfl⟩ := List.mem_map.mp hz1
    have hi2 : i < env.length := by omega
    have hj2 : j < env.length := by omega
    refine ⟨((wipeE env [i, j]).set i (some (.int (m : Nat)))).set j (some (.str z)), ?_, hc z _ h (hw z hz2), fun _ => ?_⟩
    · show bindT (.tp [.nm i, .nm j]) (.tup [.int (m : Nat), .str z]) (wipeE env [i, j]) = _
      simp [hi2, hj2]
    · have : ((((env.set j none).set i none).set i (some (.int (m : Nat)))).set j (some (.str z)))[i]? = some (some (.int (m : Nat))) := by
        rw [List.getElem?_set_ne (Ne.symm hij), List.getElem?_set_self (by simpa using hi2)]
      rw [e_var]
      show rdv ((((env.set j none).set i none).set i (some (.int (m : Nat)))).set j (some (.str z))) h i = _
      unfold rdv
      rw [this]
      rfl)
  have e2 := marks_eq ws 0
  rw [e]
  exact congrArg (fun l => Res.ok l h) e2
end Ev
end
noncomputable section
namespace Ev
open PySem L2
def noteOf (ws : List Str) (i : Nat) : D := .tup [tx ((ws.drop 1).take (i - 1)), .str (cutS (ws.getD i "") (some 1) none), tx (ws.drop (i + 1))]
def readNote (x : Str) : D :=
  let ws := Txt.split x " "
  if ws.head? = some "note" ∧ (marks ws).length = 1 then (if isNote (noteOf ws ((marks ws).headD 0)) = true then noteOf ws ((marks ws).headD 0) else .non) else .non
theorem cutS_ch {k : Nat} {x : Str} (t : Tx k x) (lo hi : Option Int) : Tx k (cutS x lo hi) := by
  refine ⟨Nat.le_trans (cutS_length x lo hi) t.len, fun c hc => t.ch c ?_⟩
  have : TL.tl (cutS x lo hi) = ((TL.tl x).drop (HT.sIx x.length 0 lo)).take (HT.sIx x.length x.length hi - HT.sIx x.length 0 lo) := by
    unfold cutS
    rfl
  rw [this] at hc
  exact List.mem_of_mem_drop (List.mem_of_mem_take hc)
theorem tx_fitT {k n : Nat} {ws : List Str} (hw : ∀ x ∈ ws, Tx k x) (hl : ws.length ≤ k + 1) : fit (k + 1) (n + 1) (tx ws) := tx_fit hl fun x hx => ⟨Nat.le_succ_of_le (hw x hx).len, (hw x hx).ok⟩
theorem sp_run {k : Nat} {x : Str} {h : LH} (t : Tx k x) (hk : k ≤ 10000) : mtF .split false (.str x) [.str " "] h = .ok (.lst ((Txt.split x " ").map D.str)) h := by
  have z0 : x.length + 2 ≤ sizeLine := le_line1 (by have := t.len; omega)
  have zl : ((" " : Str).length == 0) = false := by decide +kernel
  rw [mt_split, if_pos ⟨zl, z0⟩]
  rfl
theorem nl_run {k : Nat} {x : Str} {h : LH} (t : Tx k x) (hk : k ≤ 10000) : mtF .split false (.str x) [.str "\n"] h = .ok (.lst ((Txt.split x "\n").map D.str)) h := by
  have z0 : x.length + 2 ≤ sizeLine := le_line1 (by have := t.len; omega)
  have zl : (("\n" : Str).length == 0) = false := by decide +kernel
  rw [mt_split, if_pos ⟨zl, z0⟩]
  rfl
theorem note_star : star "note" = false := by decide +kernel
theorem read_note_ok {k : Nat} {x : Str} {h : LH} (t : Tx k x) (hk : k ≤ 10000) (hk2 : 5 ≤ k) : S_read_note [.str x] h = .ok (readNote x) h := by
  obtain ⟨s1, s2, s3⟩ := t.sp
  have sp := sp_run (h := h) t hk
  have nn : PyData.strOk "note" = true := by decide +kernel
  generalize hws : Txt.split x " " = ws at *
  have hpos : 0 < ws.length := List.length_pos_iff.mpr s1
  obtain ⟨w0, hw0⟩ : ∃ w0, ws[0] = w0 := ⟨_, rfl⟩
  have m0 : w0 ∈ ws := by rw [← hw0]; exact List.getElem_mem _
  have hh : ws.head? = some w0 := by rw [List.head?_eq_getElem?, List.getElem?_eq_getElem hpos, hw0]
  have E1 : lcpR [("at", 3), ("word", 5)] (.tp [.nm 3, .nm 5]) [(.cmp .Eq (.slc false (.var 5) .noe (.itv (.cst (.int 1)))) (.glob "SIGN" c_SIGN))] (.var 3) [] (enmD (ws.map D.str)) [some (.str x), some (tx ws), none, none, none, none] h = .ok ((marks ws).map fun i => D.int (i : Nat)) h :=
    marked_run (k := k) (n := 6) s3 hk (by omega) rfl (by decide) (by decide) (by decide) _ (by
      intro z u h tz
      have q1 : z.length ≤ sizeLine := le_line1 (by have := tz.len; omega)
      simp [c_SIGN, cut_str q1, star_eq tz])
  have e2 := eq_str (h := h) (s3 w0 m0).ok nn
  have ml : ∀ i ∈ marks ws, i < ws.length := fun i hi => by
    have := marksFrom_lt i hi
    omega
  have e3 (i : Nat) (hi : i < ws.length) : S_is_note [noteOf ws i] h = .ok (.bl (isNote (noteOf ws i))) h := by
    refine is_note_ok (b := k + 1) (n := 2) (le_line1 (by omega)) ⟨by simp; omega, fun d hd => ?_⟩
    simp only [List.mem_cons, List.not_mem_nil, or_false] at hd
    have gi : ws.getD i "" ∈ ws := by
      rw [List.getD_eq_getElem?_getD, List.getElem?_eq_getElem hi]
      exact List.getElem_mem _
    rcases hd with rfl | rfl | rfl
    · exact tx_fitT (fun y hy => s3 y (List.mem_of_mem_drop (List.mem_of_mem_take hy))) (by simp; omega)
    · exact fit_mono (Nat.le_succ _) (Nat.zero_le _) ((cutS_ch (s3 _ gi) _ _).fits (n := 0))
    · exact tx_fitT (fun y hy => s3 y (List.mem_of_mem_drop hy)) (by simp; omega)
  have i0 : opIdx (tx ws) (.int 0) h = .ok (.str w0) h := by rw [← hw0]; exact tx_idx (k := 0) hpos
  have etx : D.tup (ws.map D.str) = tx ws := rfl
  have rn : readNote x = if ws.head? = some "note" ∧ (marks ws).length = 1 then (if isNote (noteOf ws ((marks ws).headD 0)) = true then noteOf ws ((marks ws).headD 0) else .non) else .non := by
    unfold readNote
    rw [hws]
  rw [rn, hh]
  simp only [S_read_note, b_read_note, N_read_note, runF_eq]
  by_cases c1 : w0 = "note"
  · rw [decide_eq_true c1] at e2
    by_cases c2 : (marks ws).length = 1
    · obtain ⟨i, hi⟩ : ∃ i, marks ws = [i] := List.length_eq_one_iff.mp c2
      have hil := ml i (by rw [hi]; simp)
      have hi1 : 1 ≤ i := by
        cases hws2 : ws with
        | nil => rw [hws2] at hpos; simp at hpos
        | cons a r =>
          have ha : a = w0 := by rw [← hw0]; simp [hws2]
          rw [hws2, marks, marksFrom, ha, c1, note_star] at hi
          simp only [Bool.false_eq_true, if_false] at hi
          exact (marksFrom_lt i (by rw [hi]; simp)).1
      have gi : ws.getD i "" = ws[i] := by rw [List.getD_eq_getElem?_getD, List.getElem?_eq_getElem hil]; rfl
      have tg := s3 _ (List.getElem_mem hil)
      have q1 : ws[i].length ≤ sizeLine := le_line1 (by have := tg.len; omega)
      have k1 := tx_idx (h := h) hil
      have e3 := e3 i hil
      have cm : opCut false (tx ws) (some 1) (some (i : Int)) h = .ok (tx ((ws.drop 1).take (i - 1))) h := by
        have := tx_mid (m := false) (xs := ws) (h := h) (s := 1) (n := i - 1)
        rw [show ((1 + (i - 1) : Nat) : Int) = (i : Int) by omega] at this
        exact this
      have cf : opCut false (tx ws) (some ((i : Int) + 1)) none h = .ok (tx (ws.drop (i + 1))) h := by
        have := tx_from (m := false) (xs := ws) (h := h) (k := i + 1)
        rw [show ((i + 1 : Nat) : Int) = (i : Int) + 1 by omega] at this
        exact this
      rw [hi] at E1
      rw [hi, c1]
      have cs := cut_str (h := h) (m := false) (lo := some 1) (hi := none) q1
      simp only [noteOf, gi] at e3
      simp only [List.map_cons, List.map_nil] at E1
      simp only [List.headD_cons, noteOf, gi]
      generalize (cutS ws[i] (some 1) none) = wc at *
      generalize ws.drop (i + 1) = wb at *
      generalize (ws.drop 1).take (i - 1) = wa at *
      have w0n : D.str w0 = .str "note" := by rw [c1]
      cases hb : isNote (.tup [tx wa, .str wc, tx wb]) <;> rw [hb] at e3 <;> simp [sp, etx, E1, i0, e2, k1, cm, cf, cs, e3, -mt_split, le_line1 (show 3 ≤ 100000 by decide)]
    · have c2' : ¬ ((marks ws).length : Int) = 1 := by omega
      simp [sp, etx, E1, i0, e2, c2, c2', -mt_split]
  · rw [decide_eq_false c1] at e2
    simp [sp, etx, E1, i0, e2, c1, -mt_split]
def isNum (x : Str) : Bool := decide (x = "0") || decide (x = "1") || decide (x = "2")
def numOf (x : Str) : Nat := if x = "0" then 0 else if x = "1" then 1 else 2
def readAttempt (x : Str) : D :=
  match Txt.split x " " with
  | [p, a, b] => if isNum a = true ∧ isNum b = true then (if isAttempt (.tup [.int (numOf a), .int (numOf b), .str p]) = true then .tup [.int (numOf a), .int (numOf b), .str p] else .non) else .non
  | _ => .non
theorem num_lits : ∀ y ∈ (["0", "1", "2"] : List Str), PyData.strOk y = true := by decide +kernel
theorem num_read {x : Str} (h : isNum x = true) : PySem.intText? x = some (numOf x : Int) ∧ x.length ≤ 640 := by
  have e1 : ¬ ("1" : Str) = "0" := by decide
  have e2 : ¬ ("2" : Str) = "0" := by decide
  have e3 : ¬ ("2" : Str) = "1" := by decide
  simp only [isNum, Bool.or_eq_true, decide_eq_true_eq] at h
  rcases h with (rfl | rfl) | rfl
  · exact ⟨by rw [numOf, if_pos rfl]; decide +kernel, by decide +kernel⟩
  · exact ⟨by rw [numOf, if_neg e1, if_pos rfl]; decide +kernel, by decide +kernel⟩
  · exact ⟨by rw [numOf, if_neg e2, if_neg e3]; decide +kernel, by decide +kernel⟩
theorem in_strs {h : LH} {x : Str} {ys : List Str} (hx : PyData.strOk x = true) (hy : ∀ y ∈ ys, PyData.strOk y = true) : inD h (.str x) (tx ys) = some (decide (x ∈ ys)) := by
  have s1 : SeqAt.shaped (.str x) = true := shaped_str hx
  have s2 : SeqAt.shaped (.list (ys.map PyData.str)) = true := by
    obtain ⟨z, e1, e2⟩ := fit_shaped (b := (ys.map (·.length)).sum + ys.length) (n := 1) (d := .lst (ys.map D.str)) (by decide) ⟨by simp, fun d hd => by
      obtain ⟨y, hy2, rfl⟩ := List.mem_map.mp hd
      refine fit_str.mpr ⟨?_, hy y hy2⟩
      have : ∀ l : List Str, y ∈ l → y.length ≤ (l.map (·.length)).sum := by
        intro l
        induction l with
        | nil => intro h; simp at h
        | cons a l ih =>
          intro h
          rcases List.mem_cons.mp h with rfl | h
          · simp
          · have := ih h; simp; omega
      have := this ys hy2
      omega⟩
    simp only [pd, pds_strs, Option.some.injEq] at e1
    subst e1
    exact e2
  have e : ((ys.map PyData.str).any fun z => PyData.eqv z (.str x)) = decide (x ∈ ys) := by
    rw [Bool.eq_iff_iff, List.any_eq_true, decide_eq_true_iff]
    constructor
    · rintro ⟨z, hz, e⟩
      obtain ⟨y, hy, rfl⟩ := List.mem_map.mp hz
      rw [PyData.eqv] at e
      exact (by simpa using e : y = x) ▸ hy
    · intro hx
      exact ⟨_, List.mem_map.mpr ⟨x, hx, rfl⟩, by rw [PyData.eqv]; simp⟩
  unfold tx inD
  simp only [asD_tup, inS, asS_tup, pdT, pd, pds_strs, s1, s2, and_self, if_true, e]
theorem in_nums {h : LH} {x : Str} (hx : PyData.strOk x = true) : inD h (.str x) (.tup [.str "0", .str "1", .str "2"]) = some (isNum x) := by
  have := in_strs (h := h) hx num_lits
  have e : decide (x ∈ (["0", "1", "2"] : List Str)) = isNum x := by
    simp only [List.mem_cons, List.not_mem_nil, or_false, isNum]
    simp [Bool.decide_or, Bool.or_assoc]
  rw [e] at this
  exact this
theorem read_attempt_ok {k : Nat} {x : Str} {h : LH} (t : Tx k x) (hk : k ≤ 10000) (hk2 : 5 ≤ k) : S_read_attempt [.str x] h = .ok (readAttempt x) h := by
  obtain ⟨s1, s2, s3⟩ := t.sp
  have sp := sp_run (h := h) t hk
  simp only [S_read_attempt, b_read_attempt, N_read_attempt, runF_eq]
  unfold readAttempt
  generalize hws : Txt.split x " " = ws at *
  by_cases hl : ws.length = 3
  · obtain ⟨p, a, b, rfl⟩ : ∃ p a b, ws = [p, a, b] := by
      match ws, hl with
      | [p, a, b], _ => exact ⟨p, a, b, rfl⟩
    have ta := s3 a (by simp)
    have tb := s3 b (by simp)
    have tp := s3 p (by simp)
    have ia := in_nums (h := h) ta.ok
    have ib := in_nums (h := h) tb.ok
    simp only [List.map_cons, List.map_nil] at sp
    cases na : isNum a with
    | false =>
      rw [na] at ia
      simp [sp, ia, na, -mt_split, le_line1 (show 3 ≤ 100000 by decide)]
    | true =>
      rw [na] at ia
      cases nb : isNum b with
      | false =>
        rw [nb] at ib
        simp [sp, ia, ib, na, nb, -mt_split, le_line1 (show 3 ≤ 100000 by decide)]
      | true =>
        rw [nb] at ib
        obtain ⟨ra, la⟩ := num_read na
        obtain ⟨rb, lb⟩ := num_read nb
        have e1 := is_attempt_ok (h := h) (b := k) (n := 1) (d := .tup [.int (numOf a), .int (numOf b), .str p]) ⟨by simp; omega, fun d hd => by
          simp only [List.mem_cons, List.not_mem_nil, or_false] at hd
          rcases hd with rfl | rfl | rfl
          · simp
          · simp
          · exact tp.fits⟩
        have b1 := bi_ints (h := h) (m := false) ra la
        have b2 := bi_ints (h := h) (m := false) rb lb
        cases hb : isAttempt (.tup [.int (numOf a), .int (numOf b), .str p]) <;> rw [hb] at e1 <;> simp [sp, ia, ib, na, nb, hb, b1, b2, e1, -mt_split, le_line1 (show 3 ≤ 100000 by decide)]
  · have hl2 : ¬ (ws.length : Int) = 3 := by omega
    have : (match ws with
      | [p, a, b] => if isNum a = true ∧ isNum b = true then (if isAttempt (.tup [.int (numOf a), .int (numOf b), .str p]) = true then D.tup [.int (numOf a), .int (numOf b), .str p] else .non) else .non
      | _ => .non) = .non := by
      split
      · simp at hl
      · rfl
    rw [this]
    simp [sp, hl2, -mt_split]
def readLine (x : Str) : D := if isNon (readNote x) = true then readAttempt x else readNote x
theorem read_line_ok {k : Nat} {x : Str} {h : LH} (t : Tx k x) (hk : k ≤ 10000) (hk2 : 5 ≤ k) : S_read_line [.str x] h = .ok (readLine x) h := by
  have e1 := read_note_ok (h := h) t hk hk2
  have e2 := read_attempt_ok (h := h) t hk hk2
  simp only [S_read_line, b_read_line, N_read_line, runF_eq]
  cases c : isNon (readNote x) <;> simp [e1, e2, c, readLine]
end Ev
end
noncomputable section
namespace Ev
open PySem L2
def badAt : List D → Nat → Option Nat
  | [], _ => none
  | d :: r, k => if isNon d = true then some k else badAt r (k + 1)
def rowsOf (x : Str) : List D := (Txt.split x "\n").map readLine
/-- what the reading of a text comes to: the two, or the line -/
def readText (x : Str) : D := match badAt (rowsOf x) 0 with
  | some k => .int ((k + 1 : Nat) : Int)
  | none => match rowsOf x with
    | [] => .non
    | r :: rs => if isNote r = true ∧ isPolicy (.tup rs) = true then .tup [r, .tup rs] else .int ((rs.length + 2 : Nat) : Int)
def readRes (d : D) (h : LH) : Res D := match d with
  | .int k => .ex ⟨"NoText", some ("line", .int k)⟩ h
  | d => .ok d h
theorem readLine_fit {k : Nat} {x : Str} (t : Tx k x) (hk2 : 5 ≤ k) : fit (k + 1) 2 (readLine x) := by
  obtain ⟨s1, s2, s3⟩ := t.sp
  have n1 : fit (k + 1) 2 (readNote x) := by
    have nn : fit (k + 1) 2 D.non := by simp
    unfold readNote
    dsimp only
    split
    · rename_i c
      split
      · obtain ⟨i, hi⟩ := List.length_eq_one_iff.mp c.2
        have hil : i < (Txt.split x " ").length := by
          have := marksFrom_lt (l := Txt.split x " ") (k := 0) i (by show i ∈ marks _; rw [hi]; simp)
          omega
        rw [hi]
        refine ⟨by simp; omega, fun d hd => ?_⟩
        simp only [List.mem_cons, List.not_mem_nil, or_false, List.headD_cons] at hd
        have gi : (Txt.split x " ").getD i "" ∈ Txt.split x " " := by
          rw [List.getD_eq_getElem?_getD, List.getElem?_eq_getElem hil]
          exact List.getElem_mem _
        rcases hd with rfl | rfl | rfl
        · exact tx_fitT (fun y hy => s3 y (List.mem_of_mem_drop (List.mem_of_mem_take hy))) (by simp; omega)
        · exact fit_mono (Nat.le_succ _) (Nat.zero_le _) ((cutS_ch (s3 _ gi) _ _).fits (n := 0))
        · exact tx_fitT (fun y hy => s3 y (List.mem_of_mem_drop hy)) (by simp; omega)
      · exact nn
    · exact nn
  have n2 : fit (k + 1) 2 (readAttempt x) := by
    have nn : fit (k + 1) 2 D.non := by simp
    unfold readAttempt
    split
    · rename_i p a b e
      have tp := s3 p (by rw [e]; simp)
      split
      · split
        · refine ⟨by simp; omega, fun d hd => ?_⟩
          simp only [List.mem_cons, List.not_mem_nil, or_false] at hd
          rcases hd with rfl | rfl | rfl
          · simp
          · simp
          · exact fit_mono (Nat.le_succ _) (Nat.zero_le _) (tp.fits (n := 0))
        · exact nn
      · exact nn
    · exact nn
  unfold readLine
  split
  · exact n2
  · exact n1
theorem readLine_shape (x : Str) : (readLine x = .non) ∨ (∃ a w b, readLine x = .tup [tx a, .str w, tx b] ∧ isNote (readLine x) = true) ∨ (∃ (i j : Nat) (p : Str), readLine x = .tup [.int i, .int j, .str p] ∧ isAttempt (readLine x) = true) := by
  have n1 : readNote x = .non ∨ ∃ a w b, readNote x = .tup [tx a, .str w, tx b] ∧ isNote (readNote x) = true := by
    unfold readNote
    dsimp only
    split
    · split
      · rename_i c2
        exact .inr ⟨_, _, _, rfl, c2⟩
      · exact .inl rfl
    · exact .inl rfl
  have n2 : readAttempt x = .non ∨ ∃ (i j : Nat) (p : Str), readAttempt x = .tup [.int i, .int j, .str p] ∧ isAttempt (readAttempt x) = true := by
    unfold readAttempt
    split
    · split
      · split
        · rename_i c2
          exact .inr ⟨_, _, _, rfl, c2⟩
        · exact .inl rfl
      · exact .inl rfl
    · exact .inl rfl
  unfold readLine
  split
  · rcases n2 with e | e
    · exact .inl e
    · exact .inr (.inr e)
  · rename_i c
    rcases n1 with e | e
    · rw [e] at c; exact absurd rfl c
    · exact .inr (.inl e)
def bRT : List S := [.set 4 (.cal "read_line" S_read_line 1 [] [(.var 3)]), .ifs (.cmp .Is (.var 4) (.cst .none)) [.raiA "NoText" "line" (.bin .Add false (.var 2) (.cst (.int 1)))] [], .set 1 (.bin .Add false (.var 1) (.tup [(.var 4)]))]
theorem bRT_eq : bRT = match b_read_text S_read_line S_is_note S_is_policy with | [_, _, .for_ _ _ b, _, _] => b | _ => [] := rfl
theorem rows_for {F k : Nat} {X : Str} {h : LH} (hk : k ≤ 10000) (hk2 : 5 ≤ k) : ∀ (todo : List Str) (done : List D) (a2 a3 a4 : Option D), (∀ l ∈ todo, Tx k l) → done.length + todo.length ≤ 100000 →
    (∃ j env, badAt (todo.map readLine) done.length = some j ∧ forLoop [] (.tp [.nm 2, .nm 3]) (fun env1 h2 => evSs F bRT env1 h2) (((todo.map D.str).zipIdx done.length).map (fun p => D.tup [.int (p.2 : Nat), p.1])) [some (.str X), some (.tup done), a2, a3, a4] h = RS.ex ⟨"NoText", some ("line", .int ((j + 1 : Nat) : Int))⟩ env h) ∨
    (badAt (todo.map readLine) done.length = none ∧ ∃ b2 b3 b4, forLoop [] (.tp [.nm 2, .nm 3]) (fun env1 h2 => evSs F bRT env1 h2) (((todo.map D.str).zipIdx done.length).map (fun p => D.tup [.int (p.2 : Nat), p.1])) [some (.str X), some (.tup done), a2, a3, a4] h = RS.nx [some (.str X), some (.tup (done ++ todo.map readLine)), b2, b3, b4] h)
  | [], done, a2, a3, a4, _, _ => by
    refine .inr ⟨rfl, a2, a3, a4, ?_⟩
    simp [forLoop, srcOk_nil]
  | l :: todo, done, a2, a3, a4, ht, hl => by
    have e1 := read_line_ok (h := h) (ht l (by simp)) hk hk2
    have dl : done.length + 1 ≤ sizeLine := le_line1 (by simp at hl; omega)
    have ih := rows_for (F := F) (X := X) (h := h) hk hk2 todo (done ++ [readLine l]) (some (.int (done.length : Nat))) (some (.str l)) (some (readLine l)) (fun y hy => ht y (List.mem_cons_of_mem _ hy)) (by simp at hl ⊢; omega)
    rw [List.length_append] at ih
    simp only [List.length_cons, List.length_nil, Nat.zero_add] at ih
    simp only [List.map_cons, List.zipIdx_cons, badAt]
    simp only [forLoop, srcOk_nil, if_true]
    have bt : bindT (.tp [.nm 2, .nm 3]) (.tup [.int (done.length : Nat), .str l]) [some (.str X), some (.tup done), a2, a3, a4] = some [some (.str X), some (.tup done), some (.int (done.length : Nat)), some (.str l), a4] := by simp
    rw [bt]
    dsimp only
    cases c : isNon (readLine l) with
    | true =>
      have b : evSs F bRT [some (.str X), some (.tup done), some (.int (done.length : Nat)), some (.str l), a4] h = RS.ex ⟨"NoText", some ("line", .int ((done.length + 1 : Nat) : Int))⟩ [some (.str X), some (.tup done), some (.int (done.length : Nat)), some (.str l), some (readLine l)] h := by
        unfold bRT
        simp [e1, c]
      refine .inl ⟨done.length, [some (.str X), some (.tup done), some (.int (done.length : Nat)), some (.str l), some (readLine l)], by simp, ?_⟩
      rw [b]
    | false =>
      have b : evSs F bRT [some (.str X), some (.tup done), some (.int (done.length : Nat)), some (.str l), a4] h = RS.nx [some (.str X), some (.tup (done ++ [readLine l])), some (.int (done.length : Nat)), some (.str l), some (readLine l)] h := by
        unfold bRT
        simp [e1, c, dl, le_line1 (show 1 ≤ 100000 by decide)]
      rw [b]
      dsimp only
      simp only [Bool.false_eq_true, if_false]
      rw [List.append_assoc] at ih
      exact ih
theorem rowsOf_fit {k : Nat} {x : Str} (t : Tx k x) (hk2 : 5 ≤ k) : ∀ d ∈ rowsOf x, fit (k + 1) 2 d := by
  obtain ⟨s1, s2, s3⟩ := t.nl
  intro d hd
  obtain ⟨l, hl, rfl⟩ := List.mem_map.mp hd
  exact readLine_fit (s3 l hl) hk2
theorem read_text_gen {k : Nat} {x : Str} {h : LH} (t : Tx k x) (hk : k ≤ 10000) (hk2 : 5 ≤ k) : S_read_text [.str x] h = readRes (readText x) h := by
  obtain ⟨s1, s2, s3⟩ := t.nl
  have sp := nl_run (h := h) t hk
  have fits := rowsOf_fit t hk2
  have loop := rows_for (F := 1000000000) (X := x) (h := h) hk hk2 (Txt.split x "\n") [] none none none s3 (by simp; omega)
  have rl : (rowsOf x).length ≤ k + 1 := by simp only [rowsOf, List.length_map]; exact s2
  have ne : rowsOf x ≠ [] := by simpa [rowsOf] using s1
  have zi : forR 1000000000 (.tp [.nm 2, .nm 3]) bRT [] (enmD ((Txt.split x "\n").map D.str)) [some (.str x), some (.tup []), none, none, none] h = forLoop [] (.tp [.nm 2, .nm 3]) (fun env1 h2 => evSs 1000000000 bRT env1 h2) ((((Txt.split x "\n").map D.str).zipIdx ([] : List D).length).map (fun p => D.tup [.int (p.2 : Nat), p.1])) [some (.str x), some (.tup []), none, none, none] h := rfl
  rw [← zi] at loop
  simp only [List.nil_append] at loop
  change (∃ j env, badAt (rowsOf x) 0 = some j ∧ _) ∨ (badAt (rowsOf x) 0 = none ∧ _) at loop
  have body : b_read_text S_read_line S_is_note S_is_policy = (b_read_text S_read_line S_is_note S_is_policy).take 2 ++ (.for_ (.tp [.nm 2, .nm 3]) (.enm (.met .split false (.var 0) [(.cst (.str "\n"))])) bRT :: (b_read_text S_read_line S_is_note S_is_policy).drop 3) := rfl
  simp only [S_read_text, runF_eq]
  unfold readText
  rw [body, evSs_append]
  simp only [b_read_text, N_read_text, List.take_succ_cons, List.take_zero, List.drop_succ_cons, List.drop_zero]
  rcases loop with ⟨j, env, b, e⟩ | ⟨b, b2, b3, b4, e⟩
  · rw [b]
    simp [sp, e, -mt_split, le_line1 (show 0 ≤ 100000 by decide), readRes]
  · rw [b]
    cases hr : rowsOf x with
    | nil => exact absurd hr ne
    | cons r rs =>
      rw [hr] at fits rl
      have e' : (Txt.split x "\n").map readLine = r :: rs := hr
      rw [e'] at e
      have c1 : cutL (r :: rs) (some 1) none = rs := cut_from (xs := r :: rs) (k := 1)
      have il := is_note_ok (h := h) (le_line1 (show k + 1 ≤ 100000 by omega)) (fits r (by simp))
      have ip := is_policy_ok (h := h) (b := k + 1) (n := 3) (d := .tup rs) (le_line1 (show k + 1 ≤ 100000 by omega)) ⟨by simp at rl; omega, fun d hd => fits d (by simp [hd])⟩
      have z : rs.length + 1 ≤ sizeLine := le_line1 (by simp at rl; omega)
      have ar : (rs.length : Int) + 1 + 1 = rs.length + 2 := by omega
      cases q1 : isNote r <;> cases q2 : isPolicy (.tup rs) <;> rw [q1] at il <;> rw [q2] at ip <;> simp [sp, e, c1, il, ip, z, q1, q2, ar, -mt_split, le_line1 (show 0 ≤ 100000 by decide), le_line1 (show 2 ≤ 100000 by decide), readRes]
end Ev
end
noncomputable section
namespace Ev
open PySem L2
theorem in_strsL {h : LH} {x : Str} {ys : List Str} (hx : PyData.strOk x = true) (hy : ∀ y ∈ ys, PyData.strOk y = true) : inD h (.str x) (.lst (ys.map D.str)) = some (decide (x ∈ ys)) := by
  have e := in_strs (h := h) hx hy
  have e2 : inD h (.str x) (.lst (ys.map D.str)) = inD h (.str x) (tx ys) := by
    unfold tx
    simp only [inD, asD_lst, asD_tup, inS, asS_lst, asS_tup]
  rw [e2, e]
theorem in_numsL {h : LH} {x : Str} (hx : PyData.strOk x = true) : inD h (.str x) (.lst [.str "0", .str "1", .str "2"]) = some (isNum x) := by
  have := in_strsL (h := h) hx num_lits
  have e : decide (x ∈ (["0", "1", "2"] : List Str)) = isNum x := by
    simp only [List.mem_cons, List.not_mem_nil, or_false, isNum]
    simp [Bool.decide_or, Bool.or_assoc]
  rw [e] at this
  exact this
theorem pick_lits : ∀ y ∈ (["first", "last", "only"] : List Str), PyData.strOk y = true := by decide +kernel
theorem in_pickL {h : LH} {x : Str} (hx : PyData.strOk x = true) : inD h (.str x) (.lst [.str "first", .str "last", .str "only"]) = some (isPick (.str x)) := by
  have := in_strsL (h := h) hx pick_lits
  have e : decide (x ∈ (["first", "last", "only"] : List Str)) = isPick (.str x) := by
    rw [Bool.eq_iff_iff]
    simp only [List.mem_cons, List.not_mem_nil, or_false, isPick, decide_eq_true_eq, Bool.or_eq_true, beq_iff_eq]
    simp only [eq_comm]
  rw [e] at this
  exact this
theorem numOf_le {x : Str} : numOf x ≤ 2 := by
  unfold numOf
  split
  · omega
  · split <;> omega
theorem isNon_eq {d : D} (h : isNon d = true) : d = .non := by
  cases d <;> first | rfl | cases h
theorem isNote_noteOf {ws : List Str} {i : Nat} (hi : i < ws.length) (h1 : 1 ≤ i) : isNote (noteOf ws i) = ((((ws.drop 1).take (i - 1) ++ [cutS (ws.getD i "") (some 1) none] ++ ws.drop (i + 1)).map D.str).all isWord && (decide (i ≤ 3) && decide (ws.length - i ≤ 3))) := by
  have l1 : ((ws.drop 1).take (i - 1)).length = i - 1 := by simp; omega
  have l2 : (ws.drop (i + 1)).length = ws.length - (i + 1) := by simp
  unfold noteOf
  generalize (ws.drop 1).take (i - 1) = wa at *
  generalize ws.drop (i + 1) = wb at *
  generalize cutS (ws.getD i "") (some 1) none = wc at *
  have a1 : decide ((wa.length : Int) ≤ 2) = decide (i ≤ 3) := by rw [l1, decide_eq_decide]; omega
  have a2 : decide ((wb.length : Int) ≤ 2) = decide (ws.length - i ≤ 3) := by rw [l2, decide_eq_decide]; omega
  simp only [isNote, areWords, tx, List.length_map, a1, a2, List.map_append, List.all_append, List.map_cons, List.map_nil, List.all_cons, List.all_nil, Bool.and_true]
  cases decide (i ≤ 3) <;> cases decide (ws.length - i ≤ 3) <;> cases isWord (.str wc) <;> simp
theorem law_is_word_ok {b : Nat} {x : Str} {h : LH} (hb : b ≤ sizeLine) (f : fit b 0 (.str x)) : S__law_is_word [.str x] h = .ok (.bl (isWord (.str x))) h := by
  have hx := (fit_str.mp f).1
  have hx2 : x.length ≤ sizeLine := Nat.le_trans hx hb
  have e : x.cps.size = x.length := rfl
  have e := lcp_filter (own := [("letter", 1)]) (t := .nm 1) (c := .cmp .NotIn (.var 1) (.cst (.str "abcdefghijklmnopqrstuvwxyz"))) (elt := .var 1) (s := []) (xs := x.cps.toList.map fun c => D.str ⟨#[c]⟩) (env := [some (.str x), none]) (h := h) (fun d => !(match d with | .str y => low y | _ => false)) id srcOk_nil (by simp; omega) (by
    intro y hy
    obtain ⟨c, _, rfl⟩ := List.mem_map.mp hy
    exact ⟨_, rfl, by simp [in_low], fun _ => by simp⟩)
  have q := eq_nilL (h := h) (b := sizeLine) (n := 1) (ds := ((x.cps.toList.map fun c => D.str ⟨#[c]⟩).filter fun d => !(match d with | .str y => low y | _ => false))) (by decide) (fit_lst.mpr ⟨Nat.le_trans (List.length_filter_le _ _) (by simp; omega), fun d hd => by
    obtain ⟨c, hc, rfl⟩ := List.mem_map.mp (List.mem_filter.mp hd).1
    exact fit_str.mpr ⟨le_line (show 1 ≤ 1000 by decide), strOk_mem (fit_str.mp f).2 hc⟩⟩)
  have q2 : ((x.cps.toList.map fun c => D.str ⟨#[c]⟩).filter fun d => !(match d with | .str y => low y | _ => false)).isEmpty = x.cps.all fun c => low ⟨#[c]⟩ := by
    rw [← Array.all_toList]
    generalize x.cps.toList = l
    induction l with
    | nil => rfl
    | cons c l ih =>
      cases z : low ⟨#[c]⟩
      · simp [z]
      · simp [z] at ih ⊢
        exact ih
  rw [q2] at q
  simp only [List.map_id_fun, id_eq] at e
  simp only [S__law_is_word, b__law_is_word, N__law_is_word, runF_eq]
  by_cases h1 : 1 ≤ (x.length : Int) <;> by_cases h2 : (x.length : Int) ≤ 8 <;> simp [isWord, lenD_str hx2, e, h1, h2, q, le_line (show 0 ≤ 1000 by decide)]
theorem law_line_ok {k : Nat} {x : Str} {h : LH} (t : Tx k x) (hk : k ≤ 10000) (hk2 : 5 ≤ k) : S__law_line [.str x] h = .ok (readLine x) h := by
  obtain ⟨s1, s2, s3⟩ := t.sp
  have sp := sp_run (h := h) t hk
  by_cases A : ∃ p a b, Txt.split x " " = [p, a, b] ∧ isPick (.str p) = true
  · obtain ⟨p, a, b, hws, hp⟩ := A
    have pn : p ≠ "note" := by rintro rfl; exact absurd hp (by decide +kernel)
    have rn : readNote x = .non := by
      unfold readNote
      rw [hws]
      simp [pn]
    have e : readLine x = readAttempt x := by unfold readLine; rw [rn]; rfl
    rw [e]
    unfold readAttempt
    rw [hws] at sp s3 ⊢
    have ta := s3 a (by simp)
    have tb := s3 b (by simp)
    have tp := s3 p (by simp)
    have ia := in_numsL (h := h) ta.ok
    have ib := in_numsL (h := h) tb.ok
    have ip := in_pickL (h := h) tp.ok
    rw [hp] at ip
    simp only [List.map_cons, List.map_nil] at sp
    have at2 : isAttempt (.tup [.int (numOf a), .int (numOf b), .str p]) = true := by
      have h1 := numOf_le (x := a)
      have h2 := numOf_le (x := b)
      simp only [isAttempt, hp, isFrom, Bool.true_and, Bool.and_eq_true, decide_eq_true_eq]
      omega
    simp only [S__law_line, b__law_line, N__law_line, runF_eq]
    cases na : isNum a with
    | false =>
      rw [na] at ia
      simp [sp, ia, ip, na, -mt_split, le_line1 (show 3 ≤ 100000 by decide)]
    | true =>
      rw [na] at ia
      cases nb : isNum b with
      | false =>
        rw [nb] at ib
        simp [sp, ia, ib, ip, na, nb, -mt_split, le_line1 (show 3 ≤ 100000 by decide)]
      | true =>
        rw [nb] at ib
        obtain ⟨ra, la⟩ := num_read na
        obtain ⟨rb, lb⟩ := num_read nb
        have b1 := bi_ints (h := h) (m := false) ra la
        have b2 := bi_ints (h := h) (m := false) rb lb
        simp [sp, ia, ib, ip, na, nb, at2, b1, b2, -mt_split, le_line1 (show 3 ≤ 100000 by decide)]
  · have ra : readAttempt x = .non := by
      unfold readAttempt
      split
      · rename_i p a b e
        have : isPick (.str p) = false := by
          cases q : isPick (.str p)
          · rfl
          · exact absurd ⟨p, a, b, e, q⟩ A
        simp [isAttempt, this]
      · rfl
    have e : readLine x = readNote x := by
      unfold readLine
      rw [ra]
      split
      · rename_i c
        exact (isNon_eq c).symm
      · rfl
    rw [e]
    have rn : readNote x = if (Txt.split x " ").head? = some ("note" : Str) ∧ (marks (Txt.split x " ")).length = 1 then (if isNote (noteOf (Txt.split x " ") ((marks (Txt.split x " ")).headD 0)) = true then noteOf (Txt.split x " ") ((marks (Txt.split x " ")).headD 0) else .non) else .non := rfl
    rw [rn]
    have nn : PyData.strOk "note" = true := by decide +kernel
    generalize hws : Txt.split x " " = ws at *
    have hpos : 0 < ws.length := List.length_pos_iff.mpr s1
    obtain ⟨w0, hw0⟩ : ∃ w0, ws[0] = w0 := ⟨_, rfl⟩
    have m0 : w0 ∈ ws := by rw [← hw0]; exact List.getElem_mem _
    have hh : ws.head? = some w0 := by rw [List.head?_eq_getElem?, List.getElem?_eq_getElem hpos, hw0]
    rw [hh]
    have np : ws.length = 3 → isPick (.str w0) = false := by
      intro h3
      have l3 : ∀ l : List Str, l.length = 3 → ∃ p a b, l = [p, a, b] := fun l h => match l, h with | [p, a, b], _ => ⟨p, a, b, rfl⟩
      obtain ⟨p, a, b, e3⟩ := l3 ws h3
      have hp : p = w0 := by rw [← hw0]; simp [e3]
      cases q : isPick (.str w0)
      · rfl
      · exact absurd ⟨p, a, b, e3, by rw [hp]; exact q⟩ A
    have ip := in_pickL (h := h) (s3 w0 m0).ok
    have E1 : lcpR [("at", 3), ("word", 5)] (.tp [.nm 3, .nm 5]) [(.cmp .Eq (.slc false (.var 5) .noe (.itv (.cst (.int 1)))) (.cst (.str "*")))] (.var 3) [] (enmD (ws.map D.str)) [some (.str x), some (.lst (ws.map D.str)), none, none, none, none] h = .ok ((marks ws).map fun i => D.int (i : Nat)) h :=
      marked_run (k := k) (n := 6) s3 hk (by omega) rfl (by decide) (by decide) (by decide) _ (by
        intro z u h tz
        have q1 : z.length ≤ sizeLine := le_line1 (by have := tz.len; omega)
        simp [cut_str q1, star_eq tz])
    have e2 := eq_str (h := h) (s3 w0 m0).ok nn
    have ml : ∀ i ∈ marks ws, i < ws.length := fun i hi => by
      have := marksFrom_lt i hi
      omega
    have i0 : opIdx (.lst (ws.map D.str)) (.int 0) h = .ok (.str w0) h := by rw [← hw0]; exact tx_idx (k := 0) hpos
    have start : evSs 1000000000 ((b__law_line S__law_is_word).take 2) [some (.str x), none, none, none, none, none] h = .nx [some (.str x), some (.lst (ws.map D.str)), none, none, none, none] h := by
      simp only [b__law_line, List.take_succ_cons, List.take_zero]
      by_cases h3 : ws.length = 3
      · rw [np h3] at ip
        have h3' : (ws.length : Int) = 3 := by omega
        simp [sp, h3', i0, ip, -mt_split, -idx_lst, le_line1 (show 3 ≤ 100000 by decide)]
      · have h3' : ¬ (ws.length : Int) = 3 := by omega
        simp [sp, h3', -mt_split]
    have body : b__law_line S__law_is_word = (b__law_line S__law_is_word).take 2 ++ (b__law_line S__law_is_word).drop 2 := rfl
    simp only [S__law_line, N__law_line, runF_eq]
    rw [body, evSs_append]
    show fin ((evSs 1000000000 _ [some (.str x), none, none, none, none, none] h).seq _) = _
    rw [start]
    simp only [b__law_line, List.drop_succ_cons, List.drop_zero]
    by_cases c1 : w0 = "note"
    · rw [decide_eq_true c1] at e2
      have w0n : D.str w0 = .str "note" := by rw [c1]
      by_cases c2 : (marks ws).length = 1
      · obtain ⟨i, hi⟩ : ∃ i, marks ws = [i] := List.length_eq_one_iff.mp c2
        have hil := ml i (by rw [hi]; simp)
        have hi1 : 1 ≤ i := by
          cases hws2 : ws with
          | nil => rw [hws2] at hpos; simp at hpos
          | cons a r =>
            have ha : a = w0 := by rw [← hw0]; simp [hws2]
            rw [hws2, marks, marksFrom, ha, c1, note_star] at hi
            simp only [Bool.false_eq_true, if_false] at hi
            exact (marksFrom_lt i (by rw [hi]; simp)).1
        have gi : ws.getD i "" = ws[i] := by rw [List.getD_eq_getElem?_getD, List.getElem?_eq_getElem hil]; rfl
        have tg := s3 _ (List.getElem_mem hil)
        have q1 : ws[i].length ≤ sizeLine := le_line1 (by have := tg.len; omega)
        have k1 : opIdx (.lst (ws.map D.str)) (.int (i : Int)) h = .ok (.str ws[i]) h := tx_idx (h := h) hil
        have m0 : opIdx (.lst [.int (i : Int)]) (.int 0) h = .ok (.int (i : Int)) h := by simp
        have cm : opCut false (.lst (ws.map D.str)) (some 1) (some (i : Int)) h = .ok (.lst (((ws.drop 1).take (i - 1)).map D.str)) h := by
          rw [cut_lst, cutL_map]
          have := cut_mid (xs := ws) (s := 1) (n := i - 1)
          rw [show ((1 + (i - 1) : Nat) : Int) = (i : Int) by omega] at this
          rw [show (1 : Int) = ((1 : Nat) : Int) from rfl, this]
          rfl
        have cf : opCut false (.lst (ws.map D.str)) (some ((i : Int) + 1)) none h = .ok (.lst ((ws.drop (i + 1)).map D.str)) h := by
          rw [cut_lst, cutL_map]
          have := cut_from (xs := ws) (k := i + 1)
          rw [show ((i + 1 : Nat) : Int) = (i : Int) + 1 by omega] at this
          rw [this]
          rfl
        have cs := cut_str (h := h) (m := false) (lo := some 1) (hi := none) q1
        have IN := isNote_noteOf hil hi1
        have tw : ∀ y ∈ (ws.drop 1).take (i - 1) ++ [cutS ws[i] (some 1) none] ++ ws.drop (i + 1), Tx k y := by
          intro y hy
          rcases List.mem_append.mp hy with hy | hy
          · rcases List.mem_append.mp hy with hy | hy
            · exact s3 y (List.mem_of_mem_drop (List.mem_of_mem_take hy))
            · rw [List.mem_singleton.mp hy]; exact cutS_ch tg _ _
          · exact s3 y (List.mem_of_mem_drop hy)
        have la : ((ws.drop 1).take (i - 1)).length ≤ 20000 := by simp; omega
        have lb : (ws.drop (i + 1)).length ≤ 20000 := by simp; omega
        rw [hi] at E1
        rw [hi, c1]
        simp only [List.map_cons, List.map_nil] at E1
        simp only [List.headD_cons, IN, if_true, true_and, List.length_cons, List.length_nil, Nat.zero_add]
        unfold noteOf
        simp only [gi]
        generalize (cutS ws[i] (some 1) none) = wc at *
        generalize ws.drop (i + 1) = wb at *
        generalize (ws.drop 1).take (i - 1) = wa at *
        have E3 := lcp_filter (own := [("word", 5)]) (t := .nm 5) (c := .not (.cal "_law_is_word" S__law_is_word 1 [] [(.var 5)])) (elt := .var 5) (s := []) (xs := (wa ++ [wc] ++ wb).map D.str) (env := [some (.str x), some (.lst (ws.map D.str)), some (.lst [.int (i : Nat)]), some (.int (i : Nat)), some (.lst ((wa ++ [wc] ++ wb).map D.str)), none]) (h := h) (fun d => !isWord d) id srcOk_nil (le_line1 (by simp; omega)) (by
          intro y hy
          obtain ⟨y, hy2, rfl⟩ := List.mem_map.mp hy
          have := law_is_word_ok (h := h) (le_line1 (show k ≤ 100000 by omega)) (tw y hy2).fits
          exact ⟨_, rfl, by simp [this], fun _ => by simp⟩)
        have q := eq_nilL (h := h) (b := 50000) (n := 1) (ds := (((wa ++ [wc] ++ wb).map D.str).filter fun d => !isWord d)) (by decide) (fit_lst.mpr ⟨Nat.le_trans (List.length_filter_le _ _) (by simp; omega), fun d hd => by
          obtain ⟨y, hy, rfl⟩ := List.mem_map.mp (List.mem_filter.mp hd).1
          exact fit_mono (by omega) (Nat.zero_le _) ((tw y hy).fits (n := 0))⟩)
        rw [filter_not_empty] at q
        simp only [List.map_id_fun, id_eq] at E3
        have ad1 : opBin .Add false (.lst (wa.map D.str)) (.lst [.str wc]) h = .ok (.lst ((wa ++ [wc]).map D.str)) h := by
          simp [le_line1 (show wa.length + 1 ≤ 100000 by omega)]
        have ad2 : opBin .Add false (.lst ((wa ++ [wc]).map D.str)) (.lst (wb.map D.str)) h = .ok (.lst ((wa ++ [wc] ++ wb).map D.str)) h := by
          simp [le_line1 (show wa.length + 1 + wb.length ≤ 100000 by omega)]
        have tl1 (l : List Str) : biF .tuple1 false [.lst (l.map D.str)] h = .ok (tx l) h := by simp [tx]
        generalize (wa ++ [wc] ++ wb).map D.str = P at *
        generalize (wa ++ [wc]).map D.str = P1 at *
        have g1 : decide ((i : Int) > 3) = !decide (i ≤ 3) := by rw [Bool.eq_iff_iff]; simp; omega
        have g2 : decide ((ws.length : Int) - i > 3) = !decide (ws.length - i ≤ 3) := by rw [Bool.eq_iff_iff]; simp; omega
        by_cases b1 : i ≤ 3 <;> by_cases b2 : ws.length - i ≤ 3 <;> cases qa : P.all isWord <;> rw [qa] at q <;> simp [E1, i0, e2, m0, k1, cm, cf, cs, ad1, ad2, E3, q, tl1, b1, b2, g1, g2, -idx_lst, -cut_lst, -bi_tup, -idx_tup, le_line1 (show 3 ≤ 100000 by decide), le_line1 (show 1 ≤ 100000 by decide), le_line1 (show 0 ≤ 100000 by decide)]
      · have c2' : ¬ ((marks ws).length : Int) = 1 := by omega
        simp [E1, i0, e2, c2, c2', -idx_lst]
    · rw [decide_eq_false c1] at e2
      simp [E1, i0, e2, c1, -idx_lst]
end Ev
end
noncomputable section
namespace Ev
open PySem L2
def bLR : List S := [.set 5 (.cal "_law_line" S__law_line 1 [] [(.var 4)]), .ifs (.cmp .Is (.var 5) (.cst .none)) [.ret (.bin .Add false (.var 3) (.cst (.int 1)))] [], .exp (.met .append false (.var 1) [(.var 5)])]
theorem lrows_for {F k : Nat} {X L a6 : Option D} {h : LH} (hk : k ≤ 10000) (hk2 : 5 ≤ k) : ∀ (todo : List Str) (done : List D) (a3 a4 a5 : Option D), (∀ l ∈ todo, Tx k l) → done.length + todo.length ≤ 50000 →
    (∃ j h', badAt (todo.map readLine) done.length = some j ∧ forLoop [] (.tp [.nm 3, .nm 4]) (fun env1 h2 => evSs F bLR env1 h2) (((todo.map D.str).zipIdx done.length).map (fun p => D.tup [.int (p.2 : Nat), p.1])) [X, some (.loc h.length), L, a3, a4, a5, a6] (h ++ [.lst done]) = RS.rt (.int ((j + 1 : Nat) : Int)) (h ++ [h'])) ∨
    (badAt (todo.map readLine) done.length = none ∧ ∃ b3 b4 b5, forLoop [] (.tp [.nm 3, .nm 4]) (fun env1 h2 => evSs F bLR env1 h2) (((todo.map D.str).zipIdx done.length).map (fun p => D.tup [.int (p.2 : Nat), p.1])) [X, some (.loc h.length), L, a3, a4, a5, a6] (h ++ [.lst done]) = RS.nx [X, some (.loc h.length), L, b3, b4, b5, a6] (h ++ [.lst (done ++ todo.map readLine)]))
  | [], done, a3, a4, a5, _, _ => by
    refine .inr ⟨rfl, a3, a4, a5, ?_⟩
    simp [forLoop, srcOk_nil]
  | l :: todo, done, a3, a4, a5, ht, hl => by
    have e1 (h : LH) := law_line_ok (h := h) (ht l (by simp)) hk hk2
    have dl : done.length < sizeLine := Nat.lt_of_lt_of_le (show done.length < 100000 by simp at hl; omega) (le_line1 (by decide))
    have ih := lrows_for (F := F) (X := X) (L := L) (a6 := a6) (h := h) hk hk2 todo (done ++ [readLine l]) (some (.int (done.length : Nat))) (some (.str l)) (some (readLine l)) (fun y hy => ht y (List.mem_cons_of_mem _ hy)) (by simp at hl ⊢; omega)
    rw [List.length_append] at ih
    simp only [List.length_cons, List.length_nil, Nat.zero_add] at ih
    simp only [List.map_cons, List.zipIdx_cons, badAt]
    simp only [forLoop, srcOk_nil, if_true]
    have bt : bindT (.tp [.nm 3, .nm 4]) (.tup [.int (done.length : Nat), .str l]) [X, some (.loc h.length), L, a3, a4, a5, a6] = some [X, some (.loc h.length), L, some (.int (done.length : Nat)), some (.str l), a5, a6] := by simp
    have g : (h ++ [O.lst done])[h.length]? = some (.lst done) := by simp
    have al : asL (h ++ [O.lst done]) (.loc h.length) = some done := asL_loc g
    have su (o' : O) : (h ++ [O.lst done]).set h.length o' = h ++ [o'] := by rw [List.set_append_right _ _ (Nat.le_refl _)]; simp
    rw [bt]
    dsimp only
    cases c : isNon (readLine l) with
    | true =>
      have b : evSs F bLR [X, some (.loc h.length), L, some (.int (done.length : Nat)), some (.str l), a5, a6] (h ++ [.lst done]) = RS.rt (.int ((done.length + 1 : Nat) : Int)) (h ++ [.lst done]) := by
        unfold bLR
        simp [e1, c]
      refine .inl ⟨done.length, .lst done, by simp, ?_⟩
      rw [b]
    | false =>
      have b : evSs F bLR [X, some (.loc h.length), L, some (.int (done.length : Nat)), some (.str l), a5, a6] (h ++ [.lst done]) = RS.nx [X, some (.loc h.length), L, some (.int (done.length : Nat)), some (.str l), some (readLine l), a6] (h ++ [.lst (done ++ [readLine l])]) := by
        unfold bLR
        simp [e1, c, al, g, su, dl]
      rw [b]
      dsimp only
      simp only [Bool.false_eq_true, if_false]
      rw [List.append_assoc] at ih
      exact ih
def blk (bs : List Bool) : D := .lst (bs.map D.bl)
theorem pds_bools : ∀ bs : List Bool, pds (bs.map D.bl) = some (bs.map PyData.bool)
  | [] => rfl
  | b :: bs => by simp [pds, pd, pds_bools bs]
theorem eqv_bools : ∀ as bs : List Bool, PyData.eqvAll (as.map PyData.bool) (bs.map PyData.bool) = decide (as = bs)
  | [], [] => by simp [PyData.eqvAll]
  | [], b :: bs => by simp [PyData.eqvAll]
  | a :: as, [] => by simp [PyData.eqvAll]
  | a :: as, b :: bs => by
    have ih := eqv_bools as bs
    simp only [List.map_cons, PyData.eqvAll, ih]
    cases a <;> cases b <;> simp [PyData.eqv]
theorem in_bools {h : LH} {bs : List Bool} : inD h (blk bs) (.lst [.lst [.bl true, .bl false], .lst [.bl true, .bl false, .bl false]]) = some (decide (bs = [true, false]) || decide (bs = [true, false, false])) := by
  obtain ⟨x, e1, e2⟩ := fit_shaped (b := bs.length) (n := 1) (d := blk bs) (by decide) ⟨by simp [blk], fun d hd => by
    obtain ⟨b, _, rfl⟩ := List.mem_map.mp hd
    simp⟩
  simp only [blk, pd, pds_bools, Option.some.injEq] at e1
  subst e1
  have e3 : SeqAt.shaped (.list [.list [.bool true, .bool false], .list [.bool true, .bool false, .bool false]]) = true := by decide +kernel
  have q1 := eqv_bools [true, false] bs
  have q2 := eqv_bools [true, false, false] bs
  simp only [List.map_cons, List.map_nil] at q1 q2
  have d1 : decide ([true, false] = bs) = decide (bs = [true, false]) := by rw [decide_eq_decide]; exact eq_comm
  have d2 : decide ([true, false, false] = bs) = decide (bs = [true, false, false]) := by rw [decide_eq_decide]; exact eq_comm
  rw [d1] at q1
  rw [d2] at q2
  simp only [blk, inD, asD_lst, inS, asS_lst, pdT, pd, pds, pds_bools, e2, e3, and_self, if_true, List.any_cons, List.any_nil, PyData.eqv, q1, q2, Bool.or_false]
theorem kinds {r : D} {rs : List D} (h : ∀ d ∈ r :: rs, isAttempt d = !isNote d) : (decide ((r :: rs).map isNote = [true, false]) || decide ((r :: rs).map isNote = [true, false, false])) = (isNote r && isPolicy (.tup rs)) := by
  match rs, h with
  | [], _ => simp [isPolicy]
  | [a], h =>
    have := h a (by simp)
    simp [isPolicy, this]
  | [a, b], h =>
    have h1 := h a (by simp)
    have h2 := h b (by simp)
    simp [isPolicy, h1, h2]
  | a :: b :: c :: t, _ =>
    have : ¬ ((t.length : Int) + 1 + 1 + 1 ≤ 2) := by omega
    simp [isPolicy, this]
theorem row_kind {x : Str} (n : isNon (readLine x) = false) : isAttempt (readLine x) = !isNote (readLine x) ∧ (∃ d ds, readLine x = .tup (d :: ds) ∧ ∀ h, isiD h "tuple" d = some (isNote (readLine x))) := by
  rcases readLine_shape x with e | ⟨a, w, b, e, q⟩ | ⟨i, j, p, e, q⟩
  · rw [e] at n; cases n
  · rw [q]
    rw [e]
    exact ⟨by simp [isAttempt, isPick, tx], _, _, rfl, fun h => rfl⟩
  · rw [q]
    have : isNote (readLine x) = false := by rw [e]; simp [isNote, isWord]
    rw [this]
    rw [e]
    exact ⟨rfl, _, _, rfl, fun h => rfl⟩
theorem badAt_none : ∀ {l : List D} {k : Nat}, badAt l k = none → ∀ d ∈ l, isNon d = false
  | [], _, _, d, hd => by simp at hd
  | a :: l, k, h, d, hd => by
    unfold badAt at h
    cases q : isNon a with
    | true => rw [q] at h; simp at h
    | false =>
      rw [q] at h
      simp only [Bool.false_eq_true, if_false] at h
      rcases List.mem_cons.mp hd with rfl | hd
      · exact q
      · exact badAt_none h d hd
theorem law_read_ok {k : Nat} {x : Str} {h : LH} (t : Tx k x) (hk : k ≤ 10000) (hk2 : 5 ≤ k) : ∃ o, S__law_read [.str x] h = .ok (readText x) (h ++ [o]) := by
  obtain ⟨s1, s2, s3⟩ := t.nl
  have sp (h : LH) := nl_run (h := h) t hk
  have loop := lrows_for (F := 1000000000) (X := some (.str x)) (L := some (.lst ((Txt.split x "\n").map D.str))) (a6 := none) (h := h) hk hk2 (Txt.split x "\n") [] none none none s3 (by simp; omega)
  have rl : (rowsOf x).length ≤ k + 1 := by simp only [rowsOf, List.length_map]; exact s2
  have ne : rowsOf x ≠ [] := by simpa [rowsOf] using s1
  have zi (h' : LH) : forR 1000000000 (.tp [.nm 3, .nm 4]) bLR [] (enmD ((Txt.split x "\n").map D.str)) [some (.str x), some (.loc h.length), some (.lst ((Txt.split x "\n").map D.str)), none, none, none, none] h' = forLoop [] (.tp [.nm 3, .nm 4]) (fun env1 h2 => evSs 1000000000 bLR env1 h2) ((((Txt.split x "\n").map D.str).zipIdx ([] : List D).length).map (fun p => D.tup [.int (p.2 : Nat), p.1])) [some (.str x), some (.loc h.length), some (.lst ((Txt.split x "\n").map D.str)), none, none, none, none] h' := rfl
  rw [← zi] at loop
  simp only [List.nil_append] at loop
  change (∃ j h', badAt (rowsOf x) 0 = some j ∧ _) ∨ (badAt (rowsOf x) 0 = none ∧ _) at loop
  have body : b__law_read S__law_line = (b__law_read S__law_line).take 1 ++ (.for_ (.tp [.nm 3, .nm 4]) (.enm (.var 2)) bLR :: (b__law_read S__law_line).drop 2) := rfl
  simp only [S__law_read, runF_eq]
  unfold readText
  rw [body, evSs_append]
  simp only [b__law_read, N__law_read, List.take_succ_cons, List.take_zero, List.drop_succ_cons, List.drop_zero]
  rcases loop with ⟨j, o, b, e⟩ | ⟨b, b3, b4, b5, e⟩
  · refine ⟨o, ?_⟩
    rw [b]
    simp [sp, e, -mt_split, le_line1 (show 0 ≤ 100000 by decide), le_line1 (show 2 ≤ 100000 by decide)]
  · have nn := badAt_none b
    rw [b]
    cases hr : rowsOf x with
    | nil => exact absurd hr ne
    | cons r rs =>
      have e' : (Txt.split x "\n").map readLine = r :: rs := hr
      have rk : ∀ d ∈ r :: rs, isAttempt d = !isNote d ∧ (∃ d' ds, d = .tup (d' :: ds) ∧ ∀ h, isiD h "tuple" d' = some (isNote d)) := by
        intro d hd
        have n := nn d (by rw [hr]; exact hd)
        rw [← hr] at hd
        obtain ⟨l, _, rfl⟩ := List.mem_map.mp hd
        exact row_kind n
      have K := kinds fun d hd => (rk d hd).1
      rw [e'] at e
      rw [hr] at rl
      have lw : (Txt.split x "\n").length = rs.length + 1 := by
        have := congrArg List.length e'
        simpa using this
      have c1 : cutL (r :: rs) (some 1) none = rs := cut_from (xs := r :: rs) (k := 1)
      have g : (h ++ [O.lst (r :: rs)])[h.length]? = some (.lst (r :: rs)) := by simp
      have i0 : opIdx (.loc h.length) (.int 0) (h ++ [O.lst (r :: rs)]) = .ok r (h ++ [O.lst (r :: rs)]) := by rw [idx_loc g]; simp
      have cl := cut_loc (m := false) (lo := some 1) (hi := none) g
      rw [c1] at cl
      have E3 := lcp_map (own := [("row", 5)]) (t := .nm 5) (elt := .isi (.idx (.var 5) (.cst (.int 0))) "tuple") (s := [(h.length, r :: rs)]) (xs := r :: rs) (env := [some (.str x), some (.loc h.length), some (.lst ((Txt.split x "\n").map D.str)), b3, b4, b5, none]) (h := h ++ [O.lst (r :: rs)]) (fun d => .bl (isNote d)) (fun p hp => by rw [List.mem_singleton.mp hp]; exact g) (le_line1 (by omega)) (by
        intro d hd
        obtain ⟨_, d', ds, rfl, q⟩ := rk d hd
        exact ⟨_, rfl, by simp [q]⟩)
      have IB := in_bools (h := h ++ [O.lst (r :: rs)]) (bs := (r :: rs).map isNote)
      rw [K] at IB
      have eb : D.lst ((r :: rs).map fun d => .bl (isNote d)) = blk ((r :: rs).map isNote) := by unfold blk; rw [List.map_map]; rfl
      have z : rs.length + 1 ≤ sizeLine := le_line1 (by simp at rl; omega)
      have sl := src_loc g
      have ar : (rs.length : Int) + 1 + 1 = rs.length + 2 := by omega
      refine ⟨.lst (r :: rs), ?_⟩
      rw [← eb] at IB
      clear eb
      generalize ((r :: rs).map fun d => D.bl (isNote d)) = LL at *
      generalize hH : h ++ [O.lst (r :: rs)] = H at *
      cases q1 : isNote r <;> cases q2 : isPolicy (.tup rs) <;> rw [q1, q2] at IB <;> simp [sp, e, E3, IB, i0, cl, lw, sl, ar, q1, q2, -mt_split, le_line1 (show 0 ≤ 100000 by decide), le_line1 (show 2 ≤ 100000 by decide), le_line1 (show 3 ≤ 100000 by decide)]
theorem tried_ok {k : Nat} {x : Str} {h : LH} (t : Tx k x) (hk : k ≤ 10000) (hk2 : 5 ≤ k) : S__law_tried [.str x] h = .ok (readText x) h := by
  have e := read_text_gen (h := h) t hk hk2
  simp only [S__law_tried, b__law_tried, N__law_tried, runF_eq]
  cases q : readText x <;> rw [q] at e <;> simp [readRes] at e <;> simp [e, handleA]
theorem tried_odd {d : D} {h : LH} (hd : ∀ x, d ≠ .str x) (hl : ∀ n, d ≠ .loc n) (hc : ∀ n, isiD h "str" d = some n → n = false) (hs : (isiD h "str" d).isSome = true) : S__law_tried [d] h = .ok (.int 0) h := by
  obtain ⟨b, hb⟩ := Option.isSome_iff_exists.mp hs
  have := hc b hb
  subst this
  have e : S_read_text [d] h = .ex ⟨"NoText", some ("line", .int 0)⟩ h := by
    simp only [S_read_text, b_read_text, N_read_text, runF_eq]
    simp [hb]
  simp only [S__law_tried, b__law_tried, N__law_tried, runF_eq]
  simp [e, handleA]
end Ev
end
noncomputable section
namespace Ev
open PySem L2
theorem spl_sum {s : Nat} : ∀ (l acc : List Nat), ((TL.spl [s] 0 acc l).map List.length).sum + (TL.spl [s] 0 acc l).length = acc.length + l.length + 1
  | [], acc => by
    rw [TL.spl_nil]
    simp
  | c :: r, acc => by
    by_cases h : TL.pre [s] (c :: r) = true
    · rw [TL.spl_hit h]
      have := spl_sum r ([] : List Nat) (s := s)
      simp at this ⊢
      omega
    · rw [TL.spl_miss (eq_false_of_ne_true h)]
      have := spl_sum r (acc ++ [c]) (s := s)
      simp at this ⊢
      omega
/-- the size of a text that is joined of these -/
def wt (l : List Str) : Nat := (l.map (·.length)).sum + l.length
theorem wt_app {a b : List Str} : wt (a ++ b) = wt a + wt b := by
  simp [wt]; omega
theorem wt_cut {l : List Str} {n : Nat} : wt (l.take n) + wt (l.drop n) = wt l := by
  rw [← wt_app, List.take_append_drop]
theorem wt_take {l : List Str} {n : Nat} : wt (l.take n) ≤ wt l := by have := wt_cut (l := l) (n := n); omega
theorem wt_drop {l : List Str} {n : Nat} : wt (l.drop n) ≤ wt l := by have := wt_cut (l := l) (n := n); omega
theorem wt_nl {x : Str} : wt (Txt.split x "\n") = x.length + 1 := by
  have e := TL.split_spl x "\n" (by rw [tl_lits.2.1]; simp) (TL.kind_ok (by decide +kernel))
  rw [tl_lits.2.1] at e
  have h := spl_sum (TL.tl x) [] (s := 10)
  rw [← e] at h
  have q : ((Txt.split x "\n").map TL.tl).map List.length = (Txt.split x "\n").map (·.length) := by
    rw [List.map_map]
    exact List.map_congr_left fun y _ => by simp [TL.len_tl]
  rw [q, List.length_map] at h
  unfold wt
  rw [h, TL.len_tl x]
  simp
theorem join_tx {k m : Nat} {l : List Str} (h : ∀ x ∈ l, Tx k x) (hw : wt l ≤ m) : Tx m (Txt.join "\n" l) := by
  refine ⟨?_, fun c hc => ?_⟩
  · have := join_len (sep := "\n") (parts := l)
    rw [len_lits.2.1] at this
    unfold wt at hw
    omega
  · rcases mem_join hc with z | ⟨p, hp, z⟩
    · rw [tl_lits.2.1] at z; simp at z; omega
    · exact (h p hp).ch c z
theorem join_run {m : Nat} {l : List Str} {h : LH} (hw : wt l ≤ m) (hm : m ≤ 100000) : mtF .join false (.str "\n") [.lst (l.map D.str)] h = .ok (.str (Txt.join "\n" l)) h := by
  have js : (l.map (·.length)).sum + l.length * ("\n" : Str).length ≤ 16777216 := by
    unfold wt at hw
    rw [len_lits.2.1]
    omega
  rw [mt_join]
  simp only [asS_lst, Option.bind_some, strs_all, js, if_true]
theorem Tx.mono {k m : Nat} {x : Str} (t : Tx k x) (h : k ≤ m) : Tx m x := ⟨Nat.le_trans t.len h, t.ch⟩
theorem app_len {u v : Str} : (u ++ v).length = u.length + v.length := by rw [TL.len_tl, TL.tl_append, TL.len_tl u, TL.len_tl v, List.length_append]
theorem Tx.app {k m : Nat} {x y : Str} (t : Tx k x) (u : Tx m y) : Tx (k + m) (x ++ y) := by
  refine ⟨by rw [app_len]; have := t.len; have := u.len; omega, fun c hc => ?_⟩
  rw [TL.tl_append] at hc
  rcases List.mem_append.mp hc with hc | hc
  · exact t.ch c hc
  · exact u.ch c hc
def signsD : List D := [.str " ", .str "\n", .str "0", .str "1", .str "2", .str "3", .str "a", .str "A", .str "", .str "*", .str " a", .str "only 1 1\n", .str "note *a\n"]
def signB : D → Bool
  | .str y => decide (y.length ≤ 9) && (TL.tl y).all fun c => decide (c < 1114112)
  | _ => false
theorem signs_tx {d : D} (h : d ∈ signsD) : ∃ y, d = .str y ∧ Tx 9 y := by
  have q : signsD.all signB = true := by decide +kernel
  have := List.all_eq_true.mp q d h
  cases d with
  | str y =>
    simp only [signB, Bool.and_eq_true, decide_eq_true_eq, List.all_eq_true] at this
    exact ⟨y, rfl, this.1, this.2⟩
  | _ => cases this
theorem bent_ok {n : Nat} {x : Str} {h : LH} (s : SrcAt n h) (t : Tx 900 x) : ∃ y h', S__law_bent [.loc n, .str x] h = .ok (.str y) h' ∧ Dr n h h' ∧ Tx 4000 y := by
  obtain ⟨i, h1, e1, d1, i0, i1⟩ := draw_ok (m := (x.length : Int) + 1) s (by omega) (by have := t.len; omega)
  have s1 := d1.src s
  obtain ⟨c, hc, h2, e2, d2⟩ := choice_ok (ds := signsD) s1 (by simp [signsD]) (le_line1 (by simp [signsD]))
  have s2 := d2.src s1
  obtain ⟨y, rfl, ty⟩ := signs_tx hc
  obtain ⟨j, h3, e3, d3, j0, j1⟩ := draw_ok (m := 3) s2 (by omega) (by omega)
  have s3 := d3.src s2
  have tX : Tx 1809 (cutS x none (some i) ++ y ++ cutS x (some (i + j)) none) := ((cutS_ch t _ _).app ty).app (cutS_ch t _ _)
  have c1 (h : LH) := cut_str (h := h) (m := false) (lo := none) (hi := some i) (x := x) (le_line1 (by have := t.len; omega))
  have c2 (h : LH) := cut_str (h := h) (m := false) (lo := some (i + j)) (hi := none) (x := x) (le_line1 (by have := t.len; omega))
  have z1 : (cutS x none (some i)).length + y.length ≤ sizeLine := le_line1 (by have := (cutS_ch t none (some i)).len; have := ty.len; omega)
  have z2 : (cutS x none (some i) ++ y).length + (cutS x (some (i + j)) none).length ≤ sizeLine := le_line1 (by have := ((cutS_ch t none (some i)).app ty).len; have := (cutS_ch t (some (i + j)) none).len; omega)
  have xl := lenD_str (x := x) (h := h) (le_line1 (by have := t.len; omega))
  generalize hX : cutS x none (some i) ++ y ++ cutS x (some (i + j)) none = X at *
  obtain ⟨p1, p2, p3⟩ := tX.nl
  have sp (h : LH) := nl_run (h := h) tX (by decide)
  have W : wt (Txt.split X "\n") ≤ 1810 := by rw [wt_nl]; have := tX.len; omega
  generalize Txt.split X "\n" = L at *
  have pos : 0 < L.length := List.length_pos_iff.mpr p1
  obtain ⟨g, h4, e4, d4, g0, g1⟩ := draw_ok (m := (L.length : Int)) s3 (by omega) (by omega)
  have s4 := d4.src s3
  obtain ⟨g, rfl⟩ := Int.eq_ofNat_of_zero_le g0
  have k1 (h : LH) : opCut false (.lst (L.map D.str)) none (some (g : Int)) h = .ok (.lst ((L.take g).map D.str)) h := by rw [cut_lst, cutL_map, cut_to]; rfl
  have k2 (h : LH) : opCut false (.lst (L.map D.str)) (some (g : Int)) none h = .ok (.lst ((L.drop g).map D.str)) h := by rw [cut_lst, cutL_map, cut_from]; rfl
  have k3 (h : LH) : opCut false (.lst (L.map D.str)) (some ((g : Int) + 1)) none h = .ok (.lst ((L.drop (g + 1)).map D.str)) h := by
    have := cut_from (xs := L) (k := g + 1)
    rw [show ((g + 1 : Nat) : Int) = (g : Int) + 1 by omega] at this
    rw [cut_lst, cutL_map, this]; rfl
  have k4 (h : LH) : opCut false (.lst (L.map D.str)) (some (g : Int)) (some ((g : Int) + 1)) h = .ok (.lst (((L.drop g).take 1).map D.str)) h := by
    have := cut_mid (xs := L) (s := g) (n := 1)
    rw [show ((g + 1 : Nat) : Int) = (g : Int) + 1 by omega] at this
    rw [cut_lst, cutL_map, this]; rfl
  have wl {l : List Str} : l.length ≤ wt l := by unfold wt; omega
  have add (a b : List Str) (h : LH) (ha : wt a ≤ 4000) (hb : wt b ≤ 4000) : opBin .Add false (.lst (a.map D.str)) (.lst (b.map D.str)) h = .ok (.lst ((a ++ b).map D.str)) h := by
    have la := wl (l := a)
    have lb := wl (l := b)
    simp [le_line1 (show a.length + b.length ≤ 100000 by omega)]
  have w1 : wt (L.take g) ≤ 1810 := Nat.le_trans wt_take W
  have w2 : wt (L.drop g) ≤ 1810 := Nat.le_trans wt_drop W
  have w3 : wt (L.drop (g + 1)) ≤ 1810 := Nat.le_trans wt_drop W
  have w4 : wt ((L.drop g).take 1) ≤ 1810 := Nat.le_trans wt_take w2
  have a1 (h : LH) := add (L.take g) (L.drop (g + 1)) h (by omega) (by omega)
  have a2 (h : LH) := add L ((L.drop g).take 1) h (by omega) (by omega)
  have a3 (h : LH) := add (L.drop g) (L.take g) h (by omega) (by omega)
  have J1 (h : LH) := join_run (m := 4000) (l := L.take g ++ L.drop (g + 1)) (h := h) (by rw [wt_app]; omega) (by decide)
  have J2 (h : LH) := join_run (m := 4000) (l := L ++ (L.drop g).take 1) (h := h) (by rw [wt_app]; omega) (by decide)
  have J3 (h : LH) := join_run (m := 4000) (l := L.drop g ++ L.take g) (h := h) (by rw [wt_app]; omega) (by decide)
  have T1 := join_tx (m := 4000) (l := L.take g ++ L.drop (g + 1)) (k := 1809) (fun z hz => by
    rcases List.mem_append.mp hz with hz | hz
    · exact p3 z (List.mem_of_mem_take hz)
    · exact p3 z (List.mem_of_mem_drop hz)) (by rw [wt_app]; omega)
  have T2 := join_tx (m := 4000) (l := L ++ (L.drop g).take 1) (k := 1809) (fun z hz => by
    rcases List.mem_append.mp hz with hz | hz
    · exact p3 z hz
    · exact p3 z (List.mem_of_mem_drop (List.mem_of_mem_take hz))) (by rw [wt_app]; omega)
  have T3 := join_tx (m := 4000) (l := L.drop g ++ L.take g) (k := 1809) (fun z hz => by
    rcases List.mem_append.mp hz with hz | hz
    · exact p3 z (List.mem_of_mem_drop hz)
    · exact p3 z (List.mem_of_mem_take hz)) (by rw [wt_app]; omega)
  generalize Txt.join "\n" (L.take g ++ L.drop (g + 1)) = Y1 at *
  generalize Txt.join "\n" (L ++ (L.drop g).take 1) = Y2 at *
  generalize Txt.join "\n" (L.drop g ++ L.take g) = Y3 at *
  obtain ⟨d, hd, h5, e5, d5⟩ := choice_ok (ds := [.str X, .str X, .str X, .str Y1, .str Y2, .str Y3]) s4 (by simp) (le_line1 (by simp))
  have hd' : ∃ y, d = .str y ∧ Tx 4000 y := by
    simp only [List.mem_cons, List.not_mem_nil, or_false] at hd
    rcases hd with rfl | rfl | rfl | rfl | rfl | rfl
    · exact ⟨_, rfl, tX.mono (by decide)⟩
    · exact ⟨_, rfl, tX.mono (by decide)⟩
    · exact ⟨_, rfl, tX.mono (by decide)⟩
    · exact ⟨_, rfl, T1⟩
    · exact ⟨_, rfl, T2⟩
    · exact ⟨_, rfl, T3⟩
  obtain ⟨y', rfl, ty'⟩ := hd'
  refine ⟨y', h5, ?_, d1.trans (d2.trans (d3.trans (d4.trans d5))), ty'⟩
  simp only [S__law_bent, b__law_bent, N__law_bent, runF_eq]
  unfold signsD at e2
  have aw (h : LH) : opBin .Add false (.lst [.str X, .str X, .str X, .str Y1]) (.lst [.str Y2, .str Y3]) h = .ok (.lst [.str X, .str X, .str X, .str Y1, .str Y2, .str Y3]) h := by simp [le_line1 (show 6 ≤ 100000 by decide)]
  generalize (L.take g).map D.str = M1 at *
  generalize (L.drop g).map D.str = M2 at *
  generalize (L.drop (g + 1)).map D.str = M3 at *
  generalize ((L.drop g).take 1).map D.str = M4 at *
  simp [e1, e2, e3, e4, e5, aw, c1, c2, z1, z2, xl, hX, sp, k1, k2, k3, k4, a1, a2, a3, J1, J2, J3, -mt_split, -mt_join, -cut_lst, -add_lst, -List.map_append, le_line1 (show 13 ≤ 100000 by decide), le_line1 (show 4 ≤ 100000 by decide), le_line1 (show 2 ≤ 100000 by decide), le_line1 (show 6 ≤ 100000 by decide)]
end Ev
end
noncomputable section
namespace Ev
open PySem L2
abbrev bLaw : List S := b_law S__law_source S_whole_text S__law_note S__law_policy S__law_bent S__law_tried S__law_read
def Env9 (s : Option D) (env : Env) : Prop := ∃ a1 a2 a3 a4 a5 a6 a7 a8, env = [s, a1, a2, a3, a4, a5, a6, a7, a8]
theorem SrcAt.app {n : Nat} {h t : LH} (s : SrcAt n h) : SrcAt n (h ++ t) := by
  obtain ⟨o, e, so⟩ := s
  exact ⟨o, by rw [List.getElem?_append_left (List.getElem?_eq_some_iff.mp e).1]; exact e, so⟩
theorem readText_fit {k : Nat} {x : Str} (t : Tx k x) (hk2 : 5 ≤ k) : fit (k + 2) 4 (readText x) := by
  have f := rowsOf_fit t hk2
  have l : (rowsOf x).length ≤ k + 1 := by simp only [rowsOf, List.length_map]; exact t.nl.2.1
  unfold readText
  split
  · simp
  · split
    · simp
    · rename_i r rs e
      rw [e] at f l
      split
      · refine ⟨by simp, fun d hd => ?_⟩
        simp only [List.mem_cons, List.not_mem_nil, or_false] at hd
        rcases hd with rfl | rfl
        · exact fit_mono (by omega) (by decide) (f _ (by simp))
        · exact ⟨by simp at l; omega, fun d hd => fit_mono (by omega) (by decide) (f d (by simp [hd]))⟩
      · simp
def isI (k : Int) : D → Bool
  | .int j => decide (j = k)
  | _ => false
theorem isI_eq {k : Int} {d : D} (h : isI k d = true) : d = .int k := by
  cases d with
  | int j => simp [isI] at h; rw [h]
  | _ => cases h
theorem lit_tx : ∀ x ∈ (["", "note *a", "only 0 0", "note *a\nonly 0 0\nonly 0 0\nonly 0 0", "note *a\nfirst 3 0", "note a b c *d"] : List Str), Tx 100 x := by
  have q : ((["", "note *a", "only 0 0", "note *a\nonly 0 0\nonly 0 0\nonly 0 0", "note *a\nfirst 3 0", "note a b c *d"] : List Str).all fun y => decide (y.length ≤ 100) && (TL.tl y).all fun c => decide (c < 1114112)) = true := by decide +kernel
  intro y hy
  have := List.all_eq_true.mp q y hy
  simp only [Bool.and_eq_true, decide_eq_true_eq, List.all_eq_true] at this
  exact ⟨this.1, this.2⟩
theorem lit_read : readText "" = .int 1 ∧ readText "note *a" = .int 2 ∧ readText "only 0 0" = .int 2 ∧ readText "note *a\nonly 0 0\nonly 0 0\nonly 0 0" = .int 5 ∧ readText "note *a\nfirst 3 0" = .int 2 ∧ readText "note a b c *d" = .int 1 :=
  ⟨isI_eq (by decide +kernel), isI_eq (by decide +kernel), isI_eq (by decide +kernel), isI_eq (by decide +kernel), isI_eq (by decide +kernel), isI_eq (by decide +kernel)⟩
def strOf : D → Str
  | .str x => x
  | _ => ""
theorem law_end {F : Nat} {s a1 a2 a3 a4 a5 a6 a7 a8 : Option D} {h : LH} : evSs F (bLaw.drop 1) [s, a1, a2, a3, a4, a5, a6, a7, a8] h = .rt (.bl true) h := by
  obtain ⟨r1, r2, r3, r4, r5, r6⟩ := lit_read
  have E := lcp_map (own := [("row", 8)]) (t := .nm 8) (elt := .cal "_law_tried" S__law_tried 1 [] [(.var 8)]) (s := []) (xs := [.str "", .str "note *a", .str "only 0 0", .str "note *a\nonly 0 0\nonly 0 0\nonly 0 0", .str "note *a\nfirst 3 0", .str "note a b c *d"]) (env := [s, a1, a2, a3, a4, a5, some (.lst [.str "", .str "note *a", .str "only 0 0", .str "note *a\nonly 0 0\nonly 0 0\nonly 0 0", .str "note *a\nfirst 3 0", .str "note a b c *d"]), a7, a8]) (h := h) (fun d => readText (strOf d)) srcOk_nil (le_line1 (by simp)) (by
    intro d hd
    have : d ∈ (["", "note *a", "only 0 0", "note *a\nonly 0 0\nonly 0 0\nonly 0 0", "note *a\nfirst 3 0", "note a b c *d"] : List Str).map D.str := hd
    obtain ⟨x, hx, rfl⟩ := List.mem_map.mp this
    exact ⟨_, rfl, by simp [tried_ok (lit_tx x hx) (by decide) (by decide), strOf]⟩)
  simp only [List.map_cons, List.map_nil, strOf, r1, r2, r3, r4, r5, r6] at E
  have e4 := eq_self (h := h) (b := 100) (n := 2) (d := .lst [.int 1, .int 2, .int 2, .int 5, .int 2, .int 1]) (by decide) (by simp)
  simp only [bLaw, b_law, List.drop_succ_cons, List.drop_zero]
  simp [E, e4, le_line1 (show 6 ≤ 100000 by decide)]
theorem odd_run {X : Str} {s a1 a2 a4 a5 a6 a7 a8 : Option D} {h : LH} : lcpR [("odd", 7)] (.nm 7) [(.cmp .NotEq (.cal "_law_tried" S__law_tried 1 [] [(.var 7)]) (.cst (.int 0)))] (.var 7) [] [.non, .int 5, .tup [.str X], .lst [.str X], .bl true] [s, a1, a2, some (.str X), a4, a5, a6, a7, a8] h = .ok [] h := by
  have E := lcp_filter (own := [("odd", 7)]) (t := .nm 7) (c := .cmp .NotEq (.cal "_law_tried" S__law_tried 1 [] [(.var 7)]) (.cst (.int 0))) (elt := .var 7) (s := []) (xs := [.non, .int 5, .tup [.str X], .lst [.str X], .bl true]) (env := [s, a1, a2, some (.str X), a4, a5, a6, a7, a8]) (h := h) (fun _ => false) id srcOk_nil (le_line1 (by simp)) (by
    intro d hd
    simp only [List.mem_cons, List.not_mem_nil, or_false] at hd
    have e0 := eq_self (h := h) (b := 0) (n := 0) (d := .int 0) (by decide) (by simp)
    have t : S__law_tried [d] h = .ok (.int 0) h := by
      rcases hd with rfl | rfl | rfl | rfl | rfl <;> exact tried_odd (by simp) (by simp) (by simp) (by simp)
    exact ⟨_, rfl, by simp [t, e0], fun z => by cases z⟩)
  rw [E]
  rfl
theorem pickv {F t : Nat} {X v : Str} {s a1 a2 a6 a7 a8 : Option D} {h : LH} (tX : Tx 200 X) (tv : Tx 4000 v) : ∃ v', Tx 900 v' ∧ evS F (.set 4 (.ite (.or [(.cmp .Eq (.bin .Mod false (.var 5) (.cst (.int 3))) (.cst (.int 0))), (.cmp .Gt (.bui .len false [(.var 4)]) (.cst (.int 900)))]) (.var 3) (.var 4))) [s, a1, a2, some (.str X), some (.str v), some (.int (t : Nat)), a6, a7, a8] h = .nx [s, a1, a2, some (.str X), some (.str v'), some (.int (t : Nat)), a6, a7, a8] h := by
  have l2 : Nat.log2 3 < 9000 := by decide
  have vl := lenD_str (x := v) (h := h) (le_line1 (by have := tv.len; omega))
  by_cases c1 : (t : Int) % 3 = 0
  · exact ⟨X, tX.mono (by decide), by simp [c1, l2]⟩
  · by_cases c2 : (900 : Int) < v.length
    · exact ⟨X, tX.mono (by decide), by simp [c1, c2, l2, vl]⟩
    · exact ⟨v, ⟨by omega, tv.ch⟩, by simp [c1, c2, l2, vl]⟩
def bIn : List S := [.set 4 (.ite (.or [(.cmp .Eq (.bin .Mod false (.var 5) (.cst (.int 3))) (.cst (.int 0))), (.cmp .Gt (.bui .len false [(.var 4)]) (.cst (.int 900)))]) (.var 3) (.var 4)), .set 4 (.cal "_law_bent" S__law_bent 2 [] [(.var 2), (.var 4)]), .ifs (.cmp .NotEq (.cal "_law_tried" S__law_tried 1 [] [(.var 4)]) (.cal "_law_read" S__law_read 1 [] [(.var 4)])) [.ret (.cst (.bool false))] []]
theorem in_run {F t n : Nat} {X v : Str} {s a1 a6 a7 a8 : Option D} {h : LH} (sr : SrcAt n h) (tX : Tx 200 X) (tv : Tx 4000 v) : ∃ v' h', Tx 4000 v' ∧ SrcAt n h' ∧ evSs F bIn [s, a1, some (.loc n), some (.str X), some (.str v), some (.int (t : Nat)), a6, a7, a8] h = .nx [s, a1, some (.loc n), some (.str X), some (.str v'), some (.int (t : Nat)), a6, a7, a8] h' := by
  obtain ⟨v1, tv1, e1⟩ := pickv (F := F) (t := t) (s := s) (a1 := a1) (a2 := some (.loc n)) (a6 := a6) (a7 := a7) (a8 := a8) (h := h) tX tv
  obtain ⟨v2, h2, e2, d2, tv2⟩ := bent_ok sr tv1
  have e3 := tried_ok (h := h2) tv2 (by decide) (by decide)
  obtain ⟨o, e4⟩ := law_read_ok (h := h2) tv2 (by decide) (by decide)
  have e5 := eq_self (h := h2 ++ [o]) (by decide) (readText_fit tv2 (by decide))
  refine ⟨v2, h2 ++ [o], tv2, (d2.src sr).app, ?_⟩
  unfold bIn
  rw [ss_cons, e1]
  simp [e2, e3, e4, e5]
theorem law_ok {ns : List Int} (hl : ns.length ≤ 63) : ∃ h', S_law [.scr ns] [] = .ok (.bl true) h' := by
  have key := RSat.fin (Q := fun v h' => v = .bl true) (r := evSs 1000000000 bLaw [some (.scr ns), none, none, none, none, none, none, none, none] []) (by
    have q : bLaw = bLaw.take 1 ++ bLaw.drop 1 := rfl
    rw [q, evSs_append]
    refine RSat.seq (N' := fun env h' => Env9 (some (.scr ns)) env) ?_ (fun env h' hi => ?_)
    · simp only [bLaw, b_law, List.take_succ_cons, List.take_zero]
      have b1 : -4611686018427387904 ≤ 1 + (if (8 : Int) < ns.length then 8 else (ns.length : Int)) ∧ 1 + (if (8 : Int) < ns.length then 8 else (ns.length : Int)) < 4611686018427387904 := by split <;> omega
      simp [b1]
      refine RSat.seq (N' := fun env h' => Env9 (some (.scr ns)) env) (forLoop_sat (I := fun rest env h' => Env9 (some (.scr ns)) env ∧ ∀ x ∈ rest, ∃ k : Nat, x = .int k) (fun x rest env h2 hi => ?_) (fun env h2 hi => ⟨srcOk_nil, hi.1⟩) _ _ _ ⟨⟨_, _, _, _, _, _, _, _, rfl⟩, fun x hx => ?_⟩) (fun env h2 hi => hi)
      · obtain ⟨⟨a1, a2, a3, a4, a5, a6, a7, a8, rfl⟩, hm⟩ := hi
        refine ⟨srcOk_nil, _, rfl, ?_⟩
        obtain ⟨k, rfl⟩ := hm x List.mem_cons_self
        have hm2 : ∀ x ∈ rest, ∃ k : Nat, x = .int k := fun y hy => hm y (List.mem_cons_of_mem _ hy)
        obtain ⟨o, e1, so⟩ := source_ok (ns := ns) (k := k) (h := h2)
        have s1 : SrcAt h2.length (h2 ++ [o]) := ⟨o, by simp, so⟩
        obtain ⟨N0, h8, e8, d8, n8⟩ := note_ok (k := 2) s1 (by decide)
        obtain ⟨as, w, bs, rfl, q8⟩ := n8.nt
        obtain ⟨po, h9, e9, d9, n9⟩ := policy_ok (k := 2) (d8.src s1) (by decide)
        obtain ⟨ds, rfl, pl1, pl2, n9'⟩ := id n9
        obtain ⟨ps, rfl, hp⟩ := atts_at n9'
        simp only [List.length_map] at pl1 pl2
        have s9 := (d8.trans d9).src s1
        have tt : Tx 200 (wtext as w bs ps) := ⟨wtext_len q8 hp pl2, fun c hc => by
          rcases mem_join hc with z | ⟨p, hp', z⟩
          · rw [tl_lits.2.1] at z; simp at z; omega
          · have := wline_chars q8 hp p hp' c z
            omega⟩
        have fin := whole_text_ok (h := h9) q8 hp pl2 n9
        generalize nt as w bs = N at *
        generalize wtext as w bs ps = X at *
        generalize ps.map At.d = PS at *
        simp at e8 e9
        have rg : rangeItems [.int 16] = some ((List.range 16).map fun i => D.int (i : Nat)) := rng_nat (n := 16) (by decide)
        have hr : ∀ x ∈ (List.range 16).map fun i => D.int (i : Nat), ∃ t : Nat, x = .int t := fun x hx => by
          obtain ⟨t, _, rfl⟩ := List.mem_map.mp hx
          exact ⟨t, rfl⟩
        generalize (List.range 16).map (fun i => D.int (i : Nat)) = RG at *
        simp [e1, e8, e9, fin, rg, -rng1]
        refine LSat.of (RSat.seq (N' := fun env h' => (∃ v a5 a6 a7 a8, env = [some (.scr ns), some (.int k), some (.loc h2.length), some (.str X), some (.str v), a5, a6, a7, a8])) (forLoop_sat (I := fun rest env h' => (∃ v a5 a6 a7 a8, env = [some (.scr ns), some (.int k), some (.loc h2.length), some (.str X), some (.str v), a5, a6, a7, a8] ∧ Tx 4000 v) ∧ SrcAt h2.length h' ∧ ∀ x ∈ rest, ∃ t : Nat, x = .int t) (fun x rest env h7 hi => ?_) (fun env h7 hi => ?_) _ _ _ ⟨⟨_, _, _, _, _, rfl, tt.mono (by decide)⟩, s9, hr⟩) (fun env h6 hi => ?_))
        · obtain ⟨⟨v, a5, a6, a7, a8, rfl, tv⟩, s7, hx⟩ := hi
          refine ⟨srcOk_nil, _, rfl, ?_⟩
          obtain ⟨t, rfl⟩ := hx x List.mem_cons_self
          obtain ⟨v', h', tv', s', e⟩ := in_run (F := 1000000000) (t := t) (s := some (.scr ns)) (a1 := some (.int k)) (a6 := a6) (a7 := a7) (a8 := a8) s7 tt tv
          have e' : evSs 1000000000 bIn [some (.scr ns), some (.int k), some (.loc h2.length), some (.str X), some (.str v), some (.int (t : Nat)), a6, a7, a8] h7 = _ := e
          show LSat _ _ _ (evSs 1000000000 bIn _ h7)
          exact e'.symm ▸ ⟨⟨v', _, _, _, _, rfl, tv'⟩, s', fun y hy => hx y (List.mem_cons_of_mem _ hy)⟩
        · obtain ⟨⟨v, a5, a6, a7, a8, rfl, tv⟩, s7, hx⟩ := hi
          exact ⟨srcOk_nil, _, _, _, _, _, rfl⟩
        · obtain ⟨v, a5, a6, a7, a8, rfl⟩ := hi
          have od := odd_run (X := X) (s := some (.scr ns)) (a1 := some (.int k)) (a2 := some (.loc h2.length)) (a4 := some (.str v)) (a5 := a5) (a6 := a6) (a7 := a7) (a8 := a8) (h := h6)
          have en := eq_self (h := h6) (b := 0) (n := 1) (d := .lst []) (by decide) (by simp)
          simp [od, en, RSat, le_line1 (show 5 ≤ 100000 by decide), le_line1 (show 1 ≤ 100000 by decide), le_line1 (show 0 ≤ 100000 by decide)]
          exact ⟨⟨_, _, _, _, _, _, _, _, rfl⟩, hm2⟩
      · obtain ⟨k, _, rfl⟩ := List.mem_map.mp hx
        exact ⟨k, rfl⟩
    · obtain ⟨a1, a2, a3, a4, a5, a6, a7, a8, rfl⟩ := hi
      rw [law_end]
      rfl)
  obtain ⟨v, h', e, rfl⟩ := key
  exact ⟨h', by simp only [S_law, runF_eq]; exact e⟩
end Ev
end
namespace Ev
open PySem L2
def topS (i : Nat) : Stmt := PySem.Challenge.pw_notesbelow_k30_texts_that_are_spoilt.main.body.getD i (.Pass ⟨0, 0, 0, 0⟩)
abbrev s_is_word : Stmt := topS 10
theorem sc_is_word : FnScope N_is_word ["value"] (defScope s_is_word) := ⟨rfl, rfl, rfl, by decide +kernel, rfl, by decide +kernel, by decide +kernel⟩
theorem ck_is_word : chkSs N_is_word (defScope s_is_word) (b_is_word ) (defBody s_is_word) = true := by decide +kernel
abbrev s_are_words : Stmt := topS 11
theorem sc_are_words : FnScope N_are_words ["value", "most"] (defScope s_are_words) := ⟨rfl, rfl, rfl, by decide +kernel, rfl, by decide +kernel, by decide +kernel⟩
theorem ck_are_words : chkSs N_are_words (defScope s_are_words) (b_are_words S_is_word) (defBody s_are_words) = true := by decide +kernel
abbrev s_is_from : Stmt := topS 12
theorem sc_is_from : FnScope N_is_from ["value", "low", "high"] (defScope s_is_from) := ⟨rfl, rfl, rfl, by decide +kernel, rfl, by decide +kernel, by decide +kernel⟩
theorem ck_is_from : chkSs N_is_from (defScope s_is_from) (b_is_from ) (defBody s_is_from) = true := by decide +kernel
abbrev s_is_note : Stmt := topS 13
theorem sc_is_note : FnScope N_is_note ["value"] (defScope s_is_note) := ⟨rfl, rfl, rfl, by decide +kernel, rfl, by decide +kernel, by decide +kernel⟩
theorem ck_is_note : chkSs N_is_note (defScope s_is_note) (b_is_note S_is_word S_are_words) (defBody s_is_note) = true := by decide +kernel
abbrev s_is_pick : Stmt := topS 14
theorem sc_is_pick : FnScope N_is_pick ["value"] (defScope s_is_pick) := ⟨rfl, rfl, rfl, by decide +kernel, rfl, by decide +kernel, by decide +kernel⟩
theorem ck_is_pick : chkSs N_is_pick (defScope s_is_pick) (b_is_pick ) (defBody s_is_pick) = true := by decide +kernel
abbrev s_is_attempt : Stmt := topS 15
theorem sc_is_attempt : FnScope N_is_attempt ["value"] (defScope s_is_attempt) := ⟨rfl, rfl, rfl, by decide +kernel, rfl, by decide +kernel, by decide +kernel⟩
theorem ck_is_attempt : chkSs N_is_attempt (defScope s_is_attempt) (b_is_attempt S_is_pick S_is_from) (defBody s_is_attempt) = true := by decide +kernel
abbrev s_is_policy : Stmt := topS 16
theorem sc_is_policy : FnScope N_is_policy ["value"] (defScope s_is_policy) := ⟨rfl, rfl, rfl, by decide +kernel, rfl, by decide +kernel, by decide +kernel⟩
theorem ck_is_policy : chkSs N_is_policy (defScope s_is_policy) (b_is_policy S_is_attempt) (defBody s_is_policy) = true := by decide +kernel
abbrev s_need_note : Stmt := topS 17
theorem sc_need_note : FnScope N_need_note ["value"] (defScope s_need_note) := ⟨rfl, rfl, rfl, by decide +kernel, rfl, by decide +kernel, by decide +kernel⟩
theorem ck_need_note : chkSs N_need_note (defScope s_need_note) (b_need_note S_is_note) (defBody s_need_note) = true := by decide +kernel
abbrev s_need_policy : Stmt := topS 18
theorem sc_need_policy : FnScope N_need_policy ["value"] (defScope s_need_policy) := ⟨rfl, rfl, rfl, by decide +kernel, rfl, by decide +kernel, by decide +kernel⟩
theorem ck_need_policy : chkSs N_need_policy (defScope s_need_policy) (b_need_policy S_is_policy) (defBody s_need_policy) = true := by decide +kernel
abbrev s_need_both : Stmt := topS 19
theorem sc_need_both : FnScope N_need_both ["note", "policy"] (defScope s_need_both) := ⟨rfl, rfl, rfl, by decide +kernel, rfl, by decide +kernel, by decide +kernel⟩
theorem ck_need_both : chkSs N_need_both (defScope s_need_both) (b_need_both S_need_note S_need_policy) (defBody s_need_both) = true := by decide +kernel
abbrev s_lines_of : Stmt := topS 22
theorem sc_lines_of : FnScope N_lines_of ["note", "policy"] (defScope s_lines_of) := ⟨rfl, rfl, rfl, by decide +kernel, rfl, by decide +kernel, by decide +kernel⟩
theorem ck_lines_of : chkSs N_lines_of (defScope s_lines_of) (b_lines_of ) (defBody s_lines_of) = true := by decide +kernel
abbrev s_whole_text : Stmt := topS 23
theorem sc_whole_text : FnScope N_whole_text ["note", "policy"] (defScope s_whole_text) := ⟨rfl, rfl, rfl, by decide +kernel, rfl, by decide +kernel, by decide +kernel⟩
theorem ck_whole_text : chkSs N_whole_text (defScope s_whole_text) (b_whole_text S_need_both S_lines_of) (defBody s_whole_text) = true := by decide +kernel
abbrev s_read_note : Stmt := topS 24
theorem sc_read_note : FnScope N_read_note ["line"] (defScope s_read_note) := ⟨rfl, rfl, rfl, by decide +kernel, rfl, by decide +kernel, by decide +kernel⟩
theorem ck_read_note : chkSs N_read_note (defScope s_read_note) (b_read_note S_is_note) (defBody s_read_note) = true := by decide +kernel
abbrev s_read_attempt : Stmt := topS 25
theorem sc_read_attempt : FnScope N_read_attempt ["line"] (defScope s_read_attempt) := ⟨rfl, rfl, rfl, by decide +kernel, rfl, by decide +kernel, by decide +kernel⟩
theorem ck_read_attempt : chkSs N_read_attempt (defScope s_read_attempt) (b_read_attempt S_is_attempt) (defBody s_read_attempt) = true := by decide +kernel
abbrev s_read_line : Stmt := topS 26
theorem sc_read_line : FnScope N_read_line ["line"] (defScope s_read_line) := ⟨rfl, rfl, rfl, by decide +kernel, rfl, by decide +kernel, by decide +kernel⟩
theorem ck_read_line : chkSs N_read_line (defScope s_read_line) (b_read_line S_read_note S_read_attempt) (defBody s_read_line) = true := by decide +kernel
abbrev s_read_text : Stmt := topS 27
theorem sc_read_text : FnScope N_read_text ["value"] (defScope s_read_text) := ⟨rfl, rfl, rfl, by decide +kernel, rfl, by decide +kernel, by decide +kernel⟩
theorem ck_read_text : chkSs N_read_text (defScope s_read_text) (b_read_text S_read_line S_is_note S_is_policy) (defBody s_read_text) = true := by decide +kernel
abbrev s__law_source : Stmt := topS 29
theorem sc__law_source : FnScope N__law_source ["script", "k"] (defScope s__law_source) := ⟨rfl, rfl, rfl, by decide +kernel, rfl, by decide +kernel, by decide +kernel⟩
theorem ck__law_source : chkSs N__law_source (defScope s__law_source) (b__law_source ) (defBody s__law_source) = true := by decide +kernel
abbrev s__law_draw : Stmt := topS 30
theorem sc__law_draw : FnScope N__law_draw ["source", "many"] (defScope s__law_draw) := ⟨rfl, rfl, rfl, by decide +kernel, rfl, by decide +kernel, by decide +kernel⟩
theorem ck__law_draw : chkSs N__law_draw (defScope s__law_draw) (b__law_draw ) (defBody s__law_draw) = true := by decide +kernel
abbrev s__law_choice : Stmt := topS 31
theorem sc__law_choice : FnScope N__law_choice ["source", "rows"] (defScope s__law_choice) := ⟨rfl, rfl, rfl, by decide +kernel, rfl, by decide +kernel, by decide +kernel⟩
theorem ck__law_choice : chkSs N__law_choice (defScope s__law_choice) (b__law_choice S__law_draw) (defBody s__law_choice) = true := by decide +kernel
abbrev s__law_menu : Stmt := topS 32
theorem sc__law_menu : FnScope N__law_menu ["source"] (defScope s__law_menu) := ⟨rfl, rfl, rfl, by decide +kernel, rfl, by decide +kernel, by decide +kernel⟩
theorem ck__law_menu : chkSs N__law_menu (defScope s__law_menu) (b__law_menu S__law_choice) (defBody s__law_menu) = true := by decide +kernel
abbrev s__law_row : Stmt := topS 33
theorem sc__law_row : FnScope N__law_row ["source", "words", "most"] (defScope s__law_row) := ⟨rfl, rfl, rfl, by decide +kernel, rfl, by decide +kernel, by decide +kernel⟩
theorem ck__law_row : chkSs N__law_row (defScope s__law_row) (b__law_row S__law_draw S__law_choice) (defBody s__law_row) = true := by decide +kernel
abbrev s__law_note : Stmt := topS 34
theorem sc__law_note : FnScope N__law_note ["source", "most"] (defScope s__law_note) := ⟨rfl, rfl, rfl, by decide +kernel, rfl, by decide +kernel, by decide +kernel⟩
theorem ck__law_note : chkSs N__law_note (defScope s__law_note) (b__law_note S__law_menu S__law_row S__law_choice) (defBody s__law_note) = true := by decide +kernel
abbrev s__law_attempt : Stmt := topS 35
theorem sc__law_attempt : FnScope N__law_attempt ["source", "most"] (defScope s__law_attempt) := ⟨rfl, rfl, rfl, by decide +kernel, rfl, by decide +kernel, by decide +kernel⟩
theorem ck__law_attempt : chkSs N__law_attempt (defScope s__law_attempt) (b__law_attempt S__law_choice S__law_draw) (defBody s__law_attempt) = true := by decide +kernel
abbrev s__law_policy : Stmt := topS 36
theorem sc__law_policy : FnScope N__law_policy ["source", "most"] (defScope s__law_policy) := ⟨rfl, rfl, rfl, by decide +kernel, rfl, by decide +kernel, by decide +kernel⟩
theorem ck__law_policy : chkSs N__law_policy (defScope s__law_policy) (b__law_policy S__law_draw S__law_attempt) (defBody s__law_policy) = true := by decide +kernel
abbrev s__law_is_word : Stmt := topS 37
theorem sc__law_is_word : FnScope N__law_is_word ["word"] (defScope s__law_is_word) := ⟨rfl, rfl, rfl, by decide +kernel, rfl, by decide +kernel, by decide +kernel⟩
theorem ck__law_is_word : chkSs N__law_is_word (defScope s__law_is_word) (b__law_is_word ) (defBody s__law_is_word) = true := by decide +kernel
abbrev s__law_line : Stmt := topS 38
theorem sc__law_line : FnScope N__law_line ["line"] (defScope s__law_line) := ⟨rfl, rfl, rfl, by decide +kernel, rfl, by decide +kernel, by decide +kernel⟩
theorem ck__law_line : chkSs N__law_line (defScope s__law_line) (b__law_line S__law_is_word) (defBody s__law_line) = true := by decide +kernel
abbrev s__law_read : Stmt := topS 39
theorem sc__law_read : FnScope N__law_read ["text"] (defScope s__law_read) := ⟨rfl, rfl, rfl, by decide +kernel, rfl, by decide +kernel, by decide +kernel⟩
theorem ck__law_read : chkSs N__law_read (defScope s__law_read) (b__law_read S__law_line) (defBody s__law_read) = true := by decide +kernel
abbrev s__law_tried : Stmt := topS 40
theorem sc__law_tried : FnScope N__law_tried ["value"] (defScope s__law_tried) := ⟨rfl, rfl, rfl, by decide +kernel, rfl, by decide +kernel, by decide +kernel⟩
theorem ck__law_tried : chkSs N__law_tried (defScope s__law_tried) (b__law_tried S_read_text) (defBody s__law_tried) = true := by decide +kernel
abbrev s__law_bent : Stmt := topS 41
theorem sc__law_bent : FnScope N__law_bent ["source", "text"] (defScope s__law_bent) := ⟨rfl, rfl, rfl, by decide +kernel, rfl, by decide +kernel, by decide +kernel⟩
theorem ck__law_bent : chkSs N__law_bent (defScope s__law_bent) (b__law_bent S__law_draw S__law_choice) (defBody s__law_bent) = true := by decide +kernel
abbrev s_law : Stmt := topS 42
theorem sc_law : FnScope N_law ["script"] (defScope s_law) := ⟨rfl, rfl, rfl, by decide +kernel, rfl, by decide +kernel, by decide +kernel⟩
theorem ck_law : chkSs N_law (defScope s_law) (b_law S__law_source S_whole_text S__law_note S__law_policy S__law_bent S__law_tried S__law_read) (defBody s_law) = true := by decide +kernel
abbrev si_NoText : Stmt := clsBody (topS 4) 0
theorem sci_NoText : FnScope ["self", "line"] ["self", "line"] (defScope si_NoText) := ⟨rfl, rfl, rfl, by decide +kernel, rfl, by decide +kernel, by decide +kernel⟩
variable [Tabs]
structure Top (K : Fg) (mg : Mg) : Prop where
  f_is_word : ∃ f fd, mg "is_word" = some (.ref f) ∧ L2.Fun K "is_word" "is_word" s_is_word f fd
  f_are_words : ∃ f fd, mg "are_words" = some (.ref f) ∧ L2.Fun K "are_words" "are_words" s_are_words f fd
  f_is_from : ∃ f fd, mg "is_from" = some (.ref f) ∧ L2.Fun K "is_from" "is_from" s_is_from f fd
  f_is_note : ∃ f fd, mg "is_note" = some (.ref f) ∧ L2.Fun K "is_note" "is_note" s_is_note f fd
  f_is_pick : ∃ f fd, mg "is_pick" = some (.ref f) ∧ L2.Fun K "is_pick" "is_pick" s_is_pick f fd
  f_is_attempt : ∃ f fd, mg "is_attempt" = some (.ref f) ∧ L2.Fun K "is_attempt" "is_attempt" s_is_attempt f fd
  f_is_policy : ∃ f fd, mg "is_policy" = some (.ref f) ∧ L2.Fun K "is_policy" "is_policy" s_is_policy f fd
  f_need_note : ∃ f fd, mg "need_note" = some (.ref f) ∧ L2.Fun K "need_note" "need_note" s_need_note f fd
  f_need_policy : ∃ f fd, mg "need_policy" = some (.ref f) ∧ L2.Fun K "need_policy" "need_policy" s_need_policy f fd
  f_need_both : ∃ f fd, mg "need_both" = some (.ref f) ∧ L2.Fun K "need_both" "need_both" s_need_both f fd
  f_lines_of : ∃ f fd, mg "lines_of" = some (.ref f) ∧ L2.Fun K "lines_of" "lines_of" s_lines_of f fd
  f_whole_text : ∃ f fd, mg "whole_text" = some (.ref f) ∧ L2.Fun K "whole_text" "whole_text" s_whole_text f fd
  f_read_note : ∃ f fd, mg "read_note" = some (.ref f) ∧ L2.Fun K "read_note" "read_note" s_read_note f fd
  f_read_attempt : ∃ f fd, mg "read_attempt" = some (.ref f) ∧ L2.Fun K "read_attempt" "read_attempt" s_read_attempt f fd
  f_read_line : ∃ f fd, mg "read_line" = some (.ref f) ∧ L2.Fun K "read_line" "read_line" s_read_line f fd
  f_read_text : ∃ f fd, mg "read_text" = some (.ref f) ∧ L2.Fun K "read_text" "read_text" s_read_text f fd
  f__law_source : ∃ f fd, mg "_law_source" = some (.ref f) ∧ L2.Fun K "_law_source" "_law_source" s__law_source f fd
  f__law_draw : ∃ f fd, mg "_law_draw" = some (.ref f) ∧ L2.Fun K "_law_draw" "_law_draw" s__law_draw f fd
  f__law_choice : ∃ f fd, mg "_law_choice" = some (.ref f) ∧ L2.Fun K "_law_choice" "_law_choice" s__law_choice f fd
  f__law_menu : ∃ f fd, mg "_law_menu" = some (.ref f) ∧ L2.Fun K "_law_menu" "_law_menu" s__law_menu f fd
  f__law_row : ∃ f fd, mg "_law_row" = some (.ref f) ∧ L2.Fun K "_law_row" "_law_row" s__law_row f fd
  f__law_note : ∃ f fd, mg "_law_note" = some (.ref f) ∧ L2.Fun K "_law_note" "_law_note" s__law_note f fd
  f__law_attempt : ∃ f fd, mg "_law_attempt" = some (.ref f) ∧ L2.Fun K "_law_attempt" "_law_attempt" s__law_attempt f fd
  f__law_policy : ∃ f fd, mg "_law_policy" = some (.ref f) ∧ L2.Fun K "_law_policy" "_law_policy" s__law_policy f fd
  f__law_is_word : ∃ f fd, mg "_law_is_word" = some (.ref f) ∧ L2.Fun K "_law_is_word" "_law_is_word" s__law_is_word f fd
  f__law_line : ∃ f fd, mg "_law_line" = some (.ref f) ∧ L2.Fun K "_law_line" "_law_line" s__law_line f fd
  f__law_read : ∃ f fd, mg "_law_read" = some (.ref f) ∧ L2.Fun K "_law_read" "_law_read" s__law_read f fd
  f__law_tried : ∃ f fd, mg "_law_tried" = some (.ref f) ∧ L2.Fun K "_law_tried" "_law_tried" s__law_tried f fd
  f__law_bent : ∃ f fd, mg "_law_bent" = some (.ref f) ∧ L2.Fun K "_law_bent" "_law_bent" s__law_bent f fd
  f_law : ∃ f fd, mg "law" = some (.ref f) ∧ L2.Fun K "law" "law" s_law f fd
  g_LETTERS : ∀ (P : Program) (w : World) (base : Heap) (k : Nat), GlobD ⟨P, w, K, mg, base, k⟩ "LETTERS" c_LETTERS
  g_MOST_AROUND : ∀ (P : Program) (w : World) (base : Heap) (k : Nat), GlobD ⟨P, w, K, mg, base, k⟩ "MOST_AROUND" c_MOST_AROUND
  g_PICKS : ∀ (P : Program) (w : World) (base : Heap) (k : Nat), GlobD ⟨P, w, K, mg, base, k⟩ "PICKS" c_PICKS
  g_MOST_ATTEMPTS : ∀ (P : Program) (w : World) (base : Heap) (k : Nat), GlobD ⟨P, w, K, mg, base, k⟩ "MOST_ATTEMPTS" c_MOST_ATTEMPTS
  g_SIGN : ∀ (P : Program) (w : World) (base : Heap) (k : Nat), GlobD ⟨P, w, K, mg, base, k⟩ "SIGN" c_SIGN
  x_InvalidNote : ∀ (P : Program) (w : World) (base : Heap) (k : Nat), ExcD ⟨P, w, K, mg, base, k⟩ "InvalidNote"
  x_InvalidPolicy : ∀ (P : Program) (w : World) (base : Heap) (k : Nat), ExcD ⟨P, w, K, mg, base, k⟩ "InvalidPolicy"
  fx_NoText : ∀ (P : Program) (w : World) (base : Heap) (k : Nat), 2 ≤ k → ExcF ⟨P, w, K, mg, base, k⟩ "NoText" "line"
  fh_NoText : ∀ (P : Program) (w : World) (base : Heap) (k : Nat), ExcH ⟨P, w, K, mg, base, k⟩ "NoText" "line"
  nb : ∀ x ∈ BN, mg x = none
section
variable {P : Program} {w : World} {K : Fg} {mg : Mg} {base : Heap}
theorem ok_is_word (X : Top K mg) (hw : Tabs.w = w) : FnAt P w K mg base 1 "is_word" ["value"] 1 S_is_word := by
  have g_LETTERS := X.g_LETTERS P w base 0
  obtain ⟨f, fd, e, F⟩ := X.f_is_word
  refine FnAt.mk' e F sc_is_word rfl (fun _ _ _ _ _ _ us hl => match us, hl with | [_], _ => rfl) X.nb hw ck_is_word ?_ (fun args h hl => .inr ⟨1000000000, .same _⟩)
  simp only [b_is_word, okSs, okS, okE, okEs, and_true, true_and, and_self, g_LETTERS]
theorem ok_are_words (X : Top K mg) (hw : Tabs.w = w) : FnAt P w K mg base 2 "are_words" ["value", "most"] 2 S_are_words := by
  have cis_word_0 := (ok_is_word (P := P) (w := w) (base := base) X hw).fnD (k := 1) (by omega)
  obtain ⟨f, fd, e, F⟩ := X.f_are_words
  refine FnAt.mk' e F sc_are_words rfl (fun _ _ _ _ _ _ us hl => match us, hl with | [_, _], _ => rfl) X.nb hw ck_are_words ?_ (fun args h hl => .inr ⟨1000000000, .same _⟩)
  simp only [b_are_words, okSs, okS, okE, okEs, and_true, true_and, and_self, cis_word_0]
theorem ok_is_from (X : Top K mg) (hw : Tabs.w = w) : FnAt P w K mg base 1 "is_from" ["value", "low", "high"] 3 S_is_from := by
  obtain ⟨f, fd, e, F⟩ := X.f_is_from
  refine FnAt.mk' e F sc_is_from rfl (fun _ _ _ _ _ _ us hl => match us, hl with | [_, _, _], _ => rfl) X.nb hw ck_is_from ?_ (fun args h hl => .inr ⟨1000000000, .same _⟩)
  simp only [b_is_from, okSs, okS, okE, okEs, and_true, true_and, and_self]
theorem ok_is_note (X : Top K mg) (hw : Tabs.w = w) : FnAt P w K mg base 3 "is_note" ["value"] 1 S_is_note := by
  have cis_word_0 := (ok_is_word (P := P) (w := w) (base := base) X hw).fnD (k := 2) (by omega)
  have care_words_0 := (ok_are_words (P := P) (w := w) (base := base) X hw).fnD (k := 2) (by omega)
  have g_MOST_AROUND := X.g_MOST_AROUND P w base 2
  obtain ⟨f, fd, e, F⟩ := X.f_is_note
  refine FnAt.mk' e F sc_is_note rfl (fun _ _ _ _ _ _ us hl => match us, hl with | [_], _ => rfl) X.nb hw ck_is_note ?_ (fun args h hl => .inr ⟨1000000000, .same _⟩)
  simp only [b_is_note, okSs, okS, okE, okEs, and_true, true_and, and_self, cis_word_0, care_words_0, g_MOST_AROUND]
theorem ok_is_pick (X : Top K mg) (hw : Tabs.w = w) : FnAt P w K mg base 1 "is_pick" ["value"] 1 S_is_pick := by
  have g_PICKS := X.g_PICKS P w base 0
  obtain ⟨f, fd, e, F⟩ := X.f_is_pick
  refine FnAt.mk' e F sc_is_pick rfl (fun _ _ _ _ _ _ us hl => match us, hl with | [_], _ => rfl) X.nb hw ck_is_pick ?_ (fun args h hl => .inr ⟨1000000000, .same _⟩)
  simp only [b_is_pick, okSs, okS, okE, okEs, and_true, true_and, and_self, g_PICKS]
theorem ok_is_attempt (X : Top K mg) (hw : Tabs.w = w) : FnAt P w K mg base 2 "is_attempt" ["value"] 1 S_is_attempt := by
  have cis_pick_0 := (ok_is_pick (P := P) (w := w) (base := base) X hw).fnD (k := 1) (by omega)
  have cis_from_0 := (ok_is_from (P := P) (w := w) (base := base) X hw).fnD (k := 1) (by omega)
  have g_MOST_AROUND := X.g_MOST_AROUND P w base 1
  obtain ⟨f, fd, e, F⟩ := X.f_is_attempt
  refine FnAt.mk' e F sc_is_attempt rfl (fun _ _ _ _ _ _ us hl => match us, hl with | [_], _ => rfl) X.nb hw ck_is_attempt ?_ (fun args h hl => .inr ⟨1000000000, .same _⟩)
  simp only [b_is_attempt, okSs, okS, okE, okEs, and_true, true_and, and_self, cis_pick_0, cis_from_0, g_MOST_AROUND]
theorem ok_is_policy (X : Top K mg) (hw : Tabs.w = w) : FnAt P w K mg base 3 "is_policy" ["value"] 1 S_is_policy := by
  have cis_attempt_0 := (ok_is_attempt (P := P) (w := w) (base := base) X hw).fnD (k := 2) (by omega)
  have g_MOST_ATTEMPTS := X.g_MOST_ATTEMPTS P w base 2
  obtain ⟨f, fd, e, F⟩ := X.f_is_policy
  refine FnAt.mk' e F sc_is_policy rfl (fun _ _ _ _ _ _ us hl => match us, hl with | [_], _ => rfl) X.nb hw ck_is_policy ?_ (fun args h hl => .inr ⟨1000000000, .same _⟩)
  simp only [b_is_policy, okSs, okS, okE, okEs, and_true, true_and, and_self, cis_attempt_0, g_MOST_ATTEMPTS]
theorem ok_need_note (X : Top K mg) (hw : Tabs.w = w) : FnAt P w K mg base 4 "need_note" ["value"] 1 S_need_note := by
  have cis_note_0 := (ok_is_note (P := P) (w := w) (base := base) X hw).fnD (k := 3) (by omega)
  have x_InvalidNote := X.x_InvalidNote P w base 3
  obtain ⟨f, fd, e, F⟩ := X.f_need_note
  refine FnAt.mk' e F sc_need_note rfl (fun _ _ _ _ _ _ us hl => match us, hl with | [_], _ => rfl) X.nb hw ck_need_note ?_ (fun args h hl => .inr ⟨1000000000, .same _⟩)
  simp only [b_need_note, okSs, okS, okE, okEs, and_true, true_and, and_self, cis_note_0, x_InvalidNote]
theorem ok_need_policy (X : Top K mg) (hw : Tabs.w = w) : FnAt P w K mg base 4 "need_policy" ["value"] 1 S_need_policy := by
  have cis_policy_0 := (ok_is_policy (P := P) (w := w) (base := base) X hw).fnD (k := 3) (by omega)
  have x_InvalidPolicy := X.x_InvalidPolicy P w base 3
  obtain ⟨f, fd, e, F⟩ := X.f_need_policy
  refine FnAt.mk' e F sc_need_policy rfl (fun _ _ _ _ _ _ us hl => match us, hl with | [_], _ => rfl) X.nb hw ck_need_policy ?_ (fun args h hl => .inr ⟨1000000000, .same _⟩)
  simp only [b_need_policy, okSs, okS, okE, okEs, and_true, true_and, and_self, cis_policy_0, x_InvalidPolicy]
theorem ok_need_both (X : Top K mg) (hw : Tabs.w = w) : FnAt P w K mg base 5 "need_both" ["note", "policy"] 2 S_need_both := by
  have cneed_note_0 := (ok_need_note (P := P) (w := w) (base := base) X hw).fnD (k := 4) (by omega)
  have cneed_policy_0 := (ok_need_policy (P := P) (w := w) (base := base) X hw).fnD (k := 4) (by omega)
  obtain ⟨f, fd, e, F⟩ := X.f_need_both
  refine FnAt.mk' e F sc_need_both rfl (fun _ _ _ _ _ _ us hl => match us, hl with | [_, _], _ => rfl) X.nb hw ck_need_both ?_ (fun args h hl => .inr ⟨1000000000, .same _⟩)
  simp only [b_need_both, okSs, okS, okE, okEs, and_true, true_and, and_self, cneed_note_0, cneed_policy_0]
theorem ok_lines_of (X : Top K mg) (hw : Tabs.w = w) : FnAt P w K mg base 1 "lines_of" ["note", "policy"] 2 S_lines_of := by
  have g_SIGN := X.g_SIGN P w base 0
  obtain ⟨f, fd, e, F⟩ := X.f_lines_of
  refine FnAt.mk' e F sc_lines_of rfl (fun _ _ _ _ _ _ us hl => match us, hl with | [_, _], _ => rfl) X.nb hw ck_lines_of ?_ (fun args h hl => .inr ⟨1000000000, .same _⟩)
  simp only [b_lines_of, okSs, okS, okE, okEs, and_true, true_and, and_self, g_SIGN]
theorem ok_whole_text (X : Top K mg) (hw : Tabs.w = w) : FnAt P w K mg base 6 "whole_text" ["note", "policy"] 2 S_whole_text := by
  have cneed_both_0 := (ok_need_both (P := P) (w := w) (base := base) X hw).fnD (k := 5) (by omega)
  have clines_of_0 := (ok_lines_of (P := P) (w := w) (base := base) X hw).fnD (k := 5) (by omega)
  obtain ⟨f, fd, e, F⟩ := X.f_whole_text
  refine FnAt.mk' e F sc_whole_text rfl (fun _ _ _ _ _ _ us hl => match us, hl with | [_, _], _ => rfl) X.nb hw ck_whole_text ?_ (fun args h hl => .inr ⟨1000000000, .same _⟩)
  simp only [b_whole_text, okSs, okS, okE, okEs, and_true, true_and, and_self, cneed_both_0, clines_of_0]
theorem ok_read_note (X : Top K mg) (hw : Tabs.w = w) : FnAt P w K mg base 4 "read_note" ["line"] 1 S_read_note := by
  have cis_note_0 := (ok_is_note (P := P) (w := w) (base := base) X hw).fnD (k := 3) (by omega)
  have g_SIGN := X.g_SIGN P w base 3
  obtain ⟨f, fd, e, F⟩ := X.f_read_note
  refine FnAt.mk' e F sc_read_note rfl (fun _ _ _ _ _ _ us hl => match us, hl with | [_], _ => rfl) X.nb hw ck_read_note ?_ (fun args h hl => .inr ⟨1000000000, .same _⟩)
  simp only [b_read_note, okSs, okS, okE, okEs, and_true, true_and, and_self, cis_note_0, g_SIGN]
theorem ok_read_attempt (X : Top K mg) (hw : Tabs.w = w) : FnAt P w K mg base 3 "read_attempt" ["line"] 1 S_read_attempt := by
  have cis_attempt_0 := (ok_is_attempt (P := P) (w := w) (base := base) X hw).fnD (k := 2) (by omega)
  obtain ⟨f, fd, e, F⟩ := X.f_read_attempt
  refine FnAt.mk' e F sc_read_attempt rfl (fun _ _ _ _ _ _ us hl => match us, hl with | [_], _ => rfl) X.nb hw ck_read_attempt ?_ (fun args h hl => .inr ⟨1000000000, .same _⟩)
  simp only [b_read_attempt, okSs, okS, okE, okEs, and_true, true_and, and_self, cis_attempt_0]
theorem ok_read_line (X : Top K mg) (hw : Tabs.w = w) : FnAt P w K mg base 5 "read_line" ["line"] 1 S_read_line := by
  have cread_note_0 := (ok_read_note (P := P) (w := w) (base := base) X hw).fnD (k := 4) (by omega)
  have cread_attempt_0 := (ok_read_attempt (P := P) (w := w) (base := base) X hw).fnD (k := 4) (by omega)
  obtain ⟨f, fd, e, F⟩ := X.f_read_line
  refine FnAt.mk' e F sc_read_line rfl (fun _ _ _ _ _ _ us hl => match us, hl with | [_], _ => rfl) X.nb hw ck_read_line ?_ (fun args h hl => .inr ⟨1000000000, .same _⟩)
  simp only [b_read_line, okSs, okS, okE, okEs, and_true, true_and, and_self, cread_note_0, cread_attempt_0]
theorem ok_read_text (X : Top K mg) (hw : Tabs.w = w) : FnAt P w K mg base 6 "read_text" ["value"] 1 S_read_text := by
  have cread_line_0 := (ok_read_line (P := P) (w := w) (base := base) X hw).fnD (k := 5) (by omega)
  have cis_note_0 := (ok_is_note (P := P) (w := w) (base := base) X hw).fnD (k := 5) (by omega)
  have cis_policy_0 := (ok_is_policy (P := P) (w := w) (base := base) X hw).fnD (k := 5) (by omega)
  have fx_NoText := X.fx_NoText P w base 5 (by omega)
  obtain ⟨f, fd, e, F⟩ := X.f_read_text
  refine FnAt.mk' e F sc_read_text rfl (fun _ _ _ _ _ _ us hl => match us, hl with | [_], _ => rfl) X.nb hw ck_read_text ?_ (fun args h hl => .inr ⟨1000000000, .same _⟩)
  simp only [b_read_text, okSs, okS, okE, okEs, and_true, true_and, and_self, cread_line_0, cis_note_0, cis_policy_0, fx_NoText]
theorem ok__law_source (X : Top K mg) (hw : Tabs.w = w) : FnAt P w K mg base 1 "_law_source" ["script", "k"] 2 S__law_source := by
  obtain ⟨f, fd, e, F⟩ := X.f__law_source
  refine FnAt.mk' e F sc__law_source rfl (fun _ _ _ _ _ _ us hl => match us, hl with | [_, _], _ => rfl) X.nb hw ck__law_source ?_ (fun args h hl => .inr ⟨1000000000, .same _⟩)
  simp only [b__law_source, okSs, okS, okE, okEs, and_true, true_and, and_self]
theorem ok__law_draw (X : Top K mg) (hw : Tabs.w = w) : FnAt P w K mg base 1 "_law_draw" ["source", "many"] 2 S__law_draw := by
  obtain ⟨f, fd, e, F⟩ := X.f__law_draw
  refine FnAt.mk' e F sc__law_draw rfl (fun _ _ _ _ _ _ us hl => match us, hl with | [_, _], _ => rfl) X.nb hw ck__law_draw ?_ (fun args h hl => .inr ⟨1000000000, .same _⟩)
  simp only [b__law_draw, okSs, okS, okE, okEs, and_true, true_and, and_self]
theorem ok__law_choice (X : Top K mg) (hw : Tabs.w = w) : FnAt P w K mg base 2 "_law_choice" ["source", "rows"] 2 S__law_choice := by
  have c_law_draw_0 := (ok__law_draw (P := P) (w := w) (base := base) X hw).fnD (k := 1) (by omega)
  obtain ⟨f, fd, e, F⟩ := X.f__law_choice
  refine FnAt.mk' e F sc__law_choice rfl (fun _ _ _ _ _ _ us hl => match us, hl with | [_, _], _ => rfl) X.nb hw ck__law_choice ?_ (fun args h hl => .inr ⟨1000000000, .same _⟩)
  simp only [b__law_choice, okSs, okS, okE, okEs, and_true, true_and, and_self, c_law_draw_0]
theorem ok__law_menu (X : Top K mg) (hw : Tabs.w = w) : FnAt P w K mg base 3 "_law_menu" ["source"] 1 S__law_menu := by
  have c_law_choice_0 := (ok__law_choice (P := P) (w := w) (base := base) X hw).fnD (k := 2) (by omega)
  obtain ⟨f, fd, e, F⟩ := X.f__law_menu
  refine FnAt.mk' e F sc__law_menu rfl (fun _ _ _ _ _ _ us hl => match us, hl with | [_], _ => rfl) X.nb hw ck__law_menu ?_ (fun args h hl => .inr ⟨1000000000, .same _⟩)
  simp only [b__law_menu, okSs, okS, okE, okEs, and_true, true_and, and_self, c_law_choice_0]
theorem ok__law_row (X : Top K mg) (hw : Tabs.w = w) : FnAt P w K mg base 3 "_law_row" ["source", "words", "most"] 3 S__law_row := by
  have c_law_draw_0 := (ok__law_draw (P := P) (w := w) (base := base) X hw).fnD (k := 2) (by omega)
  have c_law_choice_0 := (ok__law_choice (P := P) (w := w) (base := base) X hw).fnD (k := 2) (by omega)
  obtain ⟨f, fd, e, F⟩ := X.f__law_row
  refine FnAt.mk' e F sc__law_row rfl (fun _ _ _ _ _ _ us hl => match us, hl with | [_, _, _], _ => rfl) X.nb hw ck__law_row ?_ (fun args h hl => .inr ⟨1000000000, .same _⟩)
  simp only [b__law_row, okSs, okS, okE, okEs, and_true, true_and, and_self, c_law_draw_0, c_law_choice_0]
theorem ok__law_note (X : Top K mg) (hw : Tabs.w = w) : FnAt P w K mg base 4 "_law_note" ["source", "most"] 2 S__law_note := by
  have c_law_menu_0 := (ok__law_menu (P := P) (w := w) (base := base) X hw).fnD (k := 3) (by omega)
  have c_law_row_0 := (ok__law_row (P := P) (w := w) (base := base) X hw).fnD (k := 3) (by omega)
  have c_law_choice_0 := (ok__law_choice (P := P) (w := w) (base := base) X hw).fnD (k := 3) (by omega)
  obtain ⟨f, fd, e, F⟩ := X.f__law_note
  refine FnAt.mk' e F sc__law_note rfl (fun _ _ _ _ _ _ us hl => match us, hl with | [_, _], _ => rfl) X.nb hw ck__law_note ?_ (fun args h hl => .inr ⟨1000000000, .same _⟩)
  simp only [b__law_note, okSs, okS, okE, okEs, and_true, true_and, and_self, c_law_menu_0, c_law_row_0, c_law_choice_0]
theorem ok__law_attempt (X : Top K mg) (hw : Tabs.w = w) : FnAt P w K mg base 3 "_law_attempt" ["source", "most"] 2 S__law_attempt := by
  have c_law_choice_0 := (ok__law_choice (P := P) (w := w) (base := base) X hw).fnD (k := 2) (by omega)
  have c_law_draw_0 := (ok__law_draw (P := P) (w := w) (base := base) X hw).fnD (k := 2) (by omega)
  obtain ⟨f, fd, e, F⟩ := X.f__law_attempt
  refine FnAt.mk' e F sc__law_attempt rfl (fun _ _ _ _ _ _ us hl => match us, hl with | [_, _], _ => rfl) X.nb hw ck__law_attempt ?_ (fun args h hl => .inr ⟨1000000000, .same _⟩)
  simp only [b__law_attempt, okSs, okS, okE, okEs, and_true, true_and, and_self, c_law_choice_0, c_law_draw_0]
theorem ok__law_policy (X : Top K mg) (hw : Tabs.w = w) : FnAt P w K mg base 4 "_law_policy" ["source", "most"] 2 S__law_policy := by
  have c_law_draw_0 := (ok__law_draw (P := P) (w := w) (base := base) X hw).fnD (k := 3) (by omega)
  have c_law_attempt_0 := (ok__law_attempt (P := P) (w := w) (base := base) X hw).fnD (k := 3) (by omega)
  obtain ⟨f, fd, e, F⟩ := X.f__law_policy
  refine FnAt.mk' e F sc__law_policy rfl (fun _ _ _ _ _ _ us hl => match us, hl with | [_, _], _ => rfl) X.nb hw ck__law_policy ?_ (fun args h hl => .inr ⟨1000000000, .same _⟩)
  simp only [b__law_policy, okSs, okS, okE, okEs, and_true, true_and, and_self, c_law_draw_0, c_law_attempt_0]
theorem ok__law_is_word (X : Top K mg) (hw : Tabs.w = w) : FnAt P w K mg base 1 "_law_is_word" ["word"] 1 S__law_is_word := by
  obtain ⟨f, fd, e, F⟩ := X.f__law_is_word
  refine FnAt.mk' e F sc__law_is_word rfl (fun _ _ _ _ _ _ us hl => match us, hl with | [_], _ => rfl) X.nb hw ck__law_is_word ?_ (fun args h hl => .inr ⟨1000000000, .same _⟩)
  simp only [b__law_is_word, okSs, okS, okE, okEs, and_true, true_and, and_self]
theorem ok__law_line (X : Top K mg) (hw : Tabs.w = w) : FnAt P w K mg base 2 "_law_line" ["line"] 1 S__law_line := by
  have c_law_is_word_0 := (ok__law_is_word (P := P) (w := w) (base := base) X hw).fnD (k := 1) (by omega)
  obtain ⟨f, fd, e, F⟩ := X.f__law_line
  refine FnAt.mk' e F sc__law_line rfl (fun _ _ _ _ _ _ us hl => match us, hl with | [_], _ => rfl) X.nb hw ck__law_line ?_ (fun args h hl => .inr ⟨1000000000, .same _⟩)
  simp only [b__law_line, okSs, okS, okE, okEs, and_true, true_and, and_self, c_law_is_word_0]
theorem ok__law_read (X : Top K mg) (hw : Tabs.w = w) : FnAt P w K mg base 3 "_law_read" ["text"] 1 S__law_read := by
  have c_law_line_0 := (ok__law_line (P := P) (w := w) (base := base) X hw).fnD (k := 2) (by omega)
  obtain ⟨f, fd, e, F⟩ := X.f__law_read
  refine FnAt.mk' e F sc__law_read rfl (fun _ _ _ _ _ _ us hl => match us, hl with | [_], _ => rfl) X.nb hw ck__law_read ?_ (fun args h hl => .inr ⟨1000000000, .same _⟩)
  simp only [b__law_read, okSs, okS, okE, okEs, and_true, true_and, and_self, c_law_line_0]
theorem ok__law_tried (X : Top K mg) (hw : Tabs.w = w) : FnAt P w K mg base 7 "_law_tried" ["value"] 1 S__law_tried := by
  have cread_text_0 := (ok_read_text (P := P) (w := w) (base := base) X hw).fnD (k := 6) (by omega)
  have fh_NoText := X.fh_NoText P w base 6
  obtain ⟨f, fd, e, F⟩ := X.f__law_tried
  refine FnAt.mk' e F sc__law_tried rfl (fun _ _ _ _ _ _ us hl => match us, hl with | [_], _ => rfl) X.nb hw ck__law_tried ?_ (fun args h hl => .inr ⟨1000000000, .same _⟩)
  simp only [b__law_tried, okSs, okS, okE, okEs, and_true, true_and, and_self, cread_text_0, fh_NoText]
theorem ok__law_bent (X : Top K mg) (hw : Tabs.w = w) : FnAt P w K mg base 3 "_law_bent" ["source", "text"] 2 S__law_bent := by
  have c_law_draw_0 := (ok__law_draw (P := P) (w := w) (base := base) X hw).fnD (k := 2) (by omega)
  have c_law_choice_0 := (ok__law_choice (P := P) (w := w) (base := base) X hw).fnD (k := 2) (by omega)
  obtain ⟨f, fd, e, F⟩ := X.f__law_bent
  refine FnAt.mk' e F sc__law_bent rfl (fun _ _ _ _ _ _ us hl => match us, hl with | [_, _], _ => rfl) X.nb hw ck__law_bent ?_ (fun args h hl => .inr ⟨1000000000, .same _⟩)
  simp only [b__law_bent, okSs, okS, okE, okEs, and_true, true_and, and_self, c_law_draw_0, c_law_choice_0]
end
theorem top_mk {K : Fg} {h : Heap} {mg : Mg} (X : K.In h) (G : h.Ns mainGlobals mg) {f0 : Addr} {od0 an0 : Option Addr} {sl0 : Array (Option Value)} {oc0 kV0 dc0 pm0 cd0 ct0 : Value} {f1 : Addr} {od1 an1 : Option Addr} {sl1 : Array (Option Value)} {oc1 kV1 dc1 pm1 cd1 ct1 : Value} {f2 : Addr} {od2 an2 : Option Addr} {sl2 : Array (Option Value)} {oc2 kV2 dc2 pm2 cd2 ct2 : Value} {f3 : Addr} {od3 an3 : Option Addr} {sl3 : Array (Option Value)} {oc3 kV3 dc3 pm3 cd3 ct3 : Value} {f4 : Addr} {od4 an4 : Option Addr} {sl4 : Array (Option Value)} {oc4 kV4 dc4 pm4 cd4 ct4 : Value} {f5 : Addr} {od5 an5 : Option Addr} {sl5 : Array (Option Value)} {oc5 kV5 dc5 pm5 cd5 ct5 : Value} {f6 : Addr} {od6 an6 : Option Addr} {sl6 : Array (Option Value)} {oc6 kV6 dc6 pm6 cd6 ct6 : Value} {f7 : Addr} {od7 an7 : Option Addr} {sl7 : Array (Option Value)} {oc7 kV7 dc7 pm7 cd7 ct7 : Value} {f8 : Addr} {od8 an8 : Option Addr} {sl8 : Array (Option Value)} {oc8 kV8 dc8 pm8 cd8 ct8 : Value} {f9 : Addr} {od9 an9 : Option Addr} {sl9 : Array (Option Value)} {oc9 kV9 dc9 pm9 cd9 ct9 : Value} {f10 : Addr} {od10 an10 : Option Addr} {sl10 : Array (Option Value)} {oc10 kV10 dc10 pm10 cd10 ct10 : Value} {f11 : Addr} {od11 an11 : Option Addr} {sl11 : Array (Option Value)} {oc11 kV11 dc11 pm11 cd11 ct11 : Value} {f12 : Addr} {od12 an12 : Option Addr} {sl12 : Array (Option Value)} {oc12 kV12 dc12 pm12 cd12 ct12 : Value} {f13 : Addr} {od13 an13 : Option Addr} {sl13 : Array (Option Value)} {oc13 kV13 dc13 pm13 cd13 ct13 : Value} {f14 : Addr} {od14 an14 : Option Addr} {sl14 : Array (Option Value)} {oc14 kV14 dc14 pm14 cd14 ct14 : Value} {f15 : Addr} {od15 an15 : Option Addr} {sl15 : Array (Option Value)} {oc15 kV15 dc15 pm15 cd15 ct15 : Value} {f16 : Addr} {od16 an16 : Option Addr} {sl16 : Array (Option Value)} {oc16 kV16 dc16 pm16 cd16 ct16 : Value} {f17 : Addr} {od17 an17 : Option Addr} {sl17 : Array (Option Value)} {oc17 kV17 dc17 pm17 cd17 ct17 : Value} {f18 : Addr} {od18 an18 : Option Addr} {sl18 : Array (Option Value)} {oc18 kV18 dc18 pm18 cd18 ct18 : Value} {f19 : Addr} {od19 an19 : Option Addr} {sl19 : Array (Option Value)} {oc19 kV19 dc19 pm19 cd19 ct19 : Value} {f20 : Addr} {od20 an20 : Option Addr} {sl20 : Array (Option Value)} {oc20 kV20 dc20 pm20 cd20 ct20 : Value} {f21 : Addr} {od21 an21 : Option Addr} {sl21 : Array (Option Value)} {oc21 kV21 dc21 pm21 cd21 ct21 : Value} {f22 : Addr} {od22 an22 : Option Addr} {sl22 : Array (Option Value)} {oc22 kV22 dc22 pm22 cd22 ct22 : Value} {f23 : Addr} {od23 an23 : Option Addr} {sl23 : Array (Option Value)} {oc23 kV23 dc23 pm23 cd23 ct23 : Value} {f24 : Addr} {od24 an24 : Option Addr} {sl24 : Array (Option Value)} {oc24 kV24 dc24 pm24 cd24 ct24 : Value} {f25 : Addr} {od25 an25 : Option Addr} {sl25 : Array (Option Value)} {oc25 kV25 dc25 pm25 cd25 ct25 : Value} {f26 : Addr} {od26 an26 : Option Addr} {sl26 : Array (Option Value)} {oc26 kV26 dc26 pm26 cd26 ct26 : Value} {f27 : Addr} {od27 an27 : Option Addr} {sl27 : Array (Option Value)} {oc27 kV27 dc27 pm27 cd27 ct27 : Value} {f28 : Addr} {od28 an28 : Option Addr} {sl28 : Array (Option Value)} {oc28 kV28 dc28 pm28 cd28 ct28 : Value} {f29 : Addr} {od29 an29 : Option Addr} {sl29 : Array (Option Value)} {oc29 kV29 dc29 pm29 cd29 ct29 : Value} {t1 : PySem.Tok} {t2 : PySem.Tok} {t3 : PySem.Tok} {t4 : PySem.Tok} {t5 : PySem.Tok} {a6 : Addr} {d6 : Option Addr} {n6 : Nat} {z6 : Array (Option Value)} {t7 : PySem.Tok} {t8 : PySem.Tok} {xC0 : Addr} {xC1 : Addr} {yC0 : Addr} {yI0 yB0 yN0 : Addr} {ynm0 yq0 : Str} {ybs0 ybm0 ysub0 : List Value} {ysn0 : List Str} {yab0 : Bool} {ycol0 : Option Bool} {ydd0 : Option Addr} {yk00 yk10 yk20 yk30 yk50 : Option Value} {yod0 yan0 : Option Addr} {ysl0 : Array (Option Value)} {yoc0 ykV0 ydc0 ypm0 ycd0 yct0 : Value}
    (a_0 : PySem.W.nsIn K mainGlobals "is_word" = some (some (.ref f0)))
    (l_0 : K.lookup f0 = some ⟨oc0, od0, .func (PySem.W.fnOf "is_word" "is_word" (defArgs s_is_word) (defBody s_is_word) (defScope s_is_word) .none kV0 dc0 pm0 an0 cd0 ct0), sl0⟩)
    (c_0 : PySem.W.codeIn K cd0 "is_word" = true)
    (k_0 : PySem.W.keepIn K (.ref f0) = true)
    (a_1 : PySem.W.nsIn K mainGlobals "are_words" = some (some (.ref f1)))
    (l_1 : K.lookup f1 = some ⟨oc1, od1, .func (PySem.W.fnOf "are_words" "are_words" (defArgs s_are_words) (defBody s_are_words) (defScope s_are_words) .none kV1 dc1 pm1 an1 cd1 ct1), sl1⟩)
    (c_1 : PySem.W.codeIn K cd1 "are_words" = true)
    (k_1 : PySem.W.keepIn K (.ref f1) = true)
    (a_2 : PySem.W.nsIn K mainGlobals "is_from" = some (some (.ref f2)))
    (l_2 : K.lookup f2 = some ⟨oc2, od2, .func (PySem.W.fnOf "is_from" "is_from" (defArgs s_is_from) (defBody s_is_from) (defScope s_is_from) .none kV2 dc2 pm2 an2 cd2 ct2), sl2⟩)
    (c_2 : PySem.W.codeIn K cd2 "is_from" = true)
    (k_2 : PySem.W.keepIn K (.ref f2) = true)
    (a_3 : PySem.W.nsIn K mainGlobals "is_note" = some (some (.ref f3)))
    (l_3 : K.lookup f3 = some ⟨oc3, od3, .func (PySem.W.fnOf "is_note" "is_note" (defArgs s_is_note) (defBody s_is_note) (defScope s_is_note) .none kV3 dc3 pm3 an3 cd3 ct3), sl3⟩)
    (c_3 : PySem.W.codeIn K cd3 "is_note" = true)
    (k_3 : PySem.W.keepIn K (.ref f3) = true)
    (a_4 : PySem.W.nsIn K mainGlobals "is_pick" = some (some (.ref f4)))
    (l_4 : K.lookup f4 = some ⟨oc4, od4, .func (PySem.W.fnOf "is_pick" "is_pick" (defArgs s_is_pick) (defBody s_is_pick) (defScope s_is_pick) .none kV4 dc4 pm4 an4 cd4 ct4), sl4⟩)
    (c_4 : PySem.W.codeIn K cd4 "is_pick" = true)
    (k_4 : PySem.W.keepIn K (.ref f4) = true)
    (a_5 : PySem.W.nsIn K mainGlobals "is_attempt" = some (some (.ref f5)))
    (l_5 : K.lookup f5 = some ⟨oc5, od5, .func (PySem.W.fnOf "is_attempt" "is_attempt" (defArgs s_is_attempt) (defBody s_is_attempt) (defScope s_is_attempt) .none kV5 dc5 pm5 an5 cd5 ct5), sl5⟩)
    (c_5 : PySem.W.codeIn K cd5 "is_attempt" = true)
    (k_5 : PySem.W.keepIn K (.ref f5) = true)
    (a_6 : PySem.W.nsIn K mainGlobals "is_policy" = some (some (.ref f6)))
    (l_6 : K.lookup f6 = some ⟨oc6, od6, .func (PySem.W.fnOf "is_policy" "is_policy" (defArgs s_is_policy) (defBody s_is_policy) (defScope s_is_policy) .none kV6 dc6 pm6 an6 cd6 ct6), sl6⟩)
    (c_6 : PySem.W.codeIn K cd6 "is_policy" = true)
    (k_6 : PySem.W.keepIn K (.ref f6) = true)
    (a_7 : PySem.W.nsIn K mainGlobals "need_note" = some (some (.ref f7)))
    (l_7 : K.lookup f7 = some ⟨oc7, od7, .func (PySem.W.fnOf "need_note" "need_note" (defArgs s_need_note) (defBody s_need_note) (defScope s_need_note) .none kV7 dc7 pm7 an7 cd7 ct7), sl7⟩)
    (c_7 : PySem.W.codeIn K cd7 "need_note" = true)
    (k_7 : PySem.W.keepIn K (.ref f7) = true)
    (a_8 : PySem.W.nsIn K mainGlobals "need_policy" = some (some (.ref f8)))
    (l_8 : K.lookup f8 = some ⟨oc8, od8, .func (PySem.W.fnOf "need_policy" "need_policy" (defArgs s_need_policy) (defBody s_need_policy) (defScope s_need_policy) .none kV8 dc8 pm8 an8 cd8 ct8), sl8⟩)
    (c_8 : PySem.W.codeIn K cd8 "need_policy" = true)
    (k_8 : PySem.W.keepIn K (.ref f8) = true)
    (a_9 : PySem.W.nsIn K mainGlobals "need_both" = some (some (.ref f9)))
    (l_9 : K.lookup f9 = some ⟨oc9, od9, .func (PySem.W.fnOf "need_both" "need_both" (defArgs s_need_both) (defBody s_need_both) (defScope s_need_both) .none kV9 dc9 pm9 an9 cd9 ct9), sl9⟩)
    (c_9 : PySem.W.codeIn K cd9 "need_both" = true)
    (k_9 : PySem.W.keepIn K (.ref f9) = true)
    (a_10 : PySem.W.nsIn K mainGlobals "lines_of" = some (some (.ref f10)))
    (l_10 : K.lookup f10 = some ⟨oc10, od10, .func (PySem.W.fnOf "lines_of" "lines_of" (defArgs s_lines_of) (defBody s_lines_of) (defScope s_lines_of) .none kV10 dc10 pm10 an10 cd10 ct10), sl10⟩)
    (c_10 : PySem.W.codeIn K cd10 "lines_of" = true)
    (k_10 : PySem.W.keepIn K (.ref f10) = true)
    (a_11 : PySem.W.nsIn K mainGlobals "whole_text" = some (some (.ref f11)))
    (l_11 : K.lookup f11 = some ⟨oc11, od11, .func (PySem.W.fnOf "whole_text" "whole_text" (defArgs s_whole_text) (defBody s_whole_text) (defScope s_whole_text) .none kV11 dc11 pm11 an11 cd11 ct11), sl11⟩)
    (c_11 : PySem.W.codeIn K cd11 "whole_text" = true)
    (k_11 : PySem.W.keepIn K (.ref f11) = true)
    (a_12 : PySem.W.nsIn K mainGlobals "read_note" = some (some (.ref f12)))
    (l_12 : K.lookup f12 = some ⟨oc12, od12, .func (PySem.W.fnOf "read_note" "read_note" (defArgs s_read_note) (defBody s_read_note) (defScope s_read_note) .none kV12 dc12 pm12 an12 cd12 ct12), sl12⟩)
    (c_12 : PySem.W.codeIn K cd12 "read_note" = true)
    (k_12 : PySem.W.keepIn K (.ref f12) = true)
    (a_13 : PySem.W.nsIn K mainGlobals "read_attempt" = some (some (.ref f13)))
    (l_13 : K.lookup f13 = some ⟨oc13, od13, .func (PySem.W.fnOf "read_attempt" "read_attempt" (defArgs s_read_attempt) (defBody s_read_attempt) (defScope s_read_attempt) .none kV13 dc13 pm13 an13 cd13 ct13), sl13⟩)
    (c_13 : PySem.W.codeIn K cd13 "read_attempt" = true)
    (k_13 : PySem.W.keepIn K (.ref f13) = true)
    (a_14 : PySem.W.nsIn K mainGlobals "read_line" = some (some (.ref f14)))
    (l_14 : K.lookup f14 = some ⟨oc14, od14, .func (PySem.W.fnOf "read_line" "read_line" (defArgs s_read_line) (defBody s_read_line) (defScope s_read_line) .none kV14 dc14 pm14 an14 cd14 ct14), sl14⟩)
    (c_14 : PySem.W.codeIn K cd14 "read_line" = true)
    (k_14 : PySem.W.keepIn K (.ref f14) = true)
    (a_15 : PySem.W.nsIn K mainGlobals "read_text" = some (some (.ref f15)))
    (l_15 : K.lookup f15 = some ⟨oc15, od15, .func (PySem.W.fnOf "read_text" "read_text" (defArgs s_read_text) (defBody s_read_text) (defScope s_read_text) .none kV15 dc15 pm15 an15 cd15 ct15), sl15⟩)
    (c_15 : PySem.W.codeIn K cd15 "read_text" = true)
    (k_15 : PySem.W.keepIn K (.ref f15) = true)
    (a_16 : PySem.W.nsIn K mainGlobals "_law_source" = some (some (.ref f16)))
    (l_16 : K.lookup f16 = some ⟨oc16, od16, .func (PySem.W.fnOf "_law_source" "_law_source" (defArgs s__law_source) (defBody s__law_source) (defScope s__law_source) .none kV16 dc16 pm16 an16 cd16 ct16), sl16⟩)
    (c_16 : PySem.W.codeIn K cd16 "_law_source" = true)
    (k_16 : PySem.W.keepIn K (.ref f16) = true)
    (a_17 : PySem.W.nsIn K mainGlobals "_law_draw" = some (some (.ref f17)))
    (l_17 : K.lookup f17 = some ⟨oc17, od17, .func (PySem.W.fnOf "_law_draw" "_law_draw" (defArgs s__law_draw) (defBody s__law_draw) (defScope s__law_draw) .none kV17 dc17 pm17 an17 cd17 ct17), sl17⟩)
    (c_17 : PySem.W.codeIn K cd17 "_law_draw" = true)
    (k_17 : PySem.W.keepIn K (.ref f17) = true)
    (a_18 : PySem.W.nsIn K mainGlobals "_law_choice" = some (some (.ref f18)))
    (l_18 : K.lookup f18 = some ⟨oc18, od18, .func (PySem.W.fnOf "_law_choice" "_law_choice" (defArgs s__law_choice) (defBody s__law_choice) (defScope s__law_choice) .none kV18 dc18 pm18 an18 cd18 ct18), sl18⟩)
    (c_18 : PySem.W.codeIn K cd18 "_law_choice" = true)
    (k_18 : PySem.W.keepIn K (.ref f18) = true)
    (a_19 : PySem.W.nsIn K mainGlobals "_law_menu" = some (some (.ref f19)))
    (l_19 : K.lookup f19 = some ⟨oc19, od19, .func (PySem.W.fnOf "_law_menu" "_law_menu" (defArgs s__law_menu) (defBody s__law_menu) (defScope s__law_menu) .none kV19 dc19 pm19 an19 cd19 ct19), sl19⟩)
    (c_19 : PySem.W.codeIn K cd19 "_law_menu" = true)
    (k_19 : PySem.W.keepIn K (.ref f19) = true)
    (a_20 : PySem.W.nsIn K mainGlobals "_law_row" = some (some (.ref f20)))
    (l_20 : K.lookup f20 = some ⟨oc20, od20, .func (PySem.W.fnOf "_law_row" "_law_row" (defArgs s__law_row) (defBody s__law_row) (defScope s__law_row) .none kV20 dc20 pm20 an20 cd20 ct20), sl20⟩)
    (c_20 : PySem.W.codeIn K cd20 "_law_row" = true)
    (k_20 : PySem.W.keepIn K (.ref f20) = true)
    (a_21 : PySem.W.nsIn K mainGlobals "_law_note" = some (some (.ref f21)))
    (l_21 : K.lookup f21 = some ⟨oc21, od21, .func (PySem.W.fnOf "_law_note" "_law_note" (defArgs s__law_note) (defBody s__law_note) (defScope s__law_note) .none kV21 dc21 pm21 an21 cd21 ct21), sl21⟩)
    (c_21 : PySem.W.codeIn K cd21 "_law_note" = true)
    (k_21 : PySem.W.keepIn K (.ref f21) = true)
    (a_22 : PySem.W.nsIn K mainGlobals "_law_attempt" = some (some (.ref f22)))
    (l_22 : K.lookup f22 = some ⟨oc22, od22, .func (PySem.W.fnOf "_law_attempt" "_law_attempt" (defArgs s__law_attempt) (defBody s__law_attempt) (defScope s__law_attempt) .none kV22 dc22 pm22 an22 cd22 ct22), sl22⟩)
    (c_22 : PySem.W.codeIn K cd22 "_law_attempt" = true)
    (k_22 : PySem.W.keepIn K (.ref f22) = true)
    (a_23 : PySem.W.nsIn K mainGlobals "_law_policy" = some (some (.ref f23)))
    (l_23 : K.lookup f23 = some ⟨oc23, od23, .func (PySem.W.fnOf "_law_policy" "_law_policy" (defArgs s__law_policy) (defBody s__law_policy) (defScope s__law_policy) .none kV23 dc23 pm23 an23 cd23 ct23), sl23⟩)
    (c_23 : PySem.W.codeIn K cd23 "_law_policy" = true)
    (k_23 : PySem.W.keepIn K (.ref f23) = true)
    (a_24 : PySem.W.nsIn K mainGlobals "_law_is_word" = some (some (.ref f24)))
    (l_24 : K.lookup f24 = some ⟨oc24, od24, .func (PySem.W.fnOf "_law_is_word" "_law_is_word" (defArgs s__law_is_word) (defBody s__law_is_word) (defScope s__law_is_word) .none kV24 dc24 pm24 an24 cd24 ct24), sl24⟩)
    (c_24 : PySem.W.codeIn K cd24 "_law_is_word" = true)
    (k_24 : PySem.W.keepIn K (.ref f24) = true)
    (a_25 : PySem.W.nsIn K mainGlobals "_law_line" = some (some (.ref f25)))
    (l_25 : K.lookup f25 = some ⟨oc25, od25, .func (PySem.W.fnOf "_law_line" "_law_line" (defArgs s__law_line) (defBody s__law_line) (defScope s__law_line) .none kV25 dc25 pm25 an25 cd25 ct25), sl25⟩)
    (c_25 : PySem.W.codeIn K cd25 "_law_line" = true)
    (k_25 : PySem.W.keepIn K (.ref f25) = true)
    (a_26 : PySem.W.nsIn K mainGlobals "_law_read" = some (some (.ref f26)))
    (l_26 : K.lookup f26 = some ⟨oc26, od26, .func (PySem.W.fnOf "_law_read" "_law_read" (defArgs s__law_read) (defBody s__law_read) (defScope s__law_read) .none kV26 dc26 pm26 an26 cd26 ct26), sl26⟩)
    (c_26 : PySem.W.codeIn K cd26 "_law_read" = true)
    (k_26 : PySem.W.keepIn K (.ref f26) = true)
    (a_27 : PySem.W.nsIn K mainGlobals "_law_tried" = some (some (.ref f27)))
    (l_27 : K.lookup f27 = some ⟨oc27, od27, .func (PySem.W.fnOf "_law_tried" "_law_tried" (defArgs s__law_tried) (defBody s__law_tried) (defScope s__law_tried) .none kV27 dc27 pm27 an27 cd27 ct27), sl27⟩)
    (c_27 : PySem.W.codeIn K cd27 "_law_tried" = true)
    (k_27 : PySem.W.keepIn K (.ref f27) = true)
    (a_28 : PySem.W.nsIn K mainGlobals "_law_bent" = some (some (.ref f28)))
    (l_28 : K.lookup f28 = some ⟨oc28, od28, .func (PySem.W.fnOf "_law_bent" "_law_bent" (defArgs s__law_bent) (defBody s__law_bent) (defScope s__law_bent) .none kV28 dc28 pm28 an28 cd28 ct28), sl28⟩)
    (c_28 : PySem.W.codeIn K cd28 "_law_bent" = true)
    (k_28 : PySem.W.keepIn K (.ref f28) = true)
    (a_29 : PySem.W.nsIn K mainGlobals "law" = some (some (.ref f29)))
    (l_29 : K.lookup f29 = some ⟨oc29, od29, .func (PySem.W.fnOf "law" "law" (defArgs s_law) (defBody s_law) (defScope s_law) .none kV29 dc29 pm29 an29 cd29 ct29), sl29⟩)
    (c_29 : PySem.W.codeIn K cd29 "law" = true)
    (k_29 : PySem.W.keepIn K (.ref f29) = true)
    (u_LETTERS : PySem.W.nsIn K mainGlobals "LETTERS" = some (some (.str "abcdefghijklmnopqrstuvwxyz" t1)))
    (u_MOST_AROUND : PySem.W.nsIn K mainGlobals "MOST_AROUND" = some (some (.int 2 t2)))
    (u_PICKS : PySem.W.nsIn K mainGlobals "PICKS" = some (some (.ref a6)))
    (u_MOST_ATTEMPTS : PySem.W.nsIn K mainGlobals "MOST_ATTEMPTS" = some (some (.int 2 t7)))
    (u_SIGN : PySem.W.nsIn K mainGlobals "SIGN" = some (some (.str "*" t8)))
    (q6 : K.lookup a6 = some ⟨.type "tuple", d6, .seq #[(.str "first" t3), (.str "last" t4), (.str "only" t5)] n6, z6⟩)
    (xg_0 : PySem.W.nsIn K mainGlobals "InvalidNote" = some (some (.ref xC0)))
    (xx_0 : PySem.W.excIn K xC0 [.type "ValueError", .type "Exception", .type "BaseException", .type "object"] "ValueError.__new__" = true)
    (xk_0 : PySem.W.keepIn K (.ref xC0) = true)
    (xb_0 : PySem.W.subIn K (.ref xC0) (.type "BaseException") = some true)
    (xt_0 : PySem.W.typeIn K (.ref xC0) = some (.type "type"))
    (xg_1 : PySem.W.nsIn K mainGlobals "InvalidPolicy" = some (some (.ref xC1)))
    (xx_1 : PySem.W.excIn K xC1 [.type "ValueError", .type "Exception", .type "BaseException", .type "object"] "ValueError.__new__" = true)
    (xk_1 : PySem.W.keepIn K (.ref xC1) = true)
    (xb_1 : PySem.W.subIn K (.ref xC1) (.type "BaseException") = some true)
    (xt_1 : PySem.W.typeIn K (.ref xC1) = some (.type "type"))
    (yg_0 : PySem.W.nsIn K mainGlobals "NoText" = some (some (.ref yC0)))
    (yb_0 : PySem.W.subIn K (.ref yC0) (.type "BaseException") = some true)
    (yt_0 : PySem.W.typeIn K (.ref yC0) = some (.type "type"))
    (yn_0 : PySem.W.findIn K (.ref yC0) "line" = some none)
    (yc_0 : K.lookup yC0 = some (excClassObj ynm0 yq0 yC0 yN0 ybs0 ybm0 true ysn0 ysub0 yab0 ycol0 ydd0 yk00 yk10 yk20 yk30 yk50 "ValueError.__new__"))
    (yr_0 : PySem.HandSPX.refsVE ybm0 = true)
    (ys_0 : PySem.W.findIn K (.ref yC0) "__setattr__" = some (some (.builtin "object.__setattr__")))
    (yk_0 : PySem.W.keepIn K (.ref yC0) = true)
    (yi_0 : PySem.W.findIn K (.ref yC0) "__init__" = some (some (.ref yI0)))
    (yu_0 : PySem.W.typeIn K (.ref yI0) = some (.type "function"))
    (yl_0 : K.lookup yI0 = some ⟨yoc0, yod0, .func (PySem.W.fnOf "__init__" "NoText.__init__" (defArgs si_NoText) (defBody si_NoText) (defScope si_NoText) .none ykV0 ydc0 ypm0 yan0 ycd0 yct0), ysl0⟩)
    (yo_0 : PySem.W.codeIn K ycd0 "NoText.__init__" = true)
    (yp_0 : PySem.W.keepIn K (.ref yI0) = true)
    (zb_0 : PySem.W.nsIn K mainGlobals "NoteError" = some (some (.ref yB0)))
    (zs_0 : PySem.W.specialIn K (.ref yB0) "__getattribute__" = some (some (.builtin "type.__getattribute__")))
    (zr_0 : PySem.W.readsIn K yB0 (.type "type") = true)
    (zf_0 : PySem.W.findCls K (.ref yB0) (.type "type") "__init__" = some (.val (.builtin "ValueError.__init__")))
    (yd_0 : PySem.W.hasDictIn K yC0 = true)
    (ya_0 : PySem.W.findIn K (.ref yC0) "__getattribute__" = some (some (.builtin "BaseException.__getattribute__")))
    (ye_0 : PySem.W.findIn K (.ref yC0) "__getattr__" = some none)
    (yz_0 : PySem.W.subIn K (.ref yC0) (.ref yC0) = some true)
    (b_0 : PySem.W.nsIn K mainGlobals "len" = some none)
    (b_1 : PySem.W.nsIn K mainGlobals "int" = some none)
    (b_2 : PySem.W.nsIn K mainGlobals "abs" = some none)
    (b_3 : PySem.W.nsIn K mainGlobals "min" = some none)
    (b_4 : PySem.W.nsIn K mainGlobals "max" = some none)
    (b_5 : PySem.W.nsIn K mainGlobals "tuple" = some none)
    (b_6 : PySem.W.nsIn K mainGlobals "list" = some none)
    (b_7 : PySem.W.nsIn K mainGlobals "all" = some none)
    (b_8 : PySem.W.nsIn K mainGlobals "sum" = some none)
    (b_9 : PySem.W.nsIn K mainGlobals "str" = some none)
    (b_10 : PySem.W.nsIn K mainGlobals "isinstance" = some none)
    (b_11 : PySem.W.nsIn K mainGlobals "bool" = some none)
    (b_12 : PySem.W.nsIn K mainGlobals "range" = some none)
    (b_13 : PySem.W.nsIn K mainGlobals "sorted" = some none)
    (b_14 : PySem.W.nsIn K mainGlobals "enumerate" = some none)
    (b_15 : PySem.W.nsIn K mainGlobals "zip" = some none)
    (b_16 : PySem.W.nsIn K mainGlobals "set" = some none)
    (b_17 : PySem.W.nsIn K mainGlobals "dict" = some none) : Top K mg :=
  { f_is_word := ⟨f0, _, PySem.W.mg_of X G a_0, fun_mk (st := s_is_word) l_0 c_0 k_0⟩,
    f_are_words := ⟨f1, _, PySem.W.mg_of X G a_1, fun_mk (st := s_are_words) l_1 c_1 k_1⟩,
    f_is_from := ⟨f2, _, PySem.W.mg_of X G a_2, fun_mk (st := s_is_from) l_2 c_2 k_2⟩,
    f_is_note := ⟨f3, _, PySem.W.mg_of X G a_3, fun_mk (st := s_is_note) l_3 c_3 k_3⟩,
    f_is_pick := ⟨f4, _, PySem.W.mg_of X G a_4, fun_mk (st := s_is_pick) l_4 c_4 k_4⟩,
    f_is_attempt := ⟨f5, _, PySem.W.mg_of X G a_5, fun_mk (st := s_is_attempt) l_5 c_5 k_5⟩,
    f_is_policy := ⟨f6, _, PySem.W.mg_of X G a_6, fun_mk (st := s_is_policy) l_6 c_6 k_6⟩,
    f_need_note := ⟨f7, _, PySem.W.mg_of X G a_7, fun_mk (st := s_need_note) l_7 c_7 k_7⟩,
    f_need_policy := ⟨f8, _, PySem.W.mg_of X G a_8, fun_mk (st := s_need_policy) l_8 c_8 k_8⟩,
    f_need_both := ⟨f9, _, PySem.W.mg_of X G a_9, fun_mk (st := s_need_both) l_9 c_9 k_9⟩,
    f_lines_of := ⟨f10, _, PySem.W.mg_of X G a_10, fun_mk (st := s_lines_of) l_10 c_10 k_10⟩,
    f_whole_text := ⟨f11, _, PySem.W.mg_of X G a_11, fun_mk (st := s_whole_text) l_11 c_11 k_11⟩,
    f_read_note := ⟨f12, _, PySem.W.mg_of X G a_12, fun_mk (st := s_read_note) l_12 c_12 k_12⟩,
    f_read_attempt := ⟨f13, _, PySem.W.mg_of X G a_13, fun_mk (st := s_read_attempt) l_13 c_13 k_13⟩,
    f_read_line := ⟨f14, _, PySem.W.mg_of X G a_14, fun_mk (st := s_read_line) l_14 c_14 k_14⟩,
    f_read_text := ⟨f15, _, PySem.W.mg_of X G a_15, fun_mk (st := s_read_text) l_15 c_15 k_15⟩,
    f__law_source := ⟨f16, _, PySem.W.mg_of X G a_16, fun_mk (st := s__law_source) l_16 c_16 k_16⟩,
    f__law_draw := ⟨f17, _, PySem.W.mg_of X G a_17, fun_mk (st := s__law_draw) l_17 c_17 k_17⟩,
    f__law_choice := ⟨f18, _, PySem.W.mg_of X G a_18, fun_mk (st := s__law_choice) l_18 c_18 k_18⟩,
    f__law_menu := ⟨f19, _, PySem.W.mg_of X G a_19, fun_mk (st := s__law_menu) l_19 c_19 k_19⟩,
    f__law_row := ⟨f20, _, PySem.W.mg_of X G a_20, fun_mk (st := s__law_row) l_20 c_20 k_20⟩,
    f__law_note := ⟨f21, _, PySem.W.mg_of X G a_21, fun_mk (st := s__law_note) l_21 c_21 k_21⟩,
    f__law_attempt := ⟨f22, _, PySem.W.mg_of X G a_22, fun_mk (st := s__law_attempt) l_22 c_22 k_22⟩,
    f__law_policy := ⟨f23, _, PySem.W.mg_of X G a_23, fun_mk (st := s__law_policy) l_23 c_23 k_23⟩,
    f__law_is_word := ⟨f24, _, PySem.W.mg_of X G a_24, fun_mk (st := s__law_is_word) l_24 c_24 k_24⟩,
    f__law_line := ⟨f25, _, PySem.W.mg_of X G a_25, fun_mk (st := s__law_line) l_25 c_25 k_25⟩,
    f__law_read := ⟨f26, _, PySem.W.mg_of X G a_26, fun_mk (st := s__law_read) l_26 c_26 k_26⟩,
    f__law_tried := ⟨f27, _, PySem.W.mg_of X G a_27, fun_mk (st := s__law_tried) l_27 c_27 k_27⟩,
    f__law_bent := ⟨f28, _, PySem.W.mg_of X G a_28, fun_mk (st := s__law_bent) l_28 c_28 k_28⟩,
    f_law := ⟨f29, _, PySem.W.mg_of X G a_29, fun_mk (st := s_law) l_29 c_29 k_29⟩,
    g_LETTERS := fun P w base k => ⟨⟨_, (.str "abcdefghijklmnopqrstuvwxyz"), PySem.W.mg_of X G u_LETTERS, rel_str, fun R n μ H => rp_str⟩⟩,
    g_MOST_AROUND := fun P w base k => ⟨⟨_, (.int 2), PySem.W.mg_of X G u_MOST_AROUND, rel_int, fun R n μ H => rp_int⟩⟩,
    g_PICKS := fun P w base k => ⟨⟨_, (.ref a6), PySem.W.mg_of X G u_PICKS, rel_ref, fun R n μ H => (rep_tupK q6 (le_line (show 3 ≤ 1000 by decide)) (.cons rel_str (.cons rel_str (.cons rel_str .nil))) (rp_cons rp_str (rp_cons rp_str (rp_cons rp_str rp_nil))))⟩⟩,
    g_MOST_ATTEMPTS := fun P w base k => ⟨⟨_, (.int 2), PySem.W.mg_of X G u_MOST_ATTEMPTS, rel_int, fun R n μ H => rp_int⟩⟩,
    g_SIGN := fun P w base k => ⟨⟨_, (.str "*"), PySem.W.mg_of X G u_SIGN, rel_str, fun R n μ H => rp_str⟩⟩,
    x_InvalidNote := fun P w base k => ⟨⟨xC0, PySem.W.mg_of X G xg_0, xx_0, xk_0, xb_0, xt_0⟩⟩,
    x_InvalidPolicy := fun P w base k => ⟨⟨xC1, PySem.W.mg_of X G xg_1, xx_1, xk_1, xb_1, xt_1⟩⟩,
    fx_NoText := fun P w base k hk => ⟨yC0, yI0, _, ["self", "line"], 1, PySem.W.mg_of X G yg_0, ⟨⟨_, _, _, _, _, _, _, _, _, _, _, _, _, _, _, yc_0, yr_0⟩, ys_0, yb_0, yt_0, yk_0⟩, yi_0, yu_0, hk, ini_ok (kk := _) (k := 0) (fun_mk (st := si_NoText) yl_0 yo_0 yp_0) sci_NoText (by rfl) (fun X => ⟨_, by rfl⟩) ⟨⟨_, _, _, _, _, _, _, _, _, _, _, _, _, _, _, yc_0, yr_0⟩, ys_0, yb_0, yt_0, yk_0⟩ yn_0 ⟨zs_0, zr_0, zf_0⟩ (PySem.W.mg_of X G zb_0) (by decide +kernel) (by decide +kernel) (by decide +kernel) (by decide +kernel) (by decide +kernel) (by decide +kernel) (by decide +kernel), (fun_mk (st := si_NoText) yl_0 yo_0 yp_0).binds (fun _ _ _ _ _ _ us hl => match us, hl with | [_, _], _ => rfl)⟩,
    fh_NoText := fun P w base k => ⟨⟨yC0, PySem.W.mg_of X G yg_0, ⟨ya_0, ye_0, yb_0, yd_0⟩, yn_0, (PySem.W.exm_ref yb_0 yd_0 yt_0 yz_0).trans (by decide +kernel)⟩⟩,
    nb := fun x hx => by
      simp only [BN, List.mem_cons, List.not_mem_nil, or_false] at hx
      rcases hx with rfl | rfl | rfl | rfl | rfl | rfl | rfl | rfl | rfl | rfl | rfl | rfl | rfl | rfl | rfl | rfl | rfl | rfl
      · exact PySem.W.mg_none_of X G b_0
      · exact PySem.W.mg_none_of X G b_1
      · exact PySem.W.mg_none_of X G b_2
      · exact PySem.W.mg_none_of X G b_3
      · exact PySem.W.mg_none_of X G b_4
      · exact PySem.W.mg_none_of X G b_5
      · exact PySem.W.mg_none_of X G b_6
      · exact PySem.W.mg_none_of X G b_7
      · exact PySem.W.mg_none_of X G b_8
      · exact PySem.W.mg_none_of X G b_9
      · exact PySem.W.mg_none_of X G b_10
      · exact PySem.W.mg_none_of X G b_11
      · exact PySem.W.mg_none_of X G b_12
      · exact PySem.W.mg_none_of X G b_13
      · exact PySem.W.mg_none_of X G b_14
      · exact PySem.W.mg_none_of X G b_15
      · exact PySem.W.mg_none_of X G b_16
      · exact PySem.W.mg_none_of X G b_17
  }
theorem law_at {P : Program} {w : World} {K : Fg} {h : Heap} {mg : Mg} {fa : Addr} (hw : Tabs.w = w) (hfa : mg "law" = some (.ref fa)) (T : Top K mg) :
    ∃ fd : FuncData, (∀ (s : Shared) (u : Value), BindsTo s fd ⟨[u], []⟩ [("script", u)]) ∧ ∀ base : Heap, K.In base → base.Ns mainGlobals mg → FnOk P w K mg base (L2.CX P w) 8 fa fd ["script"] (spLaw K) := by
  obtain ⟨f, fd, e, F⟩ := T.f_law
  cases hfa.symm.trans e
  obtain ⟨oc, od, kV, doc, pm, an, cdv, ct, osl, e1, _⟩ := F.ex
  refine ⟨fd, fun s u => ?_, fun base _ _ => ?_⟩
  · rw [e1]
    exact .of_eq rfl
  · refine law_imp (fn_ok (b := b_law S__law_source S_whole_text S__law_note S__law_policy S__law_bent S__law_tried S__law_read) F sc_law rfl T.nb hw ck_law ?_ (law_run fun ns hn => ⟨1000000000, law_ok hn⟩))
    have c_law_source_0 := (ok__law_source (P := P) (w := w) (base := base) T hw).fnD (k := 7) (by omega)
    have cwhole_text_0 := (ok_whole_text (P := P) (w := w) (base := base) T hw).fnD (k := 7) (by omega)
    have c_law_note_0 := (ok__law_note (P := P) (w := w) (base := base) T hw).fnD (k := 7) (by omega)
    have c_law_policy_0 := (ok__law_policy (P := P) (w := w) (base := base) T hw).fnD (k := 7) (by omega)
    have c_law_bent_0 := (ok__law_bent (P := P) (w := w) (base := base) T hw).fnD (k := 7) (by omega)
    have c_law_tried_0 := (ok__law_tried (P := P) (w := w) (base := base) T hw).fnD (k := 7) (by omega)
    have c_law_read_0 := (ok__law_read (P := P) (w := w) (base := base) T hw).fnD (k := 7) (by omega)
    simp only [b_law, okSs, okS, okE, okEs, and_true, true_and, and_self, c_law_source_0, cwhole_text_0, c_law_note_0, c_law_policy_0, c_law_bent_0, c_law_tried_0, c_law_read_0]

end Ev
open PySem PySem.W PyProof.Rows
set_option maxHeartbeats 0 in
theorem PySem.Challenge.cw_notesbelow_k30_texts_that_are_spoilt_holds : PySem.Challenge.rw_notesbelow_k30_texts_that_are_spoilt.Holds := by
  w_on; o_law; k_head; (case hw => w_witness2)
  k_fill
  refine L2.walk_of (l := PySem.Challenge.rw_notesbelow_k30_texts_that_are_spoilt) (n := 63) (k := 8) (x := "script") (CX := fun w => L2.CX PySem.Challenge.rw_notesbelow_k30_texts_that_are_spoilt.prog w) (sp := fun w => Ev.spLaw _) rfl (by decide) rfl ⟨rfl, by decide, by decide⟩ (fun w h Y => PySem.W.kIn_of Y) ?F (fun _ _ a ns hl ho hS => ⟨a, ns, rfl, hS, ho, hl, fun _ => rfl⟩) (fun _ _ _ _ _ h => Ev.cx_end h)
  case F =>
    intro w mg fa h KX G hmg
    letI : Ev.Tabs := ⟨w, fun _ => none⟩
    refine' Ev.law_at (h := h) rfl hmg (Ev.top_mk KX G ?a_0 ?l_0 ?c_0 ?k_0 ?a_1 ?l_1 ?c_1 ?k_1 ?a_2 ?l_2 ?c_2 ?k_2 ?a_3 ?l_3 ?c_3 ?k_3 ?a_4 ?l_4 ?c_4 ?k_4 ?a_5 ?l_5 ?c_5 ?k_5 ?a_6 ?l_6 ?c_6 ?k_6 ?a_7 ?l_7 ?c_7 ?k_7 ?a_8 ?l_8 ?c_8 ?k_8 ?a_9 ?l_9 ?c_9 ?k_9 ?a_10 ?l_10 ?c_10 ?k_10 ?a_11 ?l_11 ?c_11 ?k_11 ?a_12 ?l_12 ?c_12 ?k_12 ?a_13 ?l_13 ?c_13 ?k_13 ?a_14 ?l_14 ?c_14 ?k_14 ?a_15 ?l_15 ?c_15 ?k_15 ?a_16 ?l_16 ?c_16 ?k_16 ?a_17 ?l_17 ?c_17 ?k_17 ?a_18 ?l_18 ?c_18 ?k_18 ?a_19 ?l_19 ?c_19 ?k_19 ?a_20 ?l_20 ?c_20 ?k_20 ?a_21 ?l_21 ?c_21 ?k_21 ?a_22 ?l_22 ?c_22 ?k_22 ?a_23 ?l_23 ?c_23 ?k_23 ?a_24 ?l_24 ?c_24 ?k_24 ?a_25 ?l_25 ?c_25 ?k_25 ?a_26 ?l_26 ?c_26 ?k_26 ?a_27 ?l_27 ?c_27 ?k_27 ?a_28 ?l_28 ?c_28 ?k_28 ?a_29 ?l_29 ?c_29 ?k_29 ?u_LETTERS ?u_MOST_AROUND ?u_PICKS ?u_MOST_ATTEMPTS ?u_SIGN ?q6 ?xg_0 ?xx_0 ?xk_0 ?xb_0 ?xt_0 ?xg_1 ?xx_1 ?xk_1 ?xb_1 ?xt_1 ?yg_0 ?yb_0 ?yt_0 ?yn_0 ?yc_0 ?yr_0 ?ys_0 ?yk_0 ?yi_0 ?yu_0 ?yl_0 ?yo_0 ?yp_0 ?zb_0 ?zs_0 ?zr_0 ?zf_0 ?yd_0 ?ya_0 ?ye_0 ?yz_0 ?b_0 ?b_1 ?b_2 ?b_3 ?b_4 ?b_5 ?b_6 ?b_7 ?b_8 ?b_9 ?b_10 ?b_11 ?b_12 ?b_13 ?b_14 ?b_15 ?b_16 ?b_17)
    (case a_0 => k_is); (case l_0 => k_is); (case c_0 => k_is); (case k_0 => k_is); (case a_1 => k_is); (case l_1 => k_is); (case c_1 => k_is); (case k_1 => k_is); (case a_2 => k_is); (case l_2 => k_is); (case c_2 => k_is); (case k_2 => k_is); (case a_3 => k_is); (case l_3 => k_is); (case c_3 => k_is); (case k_3 => k_is); (case a_4 => k_is); (case l_4 => k_is); (case c_4 => k_is); (case k_4 => k_is); (case a_5 => k_is); (case l_5 => k_is); (case c_5 => k_is); (case k_5 => k_is); (case a_6 => k_is); (case l_6 => k_is); (case c_6 => k_is); (case k_6 => k_is); (case a_7 => k_is); (case l_7 => k_is); (case c_7 => k_is); (case k_7 => k_is); (case a_8 => k_is); (case l_8 => k_is); (case c_8 => k_is); (case k_8 => k_is); (case a_9 => k_is); (case l_9 => k_is); (case c_9 => k_is); (case k_9 => k_is); (case a_10 => k_is); (case l_10 => k_is); (case c_10 => k_is); (case k_10 => k_is); (case a_11 => k_is); (case l_11 => k_is); (case c_11 => k_is); (case k_11 => k_is); (case a_12 => k_is); (case l_12 => k_is); (case c_12 => k_is); (case k_12 => k_is); (case a_13 => k_is); (case l_13 => k_is); (case c_13 => k_is); (case k_13 => k_is); (case a_14 => k_is); (case l_14 => k_is); (case c_14 => k_is); (case k_14 => k_is); (case a_15 => k_is); (case l_15 => k_is); (case c_15 => k_is); (case k_15 => k_is); (case a_16 => k_is); (case l_16 => k_is); (case c_16 => k_is); (case k_16 => k_is); (case a_17 => k_is); (case l_17 => k_is); (case c_17 => k_is); (case k_17 => k_is); (case a_18 => k_is); (case l_18 => k_is); (case c_18 => k_is); (case k_18 => k_is); (case a_19 => k_is); (case l_19 => k_is); (case c_19 => k_is); (case k_19 => k_is); (case a_20 => k_is); (case l_20 => k_is); (case c_20 => k_is); (case k_20 => k_is); (case a_21 => k_is); (case l_21 => k_is); (case c_21 => k_is); (case k_21 => k_is); (case a_22 => k_is); (case l_22 => k_is); (case c_22 => k_is); (case k_22 => k_is); (case a_23 => k_is); (case l_23 => k_is); (case c_23 => k_is); (case k_23 => k_is); (case a_24 => k_is); (case l_24 => k_is); (case c_24 => k_is); (case k_24 => k_is); (case a_25 => k_is); (case l_25 => k_is); (case c_25 => k_is); (case k_25 => k_is); (case a_26 => k_is); (case l_26 => k_is); (case c_26 => k_is); (case k_26 => k_is); (case a_27 => k_is); (case l_27 => k_is); (case c_27 => k_is); (case k_27 => k_is); (case a_28 => k_is); (case l_28 => k_is); (case c_28 => k_is); (case k_28 => k_is); (case a_29 => k_is); (case l_29 => k_is); (case c_29 => k_is); (case k_29 => k_is); (case u_LETTERS => k_is); (case u_MOST_AROUND => k_is); (case u_PICKS => k_is); (case u_MOST_ATTEMPTS => k_is); (case u_SIGN => k_is); (case q6 => k_is); (case xg_0 => k_is); (case xx_0 => k_exc); (case xk_0 => k_is); (case xb_0 => k_is); (case xt_0 => k_is); (case xg_1 => k_is); (case xx_1 => k_exc); (case xk_1 => k_is); (case xb_1 => k_is); (case xt_1 => k_is); (case yg_0 => k_is); (case yb_0 => k_is); (case yt_0 => k_is); (case yn_0 => k_is); (case yc_0 => k_is); (case yr_0 => decide +kernel); (case ys_0 => k_is); (case yk_0 => k_is); (case yi_0 => k_is); (case yu_0 => k_is); (case yl_0 => k_is); (case yo_0 => k_is); (case yp_0 => k_is); (case zb_0 => k_is); (case zs_0 => k_is); (case zr_0 => k_is); (case zf_0 => k_is); (case yd_0 => k_is); (case ya_0 => k_is); (case ye_0 => k_is); (case yz_0 => k_is); (case b_0 => k_is); (case b_1 => k_is); (case b_2 => k_is); (case b_3 => k_is); (case b_4 => k_is); (case b_5 => k_is); (case b_6 => k_is); (case b_7 => k_is); (case b_8 => k_is); (case b_9 => k_is); (case b_10 => k_is); (case b_11 => k_is); (case b_12 => k_is); (case b_13 => k_is); (case b_14 => k_is); (case b_15 => k_is); (case b_16 => k_is); (case b_17 => k_is)
