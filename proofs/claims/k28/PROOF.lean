import PyProof.Rows.All
import HandS.ForMost
import HandS.Wide
import KE.KDictKeyed
import KE.KeyNested
import HandS.Exc
import HandS.TryOnly
import HandS.TryMany
import HandS.ExcOwn
import HandS.WordsExc
import HandS.TupAny
import HandS.TupMul
import HandS.Style
import HandS.Conv
import HandS.IsInst
import HandS.Deep
import HandS.DictComp
import HandS.Lambda
import HandS.Text
import KE.GoesZip
import KE.GoesMore
import HandS.Zip
import HandS.Strs
import HandS.Property
import HandS.ExcInit
import HandS.ExcField
import HandS.ExcIs
import HandS.Ends
import HandS.Defaults
import PySem.Challenge.RW_notesbelow_k28_whole_pages_and_scripts
set_option Elab.async false
set_option linter.all false
set_option autoImplicit false
set_option maxRecDepth  100000
noncomputable section
namespace Ev
open PySem

/-- data by value; loc: a mutable object of the logical heap; scr: the law's script -/
inductive D where
  | non | bl (b : Bool) | int (i : Int) | str (x : Str)
  | tup (ds : List D) | lst (ds : List D) | loc (n : Nat) | scr (ns : List Int)
  | dct (ks vs : List D) | ins (c : Str) (fs : List Str) (ds : List D) | clo (i : Nat) (cs : List D)
  deriving Inhabited
/-- what stands at a location: a list, a dict, an instance of the class named so -/
inductive O where
  | lst (ds : List D) | dct (kvs : List (D × D)) | ins (c : Str) (fs : List (Str × D))
  deriving Inhabited
abbrev LH := List O
/-- an exception: its class's name, its attribute -/
structure Exn where
  cls : Str
  arg : Option (Str × D) := none
inductive Res (α : Type) where
  | ok (a : α) (h : LH)
  | ex (x : Exn) (h : LH)
  | no
def Res.bind {α β : Type} (r : Res α) (f : α → LH → Res β) : Res β := match r with
  | .ok a h => f a h
  | .ex x h => .ex x h
  | .no => .no
abbrev Env := List (Option D)
abbrev Fn := List D → LH → Res D

mutual
def pd : D → Option PyData
  | .non => some .none
  | .bl b => some (.bool b)
  | .int i => some (.int i)
  | .str x => some (.str x)
  | .tup ds => match pds ds with | some l => some (.tuple l) | none => none
  | .lst ds => match pds ds with | some l => some (.list l) | none => none
  | .loc _ => none
  | .scr _ => none
  | .dct _ _ => none
  | .ins _ _ _ => none
  | .clo _ _ => none
def pds : List D → Option (List PyData)
  | [] => some []
  | d :: ds => match pd d, pds ds with | some x, some l => some (x :: l) | _, _ => none
end
mutual
def nk : D → Option NestedKey
  | .non => some .none
  | .int i => some (.num i)
  | .str x => some (.text x)
  | .tup ds => match nks ds with | some l => some (.tup l) | none => none
  | _ => none
def nks : List D → Option (List NestedKey)
  | [] => some []
  | d :: ds => match nk d, nks ds with | some x, some l => some (x :: l) | _, _ => none
end
def keyB : D → Bool
  | .int _ => true
  | .str _ => true
  | _ => false
def keyT : D → Bool
  | .tup ds => match nks ds with | some l => decide ((NestedKey.tup l).depth ≤ 8) | none => false
  | _ => false
/-- a key of the kind of the dict's -/
def kOk (kvs : List (D × D)) (k : D) : Bool := (keyB k && kvs.all fun p => keyB p.1) || (keyT k && kvs.all fun p => keyT p.1)
open Classical in
def dget (kvs : List (D × D)) (k : D) : Option D := (kvs.find? fun p => decide (p.1 = k)).map (·.2)
open Classical in
def dput (kvs : List (D × D)) (k v : D) : List (D × D) := if (kvs.any fun p => decide (p.1 = k)) = true then kvs.map fun p => if p.1 = k then (p.1, v) else p else kvs ++ [(k, v)]
open Classical in
def ddel (kvs : List (D × D)) (k : D) : List (D × D) := kvs.filter fun p => decide (p.1 ≠ k)
def asD (h : LH) : D → Option (List (D × D))
  | .dct ks vs => some (ks.zip vs)
  | .loc n => match h[n]? with | some (.dct kvs) => some kvs | _ => none
  | _ => none
/-- an instance's class and variables -/
def asI (h : LH) : D → Option (Str × List (Str × D))
  | .ins c fs ds => some (c, fs.zip ds)
  | .loc n => match h[n]? with | some (.ins c fs) => some (c, fs) | _ => none
  | _ => none
/-- the items of a list, by value or at a location -/
def asL (h : LH) : D → Option (List D)
  | .lst ds => some ds
  | .loc n => match h[n]? with | some (.lst ds) => some ds | _ => none
  | _ => none
def asS (h : LH) : D → Option (List D)
  | .tup ds => some ds
  | d => asL h d
/-- data for == (a location's list is read) -/
def pdT (h : LH) (d : D) : Option PyData := match d with
  | .loc n => match h[n]? with | some (.lst ds) => pd (.lst ds) | _ => none
  | d => pd d
def eqP (h : LH) (a b : D) : Option Bool := match pdT h a, pdT h b with
  | some x, some y => if SeqAt.shaped x = true ∧ SeqAt.shaped y = true then some (PyData.eqv x y) else none
  | _, _ => none
/-- a dict with keys by value and one that is empty -/
def eqE (h : LH) (a b : D) : Option Bool := match asD h a, asD h b with
  | some kvs, some [] => if (kvs.all fun p => keyB p.1) = true then some kvs.isEmpty else none
  | _, _ => none
def eqD (h : LH) (a b : D) : Option Bool := match eqP h a b with | some k => some k | none => eqE h a b
def truthy (h : LH) : D → Option Bool
  | .non => some false
  | .bl b => some b
  | .int i => some (i != 0)
  | .str x => if x.length ≤ sizeLine then some ((x.length : Int) != 0) else none
  | .tup ds => some (!ds.isEmpty)
  | d => match asL h d with | some ds => some (!ds.isEmpty) | none => none
def allocD (kvs : List (D × D)) (h : LH) : Res D := .ok (.loc h.length) (h ++ [.dct kvs])
def alloc (m : Bool) (ds : List D) (h : LH) : Res D := if m then .ok (.loc h.length) (h ++ [.lst ds]) else .ok (.lst ds) h

def catL (m : Bool) (a b : Option (List D)) (h : LH) : Res D := match a, b with
  | some xs, some ys => if xs.length + ys.length ≤ sizeLine then alloc m (xs ++ ys) h else .no
  | _, _ => .no
def opAdd (m : Bool) (a b : D) (h : LH) : Res D := match a, b with
  | .int i, .int j => .ok (.int (i + j)) h
  | .str x, .str y => if x.length + y.length ≤ sizeLine then .ok (.str (x ++ y)) h else .no
  | .tup xs, .tup ys => if xs.length + ys.length ≤ sizeLine then .ok (.tup (xs ++ ys)) h else .no
  | a, b => catL m (asL h a) (asL h b) h
def opMul (a b : D) (h : LH) : Res D := match a, b with
  | .int i, .int j => if (-(2 ^ 64) < i ∧ i < 2 ^ 64) ∨ (-(2 ^ 64) < j ∧ j < 2 ^ 64) then .ok (.int (i * j)) h else .no
  | .tup xs, .int k => if xs ≠ [] ∧ 2 ≤ k ∧ k ≤ 1000 ∧ xs.length ≤ 1000 then .ok (.tup (List.replicate k.toNat xs).flatten) h else .no
  | _, _ => .no
def opBin (op : Operator) (m : Bool) (a b : D) (h : LH) : Res D := match op with
  | .Add => opAdd m a b h
  | .Sub => match a, b with | .int i, .int j => .ok (.int (i - j)) h | _, _ => .no
  | .Mult => opMul a b h
  | .FloorDiv => match a, b with | .int i, .int j => if 0 < j ∧ j.natAbs.log2 < 9000 then .ok (.int (i / j)) h else .no | _, _ => .no
  | .Mod => match a, b with | .int i, .int j => if 0 < j then .ok (.int (i % j)) h else .no | _, _ => .no
  | .Pow => match a, b with | .int i, .int j => if 0 ≤ j ∧ j ≤ 1000000 ∧ i.natAbs < 2 ^ 64 then .ok (.int (i ^ j.toNat)) h else .no | _, _ => .no
  | _ => .no
def inS (h : LH) (a b : D) : Option Bool := match a, b with
  | .str x, .str y => some (!(Builtin.Str.occurrences y x 0 y.length 1).isEmpty)
  | a, b => match asS h b with
    | some ds => match pdT h a, pds ds with
      | some x, some l => if SeqAt.shaped x = true ∧ SeqAt.shaped (.list l) = true then some (l.any fun z => PyData.eqv z x) else none
      | _, _ => none
    | none => none
def inD (h : LH) (a b : D) : Option Bool := match asD h b with
  | some kvs => if kOk kvs a = true then some (dget kvs a).isSome else none
  | none => inS h a b
def cmpI (p : Int → Int → Bool) (a b : D) (h : LH) : Res D := match a, b with | .int i, .int j => .ok (.bl (p i j)) h | _, _ => .no
def opCmp (op : CmpOp) (a b : D) (h : LH) : Res D := match op with
  | .Eq => match eqD h a b with | some k => .ok (.bl k) h | none => .no
  | .NotEq => match eqD h a b with | some k => .ok (.bl (!k)) h | none => .no
  | .Lt => cmpI (fun i j => decide (i < j)) a b h
  | .LtE => cmpI (fun i j => decide (i ≤ j)) a b h
  | .Gt => cmpI (fun i j => decide (j < i)) a b h
  | .GtE => cmpI (fun i j => decide (j ≤ i)) a b h
  | .In => match inD h a b with | some k => .ok (.bl k) h | none => .no
  | .NotIn => match inD h a b with | some k => .ok (.bl (!k)) h | none => .no
  | .Is => match b with | .non => .ok (.bl (match a with | .non => true | _ => false)) h | _ => .no
  | .IsNot => match b with | .non => .ok (.bl (match a with | .non => false | _ => true)) h | _ => .no
def opIdxS (a i : D) (h : LH) : Res D := match i with
  | .int k => match a with
    | .tup ds => match L2.atI ds k with | some d => .ok d h | none => .no
    | .str x => if x.length ≤ sizeLine then match L2.atI x.cps.toList k with | some c => .ok (.str ⟨#[c]⟩) h | none => .no else .no
    | .scr ns => match L2.atI ns k with | some n => .ok (.int n) h | none => .no
    | a => match asL h a with
      | some ds => match L2.atI ds k with | some d => .ok d h | none => .no
      | none => .no
  | _ => .no
def opIdx (a i : D) (h : LH) : Res D := match asD h a with
  | some kvs => if kOk kvs i = true then match dget kvs i with | some v => .ok v h | none => .no else .no
  | none => opIdxS a i h
def cutL {α : Type} (xs : List α) (lo hi : Option Int) : List α := (xs.drop (HT.sIx xs.length 0 lo)).take (HT.sIx xs.length xs.length hi - HT.sIx xs.length 0 lo)
def opCut (m : Bool) (a : D) (lo hi : Option Int) (h : LH) : Res D := match a with
  | .tup ds => .ok (.tup (cutL ds lo hi)) h
  | .str x => if x.length ≤ sizeLine then .ok (.str (L2.cutS x lo hi)) h else .no
  | a => match asL h a with
    | some ds => alloc m (cutL ds lo hi) h
    | none => .no
/-- isinstance, of a built-in class -/
def tyN (h : LH) : D → Option String
  | .non => some "NoneType"
  | .bl _ => some "bool"
  | .int _ => some "int"
  | .str _ => some "str"
  | .tup _ => some "tuple"
  | d => match asL h d with | some _ => some "list" | none => none
def isiTys : List String := ["str", "int", "bool", "tuple", "list"]
def isiD (h : LH) (T : String) (d : D) : Option Bool := match tyN h d with
  | some t => if isiTys.contains T = true then some (t == T || (t == "bool" && T == "int")) else none
  | none => none
def lenD (h : LH) : D → Option Int
  | .str x => if x.length ≤ sizeLine then some (x.length : Nat) else none
  | .tup ds => some (ds.length : Nat)
  | .scr ns => some (ns.length : Nat)
  | d => match asL h d with | some ds => some (ds.length : Nat) | none => none

inductive Bi where
  | len | int1 | abs1 | min2 | max2 | tuple1 | list1 | all1 | sum1 | str1
  deriving DecidableEq
def boolsOf : List D → Option (List Bool)
  | [] => some []
  | .bl b :: r => match boolsOf r with | some l => some (b :: l) | none => none
  | _ => none
def intsOf : List D → Option (List Int)
  | [] => some []
  | .int b :: r => match intsOf r with | some l => some (b :: l) | none => none
  | _ => none
def biF (f : Bi) (m : Bool) (ds : List D) (h : LH) : Res D := match f, ds with
  | .len, [d] => match lenD h d with | some n => .ok (.int n) h | none => .no
  | .int1, [.int i] => .ok (.int i) h
  | .int1, [.bl b] => .ok (.int (if b then 1 else 0)) h
  | .int1, [.str x] => match PySem.intText? x with | some n => if x.length ≤ 640 then .ok (.int n) h else .no | none => .no
  | .abs1, [.int i] => .ok (.int (if i < 0 then -i else i)) h
  | .min2, [.int i, .int j] => .ok (.int (if j < i then j else i)) h
  | .max2, [.int i, .int j] => .ok (.int (if j > i then j else i)) h
  | .tuple1, [d] => match asS h d with | some l => .ok (.tup l) h | none => .no
  | .list1, [d] => match asS h d with | some l => alloc m l h | none => .no
  | .all1, [d] => match (asL h d).bind boolsOf with | some bs => .ok (.bl (bs.all id)) h | none => .no
  | .sum1, [d] => match (asL h d).bind intsOf with | some bs => .ok (.int bs.sum) h | none => .no
  | .str1, [.int i] => if i.natAbs.log2 < 1920 then .ok (.str (toString i)) h else .no
  | _, _ => .no
inductive Mt where
  | append | pop0 | pop | popAt | index | join | split | get2 | popK
  deriving DecidableEq
def strsOf : List D → Option (List Str)
  | [] => some []
  | .str b :: r => match strsOf r with | some l => some (b :: l) | none => none
  | _ => none
/-- may the method be looked up on this value -/
def mtOk (f : Mt) (h : LH) (d : D) : Bool := match f, d with
  | .join, .str _ => true
  | .split, .str _ => true
  | .append, d => (asL h d).isSome
  | .pop0, d => (asL h d).isSome
  | .pop, d => (asL h d).isSome
  | .popAt, d => (asL h d).isSome
  | .get2, d => (asD h d).isSome
  | .popK, d => (asD h d).isSome
  | _, _ => false
def mtF (f : Mt) (m : Bool) (x : D) (ds : List D) (h : LH) : Res D := match f, x, ds with
  | .append, .loc n, [d] => match h[n]? with
    | some (.lst xs) => if xs.length < sizeLine then .ok .non (h.set n (.lst (xs ++ [d]))) else .no
    | _ => .no
  | .pop, .loc n, [] => match h[n]? with
    | some (.lst xs) => match xs[xs.length - 1]? with | some y => .ok y (h.set n (.lst xs.dropLast)) | none => .no
    | _ => .no
  | .popAt, .loc n, [.int i] => match h[n]? with
    | some (.lst xs) => if -(2 ^ 63) ≤ i ∧ i < 2 ^ 63 then match seqIndex? i xs.length with
      | some k => (match xs[k]? with | some y => .ok y (h.set n (.lst (xs.eraseIdx k))) | none => .no)
      | none => .no
      else .no
    | _ => .no
  | .join, .str s, [d] => match (asS h d).bind strsOf with
    | some ys => if (ys.map (·.length)).sum + ys.length * s.length ≤ 16777216 then .ok (.str (Txt.join s ys)) h else .no
    | none => .no
  | .get2, d, [k, x] => match asD h d with
    | some kvs => if kOk kvs k = true then .ok ((dget kvs k).getD x) h else .no
    | none => .no
  | .popK, .loc n, [k] => match h[n]? with
    | some (.dct kvs) => if keyB k = true ∧ (kvs.all fun p => keyB p.1) = true then match dget kvs k with | some v => .ok v (h.set n (.dct (ddel kvs k))) | none => .no else .no
    | _ => .no
  | .split, .str a, [.str b] => if (b.length == 0) = false ∧ a.length + 2 ≤ sizeLine then alloc m ((Txt.split a b).map D.str) h else .no
  | _, _, _ => .no

/-- a target: a slot, several targets -/
inductive T where
  | nm (i : Nat) | tp (ts : List T)
inductive E where
  | var (i : Nat) | cst (c : Const) | glob (x : Str) (d : D)
  | tup (es : List E) | lst (m : Bool) (es : List E)
  | bin (op : Operator) (m : Bool) (a b : E) | neg (a : E) | not (a : E)
  | and (es : List E) | or (es : List E)
  | cmp (op : CmpOp) (a b : E) | chn (op op' : CmpOp) (a b c : E)
  | ite (c a b : E) | idx (a i : E) | slc (m : Bool) (a lo hi : E) | noe
  | isi (a : E) (ty : String)
  | bui (f : Bi) (m : Bool) (es : List E)
  | met (f : Mt) (m : Bool) (o : E) (es : List E)
  | cal (x : Str) (S : Fn) (m : Nat) (dfl : List D) (es : List E)
  | lcp (own : List (Str × Nat)) (t : T) (it : E) (cond : List E) (elt : E)
  | itv (e : E) | rng (es : List E)
  | dsp (es : List E) | ds1 (k v : E) | tix (os : List E) (e : E) | lrg (m : Bool) (it : E)
  | att (c f : Str) (o : E) | mca (c x : Str) (S : Fn) (k : Nat) (dfl : List D) (o : E) (es : List E)
  | prp (c x : Str) (S : Fn) (o : E) | mk (c : Str) (S : Fn) (k : Nat) (dfl : List D) (es : List E)
  | rvs (m : Bool) (a : E) | zip (a b : E) | enm (a : E) | bad

def cstD : Const → Option D
  | .none => some .non
  | .bool b => some (.bl b)
  | .int i => some (.int i)
  | .str x => some (.str x)
  | _ => none

mutual
def bindT : T → D → Env → Option Env
  | .nm i, d, env => if i < env.length then some (env.set i (some d)) else none
  | .tp ts, .tup ds, env => if ts.length = ds.length then bindTs ts ds env else none
  | .tp _, _, _ => none
def bindTs : List T → List D → Env → Option Env
  | [], [], env => some env
  | t :: ts, d :: ds, env => match bindT t d env with | some env' => bindTs ts ds env' | none => none
  | _, _, _ => none
end
def wipeE (env : Env) : List Nat → Env
  | [] => env
  | v :: vs => (wipeE env vs).set v none

abbrev Src := List (Nat × List D)
def SrcOk (s : Src) (h : LH) : Prop := ∀ p ∈ s, h[p.1]? = some (.lst p.2)
open Classical in
def compLoop (s : Src) (own : List Nat) (t : T) (f : Env → LH → Res (Option D)) : List D → List D → Env → LH → Res (List D)
  | [], acc, env, h => if SrcOk s h then .ok acc h else .no
  | x :: xs, acc, env, h => if SrcOk s h ∧ acc.length < sizeLine then match bindT t x (wipeE env own) with
    | none => .no
    | some env1 => match f env1 h with
      | .ok none h1 => compLoop s own t f xs acc env h1
      | .ok (some d) h1 => compLoop s own t f xs (acc ++ [d]) env h1
      | .ex _ _ => .no
      | .no => .no
    else .no
def rangeItems : List D → Option (List D)
  | [.int j] => if -(2 ^ 62) ≤ j ∧ j < 2 ^ 62 then some ((List.range j.toNat).map fun i => D.int (i : Nat)) else none
  | [.int i, .int j] => if -(2 ^ 62) ≤ i ∧ i < 2 ^ 62 ∧ -(2 ^ 62) ≤ j ∧ j < 2 ^ 62 then some ((List.range (j - i).toNat).map fun k => D.int (i + (k : Nat))) else none
  | _ => none
def rangeDown (i j : Int) : List D := (List.range (i - j).toNat).map fun k => D.int (i + (k : Nat) * (-1))
def zipD (xs ys : List D) : List D := (xs.zip ys).map fun p => .tup [p.1, p.2]
def enmD (xs : List D) : List D := xs.zipIdx.map fun p => .tup [.int (p.2 : Nat), p.1]
def pairUp : List D → Option (List (D × D))
  | [] => some []
  | x :: y :: r => match pairUp r with | some l => some ((x, y) :: l) | none => none
  | _ => none
def seqSrc (h : LH) (d : D) : Option (Src × List D) := match d with
  | .tup ds => some ([], ds)
  | .lst ds => some ([], ds)
  | .str x => some ([], x.cps.toList.map fun c => D.str ⟨#[c]⟩)
  | .loc n => match h[n]? with | some (.lst ds) => some ([(n, ds)], ds) | _ => none
  | _ => none

mutual
def evE : E → Env → LH → Res D
  | .var i, env, h => match env[i]? with | some (some d) => .ok d h | _ => .no
  | .cst c, _, h => match cstD c with | some d => .ok d h | none => .no
  | .glob _ d, _, h => .ok d h
  | .tup es, env, h => (evEs es env h).bind fun ds h1 => if ds.length ≤ sizeLine then .ok (.tup ds) h1 else .no
  | .lst m es, env, h => (evEs es env h).bind fun ds h1 => if ds.length ≤ sizeLine then alloc m ds h1 else .no
  | .bin op m a b, env, h => (evE a env h).bind fun x h1 => (evE b env h1).bind fun y h2 => opBin op m x y h2
  | .neg a, env, h => (evE a env h).bind fun x h1 => match x with | .int i => .ok (.int (-i)) h1 | _ => .no
  | .not a, env, h => (evE a env h).bind fun x h1 => match x with | .bl b => .ok (.bl (!b)) h1 | _ => .no
  | .and es, env, h => evAnd es env h
  | .or es, env, h => evOr es env h
  | .cmp op a b, env, h => (evE a env h).bind fun x h1 => (evE b env h1).bind fun y h2 => opCmp op x y h2
  | .chn op op' a b c, env, h => (evE a env h).bind fun x h1 => (evE b env h1).bind fun y h2 => (opCmp op x y h2).bind fun k h3 => match k with
    | .bl true => (evE c env h3).bind fun z h4 => opCmp op' y z h4
    | .bl false => .ok (.bl false) h3
    | _ => .no
  | .ite c a b, env, h => (evE c env h).bind fun x h1 => match truthy h1 x with
    | some true => evE a env h1
    | some false => evE b env h1
    | none => .no
  | .idx a i, env, h => (evE a env h).bind fun x h1 => (evE i env h1).bind fun y h2 => opIdx x y h2
  | .slc m a lo hi, env, h => (evE a env h).bind fun x h1 => (evO lo env h1).bind fun l h2 => (evO hi env h2).bind fun u h3 => opCut m x l u h3
  | .noe, _, _ => .no
  | .isi a ty, env, h => (evE a env h).bind fun x h1 => match isiD h1 ty x with | some b => .ok (.bl b) h1 | none => .no
  | .bui f m es, env, h => (evEs es env h).bind fun ds h1 => biF f m ds h1
  | .met f m o es, env, h => (evE o env h).bind fun x h1 => if mtOk f h1 x = true then (evEs es env h1).bind fun ds h2 => mtF f m x ds h2 else .no
  | .cal _ S m dfl es, env, h => (evEs es env h).bind fun ds h1 => if ds.length + dfl.length = m then S (ds ++ dfl) h1 else .no
  | .lcp own t it cond elt, env, h => (evI it env h).bind fun p h1 => (compLoop p.1 (own.map (·.2)) t (fun env1 h2 => (evC cond env1 h2).bind fun b h3 =>
      if b = true then (evE elt env1 h3).bind fun d h4 => .ok (some d) h4 else .ok none h3) p.2 [] env h1).bind fun ds h5 => .ok (.lst ds) h5
  | .itv _, _, _ => .no
  | .rng _, _, _ => .no
  | .zip _ _, _, _ => .no
  | .bad, _, _ => .no
  | .enm _, _, _ => .no
  | .dsp es, env, h => (evEs es env h).bind fun ds h1 => match pairUp ds with
    | none => .no
    | some kvs => if (kvs.all fun p => keyB p.1) = true ∧ kvs.length ≤ 15 then allocD (kvs.foldl (fun acc p => dput acc p.1 p.2) []) h1 else .no
  | .ds1 k v, env, h => (evE k env h).bind fun x h1 => (evE v env h1).bind fun y h2 => if keyT x = true then allocD [(x, y)] h2 else .no
  | .tix os e, env, h => (evEs os env h).bind fun ds h1 => if ds.length ≤ sizeLine then (evE e env h1).bind fun x h2 => match strsOf ds, x with
    | some ys, .str z => match ys.idxOf? z with | some k => .ok (.int (k : Nat)) h2 | none => .no
    | _, _ => .no
    else .no
  | .lrg m it, env, h => (evI it env h).bind fun p h1 => if p.2.length ≤ sizeLine then alloc m p.2 h1 else .no
  | .att c f o, env, h => (evE o env h).bind fun d h1 => match asI h1 d with
    | some (c', fs) => if c' = c then match fs.lookup f with | some v => .ok v h1 | none => .no else .no
    | none => .no
  | .mca c x S k dfl o es, env, h => (evE o env h).bind fun d h1 => match asI h1 d with
    | some (c', fs) => if c' = c ∧ fs.lookup x = none then (evEs es env h1).bind fun ds h2 => if ds.length + 1 + dfl.length = k then S (d :: (ds ++ dfl)) h2 else .no else .no
    | none => .no
  | .prp c _ S o, env, h => (evE o env h).bind fun d h1 => match asI h1 d with
    | some (c', _) => if c' = c then (match S [d] h1 with | .ok v h2 => .ok v h2 | _ => .no) else .no
    | none => .no
  | .mk c S k dfl es, env, h => (evEs es env h).bind fun ds h1 => if ds.length + 1 + dfl.length = k then
      (S (.loc h1.length :: (ds ++ dfl)) (h1 ++ [.ins c []])).bind fun d h2 => match d with | .non => .ok (.loc h1.length) h2 | _ => .no
    else .no
  | .rvs m a, env, h => (evE a env h).bind fun d h1 => match asL h1 d with
    | some ds => alloc m ds.reverse h1
    | none => .no
def evEs : List E → Env → LH → Res (List D)
  | [], _, h => .ok [] h
  | e :: es, env, h => (evE e env h).bind fun d h1 => (evEs es env h1).bind fun ds h2 => .ok (d :: ds) h2
/-- and, or: all but the last are True or False -/
def evAnd : List E → Env → LH → Res D
  | [], _, _ => .no
  | [e], env, h => evE e env h
  | e :: es, env, h => (evE e env h).bind fun d h1 => match d with
    | .bl true => evAnd es env h1
    | .bl false => .ok (.bl false) h1
    | _ => .no
def evOr : List E → Env → LH → Res D
  | [], _, _ => .no
  | [e], env, h => evE e env h
  | e :: es, env, h => (evE e env h).bind fun d h1 => match d with
    | .bl false => evOr es env h1
    | .bl true => .ok (.bl true) h1
    | _ => .no
/-- a slice's part -/
def evO : E → Env → LH → Res (Option Int)
  | .noe, _, h => .ok none h
  | .itv e, env, h => (evE e env h).bind fun d h1 => match d with | .int i => .ok (some i) h1 | _ => .no
  | _, _, _ => .no
/-- what a for walks -/
def evI : E → Env → LH → Res (Src × List D)
  | .itv e, env, h => (evE e env h).bind fun d h1 => match seqSrc h1 d with | some p => .ok p h1 | none => .no
  | .rng [a], env, h => (evE a env h).bind fun d h1 => match rangeItems [d] with | some l => .ok ([], l) h1 | none => .no
  | .rng [a, b], env, h => (evE a env h).bind fun d h1 => (evE b env h1).bind fun e h2 => match rangeItems [d, e] with | some l => .ok ([], l) h2 | none => .no
  | .rng [a, b, c], env, h => (evE a env h).bind fun d h1 => (evE b env h1).bind fun e h2 => (evE c env h2).bind fun g h3 => match d, e, g with
    | .int i, .int j, .int z => if z = -1 ∧ -(2 ^ 62) ≤ i ∧ i < 2 ^ 62 ∧ -(2 ^ 62) ≤ j ∧ j < 2 ^ 62 then .ok ([], rangeDown i j) h3 else .no
    | _, _, _ => .no
  | .zip a b, env, h => (evE a env h).bind fun d h1 => (evE b env h1).bind fun e h2 => match seqSrc h2 d, seqSrc h2 e with
    | some p, some q => if (asS h2 d).isSome = true ∧ (asS h2 e).isSome = true then .ok (p.1 ++ q.1, zipD p.2 q.2) h2 else .no
    | _, _ => .no
  | .enm a, env, h => (evE a env h).bind fun d h1 => match seqSrc h1 d with
    | some p => if (asS h1 d).isSome = true then .ok (p.1, enmD p.2) h1 else .no
    | none => .no
  | _, _, _ => .no
/-- a comprehension's test -/
def evC : List E → Env → LH → Res Bool
  | [], _, h => .ok true h
  | e :: _, env, h => (evE e env h).bind fun d h1 => match truthy h1 d with
    | some b => .ok b h1
    | none => .no
end
def evT (c : E) (env : Env) (h : LH) : Res Bool := (evE c env h).bind fun d h1 => match truthy h1 d with
  | some b => .ok b h1
  | none => .no

inductive S where
  | set (i : Nat) (e : E)
  | sat (c f : Str) (o e : E)
  | unp (t : T) (e : E)
  | stx (o i e : E)
  | exp (e : E) | ret (e : E) | retN
  | ifs (c : E) (a b : List S)
  | for_ (t : T) (it : E) (b : List S)
  | whl (c : E) (b : List S)
  | rai (x : Str) | raiA (x f : Str) (e : E)
  | tryA (b : List S) (x : Str) (ei : Nat) (f : Str) (ti : Nat)
  | tryS (xs : List Str) (b : List S) (hs : List (Str × Nat × Const))
  | pas | brk | cnt | bad
inductive RS where
  | nx (env : Env) (h : LH)
  | rt (d : D) (h : LH)
  | bk (env : Env) (h : LH)
  | ct (env : Env) (h : LH)
  | ex (x : Exn) (env : Env) (h : LH)
  | no
/-- an expression within a statement -/
def Res.inS {α : Type} (r : Res α) (env : Env) (f : α → LH → RS) : RS := match r with
  | .ok a h => f a h
  | .ex x h => .ex x env h
  | .no => .no
def RS.seq (r : RS) (f : Env → LH → RS) : RS := match r with
  | .nx env h => f env h
  | r => r
/-- the variable f set -/
def putFD (f : Str) (v : D) : List (Str × D) → List (Str × D)
  | [] => [(f, v)]
  | (g, x) :: r => if g = f then (g, v) :: r else (g, x) :: putFD f v r
/-- o.f = v -/
def setAtt (c f : Str) (o v : D) (h : LH) : Option LH := match o with
  | .loc n => match h[n]? with
    | some (.ins c' fs) => if c' = c ∧ fs.length < 1000 then some (h.set n (.ins c' (putFD f v fs))) else none
    | _ => none
  | _ => none
def setSub (o i v : D) (h : LH) : Option LH := match o, i with
  | .loc n, k => match h[n]? with
    | some (.lst ds) => match k with
      | .int k => match L2.ixN ds.length k with | some j => some (h.set n (.lst (ds.set j v))) | none => none
      | _ => none
    | some (.dct kvs) => if kOk kvs k = true ∧ kvs.length < sizeLine then some (h.set n (.dct (dput kvs k v))) else none
    | _ => none
  | _, _ => none
open Classical in
def forLoop (s : Src) (t : T) (f : Env → LH → RS) : List D → Env → LH → RS
  | [], env, h => if SrcOk s h then .nx env h else .no
  | x :: xs, env, h => if SrcOk s h then match bindT t x env with
    | none => .no
    | some env1 => match f env1 h with
      | .nx e h1 => forLoop s t f xs e h1
      | .ct e h1 => forLoop s t f xs e h1
      | .bk e h1 => .nx e h1
      | r => r
    else .no
def whileLoop (c : Env → LH → Res Bool) (f : Env → LH → RS) : Nat → Env → LH → RS
  | 0, _, _ => .no
  | n + 1, env, h => (c env h).inS env fun b h1 => if b = true then match f env h1 with
      | .nx e h2 => whileLoop c f n e h2
      | .ct e h2 => whileLoop c f n e h2
      | .bk e h2 => .nx e h2
      | r => r
    else .nx env h1
/-- except X as e: t = e.f -/
def handleA (x : Str) (ei : Nat) (f : Str) (ti : Nat) (y : Exn) (env : Env) (h : LH) : RS := if y.cls = x then match y.arg with
  | some (g, d) => if g = f ∧ ti < env.length ∧ ei < env.length ∧ ei ≠ ti then .nx ((env.set ti (some d)).set ei none) h else .no
  | none => .no
  else .no
def handle (xs : List Str) : List (Str × Nat × Const) → Exn → Env → LH → RS
  | [], x, env, h => .ex x env h
  | (y, i, c) :: hs, x, env, h => if x.cls = y then (match cstD c with | some d => if i < env.length then .nx (env.set i (some d)) h else .no | none => .no) else handle xs hs x env h
mutual
def evS (F : Nat) : S → Env → LH → RS
  | .set i e, env, h => (evE e env h).inS env fun d h1 => if i < env.length then .nx (env.set i (some d)) h1 else .no
  | .sat c f o e, env, h => (evE e env h).inS env fun v h1 => (evE o env h1).inS env fun x h2 => match setAtt c f x v h2 with | some h3 => .nx env h3 | none => .no
  | .unp t e, env, h => (evE e env h).inS env fun d h1 => match bindT t d env with | some env' => .nx env' h1 | none => .no
  | .stx o i e, env, h => (evE e env h).inS env fun v h1 => (evE o env h1).inS env fun x h2 => (evE i env h2).inS env fun k h3 => match setSub x k v h3 with | some h4 => .nx env h4 | none => .no
  | .exp e, env, h => (evE e env h).inS env fun _ h1 => .nx env h1
  | .ret e, env, h => (evE e env h).inS env fun d h1 => .rt d h1
  | .retN, _, h => .rt .non h
  | .ifs c a b, env, h => (evT c env h).inS env fun k h1 => if k = true then evSs F a env h1 else evSs F b env h1
  | .for_ t it b, env, h => (evI it env h).inS env fun p h1 => forLoop p.1 t (fun env1 h2 => evSs F b env1 h2) p.2 env h1
  | .whl c b, env, h => whileLoop (fun env1 h1 => evT c env1 h1) (fun env1 h1 => evSs F b env1 h1) F env h
  | .rai x, env, h => .ex ⟨x, none⟩ env h
  | .raiA x f e, env, h => (evE e env h).inS env fun d h1 => .ex ⟨x, some (f, d)⟩ env h1
  | .tryA b x ei f ti, env, h => match evSs F b env h with
    | .ex y env1 h1 => handleA x ei f ti y env1 h1
    | r => r
  | .tryS xs b hs, env, h => match evSs F b env h with
    | .ex x env1 h1 => if xs.contains x.cls then handle xs hs x env1 h1 else .no
    | r => r
  | .pas, env, h => .nx env h
  | .brk, env, h => .bk env h
  | .cnt, env, h => .ct env h
  | .bad, _, _ => .no
def evSs (F : Nat) : List S → Env → LH → RS
  | [], env, h => .nx env h
  | s :: ss, env, h => (evS F s env h).seq fun env1 h1 => evSs F ss env1 h1
end
/-- a def's run -/
def runF (F : Nat) (n : Nat) (b : List S) (args : List D) (h : LH) : Res D := match evSs F b (args.map some ++ List.replicate (n - args.length) none) h with
  | .nx _ h1 => .ok .non h1
  | .rt d h1 => .ok d h1
  | .ex x _ h1 => .ex x h1
  | _ => .no
end Ev
end
namespace Ev
open PySem L2
abbrev Fg := PySem.W.Frag
def FzS (K : Fg) (H : Hp) (a : Addr) (xs : List V) : Prop :=
  (∃ o, H a = some (.frz o (.lst xs))) ∨ ∃ (o : Obj) (its : Array Value) (n : Nat), K.lookup a = some o ∧ o.cls = .type "list" ∧ o.dict = none ∧ o.data = .seq its n ∧ its.size ≤ sizeLine ∧ Vals xs its.toList
theorem FzS.sq {K : Fg} {H : Hp} {a : Addr} {xs : List V} (h : FzS K H a xs) : SqL K H a xs := by
  rcases h with ⟨o, h⟩ | h
  · exact .inl (.inr ⟨o, h⟩)
  · exact .inr h
/-- addresses that are set apart (lists in the making), beside the locations -/
abbrev Ap := Addr → Prop
/-- no location below n stands at a, nor is it set apart -/
def Unr (R : Ap) (n : Nat) (μ : Nat → Addr) (a : Addr) : Prop := ¬ R a ∧ ∀ l, l < n → μ l ≠ a
/-- a lambda of the text: its name in full, parameters, body, scope, what it captures -/
structure LamI where
  qual : Str
  params : Arguments
  body : Expr
  scope : Scope
  fr : List Str
/-- the world, the lambdas by number -/
class Tabs where
  w : World
  lam : Nat → Option LamI
/-- a dict whose keys are tuples: the keys, where they stand, the values -/
def DxO [Tabs] (a : Addr) (xs : List (NestedKey × Addr × V)) : HO := .ext fun h => (a == sysModules) = false ∧ xs.length ≤ sizeLine ∧ ∃ ys : List (NestedKey × Addr × Value),
  Paired (fun (p : NestedKey × Addr × V) (q : NestedKey × Addr × Value) => p.1 = q.1 ∧ p.2.1 = q.2.1 ∧ RelV p.2.2 q.2.2) xs ys ∧
  ∃ o es ep, h.get? a = some o ∧ o.ExactDict ∧ o.data = .dict es ep ∧ es.toList = ys.map (fun q => (⟨q.1.hash Tabs.w, .ref q.2.1, q.2.2⟩ : DictEntry)) ∧ (ys.map (·.1)).Nodup
/-- a lambda's object, a cell's -/
def LmO (f : Addr) (L : LamI) (cl : List (Str × Addr)) (c : Addr) : HO := .ext fun h => ∃ pm ctv, h.get? f = some (PySem.W.kla_obj "<lambda>" L.qual L.params L.body L.scope cl pm c ctv)
def CellO (a : Addr) (o : Obj) : HO := .ext fun h => h.get? a = some o
def keyD : Key → D
  | .inl i => .int i
  | .inr x => .str x
/-- at a stands a dict with the keys ks (the values kws) and the values ws -/
def DRaw [Tabs] (H : Hp) (a : Addr) (ks : List D) (kws ws : List V) : Prop :=
  (∃ kvs : List (Key × V), H a = some (.dK kvs) ∧ ks = kvs.map (fun p => keyD p.1) ∧ kws = kvs.map (fun p => kV p.1) ∧ ws = kvs.map (·.2)) ∨
  ∃ xs : List (NestedKey × Addr × V), xs ≠ [] ∧ H a = some (DxO a xs) ∧ ks.map nk = xs.map (fun x => some x.1) ∧ kws = xs.map (fun x => .ref x.2.1) ∧ ws = xs.map (·.2.2)
def CellsR (R : Ap) (n : Nat) (μ : Nat → Addr) (H : Hp) (cl : List (Str × Addr)) (fr : List Str) (ws : List V) : Prop :=
  fr.length = ws.length ∧ (∀ y a, cl.lookup y = some a → y ∈ fr) ∧ (∀ x y a, cl.lookup x = some a → cl.lookup y = some a → x = y) ∧
  ∀ (j : Nat) (y : Str) (w : V), fr[j]? = some y → ws[j]? = some w → ∃ a o u, cl.lookup y = some a ∧ H a = some (CellO a o) ∧ Unr R n μ a ∧ o.data = .cell (some u) ∧ RelV w u
/-- where the class of a name stands -/
def ClsAt (K : Fg) (c : Str) (C : Addr) : Prop := PySem.W.nsIn K mainGlobals c = some (some (.ref C))
variable [Tabs]
mutual
def Rep (K : Fg) (R : Ap) (n : Nat) (μ : Nat → Addr) (H : Hp) : D → V → Prop
  | .non, v => v = .non
  | .bl b, v => v = .bl b
  | .int i, v => v = .int i
  | .str x, v => v = .str x
  | .tup ds, v => ∃ a xs, v = .ref a ∧ SqT K H a xs ∧ Reps K R n μ H ds xs
  | .lst ds, v => ∃ a xs, v = .ref a ∧ H a = some (.lst xs) ∧ Unr R n μ a ∧ Reps K R n μ H ds xs
  | .loc l, v => l < n ∧ v = .ref (μ l)
  | .scr ns, v => ∃ a, v = .ref a ∧ FzS K H a (ns.map V.int)
  | .dct ks vs, v => ∃ a kws ws, v = .ref a ∧ DRaw H a ks kws ws ∧ Unr R n μ a ∧ Reps K R n μ H ks kws ∧ Reps K R n μ H vs ws
  | .ins c fs ds, v => ∃ a C dx ws, v = .ref a ∧ ClsAt K c C ∧ H a = some (.ins C dx (fs.zip ws)) ∧ fs.length = ws.length ∧ Unr R n μ a ∧ Reps K R n μ H ds ws
  | .clo i cs, v => ∃ f L cl c ws, v = .ref f ∧ Tabs.lam i = some L ∧ H f = some (LmO f L cl c) ∧ Unr R n μ f ∧ H c = some (LamX.CodeO c L.qual) ∧ Unr R n μ c ∧ CellsR R n μ H cl L.fr ws ∧ Reps K R n μ H cs ws
def Reps (K : Fg) (R : Ap) (n : Nat) (μ : Nat → Addr) (H : Hp) : List D → List V → Prop
  | [], xs => xs = []
  | d :: ds, xs => ∃ v vs, xs = v :: vs ∧ Rep K R n μ H d v ∧ Reps K R n μ H ds vs
end
def RepO (K : Fg) (R : Ap) (n : Nat) (μ : Nat → Addr) (H : Hp) (a : Addr) : O → Prop
  | .lst ds => ∃ xs, H a = some (.lst xs) ∧ Reps K R n μ H ds xs
  | .dct kvs => ∃ kws ws, DRaw H a (kvs.map (·.1)) kws ws ∧ Reps K R n μ H (kvs.map (·.1)) kws ∧ Reps K R n μ H (kvs.map (·.2)) ws
  | .ins c fs => ∃ C dx ws, ClsAt K c C ∧ H a = some (.ins C dx ((fs.map (·.1)).zip ws)) ∧ Reps K R n μ H (fs.map (·.2)) ws
structure SimH (K : Fg) (R : Ap) (μ : Nat → Addr) (H : Hp) (h : LH) : Prop where
  sep : ∀ l, l < h.length → ¬ R (μ l)
  apl : ∀ a, R a → ∃ u, H a = some u
  inj : ∀ i j, i < h.length → j < h.length → μ i = μ j → i = j
  obj : ∀ l o, h[l]? = some o → RepO K R h.length μ H (μ l) o
structure Ext (n : Nat) (μ : Nat → Addr) (H : Hp) (n' : Nat) (μ' : Nat → Addr) (H' : Hp) : Prop where
  le : n ≤ n'
  agree : ∀ l, l < n → μ' l = μ l
  keep : ∀ a o, (∀ l, l < n → μ l ≠ a) → H a = some o → H' a = some o
  fresh : ∀ l, n ≤ l → l < n' → H (μ' l) = none
section
variable {K : Fg} {R : Ap} {n n' n1 n2 : Nat} {μ μ' μ1 μ2 : Nat → Addr} {H H' H1 H2 : Hp} {h h' h1 h2 : LH}
theorem DRaw.there {a : Addr} {ks : List D} {kws ws : List V} (d : DRaw H a ks kws ws) : ∃ u, H a = some u := by
  rcases d with ⟨kvs, e, _⟩ | ⟨xs, _, e, _⟩ <;> exact ⟨_, e⟩
theorem DRaw.keep {a : Addr} {ks : List D} {kws ws : List V} (d : DRaw H a ks kws ws) (k : ∀ o, H a = some o → H' a = some o) : DRaw H' a ks kws ws := by
  rcases d with ⟨kvs, e, q⟩ | ⟨xs, n, e, q⟩
  · exact .inl ⟨kvs, k _ e, q⟩
  · exact .inr ⟨xs, n, k _ e, q⟩
/-- a dict is nothing else -/
theorem DRaw.ne {a : Addr} {ks : List D} {kws ws : List V} {u : HO} (d : DRaw H a ks kws ws) (e : H a = some u) : (∃ kvs, u = .dK kvs) ∨ ∃ xs, u = DxO a xs := by
  rcases d with ⟨kvs, q, _⟩ | ⟨xs, _, q, _⟩
  · rw [q] at e; cases e; exact .inl ⟨_, rfl⟩
  · rw [q] at e; cases e; exact .inr ⟨_, rfl⟩
theorem CellsR.keep {R' : Ap} {cl : List (Str × Addr)} {fr : List Str} {ws : List V} (c : CellsR R n μ H cl fr ws) (k : ∀ a o, Unr R n μ a → H a = some o → H' a = some o ∧ Unr R' n' μ' a) : CellsR R' n' μ' H' cl fr ws := by
  obtain ⟨c1, c2, c3, c4⟩ := c
  refine ⟨c1, c2, c3, fun j y w h1 h2 => ?_⟩
  obtain ⟨a, o, u, e1, e2, e3, e4⟩ := c4 j y w h1 h2
  obtain ⟨k1, k2⟩ := k a _ e3 e2
  exact ⟨a, o, u, e1, k1, k2, e4⟩
mutual
/-- what a value's lying leans on stays -/
theorem Rep.gen {R' : Ap} (k : ∀ a o, Unr R n μ a → H a = some o → H' a = some o ∧ Unr R' n' μ' a) (kt : ∀ a xs, SqT K H a xs → SqT K H' a xs) (kf : ∀ a xs, FzS K H a xs → FzS K H' a xs) (kl : ∀ l, l < n → l < n' ∧ μ' l = μ l) : ∀ (d : D) (v : V), Rep K R n μ H d v → Rep K R' n' μ' H' d v
  | .non, _, r => by simpa only [Rep] using r
  | .bl _, _, r => by simpa only [Rep] using r
  | .int _, _, r => by simpa only [Rep] using r
  | .str _, _, r => by simpa only [Rep] using r
  | .tup ds, v, r => by
    simp only [Rep] at r ⊢
    obtain ⟨a, xs, rfl, q, r⟩ := r
    exact ⟨a, xs, rfl, kt _ _ q, Reps.gen k kt kf kl ds xs r⟩
  | .lst ds, v, r => by
    simp only [Rep] at r ⊢
    obtain ⟨a, xs, rfl, q, u, r⟩ := r
    obtain ⟨q', u'⟩ := k _ _ u q
    exact ⟨a, xs, rfl, q', u', Reps.gen k kt kf kl ds xs r⟩
  | .loc l, v, r => by
    simp only [Rep] at r ⊢
    obtain ⟨h1, h2⟩ := kl l r.1
    exact ⟨h1, by rw [h2]; exact r.2⟩
  | .scr ns, v, r => by
    simp only [Rep] at r ⊢
    obtain ⟨a, rfl, q⟩ := r
    exact ⟨a, rfl, kf _ _ q⟩
  | .dct ks vs, v, r => by
    simp only [Rep] at r ⊢
    obtain ⟨a, kws, ws, rfl, q, u, r1, r2⟩ := r
    obtain ⟨o, e⟩ := q.there
    exact ⟨a, kws, ws, rfl, q.keep fun o e => (k _ _ u e).1, (k _ _ u e).2, Reps.gen k kt kf kl ks kws r1, Reps.gen k kt kf kl vs ws r2⟩
  | .ins c fs ds, v, r => by
    simp only [Rep] at r ⊢
    obtain ⟨a, C, dx, ws, rfl, c, q, hl, u, r⟩ := r
    obtain ⟨q', u'⟩ := k _ _ u q
    exact ⟨a, C, dx, ws, rfl, c, q', hl, u', Reps.gen k kt kf kl ds ws r⟩
  | .clo i cs, v, r => by
    simp only [Rep] at r ⊢
    obtain ⟨f, L, cl, c, ws, rfl, hL, q1, u1, q2, u2, cr, r⟩ := r
    obtain ⟨q1', u1'⟩ := k _ _ u1 q1
    obtain ⟨q2', u2'⟩ := k _ _ u2 q2
    exact ⟨f, L, cl, c, ws, rfl, hL, q1', u1', q2', u2', cr.keep k, Reps.gen k kt kf kl cs ws r⟩
theorem Reps.gen {R' : Ap} (k : ∀ a o, Unr R n μ a → H a = some o → H' a = some o ∧ Unr R' n' μ' a) (kt : ∀ a xs, SqT K H a xs → SqT K H' a xs) (kf : ∀ a xs, FzS K H a xs → FzS K H' a xs) (kl : ∀ l, l < n → l < n' ∧ μ' l = μ l) : ∀ (ds : List D) (vs : List V), Reps K R n μ H ds vs → Reps K R' n' μ' H' ds vs
  | [], _, r => by simpa only [Reps] using r
  | d :: ds, vs, r => by
    simp only [Reps] at r ⊢
    obtain ⟨v, ws, rfl, r1, r2⟩ := r
    exact ⟨v, ws, rfl, Rep.gen k kt kf kl d v r1, Reps.gen k kt kf kl ds ws r2⟩
end
theorem RepO.gen {R' : Ap} (k : ∀ a o, Unr R n μ a → H a = some o → H' a = some o ∧ Unr R' n' μ' a) (kt : ∀ a xs, SqT K H a xs → SqT K H' a xs) (kf : ∀ a xs, FzS K H a xs → FzS K H' a xs) (kl : ∀ l, l < n → l < n' ∧ μ' l = μ l) {a : Addr} {o : O} (r : RepO K R n μ H a o) (ha : ∀ u, H a = some u → H' a = some u) : RepO K R' n' μ' H' a o := by
  cases o with
  | lst ds =>
    obtain ⟨xs, q, r⟩ := r
    exact ⟨xs, ha _ q, Reps.gen k kt kf kl _ _ r⟩
  | dct kvs =>
    obtain ⟨kws, ws, q, r1, r2⟩ := r
    exact ⟨kws, ws, q.keep ha, Reps.gen k kt kf kl _ _ r1, Reps.gen k kt kf kl _ _ r2⟩
  | ins c fs =>
    obtain ⟨C, dx, ws, c, q, r⟩ := r
    exact ⟨C, dx, ws, c, ha _ q, Reps.gen k kt kf kl _ _ r⟩
theorem RepO.some {a : Addr} {o : O} (r : RepO K R n μ H a o) : ∃ u, H a = some u := by
  cases o with
  | lst ds => obtain ⟨xs, e, _⟩ := r; exact ⟨_, e⟩
  | dct kvs => obtain ⟨kws, ws, d, _⟩ := r; exact d.there
  | ins c fs => obtain ⟨C, dx, ws, _, e, _⟩ := r; exact ⟨_, e⟩
theorem SimH.live (S : SimH K R μ H h) {l : Nat} (hl : l < h.length) : ∃ o, H (μ l) = some o :=
  (S.obj l _ (List.getElem?_eq_getElem hl)).some
theorem SimH.loc_fresh (S : SimH K R μ H h) {p : Addr} (hp : H p = none) : ∀ l, l < h.length → μ l ≠ p := fun l hl e => by
  obtain ⟨o, q⟩ := S.live hl
  rw [e, hp] at q; cases q
theorem SimH.unr_fresh (S : SimH K R μ H h) {p : Addr} (hp : H p = none) : Unr R h.length μ p :=
  ⟨fun r => (by obtain ⟨xs, q⟩ := S.apl p r; rw [hp] at q; cases q), S.loc_fresh hp⟩
theorem SimH.unr_tup (S : SimH K R μ H h) {p : Addr} {xs : List V} (hp : Rd H p (.tup xs)) : ∀ l, l < h.length → μ l ≠ p := fun l hl e => by
  have r := S.obj l _ (List.getElem?_eq_getElem hl)
  rw [e] at r
  generalize h[l] = o at r
  cases o with
  | lst ds =>
    obtain ⟨ys, q, _⟩ := r
    rcases hp with z | ⟨_, z⟩
    · rw [q] at z; cases z
    · rw [q] at z; cases z
  | dct kvs =>
    obtain ⟨kws, ws, q, _⟩ := r
    rcases hp with z | ⟨_, z⟩ <;> rcases q.ne z with ⟨_, q⟩ | ⟨_, q⟩ <;> cases q
  | ins c fs =>
    obtain ⟨C, dx, ws, _, q, _⟩ := r
    rcases hp with z | ⟨_, z⟩
    · rw [q] at z; cases z
    · rw [q] at z; cases z
theorem SimH.unr_frz (S : SimH K R μ H h) {p : Addr} {o : Obj} {u : HO} (hp : H p = some (.frz o u)) : ∀ l, l < h.length → μ l ≠ p := fun l hl e => by
  have r := S.obj l _ (List.getElem?_eq_getElem hl)
  rw [e] at r
  generalize h[l] = o at r
  cases o with
  | lst ds =>
    obtain ⟨ys, q, _⟩ := r
    rw [q] at hp; cases hp
  | dct kvs =>
    obtain ⟨kws, ws, q, _⟩ := r
    rcases q.ne hp with ⟨_, q⟩ | ⟨_, q⟩ <;> cases q
  | ins c fs =>
    obtain ⟨C, dx, ws, _, q, _⟩ := r
    rw [q] at hp; cases hp
theorem Ext.refl : Ext n μ H n μ H := ⟨Nat.le_refl _, fun _ _ => rfl, fun _ _ _ e => e, fun l h1 h2 => absurd (Nat.lt_of_lt_of_le h2 h1) (Nat.lt_irrefl _)⟩
theorem Ext.loc (e : Ext n μ H n' μ' H') {a : Addr} {o : HO} (ha : H a = some o) (u : ∀ l, l < n → μ l ≠ a) : ∀ l, l < n' → μ' l ≠ a := fun l hl z => by
  by_cases q : l < n
  · rw [e.agree l q] at z; exact u l q z
  · have := e.fresh l (Nat.le_of_not_lt q) hl
    rw [z, ha] at this; cases this
theorem Ext.unr (e : Ext n μ H n' μ' H') {a : Addr} {o : HO} (ha : H a = some o) (u : Unr R n μ a) : Unr R n' μ' a := ⟨u.1, e.loc ha u.2⟩
theorem Ext.trans (a : Ext n μ H h1.length μ1 H1) (S : SimH K R μ1 H1 h1) (b : Ext h1.length μ1 H1 n2 μ2 H2) : Ext n μ H n2 μ2 H2 := by
  refine ⟨Nat.le_trans a.le b.le, fun l hl => (b.agree l (Nat.lt_of_lt_of_le hl a.le)).trans (a.agree l hl), fun c o u e => b.keep c o (a.loc e u) (a.keep c o u e), fun l h3 h4 => ?_⟩
  by_cases q : l < h1.length
  · rw [b.agree l q]; exact a.fresh l h3 q
  · cases e : H (μ2 l) with
    | none => rfl
    | some o =>
      have f := b.fresh l (Nat.le_of_not_lt q) h4
      by_cases u : ∀ l0, l0 < n → μ l0 ≠ μ2 l
      · rw [a.keep _ o u e] at f; cases f
      · exfalso
        apply u
        intro l0 hl0 z
        obtain ⟨o', q'⟩ := S.live (Nat.lt_of_lt_of_le hl0 a.le)
        rw [a.agree l0 hl0, z, f] at q'; cases q'
theorem mono_k {R0 : Ap} (S : SimH K R0 μ H h) (e : Ext h.length μ H n' μ' H') : (∀ a o, Unr R h.length μ a → H a = some o → H' a = some o ∧ Unr R n' μ' a) ∧ (∀ a xs, SqT K H a xs → SqT K H' a xs) ∧ (∀ a xs, FzS K H a xs → FzS K H' a xs) ∧ ∀ l, l < h.length → l < n' ∧ μ' l = μ l := by
  refine ⟨fun a o u q => ⟨e.keep a o u.2 q, e.unr q u⟩, fun a xs q => ?_, fun a xs q => ?_, fun l hl => ⟨Nat.lt_of_lt_of_le hl e.le, e.agree l hl⟩⟩
  · rcases q with q | q
    · have u := S.unr_tup q
      rcases q with q | ⟨o, q⟩
      · exact .inl (.inl (e.keep _ _ u q))
      · exact .inl (.inr ⟨o, e.keep _ _ u q⟩)
    · exact .inr q
  · rcases q with ⟨o, q⟩ | q
    · exact .inl ⟨o, e.keep _ _ (S.unr_frz q) q⟩
    · exact .inr q
theorem Rep.mono {R0 : Ap} (S : SimH K R0 μ H h) (e : Ext h.length μ H n' μ' H') (d : D) (v : V) (r : Rep K R h.length μ H d v) : Rep K R n' μ' H' d v :=
  let ⟨k, kt, kf, kl⟩ := mono_k (R := R) S e
  Rep.gen k kt kf kl d v r
theorem Reps.mono {R0 : Ap} (S : SimH K R0 μ H h) (e : Ext h.length μ H n' μ' H') (ds : List D) (vs : List V) (r : Reps K R h.length μ H ds vs) : Reps K R n' μ' H' ds vs :=
  let ⟨k, kt, kf, kl⟩ := mono_k (R := R) S e
  Reps.gen k kt kf kl ds vs r
theorem Reps.length : ∀ {ds : List D} {vs : List V}, Reps K R n μ H ds vs → ds.length = vs.length
  | [], _, r => by simp only [Reps] at r; subst r; rfl
  | d :: ds, _, r => by
    simp only [Reps] at r
    obtain ⟨v, ws, rfl, _, r2⟩ := r
    simp [Reps.length r2]
theorem Reps.append : ∀ {ds es : List D} {vs ws : List V}, Reps K R n μ H ds vs → Reps K R n μ H es ws → Reps K R n μ H (ds ++ es) (vs ++ ws)
  | [], _, _, _, r, q => by simp only [Reps] at r; subst r; exact q
  | d :: ds, _, _, _, r, q => by
    simp only [Reps] at r
    obtain ⟨v, ws, rfl, r1, r2⟩ := r
    simp only [List.cons_append, Reps]
    exact ⟨v, _, rfl, r1, Reps.append r2 q⟩
theorem Reps.get : ∀ {ds : List D} {vs : List V} {i : Nat} {d : D}, Reps K R n μ H ds vs → ds[i]? = some d → ∃ v, vs[i]? = some v ∧ Rep K R n μ H d v
  | [], _, _, _, _, e => by simp at e
  | d :: ds, _, 0, _, r, e => by
    simp only [Reps] at r
    obtain ⟨v, ws, rfl, r1, r2⟩ := r
    simp at e; subst e
    exact ⟨v, rfl, r1⟩
  | d :: ds, _, i + 1, _, r, e => by
    simp only [Reps] at r
    obtain ⟨v, ws, rfl, r1, r2⟩ := r
    obtain ⟨u, e1, e2⟩ := Reps.get (i := i) r2 (by simpa using e)
    exact ⟨u, by simpa using e1, e2⟩
theorem Reps.get' : ∀ {ds : List D} {vs : List V} {i : Nat} {v : V}, Reps K R n μ H ds vs → vs[i]? = some v → ∃ d, ds[i]? = some d ∧ Rep K R n μ H d v
  | [], _, _, _, r, e => by simp only [Reps] at r; subst r; simp at e
  | d :: ds, _, 0, _, r, e => by
    simp only [Reps] at r
    obtain ⟨v, ws, rfl, r1, r2⟩ := r
    simp at e; subst e
    exact ⟨d, rfl, r1⟩
  | d :: ds, _, i + 1, _, r, e => by
    simp only [Reps] at r
    obtain ⟨v, ws, rfl, r1, r2⟩ := r
    obtain ⟨u, e1, e2⟩ := Reps.get' (i := i) r2 (by simpa using e)
    exact ⟨u, by simpa using e1, e2⟩
theorem Reps.take : ∀ {ds : List D} {vs : List V} (k : Nat), Reps K R n μ H ds vs → Reps K R n μ H (ds.take k) (vs.take k)
  | _, _, 0, _ => by simp [Reps]
  | [], _, k + 1, r => by simp only [Reps] at r; subst r; simp [Reps]
  | d :: ds, _, k + 1, r => by
    simp only [Reps] at r
    obtain ⟨v, ws, rfl, r1, r2⟩ := r
    simp only [List.take_succ_cons, Reps]
    exact ⟨v, _, rfl, r1, Reps.take k r2⟩
theorem Reps.drop : ∀ {ds : List D} {vs : List V} (k : Nat), Reps K R n μ H ds vs → Reps K R n μ H (ds.drop k) (vs.drop k)
  | _, _, 0, r => r
  | [], _, k + 1, r => by simp only [Reps] at r; subst r; simp [Reps]
  | d :: ds, _, k + 1, r => by
    simp only [Reps] at r
    obtain ⟨v, ws, rfl, r1, r2⟩ := r
    simp only [List.drop_succ_cons]
    exact Reps.drop k r2
theorem Reps.dropLast {ds : List D} {vs : List V} (r : Reps K R n μ H ds vs) : Reps K R n μ H ds.dropLast vs.dropLast := by
  rw [List.dropLast_eq_take, List.dropLast_eq_take, r.length]
  exact r.take _
theorem Reps.cut {ds : List D} {vs : List V} (lo hi : Option Int) (r : Reps K R n μ H ds vs) : Reps K R n μ H (cutL ds lo hi) (cutV vs lo hi) := by
  unfold cutL cutV
  rw [r.length]
  exact (r.drop _).take _
theorem Reps.rep1 : ∀ {ds : List D} {vs : List V} (k : Nat), Reps K R n μ H ds vs → Reps K R n μ H (List.replicate k ds).flatten (List.replicate k vs).flatten
  | ds, vs, 0, r => by simp [Reps]
  | ds, vs, k + 1, r => by
    simp only [List.replicate_succ, List.flatten_cons]
    exact Reps.append r (Reps.rep1 k r)

/-- a new untracked-by-location object is laid -/
theorem Ext.laid {p : Addr} {o : HO} (hp : H p = none) : Ext n μ H n μ (upd H p o) := by
  refine ⟨Nat.le_refl _, fun _ _ => rfl, fun a u _ e => ?_, fun l h1 h2 => absurd (Nat.lt_of_lt_of_le h2 h1) (Nat.lt_irrefl _)⟩
  rw [upd_ne (ne_of_none e hp)]
  exact e
theorem RepO.mono {R0 : Ap} (S : SimH K R0 μ H h) (e : Ext h.length μ H n' μ' H') {a : Addr} {o : O} (r : RepO K R h.length μ H a o) (ha : H' a = H a) : RepO K R n' μ' H' a o :=
  let ⟨k, kt, kf, kl⟩ := mono_k (R := R) S e
  r.gen k kt kf kl fun u q => by rw [ha]; exact q
theorem SimH.laid {p : Addr} {o : HO} (S : SimH K R μ H h) (hp : H p = none) : SimH K R μ (upd H p o) h := by
  refine ⟨S.sep, fun a r => ?_, S.inj, fun l u e => ?_⟩
  · obtain ⟨xs, q⟩ := S.apl a r
    exact ⟨xs, by rw [upd_ne (ne_of_none q hp)]; exact q⟩
  have r := S.obj l u e
  refine r.mono S (Ext.laid hp) ?_
  obtain ⟨w, z⟩ := r.some
  exact upd_ne (ne_of_none z hp)
/-- a new location -/
def muN (μ : Nat → Addr) (n : Nat) (p : Addr) : Nat → Addr := fun l => if l = n then p else μ l
theorem muN_lt {p : Addr} {l : Nat} (h : l < n) : muN μ n p l = μ l := if_neg (Nat.ne_of_lt h)
theorem muN_eq {p : Addr} : muN μ n p n = p := if_pos rfl
theorem Ext.newLoc {p : Addr} {o : HO} (hp : H p = none) : Ext n μ H (n + 1) (muN μ n p) (upd H p o) := by
  refine ⟨Nat.le_succ _, fun l hl => muN_lt hl, fun a u _ e => ?_, fun l h1 h2 => ?_⟩
  · rw [upd_ne (ne_of_none e hp)]; exact e
  · have : l = n := by omega
    subst this
    rw [muN_eq]; exact hp
theorem SimH.newLocO {p : Addr} {u : HO} {ob : O} (S : SimH K R μ H h) (hp : H p = none) (new : Ext h.length μ H (h.length + 1) (muN μ h.length p) (upd H p u) → RepO K R (h.length + 1) (muN μ h.length p) (upd H p u) p ob) : SimH K R (muN μ h.length p) (upd H p u) (h ++ [ob]) := by
  have e : Ext h.length μ H (h ++ [ob]).length (muN μ h.length p) (upd H p u) := by
    rw [List.length_append]; exact Ext.newLoc hp
  have live : ∀ l, l < h.length → μ l ≠ p := S.loc_fresh hp
  refine ⟨fun l hl => ?_, fun a r => ?_, fun i j hi hj z => ?_, fun l o q => ?_⟩
  · simp only [List.length_append, List.length_cons, List.length_nil] at hl
    by_cases hl' : l < h.length
    · rw [muN_lt hl']; exact S.sep l hl'
    · have : l = h.length := by omega
      subst this
      rw [muN_eq]; exact (S.unr_fresh hp).1
  · obtain ⟨xs', q⟩ := S.apl a r
    exact ⟨xs', by rw [upd_ne (ne_of_none q hp)]; exact q⟩
  · simp only [List.length_append, List.length_cons, List.length_nil] at hi hj
    by_cases hi' : i < h.length
    · by_cases hj' : j < h.length
      · rw [muN_lt hi', muN_lt hj'] at z; exact S.inj i j hi' hj' z
      · have : j = h.length := by omega
        subst this
        rw [muN_lt hi', muN_eq] at z; exact absurd z (live i hi')
    · have : i = h.length := by omega
      subst this
      by_cases hj' : j < h.length
      · rw [muN_lt hj', muN_eq] at z; exact absurd z.symm (live j hj')
      · omega
  · by_cases hl : l < h.length
    · rw [List.getElem?_append_left hl] at q
      rw [muN_lt hl]
      have r := S.obj l o q
      refine r.mono S e ?_
      exact upd_ne (live l hl)
    · have hl2 : l < (h ++ [ob]).length := (List.getElem?_eq_some_iff.mp q).1
      simp only [List.length_append, List.length_cons, List.length_nil] at hl2
      have : l = h.length := by omega
      subst this
      simp at q
      subst q
      rw [muN_eq]
      rw [List.length_append] at e ⊢
      exact new e
theorem SimH.newLoc {p : Addr} {ds : List D} {xs : List V} (S : SimH K R μ H h) (hp : H p = none) (r : Reps K R h.length μ H ds xs) : SimH K R (muN μ h.length p) (upd H p (.lst xs)) (h ++ [.lst ds]) :=
  S.newLocO hp fun e => ⟨xs, upd_same, Reps.mono S e _ _ r⟩
/-- a location's list is changed -/
theorem Ext.set {l : Nat} {o : HO} (hl : l < n) : Ext n μ H n μ (upd H (μ l) o) := by
  refine ⟨Nat.le_refl _, fun _ _ => rfl, fun a u w e => ?_, fun l h1 h2 => absurd (Nat.lt_of_lt_of_le h2 h1) (Nat.lt_irrefl _)⟩
  rw [upd_ne (fun z => w l hl z.symm)]
  exact e
theorem SimH.set {l : Nat} {ds : List D} {xs : List V} (S : SimH K R μ H h) (hl : l < h.length) (r : Reps K R h.length μ H ds xs) : SimH K R μ (upd H (μ l) (.lst xs)) (h.set l (.lst ds)) := by
  have e : Ext h.length μ H (h.set l (O.lst ds)).length μ (upd H (μ l) (.lst xs)) := by
    rw [List.length_set]; exact Ext.set hl
  refine ⟨fun m hm => S.sep m (by simpa using hm), fun a r => ?_, fun i j hi hj z => S.inj i j (by simpa using hi) (by simpa using hj) z, fun m o q => ?_⟩
  · obtain ⟨xs', q⟩ := S.apl a r
    exact ⟨xs', by rw [upd_ne (fun z => S.sep l hl (by rw [← z]; exact r))]; exact q⟩
  by_cases hm : m = l
  · subst hm
    rw [List.getElem?_set_self hl] at q
    cases q
    exact ⟨xs, upd_same, Reps.mono S e _ _ r⟩
  · rw [List.getElem?_set_ne (Ne.symm hm)] at q
    have r := S.obj m o q
    refine r.mono S e (upd_ne fun z => hm (S.inj m l (List.getElem?_eq_some_iff.mp q).1 hl z))
/-- what stands at a location is changed -/
theorem SimH.put {l : Nat} {u : HO} {o : O} (S : SimH K R μ H h) (hl : l < h.length) (new : Ext h.length μ H h.length μ (upd H (μ l) u) → RepO K R h.length μ (upd H (μ l) u) (μ l) o) : SimH K R μ (upd H (μ l) u) (h.set l o) := by
  have e : Ext h.length μ H (h.set l o).length μ (upd H (μ l) u) := by
    rw [List.length_set]; exact Ext.set hl
  refine ⟨fun m hm => S.sep m (by simpa using hm), fun a r => ?_, fun i j hi hj z => S.inj i j (by simpa using hi) (by simpa using hj) z, fun m o' q => ?_⟩
  · obtain ⟨xs', q⟩ := S.apl a r
    exact ⟨xs', by rw [upd_ne (fun z => S.sep l hl (by rw [← z]; exact r))]; exact q⟩
  by_cases hm : m = l
  · subst hm
    rw [List.getElem?_set_self hl] at q
    cases q
    have := new (by rw [List.length_set] at e; exact e)
    rw [List.length_set]
    exact this
  · rw [List.getElem?_set_ne (Ne.symm hm)] at q
    have r := S.obj m o' q
    refine r.mono S e (upd_ne fun z => hm (S.inj m l (List.getElem?_eq_some_iff.mp q).1 hl z))
theorem up_k {R' : Ap} (hR : ∀ a, R' a → R a ∨ H a = none) : ∀ a o, Unr R n μ a → H a = some o → H a = some o ∧ Unr R' n μ a := fun a o u q => by
  refine ⟨q, fun z => ?_, u.2⟩
  rcases hR a z with z | z
  · exact u.1 z
  · rw [q] at z; cases z
theorem Rep.up {R' : Ap} (hR : ∀ a, R' a → R a ∨ H a = none) (d : D) (v : V) (r : Rep K R n μ H d v) : Rep K R' n μ H d v := Rep.gen (up_k hR) (fun _ _ q => q) (fun _ _ q => q) (fun _ hl => ⟨hl, rfl⟩) d v r
theorem Reps.up {R' : Ap} (hR : ∀ a, R' a → R a ∨ H a = none) (ds : List D) (vs : List V) (r : Reps K R n μ H ds vs) : Reps K R' n μ H ds vs := Reps.gen (up_k hR) (fun _ _ q => q) (fun _ _ q => q) (fun _ hl => ⟨hl, rfl⟩) ds vs r
theorem RepO.up {R' : Ap} (hR : ∀ a, R' a → R a ∨ H a = none) {a : Addr} {o : O} (r : RepO K R n μ H a o) : RepO K R' n μ H a o := r.gen (up_k hR) (fun _ _ q => q) (fun _ _ q => q) (fun _ hl => ⟨hl, rfl⟩) fun _ q => q
/-- fewer addresses set apart -/
theorem SimH.weak {R' : Ap} (hR : ∀ a, R a → R' a) (S : SimH K R' μ H h) : SimH K R μ H h :=
  ⟨fun l hl r => S.sep l hl (hR _ r), fun a r => S.apl a (hR a r), S.inj, fun l o e => (S.obj l o e).up fun a r => .inl (hR a r)⟩
/-- one more, a list that was just laid -/
theorem SimH.apart {p : Addr} {u : HO} (S : SimH K R μ H h) (hp : H p = none) : SimH K (fun a => R a ∨ a = p) μ (upd H p u) h := by
  refine ⟨fun l hl r => ?_, fun a r => ?_, S.inj, fun l o e => ?_⟩
  · rcases r with r | r
    · exact S.sep l hl r
    · exact S.loc_fresh hp l hl r
  · rcases r with r | r
    · exact (S.laid hp).apl a r
    · subst r; exact ⟨u, upd_same⟩
  · have r := (S.obj l o e).up (R' := fun a => R a ∨ a = p) fun a r => by
      rcases r with r | r
      · exact .inl r
      · subst r; exact .inr hp
    refine r.mono S (Ext.laid hp) ?_
    obtain ⟨w, z⟩ := r.some
    exact upd_ne (ne_of_none z hp)
/-- what was set apart becomes a location -/
theorem Ext.newLocR {p : Addr} {o : HO} (e : Ext n μ H n' μ' H') (hp : H p = none) : Ext n μ H (n' + 1) (muN μ' n' p) (upd H' p o) := by
  refine ⟨Nat.le_succ_of_le e.le, fun l hl => by rw [muN_lt (Nat.lt_of_lt_of_le hl e.le)]; exact e.agree l hl, fun a u w q => ?_, fun l h1 h2 => ?_⟩
  · rw [upd_ne (ne_of_none q hp)]; exact e.keep a u w q
  · by_cases hl : l < n'
    · rw [muN_lt hl]; exact e.fresh l h1 hl
    · have : l = n' := by omega
      subst this
      rw [muN_eq]; exact hp
theorem SimH.newLocR {p : Addr} {u0 u : HO} {o : O} (S : SimH K (fun a => R a ∨ a = p) μ H h) (hR : ¬ R p) (hp : H p = some u0)
    (new : (∀ (d : D) (v : V), Rep K (fun a => R a ∨ a = p) h.length μ H d v → Rep K R (h.length + 1) (muN μ h.length p) (upd H p u) d v) → RepO K R (h.length + 1) (muN μ h.length p) (upd H p u) p o) (kt : ∀ a xs, SqT K H a xs → SqT K (upd H p u) a xs) (kf : ∀ a xs, FzS K H a xs → FzS K (upd H p u) a xs) : SimH K R (muN μ h.length p) (upd H p u) (h ++ [o]) := by
  have live : ∀ l, l < h.length → μ l ≠ p := fun l hl z => S.sep l hl (.inr z)
  have k : ∀ a w, Unr (fun a => R a ∨ a = p) h.length μ a → H a = some w → upd H p u a = some w ∧ Unr R (h.length + 1) (muN μ h.length p) a := fun a w ur q => by
    have hne : a ≠ p := fun z => ur.1 (.inr z)
    refine ⟨by rw [upd_ne hne]; exact q, fun z => ur.1 (.inl z), fun l hl => ?_⟩
    by_cases hl' : l < h.length
    · rw [muN_lt hl']; exact ur.2 l hl'
    · have : l = h.length := by omega
      subst this
      rw [muN_eq]; exact hne.symm
  have kl : ∀ l, l < h.length → l < h.length + 1 ∧ muN μ h.length p l = μ l := fun l hl => ⟨Nat.lt_succ_of_lt hl, muN_lt hl⟩
  refine ⟨fun l hl => ?_, fun a r => ?_, fun i j hi hj z => ?_, fun l o' q => ?_⟩
  · simp only [List.length_append, List.length_cons, List.length_nil] at hl
    by_cases hl' : l < h.length
    · rw [muN_lt hl']; exact fun z => S.sep l hl' (.inl z)
    · have : l = h.length := by omega
      subst this
      rw [muN_eq]; exact hR
  · obtain ⟨w, q⟩ := S.apl a (.inl r)
    exact ⟨w, by rw [upd_ne (fun z => hR (by rw [← z]; exact r))]; exact q⟩
  · simp only [List.length_append, List.length_cons, List.length_nil] at hi hj
    by_cases hi' : i < h.length
    · by_cases hj' : j < h.length
      · rw [muN_lt hi', muN_lt hj'] at z; exact S.inj i j hi' hj' z
      · have : j = h.length := by omega
        subst this
        rw [muN_lt hi', muN_eq] at z; exact absurd z (live i hi')
    · have : i = h.length := by omega
      subst this
      by_cases hj' : j < h.length
      · rw [muN_lt hj', muN_eq] at z; exact absurd z.symm (live j hj')
      · omega
  · rw [List.length_append]
    by_cases hl : l < h.length
    · rw [List.getElem?_append_left hl] at q
      rw [muN_lt hl]
      exact (S.obj l o' q).gen k kt kf kl fun w z => by rw [upd_ne (live l hl)]; exact z
    · have hl2 : l < (h ++ [o]).length := (List.getElem?_eq_some_iff.mp q).1
      simp only [List.length_append, List.length_cons, List.length_nil] at hl2
      have : l = h.length := by omega
      subst this
      simp at q
      subst q
      rw [muN_eq]
      exact new fun d v r => Rep.gen k kt kf kl d v r
theorem grow_k {p : Addr} {xs ys : List V} (hp : H p = some (.lst xs)) (hR : R p) : (∀ a o, Unr R n μ a → H a = some o → upd H p (.lst ys) a = some o ∧ Unr R n μ a) ∧ (∀ a xs, SqT K H a xs → SqT K (upd H p (.lst ys)) a xs) ∧ (∀ a xs, FzS K H a xs → FzS K (upd H p (.lst ys)) a xs) := by
  refine ⟨fun a o u q => ⟨by rw [upd_ne (fun z => u.1 (by rw [z]; exact hR))]; exact q, u⟩, fun a xs q => ?_, fun a xs q => ?_⟩
  · rcases q with (q | ⟨o, q⟩) | q
    · exact .inl (.inl (by rw [upd_ne (fun z => by rw [z, hp] at q; cases q)]; exact q))
    · exact .inl (.inr ⟨o, by rw [upd_ne (fun z => by rw [z, hp] at q; cases q)]; exact q⟩)
    · exact .inr q
  · rcases q with ⟨o, q⟩ | q
    · exact .inl ⟨o, by rw [upd_ne (fun z => by rw [z, hp] at q; cases q)]; exact q⟩
    · exact .inr q
/-- a list that is set apart grows -/
theorem Rep.grow {p : Addr} {xs ys : List V} (hp : H p = some (.lst xs)) (hR : R p) (d : D) (v : V) (r : Rep K R n μ H d v) : Rep K R n μ (upd H p (.lst ys)) d v :=
  let ⟨k, kt, kf⟩ := grow_k (K := K) (n := n) (μ := μ) (ys := ys) hp hR
  Rep.gen k kt kf (fun _ hl => ⟨hl, rfl⟩) d v r
theorem Reps.grow {p : Addr} {xs ys : List V} (hp : H p = some (.lst xs)) (hR : R p) (ds : List D) (vs : List V) (r : Reps K R n μ H ds vs) : Reps K R n μ (upd H p (.lst ys)) ds vs :=
  let ⟨k, kt, kf⟩ := grow_k (K := K) (n := n) (μ := μ) (ys := ys) hp hR
  Reps.gen k kt kf (fun _ hl => ⟨hl, rfl⟩) ds vs r
theorem SimH.grow {p : Addr} {xs ys : List V} (S : SimH K R μ H h) (hp : H p = some (.lst xs)) (hR : R p) : SimH K R μ (upd H p (.lst ys)) h := by
  refine ⟨S.sep, fun a r => ?_, S.inj, fun l o e => ?_⟩
  · by_cases ha : a = p
    · subst ha; exact ⟨_, upd_same⟩
    · rw [upd_ne ha]; exact S.apl a r
  · have r := S.obj l o e
    have hl := (List.getElem?_eq_some_iff.mp e).1
    obtain ⟨k, kt, kf⟩ := grow_k (K := K) (n := h.length) (μ := μ) (ys := ys) hp hR
    exact r.gen k kt kf (fun _ hl => ⟨hl, rfl⟩) fun u q => by rw [upd_ne (fun z => S.sep l hl (by rw [z]; exact hR))]; exact q
theorem Ext.grow {p : Addr} {o : HO} (e : Ext n μ H n' μ' H') (hp : H p = none) : Ext n μ H n' μ' (upd H' p o) := by
  refine ⟨e.le, e.agree, fun a u l q => ?_, e.fresh⟩
  rw [upd_ne (ne_of_none q hp)]
  exact e.keep a u l q
end
end Ev
namespace Ev
open PySem L2
variable [Tabs]
mutual
theorem nk_inj : ∀ {a b : D} {k : NestedKey}, nk a = some k → nk b = some k → a = b
  | .non, b, k, h1, h2 => by
    simp only [nk] at h1; cases h1
    cases b <;> simp only [nk] at h2 <;> first | rfl | (cases h2; done) | skip
    split at h2 <;> cases h2
  | .int i, b, k, h1, h2 => by
    simp only [nk] at h1; cases h1
    cases b <;> simp only [nk] at h2 <;> first | (cases h2; rfl) | (cases h2; done) | skip
    split at h2 <;> cases h2
  | .str x, b, k, h1, h2 => by
    simp only [nk] at h1; cases h1
    cases b <;> simp only [nk] at h2 <;> first | (cases h2; rfl) | (cases h2; done) | skip
    split at h2 <;> cases h2
  | .tup ds, b, k, h1, h2 => by
    simp only [nk] at h1
    split at h1
    · rename_i l q
      cases h1
      cases b <;> simp only [nk] at h2 <;> try (cases h2; done)
      split at h2
      · rename_i l' q'
        cases h2
        rw [nks_inj q q']
      · cases h2
    · cases h1
  | .bl _, _, _, h1, _ => by simp [nk] at h1
  | .lst _, _, _, h1, _ => by simp [nk] at h1
  | .loc _, _, _, h1, _ => by simp [nk] at h1
  | .scr _, _, _, h1, _ => by simp [nk] at h1
  | .dct _ _, _, _, h1, _ => by simp [nk] at h1
  | .ins _ _ _, _, _, h1, _ => by simp [nk] at h1
  | .clo _ _, _, _, h1, _ => by simp [nk] at h1
theorem nks_inj : ∀ {a b : List D} {k : List NestedKey}, nks a = some k → nks b = some k → a = b
  | [], [], _, _, _ => rfl
  | [], d :: ds, k, h1, h2 => by
    simp only [nks] at h1; cases h1
    simp only [nks] at h2
    split at h2 <;> cases h2
  | d :: ds, [], k, h1, h2 => by
    simp only [nks] at h2; cases h2
    simp only [nks] at h1
    split at h1 <;> cases h1
  | d :: ds, e :: es, k, h1, h2 => by
    simp only [nks] at h1 h2
    split at h1
    · rename_i x l q1 q2
      cases h1
      split at h2
      · rename_i x' l' q1' q2'
        cases h2
        rw [nk_inj q1 q1', nks_inj q2 q2']
      · cases h2
    · cases h1
end
theorem keyT_nk {d : D} (h : keyT d = true) : ∃ ds k, d = .tup ds ∧ nk d = some k ∧ k.depth ≤ 8 := by
  cases d <;> simp only [keyT] at h <;> try (cases h; done)
  split at h
  · rename_i l q
    exact ⟨_, .tup l, rfl, by simp only [nk, q], of_decide_eq_true h⟩
  · cases h
theorem keyD_inj {a b : Key} (h : keyD a = keyD b) : a = b := by
  cases a <;> cases b <;> simp only [keyD] at h <;> cases h <;> rfl
theorem keyD_B (k : Key) : keyB (keyD k) = true := by cases k <;> rfl
theorem keyD_T (k : Key) : keyT (keyD k) = false := by cases k <;> rfl
theorem keyB_of {d : D} (h : keyB d = true) : ∃ k, d = keyD k := by
  cases d <;> simp only [keyB] at h <;> try (cases h; done)
  · exact ⟨.inl _, rfl⟩
  · exact ⟨.inr _, rfl⟩
open Classical in
theorem dget_nil {k : D} : dget [] k = none := rfl
open Classical in
theorem dget_cons {p : D × D} {r : List (D × D)} {k : D} : dget (p :: r) k = if p.1 = k then some p.2 else dget r k := by
  unfold dget
  rw [List.find?_cons]
  by_cases h : p.1 = k <;> simp [h]
open Classical in
theorem dget_some_any {kvs : List (D × D)} {k : D} : (kvs.any fun p => decide (p.1 = k)) = (dget kvs k).isSome := by
  induction kvs with
  | nil => rfl
  | cons p r ih =>
    rw [List.any_cons, dget_cons, ih]
    by_cases h : p.1 = k <;> simp [h]
section
variable {K : Fg} {R : Ap} {n : Nat} {μ : Nat → Addr} {H H' : Hp} {h : LH} {P : Program} {w : World}
theorem rep_int {i : Int} {v : V} : Rep K R n μ H (.int i) v ↔ v = .int i := by simp only [Rep]
theorem rep_strV {i : Str} {v : V} : Rep K R n μ H (.str i) v ↔ v = .str i := by simp only [Rep]
theorem rep_keyD {k : Key} {v : V} (r : Rep K R n μ H (keyD k) v) : v = kV k := by
  cases k with
  | inl i => exact rep_int.mp r
  | inr x => exact rep_strV.mp r
theorem repv_keyD (k : Key) : Rep K R n μ H (keyD k) (kV k) := by
  cases k with
  | inl i => exact rep_int.mpr rfl
  | inr x => exact rep_strV.mpr rfl
mutual
theorem nested_of {hp : Heap} (X : K.In hp) (ok : HOk P w H hp) : ∀ (d : D) (k : NestedKey) (v : V) (u : Value), nk d = some k → Rep K R n μ H d v → RelV v u → NestedIs hp k u
  | .non, k, v, u, e, r, rv => by
    simp only [nk] at e; cases e
    simp only [Rep] at r; subst r
    cases (show u = Value.none from rv)
    exact .none
  | .int i, k, v, u, e, r, rv => by
    simp only [nk] at e; cases e
    simp only [Rep] at r; subst r
    obtain ⟨t, rfl⟩ := rv
    exact .int _ _
  | .str x, k, v, u, e, r, rv => by
    simp only [nk] at e; cases e
    simp only [Rep] at r; subst r
    obtain ⟨t, rfl⟩ := rv
    exact .text _ _
  | .tup ds, k, v, u, e, r, rv => by
    simp only [nk] at e
    split at e
    · rename_i l q
      cases e
      simp only [Rep] at r
      obtain ⟨a, xs, rfl, sq, r⟩ := r
      cases (show u = Value.ref a from rv)
      rcases sq with sq | ⟨o, its, m, q1, q2, q3, _, rl⟩
      · obtain ⟨_, its, rl, o, q1, q2, m, q3⟩ := sq.ok ok
        exact .tup q1 q2 q3 (nested_all X ok ds l xs its q r rl)
      · exact .tup (X _ _ q1) q2 q3 (nested_all X ok ds l xs its.toList q r rl)
    · cases e
  | .bl _, _, _, _, e, _, _ => by simp [nk] at e
  | .lst _, _, _, _, e, _, _ => by simp [nk] at e
  | .loc _, _, _, _, e, _, _ => by simp [nk] at e
  | .scr _, _, _, _, e, _, _ => by simp [nk] at e
  | .dct _ _, _, _, _, e, _, _ => by simp [nk] at e
  | .ins _ _ _, _, _, _, e, _, _ => by simp [nk] at e
  | .clo _ _, _, _, _, e, _, _ => by simp [nk] at e
theorem nested_all {hp : Heap} (X : K.In hp) (ok : HOk P w H hp) : ∀ (ds : List D) (ks : List NestedKey) (vs : List V) (us : List Value), nks ds = some ks → Reps K R n μ H ds vs → Vals vs us → NestedAll hp ks us
  | [], ks, vs, us, e, r, rv => by
    simp only [nks] at e; cases e
    simp only [Reps] at r; subst r
    cases rv
    exact .nil
  | d :: ds, ks, vs, us, e, r, rv => by
    simp only [nks] at e
    split at e
    · rename_i x l q1 q2
      cases e
      simp only [Reps] at r
      obtain ⟨v, ws, rfl, r1, r2⟩ := r
      cases rv with
      | cons a b => exact .cons (nested_of X ok d x v _ q1 r1 a) (nested_all X ok ds l ws _ q2 r2 b)
    · cases e
end
def DV (K : Fg) (R : Ap) (n : Nat) (μ : Nat → Addr) (H : Hp) (a : Addr) (kvs : List (D × D)) : Prop := ∃ kws ws, DRaw H a (kvs.map (·.1)) kws ws ∧ Reps K R n μ H (kvs.map (·.1)) kws ∧ Reps K R n μ H (kvs.map (·.2)) ws
theorem reps_len : ∀ {ds : List D} {vs : List V}, Reps K R n μ H ds vs → ds.length = vs.length := Reps.length
theorem asD_of {d : D} {kvs : List (D × D)} {v : V} (S : SimH K R μ H h) (r : Rep K R h.length μ H d v) (e : asD h d = some kvs) : ∃ a, v = .ref a ∧ DV K R h.length μ H a kvs := by
  cases d with
  | dct ks vs =>
    simp only [asD] at e; cases e
    simp only [Rep] at r
    obtain ⟨a, kws, ws, rfl, d, _, r1, r2⟩ := r
    have l1 := r1.length
    have l2 := r2.length
    have l3 : kws.length = ws.length := by
      rcases d with ⟨x, _, _, e1, e2⟩ | ⟨x, _, _, _, e1, e2⟩ <;> rw [e1, e2] <;> simp
    have e1 : (ks.zip vs).map (·.1) = ks := List.map_fst_zip (by omega)
    have e2 : (ks.zip vs).map (·.2) = vs := List.map_snd_zip (by omega)
    exact ⟨a, rfl, kws, ws, by rw [e1]; exact d, by rw [e1]; exact r1, by rw [e2]; exact r2⟩
  | loc l =>
    simp only [Rep] at r
    obtain ⟨hl, rfl⟩ := r
    simp only [asD] at e
    split at e
    · rename_i q
      cases e
      exact ⟨_, rfl, S.obj l _ q⟩
    · cases e
  | _ => simp [asD] at e
theorem dv_B {a : Addr} {kvs : List (D × D)} (dv : DV K R n μ H a kvs) (hb : (kvs.all fun p => keyB p.1) = true) : ∃ kk : List (Key × V), H a = some (.dK kk) ∧ kvs.map (·.1) = kk.map (fun p => keyD p.1) ∧ Reps K R n μ H (kvs.map (·.2)) (kk.map (·.2)) := by
  obtain ⟨kws, ws, d, r1, r2⟩ := dv
  rcases d with ⟨kk, e, e1, e2, e3⟩ | ⟨xs, hne, e, e1, e2, e3⟩
  · exact ⟨kk, e, e1, by rw [← e3]; exact r2⟩
  · exfalso
    cases xs with
    | nil => exact hne rfl
    | cons x xs =>
      cases kvs with
      | nil => simp at e1
      | cons p kvs =>
        simp only [List.all_cons, Bool.and_eq_true] at hb
        obtain ⟨k, hk⟩ := keyB_of hb.1
        subst e2
        simp only [List.map_cons, Reps, List.cons.injEq] at r1
        obtain ⟨v, vs, ⟨e5, _⟩, r, _⟩ := r1
        rw [hk] at r
        have := rep_keyD r
        rw [← e5] at this
        cases k <;> cases this
theorem dv_T {a : Addr} {kvs : List (D × D)} (dv : DV K R n μ H a kvs) (hb : (kvs.all fun p => keyT p.1) = true) : ∃ xs : List (NestedKey × Addr × V), (H a = some (DxO a xs) ∨ (xs = [] ∧ H a = some (.dK []))) ∧ (kvs.map (·.1)).map nk = xs.map (fun x => some x.1) ∧ Reps K R n μ H (kvs.map (·.1)) (xs.map fun x => .ref x.2.1) ∧ Reps K R n μ H (kvs.map (·.2)) (xs.map (·.2.2)) := by
  obtain ⟨kws, ws, d, r1, r2⟩ := dv
  rcases d with ⟨kk, e, e1, e2, e3⟩ | ⟨xs, hne, e, e1, e2, e3⟩
  · cases kvs with
    | nil =>
      cases kk with
      | nil => exact ⟨[], .inr ⟨rfl, e⟩, rfl, by simp [Reps], by simp [Reps]⟩
      | cons _ _ => simp at e1
    | cons p kvs =>
      exfalso
      cases kk with
      | nil => simp at e1
      | cons q kk =>
        simp only [List.map_cons, List.cons.injEq] at e1
        simp only [List.all_cons, Bool.and_eq_true] at hb
        rw [e1.1, keyD_T] at hb
        cases hb.1
  · exact ⟨xs, .inl e, e1, by rw [← e2]; exact r1, by rw [← e3]; exact r2⟩
theorem empty_heap {a : Addr} {P : Program} {w : World} {hp : Heap} {knd : HeapKind P w NestedKey} (h : hp.DictOf (mixKind P w) a []) : hp.DictOfH knd a [] := by
  obtain ⟨o, es, ep, h1, h2, h3, _, h5, _⟩ := h
  have : es.toList = [] := by
    generalize es.toList = l at h5
    cases h5
    rfl
  exact ⟨o, es, ep, h1, h2, h3, this, (fun _ hx => nomatch hx), List.nodup_nil⟩
/-- the keys as the model's dict has them -/
abbrev PX : (NestedKey × Addr × V) → (NestedKey × Addr × Value) → Prop := fun p q => p.1 = q.1 ∧ p.2.1 = q.2.1 ∧ RelV p.2.2 q.2.2
theorem is_all {hp : Heap} (X : K.In hp) (ok : HOk P w H hp) : ∀ {kvs : List (D × D)} {xs : List (NestedKey × Addr × V)} {ys : List (NestedKey × Addr × Value)}, (kvs.all fun p => keyT p.1) = true → (kvs.map (·.1)).map nk = xs.map (fun x => some x.1) → Reps K R n μ H (kvs.map (·.1)) (xs.map fun x => .ref x.2.1) → Paired PX xs ys → ∀ y ∈ ys, (nestedKind P w).is hp y.1 y.2.1
  | _, [], _, _, _, _, .nil => fun y hy => nomatch hy
  | [], x :: xs, _, _, e, _, _ => by simp at e
  | p :: kvs, x :: xs, _, ha, e, r, .cons (b := y0) q t => fun y hy => by
    simp only [List.all_cons, Bool.and_eq_true] at ha
    simp only [List.map_cons, List.cons.injEq] at e
    simp only [List.map_cons, Reps, List.cons.injEq] at r
    obtain ⟨v, vs, ⟨rfl, rfl⟩, r1, r2⟩ := r
    rcases List.mem_cons.mp hy with rfl | hy
    · obtain ⟨ds, k, _, hk, hd⟩ := keyT_nk ha.1
      have e1 : some k = some x.1 := hk.symm.trans e.1
      cases e1
      obtain ⟨q1, q2, _⟩ := q
      refine ⟨?_, by rw [← q1]; exact hd⟩
      rw [← q1]
      exact nested_of X ok p.1 x.1 _ _ e.1 r1 (by rw [← q2]; rfl)
    · exact is_all X ok ha.2 e.2 r2 t y hy
theorem dx_heap {hp : Heap} {a : Addr} {kvs : List (D × D)} {xs : List (NestedKey × Addr × V)} (X : K.In hp) (ok : HOk P w H hp) (hw : Tabs.w = w) (e : H a = some (DxO a xs) ∨ (xs = [] ∧ H a = some (.dK []))) (ha : (kvs.all fun p => keyT p.1) = true) (e1 : (kvs.map (·.1)).map nk = xs.map (fun x => some x.1))
    (r : Reps K R n μ H (kvs.map (·.1)) (xs.map fun x => .ref x.2.1)) : (a == sysModules) = false ∧ xs.length ≤ sizeLine ∧ ∃ ys, Paired PX xs ys ∧ hp.DictOfH (nestedKind P w) a ys := by
  rcases e with e | ⟨rfl, e⟩
  · obtain ⟨⟨hd, hl, ys, pr, o, es, ep, h1, h2, h3, h4, h5⟩, _, _⟩ := ok a _ e
    refine ⟨hd, hl, ys, pr, o, es, ep, h1, h2, h3, ?_, is_all X ok ha e1 r pr, h5⟩
    rw [h4, hw]
    rfl
  · obtain ⟨_, hd, vs, rel, dd⟩ := dk_of ok e
    cases rel
    exact ⟨hd, Nat.zero_le _, [], .nil, empty_heap dd⟩
open Classical in
theorem valV_dget {k : Key} : ∀ {kvs : List (D × D)} {kk : List (Key × V)}, kvs.map (·.1) = kk.map (fun p => keyD p.1) → Reps K R n μ H (kvs.map (·.2)) (kk.map (·.2)) → (dget kvs (keyD k) = none ∧ valV kk k = none) ∨ ∃ d v, dget kvs (keyD k) = some d ∧ valV kk k = some v ∧ Rep K R n μ H d v
  | [], [], _, _ => .inl ⟨rfl, rfl⟩
  | [], _ :: _, e, _ => by simp at e
  | _ :: _, [], e, _ => by simp at e
  | p :: kvs, q :: kk, e, r => by
    simp only [List.map_cons, List.cons.injEq] at e
    simp only [List.map_cons, Reps, List.cons.injEq] at r
    obtain ⟨v, vs, ⟨rfl, rfl⟩, r1, r2⟩ := r
    rw [dget_cons]
    by_cases h : q.1 = k
    · rw [if_pos (by rw [e.1, h]), valV_pos h]
      exact .inr ⟨_, _, rfl, rfl, r1⟩
    · rw [if_neg (by rw [e.1]; exact fun z => h (keyD_inj z)), valV_neg h]
      exact valV_dget e.2 r2
open Classical in
theorem atKey_dget {k : D} {kk : NestedKey} (hk : nk k = some kk) : ∀ {kvs : List (D × D)} {xs : List (NestedKey × Addr × V)} {ys : List (NestedKey × Addr × Value)}, (kvs.map (·.1)).map nk = xs.map (fun x => some x.1) → Reps K R n μ H (kvs.map (·.2)) (xs.map (·.2.2)) → Paired PX xs ys → (dget kvs k = none ∧ atKey ys kk = none) ∨ ∃ d v b u, dget kvs k = some d ∧ atKey ys kk = some (b, u) ∧ Rep K R n μ H d v ∧ RelV v u
  | [], [], _, _, _, .nil => .inl ⟨rfl, rfl⟩
  | [], _ :: _, _, e, _, _ => by simp at e
  | _ :: _, [], _, e, _, _ => by simp at e
  | p :: kvs, x :: xs, _, e, r, .cons (b := y) (l₂ := zs) q t => by
    simp only [List.map_cons, List.cons.injEq] at e
    simp only [List.map_cons, Reps, List.cons.injEq] at r
    obtain ⟨v, vs, ⟨rfl, rfl⟩, r1, r2⟩ := r
    obtain ⟨q1, q2, q3⟩ := q
    rw [dget_cons]
    by_cases h : y.1 = kk
    · have hp : p.1 = k := nk_inj (e.1.trans (by rw [q1, h])) hk
      rw [if_pos hp]
      refine .inr ⟨_, _, y.2.1, y.2.2, rfl, ?_, r1, q3⟩
      simp [atKey, List.find?_cons, h]
    · have hp : ¬ p.1 = k := fun z => by
        rw [z] at e
        have := hk.symm.trans e.1
        rw [q1] at this
        exact h (Option.some.inj this).symm
      rw [if_neg hp]
      have ih := atKey_dget hk e.2 r2 t
      have e3 : atKey (y :: zs) kk = atKey zs kk := by simp only [atKey, List.find?_cons, h, decide_false]
      rw [e3]
      exact ih
open Classical in
theorem putK_dput {k : Key} {d : D} {v : V} (rv : Rep K R n μ H d v) : ∀ {kvs : List (D × D)} {kk : List (Key × V)}, kvs.map (·.1) = kk.map (fun p => keyD p.1) → Reps K R n μ H (kvs.map (·.2)) (kk.map (·.2)) → (dput kvs (keyD k) d).map (·.1) = (putK kk k v).map (fun p => keyD p.1) ∧ Reps K R n μ H ((dput kvs (keyD k) d).map (·.2)) ((putK kk k v).map (·.2)) := by
  intro kvs kk e r
  have any : (kvs.any fun p => decide (p.1 = keyD k)) = kk.any fun p => decide (p.1 = k) := by
    rw [dget_some_any, valV_any]
    rcases valV_dget (k := k) e r with ⟨e1, e2⟩ | ⟨_, _, e1, e2, _⟩ <;> rw [e1, e2] <;> rfl
  have upd1 : ∀ {kvs : List (D × D)} {kk : List (Key × V)}, kvs.map (·.1) = kk.map (fun p => keyD p.1) → Reps K R n μ H (kvs.map (·.2)) (kk.map (·.2)) → (kvs.map fun p => if p.1 = keyD k then (p.1, d) else p).map (·.1) = (kk.map fun p => if p.1 = k then (p.1, v) else p).map (fun p => keyD p.1) ∧ Reps K R n μ H ((kvs.map fun p => if p.1 = keyD k then (p.1, d) else p).map (·.2)) ((kk.map fun p => if p.1 = k then (p.1, v) else p).map (·.2)) := by
    intro kvs
    induction kvs with
    | nil => intro kk e r; cases kk with
      | nil => exact ⟨rfl, by simp [Reps]⟩
      | cons _ _ => simp at e
    | cons p kvs ih =>
      intro kk e r
      cases kk with
      | nil => simp at e
      | cons q kk =>
        simp only [List.map_cons, List.cons.injEq] at e
        simp only [List.map_cons, Reps, List.cons.injEq] at r
        obtain ⟨v', vs, ⟨rfl, rfl⟩, r1, r2⟩ := r
        obtain ⟨i1, i2⟩ := ih e.2 r2
        simp only [List.map_cons, Reps, List.cons.injEq]
        by_cases h : q.1 = k
        · have hp : p.1 = keyD k := by rw [e.1, h]
          rw [if_pos h, if_pos hp]
          exact ⟨⟨by rw [hp, h], i1⟩, _, _, ⟨rfl, rfl⟩, rv, i2⟩
        · have hp : ¬ p.1 = keyD k := by rw [e.1]; exact fun z => h (keyD_inj z)
          rw [if_neg h, if_neg hp]
          exact ⟨⟨e.1, i1⟩, _, _, ⟨rfl, rfl⟩, r1, i2⟩
  unfold dput putK
  rw [any]
  by_cases h : (kk.any fun p => decide (p.1 = k)) = true
  · rw [if_pos h, if_pos h]
    exact upd1 e r
  · rw [if_neg h, if_neg h]
    simp only [List.map_append, List.map_cons, List.map_nil]
    refine ⟨by rw [e], r.append ?_⟩
    simp only [Reps]
    exact ⟨_, _, rfl, rv, rfl⟩
open Classical in
theorem dropK_ddel {k : Key} : ∀ {kvs : List (D × D)} {kk : List (Key × V)}, kvs.map (·.1) = kk.map (fun p => keyD p.1) → Reps K R n μ H (kvs.map (·.2)) (kk.map (·.2)) → (ddel kvs (keyD k)).map (·.1) = (dropK kk k).map (fun p => keyD p.1) ∧ Reps K R n μ H ((ddel kvs (keyD k)).map (·.2)) ((dropK kk k).map (·.2))
  | [], [], _, _ => ⟨rfl, by simp [ddel, dropK, Reps]⟩
  | [], _ :: _, e, _ => by simp at e
  | _ :: _, [], e, _ => by simp at e
  | p :: kvs, q :: kk, e, r => by
    simp only [List.map_cons, List.cons.injEq] at e
    simp only [List.map_cons, Reps, List.cons.injEq] at r
    obtain ⟨v, vs, ⟨rfl, rfl⟩, r1, r2⟩ := r
    obtain ⟨i1, i2⟩ := dropK_ddel (k := k) e.2 r2
    unfold ddel dropK at i1 i2 ⊢
    by_cases h : q.1 = k
    · rw [List.filter_cons_of_neg (by rw [e.1, h]; simp), List.filter_cons_of_neg (by simp [h])]
      exact ⟨i1, i2⟩
    · rw [List.filter_cons_of_pos (by rw [e.1]; simpa using fun z => h (keyD_inj z)), List.filter_cons_of_pos (by simpa using h)]
      simp only [List.map_cons, Reps, List.cons.injEq]
      exact ⟨⟨e.1, i1⟩, _, _, ⟨rfl, rfl⟩, r1, i2⟩
theorem reps_keys : ∀ l : List (Key × V), Reps K R n μ H (l.map fun p => keyD p.1) (l.map fun p => kV p.1)
  | [] => by simp [Reps]
  | q :: l => by
    simp only [List.map_cons, Reps]
    exact ⟨_, _, rfl, repv_keyD _, reps_keys l⟩
def putN (xs : List (NestedKey × Addr × V)) (k : NestedKey) (b : Addr) (v : V) : List (NestedKey × Addr × V) := if (xs.any fun x => decide (x.1 = k)) = true then xs.map fun x => if x.1 = k then (x.1, x.2.1, v) else x else xs ++ [(k, b, v)]
theorem any_atKey (k : NestedKey) : ∀ {xs : List (NestedKey × Addr × V)} {ys : List (NestedKey × Addr × Value)}, Paired PX xs ys → (xs.any fun x => decide (x.1 = k)) = (atKey ys k).isSome
  | _, _, .nil => rfl
  | _, _, .cons (a := x) (b := y) q t => by
    rw [List.any_cons, any_atKey k t, q.1]
    by_cases h : y.1 = k <;> simp [atKey, List.find?_cons, h]
theorem putN_pair {k : NestedKey} {b : Addr} {v : V} {u : Value} (rv : RelV v u) : ∀ {xs : List (NestedKey × Addr × V)} {ys : List (NestedKey × Addr × Value)}, Paired PX xs ys → Paired PX (putN xs k b v) (storedH ys k b u) := by
  intro xs ys t
  have upd1 : ∀ {xs : List (NestedKey × Addr × V)} {ys : List (NestedKey × Addr × Value)}, Paired PX xs ys → Paired PX (xs.map fun x => if x.1 = k then (x.1, x.2.1, v) else x) (ys.map (putAt k u)) := by
    intro xs ys t
    induction t with
    | nil => exact .nil
    | @cons x y xs ys q t ih =>
      simp only [List.map_cons]
      refine .cons ?_ ih
      by_cases h : y.1 = k
      · rw [if_pos (q.1.trans h), putAt, if_pos h]
        exact ⟨q.1, q.2.1, rv⟩
      · rw [if_neg (fun z => h (q.1.symm.trans z)), putAt, if_neg h]
        exact q
  unfold putN storedH
  rw [any_atKey k t]
  by_cases h : (atKey ys k).isSome = true
  · rw [if_pos h, if_pos h]
    exact upd1 t
  · rw [if_neg h, if_neg h]
    have app : ∀ {xs : List (NestedKey × Addr × V)} {ys : List (NestedKey × Addr × Value)}, Paired PX xs ys → Paired PX (xs ++ [(k, b, v)]) (ys ++ [(k, b, u)]) := by
      intro xs ys t
      induction t with
      | nil => exact .cons ⟨rfl, rfl, rv⟩ .nil
      | cons q _ ih => exact .cons q ih
    exact app t
open Classical in
theorem putN_dput {k : D} {kk : NestedKey} {b : Addr} {d : D} {v : V} (hk : nk k = some kk) (rk : Rep K R n μ H k (.ref b)) (rv : Rep K R n μ H d v) : ∀ {kvs : List (D × D)} {xs : List (NestedKey × Addr × V)}, (kvs.map (·.1)).map nk = xs.map (fun x => some x.1) → Reps K R n μ H (kvs.map (·.1)) (xs.map fun x => .ref x.2.1) → Reps K R n μ H (kvs.map (·.2)) (xs.map (·.2.2)) →
    ((dput kvs k d).map (·.1)).map nk = (putN xs kk b v).map (fun x => some x.1) ∧ Reps K R n μ H ((dput kvs k d).map (·.1)) ((putN xs kk b v).map fun x => .ref x.2.1) ∧ Reps K R n μ H ((dput kvs k d).map (·.2)) ((putN xs kk b v).map (·.2.2)) := by
  have same : ∀ {p : D × D} {x : NestedKey × Addr × V}, nk p.1 = some x.1 → (p.1 = k ↔ x.1 = kk) := fun {p x} e => ⟨fun z => by rw [z, hk] at e; exact (Option.some.inj e).symm, fun z => nk_inj (e.trans (by rw [z])) hk⟩
  have any : ∀ {kvs : List (D × D)} {xs : List (NestedKey × Addr × V)}, (kvs.map (·.1)).map nk = xs.map (fun x => some x.1) → (kvs.any fun p => decide (p.1 = k)) = xs.any fun x => decide (x.1 = kk) := by
    intro kvs
    induction kvs with
    | nil => intro xs e; cases xs with
      | nil => rfl
      | cons _ _ => simp at e
    | cons p kvs ih =>
      intro xs e
      cases xs with
      | nil => simp at e
      | cons x xs =>
        simp only [List.map_cons, List.cons.injEq] at e
        rw [List.any_cons, List.any_cons, ih e.2, decide_eq_decide.mpr (same e.1)]
  have upd1 : ∀ {kvs : List (D × D)} {xs : List (NestedKey × Addr × V)}, (kvs.map (·.1)).map nk = xs.map (fun x => some x.1) → Reps K R n μ H (kvs.map (·.1)) (xs.map fun x => .ref x.2.1) → Reps K R n μ H (kvs.map (·.2)) (xs.map (·.2.2)) →
      ((kvs.map fun p => if p.1 = k then (p.1, d) else p).map (·.1)).map nk = (xs.map fun x => if x.1 = kk then (x.1, x.2.1, v) else x).map (fun x => some x.1) ∧ Reps K R n μ H ((kvs.map fun p => if p.1 = k then (p.1, d) else p).map (·.1)) ((xs.map fun x => if x.1 = kk then (x.1, x.2.1, v) else x).map fun x => .ref x.2.1) ∧
        Reps K R n μ H ((kvs.map fun p => if p.1 = k then (p.1, d) else p).map (·.2)) ((xs.map fun x => if x.1 = kk then (x.1, x.2.1, v) else x).map (·.2.2)) := by
    intro kvs
    induction kvs with
    | nil => intro xs e r r'; cases xs with
      | nil => exact ⟨rfl, by simp [Reps], by simp [Reps]⟩
      | cons _ _ => simp at e
    | cons p kvs ih =>
      intro xs e r r'
      cases xs with
      | nil => simp at e
      | cons x xs =>
        simp only [List.map_cons, List.cons.injEq] at e
        simp only [List.map_cons, Reps, List.cons.injEq] at r r'
        obtain ⟨v1, vs1, ⟨rfl, rfl⟩, r1, r2⟩ := r
        obtain ⟨v2, vs2, ⟨rfl, rfl⟩, r3, r4⟩ := r'
        obtain ⟨i1, i2, i3⟩ := ih e.2 r2 r4
        simp only [List.map_cons, Reps, List.cons.injEq]
        by_cases h : x.1 = kk
        · rw [if_pos h, if_pos ((same e.1).mpr h)]
          exact ⟨⟨e.1, i1⟩, ⟨_, _, ⟨rfl, rfl⟩, r1, i2⟩, _, _, ⟨rfl, rfl⟩, rv, i3⟩
        · rw [if_neg h, if_neg (fun z => h ((same e.1).mp z))]
          exact ⟨⟨e.1, i1⟩, ⟨_, _, ⟨rfl, rfl⟩, r1, i2⟩, _, _, ⟨rfl, rfl⟩, r3, i3⟩
  intro kvs xs e r r'
  unfold dput putN
  rw [any e]
  by_cases h : (xs.any fun x => decide (x.1 = kk)) = true
  · rw [if_pos h, if_pos h]
    exact upd1 e r r'
  · rw [if_neg h, if_neg h]
    simp only [List.map_append, List.map_cons, List.map_nil]
    refine ⟨by rw [e, hk], r.append ?_, r'.append ?_⟩
    · simp only [Reps]
      exact ⟨_, _, rfl, rk, rfl⟩
    · simp only [Reps]
      exact ⟨_, _, rfl, rv, rfl⟩
end
section
variable {X : Cx} {pins : List (Addr × Obj)} {σ : L2.St} {H : Hp} {s : Shared} {a : Addr} {y : V} {u : Value} {A : Around} {E : Value → Shared → Prop} {R : Ap} {n : Nat} {μ : Nat → Addr} {kvs : List (D × D)} {k : D}
theorem kOk_cases (h : kOk kvs k = true) : (keyB k = true ∧ (kvs.all fun p => keyB p.1) = true) ∨ (keyT k = true ∧ (kvs.all fun p => keyT p.1) = true) := by
  unfold kOk at h
  rw [Bool.or_eq_true, Bool.and_eq_true, Bool.and_eq_true] at h
  exact h
theorem rep_tupT {K : Fg} {y : V} (hk : keyT k = true) (rk : Rep K R n μ H k y) : ∃ b kk, y = .ref b ∧ nk k = some kk ∧ kk.depth ≤ 8 := by
  obtain ⟨ds, kk, rfl, e, hd⟩ := keyT_nk hk
  simp only [Rep] at rk
  obtain ⟨b, _, rfl, _⟩ := rk
  exact ⟨b, kk, rfl, e, hd⟩
theorem dv_getItem {d : D} {Q : Value → Shared → Prop} (hw : Tabs.w = X.w) (hu : A.units + 9 < cLine) (I : L2.Inv X pins σ H s) (dv : DV X.K R n μ H a kvs) (ko : kOk kvs k = true) (rk : Rep X.K R n μ H k y) (ry : L2.RelV y u) (e : dget kvs k = some d)
    (h : ∀ v w' s', Rep X.K R n μ H d v → L2.RelV v w' → L2.Inv X pins σ H s' → Q w' s') : wpAny (model X.prog X.w) A (getItem (.ref a) u) Q E s := by
  rcases kOk_cases ko with ⟨hk, ha⟩ | ⟨hk, ha⟩
  · obtain ⟨kk, hH, e1, r⟩ := dv_B dv ha
    obtain ⟨k, rfl⟩ := keyB_of hk
    cases rep_keyD rk
    rcases valV_dget (k := k) e1 r with ⟨z, _⟩ | ⟨d', v, e2, e3, rv⟩
    · rw [e] at z; cases z
    · rw [e] at e2; cases e2
      exact d_getItem (by omega) I (.inl ⟨kk, k, .inl hH, rfl, e3.symm⟩) ry fun w' s' I' rw' => h v w' s' rv rw' I'
  · obtain ⟨b, kk, rfl, hnk, hd⟩ := rep_tupT hk rk
    cases (show u = Value.ref b from ry)
    obtain ⟨xs, hH, e1, r1, r2⟩ := dv_T dv ha
    obtain ⟨hs, hl, ys, pr, dd⟩ := dx_heap I.kIn I.hok hw hH ha e1 r1
    rcases atKey_dget hnk e1 r2 pr with ⟨z, _⟩ | ⟨d', v, b', u', e2, e3, rv, ru⟩
    · rw [e] at z; cases z
    · rw [e] at e2; cases e2
      refine wpAny_getItem_heap (knd := nestedKind X.prog X.w) (k := kk) (by show A.units + 1 + 8 < cLine; omega) ⟨nested_of I.kIn I.hok _ _ _ _ hnk rk rfl, hd⟩ dd e3 ?_
      exact h v _ _ rv ru (I.tok _)
theorem dv_in {Q : Value → Shared → Prop} (hw : Tabs.w = X.w) (hu : A.units + 9 < cLine) (I : L2.Inv X pins σ H s) (dv : DV X.K R n μ H a kvs) (ko : kOk kvs k = true) (rk : Rep X.K R n μ H k y) (ry : L2.RelV y u)
    (h : ∀ s', L2.Inv X pins σ H s' → Q (.bool (dget kvs k).isSome) s') : wpAny (model X.prog X.w) A (compareOp .In u (.ref a)) Q E s := by
  rcases kOk_cases ko with ⟨hk, ha⟩ | ⟨hk, ha⟩
  · obtain ⟨kk, hH, e1, r⟩ := dv_B dv ha
    obtain ⟨k, rfl⟩ := keyB_of hk
    cases rep_keyD rk
    refine d_in (o := valV kk k) (by omega) I (.inl ⟨kk, k, .inl hH, rfl, rfl⟩) ry fun s' I' => ?_
    have := h s' I'
    rcases valV_dget (k := k) e1 r with ⟨z1, z2⟩ | ⟨d', v, z1, z2, rv⟩
    · rw [z1] at this; rw [z2]; exact this
    · rw [z1] at this; rw [z2]; exact this
  · obtain ⟨b, kk, rfl, hnk, hd⟩ := rep_tupT hk rk
    cases (show u = Value.ref b from ry)
    obtain ⟨xs, hH, e1, r1, r2⟩ := dv_T dv ha
    obtain ⟨hs, hl, ys, pr, dd⟩ := dx_heap I.kIn I.hok hw hH ha e1 r1
    refine wpAny_in_heap (knd := nestedKind X.prog X.w) (k := kk) (by show A.units + 1 + 8 < cLine; omega) ⟨nested_of I.kIn I.hok _ _ _ _ hnk rk rfl, hd⟩ hs dd ?_
    have := h _ (I.tok (s.toks + (nestedKind X.prog X.w).draws kk))
    rcases atKey_dget hnk e1 r2 pr with ⟨z1, z2⟩ | ⟨d', v, b', u', z1, z2, rv, ru⟩
    · rw [z1] at this; rw [z2]; exact this
    · rw [z1] at this; rw [z2]; exact this
theorem dv_notIn {Q : Value → Shared → Prop} (hw : Tabs.w = X.w) (hu : A.units + 9 < cLine) (I : L2.Inv X pins σ H s) (dv : DV X.K R n μ H a kvs) (ko : kOk kvs k = true) (rk : Rep X.K R n μ H k y) (ry : L2.RelV y u)
    (h : ∀ s', L2.Inv X pins σ H s' → Q (.bool (!(dget kvs k).isSome)) s') : wpAny (model X.prog X.w) A (compareOp .NotIn u (.ref a)) Q E s := by
  rcases kOk_cases ko with ⟨hk, ha⟩ | ⟨hk, ha⟩
  · obtain ⟨kk, hH, e1, r⟩ := dv_B dv ha
    obtain ⟨k, rfl⟩ := keyB_of hk
    cases rep_keyD rk
    refine d_notIn (o := valV kk k) (by omega) I (.inl ⟨kk, k, .inl hH, rfl, rfl⟩) ry fun s' I' => ?_
    have := h s' I'
    rcases valV_dget (k := k) e1 r with ⟨z1, z2⟩ | ⟨d', v, z1, z2, rv⟩
    · rw [z1] at this; rw [z2]; exact this
    · rw [z1] at this; rw [z2]; exact this
  · obtain ⟨b, kk, rfl, hnk, hd⟩ := rep_tupT hk rk
    cases (show u = Value.ref b from ry)
    obtain ⟨xs, hH, e1, r1, r2⟩ := dv_T dv ha
    obtain ⟨hs, hl, ys, pr, dd⟩ := dx_heap I.kIn I.hok hw hH ha e1 r1
    refine PyProof.Rows.wpAny_notIn_heap (knd := nestedKind X.prog X.w) (k := kk) (by show A.units + 1 + 8 < cLine; omega) ⟨nested_of I.kIn I.hok _ _ _ _ hnk rk rfl, hd⟩ hs dd ?_
    have := h _ (I.tok (s.toks + (nestedKind X.prog X.w).draws kk))
    rcases atKey_dget hnk e1 r2 pr with ⟨z1, z2⟩ | ⟨d', v, b', u', z1, z2, rv, ru⟩
    · rw [z1] at this; rw [z2]; exact this
    · rw [z1] at this; rw [z2]; exact this
/-- d.get(k, x) -/
theorem dv_get2 {x : D} {z : V} {r : Value} {Q : Value → Shared → Prop} (hw : Tabs.w = X.w) (hu : A.units + 9 < cLine) (I : L2.Inv X pins σ H s) (dv : DV X.K R n μ H a kvs) (ko : kOk kvs k = true) (rk : Rep X.K R n μ H k y) (ry : L2.RelV y u) (rx : Rep X.K R n μ H x z) (rz : L2.RelV z r)
    (h : ∀ v w' s', Rep X.K R n μ H ((dget kvs k).getD x) v → L2.RelV v w' → L2.Inv X pins σ H s' → Q w' s') : wpAny (model X.prog X.w) A (call (.builtin "dict.get") [.ref a, u, r]) Q E s := by
  rcases kOk_cases ko with ⟨hk, ha⟩ | ⟨hk, ha⟩
  · obtain ⟨kk, hH, e1, rr⟩ := dv_B dv ha
    obtain ⟨k, rfl⟩ := keyB_of hk
    cases rep_keyD rk
    refine d_get2 (o := valV kk k) (by omega) I (.inl ⟨kk, k, .inl hH, rfl, rfl⟩) ry rz fun w' s' I' rw' => ?_
    refine h _ w' s' ?_ rw' I'
    rcases valV_dget (k := k) e1 rr with ⟨z1, z2⟩ | ⟨d', v, z1, z2, rv⟩
    · rw [z1, z2]; exact rx
    · rw [z1, z2]; exact rv
  · obtain ⟨b, kk, rfl, hnk, hd⟩ := rep_tupT hk rk
    cases (show u = Value.ref b from ry)
    obtain ⟨xs, hH, e1, r1, r2⟩ := dv_T dv ha
    obtain ⟨hs, hl, ys, pr, dd⟩ := dx_heap I.kIn I.hok hw hH ha e1 r1
    refine call_meetsIn PySem.F.slot_dict_get dd.typeIs PySem.F.entry_dict_get (PySem.F.args_dict_get_3 _ _ _) (meetsH_dict_get_default (nestedKind X.prog X.w) a b hs r) ⟨(by show A.units + 1 + 8 < cLine; omega), kk, ys, ⟨nested_of I.kIn I.hok _ _ _ _ hnk rk rfl, hd⟩, dd, ?_⟩
    rcases atKey_dget hnk e1 r2 pr with ⟨z1, z2⟩ | ⟨d', v, b', u', z1, z2, rv, ru⟩
    · rw [z2]
      refine h z r _ ?_ rz (I.tok _)
      rw [z1]; exact rx
    · rw [z2]
      refine h v u' _ ?_ ru (I.tok _)
      rw [z1]; exact rv
/-- d[k] = x -/
theorem dv_setItem {x : D} {z : V} {r : Value} {Q : Unit → Shared → Prop} (hw : Tabs.w = X.w) (hu : A.units + 9 < cLine) (I : L2.Inv X pins σ H s) (dv : DV X.K R n μ H a kvs) (hsz : kvs.length < sizeLine) (ko : kOk kvs k = true) (rk : Rep X.K R n μ H k y) (ry : L2.RelV y u) (rx : Rep X.K R n μ H x z) (rz : L2.RelV z r)
    (h : ∀ o s' kws ws, Mut (H a) → DRaw (upd H a o) a ((dput kvs k x).map (·.1)) kws ws → Reps X.K R n μ H ((dput kvs k x).map (·.1)) kws → Reps X.K R n μ H ((dput kvs k x).map (·.2)) ws → L2.Inv X pins σ (upd H a o) s' → Q () s') : wpAny (model X.prog X.w) A (setItem (.ref a) u r) Q E s := by
  rcases kOk_cases ko with ⟨hk, ha⟩ | ⟨hk, ha⟩
  · obtain ⟨kk, hH, e1, rr⟩ := dv_B dv ha
    obtain ⟨k, rfl⟩ := keyB_of hk
    cases rep_keyD rk
    have hl : kk.length = kvs.length := by have := congrArg List.length e1; simpa using this.symm
    obtain ⟨p1, p2⟩ := putK_dput (k := k) rx e1 rr
    refine d_setItem (by omega) I (.inl ⟨kk, k, hH, rfl, by omega, rfl⟩) ry rz fun s' I' => ?_
    refine h _ s' ((putK kk k z).map fun p => kV p.1) _ (by rw [hH]; exact True.intro) (.inl ⟨_, upd_same, p1, rfl, rfl⟩) ?_ p2 I'
    rw [p1]
    have all : ∀ l : List (Key × V), Reps X.K R n μ H (l.map fun p => keyD p.1) (l.map fun p => kV p.1) := by
      intro l
      induction l with
      | nil => simp [Reps]
      | cons q l ih =>
        simp only [List.map_cons, Reps]
        exact ⟨_, _, rfl, repv_keyD _, ih⟩
    exact all _
  · obtain ⟨b, kk, rfl, hnk, hd⟩ := rep_tupT hk rk
    cases (show u = Value.ref b from ry)
    obtain ⟨xs, hH, e1, r1, r2⟩ := dv_T dv ha
    obtain ⟨hs, hl, ys, pr, dd⟩ := dx_heap I.kIn I.hok hw hH ha e1 r1
    have hly : ys.length = xs.length := (Paired.length pr).symm
    have hlx : xs.length = kvs.length := by have := congrArg List.length e1; simpa using this.symm
    obtain ⟨p1, p2, p3⟩ := putN_dput (b := b) hnk rk rx e1 r1 r2
    have hmu : Mut (H a) := by
      rcases hH with z | ⟨_, z⟩ <;> rw [z] <;> exact True.intro
    refine wpAny_setItem_heap (knd := nestedKind X.prog X.w) (k := kk) (hsz := by omega) (by show A.units + 1 + 8 < cLine; omega) ⟨nested_of I.kIn I.hok _ _ _ _ hnk rk rfl, hd⟩ dd fun h' dd' hs' => ?_
    have hne : putN xs kk b z ≠ [] := by
      unfold putN
      split
      · rename_i q
        cases xs with
        | nil => simp at q
        | cons _ _ => simp
      · simp
    have hlen : (putN xs kk b z).length ≤ sizeLine := by
      unfold putN
      split
      · rw [List.length_map]; omega
      · rw [List.length_append]; simp only [List.length_cons, List.length_nil]; omega
    obtain ⟨q, es, ep, hq, h2, h3, h4, _, h5⟩ := dd'
    refine h (DxO a (putN xs kk b z)) _ _ _ hmu (.inr ⟨_, hne, upd_same, p1, rfl, rfl⟩) p2 p3 ?_
    refine d_write I hmu hs' ⟨q, hq⟩ ⟨⟨hs, hlen, _, putN_pair rz pr, q, es, ep, hq, h2, h3, ?_, h5⟩, ⟨q, hq⟩, ?_⟩
    · rw [h4, hw]
      rfl
    · rintro g1 g2 ⟨c1, c2, ys', c3, o', es', ep', c4, c5⟩ st
      exact ⟨c1, c2, ys', c3, o', es', ep', st _ c4, c5⟩
end
end Ev
namespace Ev
open PySem L2
variable [Tabs]
abbrev Mg := Str → Option Value
def RepX (K : Fg) (mg : Mg) (R : Ap) (n : Nat) (μ : Nat → Addr) (H : Hp) (x : Exn) (cls : Value) (dx : Option Addr) : Prop :=
  ∃ C, mg x.cls = some (.ref C) ∧ cls = .ref C ∧ match x.arg with
    | none => dx = none
    | some (f, d) => ∃ a v, dx = some a ∧ H a = some (.xd [(f, v)]) ∧ Rep K R n μ H d v
/-- what is wanted: P of the result, E of an exception; from the state n μ H -/
def Post {α : Type} (K : Fg) (mg : Mg) (E : XK) (R : Ap) (n : Nat) (μ : Nat → Addr) (H : Hp) (P : α → LH → (Nat → Addr) → Hp → Prop) : Res α → Prop
  | .ok a h' => ∀ μ' H', Ext n μ H h'.length μ' H' → SimH K R μ' H' h' → P a h' μ' H'
  | .ex x h' => ∀ μ' H' cls dx, Ext n μ H h'.length μ' H' → SimH K R μ' H' h' → RepX K mg R h'.length μ' H' x cls dx → E cls dx H'
  | .no => False
/-- a value is handed on -/
abbrev PV (K : Fg) (R : Ap) (Q : VK) : D → LH → (Nat → Addr) → Hp → Prop := fun d h' μ' H' => ∀ v, Rep K R h'.length μ' H' d v → Q v H'
section
variable {α β : Type} {K : Fg} {mg : Mg} {E : XK} {R : Ap} {n : Nat} {μ μ1 : Nat → Addr} {H H1 : Hp} {h h1 : LH}
theorem Post.bind {r : Res α} {f : α → LH → Res β} {P : β → LH → (Nat → Addr) → Hp → Prop} (p : Post K mg E R n μ H P (r.bind f)) :
    Post K mg E R n μ H (fun a h1 μ1 H1 => Post K mg E R h1.length μ1 H1 P (f a h1)) r := by
  cases r with
  | ok a h1 =>
    intro μ1 H1 e1 S1
    have p : Post K mg E R n μ H P (f a h1) := p
    show Post K mg E R h1.length μ1 H1 P (f a h1)
    cases q : f a h1 with
    | ok b h2 =>
      rw [q] at p
      exact fun μ2 H2 e2 S2 => p μ2 H2 (e1.trans S1 e2) S2
    | ex x h2 =>
      rw [q] at p
      exact fun μ2 H2 cls dx e2 S2 rx => p μ2 H2 cls dx (e1.trans S1 e2) S2 rx
    | no =>
      rw [q] at p
      exact p
  | ex x h1 => exact p
  | no => exact p
theorem Post.imp {r : Res α} {P P' : α → LH → (Nat → Addr) → Hp → Prop} (p : Post K mg E R n μ H P r)
    (f : ∀ a h' μ' H', Ext n μ H h'.length μ' H' → SimH K R μ' H' h' → P a h' μ' H' → P' a h' μ' H') : Post K mg E R n μ H P' r := by
  cases r with
  | ok a h1 => exact fun μ1 H1 e S => f _ _ _ _ e S (p μ1 H1 e S)
  | ex x h1 => exact p
  | no => exact p
/-- from further on -/
theorem Post.later {r : Res α} {P : α → LH → (Nat → Addr) → Hp → Prop} (p : Post K mg E R n μ H P r) (e : Ext n μ H h1.length μ1 H1) (S : SimH K R μ1 H1 h1) : Post K mg E R h1.length μ1 H1 P r := by
  cases r with
  | ok b h2 => exact fun μ2 H2 e2 S2 => p μ2 H2 (e.trans S e2) S2
  | ex x h2 => exact fun μ2 H2 cls dx e2 S2 rx => p μ2 H2 cls dx (e.trans S e2) S2 rx
  | no => exact p
/-- nothing new -/
theorem Post.val {d : D} {Q : VK} {v : V} (S : SimH K R μ H h) (r : Rep K R h.length μ H d v) (p : Post K mg E R h.length μ H (PV K R Q) (.ok d h)) : Q v H := p μ H Ext.refl S v r
theorem tup_ok {ds : List D} {xs : List V} {Q : VK} (S : SimH K R μ H h) (r : Reps K R h.length μ H ds xs) (p : Post K mg E R h.length μ H (PV K R Q) (.ok (.tup ds) h)) :
    ∀ p, H p = none → Q (.ref p) (upd H p (.tup xs)) := fun a ha => by
  refine p μ _ (Ext.laid ha) (S.laid ha) _ ?_
  simp only [Rep]
  exact ⟨a, xs, rfl, SqT.of upd_same, Reps.mono S (Ext.laid ha) _ _ r⟩
theorem lst_ok {m : Bool} {ds : List D} {xs : List V} {Q : VK} (S : SimH K R μ H h) (r : Reps K R h.length μ H ds xs) (p : Post K mg E R h.length μ H (PV K R Q) (alloc m ds h)) :
    ∀ p, H p = none → Q (.ref p) (upd H p (.lst xs)) := fun a ha => by
  unfold alloc at p
  cases m with
  | false =>
    refine p μ _ (Ext.laid ha) (S.laid ha) _ ?_
    simp only [Rep]
    exact ⟨a, xs, rfl, upd_same, S.unr_fresh ha, Reps.mono S (Ext.laid ha) _ _ r⟩
  | true =>
    have e : Ext h.length μ H (h ++ [O.lst ds]).length (muN μ h.length a) (upd H a (.lst xs)) := by
      rw [List.length_append]; exact Ext.newLoc ha
    refine p (muN μ h.length a) _ e (S.newLoc ha r) _ ?_
    simp only [Rep]
    refine ⟨by simp, ?_⟩
    rw [muN_eq]

theorem Rep.lst_of {d : D} {ds : List D} {v : V} (S : SimH K R μ H h) (r : Rep K R h.length μ H d v) (e : asL h d = some ds) : ∃ a xs, v = .ref a ∧ H a = some (.lst xs) ∧ Reps K R h.length μ H ds xs := by
  cases d with
  | lst es =>
    simp only [Rep] at r
    obtain ⟨a, xs, rfl, q, _, r⟩ := r
    cases e
    exact ⟨a, xs, rfl, q, r⟩
  | loc l =>
    simp only [Rep] at r
    obtain ⟨hl, rfl⟩ := r
    unfold asL at e
    simp only at e
    split at e
    · rename_i es q
      cases e
      obtain ⟨xs, q', r⟩ := S.obj l _ q
      exact ⟨_, xs, rfl, q', r⟩
    · cases e
  | _ => simp [asL] at e
theorem Rep.seq_of {d : D} {ds : List D} {v : V} (S : SimH K R μ H h) (r : Rep K R h.length μ H d v) (e : asS h d = some ds) : ∃ a xs, v = .ref a ∧ (SqL K H a xs ∨ SqT K H a xs) ∧ Reps K R h.length μ H ds xs := by
  have go : asL h d = some ds → ∃ a xs, v = .ref a ∧ (SqL K H a xs ∨ SqT K H a xs) ∧ Reps K R h.length μ H ds xs := fun e => by
    obtain ⟨a, xs, e1, q, r⟩ := r.lst_of S e
    exact ⟨a, xs, e1, .inl (SqL.of q), r⟩
  cases d with
  | tup es =>
    simp only [Rep] at r
    obtain ⟨a, xs, rfl, q, r⟩ := r
    cases e
    exact ⟨a, xs, rfl, .inr q, r⟩
  | _ => exact go e
mutual
theorem pd_ok : ∀ (d : D) (p : PyData) (v : V), pd d = some p → Rep K R n μ H d v → Dp K H v p
  | .non, p, v, e, r => by
    simp only [pd] at e; cases e
    simp only [Rep] at r; subst r
    exact .non
  | .bl b, p, v, e, r => by
    simp only [pd] at e; cases e
    simp only [Rep] at r; subst r
    exact .bl b
  | .int b, p, v, e, r => by
    simp only [pd] at e; cases e
    simp only [Rep] at r; subst r
    exact .int b
  | .str b, p, v, e, r => by
    simp only [pd] at e; cases e
    simp only [Rep] at r; subst r
    exact .str b
  | .tup ds, p, v, e, r => by
    simp only [pd] at e
    split at e
    · rename_i l q
      cases e
      simp only [Rep] at r
      obtain ⟨a, xs, rfl, s, r⟩ := r
      exact .tup s (pds_ok ds l xs q r)
    · cases e
  | .lst ds, p, v, e, r => by
    simp only [pd] at e
    split at e
    · rename_i l q
      cases e
      simp only [Rep] at r
      obtain ⟨a, xs, rfl, s, _, r⟩ := r
      exact .lst (SqL.of s) (pds_ok ds l xs q r)
    · cases e
  | .loc _, _, _, e, _ => by simp [pd] at e
  | .scr _, _, _, e, _ => by simp [pd] at e
theorem pds_ok : ∀ (ds : List D) (ps : List PyData) (vs : List V), pds ds = some ps → Reps K R n μ H ds vs → DpAll K H vs ps
  | [], ps, vs, e, r => by
    simp only [pds] at e; cases e
    simp only [Reps] at r; subst r
    exact .nil
  | d :: ds, ps, vs, e, r => by
    simp only [pds] at e
    split at e
    · rename_i x l q1 q2
      cases e
      simp only [Reps] at r
      obtain ⟨v, ws, rfl, r1, r2⟩ := r
      exact .cons (pd_ok d x v q1 r1) (pds_ok ds l ws q2 r2)
    · cases e
end
theorem pdT_ok {d : D} {p : PyData} {v : V} (S : SimH K R μ H h) (e : pdT h d = some p) (r : Rep K R h.length μ H d v) : Dp K H v p := by
  cases d with
  | loc l =>
    simp only [Rep] at r
    obtain ⟨hl, rfl⟩ := r
    simp only [pdT] at e
    split at e
    · rename_i ds q
      simp only [pd] at e
      split at e
      · rename_i l' q2
        cases e
        obtain ⟨xs, q', r⟩ := S.obj l _ q
        exact .lst (SqL.of q') (pds_ok ds l' xs q2 r)
      · cases e
    · cases e
  | _ => exact pd_ok _ _ _ e r
theorem truthy_ok {d : D} {b : Bool} {v : V} (S : SimH K R μ H h) (e : truthy h d = some b) (r : Rep K R h.length μ H d v) : TruV K v H b := by
  cases d with
  | non =>
    simp only [Rep] at r; subst r
    simp only [truthy] at e; cases e
    rfl
  | bl k =>
    simp only [Rep] at r; subst r
    simp only [truthy] at e; cases e
    rfl
  | int i =>
    simp only [Rep] at r; subst r
    simp only [truthy] at e; cases e
    rfl
  | str x =>
    simp only [Rep] at r; subst r
    simp only [truthy] at e
    split at e
    · cases e; exact ⟨by assumption, rfl⟩
    · cases e
  | tup ds =>
    simp only [Rep] at r
    obtain ⟨a, xs, rfl, q, r⟩ := r
    simp only [truthy] at e; cases e
    refine .inr (.inl ⟨xs, q, ?_⟩)
    have := r.length
    cases ds <;> cases xs <;> simp_all
  | lst ds =>
    simp only [truthy, asL] at e; cases e
    obtain ⟨a, xs, rfl, q, r⟩ := r.lst_of (ds := ds) S rfl
    refine .inl ⟨xs, SqL.of q, ?_⟩
    have := r.length
    cases ds <;> cases xs <;> simp_all
  | loc l =>
    simp only [truthy] at e
    split at e
    · rename_i ds q
      cases e
      obtain ⟨a, xs, rfl, q, r⟩ := r.lst_of (ds := ds) S q
      refine .inl ⟨xs, SqL.of q, ?_⟩
      have := r.length
      cases ds <;> cases xs <;> simp_all
    · cases e
  | scr _ => simp [truthy, asL] at e
  | dct _ _ => simp [truthy, asL] at e
  | ins _ _ _ => simp [truthy, asL] at e
  | clo _ _ => simp [truthy, asL] at e

/-- an operator's reading: the data of both sides -/
def rD2 (K : Fg) (mg : Mg) (f : D → D → LH → Res D) : R2 := fun x y H Q => ∃ E R μ h d e, SimH K R μ H h ∧ Rep K R h.length μ H d x ∧ Rep K R h.length μ H e y ∧ Post K mg E R h.length μ H (PV K R Q) (f d e h)
theorem repI {i : Int} {v : V} : Rep K R n μ H (.int i) v ↔ v = .int i := by simp only [Rep]
theorem repB {i : Bool} {v : V} : Rep K R n μ H (.bl i) v ↔ v = .bl i := by simp only [Rep]
theorem repS {i : Str} {v : V} : Rep K R n μ H (.str i) v ↔ v = .str i := by simp only [Rep]
theorem repN {v : V} : Rep K R n μ H .non v ↔ v = .non := by simp only [Rep]
theorem Post.int {i : Int} {Q : VK} (S : SimH K R μ H h) (p : Post K mg E R h.length μ H (PV K R Q) (.ok (.int i) h)) : Q (.int i) H := p.val S (repI.mpr rfl)
theorem Post.bl {i : Bool} {Q : VK} (S : SimH K R μ H h) (p : Post K mg E R h.length μ H (PV K R Q) (.ok (.bl i) h)) : Q (.bl i) H := p.val S (repB.mpr rfl)
theorem Post.str {i : Str} {Q : VK} (S : SimH K R μ H h) (p : Post K mg E R h.length μ H (PV K R Q) (.ok (.str i) h)) : Q (.str i) H := p.val S (repS.mpr rfl)
theorem Post.no_of {P : α → LH → (Nat → Addr) → Hp → Prop} (p : Post K mg E R n μ H P .no) : False := p
end
section
variable {X : Cx}
theorem opAdd_ok {m : Bool} : OpR X (binaryOp .Add) (rD2 X.K X.mg (opAdd m)) := by
  intro pins s σ H x y v u Q I rx ry hq
  obtain ⟨E, R, μ, h, d, e, S, r1, r2, p⟩ := hq
  have gen : Post X.K X.mg E R h.length μ H (PV X.K R Q) (catL m (asL h d) (asL h e) h) → wpAny (model X.prog X.w) X.A (binaryOp .Add v u) (EP X pins σ Q) X.xe s := by
    intro p
    unfold catL at p
    split at p
    · rename_i xs ys e1 e2
      obtain ⟨a, vs, rfl, ha, ra⟩ := r1.lst_of S e1
      obtain ⟨b, ws, rfl, hb, rb⟩ := r2.lst_of S e2
      split at p
      · rename_i hl
        refine op_cat pins s σ H _ _ v u Q I rx ry ⟨a, b, vs, ws, rfl, rfl, ha, hb, by rw [← ra.length, ← rb.length]; exact hl, lst_ok S (ra.append rb) p⟩
      · exact p.elim
    · exact p.elim
  cases d with
  | int i =>
    cases e with
    | int j =>
      cases repI.mp r1; cases repI.mp r2
      exact op_add pins s σ H _ _ v u Q I rx ry ⟨i, j, rfl, rfl, p.int S⟩
    | _ => exact gen p
  | str i =>
    cases e with
    | str j =>
      cases repS.mp r1; cases repS.mp r2
      simp only [opAdd] at p
      split at p
      · exact op_add_str pins s σ H _ _ v u Q I rx ry ⟨i, j, rfl, rfl, by assumption, p.str S⟩
      · exact p.elim
    | _ => exact gen p
  | tup xs =>
    cases e with
    | tup ys =>
      simp only [Rep] at r1 r2
      obtain ⟨a, vs, rfl, ha, ra⟩ := r1
      obtain ⟨b, ws, rfl, hb, rb⟩ := r2
      simp only [opAdd] at p
      split at p
      · rename_i hl
        have la := ra.length
        have lb := rb.length
        refine op_catA pins s σ H _ _ v u Q I rx ry ⟨a, b, vs, ws, rfl, rfl, ha, hb, by omega, fun z => ?_, fun _ z => ?_, fun _ _ => tup_ok S (ra.append rb) p⟩
        · subst z
          obtain rfl : xs = [] := List.length_eq_zero_iff.mp la
          refine p.val S ?_
          simp only [Rep, List.nil_append]
          exact ⟨b, ws, rfl, hb, rb⟩
        · subst z
          obtain rfl : ys = [] := List.length_eq_zero_iff.mp lb
          refine p.val S ?_
          simp only [Rep, List.append_nil]
          exact ⟨a, vs, rfl, ha, ra⟩
      · exact p.elim
    | _ => exact gen p
  | _ => cases e <;> exact gen p
theorem opMul_ok : OpR X (binaryOp .Mult) (rD2 X.K X.mg opMul) := by
  intro pins s σ H x y v u Q I rx ry hq
  obtain ⟨E, R, μ, h, d, e, S, r1, r2, p⟩ := hq
  cases d with
  | int i =>
    cases e with
    | int j =>
      cases repI.mp r1; cases repI.mp r2
      simp only [opMul] at p
      split at p
      · exact op_mul pins s σ H _ _ v u Q I rx ry ⟨i, j, rfl, rfl, by assumption, p.int S⟩
      · exact p.elim
    | _ => simp [opMul] at p; exact p.elim
  | tup xs =>
    cases e with
    | int k =>
      cases repI.mp r2
      simp only [Rep] at r1
      obtain ⟨a, vs, rfl, ha, ra⟩ := r1
      simp only [opMul] at p
      split at p
      · rename_i c
        obtain ⟨c1, c2, c3, c4⟩ := c
        have la := ra.length
        exact op_repT pins s σ H _ _ v u Q I rx ry ⟨a, k, vs, rfl, rfl, ha, (fun z => c1 (List.length_eq_zero_iff.mp (by rw [la, z]; rfl))), c2, c3, by omega, tup_ok S (ra.rep1 _) p⟩
      · exact p.elim
    | _ => simp [opMul] at p; exact p.elim
  | _ => simp [opMul] at p; exact p.elim
theorem opBin_ok {op : Operator} {m : Bool} : OpR X (binaryOp op) (rD2 X.K X.mg (opBin op m)) := by
  cases op with
  | Add => exact opAdd_ok
  | Mult => exact opMul_ok
  | Sub =>
    intro pins s σ H x y v u Q I rx ry hq
    obtain ⟨E, R, μ, h, d, e, S, r1, r2, p⟩ := hq
    simp only [opBin] at p
    split at p
    · cases repI.mp r1; cases repI.mp r2
      exact op_sub pins s σ H _ _ v u Q I rx ry ⟨_, _, rfl, rfl, p.int S⟩
    · exact p.elim
  | FloorDiv =>
    intro pins s σ H x y v u Q I rx ry hq
    obtain ⟨E, R, μ, h, d, e, S, r1, r2, p⟩ := hq
    simp only [opBin] at p
    split at p
    · cases repI.mp r1; cases repI.mp r2
      split at p
      · exact op_fdivW pins s σ H _ _ v u Q I rx ry ⟨_, _, rfl, rfl, by assumption, p.int S⟩
      · exact p.elim
    · exact p.elim
  | Mod =>
    intro pins s σ H x y v u Q I rx ry hq
    obtain ⟨E, R, μ, h, d, e, S, r1, r2, p⟩ := hq
    simp only [opBin] at p
    split at p
    · cases repI.mp r1; cases repI.mp r2
      split at p
      · exact op_mod pins s σ H _ _ v u Q I rx ry ⟨_, _, rfl, rfl, by assumption, p.int S⟩
      · exact p.elim
    · exact p.elim
  | Pow =>
    intro pins s σ H x y v u Q I rx ry hq
    obtain ⟨E, R, μ, h, d, e, S, r1, r2, p⟩ := hq
    simp only [opBin] at p
    split at p
    · cases repI.mp r1; cases repI.mp r2
      split at p
      · exact op_pow pins s σ H _ _ v u Q I rx ry ⟨_, _, rfl, rfl, by assumption, p.int S⟩
      · exact p.elim
    · exact p.elim
  | _ =>
    intro pins s σ H x y v u Q I rx ry hq
    obtain ⟨E, R, μ, h, d, e, S, r1, r2, p⟩ := hq
    exact p.elim
theorem cmpI_ok {op : CmpOp} {f : Int → Int → Bool} (ho : OpR X (compareOp op) (rI0 fun i j => .bl (f i j))) : OpR X (compareOp op) (rD2 X.K X.mg (cmpI f)) := by
  intro pins s σ H x y v u Q I rx ry hq
  obtain ⟨E, R, μ, h, d, e, S, r1, r2, p⟩ := hq
  unfold cmpI at p
  split at p
  · cases repI.mp r1; cases repI.mp r2
    exact ho pins s σ H _ _ v u Q I rx ry ⟨_, _, rfl, rfl, p.bl S⟩
  · exact p.elim
theorem inSq_ok (hu : X.A.units + 65 < cLine) (neg : Bool) {pins : List (Addr × Obj)} {s : Shared} {σ : St} {H : Hp} {x y : V} {v u : Value} {Q : VK} {R : Ap} {μ : Nat → Addr} {h : LH} {d e : D} {k : Bool} (I : Inv X pins σ H s) (rx : RelV x v) (ry : RelV y u)
    (S : SimH X.K R μ H h) (r1 : Rep X.K R h.length μ H d x) (r2 : Rep X.K R h.length μ H e y) (q : inS h d e = some k) (hQ : Q (.bl (if neg then !k else k)) H) :
    wpAny (model X.prog X.w) X.A (compareOp (if neg then .NotIn else .In) v u) (EP X pins σ Q) X.xe s := by
  have gen : (match asS h e with
      | some ds => match pdT h d, pds ds with
        | some x, some l => if SeqAt.shaped x = true ∧ SeqAt.shaped (.list l) = true then some (l.any fun z => PyData.eqv z x) else none
        | _, _ => none
      | none => none) = some k → wpAny (model X.prog X.w) X.A (compareOp (if neg then .NotIn else .In) v u) (EP X pins σ Q) X.xe s := by
    intro q
    split at q
    · rename_i ds q1
      split at q
      · rename_i px pl q2 q3
        split at q
        · rename_i c
          cases q
          obtain ⟨a, xs, rfl, sq, ra⟩ := r2.seq_of S q1
          have d1 := pdT_ok S q2 r1
          have d2 := pds_ok ds pl xs q3 ra
          have hc : PyData.canLayAll0 pl = true := SeqAt.canLay_of_shaped c.2
          obtain ⟨bs, rd⟩ := Dp.reads I px x v d1 rx
          rcases sq with sq | sq
          · obtain ⟨as, rl⟩ := Dp.reads I (.list pl) _ u (.lst sq d2) ry
            cases neg with
            | false => exact SeqAt.in_list_reads rl rd hc (SeqAt.canLay_of_shaped c.1) (PyProof.Rows.room_in_shaped c.1 hu) ⟨.bl _, H, I, rfl, hQ⟩
            | true => exact SeqAt.notIn_list_reads rl rd hc (SeqAt.canLay_of_shaped c.1) (PyProof.Rows.room_in_shaped c.1 hu) ⟨.bl _, H, I, rfl, hQ⟩
          · obtain ⟨as, rl⟩ := Dp.reads I (.tuple pl) _ u (.tup sq d2) ry
            cases neg with
            | false => exact SeqAt.in_tuple_reads rl rd hc (SeqAt.canLay_of_shaped c.1) (PyProof.Rows.room_in_shaped c.1 hu) ⟨.bl _, H, I, rfl, hQ⟩
            | true => exact SeqAt.notIn_tuple_reads rl rd hc (SeqAt.canLay_of_shaped c.1) (PyProof.Rows.room_in_shaped c.1 hu) ⟨.bl _, H, I, rfl, hQ⟩
        · cases q
      · cases q
    · cases q
  unfold inS at q
  split at q
  · cases repS.mp r1; cases repS.mp r2
    cases q
    cases neg with
    | false => exact op_in_str pins s σ H _ _ v u Q I rx ry ⟨_, _, rfl, rfl, hQ⟩
    | true => exact op_notin_str pins s σ H _ _ v u Q I rx ry ⟨_, _, rfl, rfl, hQ⟩
  · exact gen q
theorem inD_ok (hw : Tabs.w = X.w) (hu : X.A.units + 65 < cLine) (neg : Bool) {pins : List (Addr × Obj)} {s : Shared} {σ : St} {H : Hp} {x y : V} {v u : Value} {Q : VK} {R : Ap} {μ : Nat → Addr} {h : LH} {d e : D} {k : Bool} (I : Inv X pins σ H s) (rx : RelV x v) (ry : RelV y u)
    (S : SimH X.K R μ H h) (r1 : Rep X.K R h.length μ H d x) (r2 : Rep X.K R h.length μ H e y) (q : inD h d e = some k) (hQ : Q (.bl (if neg then !k else k)) H) :
    wpAny (model X.prog X.w) X.A (compareOp (if neg then .NotIn else .In) v u) (EP X pins σ Q) X.xe s := by
  unfold inD at q
  split at q
  · rename_i kvs e1
    split at q
    · rename_i ko
      cases q
      obtain ⟨a, rfl, dv⟩ := asD_of S r2 e1
      obtain rfl : u = Value.ref a := ry
      cases neg with
      | false => exact dv_in hw (by omega) I dv ko r1 rx fun s' I' => ⟨.bl _, H, I', rfl, hQ⟩
      | true => exact dv_notIn hw (by omega) I dv ko r1 rx fun s' I' => ⟨.bl _, H, I', rfl, hQ⟩
    · cases q
  · exact inSq_ok hu neg I rx ry S r1 r2 q hQ
/-- a dict against an empty one -/
theorem eqE_ok (hu : X.A.units + 65 < cLine) (neg : Bool) {pins : List (Addr × Obj)} {s : Shared} {σ : St} {H : Hp} {x y : V} {v u : Value} {Q : VK} {R : Ap} {μ : Nat → Addr} {h : LH} {d e : D} {k : Bool} (I : Inv X pins σ H s) (rx : RelV x v) (ry : RelV y u)
    (S : SimH X.K R μ H h) (r1 : Rep X.K R h.length μ H d x) (r2 : Rep X.K R h.length μ H e y) (q : eqE h d e = some k) (hQ : Q (.bl (if neg then !k else k)) H) :
    wpAny (model X.prog X.w) X.A (compareOp (if neg then .NotEq else .Eq) v u) (EP X pins σ Q) X.xe s := by
  unfold eqE at q
  split at q
  · rename_i kvs e1 e2
    split at q
    · rename_i hb
      cases q
      obtain ⟨a, rfl, dv⟩ := asD_of S r1 e1
      obtain ⟨b, rfl, dv2⟩ := asD_of S r2 e2
      obtain rfl : v = Value.ref a := rx
      obtain rfl : u = Value.ref b := ry
      obtain ⟨kk, hH, e3, _⟩ := dv_B dv hb
      obtain ⟨kk2, hH2, e4, _⟩ := dv_B dv2 rfl
      obtain rfl : kk2 = [] := by cases kk2 with
        | nil => rfl
        | cons _ _ => simp at e4
      obtain ⟨_, ya, va, ra, da⟩ := dk_of I.hok hH
      obtain ⟨_, yb, vb, rb, db⟩ := dk_of I.hok hH2
      cases rb
      have hl : va.length = kvs.length := by rw [← ra.length]; have := congrArg List.length e3; simpa using this.symm
      have ne : va.length = ([] : List (Key × Value)).length → PySem.W.KeqHits X.A.in1 s ([] : List (Key × Value)) va true := fun z => by
        cases va with
        | nil => exact .nil
        | cons _ _ => simp at z
      have hk : (va.length == ([] : List (Key × Value)).length && true) = kvs.isEmpty := by
        rw [hl, Bool.and_true]
        cases kvs <;> rfl
      cases neg with
      | false => exact PySem.W.keq_eq (knd := mixKind X.prog X.w) (r := true) ya yb da db (by omega) ne ⟨.bl _, H, I, by rw [hk]; rfl, hQ⟩
      | true => exact PySem.W.keq_ne (knd := mixKind X.prog X.w) (r := true) ya yb da db (by omega) ne ⟨.bl _, H, I, by rw [hk]; rfl, hQ⟩
    · cases q
  · cases q
theorem opCmp_ok (hw : Tabs.w = X.w) (hu : X.A.units + 65 < cLine) {op : CmpOp} : OpR X (compareOp op) (rD2 X.K X.mg (opCmp op)) := by
  cases op with
  | Eq =>
    intro pins s σ H x y v u Q I rx ry hq
    obtain ⟨E, R, μ, h, d, e, S, r1, r2, p⟩ := hq
    simp only [opCmp] at p
    split at p
    · rename_i k q
      unfold eqD at q
      split at q
      · rename_i k' q0
        cases q
        unfold eqP at q0
        split at q0
        · rename_i a b q1 q2
          split at q0
          · rename_i c
            cases q0
            exact op_eqD (by omega) pins s σ H x y v u Q I rx ry ⟨a, b, pdT_ok S q1 r1, pdT_ok S q2 r2, c.1, c.2, p.bl S⟩
          · cases q0
        · cases q0
      · exact eqE_ok hu false I rx ry S r1 r2 q (p.bl S)
    · exact p.elim
  | NotEq =>
    intro pins s σ H x y v u Q I rx ry hq
    obtain ⟨E, R, μ, h, d, e, S, r1, r2, p⟩ := hq
    simp only [opCmp] at p
    split at p
    · rename_i k q
      unfold eqD at q
      split at q
      · rename_i k' q0
        cases q
        unfold eqP at q0
        split at q0
        · rename_i a b q1 q2
          split at q0
          · rename_i c
            cases q0
            exact op_neD (by omega) pins s σ H x y v u Q I rx ry ⟨a, b, pdT_ok S q1 r1, pdT_ok S q2 r2, c.1, c.2, p.bl S⟩
          · cases q0
        · cases q0
      · exact eqE_ok hu true I rx ry S r1 r2 q (p.bl S)
    · exact p.elim
  | Lt => exact cmpI_ok op_lt
  | LtE => exact cmpI_ok op_le
  | Gt => exact cmpI_ok op_gt
  | GtE => exact cmpI_ok op_ge
  | Is =>
    intro pins s σ H x y v u Q I rx ry hq
    obtain ⟨E, R, μ, h, d, e, S, r1, r2, p⟩ := hq
    simp only [opCmp] at p
    split at p
    · cases repN.mp r2
      refine op_isN pins s σ H _ _ v u Q I rx ry ⟨rfl, ?_⟩
      have q := p.bl S
      cases d <;> simp only [Rep] at r1 <;> first
        | (subst r1; simpa using q)
        | (obtain ⟨a, xs, rfl, _⟩ := r1; simpa using q)
        | (obtain ⟨_, rfl⟩ := r1; simpa using q)
        | (obtain ⟨a, rfl, _⟩ := r1; simpa using q)
        | (obtain ⟨a, _, _, rfl, _⟩ := r1; simpa using q)
        | (obtain ⟨a, _, _, _, rfl, _⟩ := r1; simpa using q)
        | (obtain ⟨a, _, _, _, _, rfl, _⟩ := r1; simpa using q)
    · exact p.elim
  | IsNot =>
    intro pins s σ H x y v u Q I rx ry hq
    obtain ⟨E, R, μ, h, d, e, S, r1, r2, p⟩ := hq
    simp only [opCmp] at p
    split at p
    · cases repN.mp r2
      refine op_notN pins s σ H _ _ v u Q I rx ry ⟨rfl, ?_⟩
      have q := p.bl S
      cases d <;> simp only [Rep] at r1 <;> first
        | (subst r1; simpa using q)
        | (obtain ⟨a, xs, rfl, _⟩ := r1; simpa using q)
        | (obtain ⟨_, rfl⟩ := r1; simpa using q)
        | (obtain ⟨a, rfl, _⟩ := r1; simpa using q)
        | (obtain ⟨a, _, _, rfl, _⟩ := r1; simpa using q)
        | (obtain ⟨a, _, _, _, rfl, _⟩ := r1; simpa using q)
        | (obtain ⟨a, _, _, _, _, rfl, _⟩ := r1; simpa using q)
    · exact p.elim
  | In =>
    intro pins s σ H x y v u Q I rx ry hq
    obtain ⟨E, R, μ, h, d, e, S, r1, r2, p⟩ := hq
    simp only [opCmp] at p
    split at p
    · rename_i k q
      exact inD_ok hw hu false I rx ry S r1 r2 q (p.bl S)
    · exact p.elim
  | NotIn =>
    intro pins s σ H x y v u Q I rx ry hq
    obtain ⟨E, R, μ, h, d, e, S, r1, r2, p⟩ := hq
    simp only [opCmp] at p
    split at p
    · rename_i k q
      exact inD_ok hw hu true I rx ry S r1 r2 q (p.bl S)
    · exact p.elim
end
end Ev
namespace Ev
open PySem L2
variable [Tabs]
mutual
def noLoc (n : Nat) : D → Bool
  | .tup ds => noLocs n ds
  | .lst ds => noLocs n ds
  | .loc l => decide (l < n)
  | .dct ks vs => noLocs n ks && noLocs n vs
  | .ins _ _ ds => noLocs n ds
  | .clo _ ds => noLocs n ds
  | _ => true
def noLocs (n : Nat) : List D → Bool
  | [] => true
  | d :: ds => noLoc n d && noLocs n ds
end
def noLocO (n : Nat) : O → Bool
  | .lst ds => noLocs n ds
  | .dct kvs => noLocs n (kvs.map (·.1)) && noLocs n (kvs.map (·.2))
  | .ins _ fs => noLocs n (fs.map (·.2))
def frz (h : LH) (n : Nat) : Nat → D → D
  | 0, d => d
  | f + 1, .loc l => if l < n then .loc l else match h[l]? with
    | some (.lst ds) => .lst (ds.map (frz h n f))
    | some (.dct kvs) => .dct (kvs.map fun p => frz h n f p.1) (kvs.map fun p => frz h n f p.2)
    | some (.ins c fs) => .ins c (fs.map (·.1)) (fs.map fun p => frz h n f p.2)
    | none => .loc l
  | f + 1, .dct ks vs => .dct (ks.map (frz h n f)) (vs.map (frz h n f))
  | f + 1, .ins c fs ds => .ins c fs (ds.map (frz h n f))
  | f + 1, .clo i ds => .clo i (ds.map (frz h n f))
  | f + 1, .tup ds => .tup (ds.map (frz h n f))
  | f + 1, .lst ds => .lst (ds.map (frz h n f))
  | _ + 1, d => d
section
variable {K : Fg} {R : Ap} {n n1 : Nat} {μ : Nat → Addr} {H : Hp} {h : LH}
mutual
theorem Rep.noLoc : ∀ (d : D) (v : V), Rep K R n μ H d v → noLoc n d = true
  | .non, _, _ => rfl
  | .bl _, _, _ => rfl
  | .int _, _, _ => rfl
  | .str _, _, _ => rfl
  | .tup ds, v, r => by
    simp only [Rep] at r
    obtain ⟨a, xs, _, _, r⟩ := r
    simp only [Ev.noLoc]
    exact Reps.noLocs ds xs r
  | .lst ds, v, r => by
    simp only [Rep] at r
    obtain ⟨a, xs, _, _, _, r⟩ := r
    simp only [Ev.noLoc]
    exact Reps.noLocs ds xs r
  | .loc l, v, r => by
    simp only [Rep] at r
    simp only [Ev.noLoc, decide_eq_true_eq]
    exact r.1
  | .scr _, _, _ => rfl
  | .dct ks vs, v, r => by
    simp only [Rep] at r
    obtain ⟨a, kws, ws, _, _, _, r1, r2⟩ := r
    simp only [Ev.noLoc, Reps.noLocs ks kws r1, Reps.noLocs vs ws r2]
    rfl
  | .ins c fs ds, v, r => by
    simp only [Rep] at r
    obtain ⟨a, C, dx, ws, _, _, _, _, _, r⟩ := r
    simp only [Ev.noLoc]
    exact Reps.noLocs ds ws r
  | .clo i cs, v, r => by
    simp only [Rep] at r
    obtain ⟨f, L, cl, c, ws, _, _, _, _, _, _, _, r⟩ := r
    simp only [Ev.noLoc]
    exact Reps.noLocs cs ws r
theorem Reps.noLocs : ∀ (ds : List D) (vs : List V), Reps K R n μ H ds vs → noLocs n ds = true
  | [], _, _ => rfl
  | d :: ds, vs, r => by
    simp only [Reps] at r
    obtain ⟨v, ws, rfl, r1, r2⟩ := r
    simp only [Ev.noLocs, Rep.noLoc d v r1, Reps.noLocs ds ws r2]
    rfl
end
theorem Unr.cut (hn : n ≤ n1) {a : Addr} (u : Unr R n1 μ a) : Unr R n μ a := ⟨u.1, fun l hl => u.2 l (Nat.lt_of_lt_of_le hl hn)⟩
mutual
theorem Rep.cut (hn : n ≤ n1) : ∀ (d : D) (v : V), noLoc n d = true → Rep K R n1 μ H d v → Rep K R n μ H d v
  | .non, _, _, r => by simpa only [Rep] using r
  | .bl _, _, _, r => by simpa only [Rep] using r
  | .int _, _, _, r => by simpa only [Rep] using r
  | .str _, _, _, r => by simpa only [Rep] using r
  | .tup ds, v, q, r => by
    simp only [Rep] at r ⊢
    simp only [Ev.noLoc] at q
    obtain ⟨a, xs, e, s, r⟩ := r
    exact ⟨a, xs, e, s, Reps.cut' hn ds xs q r⟩
  | .lst ds, v, q, r => by
    simp only [Rep] at r ⊢
    simp only [Ev.noLoc] at q
    obtain ⟨a, xs, e, s, u, r⟩ := r
    exact ⟨a, xs, e, s, u.cut hn, Reps.cut' hn ds xs q r⟩
  | .loc l, v, q, r => by
    simp only [Rep] at r ⊢
    simp only [Ev.noLoc, decide_eq_true_eq] at q
    exact ⟨q, r.2⟩
  | .scr _, _, _, r => by simpa only [Rep] using r
  | .dct ks vs, v, q, r => by
    simp only [Rep] at r ⊢
    simp only [Ev.noLoc, Bool.and_eq_true] at q
    obtain ⟨a, kws, ws, e, d, u, r1, r2⟩ := r
    exact ⟨a, kws, ws, e, d, u.cut hn, Reps.cut' hn ks kws q.1 r1, Reps.cut' hn vs ws q.2 r2⟩
  | .ins c fs ds, v, q, r => by
    simp only [Rep] at r ⊢
    simp only [Ev.noLoc] at q
    obtain ⟨a, C, dx, ws, e, c, s, l, u, r⟩ := r
    exact ⟨a, C, dx, ws, e, c, s, l, u.cut hn, Reps.cut' hn ds ws q r⟩
  | .clo i cs, v, q, r => by
    simp only [Rep] at r ⊢
    simp only [Ev.noLoc] at q
    obtain ⟨f, L, cl, c, ws, e, e1, e2, u1, e3, u2, e4, r⟩ := r
    exact ⟨f, L, cl, c, ws, e, e1, e2, u1.cut hn, e3, u2.cut hn, e4.keep fun a o u e => ⟨e, u.cut hn⟩, Reps.cut' hn cs ws q r⟩
theorem Reps.cut' (hn : n ≤ n1) : ∀ (ds : List D) (vs : List V), noLocs n ds = true → Reps K R n1 μ H ds vs → Reps K R n μ H ds vs
  | [], _, _, r => by simpa only [Reps] using r
  | d :: ds, vs, q, r => by
    simp only [Reps] at r ⊢
    simp only [Ev.noLocs, Bool.and_eq_true] at q
    obtain ⟨v, ws, e, r1, r2⟩ := r
    exact ⟨v, ws, e, Rep.cut hn d v q.1 r1, Reps.cut' hn ds ws q.2 r2⟩
end
/-- keys bear no locations -/
theorem frz_nk : ∀ (f : Nat) {d : D} {k : NestedKey}, nk d = some k → Ev.frz h n f d = d
  | 0, _, _, _ => rfl
  | f + 1, .tup ds, k, e => by
    simp only [nk] at e
    split at e
    · rename_i l q
      simp only [Ev.frz]
      have all : ∀ (ds : List D) (l : List NestedKey), nks ds = some l → ds.map (Ev.frz h n f) = ds := by
        intro ds
        induction ds with
        | nil => intro l _; rfl
        | cons d ds ih =>
          intro l e
          simp only [nks] at e
          split at e
          · rename_i x l' q1 q2
            rw [List.map_cons, frz_nk f q1, ih l' q2]
          · cases e
      rw [all ds l q]
    · cases e
  | f + 1, .non, _, _ => rfl
  | f + 1, .int _, _, _ => rfl
  | f + 1, .str _, _, _ => rfl
  | f + 1, .bl _, _, e => by simp [nk] at e
  | f + 1, .lst _, _, e => by simp [nk] at e
  | f + 1, .loc _, _, e => by simp [nk] at e
  | f + 1, .scr _, _, e => by simp [nk] at e
  | f + 1, .dct _ _, _, e => by simp [nk] at e
  | f + 1, .ins _ _ _, _, e => by simp [nk] at e
  | f + 1, .clo _ _, _, e => by simp [nk] at e
theorem frz_keyD (f : Nat) (k : Key) : Ev.frz h n f (keyD k) = keyD k := by
  cases k <;> cases f <;> rfl
theorem DRaw.frz_keys {a : Addr} {ks : List D} {kws ws : List V} (d : DRaw H a ks kws ws) (f : Nat) : ks.map (Ev.frz h n f) = ks := by
  rcases d with ⟨kvs, _, e, _⟩ | ⟨xs, _, _, e, _⟩
  · rw [e, List.map_map]
    exact List.map_congr_left fun p _ => frz_keyD f p.1
  · have all : ∀ (ks : List D) (xs : List (NestedKey × Addr × V)), ks.map nk = xs.map (fun x => some x.1) → ks.map (Ev.frz h n f) = ks := by
      intro ks
      induction ks with
      | nil => intro _ _; rfl
      | cons k ks ih =>
        intro xs e
        cases xs with
        | nil => simp at e
        | cons x xs =>
          simp only [List.map_cons, List.cons.injEq] at e
          rw [List.map_cons, frz_nk f e.1, ih xs e.2]
    exact all ks xs e
theorem Rep.frz (S : SimH K R μ H h) (hn : n ≤ h.length) : ∀ (f : Nat) (d : D) (v : V), Ev.noLoc n (Ev.frz h n f d) = true → Rep K R h.length μ H d v → Rep K R n μ H (Ev.frz h n f d) v
  | 0, d, v, q, r => Rep.cut hn d v q r
  | f + 1, d, v, q, r => by
    have all : ∀ (ds : List D) (vs : List V), Ev.noLocs n (ds.map (Ev.frz h n f)) = true → Reps K R h.length μ H ds vs → Reps K R n μ H (ds.map (Ev.frz h n f)) vs := by
      intro ds
      induction ds with
      | nil => intro vs _ r; simpa only [Reps, List.map_nil] using r
      | cons d ds ih =>
        intro vs q r
        simp only [List.map_cons, Ev.noLocs, Bool.and_eq_true] at q
        simp only [Reps, List.map_cons] at r ⊢
        obtain ⟨v, ws, e, r1, r2⟩ := r
        exact ⟨v, ws, e, Rep.frz S hn f d v q.1 r1, ih ws q.2 r2⟩
    cases d with
    | tup ds =>
      simp only [Ev.frz, Ev.noLoc] at q
      simp only [Ev.frz, Rep] at r ⊢
      obtain ⟨a, xs, e, s, r⟩ := r
      exact ⟨a, xs, e, s, all ds xs q r⟩
    | lst ds =>
      simp only [Ev.frz, Ev.noLoc] at q
      simp only [Ev.frz, Rep] at r ⊢
      obtain ⟨a, xs, e, s, u, r⟩ := r
      exact ⟨a, xs, e, s, u.cut hn, all ds xs q r⟩
    | dct ks vs =>
      simp only [Ev.frz, Ev.noLoc, Bool.and_eq_true] at q
      simp only [Ev.frz, Rep] at r ⊢
      obtain ⟨a, kws, ws, e, s, u, r1, r2⟩ := r
      have ek := s.frz_keys (h := h) (n := n) f
      exact ⟨a, kws, ws, e, by rw [ek]; exact s, u.cut hn, all ks kws q.1 r1, all vs ws q.2 r2⟩
    | ins c fs ds =>
      simp only [Ev.frz, Ev.noLoc] at q
      simp only [Ev.frz, Rep] at r ⊢
      obtain ⟨a, C, dx, ws, e, c, s, l, u, r⟩ := r
      exact ⟨a, C, dx, ws, e, c, s, l, u.cut hn, all ds ws q r⟩
    | clo i cs =>
      simp only [Ev.frz, Ev.noLoc] at q
      simp only [Ev.frz, Rep] at r ⊢
      obtain ⟨g, L, cl, c, ws, e, e1, e2, u1, e3, u2, e4, r⟩ := r
      exact ⟨g, L, cl, c, ws, e, e1, e2, u1.cut hn, e3, u2.cut hn, e4.keep fun a o u e => ⟨e, u.cut hn⟩, all cs ws q r⟩
    | loc l =>
      simp only [Ev.frz] at q ⊢
      split
      · rename_i hl
        simp only [Rep] at r ⊢
        exact ⟨hl, r.2⟩
      · rename_i hl
        rw [if_neg hl] at q
        have un : ∀ {l2}, l2 = l → l < h.length → Unr R n μ (μ l2) := fun {l2} e hl2 => by
          subst e
          refine ⟨S.sep l2 hl2, fun l' hl' z => hl ?_⟩
          rw [← S.inj l' l2 (Nat.lt_of_lt_of_le hl' hn) hl2 z]
          exact hl'
        split at q
        · rename_i ds e
          simp only [Ev.noLoc] at q
          simp only [Rep] at r
          obtain ⟨hl2, rfl⟩ := r
          obtain ⟨xs, e1, ra⟩ := S.obj l _ e
          simp only [Rep]
          exact ⟨μ l, xs, rfl, e1, un rfl hl2, all ds xs q ra⟩
        · rename_i kvs e
          simp only [Ev.noLoc, Bool.and_eq_true] at q
          simp only [Rep] at r
          obtain ⟨hl2, rfl⟩ := r
          obtain ⟨kws, ws, e1, r1, r2⟩ := S.obj l _ e
          have ek := e1.frz_keys (h := h) (n := n) f
          rw [List.map_map] at ek
          have ek : (kvs.map fun p => Ev.frz h n f p.1) = kvs.map (·.1) := ek
          have ev : (kvs.map fun p => Ev.frz h n f p.2) = (kvs.map (·.2)).map (Ev.frz h n f) := by rw [List.map_map]; rfl
          simp only [Rep]
          refine ⟨μ l, kws, ws, rfl, by rw [ek]; exact e1, un rfl hl2, ?_, by rw [ev] at q ⊢; exact all _ ws q.2 r2⟩
          have ek2 : (kvs.map fun p => Ev.frz h n f p.1) = (kvs.map (·.1)).map (Ev.frz h n f) := by rw [List.map_map]; rfl
          rw [ek2] at q ⊢
          exact all _ kws q.1 r1
        · rename_i c fs e
          simp only [Ev.noLoc] at q
          simp only [Rep] at r
          obtain ⟨hl2, rfl⟩ := r
          obtain ⟨C, dx, ws, c1, e1, ra⟩ := S.obj l _ e
          have ev : (fs.map fun p => Ev.frz h n f p.2) = (fs.map (·.2)).map (Ev.frz h n f) := by rw [List.map_map]; rfl
          have hlen := ra.length
          simp only [Rep]
          exact ⟨μ l, C, dx, ws, rfl, c1, e1, by simpa using hlen, un rfl hl2, by rw [ev] at q ⊢; exact all _ ws q ra⟩
        · rename_i e
          exact Rep.cut hn _ _ q r
    | non => exact Rep.cut hn _ _ q r
    | bl _ => exact Rep.cut hn _ _ q r
    | int _ => exact Rep.cut hn _ _ q r
    | str _ => exact Rep.cut hn _ _ q r
    | scr _ => exact Rep.cut hn _ _ q r
theorem RepO.cut (hn : n ≤ n1) {a : Addr} {o : O} (q : noLocO n o = true) (r : RepO K R n1 μ H a o) : RepO K R n μ H a o := by
  cases o with
  | lst ds =>
    obtain ⟨xs, e, ra⟩ := r
    exact ⟨xs, e, Reps.cut' hn ds xs q ra⟩
  | dct kvs =>
    obtain ⟨kws, ws, e, r1, r2⟩ := r
    simp only [noLocO, Bool.and_eq_true] at q
    exact ⟨kws, ws, e, Reps.cut' hn _ kws q.1 r1, Reps.cut' hn _ ws q.2 r2⟩
  | ins c fs =>
    obtain ⟨C, dx, ws, c1, e, ra⟩ := r
    exact ⟨C, dx, ws, c1, e, Reps.cut' hn _ ws q ra⟩
theorem RepO.noLocO {a : Addr} {o : O} (r : RepO K R n μ H a o) : Ev.noLocO n o = true := by
  cases o with
  | lst ds =>
    obtain ⟨xs, e, ra⟩ := r
    exact Reps.noLocs ds xs ra
  | dct kvs =>
    obtain ⟨kws, ws, e, r1, r2⟩ := r
    simp only [Ev.noLocO, Reps.noLocs _ kws r1, Reps.noLocs _ ws r2]
    rfl
  | ins c fs =>
    obtain ⟨C, dx, ws, c1, e, ra⟩ := r
    exact Reps.noLocs _ ws ra
/-- the run's result is promised as s -/
inductive Fin (h : LH) : Res D → Res D → Prop
  | same (r : Res D) : Fin h r r
  | frz (f : Nat) {d : D} {h1 : LH} (hl : h.length ≤ h1.length) (hp : ∀ l o, l < h.length → h1[l]? = some o → h[l]? = some o ∨ noLocO h.length o = true) (hd : noLoc h.length (frz h1 h.length f d) = true) : Fin h (.ok d h1) (.ok (frz h1 h.length f d) (h1.take h.length))
theorem Fin.post {K : Fg} {mg : Mg} {E : XK} {R : Ap} {μ : Nat → Addr} {H : Hp} {h : LH} {r s : Res D} {Q : VK} (S : SimH K R μ H h) (f : Fin h r s) (p : Post K mg E R h.length μ H (PV K R Q) s) : Post K mg E R h.length μ H (PV K R Q) r := by
  cases f with
  | same => exact p
  | frz f hl hp hd =>
    rename_i d h1
    intro μ1 H1 e1 S1 v rv
    have ht : (h1.take h.length).length = h.length := by rw [List.length_take]; omega
    have e2 : Ext h.length μ H (h1.take h.length).length μ1 H1 := by
      rw [ht]
      exact ⟨Nat.le_refl _, e1.agree, e1.keep, fun l a b => absurd (Nat.lt_of_lt_of_le b a) (Nat.lt_irrefl _)⟩
    have S2 : SimH K R μ1 H1 (h1.take h.length) := by
      refine ⟨fun l hl' => S1.sep l (by rw [ht] at hl'; omega), S1.apl, fun i j hi hj => S1.inj i j (by rw [ht] at hi; omega) (by rw [ht] at hj; omega), fun l o e => ?_⟩
      have hl2 := (List.getElem?_eq_some_iff.mp e).1
      rw [ht] at hl2
      rw [List.getElem?_take_of_lt hl2] at e
      have ro := S1.obj l o e
      rw [ht]
      refine ro.cut hl ?_
      rcases hp l _ hl2 e with z | z
      · exact (S.obj l _ z).noLocO
      · exact z
    refine p μ1 H1 e2 S2 v ?_
    rw [ht]
    exact Rep.frz S1 hl f d v hd rv
end
open Classical in
noncomputable def frzR (f : Nat) (h : LH) : Res D → Res D
  | .ok d h1 => if h.length ≤ h1.length ∧ (∀ l o, l < h.length → h1[l]? = some o → h[l]? = some o ∨ noLocO h.length o = true) ∧ noLoc h.length (frz h1 h.length f d) = true then .ok (frz h1 h.length f d) (h1.take h.length) else .no
  | r => r
theorem frzR_fin {f : Nat} {h : LH} {r : Res D} : frzR f h r = .no ∨ Fin h r (frzR f h r) := by
  cases r with
  | ok d h1 =>
    by_cases c : h.length ≤ h1.length ∧ (∀ l o, l < h.length → h1[l]? = some o → h[l]? = some o ∨ noLocO h.length o = true) ∧ noLoc h.length (frz h1 h.length f d) = true
    · right
      simp only [frzR]
      rw [if_pos c]
      exact Fin.frz f c.1 c.2.1 c.2.2
    · left
      simp only [frzR]
      rw [if_neg c]
  | ex x h1 => exact .inr (.same _)
  | no => exact .inl rfl
end Ev
namespace Ev
open PySem L2
variable [Tabs]
section
variable {X : Cx}
theorem atI_map {α β : Type} {f : α → β} {xs : List α} {i : Int} {a : α} (h : atI xs i = some a) : atI (xs.map f) i = some (f a) := by
  unfold atI at *
  rw [List.length_map]
  cases e : ixN xs.length i with
  | none => rw [e] at h; cases h
  | some j =>
    rw [e] at h
    simp only [Option.bind_some] at h ⊢
    rw [List.getElem?_map, h]
    rfl
theorem Reps.atI {K : Fg} {R : Ap} {n : Nat} {μ : Nat → Addr} {H : Hp} {ds : List D} {vs : List V} {i : Int} {d : D} (r : Reps K R n μ H ds vs) (e : L2.atI ds i = some d) : ∃ v, L2.atI vs i = some v ∧ Rep K R n μ H d v := by
  unfold L2.atI at *
  rw [r.length] at e
  cases q : ixN vs.length i with
  | none => rw [q] at e; cases e
  | some j =>
    rw [q] at e
    simp only [Option.bind_some] at e ⊢
    exact r.get e
theorem opIdxS_ok : IxR X (rD2 X.K X.mg opIdxS) := by
  intro value slice pins s σ H x y v u Q I rx ry hq
  obtain ⟨E, R, μ, h, d, e, S, r1, r2, p⟩ := hq
  unfold opIdxS at p
  split at p
  · rename_i k
    cases repI.mp r2
    split at p
    · rename_i ds
      split at p
      · rename_i z q
        simp only [Rep] at r1
        obtain ⟨a, xs, rfl, sq, ra⟩ := r1
        obtain ⟨w, q2, rw'⟩ := ra.atI q
        exact ix_tup value slice pins s σ H _ _ v u Q I rx ry ⟨a, xs, k, w, rfl, rfl, sq, q2, p.val S rw'⟩
      · exact p.elim
    · split at p
      · split at p
        · rename_i c q
          cases repS.mp r1
          exact ix_str value slice pins s σ H _ _ v u Q I rx ry ⟨_, k, c, rfl, rfl, by assumption, q, p.str S⟩
        · exact p.elim
      · exact p.elim
    · rename_i ns
      split at p
      · rename_i m q
        simp only [Rep] at r1
        obtain ⟨a, rfl, sq⟩ := r1
        exact ix_list value slice pins s σ H _ _ v u Q I rx ry ⟨a, _, k, _, rfl, rfl, sq.sq, atI_map q, p.int S⟩
      · exact p.elim
    · split at p
      · rename_i ds q0
        split at p
        · rename_i z q
          obtain ⟨a, xs, rfl, sq, ra⟩ := r1.lst_of S q0
          obtain ⟨w, q2, rw'⟩ := ra.atI q
          exact ix_list value slice pins s σ H _ _ v u Q I rx ry ⟨a, xs, k, w, rfl, rfl, SqL.of sq, q2, p.val S rw'⟩
        · exact p.elim
      · exact p.elim
  · exact p.elim
theorem dv_typeIs {pins : List (Addr × Obj)} {s : Shared} {σ : St} {H : Hp} {R : Ap} {n : Nat} {μ : Nat → Addr} {a : Addr} {kvs : List (D × D)} (I : Inv X pins σ H s) (dv : DV X.K R n μ H a kvs) : s.TypeIs (.ref a) "dict" ∧ ∀ b, Value.ref a = .ref b → ∃ ob, s.heap.get? b = some ob ∧ ob.dict = none := by
  obtain ⟨kws, ws, d, _⟩ := dv
  rcases d with ⟨kk, e, _⟩ | ⟨xs, _, e, _⟩
  · obtain ⟨_, hd, vs, _, dd⟩ := dk_of I.hok e
    refine ⟨dd.typeIs, fun b q => ?_⟩
    cases q
    obtain ⟨ob, _, _, h1, h2, _⟩ := dd
    exact ⟨ob, h1, h2.2.1⟩
  · obtain ⟨⟨_, _, ys, _, o, es, ep, h1, h2, _⟩, _, _⟩ := I.hok a _ e
    refine ⟨⟨o, h1, h2.1⟩, fun b q => ?_⟩
    cases q
    exact ⟨o, h1, h2.2.1⟩
/-- the end of a subscription of a dict -/
theorem tail_dict {prog : Program} {w : World} {A : Around} {E : Value → Shared → Prop} {s : Shared} {value slice : Expr} {o i : Value} {T id : String} {Q : Value → Shared → Prop} (hl : typeLookup (.type T) "__getitem__" = pure (some (.builtin id))) (hs : subscripted slice false o i = operate [o, i] (getItem o i)) (hT : s.TypeIs o T) (h : wpAny (model prog w) A (getItem o i) Q E s) : wpAny (model prog w) A (PyProof.Rows.subscriptTail value slice o i) Q E s := by
  unfold PyProof.Rows.subscriptTail
  refine wpAny_bind ?_
  rw [getitemInPython_of_ne hT.not_modules]
  refine wpAny_bind (wpAny_specialOf hT hl ?_)
  have fin : wpAny (model prog w) A (subscripted slice false o i) (fun r s₃ => wpAny (model prog w) A (letTemporaryGo value o r >>= fun _ => pure r) Q E s₃) E s := by
    rw [hs]
    exact wpAny_operating (wpAny_mono h (fun r s₃ h₃ => wpAny_bind (wpAny_letTemporaryGo (wpAny_pure h₃))) fun _ _ x => x)
  first
    | exact wpAny_pure (wpAny_bind fin)
    | exact wpAny_bind (wpAny_pure (wpAny_bind fin))
    | exact wpAny_bind fin
theorem opIdx_ok (hw : Tabs.w = X.w) (hu : X.A.units + 65 < cLine) : IxR X (rD2 X.K X.mg opIdx) := by
  intro value slice pins s σ H x y v u Q I rx ry hq hs
  obtain ⟨E, R, μ, h, d, e, S, r1, r2, p⟩ := hq
  unfold opIdx at p
  split at p
  · rename_i kvs e1
    split at p
    · rename_i ko
      split at p
      · rename_i vd e2
        obtain ⟨a, rfl, dv⟩ := asD_of S r1 e1
        obtain rfl : v = Value.ref a := rx
        exact tail_dict PySem.F.slot_dict_getitem.lookup hs (dv_typeIs I dv).1 (dv_getItem hw (by omega) I dv ko r2 ry e2 fun vv w' s' rv rw' I' => ⟨vv, H, I', rw', p.val S rv⟩)
      · exact p.elim
    · exact p.elim
  · exact opIdxS_ok value slice pins s σ H x y v u Q I rx ry ⟨E, R, μ, h, d, e, S, r1, r2, p⟩ hs
theorem cut_whole {α : Type} {xs : List α} {lo hi : Option Int} (h : HT.sIx xs.length 0 lo = 0 ∧ HT.sIx xs.length xs.length hi = xs.length) : cutL xs lo hi = xs := by
  unfold cutL
  rw [h.1, h.2]
  simp
def rSl (K : Fg) (mg : Mg) (m : Bool) : V → Option Int → Option Int → Hp → VK → Prop := fun x lo hi H Q => ∃ E R μ h d, SimH K R μ H h ∧ Rep K R h.length μ H d x ∧ Post K mg E R h.length μ H (PV K R Q) (opCut m d lo hi h)
theorem opCut_ok {m : Bool} : SlR X (rSl X.K X.mg m) := by
  intro pins s σ H x v vl vu lo hi sl Q I rx hs pl pu hq
  obtain ⟨E, R, μ, h, d, S, r1, p⟩ := hq
  unfold opCut at p
  split at p
  · rename_i ds
    simp only [Rep] at r1
    obtain ⟨a, xs, rfl, sq, ra⟩ := r1
    refine sl_tupA pins s σ H _ v vl vu lo hi sl Q I rx hs pl pu ⟨a, xs, rfl, sq, fun w => ?_, fun _ => tup_ok S (ra.cut lo hi) p⟩
    refine p.val S ?_
    rw [cut_whole (by rw [ra.length]; exact w)]
    simp only [Rep]
    exact ⟨a, xs, rfl, sq, ra⟩
  · split at p
    · cases repS.mp r1
      exact sl_str pins s σ H _ v vl vu lo hi sl Q I rx hs pl pu ⟨_, rfl, by assumption, p.str S⟩
    · exact p.elim
  · split at p
    · rename_i ds q
      obtain ⟨a, xs, rfl, sq, ra⟩ := r1.lst_of S q
      exact sl_list pins s σ H _ v vl vu lo hi sl Q I rx hs pl pu ⟨a, xs, rfl, SqL.of sq, lst_ok S (ra.cut lo hi) p⟩
    · exact p.elim

theorem tyN_mem {h : LH} {d : D} {t : String} (e : tyN h d = some t) : t ∈ ["NoneType", "bool", "int", "str", "tuple", "list"] := by
  unfold tyN at e
  split at e
  · cases e; decide
  · cases e; decide
  · cases e; decide
  · cases e; decide
  · cases e; decide
  · split at e
    · cases e; decide
    · cases e
theorem kit_tab : ∀ t ∈ ["NoneType", "bool", "int", "str", "tuple", "list"], ∀ T ∈ isiTys, kitB t T = some (t == T || (t == "bool" && T == "int")) := by decide +kernel
theorem tyN_ok {K : Fg} {R : Ap} {μ : Nat → Addr} {H : Hp} {h : LH} {d : D} {t : String} {v : V} (S : SimH K R μ H h) (r : Rep K R h.length μ H d v) (e : tyN h d = some t) : TyX K H v (.type t) := by
  have gen : (match asL h d with | some _ => some "list" | none => none) = some t → TyX K H v (.type t) := fun e => by
    split at e
    · rename_i ds q
      cases e
      obtain ⟨a, xs, rfl, sq, _⟩ := r.lst_of S q
      exact .base (.lst sq)
    · cases e
  cases d with
  | non => cases repN.mp r; cases e; exact .base .non
  | bl b => cases repB.mp r; cases e; exact .base (.bl b)
  | int b => cases repI.mp r; cases e; exact .base (.int b)
  | str b => cases repS.mp r; cases e; exact .base (.str b)
  | tup ds =>
    cases e
    simp only [Rep] at r
    obtain ⟨a, xs, rfl, sq, _⟩ := r
    rcases sq with (sq | ⟨o, sq⟩) | ⟨o, its, n, q1, q2, _⟩
    · exact .base (.tup sq)
    · exact .fTuple sq
    · exact .kTuple q1 q2
  | _ => exact gen e
theorem isi_ok {K : Fg} {R : Ap} {μ : Nat → Addr} {H : Hp} {h : LH} {d : D} {T : String} {b : Bool} {v : V} {Q : VK} (S : SimH K R μ H h) (r : Rep K R h.length μ H d v) (e : isiD h T d = some b) (q : Q (.bl b) H) : rIsi K [v, .ty T] H Q := by
  unfold isiD at e
  split at e
  · rename_i t q1
    split at e
    · rename_i c
      cases e
      exact ⟨v, .ty T, .type t, .type T, _, rfl, .ty T, tyN_ok S r q1, kit_ty (kit_tab t (tyN_mem q1) T (by simpa using c)), q⟩
    · cases e
  · cases e

def rBi (K : Fg) (mg : Mg) (f : Bi) (m : Bool) : List V → Hp → VK → Prop := fun vs H Q => ∃ E R μ h ds, SimH K R μ H h ∧ Reps K R h.length μ H ds vs ∧ Post K mg E R h.length μ H (PV K R Q) (biF f m ds h)
theorem reps1 {K : Fg} {R : Ap} {n : Nat} {μ : Nat → Addr} {H : Hp} {d : D} {vs : List V} : Reps K R n μ H [d] vs ↔ ∃ v, vs = [v] ∧ Rep K R n μ H d v := by
  simp only [Reps]
  constructor
  · rintro ⟨v, ws, rfl, r, rfl⟩; exact ⟨v, rfl, r⟩
  · rintro ⟨v, rfl, r⟩; exact ⟨v, [], rfl, r, rfl⟩
theorem reps2 {K : Fg} {R : Ap} {n : Nat} {μ : Nat → Addr} {H : Hp} {d e : D} {vs : List V} : Reps K R n μ H [d, e] vs ↔ ∃ v w, vs = [v, w] ∧ Rep K R n μ H d v ∧ Rep K R n μ H e w := by
  simp only [Reps]
  constructor
  · rintro ⟨v, ws, rfl, r, w, ws', rfl, r', rfl⟩; exact ⟨v, w, rfl, r, r'⟩
  · rintro ⟨v, w, rfl, r, r'⟩; exact ⟨v, [w], rfl, r, w, [], rfl, r', rfl⟩
theorem boolsOf_ok {K : Fg} {R : Ap} {n : Nat} {μ : Nat → Addr} {H : Hp} : ∀ {ds : List D} {bs : List Bool} {vs : List V}, boolsOf ds = some bs → Reps K R n μ H ds vs → vs = bs.map V.bl
  | [], _, _, e, r => by simp only [boolsOf] at e; cases e; simp only [Reps] at r; subst r; rfl
  | d :: ds, bs, vs, e, r => by
    cases d <;> simp only [boolsOf] at e <;> try (cases e; done)
    split at e
    · rename_i l q
      cases e
      simp only [Reps] at r
      obtain ⟨v, ws, rfl, r1, r2⟩ := r
      rw [repB.mp r1, boolsOf_ok q r2]
      rfl
    · cases e
theorem intsOf_ok {K : Fg} {R : Ap} {n : Nat} {μ : Nat → Addr} {H : Hp} : ∀ {ds : List D} {bs : List Int} {vs : List V}, intsOf ds = some bs → Reps K R n μ H ds vs → vs = bs.map V.int
  | [], _, _, e, r => by simp only [intsOf] at e; cases e; simp only [Reps] at r; subst r; rfl
  | d :: ds, bs, vs, e, r => by
    cases d <;> simp only [intsOf] at e <;> try (cases e; done)
    split at e
    · rename_i l q
      cases e
      simp only [Reps] at r
      obtain ⟨v, ws, rfl, r1, r2⟩ := r
      rw [repI.mp r1, intsOf_ok q r2]
      rfl
    · cases e
theorem strsOf_ok {K : Fg} {R : Ap} {n : Nat} {μ : Nat → Addr} {H : Hp} : ∀ {ds : List D} {bs : List Str} {vs : List V}, strsOf ds = some bs → Reps K R n μ H ds vs → vs = bs.map V.str
  | [], _, _, e, r => by simp only [strsOf] at e; cases e; simp only [Reps] at r; subst r; rfl
  | d :: ds, bs, vs, e, r => by
    cases d <;> simp only [strsOf] at e <;> try (cases e; done)
    split at e
    · rename_i l q
      cases e
      simp only [Reps] at r
      obtain ⟨v, ws, rfl, r1, r2⟩ := r
      rw [repS.mp r1, strsOf_ok q r2]
      rfl
    · cases e
def biV : Bi → Value
  | .len => .builtin "len" | .int1 => .type "int" | .abs1 => .builtin "abs" | .min2 => .builtin "min" | .max2 => .builtin "max"
  | .tuple1 => .type "tuple" | .list1 => .type "list" | .all1 => .builtin "all" | .sum1 => .builtin "sum" | .str1 => .type "str"
theorem reps_strs {K : Fg} {R : Ap} {n : Nat} {μ : Nat → Addr} {H : Hp} : ∀ (ys : List Str), Reps K R n μ H (ys.map D.str) (ys.map V.str)
  | [] => by simp [Reps]
  | y :: ys => by
    simp only [List.map_cons, Reps]
    exact ⟨_, _, rfl, repS.mpr rfl, reps_strs ys⟩
theorem biF_ok (hc : X.calm = true) {f : Bi} {m : Bool} : CallR X (biV f) (rBi X.K X.mg f m) := by
  intro pins s σ H xs us Q I rx hq
  obtain ⟨E, R, μ, h, ds, S, r, p⟩ := hq
  unfold biF at p
  split at p
  · rename_i d
    obtain ⟨v, rfl, r1⟩ := reps1.mp r
    split at p
    · rename_i n q
      refine call_len pins s σ H _ us Q I rx ⟨v, ?_⟩
      have pi := p.int S
      unfold lenD at q
      split at q
      · split at q
        · cases q
          cases repS.mp r1
          exact ⟨_, rfl, ⟨by assumption, rfl⟩, pi⟩
        · cases q
      · cases q
        simp only [Rep] at r1
        obtain ⟨a, ys, rfl, sq, ra⟩ := r1
        exact ⟨_, rfl, .inr ⟨_, sq, ra.length⟩, pi⟩
      · cases q
        simp only [Rep] at r1
        obtain ⟨a, rfl, sq⟩ := r1
        exact ⟨_, rfl, .inl ⟨_, sq.sq, by rw [List.length_map]⟩, pi⟩
      · split at q
        · rename_i l q'
          cases q
          obtain ⟨a, ys, rfl, sq, ra⟩ := r1.lst_of S q'
          exact ⟨_, rfl, .inl ⟨_, SqL.of sq, ra.length⟩, pi⟩
        · cases q
    · exact p.elim
  · obtain ⟨v, rfl, r1⟩ := reps1.mp r
    cases repI.mp r1
    exact call_int1 pins s σ H _ us Q I rx (.inl ⟨_, rfl, p.int S⟩)
  · obtain ⟨v, rfl, r1⟩ := reps1.mp r
    cases repB.mp r1
    exact call_int1 pins s σ H _ us Q I rx (.inr ⟨_, rfl, p.int S⟩)
  · obtain ⟨v, rfl, r1⟩ := reps1.mp r
    cases repS.mp r1
    split at p
    · rename_i n hn
      split at p
      · rename_i hl
        exact call_int_str pins s σ H _ us Q I rx ⟨_, _, rfl, hn, hl, p.int S⟩
      · exact p.elim
    · exact p.elim
  · obtain ⟨v, rfl, r1⟩ := reps1.mp r
    cases repI.mp r1
    exact call_abs pins s σ H _ us Q I rx ⟨_, rfl, p.int S⟩
  · obtain ⟨v, w, rfl, r1, r2⟩ := reps2.mp r
    cases repI.mp r1; cases repI.mp r2
    exact call_min2 hc pins s σ H _ us Q I rx ⟨_, _, rfl, p.int S⟩
  · obtain ⟨v, w, rfl, r1, r2⟩ := reps2.mp r
    cases repI.mp r1; cases repI.mp r2
    exact call_max2 hc pins s σ H _ us Q I rx ⟨_, _, rfl, p.int S⟩
  · obtain ⟨v, rfl, r1⟩ := reps1.mp r
    split at p
    · rename_i l q
      obtain ⟨a, ys, rfl, sq, ra⟩ := r1.seq_of S q
      refine call_tuple_of pins s σ H _ us Q I rx ⟨a, ys, rfl, ?_⟩
      rcases sq with sq | sq
      · exact .inl ⟨sq, tup_ok S ra p⟩
      · refine .inr ⟨sq, p.val S ?_⟩
        simp only [Rep]
        exact ⟨a, ys, rfl, sq, ra⟩
    · exact p.elim
  · obtain ⟨v, rfl, r1⟩ := reps1.mp r
    split at p
    · rename_i l q
      obtain ⟨a, ys, rfl, sq, ra⟩ := r1.seq_of S q
      exact call_list_of pins s σ H _ us Q I rx ⟨a, ys, rfl, sq, lst_ok S ra p⟩
    · exact p.elim
  · obtain ⟨v, rfl, r1⟩ := reps1.mp r
    split at p
    · rename_i bs q
      obtain ⟨l, q1, q2⟩ := Option.bind_eq_some_iff.mp q
      obtain ⟨a, ys, rfl, sq, ra⟩ := r1.lst_of S q1
      rw [boolsOf_ok q2 ra] at sq
      exact cr_all hc pins s σ H _ us Q I rx ⟨a, bs, rfl, SqL.of sq, p.bl S⟩
    · exact p.elim
  · obtain ⟨v, rfl, r1⟩ := reps1.mp r
    split at p
    · rename_i bs q
      obtain ⟨l, q1, q2⟩ := Option.bind_eq_some_iff.mp q
      obtain ⟨a, ys, rfl, sq, ra⟩ := r1.lst_of S q1
      rw [intsOf_ok q2 ra] at sq
      exact cr_sum hc pins s σ H _ us Q I rx ⟨a, bs, rfl, SqL.of sq, p.int S⟩
    · exact p.elim
  · obtain ⟨v, rfl, r1⟩ := reps1.mp r
    split at p
    · cases repI.mp r1
      exact call_str_int pins s σ H _ us Q I rx ⟨_, rfl, by assumption, p.str S⟩
    · exact p.elim
  · exact p.elim

def rMt (K : Fg) (mg : Mg) (f : Mt) (m : Bool) : V → List V → Hp → VK → Prop := fun x vs H Q => ∃ E R μ h d ds, SimH K R μ H h ∧ Rep K R h.length μ H d x ∧ Reps K R h.length μ H ds vs ∧ Post K mg E R h.length μ H (PV K R Q) (mtF f m d ds h)
def mtId : Mt → String
  | .append => "list.append" | .pop0 => "list.pop" | .pop => "list.pop" | .popAt => "list.pop" | .index => "list.index" | .join => "str.join" | .split => "str.split" | .get2 => "dict.get" | .popK => "dict.pop"
def mtT : Mt → String
  | .append => "list" | .pop0 => "list" | .pop => "list" | .popAt => "list" | .index => "list" | .join => "str" | .split => "str" | .get2 => "dict" | .popK => "dict"
def mtName : Mt → Str
  | .append => "append" | .pop0 => "pop" | .pop => "pop" | .popAt => "pop" | .index => "index" | .join => "join" | .split => "split" | .get2 => "get" | .popK => "pop"
theorem Reps.eraseIdx {K : Fg} {R : Ap} {n : Nat} {μ : Nat → Addr} {H : Hp} : ∀ {ds : List D} {vs : List V} {k : Nat}, Reps K R n μ H ds vs → Reps K R n μ H (ds.eraseIdx k) (vs.eraseIdx k)
  | [], vs, k, r => by
    simp only [Reps] at r
    subst r
    simp only [List.eraseIdx_nil, Reps]
  | d :: ds, vs, k, r => by
    simp only [Reps] at r
    obtain ⟨v, ws, rfl, r1, r2⟩ := r
    cases k with
    | zero => exact r2
    | succ k =>
      simp only [List.eraseIdx_cons_succ, Reps]
      exact ⟨v, _, rfl, r1, Reps.eraseIdx r2⟩
theorem mtF_ok (hw : Tabs.w = X.w) (hu : X.A.units + 65 < cLine) {f : Mt} {m : Bool} : MtM X (mtId f) (rMt X.K X.mg f m) := by
  intro pins s σ H x xs v us Q I rx rxs hq
  obtain ⟨E, R, μ, h, d, ds, S, r, rs, p⟩ := hq
  unfold mtF at p
  split at p
  · rename_i n d
    obtain ⟨w, rfl, rw'⟩ := reps1.mp rs
    simp only [Rep] at r
    obtain ⟨hn, rfl⟩ := r
    split at p
    · rename_i ys q
      split at p
      · rename_i hl
        obtain ⟨zs, e, ra⟩ := S.obj n _ q
        refine mt_append pins s σ H _ _ v us Q I rx rxs ⟨_, zs, w, rfl, rfl, e, by rw [← ra.length]; exact hl, ?_⟩
        have e' : Ext h.length μ H (h.set n (O.lst (ys ++ [d]))).length μ (upd H (μ n) (.lst (zs ++ [w]))) := by rw [List.length_set]; exact Ext.set hn
        exact p μ _ e' (S.set hn (ra.append (reps1.mpr ⟨w, rfl, rw'⟩))) _ (repN.mpr rfl)
      · exact p.elim
    · exact p.elim
  · rename_i n
    simp only [Reps] at rs
    subst rs
    simp only [Rep] at r
    obtain ⟨hn, rfl⟩ := r
    split at p
    · rename_i ys q
      split at p
      · rename_i y q2
        obtain ⟨zs, e, ra⟩ := S.obj n _ q
        rw [ra.length] at q2
        obtain ⟨w, q3, rw'⟩ := ra.get q2
        refine mt_pop pins s σ H _ _ v us Q I rx rxs ⟨_, zs, w, rfl, rfl, e, q3, ?_⟩
        have e' : Ext h.length μ H (h.set n (O.lst ys.dropLast)).length μ (upd H (μ n) (.lst zs.dropLast)) := by rw [List.length_set]; exact Ext.set hn
        refine p μ _ e' (S.set hn ra.dropLast) _ ?_
        exact Rep.mono S e' _ _ rw'
      · exact p.elim
    · exact p.elim
  · rename_i n i
    obtain ⟨w, rfl, rw'⟩ := reps1.mp rs
    cases repI.mp rw'
    simp only [Rep] at r
    obtain ⟨hn, rfl⟩ := r
    split at p
    · rename_i ys q
      split at p
      · rename_i hi
        split at p
        · rename_i k qk
          split at p
          · rename_i y q2
            obtain ⟨zs, e, ra⟩ := S.obj n _ q
            obtain ⟨w, q3, rw'⟩ := ra.get q2
            rw [ra.length] at qk
            refine mt_popAt pins s σ H _ _ v us Q I rx rxs ⟨_, zs, i, k, w, rfl, rfl, e, hi.1, hi.2, qk, q3, ?_⟩
            have e' : Ext h.length μ H (h.set n (O.lst (ys.eraseIdx k))).length μ (upd H (μ n) (.lst (zs.eraseIdx k))) := by rw [List.length_set]; exact Ext.set hn
            refine p μ _ e' (S.set hn ra.eraseIdx) _ ?_
            exact Rep.mono S e' _ _ rw'
          · exact p.elim
        · exact p.elim
      · exact p.elim
    · exact p.elim
  · rename_i s0 d
    obtain ⟨w, rfl, rw'⟩ := reps1.mp rs
    cases repS.mp r
    split at p
    · rename_i ys q
      split at p
      · obtain ⟨l, q1, q2⟩ := Option.bind_eq_some_iff.mp q
        obtain ⟨a, zs, rfl, sq, ra⟩ := rw'.seq_of S q1
        rw [strsOf_ok q2 ra] at sq
        exact mt_join pins s σ H _ _ v us Q I rx rxs ⟨s0, a, ys, rfl, rfl, sq, by assumption, p.str S⟩
      · exact p.elim
    · exact p.elim
  · rename_i k x0
    obtain ⟨y, z, rfl, rk, rx0⟩ := reps2.mp rs
    obtain ⟨u1, u2, rfl, ry, rz⟩ := Vals.two rxs
    split at p
    · rename_i kvs e1
      split at p
      · rename_i ko
        obtain ⟨a, rfl, dv⟩ := asD_of S r e1
        obtain rfl : v = Value.ref a := rx
        exact dv_get2 hw (by omega) I dv ko rk ry rx0 rz fun vv w' s' rv rw' I' => ⟨vv, H, I', rw', p.val S rv⟩
      · exact p.elim
    · exact p.elim
  · rename_i n k
    obtain ⟨y, rfl, rk⟩ := reps1.mp rs
    obtain ⟨u1, rfl, ry⟩ := Vals.one rxs
    simp only [Rep] at r
    obtain ⟨hn, rfl⟩ := r
    obtain rfl : v = Value.ref (μ n) := rx
    split at p
    · rename_i kvs q
      split at p
      · rename_i c
        split at p
        · rename_i vd e2
          have dv : DV X.K R h.length μ H (μ n) kvs := S.obj n _ q
          obtain ⟨kk, hH, e3, r3⟩ := dv_B dv c.2
          obtain ⟨k, rfl⟩ := keyB_of c.1
          cases rep_keyD rk
          rcases valV_dget (k := k) e3 r3 with ⟨z1, _⟩ | ⟨d', vv, z1, z2, rv⟩
          · rw [z1] at e2; cases e2
          · rw [z1] at e2; cases e2
            refine d_pop I hH ry z2 (.inl rfl) fun w' s' I' rw' => ⟨vv, _, I', rw', ?_⟩
            have e' : Ext h.length μ H (h.set n (O.dct (ddel kvs (keyD k)))).length μ (upd H (μ n) (.dK (dropK kk k))) := by rw [List.length_set]; exact Ext.set hn
            refine p μ _ e' (S.put hn fun e5 => ?_) _ (Rep.mono S e' _ _ rv)
            obtain ⟨d1, d2⟩ := dropK_ddel (k := k) e3 r3
            refine ⟨(dropK kk k).map fun p => kV p.1, _, .inl ⟨_, upd_same, d1, rfl, rfl⟩, ?_, Reps.mono S e5 _ _ d2⟩
            rw [d1]
            exact reps_keys _
        · exact p.elim
      · exact p.elim
    · exact p.elim
  · obtain ⟨w, rfl, rw'⟩ := reps1.mp rs
    cases repS.mp r
    cases repS.mp rw'
    split at p
    · rename_i c
      exact mt_split pins s σ H _ _ v us Q I rx rxs ⟨_, _, rfl, rfl, c.1, c.2, lst_ok S (reps_strs _) p⟩
    · exact p.elim
  · exact p.elim
end
end Ev
namespace Ev
open PySem L2
variable [Tabs]
def visB (sc : Scope) (x : Str) : Bool := match sc.names.lookup x with
  | some .local => true
  | some .cell => true
  | some .free => true
  | _ => false
def locB (sc : Scope) (x : Str) : Bool := match sc.names.lookup x with
  | some .local => true
  | some .cell => true
  | _ => false
def glB (sc : Scope) (x : Str) : Bool := decide (sc.names.lookup x = some .globalImplicit)
def noDbg (x : Str) : Bool := !(x == ("__debug__" : Str)) && !(x == ("__classdict__" : Str)) && decide (x ≠ "__name__")
def biName : Bi → Str
  | .len => "len" | .int1 => "int" | .abs1 => "abs" | .min2 => "min" | .max2 => "max" | .tuple1 => "tuple" | .list1 => "list" | .all1 => "all" | .sum1 => "sum" | .str1 => "str"
/-- the built-in names that a program here may use -/
def BN : List Str := ["len", "int", "abs", "min", "max", "tuple", "list", "all", "sum", "str", "isinstance", "bool", "range", "sorted", "enumerate", "zip", "set", "dict"]
def isStarredE : Expr → Bool
  | .Starred .. => true
  | _ => false
def isCallE : Expr → Bool
  | .Call .. => true
  | _ => false
def isCompE : Expr → Bool
  | .ListComp .. => true
  | .SetComp .. => true
  | .DictComp .. => true
  | _ => false
def isSliceE : Expr → Bool
  | .Slice .. => true
  | _ => false
def isSetE : Expr → Bool
  | .Set .. => true
  | _ => false
mutual
/-- targets, of names in the slots N that st allows to be stored -/
def chkTg (N : List Str) (st : Str → Bool) : T → Expr → Bool
  | .nm i, .Name x _ => decide (N[i]? = some x) && st x
  | .tp ts, .Tuple es _ _ => chkTgs N st ts es
  | _, _ => false
def chkTgs (N : List Str) (st : Str → Bool) : List T → List Expr → Bool
  | [], [] => true
  | t :: ts, e :: es => !isStarredE e && chkTg N st t e && chkTgs N st ts es
  | _, _ => false
end
mutual
def tSlots : T → List Nat
  | .nm i => [i]
  | .tp ts => tSlotss ts
def tSlotss : List T → List Nat
  | [] => []
  | t :: ts => tSlots t ++ tSlotss ts
end
def chkOwn (own : List (Str × Nat)) (t : T) : Bool := (tSlots t).all fun i => (own.map (·.2)).contains i
def blkSt (scope : Scope) (x : Str) : Bool := match scope.names.lookup x with
  | some .local => true
  | some .cell => true
  | _ => false
def cmp1 : Expr → Option (Expr × CmpOp × Expr)
  | .Compare l [o] [r] _ => some (l, o, r)
  | _ => none
def cmp2 : Expr → Option (Expr × CmpOp × Expr × CmpOp × Expr)
  | .Compare l [o, o'] [r, r'] _ => some (l, o, r, o', r')
  | _ => none
def sub1 : Expr → Option (Expr × Expr)
  | .Subscript e f _ => some (e, f)
  | _ => none
def slc1 : Expr → Option (Option Expr × Option Expr)
  | .Slice l u none _ => some (l, u)
  | _ => none
/-- a call of a name, without keywords -/
def calN : Expr → Option (Str × List Expr)
  | .Call (.Name n _) fs [] _ => some (n, fs)
  | _ => none
def calM : Expr → Option (Expr × Str × Nat × List Expr × Nat)
  | .Call (.Attribute e n apos) fs [] cpos => some (e, n, apos.endLine, fs, cpos.line)
  | _ => none
def nameE : Expr → Option Str
  | .Name n _ => some n
  | _ => none
def dct1 : Expr → Option (List (Option Expr) × List Expr)
  | .Dict ks vs _ => some (ks, vs)
  | _ => none
def tupL : Expr → Option (List Expr)
  | .Tuple fs _ _ => some fs
  | _ => none
def att1 : Expr → Option (Expr × Str)
  | .Attribute e f _ => some (e, f)
  | _ => none
def rev1 : Expr → Bool
  | .Slice none none (some (.UnaryOp .USub (.Constant (.int 1) _ _) _)) _ => true
  | _ => false
theorem dct1_eq {e : Expr} {ks : List (Option Expr)} {vs : List Expr} (h : dct1 e = some (ks, vs)) : ∃ pos, e = .Dict ks vs pos := by
  unfold dct1 at h; split at h
  · cases h; exact ⟨_, rfl⟩
  · cases h
theorem tupL_eq {e : Expr} {fs : List Expr} (h : tupL e = some fs) : ∃ k pos, e = .Tuple fs k pos := by
  unfold tupL at h; split at h
  · cases h; exact ⟨_, _, rfl⟩
  · cases h
theorem att1_eq {e o : Expr} {f : Str} (h : att1 e = some (o, f)) : ∃ pos, e = .Attribute o f pos := by
  unfold att1 at h; split at h
  · cases h; exact ⟨_, rfl⟩
  · cases h
theorem rev1_eq {e : Expr} (h : rev1 e = true) : ∃ k p1 p2 p3, e = .Slice none none (some (.UnaryOp .USub (.Constant (.int 1) k p1) p2)) p3 := by
  unfold rev1 at h; split at h
  · exact ⟨_, _, _, _, rfl⟩
  · cases h
def isTupE : Expr → Bool
  | .Tuple .. => true
  | _ => false
theorem isTupE_eq {e : Expr} (h : isTupE e = true) : ∃ fs k pos, e = .Tuple fs k pos := by
  cases e <;> simp only [isTupE, Bool.false_eq_true] at h
  exact ⟨_, _, _, rfl⟩
/-- walks that hand out pairs -/
def itTup : E → Bool
  | .zip _ _ => true
  | .enm _ => true
  | _ => false
def lcp1 : Expr → Option (Expr × Expr × Expr × List Expr × Int × Scope)
  | .ListComp e [⟨tg, iter, ifs, a⟩] scope _ => some (e, tg, iter, ifs, a, scope)
  | _ => none
theorem cmp1_eq {e l r : Expr} {o : CmpOp} (h : cmp1 e = some (l, o, r)) : ∃ pos, e = .Compare l [o] [r] pos := by
  unfold cmp1 at h; split at h
  · cases h; exact ⟨_, rfl⟩
  · cases h
theorem cmp2_eq {e l r r' : Expr} {o o' : CmpOp} (h : cmp2 e = some (l, o, r, o', r')) : ∃ pos, e = .Compare l [o, o'] [r, r'] pos := by
  unfold cmp2 at h; split at h
  · cases h; exact ⟨_, rfl⟩
  · cases h
theorem sub1_eq {e l r : Expr} (h : sub1 e = some (l, r)) : ∃ pos, e = .Subscript l r pos := by
  unfold sub1 at h; split at h
  · cases h; exact ⟨_, rfl⟩
  · cases h
theorem slc1_eq {e : Expr} {l r : Option Expr} (h : slc1 e = some (l, r)) : ∃ pos, e = .Slice l r none pos := by
  unfold slc1 at h; split at h
  · cases h; exact ⟨_, rfl⟩
  · cases h
theorem calN_eq {e : Expr} {n : Str} {fs : List Expr} (h : calN e = some (n, fs)) : ∃ p pos, e = .Call (.Name n p) fs [] pos := by
  unfold calN at h; split at h
  · cases h; exact ⟨_, _, rfl⟩
  · cases h
theorem calM_eq {e o : Expr} {n : Str} {a b : Nat} {fs : List Expr} (h : calM e = some (o, n, a, fs, b)) : ∃ apos cpos, e = .Call (.Attribute o n apos) fs [] cpos ∧ apos.endLine = a ∧ cpos.line = b := by
  unfold calM at h; split at h
  · cases h; exact ⟨_, _, rfl, rfl, rfl⟩
  · cases h
theorem nameE_eq {e : Expr} {n : Str} (h : nameE e = some n) : ∃ pos, e = .Name n pos := by
  unfold nameE at h; split at h
  · cases h; exact ⟨_, rfl⟩
  · cases h
theorem lcp1_eq {e elt tg iter : Expr} {ifs : List Expr} {a : Int} {scope : Scope} (h : lcp1 e = some (elt, tg, iter, ifs, a, scope)) : ∃ pos, e = .ListComp elt [⟨tg, iter, ifs, a⟩] scope pos := by
  unfold lcp1 at h; split at h
  · cases h; exact ⟨_, rfl⟩
  · cases h
mutual
def chkE (N : List Str) (sc : Scope) : E → Expr → Bool
  | .var i, .Name x _ => decide (N[i]? = some x) && visB sc x && noDbg x
  | .cst c, .Constant c' _ _ => decide (c = c') && (cstD c).isSome
  | .glob x _, .Name y _ => decide (x = y) && glB sc y && noDbg y
  | .tup es, .Tuple fs _ _ => chkEs N sc es fs
  | .lst _ es, .List fs _ => chkEs N sc es fs
  | .bin op _ a b, .BinOp e o f _ => decide (o = op) && chkE N sc a e && chkE N sc b f
  | .neg a, .UnaryOp o e _ => decide (o = .USub) && chkE N sc a e
  | .not a, .UnaryOp o e _ => decide (o = .Not) && chkE N sc a e
  | .and es, .BoolOp o fs _ => decide (o = .And) && chkEs N sc es fs
  | .or es, .BoolOp o fs _ => decide (o = .Or) && chkEs N sc es fs
  | .cmp op a b, x => match cmp1 x with
    | some (e, o, f) => decide (o = op) && !isSetE f && chkE N sc a e && chkE N sc b f
    | none => false
  | .chn op op' a b c, x => match cmp2 x with
    | some (e, o, f, o', g) => decide (o = op) && decide (o' = op') && !isSetE f && !isSetE g && chkE N sc a e && chkE N sc b f && chkE N sc c g
    | none => false
  | .ite c a b, .IfExp t e f _ => chkE N sc c t && chkE N sc a e && chkE N sc b f
  | .idx a i, x => match sub1 x with
    | some (e, f) => chkE N sc a e && chkE N sc i f && !isSliceE f
    | none => false
  | .slc _ a lo hi, x => match sub1 x with
    | some (e, s) => match slc1 s with
      | some (l, u) => chkE N sc a e && chkO N sc lo l && chkO N sc hi u
      | none => false
    | none => false
  | .isi a ty, x => match calN x with
    | some (n, [e, f]) => match nameE f with
      | some t => decide (n = "isinstance") && decide (t = Str.ofString ty) && isiTys.contains ty && glB sc n && glB sc t && chkE N sc a e && !isStarredE e
      | none => false
    | _ => false
  | .bui f _ es, x => match calN x with
    | some (n, e :: fs) => decide (n = biName f) && glB sc n && chkEs N sc es (e :: fs)
    | _ => false
  | .met f _ o es, x => match calM x with
    | some (e, n, a, fs, b) => decide (n = mtName f) && decide (a = b) && !isCallE e && chkE N sc o e && chkEs N sc es fs && decide (fs.length < 30)
    | none => false
  | .cal x _ _ _ es, y => match calN y with
    | some (n, e :: fs) => decide (n = x) && glB sc n && noDbg n && chkEs N sc es (e :: fs)
    | _ => false
  | .lcp own t it cond elt, x => match lcp1 x with
    | some (e, tg, iter, ifs, a, scope) => decide (a = 0) && !isSetE iter && blkC N sc scope own && chkI N sc it iter && chkTg N (blkSt scope) t tg && chkOwn own t
      && chkC N (relS scope sc) cond ifs && chkE N (relS scope sc) elt e && (!itTup it || isTupE tg)
    | none => false
  | .dsp es, x => match dct1 x with
    | some (ks, vs) => chkDs N sc es ks vs && decide (ks.length = vs.length) && decide (ks.length ≤ 15)
    | none => false
  | .ds1 k v, x => match dct1 x with
    | some ([some e], [f]) => chkE N sc k e && chkE N sc v f
    | _ => false
  | .tix os c, x => match calM x with
    | some (e, n, a, [f], b) => match tupL e with
      | some fs => decide (n = "index") && decide (a = b) && chkEs N sc os fs && chkE N sc c f && !isStarredE f
      | none => false
    | _ => false
  | .lrg _ it, x => match calN x with
    | some (n, [r]) => decide (n = "list") && glB sc n && chkR N sc it r
    | _ => false
  | .att _ f o, x => match att1 x with
    | some (e, g) => decide (f = g) && !isCallE e && chkE N sc o e
    | none => false
  | .mca _ m _ _ _ o es, x => match calM x with
    | some (e, n, a, fs, b) => decide (n = m) && decide (a = b) && !isCallE e && chkE N sc o e && chkEs N sc es fs && decide (fs.length < 30)
    | none => false
  | .prp _ f _ o, x => match att1 x with
    | some (e, g) => decide (f = g) && !isCallE e && chkE N sc o e
    | none => false
  | .mk c _ _ _ es, y => match calN y with
    | some (n, fs) => decide (n = c) && glB sc n && noDbg n && chkEs N sc es fs
    | none => false
  | .rvs _ a, x => match sub1 x with
    | some (e, s) => rev1 s && chkE N sc a e
    | none => false
  | .bad, _ => true
  | _, _ => false
/-- list(range(..)) -/
def chkR (N : List Str) (sc : Scope) : E → Expr → Bool
  | .rng es, x => match calN x with
    | some (n, fs) => decide (n = "range") && glB sc n && chkEs N sc es fs && (decide (es.length = 1) || decide (es.length = 2))
    | none => false
  | _, _ => false
/-- a display's keys and values -/
def chkDs (N : List Str) (sc : Scope) : List E → List (Option Expr) → List Expr → Bool
  | [], [], [] => true
  | k :: v :: es, some e :: ks, f :: vs => chkE N sc k e && chkE N sc v f && chkDs N sc es ks vs
  | _, _, _ => false
def chkEs (N : List Str) (sc : Scope) : List E → List Expr → Bool
  | [], [] => true
  | c :: cs, e :: es => !isStarredE e && chkE N sc c e && chkEs N sc cs es
  | _, _ => false
def chkO (N : List Str) (sc : Scope) : E → Option Expr → Bool
  | .noe, none => true
  | .itv c, some e => chkE N sc c e
  | _, _ => false
def chkI (N : List Str) (sc : Scope) : E → Expr → Bool
  | .itv c, e => chkE N sc c e
  | .rng es, x => match calN x with
    | some (n, fs) => decide (n = "range") && glB sc n && chkEs N sc es fs && (decide (es.length = 1) || decide (es.length = 2) || decide (es.length = 3))
    | none => false
  | .zip a b, x => match calN x with
    | some (n, [e, f]) => decide (n = "zip") && glB sc n && chkE N sc a e && chkE N sc b f && !isStarredE e && !isStarredE f
    | _ => false
  | .enm a, x => match calN x with
    | some (n, [e]) => decide (n = "enumerate") && glB sc n && chkE N sc a e && !isStarredE e
    | _ => false
  | _, _ => false
def chkC (N : List Str) (sc : Scope) : List E → List Expr → Bool
  | [], [] => true
  | [c], [e] => chkE N sc c e
  | _, _ => false
end
end Ev
namespace Ev
open PySem L2
variable [Tabs]
def isStar (e : Expr) : Bool := match e with
  | .Starred .. => true
  | _ => false
def swNames (sc : Scope) (ts : List Expr) : List Str := ts.filterMap fun
  | .Name id pos => if (sc.names.lookup id == some .local && pos.line == (ts.head?.map (·.pos.line)).getD 0) = true then some id else none
  | _ => none
/-- the tuple's stores are not exchanged -/
def noSwapB (sc : Scope) (ts vs : List Expr) : Bool :=
  (!(ts.length == 2 || ts.length == 3) || vs.length != ts.length) || vs.any isStar || ((swNames sc ts).length != ts.length || (swNames sc ts).eraseDups.length != (swNames sc ts).length) || vs.all (foldedForSure 8)
/-- a, b = x, y: two or three locals on one line, not all constants -/
def swapB (sc : Scope) (ts vs : List Expr) : Bool :=
  !(!(ts.length == 2 || ts.length == 3) || vs.length != ts.length) && !vs.any isStar && !((swNames sc ts).length != ts.length || (swNames sc ts).eraseDups.length != (swNames sc ts).length) && !vs.all (foldedForSure 8) && !vs.all (constantsAlone 8)
def isNmE : Expr → Bool
  | .Name .. => true
  | _ => false
def tupE : Expr → Option (List Expr)
  | .Tuple es _ _ => some es
  | _ => none
def nmsT : T → Option (List Nat)
  | .tp ts => ts.mapM fun | .nm i => some i | _ => none
  | _ => none
/-- the comprehension's list is stored within its frame -/
def compSwap (sc : Scope) (y : Str) (py : Pos) : Expr → Bool
  | .ListComp _ _ scope pos => decide (sc.names.lookup y = some .local) && py.line == pos.line && !(scope.names.any fun (n, k) => n == y && (k == .local || k == .cell))
  | _ => false
def handlerB (N : List Str) (sc : Scope) : Str × Nat × Const → ExceptHandler → Bool
  | (y, i, c), .ExceptHandler (some (.Name x _)) none [.Assign [.Name z pz] (.Constant c' _ _) _] _ => decide (x = y) && glB sc x && noDbg x && decide (N[i]? = some z) && locB sc z && decide (c = c') && (cstD c).isSome
  | _, _ => false
def handlersB (N : List Str) (sc : Scope) : List (Str × Nat × Const) → List ExceptHandler → Bool
  | [], [] => true
  | h :: hs, e :: es => handlerB N sc h e && handlersB N sc hs es
  | _, _ => false
def raiE : Expr → Option Str
  | .Call (.Name n _) [.Constant (.str _) _ _] [] _ => some n
  | _ => none
/-- the forms of an exchange: names in different slots, as many expressions -/
def parB : List T → List Expr → E → Bool
  | [.nm i, .nm j], [.Name _ _, .Name _ _], .tup [_, _] => decide (i ≠ j)
  | [.nm i, .nm j, .nm l], [.Name _ _, .Name _ _, .Name _ _], .tup [_, _, _] => decide (i ≠ j) && decide (i ≠ l) && decide (j ≠ l)
  | _, _, _ => false
def asg1 : Stmt → Option (Expr × Expr × Pos)
  | .Assign [t] f pos => some (t, f, pos)
  | _ => none
def exp1 : Stmt → Option Expr
  | .Expr f _ => some f
  | _ => none
def ret1 : Stmt → Option (Option Expr)
  | .Return o _ => some o
  | _ => none
def if1 : Stmt → Option (Expr × List Stmt × List Stmt)
  | .If t x y _ => some (t, x, y)
  | _ => none
def for1 : Stmt → Option (Expr × Expr × List Stmt)
  | .For tg iter x [] _ => some (tg, iter, x)
  | _ => none
def whl1 : Stmt → Option (Expr × List Stmt)
  | .While t x [] _ => some (t, x)
  | _ => none
def rai1 : Stmt → Option Expr
  | .Raise (some e) none _ => some e
  | _ => none
def try1 : Stmt → Option (List Stmt × List ExceptHandler)
  | .Try x hds [] [] _ => some (x, hds)
  | _ => none
def smp1 : Stmt → Nat
  | .Pass _ => 1
  | .Break _ => 2
  | .Continue _ => 3
  | _ => 0
def nmP : Expr → Option (Str × Pos)
  | .Name x p => some (x, p)
  | _ => none
def tupP : Expr → Option (List Expr × Nat × Pos)
  | .Tuple es k p => some (es, k, p)
  | _ => none
/-- raise X(e) -/
def raiX : Expr → Option (Str × Expr)
  | .Call (.Name n _) [e] [] _ => some (n, e)
  | _ => none
/-- except X as e: t = e.f -/
def hndA : List ExceptHandler → Option (Str × Str × Str × Str × Str)
  | [.ExceptHandler (some (.Name x _)) (some e) [.Assign [.Name t _] (.Attribute (.Name e' _) f _) _] _] => some (x, e, t, e', f)
  | _ => none
theorem raiX_eq {e a : Expr} {n : Str} (h : raiX e = some (n, a)) : ∃ p pos, e = .Call (.Name n p) [a] [] pos := by
  unfold raiX at h; split at h
  · cases h; exact ⟨_, _, rfl⟩
  · cases h
theorem hndA_eq {hs : List ExceptHandler} {x e t e' f : Str} (h : hndA hs = some (x, e, t, e', f)) : ∃ p1 p2 p3 p4 p5 p6, hs = [.ExceptHandler (some (.Name x p1)) (some e) [.Assign [.Name t p2] (.Attribute (.Name e' p3) f p4) p5] p6] := by
  unfold hndA at h; split at h
  · cases h; exact ⟨_, _, _, _, _, _, rfl⟩
  · cases h
theorem asg1_eq {s : Stmt} {t f : Expr} {pos : Pos} (h : asg1 s = some (t, f, pos)) : s = .Assign [t] f pos := by
  unfold asg1 at h; split at h
  · cases h; rfl
  · cases h
theorem exp1_eq {s : Stmt} {f : Expr} (h : exp1 s = some f) : ∃ pos, s = .Expr f pos := by
  unfold exp1 at h; split at h
  · cases h; exact ⟨_, rfl⟩
  · cases h
theorem ret1_eq {s : Stmt} {f : Option Expr} (h : ret1 s = some f) : ∃ pos, s = .Return f pos := by
  unfold ret1 at h; split at h
  · cases h; exact ⟨_, rfl⟩
  · cases h
theorem if1_eq {s : Stmt} {t : Expr} {x y : List Stmt} (h : if1 s = some (t, x, y)) : ∃ pos, s = .If t x y pos := by
  unfold if1 at h; split at h
  · cases h; exact ⟨_, rfl⟩
  · cases h
theorem for1_eq {s : Stmt} {tg iter : Expr} {x : List Stmt} (h : for1 s = some (tg, iter, x)) : ∃ pos, s = .For tg iter x [] pos := by
  unfold for1 at h; split at h
  · cases h; exact ⟨_, rfl⟩
  · cases h
theorem whl1_eq {s : Stmt} {t : Expr} {x : List Stmt} (h : whl1 s = some (t, x)) : ∃ pos, s = .While t x [] pos := by
  unfold whl1 at h; split at h
  · cases h; exact ⟨_, rfl⟩
  · cases h
theorem rai1_eq {s : Stmt} {e : Expr} (h : rai1 s = some e) : ∃ pos, s = .Raise (some e) none pos := by
  unfold rai1 at h; split at h
  · cases h; exact ⟨_, rfl⟩
  · cases h
theorem try1_eq {s : Stmt} {x : List Stmt} {hds : List ExceptHandler} (h : try1 s = some (x, hds)) : ∃ pos, s = .Try x hds [] [] pos := by
  unfold try1 at h; split at h
  · cases h; exact ⟨_, rfl⟩
  · cases h
theorem nmP_eq {e : Expr} {x : Str} {p : Pos} (h : nmP e = some (x, p)) : e = .Name x p := by
  unfold nmP at h; split at h
  · cases h; rfl
  · cases h
theorem tupP_eq {e : Expr} {es : List Expr} {k : Nat} {p : Pos} (h : tupP e = some (es, k, p)) : e = .Tuple es k p := by
  unfold tupP at h; split at h
  · cases h; rfl
  · cases h
mutual
def chkS (N : List Str) (sc : Scope) : S → Stmt → Bool
  | .set i e, s => match asg1 s with
    | some (t, f, _) => match nmP t with
      | some (x, px) => decide (N[i]? = some x) && locB sc x && chkE N sc e f && (!isCompE f || (compSwap sc x px f || decide (sc.names.lookup x = some .cell)))
      | none => false
    | none => false
  | .sat _ f o e, s => match asg1 s with
    | some (t, g, _) => match att1 t with
      | some (a, f') => decide (f = f') && chkE N sc o a && chkE N sc e g && !isCompE g
      | none => false
    | none => false
  | .unp (.tp ts) e, s => match asg1 s with
    | some (t, f, _) => match tupP t with
      | some (es, k, p) => chkTg N (locB sc) (.tp ts) (.Tuple es k p) && chkE N sc e f && !isCompE f && (match tupE f with
        | none => true
        | some vs => noSwapB sc es vs || (swapB sc es vs && parB ts es e))
      | none => false
    | none => false
  | .stx o i e, s => match asg1 s with
    | some (t, f, _) => match sub1 t with
      | some (a, b) => chkE N sc o a && chkE N sc i b && chkE N sc e f && !isSliceE b && !isCompE f
      | none => false
    | none => false
  | .exp e, s => match exp1 s with
    | some f => chkE N sc e f && !isCompE f
    | none => false
  | .ret e, s => match ret1 s with
    | some (some f) => chkE N sc e f
    | _ => false
  | .retN, s => match ret1 s with
    | some none => true
    | _ => false
  | .ifs c a b, s => match if1 s with
    | some (t, x, y) => chkE N sc c t && chkSs N sc a x && chkSs N sc b y
    | none => false
  | .for_ t it b, s => match for1 s with
    | some (tg, iter, x) => chkTg N (locB sc) t tg && chkI N sc it iter && !isSetE iter && chkSs N sc b x && (!itTup it || isTupE tg)
    | none => false
  | .whl c b, s => match whl1 s with
    | some (t, x) => chkE N sc c t && chkSs N sc b x
    | none => false
  | .rai x, s => match rai1 s with
    | some e => decide (raiE e = some x) && glB sc x && noDbg x
    | none => false
  | .raiA x _ e, s => match rai1 s with
    | some r => match raiX r with
      | some (n, a) => decide (n = x) && glB sc n && noDbg n && chkE N sc e a && !isStarredE a
      | none => false
    | none => false
  | .tryA b x ei f ti, s => match try1 s with
    | some (y, hds) => match hndA hds with
      | some (n, e, t, e', g) => decide (n = x) && glB sc n && noDbg n && decide (e = e') && decide (N[ei]? = some e) && decide (N[ti]? = some t) && decide (ei ≠ ti) && decide (f = g) && decide (sc.names.lookup e = some .local) && locB sc t && noDbg e && chkSs N sc b y
      | none => false
    | none => false
  | .tryS _ b hs, s => match try1 s with
    | some (x, hds) => !hds.isEmpty && chkSs N sc b x && handlersB N sc hs hds
    | none => false
  | .pas, s => smp1 s == 1
  | .brk, s => smp1 s == 2
  | .cnt, s => smp1 s == 3
  | .bad, _ => true
  | .unp (.nm _) _, _ => false
def chkSs (N : List Str) (sc : Scope) : List S → List Stmt → Bool
  | [], [] => true
  | s :: ss, x :: xs => chkS N sc s x && chkSs N sc ss xs
  | _, _ => false
end
end Ev
namespace Ev
open PySem L2
variable [Tabs]
/-- the slots hold what the environment says -/
structure RepEnv (K : Fg) (R : Ap) (n : Nat) (μ : Nat → Addr) (H : Hp) (env : Env) (σ : L2.St) : Prop where
  len : env.length = σ.length
  at_ : ∀ (i : Nat) (d : D), env[i]? = some (some d) → ∃ v, σ[i]? = some (some v) ∧ Rep K R n μ H d v
section
variable {K : Fg} {R : Ap} {n n' : Nat} {μ μ' : Nat → Addr} {H H' : Hp} {h h' : LH} {env : Env} {σ : L2.St}
theorem RepEnv.mono {R0 : Ap} (r : RepEnv K R h.length μ H env σ) (S : SimH K R0 μ H h) (e : Ext h.length μ H n' μ' H') : RepEnv K R n' μ' H' env σ :=
  ⟨r.len, fun i d q => let ⟨v, q1, q2⟩ := r.at_ i d q; ⟨v, q1, Rep.mono S e d v q2⟩⟩
theorem RepEnv.up {R' : Ap} (hR : ∀ a, R' a → R a ∨ H a = none) (r : RepEnv K R n μ H env σ) : RepEnv K R' n μ H env σ :=
  ⟨r.len, fun i d q => let ⟨v, q1, q2⟩ := r.at_ i d q; ⟨v, q1, Rep.up hR d v q2⟩⟩
theorem RepEnv.set (r : RepEnv K R n μ H env σ) {i : Nat} {d : D} {v : V} (rv : Rep K R n μ H d v) : RepEnv K R n μ H (env.set i (some d)) (σ.set i (some v)) := by
  refine ⟨by simpa using r.len, fun j e q => ?_⟩
  by_cases hj : j = i
  · subst hj
    by_cases hl : j < env.length
    · rw [List.getElem?_set_self hl] at q
      cases q
      exact ⟨v, List.getElem?_set_self (by rw [← r.len]; exact hl), rv⟩
    · rw [List.getElem?_eq_none (by simpa using Nat.le_of_not_lt hl)] at q
      cases q
  · rw [List.getElem?_set_ne (Ne.symm hj)] at q
    obtain ⟨w, q1, q2⟩ := r.at_ j e q
    exact ⟨w, by rw [List.getElem?_set_ne (Ne.symm hj)]; exact q1, q2⟩
theorem wipeE_length : ∀ (vs : List Nat), (wipeE env vs).length = env.length
  | [] => rfl
  | v :: vs => by simp [wipeE, wipeE_length vs]
theorem wipeE_some : ∀ {vs : List Nat} {j : Nat} {d : D}, (wipeE env vs)[j]? = some (some d) → env[j]? = some (some d) ∧ j ∉ vs
  | [], _, _, e => ⟨e, by simp⟩
  | v :: vs, j, d, e => by
    unfold wipeE at e
    by_cases hj : j = v
    · subst hj
      by_cases hl : j < (wipeE env vs).length
      · rw [List.getElem?_set_self hl] at e; cases e
      · rw [List.getElem?_eq_none (by simpa using Nat.le_of_not_lt hl)] at e; cases e
    · rw [List.getElem?_set_ne (Ne.symm hj)] at e
      obtain ⟨e1, e2⟩ := wipeE_some e
      exact ⟨e1, by simp [hj, e2]⟩
theorem RepEnv.wipe (r : RepEnv K R n μ H env σ) (vs : List Nat) : RepEnv K R n μ H (wipeE env vs) (wipe σ vs) := by
  refine ⟨by rw [wipeE_length, L2.wipe_length]; exact r.len, fun j d q => ?_⟩
  obtain ⟨q1, q2⟩ := wipeE_some q
  obtain ⟨v, q3, q4⟩ := r.at_ j d q1
  exact ⟨v, by rw [wipe_out q2]; exact q3, q4⟩
end
theorem PE.imp {X : Cx} {e : Expr} {t t' : TE} (p : PE X e t) (f : ∀ σ H Q, t' σ H Q → t σ H Q) : PE X e t' := ⟨fun pins s σ H Q I q => p.run pins s σ H Q I (f σ H Q q)⟩
theorem PT.imp {X : Cx} {e : Expr} {t t' : TT} (p : PT X e t) (f : ∀ σ H Q, t' σ H Q → t σ H Q) : PT X e t' := ⟨fun pins s σ H Q I q => p.run pins s σ H Q I (f σ H Q q)⟩
theorem PW.imp {X : Cx} {e : Expr} {t t' : TT} (p : PW X e t) (f : ∀ σ H Q, t' σ H Q → t σ H Q) : PW X e t' := ⟨fun wh pins s σ H Q I q => p.run wh pins s σ H Q I (f σ H Q q)⟩
theorem PA.imp {X : Cx} {e : List Expr} {t t' : TA} (p : PA X e t) (f : ∀ σ H Q, t' σ H Q → t σ H Q) : PA X e t' := ⟨fun pos pins s σ H Q I q => p.run pos pins s σ H Q I (f σ H Q q)⟩
theorem PO.imp {X : Cx} {e : Option Expr} {t t' : TO} (p : PO X e t) (f : ∀ σ H Q, t' σ H Q → t σ H Q) : PO X e t' := ⟨fun pins s σ H Q I q => p.run pins s σ H Q I (f σ H Q q)⟩
theorem PS.imp {X : Cx} {e : Stmt} {t t' : TS} (p : PS X e t) (f : ∀ D σ H, t' D σ H → t D σ H) : PS X e t' := ⟨fun pins s σ H D I q => p.run pins s σ H D I (f D σ H q)⟩
theorem PSs.imp {X : Cx} {e : List Stmt} {t t' : TS} (p : PSs X e t) (f : ∀ D σ H, t' D σ H → t D σ H) : PSs X e t' := ⟨fun pins s σ H D I q => p.run pins s σ H D I (f D σ H q)⟩
theorem PG.imp {X : Cx} {e : Expr} {t t' : TG} (p : PG X e t) (f : ∀ v σ H Q, t' v σ H Q → t v σ H Q) : PG X e t' := ⟨fun pins s σ H v u Q I r q => p.run pins s σ H v u Q I r (f v σ H Q q)⟩
theorem PGs.imp {X : Cx} {e : List Expr} {t t' : TGs} (p : PGs X e t) (f : ∀ v σ H Q, t' v σ H Q → t v σ H Q) : PGs X e t' := ⟨fun pins s σ H v u Q I r q => p.run pins s σ H v u Q I r (f v σ H Q q)⟩
theorem PI.imp {X : Cx} {tg e : Expr} {t t' : TI} (p : PI X tg e t) (f : ∀ σ H R, t' σ H R → t σ H R) : PI X tg e t' := ⟨fun pins s σ H R I q => p.run pins s σ H R I (f σ H R q)⟩

/-- the state in the evaluator's words -/
def In1 (X : Cx) (σ : L2.St) (H : Hp) (P : Ap → (Nat → Addr) → LH → Env → Prop) : Prop := ∃ R μ h env, SimH X.K R μ H h ∧ RepEnv X.K R h.length μ H env σ ∧ P R μ h env
abbrev WP (X : Cx) (W : WX) (σ : L2.St) : XK := fun cls d H' => W cls d σ H'
def rdE (X : Cx) (W : WX) (c : E) : TE := fun σ H Q => In1 X σ H fun R μ h env => Post X.K X.mg (WP X W σ) R h.length μ H (PV X.K R Q) (evE c env h)
def rdT (X : Cx) (W : WX) (c : E) : TT := fun σ H Q => In1 X σ H fun R μ h env => Post X.K X.mg (WP X W σ) R h.length μ H (fun b _ _ H' => Q b H') (evT c env h)
def rdEs (X : Cx) (W : WX) (cs : List E) : TA := fun σ H Q => In1 X σ H fun R μ h env => Post X.K X.mg (WP X W σ) R h.length μ H (fun ds h' μ' H' => ∀ vs, Reps X.K R h'.length μ' H' ds vs → Q vs H') (evEs cs env h)
def rdAnd (X : Cx) (W : WX) (cs : List E) : TE := fun σ H Q => In1 X σ H fun R μ h env => Post X.K X.mg (WP X W σ) R h.length μ H (PV X.K R Q) (evAnd cs env h)
def rdOr (X : Cx) (W : WX) (cs : List E) : TE := fun σ H Q => In1 X σ H fun R μ h env => Post X.K X.mg (WP X W σ) R h.length μ H (PV X.K R Q) (evOr cs env h)
def truR (h : LH) (d : D) : Res Bool := match truthy h d with
  | some b => .ok b h
  | none => .no
def rdAndT (X : Cx) (W : WX) (cs : List E) : TT := fun σ H Q => In1 X σ H fun R μ h env => Post X.K X.mg (WP X W σ) R h.length μ H (fun b _ _ H' => Q b H') ((evAnd cs env h).bind fun d h1 => truR h1 d)
def rdOrT (X : Cx) (W : WX) (cs : List E) : TT := fun σ H Q => In1 X σ H fun R μ h env => Post X.K X.mg (WP X W σ) R h.length μ H (fun b _ _ H' => Q b H') ((evOr cs env h).bind fun d h1 => truR h1 d)
def rdO (X : Cx) (W : WX) (c : E) : TO := fun σ H Q => In1 X σ H fun R μ h env => Post X.K X.mg (WP X W σ) R h.length μ H (fun o _ _ H' => Q o H') (evO c env h)
def rdC (X : Cx) (W : WX) (cs : List E) : TT := fun σ H Q => In1 X σ H fun R μ h env => Post X.K X.mg (WP X W σ) R h.length μ H (fun b _ _ H' => Q b H') (evC cs env h)
/-- an iterator that walks the items, from the state n1 μ1 H1 on -/
structure Wk (K : Fg) (R : Ap) (J : It) (src : Src) (items : List D) (n1 : Nat) (μ1 : Nat → Addr) (H1 : Hp) : Prop where
  stop : ∀ (R' : Ap) μ H h, (∀ a, R' a → R a ∨ H1 a = none) → Ext n1 μ1 H1 h.length μ H → SimH K R' μ H h → SrcOk src h → J.stop items.length H
  go : ∀ (R' : Ap) i μ H h, (∀ a, R' a → R a ∨ H1 a = none) → i < items.length → Ext n1 μ1 H1 h.length μ H → SimH K R' μ H h → SrcOk src h → J.go i H
  yld : ∀ (R' : Ap) i d μ H h x H', (∀ a, R' a → R a ∨ H1 a = none) → items[i]? = some d → Ext n1 μ1 H1 h.length μ H → SimH K R' μ H h → SrcOk src h → J.yld i H x H' → Ext h.length μ H h.length μ H' ∧ SimH K R' μ H' h ∧ Rep K R' h.length μ H' d x
def rdI (X : Cx) (W : WX) (c : E) : TI := fun σ H P => In1 X σ H fun R μ h env => Post X.K X.mg (WP X W σ) R h.length μ H (fun p h' μ' H' => ∀ J, Wk X.K R J p.1 p.2 h'.length μ' H' → P J H') (evI c env h)

mutual
theorem bindT_len : ∀ {t : T} {d : D} {env env' : Env}, bindT t d env = some env' → env'.length = env.length
  | .nm i, d, env, env', h => by
    simp only [bindT] at h
    split at h
    · cases h; simp
    · cases h
  | .tp ts, d, env, env', h => by
    cases d with
    | tup ds =>
      simp only [bindT] at h
      split at h
      · exact bindTs_len h
      · cases h
    | _ => simp [bindT] at h
theorem bindTs_len : ∀ {ts : List T} {ds : List D} {env env' : Env}, bindTs ts ds env = some env' → env'.length = env.length
  | [], [], env, env', h => by simp only [bindTs] at h; cases h; rfl
  | [], _ :: _, _, _, h => by simp [bindTs] at h
  | _ :: _, [], _, _, h => by simp [bindTs] at h
  | t :: ts, d :: ds, env, env', h => by
    simp only [bindTs] at h
    split at h
    · rename_i env1 h1
      rw [bindTs_len h, bindT_len h1]
    · cases h
end
def rdG (X : Cx) (t : T) : TG := fun v σ H Q => In1 X σ H fun R μ h env => ∃ d env', Rep X.K R h.length μ H d v ∧ bindT t d env = some env' ∧
  ∀ σ', RepEnv X.K R h.length μ H env' σ' → (∀ j, j ∉ tSlots t → σ'[j]? = σ[j]?) → Q σ' H
def rdGs (X : Cx) (ts : List T) : TGs := fun vs σ H Q => In1 X σ H fun R μ h env => ∃ ds env', Reps X.K R h.length μ H ds vs ∧ bindTs ts ds env = some env' ∧
  ∀ σ', RepEnv X.K R h.length μ H env' σ' → (∀ j, j ∉ tSlotss ts → σ'[j]? = σ[j]?) → Q σ' H
theorem noStar_each {env : PySem.Env} {e : Expr} {es : List Expr} (h : isStarredE e = false) : assignEach (e :: es) env = (false, assign e env) :: assignEach es env := by
  cases e <;> first | rfl | (simp [isStarredE] at h)
theorem chkTgs_len {N : List Str} {st : Str → Bool} {env : PySem.Env} : ∀ {ts : List T} {es : List Expr}, chkTgs N st ts es = true → (assignEach es env).length = ts.length ∧ (assignEach es env).findIdx? (·.1) = none
  | [], [], _ => ⟨rfl, rfl⟩
  | [], _ :: _, h => by simp [chkTgs] at h
  | _ :: _, [], h => by simp [chkTgs] at h
  | t :: ts, e :: es, h => by
    simp only [chkTgs, Bool.and_eq_true, Bool.not_eq_true'] at h
    obtain ⟨h1, h2⟩ := chkTgs_len (env := env) h.2
    rw [noStar_each h.1.1]
    refine ⟨by simp [h1], ?_⟩
    rw [List.findIdx?_cons]
    simp [h2]
section
variable {X : Cx}
mutual
theorem pg_ok {st : Str → Bool} (hN : X.N.Nodup) (hc : X.calm = true) (hst : ∀ x, st x = true → Loc X.env.scope x ∧ (X.fn x = true ∨ X.env.scope.names.lookup x = some .local)) : ∀ (t : T) (e : Expr), chkTg X.N st t e = true → PG X e (rdG X t)
  | .nm i, .Name x pos, h => by
    simp only [chkTg, Bool.and_eq_true, decide_eq_true_eq] at h
    obtain ⟨h1, h2⟩ := hst x h.2
    refine PG.imp (pg_name hN h.1 h1 h2) fun v σ H Q q => ?_
    obtain ⟨R, μ, lh, env, S, Ev, d, env', r, b, q⟩ := q
    simp only [bindT] at b
    split at b
    · cases b
      refine q _ (Ev.set r) fun j hj => ?_
      simp only [tSlots, List.mem_singleton] at hj
      exact List.getElem?_set_ne (Ne.symm hj)
    · cases b
  | .tp ts, .Tuple es k pos, h => by
    simp only [chkTg] at h
    obtain ⟨l1, l2⟩ := chkTgs_len (env := X.env) h
    refine PG.imp (pg_tup hc (pgs_ok hN hc hst ts es h) l1 l2) fun v σ H Q q => ?_
    obtain ⟨R, μ, lh, env, S, Ev, d, env', r, b, q⟩ := q
    cases d with
    | tup ds =>
      simp only [bindT] at b
      split at b
      · rename_i hl
        simp only [Rep] at r
        obtain ⟨a, xs, rfl, sq, ra⟩ := r
        refine ⟨a, xs, rfl, sq, by rw [hl]; exact ra.length.symm, R, μ, lh, env, S, Ev, ds, env', ra, b, fun σ' r' f => q σ' r' f⟩
      · cases b
    | _ => simp [bindT] at b
  | .nm _, .Tuple .., h => by simp [chkTg] at h
  | .tp _, .Name .., h => by simp [chkTg] at h
  | t, .BoolOp .., h => by cases t <;> simp [chkTg] at h
  | t, .NamedExpr .., h => by cases t <;> simp [chkTg] at h
  | t, .BinOp .., h => by cases t <;> simp [chkTg] at h
  | t, .UnaryOp .., h => by cases t <;> simp [chkTg] at h
  | t, .Lambda .., h => by cases t <;> simp [chkTg] at h
  | t, .IfExp .., h => by cases t <;> simp [chkTg] at h
  | t, .Dict .., h => by cases t <;> simp [chkTg] at h
  | t, .Set .., h => by cases t <;> simp [chkTg] at h
  | t, .ListComp .., h => by cases t <;> simp [chkTg] at h
  | t, .SetComp .., h => by cases t <;> simp [chkTg] at h
  | t, .DictComp .., h => by cases t <;> simp [chkTg] at h
  | t, .GeneratorExp .., h => by cases t <;> simp [chkTg] at h
  | t, .Await .., h => by cases t <;> simp [chkTg] at h
  | t, .Yield .., h => by cases t <;> simp [chkTg] at h
  | t, .YieldFrom .., h => by cases t <;> simp [chkTg] at h
  | t, .Compare .., h => by cases t <;> simp [chkTg] at h
  | t, .Call .., h => by cases t <;> simp [chkTg] at h
  | t, .FormattedValue .., h => by cases t <;> simp [chkTg] at h
  | t, .JoinedStr .., h => by cases t <;> simp [chkTg] at h
  | t, .Constant .., h => by cases t <;> simp [chkTg] at h
  | t, .Attribute .., h => by cases t <;> simp [chkTg] at h
  | t, .Subscript .., h => by cases t <;> simp [chkTg] at h
  | t, .Starred .., h => by cases t <;> simp [chkTg] at h
  | t, .List .., h => by cases t <;> simp [chkTg] at h
  | t, .Slice .., h => by cases t <;> simp [chkTg] at h
theorem pgs_ok {st : Str → Bool} (hN : X.N.Nodup) (hc : X.calm = true) (hst : ∀ x, st x = true → Loc X.env.scope x ∧ (X.fn x = true ∨ X.env.scope.names.lookup x = some .local)) : ∀ (ts : List T) (es : List Expr), chkTgs X.N st ts es = true → PGs X es (rdGs X ts)
  | [], [], _ => by
    refine PGs.imp pgs_nil fun v σ H Q q => ?_
    obtain ⟨R, μ, lh, env, S, Ev, ds, env', r, b, q⟩ := q
    cases ds with
    | nil =>
      simp only [bindTs] at b
      cases b
      simp only [Reps] at r
      exact ⟨r, q _ Ev fun _ _ => rfl⟩
    | cons _ _ => simp [bindTs] at b
  | [], _ :: _, h => by simp [chkTgs] at h
  | _ :: _, [], h => by simp [chkTgs] at h
  | t :: ts, e :: es, h => by
    simp only [chkTgs, Bool.and_eq_true, Bool.not_eq_true'] at h
    refine PGs.imp (pgs_cons (pg_ok hN hc hst t e h.1.2) (pgs_ok hN hc hst ts es h.2) (by rw [noStar_each h.1.1]; rfl)) fun vs σ H Q q => ?_
    obtain ⟨R, μ, lh, env, S, Ev, ds, env', r, b, q⟩ := q
    cases ds with
    | nil => simp [bindTs] at b
    | cons d ds =>
      simp only [bindTs] at b
      split at b
      · rename_i env1 b1
        simp only [Reps] at r
        obtain ⟨v, ws, rfl, r1, r2⟩ := r
        refine ⟨v, ws, rfl, R, μ, lh, env, S, Ev, d, env1, r1, b1, fun σ1 r' f1 => ?_⟩
        refine ⟨R, μ, lh, env1, S, r', ds, env', r2, b, fun σ2 r'' f2 => q σ2 r'' fun j hj => ?_⟩
        simp only [tSlotss, List.mem_append, not_or] at hj
        rw [f2 j hj.2, f1 j hj.1]
      · cases b
end

theorem wk_tup {K : Fg} {R : Ap} {μ : Nat → Addr} {H : Hp} {h : LH} {ds : List D} {a : Addr} (S : SimH K R μ H h) (r : Rep K R h.length μ H (.tup ds) (.ref a)) : Wk K R (Itt K a) [] ds h.length μ H := by
  have at_ : ∀ {R' : Ap} {μ' H' h'}, (∀ a, R' a → R a ∨ H a = none) → Ext h.length μ H (List.length (h' : LH)) μ' H' → ∃ xs, SqT K H' a xs ∧ Reps K R' h'.length μ' H' ds xs := fun {R' μ' H' h'} hR e => by
    have r := Rep.mono S e _ _ (Rep.up hR _ _ r)
    simp only [Rep] at r
    obtain ⟨b, xs, q, sq, ra⟩ := r
    cases q
    exact ⟨xs, sq, ra⟩
  refine ⟨fun R' μ' H' h' hR e S' _ => ?_, fun R' i μ' H' h' hR hi e S' _ => ?_, fun R' i d μ' H' h' x H2 hR hd e S' _ y => ?_⟩
  · obtain ⟨xs, sq, ra⟩ := at_ hR e
    exact ⟨xs, sq, by rw [ra.length]; exact Nat.le_refl _⟩
  · obtain ⟨xs, sq, ra⟩ := at_ hR e
    obtain ⟨v, q, _⟩ := ra.get (List.getElem?_eq_getElem hi)
    exact ⟨xs, v, sq, q⟩
  · obtain ⟨xs, sq, ra⟩ := at_ hR e
    obtain ⟨v, q, rv⟩ := ra.get hd
    obtain ⟨rfl, y⟩ := y
    have := y xs sq
    rw [q] at this
    cases this
    exact ⟨Ext.refl, S', rv⟩
theorem wk_lst {K : Fg} {R : Ap} {μ : Nat → Addr} {H : Hp} {h : LH} {ds : List D} {a : Addr} {d0 : D} {src : Src} (S : SimH K R μ H h) (r : Rep K R h.length μ H d0 (.ref a)) (hs : seqSrc h d0 = some (src, ds)) (hl : (asL h d0).isSome = true) : Wk K R (Itl K a) src ds h.length μ H := by
  have at_ : ∀ {R' : Ap} {μ' H' h'}, (∀ a, R' a → R a ∨ H a = none) → Ext h.length μ H (List.length (h' : LH)) μ' H' → SimH K R' μ' H' h' → SrcOk src h' → ∃ xs, H' a = some (.lst xs) ∧ Reps K R' h'.length μ' H' ds xs := fun {R' μ' H' h'} hR e S' ok => by
    have r := Rep.mono S e _ _ (Rep.up hR _ _ r)
    cases d0 with
    | lst es =>
      cases hs
      simp only [Rep] at r
      obtain ⟨b, xs, q, sq, _, ra⟩ := r
      cases q
      exact ⟨xs, sq, ra⟩
    | loc n =>
      simp only [seqSrc] at hs
      split at hs
      · rename_i es q
        cases hs
        have q' : h'[n]? = some (.lst ds) := ok (n, ds) (by simp)
        simp only [Rep] at r
        obtain ⟨_, q2⟩ := r
        cases q2
        obtain ⟨xs, q3, ra⟩ := S'.obj n _ q'
        exact ⟨xs, q3, ra⟩
      · cases hs
    | _ => simp [asL] at hl
  refine ⟨fun R' μ' H' h' hR e S' ok => ?_, fun R' i μ' H' h' hR hi e S' ok => ?_, fun R' i d μ' H' h' x H2 hR hd e S' ok y => ?_⟩
  · obtain ⟨xs, sq, ra⟩ := at_ hR e S' ok
    exact ⟨xs, SqL.of sq, by rw [ra.length]; exact Nat.le_refl _⟩
  · obtain ⟨xs, sq, ra⟩ := at_ hR e S' ok
    obtain ⟨v, q, _⟩ := ra.get (List.getElem?_eq_getElem hi)
    exact ⟨xs, v, SqL.of sq, q⟩
  · obtain ⟨xs, sq, ra⟩ := at_ hR e S' ok
    obtain ⟨v, q, rv⟩ := ra.get hd
    obtain ⟨rfl, y⟩ := y
    have := y xs (SqL.of sq)
    rw [q] at this
    cases this
    exact ⟨Ext.refl, S', rv⟩
theorem wk_str {K : Fg} {R : Ap} {μ : Nat → Addr} {H : Hp} {h : LH} {x : Str} : Wk K R (Its x) [] (x.cps.toList.map fun c => D.str ⟨#[c]⟩) h.length μ H := by
  refine ⟨fun R' μ' H' h' _ e S' _ => ?_, fun R' i μ' H' h' _ hi e S' _ => ?_, fun R' i d μ' H' h' v H2 _ hd e S' _ y => ?_⟩
  · show x.cps.size ≤ _
    simp
  · show i < x.cps.size
    simpa using hi
  · obtain ⟨rfl, c, q, rfl⟩ := y
    refine ⟨Ext.refl, S', ?_⟩
    rw [List.getElem?_map] at hd
    have q' : x.cps.toList[i]? = some c := by simpa using q
    rw [q'] at hd
    cases hd
    exact repS.mpr rfl
theorem wk_rng {K : Fg} {R : Ap} {μ : Nat → Addr} {H : Hp} {h : LH} {lo : Int} {n : Nat} : Wk K R (Itr lo n) [] ((List.range n).map fun k => D.int (lo + (k : Nat))) h.length μ H := by
  refine ⟨fun R' μ' H' h' _ e S' _ => ?_, fun R' i μ' H' h' _ hi e S' _ => ?_, fun R' i d μ' H' h' v H2 _ hd e S' _ y => ?_⟩
  · show n ≤ _
    simp
  · show i < n
    simpa using hi
  · obtain ⟨rfl, rfl⟩ := y
    refine ⟨Ext.refl, S', ?_⟩
    rw [List.getElem?_map] at hd
    cases q : (List.range n)[i]? with
    | none => rw [q] at hd; cases hd
    | some j =>
      rw [q] at hd
      cases hd
      obtain ⟨hi, hj⟩ := List.getElem?_eq_some_iff.mp q
      rw [List.getElem_range] at hj
      subst hj
      exact repI.mpr rfl
end
end Ev
namespace Ev
open PySem L2 PyProof.Rows
theorem addr_ne {a b : Nat} (h : a < b ∨ b < a) : (a : Addr) ≠ b := fun z => by
  have z : (a : Nat) = b := z
  omega
theorem zsep {n a b : Nat} (la : a < n) (lb : b < n) : ZipSep2 (n + 4) (n + 2) (n + 3) n (n + 1) [n, a] [n + 1, b] where
  TIz := addr_ne (by omega)
  TOz := addr_ne (by omega)
  TITO := addr_ne (by omega)
  TIi1 := addr_ne (by omega)
  mem1 := List.mem_cons_self
  zf1 := by simp only [List.mem_cons, List.not_mem_nil, or_false, not_or]; exact ⟨addr_ne (by omega), addr_ne (by omega)⟩
  Tf1 := by simp only [List.mem_cons, List.not_mem_nil, or_false, not_or]; exact ⟨addr_ne (by omega), addr_ne (by omega)⟩
  TIi2 := addr_ne (by omega)
  mem2 := List.mem_cons_self
  zf2 := by simp only [List.mem_cons, List.not_mem_nil, or_false, not_or]; exact ⟨addr_ne (by omega), addr_ne (by omega)⟩
  Tf2 := by simp only [List.mem_cons, List.not_mem_nil, or_false, not_or]; exact ⟨addr_ne (by omega), addr_ne (by omega)⟩
  sep1_2 := by simp only [List.mem_cons, List.not_mem_nil, or_false, not_or]; exact ⟨addr_ne (by omega), addr_ne (by omega)⟩
  sep2_1 := by simp only [List.mem_cons, List.not_mem_nil, or_false, not_or]; exact ⟨addr_ne (by omega), addr_ne (by omega)⟩
section
/-- a tuple (t) or a list -/
def SqB (t : Bool) (K : Fg) (H : Hp) (a : Addr) (xs : List V) : Prop := match t with | true => SqT K H a xs | false => SqL K H a xs
def HasB (t : Bool) (h : Heap) (a : Addr) (us : Array Value) : Prop := match t with | true => h.IsTuple a us | false => h.IsList a us
def AtB (t : Bool) (h : Heap) (it a : Addr) (i : Nat) : Prop := match t with | true => h.IsTupleIter it a i | false => h.IsListIter it a i
def itNm (t : Bool) : String := match t with | true => "tuple_iterator" | false => "list_iterator"
theorem itNm_ne : ∀ t, itNm t ≠ "tuple" ∧ itNm t ≠ "list" := by decide
def itO (t : Bool) (a : Addr) : Obj := { cls := .type (itNm t), data := .fields #[.ref a, .int 0 0] }
theorem beginsB (t : Bool) (a : Addr) (us : Array Value) : Begins (.ref a) (itO t a) fun h => HasB t h a us := by
  cases t
  · exact begins_list a us
  · exact begins_tuple a us
theorem drawsB {P : Program} {w : World} {A : Around} (t : Bool) (hd : A.handled = none) (it a : Addr) (ne : a ≠ it) (us : Array Value) :
    Draws P w A it [it, a] us.size (fun i v => us[i]? = some v) (fun i h => AtB t h it a i ∧ HasB t h a us) := by
  cases t
  · exact Draws.list hd it a ne us
  · exact Draws.tuple hd it a ne us
theorem atB_new {t : Bool} {h : Heap} {it a : Addr} (e : h.get? it = some (itO t a)) : AtB t h it a 0 := by
  cases t <;> exact ⟨_, e, rfl, rfl⟩
theorem atB_obj {t : Bool} {h : Heap} {it a : Addr} {i : Nat} (q : AtB t h it a i) : ∃ o, h.get? it = some o ∧ o.cls = .type (itNm t) ∧ o.data = .fields #[.ref a, .int i 0] := by
  cases t <;> exact q
theorem atB_keep {t : Bool} {h h' : Heap} {it a : Addr} {i : Nat} (q : AtB t h it a i) (k : ∀ o, h.get? it = some o → h'.get? it = some o) : AtB t h' it a i := by
  cases t
  · exact Heap.IsListIter.at q k
  · exact Heap.IsTupleIter.at q k
theorem hasB_obj {t : Bool} {h : Heap} {a : Addr} {us : Array Value} (q : HasB t h a us) : ∃ o, h.get? a = some o ∧ (o.cls = .type "tuple" ∨ o.cls = .type "list") := by
  cases t
  · obtain ⟨o, e, c, _⟩ := q
    exact ⟨o, e, .inr c⟩
  · obtain ⟨o, e, c, _⟩ := q
    exact ⟨o, e, .inl c⟩
end
section
variable {X : Cx} {pins : List (Addr × Obj)} {σ : L2.St} {H : Hp} {s : Shared}
theorem sqB_at {t : Bool} {a : Addr} {xs : List V} (I : L2.Inv X pins σ H s) (q : SqB t X.K H a xs) : ∃ us : List Value, Vals xs us ∧ HasB t s.heap a us.toArray := by
  cases t
  · obtain ⟨us, r, p, _⟩ := I.list q
    exact ⟨us, r, p.isList⟩
  · obtain ⟨us, r, p, _⟩ := I.tuple q
    exact ⟨us, r, p⟩
theorem sqB_inj {t : Bool} {a : Addr} {xs ys : List V} (I : L2.Inv X pins σ H s) (p : SqB t X.K H a xs) (q : SqB t X.K H a ys) : xs = ys := by
  cases t
  · exact I.list_inj p q
  · exact I.tuple_inj p q
end
def IteB (t : Bool) (K : Fg) (a : Addr) : It where
  go := fun i H => ∃ xs x, SqB t K H a xs ∧ xs[i]? = some x
  yld := fun i H v H' => ∃ T x, v = .ref T ∧ H T = none ∧ H' = upd H T (.tup [.int (i : Nat), x]) ∧ ∀ xs, SqB t K H a xs → xs[i]? = some x
  stop := fun i H => ∃ xs, SqB t K H a xs ∧ xs.length ≤ i
theorem turn_enB {P : Program} {w : World} {K : Fg} {es : List Expr} {kk : Nat} {tp : Pos} {t : Bool} {a it e : Addr} (ne : e ≠ it) :
    Turn P w K (.Tuple es kk tp) (IteB t K a) [e, it] e (fun i h => (∃ old, IsEnum h e it i old) ∧ AtB t h it a i) where
  mem := by simp
  obj := fun i h st b hb => by
    obtain ⟨⟨old, he⟩, hi⟩ := st
    obtain ⟨o, e1, _, e3⟩ := atB_obj hi
    rcases (by simpa using hb : b = e ∨ b = it) with rfl | rfl
    · exact ⟨_, he, fun v z => by cases z⟩
    · exact ⟨o, e1, fun v z => by rw [e3] at z; cases z⟩
  keep := fun i h h' st k => ⟨let ⟨old, he⟩ := st.1; ⟨old, k e (by simp) _ he⟩, atB_keep st.2 fun o q => k it (by simp) o q⟩
  item := by
    intro X hP hw hK hc i pins s σ H E I hf st hg
    subst hP hw hK
    obtain ⟨⟨old, he⟩, hi⟩ := st
    obtain ⟨xs, x, hq, hx⟩ := hg
    obtain ⟨us, rv, p⟩ := sqB_at I hq
    obtain ⟨u, hu, ru⟩ := rv.get hx
    obtain ⟨oa, ha1, ha2⟩ := hasB_obj p
    obtain ⟨oi, hi1, hi2, _⟩ := atB_obj hi
    have nea : e ≠ a := fun z => by
      rw [← z, he] at ha1
      cases ha1
      rcases ha2 with q | q <;> injection q with q <;> exact absurd q (by decide)
    have nia : a ≠ it := fun z => by
      rw [z, hi1] at ha1
      cases ha1
      rcases ha2 with q | q <;> rw [hi2] at q <;> injection q with q
      · exact (itNm_ne t).1 q
      · exact (itNm_ne t).2 q
    have D := drawsB (P := X.prog) (w := X.w) (A := X.A.in1) t (I.ok.hd hc) it a nia us.toArray
    have hel := Heap.lt_size he
    have hil := Heap.lt_size hi1
    have hlt : i < us.toArray.size := by
      have := (List.getElem?_eq_some_iff.mp hu).1
      simpa using this
    refine wpAny_pyNext_enum_itemD D he ⟨hi, p⟩ hlt ne (by simp [ne, nea]) fun y h1 tk hy out st1 tup sz kp => ?_
    have ey : y = u := by
      have hy : us.toArray[i]? = some y := hy
      rw [List.getElem?_toArray, hu] at hy
      exact (Option.some.inj hy).symm
    subst ey
    refine ⟨_, rfl, wpAny_letOwnedTupleGo_enum (s := { s with heap := h1, toks := tk + 1 }) out fun h2 he2 sb => ?_⟩
    have tup2 : h2.get? s.heap.objs.size = some { cls := .type "tuple", data := .seq #[.int i tk, y] } := (sb.2 _ (Nat.ne_of_gt hel)).trans tup
    have fresh := I.hok.fresh (Nat.le_refl s.heap.objs.size)
    have I2 : L2.Inv X pins σ (upd H s.heap.objs.size (.tup [.int (i : Nat), x])) { s with heap := h2, toks := tk + 1 } := by
      refine I.turnedNew (ch := [e, it]) (fun b o nb q => ?_) hf (Nat.le_refl _) ⟨by show 2 ≤ sizeLine; decide, [.int i tk, y], .cons ⟨_, rfl⟩ (.cons ru .nil), ⟨_, tup2, rfl, _, rfl⟩⟩
      simp only [List.mem_cons, List.not_mem_nil, or_false, not_or] at nb
      exact (sb.2 b nb.1).trans (kp b o nb.1 nb.2 q)
    refine ⟨.ref s.heap.objs.size, _, I2, rfl, ⟨_, x, rfl, fresh, rfl, fun ys hy => by rw [sqB_inj I hy hq]; exact hx⟩, ⟨⟨y, ?_⟩, atB_keep st1.1 fun o q => (sb.2 it (Ne.symm ne)).trans q⟩, fun b hb => ?_⟩
    · rw [show ((i + 1 : Nat) : Int) = (i : Int) + 1 by omega]
      exact he2
    · have hlt : b < s.heap.objs.size := by
        rcases (by simpa using hb : b = e ∨ b = it) with rfl | rfl
        · exact hel
        · exact hil
      rw [upd_ne (Nat.ne_of_lt hlt)]
      exact (hf b hb).1
  done := by
    intro X hP hw hK hc i pins s σ H E I hf st hg
    subst hP hw hK
    obtain ⟨⟨old, he⟩, hi⟩ := st
    obtain ⟨xs, hq, hx⟩ := hg
    obtain ⟨us, rv, p⟩ := sqB_at I hq
    obtain ⟨oa, ha1, ha2⟩ := hasB_obj p
    obtain ⟨oi, hi1, hi2, hi3⟩ := atB_obj hi
    have nia : a ≠ it := fun z => by
      rw [z, hi1] at ha1
      cases ha1
      rcases ha2 with q | q <;> rw [hi2] at q <;> injection q with q
      · exact (itNm_ne t).1 q
      · exact (itNm_ne t).2 q
    have ex (o : Obj) : True := trivial
    have fin := fun (h1 : Heap) (eb : Heap.ExtBut it s.heap h1) => (⟨rfl, I.turnedL (t' := s.toks) (ch := [e, it]) (fun b o nb q => eb b o (by simp only [List.mem_cons, List.not_mem_nil, or_false, not_or] at nb; exact nb.2) q) hf⟩ : (none : Option Value) = none ∧ L2.Inv X pins σ H { s with heap := h1 })
    have hle : us.length ≤ i := by rw [← rv.length]; exact hx
    cases t with
    | false =>
      obtain ⟨us2, rv2, p2, _⟩ := I.list hq
      have l2 := rv2.length
      exact wpAny_pyNext_enum_end (I.ok.hd hc) he hi p2.isList (by simp; omega) fun h1 eb => fin h1 eb
    | true =>
      have hT : s.TypeIs (.ref e) "enumerate" := ⟨_, he, rfl⟩
      unfold pyNext
      refine wpAny_bind (wpAny_attempt (wpAny_callSpecial?_slot (name := Str.ofString "__next__") hT F.slot_enumerate_next
        (wpAny_call_entry F.slot_enumerate_next hT F.entry_enumerate_next ?_ (F.args_enumerate_next_1 _))))
      show wpAny _ _ (field (.ref e) 2 >>= _) _ _ _
      refine wpAny_bind (wpAny_field he rfl (x := .ref it) rfl ?_)
      refine wpAny_bind (wpAny_nextOf_tuple_end (items := us.toArray) (I.ok.hd hc) hi p (by simp; omega) fun h1 z eb hz => ?_)
      obtain ⟨o, ho, hcl⟩ := hz
      refine wpAny_bind (wpAny_isInstance (T := "StopIteration") (b := true) ⟨o, ho, hcl⟩ isSubtype_stop ?_)
      exact wpAny_pure (fin _ eb)
  self := fun A i s Q E st q => let ⟨⟨_, he⟩, _⟩ := st; wpAny_pyIter_enum he q
set_option maxHeartbeats 1000000 in
/-- enumerate(v): its start, the count from 0 on -/
theorem en_new {v : Value} {ob : Obj} {St : Heap → Prop} (B : Begins v ob St) :
    Meets (Builtin.«enumerate.__new__» ⟨[.type "enumerate", v], []⟩) (fun _ R s => St s.heap ∧
      R (.ok (.ret (.ref (s.heap.push ob).objs.size))) { s with heap := (s.heap.push ob).push { cls := .type "enumerate", data := .fields #[.none, .bool false, .ref s.heap.objs.size, rawInt 0, .none, .none] } }) :=
  .of_wp fun prog w A R s h => by
    obtain ⟨hp, g, d, tk, os⟩ := s
    obtain ⟨h0, hR⟩ := h
    have hsub := sub_enumerate
    have begun : ∀ {A2 : Around} {E2 : Value → Shared → Prop} {Q2 : Value → Shared → Prop}, Q2 (.ref hp.objs.size) ⟨hp.push ob, g, d, tk, os⟩ → wpAny (model prog w) A2 (pyIter v) Q2 E2 ⟨hp, g, d, tk, os⟩ :=
      fun z => B.iter prog w _ _ ⟨hp, g, d, tk, os⟩ _ h0 z
    wp_walk using begun
    refine wpAny_stack_any fun _ => wpAny_pure ?_
    split
    · rename_i c _ _ _ _ _
      cases (c == Value.type "enumerate") <;> (wp_walk using begun; exact ⟨_, rfl, hR⟩)
    · wp_walk using begun
      exact ⟨_, rfl, hR⟩
theorem en_call {P : Program} {w : World} {A : Around} {E : Value → Shared → Prop} {s : Shared} {v : Value} {ob : Obj} {St : Heap → Prop} {Q : Value → Shared → Prop} (B : Begins v ob St) (h0 : St s.heap)
    (h : ∀ g, IsEnum g (s.heap.objs.size + 1) s.heap.objs.size 0 .none → g.get? s.heap.objs.size = some ob → (∀ b o, s.heap.get? b = some o → g.get? b = some o) → Q (.ref (s.heap.objs.size + 1)) { s with heap := g }) :
    wpAny (model P w) A (call (.type "enumerate") [v]) Q E s := by
  refine callType_new F.called_enumerate (by decide) (F.typeCall_enumerate_1 _) (F.newCall_enumerate_1 _) (fun z => F.args_object_init_2 z _) F.entry_enumerate_new (en_new B) ⟨h0, ?_⟩
  have sz : (s.heap.push ob).objs.size = s.heap.objs.size + 1 := Heap.size_push ..
  have top := Heap.get?_push_size (s.heap.push ob) (o := { cls := .type "enumerate", data := .fields #[.none, .bool false, .ref s.heap.objs.size, rawInt 0, .none, .none] }) rfl
  rw [sz] at top
  show _ ∧ _
  rw [sz]
  exact ⟨⟨_, top, rfl⟩, h _ top (Heap.get?_push_of_some _ (Heap.get?_push_size _ B.free)) fun b o q => Heap.get?_push_of_some _ (Heap.get?_push_of_some _ q)⟩
def iEnB (K : Fg) (ta : TA) : TI := fun σ H R => ta σ H fun vs H1 => ∃ t a xs, vs = [.ref a] ∧ SqB t K H1 a xs ∧ R (IteB t K a) H1
theorem pi_enB {X : Cx} {e : Expr} {ta : TA} {p pos tp : Pos} {es : List Expr} {kk : Nat} (hg : Gl X "enumerate") (hm : X.mg "enumerate" = none) (ha : PA X [e] ta) (hs : starEach [e] X.env = [(false, eval e X.env)]) :
    PI X (.Tuple es kk tp) (.Call (.Name "enumerate" p) [e] [] pos) (iEnB X.K ta) := by
  refine ⟨fun pins s σ H R I h => ?_⟩
  have hrun := ha.run pos pins s σ H _ I h
  refine Call_ (ld_blt I hg hm boot_enumerate (PyProof.Rows.callWith_type1 (thn hrun fun us s1 q1 => ?_) hs rfl))
  obtain ⟨vs, H1, I1, r1, t, a, xs, rfl, hq, q⟩ := q1
  obtain ⟨u, rfl, ru⟩ := Vals.one r1
  obtain rfl : u = Value.ref a := ru
  obtain ⟨us, rv, pl⟩ := sqB_at I1 hq
  refine en_call (beginsB t a us.toArray) pl fun g he hi kp => wpAny_pyIter_enum he ?_
  have I2 : L2.Inv X pins σ H1 { s1 with heap := g } := I1.kept (t' := s1.toks) kp
  refine ⟨s1.heap.objs.size + 1, [s1.heap.objs.size + 1, s1.heap.objs.size], _, _, H1, rfl, I2, turn_enB (t := t) (a := a) (it := s1.heap.objs.size) (e := s1.heap.objs.size + 1) (Nat.succ_ne_self _), ⟨⟨.none, he⟩, atB_new hi⟩, fun b hb => ?_, q⟩
  have hle : s1.heap.objs.size ≤ b := by
    rcases (by simpa using hb : b = s1.heap.objs.size + 1 ∨ b = s1.heap.objs.size) with z | z <;> rw [z] <;> first | exact Nat.le_refl _ | exact Nat.le_add_right _ _
  exact I1.fpOk hle (I1.hok.fresh hle)
def ItzB (t1 t2 : Bool) (K : Fg) (a b : Addr) : It where
  go := fun i H => ∃ xs ys x y, SqB t1 K H a xs ∧ SqB t2 K H b ys ∧ xs[i]? = some x ∧ ys[i]? = some y
  yld := fun i H v H' => ∃ T x y, v = .ref T ∧ H T = none ∧ H' = upd H T (.tup [x, y]) ∧ (∀ xs, SqB t1 K H a xs → xs[i]? = some x) ∧ ∀ ys, SqB t2 K H b ys → ys[i]? = some y
  stop := fun i H => ∃ xs ys, SqB t1 K H a xs ∧ SqB t2 K H b ys ∧ (xs.length = i ∧ i ≤ ys.length ∨ ys.length = i ∧ i ≤ xs.length)
theorem turn_zpB {P : Program} {w : World} {K : Fg} {es : List Expr} {kk : Nat} {tp : Pos} {t1 t2 : Bool} {a b z TI TO i1 i2 : Addr} (S : ZipSep2 z TI TO i1 i2 [i1, a] [i2, b]) :
    Turn P w K (.Tuple es kk tp) (ItzB t1 t2 K a b) [z, TI, TO, i1, i2] z (fun i h => IsZip h z TI TO .none ∧ IsTupOf2 h TI (.ref i1) (.ref i2) ∧ (∃ x y, IsTupOf2 h TO x y) ∧ AtB t1 h i1 a i ∧ AtB t2 h i2 b i) where
  mem := by simp
  obj := fun i h st c hc => by
    obtain ⟨hz, hI, ⟨x, y, hO⟩, q1, q2⟩ := st
    obtain ⟨o1, e1, _, d1⟩ := atB_obj q1
    obtain ⟨o2, e2, _, d2⟩ := atB_obj q2
    rcases (by simpa using hc : c = z ∨ c = TI ∨ c = TO ∨ c = i1 ∨ c = i2) with rfl | rfl | rfl | rfl | rfl
    · exact ⟨_, hz, fun v k => by cases k⟩
    · exact ⟨_, hI, fun v k => by cases k⟩
    · exact ⟨_, hO, fun v k => by cases k⟩
    · exact ⟨o1, e1, fun v k => by rw [d1] at k; cases k⟩
    · exact ⟨o2, e2, fun v k => by rw [d2] at k; cases k⟩
  keep := fun i h h' st k => by
    obtain ⟨hz, hI, ⟨x, y, hO⟩, q1, q2⟩ := st
    exact ⟨k z (by simp) _ hz, k TI (by simp) _ hI, ⟨x, y, k TO (by simp) _ hO⟩, atB_keep q1 fun o q => k i1 (by simp) o q, atB_keep q2 fun o q => k i2 (by simp) o q⟩
  item := by
    intro X hP hw hK hc i pins s σ H E I hf st hg
    subst hP hw hK
    obtain ⟨hz, hI, ⟨x0, y0, hO⟩, q1, q2⟩ := st
    obtain ⟨xs, ys, x, y, hqx, hqy, hx, hy⟩ := hg
    obtain ⟨us, rv, p⟩ := sqB_at I hqx
    obtain ⟨ws, rw', p2⟩ := sqB_at I hqy
    obtain ⟨u, hu, ru⟩ := rv.get hx
    obtain ⟨v, hv, rv2⟩ := rw'.get hy
    have hzl := Heap.lt_size hz
    obtain ⟨o1, e1, _, _⟩ := atB_obj q1
    obtain ⟨o2, e2, _, _⟩ := atB_obj q2
    have nia : a ≠ i1 := fun k => by
      obtain ⟨oa, ha1, ha2⟩ := hasB_obj p
      obtain ⟨oi, hi1, hi2, _⟩ := atB_obj q1
      rw [k, hi1] at ha1
      cases ha1
      rcases ha2 with q | q <;> rw [hi2] at q <;> injection q with q
      · exact (itNm_ne t1).1 q
      · exact (itNm_ne t1).2 q
    have nib : b ≠ i2 := fun k => by
      obtain ⟨oa, ha1, ha2⟩ := hasB_obj p2
      obtain ⟨oi, hi1, hi2, _⟩ := atB_obj q2
      rw [k, hi1] at ha1
      cases ha1
      rcases ha2 with q | q <;> rw [hi2] at q <;> injection q with q
      · exact (itNm_ne t2).1 q
      · exact (itNm_ne t2).2 q
    have D1 := drawsB (P := X.prog) (w := X.w) (A := X.A.in1) t1 (I.ok.hd hc) i1 a nia us.toArray
    have D2 := drawsB (P := X.prog) (w := X.w) (A := X.A.in1) t2 (I.ok.hd hc) i2 b nib ws.toArray
    have l1 : i < us.toArray.size := by have := (List.getElem?_eq_some_iff.mp hu).1; simpa using this
    have l2 : i < ws.toArray.size := by have := (List.getElem?_eq_some_iff.mp hv).1; simpa using this
    refine wpAny_pyNext_zipD2_item S D1 D2 hz hI hO ⟨q1, p⟩ ⟨q2, p2⟩ l1 l2 fun x1 x2 h1 tk hx1 hx2 z1 O1 s1 s2 tup sz kp => ?_
    have ex1 : x1 = u := by
      have k : us.toArray[i]? = some x1 := hx1
      rw [List.getElem?_toArray, hu] at k
      exact (Option.some.inj k).symm
    have ex2 : x2 = v := by
      have k : ws.toArray[i]? = some x2 := hx2
      rw [List.getElem?_toArray, hv] at k
      exact (Option.some.inj k).symm
    subst ex1 ex2
    refine ⟨_, rfl, wpAny_letOwnedTupleGo_zip (s := { s with heap := h1, toks := tk }) z1 fun h2 z2 sb => ?_⟩
    have tup2 : h2.get? s.heap.objs.size = some { cls := .type "tuple", data := .seq #[x1, x2] } := (sb.2 _ (Nat.ne_of_gt hzl)).trans tup
    have fresh := I.hok.fresh (Nat.le_refl s.heap.objs.size)
    have I2 : L2.Inv X pins σ (upd H s.heap.objs.size (.tup [x, y])) { s with heap := h2, toks := tk } := by
      refine I.turnedNew (ch := [z, TI, TO, i1, i2]) (fun c o nc q => ?_) hf (Nat.le_refl _) ⟨by show 2 ≤ sizeLine; decide, [x1, x2], .cons ru (.cons rv2 .nil), ⟨_, tup2, rfl, _, rfl⟩⟩
      simp only [List.mem_cons, List.not_mem_nil, or_false, not_or] at nc
      exact (sb.2 c nc.1).trans (kp c o nc.1 nc.2.2.1 nc.2.2.2.1 nc.2.2.2.2 q)
    refine ⟨.ref s.heap.objs.size, _, I2, rfl, ⟨_, x, y, rfl, fresh, rfl, fun l hl => by rw [sqB_inj I hl hqx]; exact hx, fun l hl => by rw [sqB_inj I hl hqy]; exact hy⟩, ⟨z2, ?_, ⟨x1, x2, ?_⟩, ?_, ?_⟩, fun c hcm => ?_⟩
    · exact (sb.2 _ S.TIz).trans (kp _ _ S.TIz S.TITO S.TIi1 S.TIi2 hI)
    · exact (sb.2 _ S.TOz).trans O1
    · exact atB_keep s1.1 fun o q => (sb.2 _ (Ne.symm S.zi1)).trans q
    · exact atB_keep s2.1 fun o q => (sb.2 _ (Ne.symm S.zi2)).trans q
    · have hlt : c < s.heap.objs.size := by
        rcases (by simpa using hcm : c = z ∨ c = TI ∨ c = TO ∨ c = i1 ∨ c = i2) with rfl | rfl | rfl | rfl | rfl
        · exact hzl
        · exact Heap.lt_size hI
        · exact Heap.lt_size hO
        · exact Heap.lt_size e1
        · exact Heap.lt_size e2
      rw [upd_ne (Nat.ne_of_lt hlt)]
      exact (hf c hcm).1
  done := by
    intro X hP hw hK hc i pins s σ H E I hf st hg
    subst hP hw hK
    obtain ⟨hz, hI, ⟨x0, y0, hO⟩, q1, q2⟩ := st
    obtain ⟨xs, ys, hqx, hqy, hend⟩ := hg
    obtain ⟨us, rv, p⟩ := sqB_at I hqx
    obtain ⟨ws, rw', p2⟩ := sqB_at I hqy
    have l1 := rv.length
    have l2 := rw'.length
    have nia : a ≠ i1 := fun k => by
      obtain ⟨oa, ha1, ha2⟩ := hasB_obj p
      obtain ⟨oi, hi1, hi2, _⟩ := atB_obj q1
      rw [k, hi1] at ha1
      cases ha1
      rcases ha2 with q | q <;> rw [hi2] at q <;> injection q with q
      · exact (itNm_ne t1).1 q
      · exact (itNm_ne t1).2 q
    have nib : b ≠ i2 := fun k => by
      obtain ⟨oa, ha1, ha2⟩ := hasB_obj p2
      obtain ⟨oi, hi1, hi2, _⟩ := atB_obj q2
      rw [k, hi1] at ha1
      cases ha1
      rcases ha2 with q | q <;> rw [hi2] at q <;> injection q with q
      · exact (itNm_ne t2).1 q
      · exact (itNm_ne t2).2 q
    have D1 := drawsB (P := X.prog) (w := X.w) (A := X.A.in1) t1 (I.ok.hd hc) i1 a nia us.toArray
    have D2 := drawsB (P := X.prog) (w := X.w) (A := X.A.in1) t2 (I.ok.hd hc) i2 b nib ws.toArray
    refine wpAny_pyNext_zipD2_end S D1 D2 hz hI hO ⟨q1, p⟩ ⟨q2, p2⟩ (by simp; omega) (by simp; omega) (by simp; omega) fun h1 tk kp => ⟨rfl, I.turnedL (ch := [z, TI, TO, i1, i2]) (fun c o nc q => ?_) hf⟩
    simp only [List.mem_cons, List.not_mem_nil, or_false, not_or] at nc
    exact kp c o nc.1 nc.2.2.1 nc.2.2.2.1 nc.2.2.2.2 q
  self := fun A i s Q E st q => wpAny_pyIter_zip st.1 q
def iZpB (K : Fg) (ta : TA) : TI := fun σ H R => ta σ H fun vs H1 => ∃ t1 t2 a b xs ys, vs = [.ref a, .ref b] ∧ SqB t1 K H1 a xs ∧ SqB t2 K H1 b ys ∧ R (ItzB t1 t2 K a b) H1
theorem pi_zpB {X : Cx} {e e2 : Expr} {ta : TA} {p pos tp : Pos} {es : List Expr} {kk : Nat} (hg : Gl X "zip") (hm : X.mg "zip" = none) (ha : PA X [e, e2] ta)
    (hs : starEach [e, e2] X.env = (false, eval e X.env) :: starEach [e2] X.env) (hpl : (backTo pos (starEach [e2] X.env)).any (·.1) = false) :
    PI X (.Tuple es kk tp) (.Call (.Name "zip" p) [e, e2] [] pos) (iZpB X.K ta) := by
  refine ⟨fun pins s σ H R I h => ?_⟩
  have hrun := ha.run pos pins s σ H _ I h
  refine Call_ (ld_blt I hg hm PyProof.Rows.boot_zip (PyProof.Rows.callWith_type1 (thn hrun fun us s1 q1 => ?_) hs hpl))
  obtain ⟨vs, H1, I1, r1, t1, t2, a, b, xs, ys, rfl, hqx, hqy, q⟩ := q1
  obtain ⟨u, v, rfl, ru, rv⟩ := Vals.two r1
  obtain rfl : u = Value.ref a := ru
  obtain rfl : v = Value.ref b := rv
  obtain ⟨us, ra, pa⟩ := sqB_at I1 hqx
  obtain ⟨ws, rb, pb⟩ := sqB_at I1 hqy
  have la : a < s1.heap.objs.size := let ⟨_, k, _⟩ := hasB_obj pa; Heap.lt_size k
  have lb : b < s1.heap.objs.size := let ⟨_, k, _⟩ := hasB_obj pb; Heap.lt_size k
  refine zip_begins2 (beginsB t1 a us.toArray) (beginsB t2 b ws.toArray) pa pb fun g hz hI hO h1 h2 _ kp => wpAny_pyIter_zip hz ?_
  have I2 : L2.Inv X pins σ H1 { s1 with heap := g } := I1.kept (t' := s1.toks) kp
  have S : ZipSep2 (s1.heap.objs.size + 4) (s1.heap.objs.size + 2) (s1.heap.objs.size + 3) s1.heap.objs.size (s1.heap.objs.size + 1) [s1.heap.objs.size, a] [s1.heap.objs.size + 1, b] := zsep la lb
  refine ⟨s1.heap.objs.size + 4, [s1.heap.objs.size + 4, s1.heap.objs.size + 2, s1.heap.objs.size + 3, s1.heap.objs.size, s1.heap.objs.size + 1], _, _, H1, rfl, I2, turn_zpB (t1 := t1) (t2 := t2) S, ⟨hz, hI, ⟨_, _, hO⟩, atB_new h1, atB_new h2⟩, fun c hcm => ?_, q⟩
  have hle : s1.heap.objs.size ≤ c := by
    rcases (by simpa using hcm : c = s1.heap.objs.size + 4 ∨ c = s1.heap.objs.size + 2 ∨ c = s1.heap.objs.size + 3 ∨ c = s1.heap.objs.size ∨ c = s1.heap.objs.size + 1) with k | k | k | k | k <;> rw [k] <;> first | exact Nat.le_refl _ | exact Nat.le_add_right _ _
  exact I1.fpOk hle (I1.hok.fresh hle)
end Ev
namespace Ev
open PySem L2
variable [Tabs]
def SemTy (X : Cx) (T : String) (x : V) (H : Hp) : Prop := ∀ (pins : List (Addr × Obj)) (σ : L2.St) (s : Shared) (v : Value), L2.Inv X pins σ H s → RelV x v → s.TypeIs v T ∧ ∀ a, v = .ref a → ∃ ob, s.heap.get? a = some ob ∧ ob.dict = none
theorem SemTy.of {X : Cx} {T : String} {x : V} {H : Hp} (t : tyV X.K T x H) : SemTy X T x H := fun _ _ _ _ I r => tyV_is I r t
theorem SemTy.dv {X : Cx} {R : Ap} {n : Nat} {μ : Nat → Addr} {H : Hp} {a : Addr} {kvs : List (D × D)} (t : DV X.K R n μ H a kvs) : SemTy X "dict" (.ref a) H := fun pins σ s v I r => by
  obtain rfl : v = Value.ref a := r
  have z : ∃ o, s.heap.get? a = some o ∧ o.ExactDict := by
    obtain ⟨kws, ws, hr, _⟩ := t
    rcases hr with ⟨kk, e, _⟩ | ⟨xs, _, e, _⟩
    · obtain ⟨_, _, _, _, o, _, _, e, ex, _⟩ := I.hok a _ e
      exact ⟨o, e, ex⟩
    · obtain ⟨⟨_, _, ys, _, o, es, ep, e, ex, _⟩, _⟩ := I.hok a _ e
      exact ⟨o, e, ex⟩
  obtain ⟨o, e, ex⟩ := z
  refine ⟨⟨o, e, ex.1⟩, fun b e2 => ?_⟩
  cases e2
  exact ⟨o, e, ex.2.1⟩
section
variable {X : Cx} {o e : Expr} {es : List Expr} {to : TE} {t : TA} {name : Str} {apos cpos : Pos} {T id : String} {r : V → List V → Hp → VK → Prop}
theorem pe_bmS0 (pa : PlainAttrs T) (slot : Slot T name id) (hty : typeOf (.builtin id) = pure (.type "method_descriptor")) (hm : MtM X id r) (ho : PE X o to)
    (hbase : attributeBase o name X.env (eval o X.env) = eval o X.env) (hline : (apos.endLine == cpos.line) = true) :
    PE X (.Call (.Attribute o name apos) [] [] cpos) (fun σ H Q => to σ H fun x H1 => SemTy X T x H1 ∧ r x [] H1 Q) := by
  refine ⟨fun pins s σ H Q I h => wpAny_Call_method0_late hbase hline ?_⟩
  have hx := ho.run pins s σ H _ I h
  refine thn hx fun v s1 q => ?_
  obtain ⟨x, H1, I1, r1, ty, q1⟩ := q
  have hh := ty pins σ s1 v I1 r1
  exact ⟨T, id, pa, slot, hty, hh.1, hh.2, Calls.callWith_builtin rfl (PySem.evalArgs_none (hm pins s1 σ H1 x [] v [] Q I1 r1 .nil q1))⟩
theorem pe_bmS (pa : PlainAttrs T) (slot : Slot T name id) (hty : typeOf (.builtin id) = pure (.type "method_descriptor")) (hm : MtM X id r) (ho : PE X o to) (ha : PA X (e :: es) t)
    (hbase : attributeBase o name X.env (eval o X.env) = eval o X.env)
    (hfew : ((backTo cpos (starEach (e :: es) X.env)).all (fun x => !x.1) && (backToKw cpos (keywordEach [] X.env)).all (fun x => x.1.isSome)
      && decide ((e :: es).length + ([] : List Keyword).length + (if ([] : List Keyword).isEmpty then 0 else 1) < 30)) = true)
    (hline : (apos.endLine == cpos.line) = true) (hs : starEach (e :: es) X.env = (false, eval e X.env) :: starEach es X.env) (hplain : (backTo cpos (starEach es X.env)).any (·.1) = false) :
    PE X (.Call (.Attribute o name apos) (e :: es) [] cpos) (fun σ H Q => to σ H fun x H1 => SemTy X T x H1 ∧ t σ H1 fun xs H2 => r x xs H2 Q) := by
  refine ⟨fun pins s σ H Q I h => wpAny_Call_method_late hbase hfew hline rfl ?_⟩
  have hx := ho.run pins s σ H _ I h
  refine thn hx fun v s1 q => ?_
  obtain ⟨x, H1, I1, r1, ty, q1⟩ := q
  have hh := ty pins σ s1 v I1 r1
  refine ⟨T, id, pa, slot, hty, hh.1, hh.2, ?_⟩
  have hA := ha.run cpos pins s1 σ H1 _ I1 q1
  rw [hs] at hA ⊢
  refine Calls.callWith_builtin (by show (false || (backTo cpos (starEach es X.env)).any (·.1)) = false; rw [hplain] <;> rfl) (Calls.evalArgs_plain ?_)
  refine thn hA fun us s2 q2 => ?_
  obtain ⟨vs, H2, I2, r2, q2⟩ := q2
  exact hm pins s2 σ H2 x vs v us Q I2 r1 r2 q2
/-- (a, b, ..).index(x): the texts of a tuple that was just written -/
def tTix (K : Fg) (t : TA) (te : TE) : TE := fun σ H Q => t σ H fun xs H1 => xs.length ≤ sizeLine ∧ ∀ p, H1 p = none → te σ (upd H1 p (.tup xs)) fun x H2 =>
  ∃ ys : List Str, ∃ z j, xs = ys.map V.str ∧ x = .str z ∧ SqT K H2 p xs ∧ ys[j]? = some z ∧ (∀ m, m < j → ys[m]? ≠ some z) ∧ Q (.int (j : Nat)) H2
theorem pe_tix {fs : List Expr} {kk : Nat} {tpos : Pos} {f : Expr} {te : TE} (ha : PA X fs t) (hf : PE X f te)
    (hs : starEach [f] X.env = [(false, eval f X.env)]) (hline : (apos.endLine == cpos.line) = true) :
    PE X (.Call (.Attribute (.Tuple fs kk tpos) "index" apos) [f] [] cpos) (tTix X.K t te) := by
  refine ⟨fun pins s σ H Q I h => wpAny_Call_method1_late rfl hline (by rw [hs]; rfl) ?_⟩
  refine wpAny_Tuple_spliced ?_
  refine thn (ha.run tpos pins s σ H _ I h) fun us s1 q => ?_
  obtain ⟨xs, H1, I1, r, z, q⟩ := q
  refine ⟨by rw [← r.length]; exact z, ?_⟩
  have hn : H1 s1.heap.objs.size = none := I1.hok.fresh (Nat.le_refl _)
  have hg : (s1.heap.push { cls := .type "tuple", data := .seq us.toArray }).get? s1.heap.objs.size = some { cls := .type "tuple", data := .seq us.toArray } := Heap.get?_push_size _ rfl
  have I2 : L2.Inv X pins σ (upd H1 s1.heap.objs.size (.tup xs)) { s1 with heap := s1.heap.push { cls := .type "tuple", data := .seq us.toArray } } :=
    I1.laid (t' := s1.toks) (fun b u e => Heap.get?_push_of_some _ e) (Nat.le_refl _) ⟨z, us, r, ⟨_, hg, rfl, _, rfl⟩⟩
  refine ⟨"tuple", "tuple.index", PySem.F.plainAttrs_tuple, PySem.F.slot_tuple_index, PySem.F.type_tuple_index, ⟨_, hg, rfl⟩, fun a e => ?_, ?_⟩
  · cases e; exact ⟨_, hg, rfl⟩
  refine Calls.callWith_builtin rfl (Calls.evalArgs_plain ?_)
  refine Calls.spliced_cons (thn (hf.run pins _ σ _ _ I2 (q _ hn)) fun u s2 q2 => ?_)
  obtain ⟨x, H2, I3, rx, ys, w, j, e1, e2, sq, h1, h2, q2⟩ := q2
  refine Calls.spliced_nil ?_
  subst e1 e2
  exact mt_tup_index pins s2 σ H2 (.ref s1.heap.objs.size) [.str w] (.ref s1.heap.objs.size) [u] Q I3 rfl (.cons rx .nil) ⟨_, ys, w, j, rfl, rfl, sq, h1, h2, q2⟩
end
def prs : List V → List (V × V)
  | x :: y :: r => (x, y) :: prs r
  | _ => []
def trsE (X : Cx) (W : WX) : List E → List (TE × TE)
  | k :: v :: r => (rdE X W k, rdE X W v) :: trsE X W r
  | _ => []
def rdPs (X : Cx) (W : WX) (es : List E) : L2.St → Hp → (List (V × V) → Hp → Prop) → Prop := fun σ H Q => In1 X σ H fun R μ h env => Post X.K X.mg (WP X W σ) R h.length μ H (fun ds h' μ' H' => ∀ vs, Reps X.K R h'.length μ' H' ds vs → Q (prs vs) H') (evEs es env h)
theorem pairs_rd {X : Cx} {W : WX} : ∀ (es : List E) (σ : L2.St) (H : Hp) (Q : List (V × V) → Hp → Prop), es.length % 2 = 0 → rdPs X W es σ H Q → tPairs (trsE X W es) σ H Q
  | [], σ, H, Q, _, q => by
    obtain ⟨R, μ, h, env, S, Ev, p⟩ := q
    exact p μ H Ext.refl S [] (by simp [Reps])
  | [_], _, _, _, hl, _ => by simp at hl
  | k :: v :: r, σ, H, Q, hl, q => by
    obtain ⟨R, μ, h, env, S, Ev, p⟩ := q
    simp only [evEs] at p
    refine ⟨R, μ, h, env, S, Ev, p.bind.imp fun d1 h1 μ1 H1 e1 S1 p1 x rx => ?_⟩
    have Ev1 := Ev.mono S e1
    refine ⟨R, μ1, h1, env, S1, Ev1, p1.bind.bind.imp fun d2 h2 μ2 H2 e2 S2 p2 y ry => ?_⟩
    refine pairs_rd r σ H2 _ (by simp only [List.length_cons] at hl; omega) ⟨R, μ2, h2, env, S2, Ev1.mono S1 e2, p2.bind.imp fun ds h3 μ3 H3 e3 S3 p3 vs rs => ?_⟩
    have p4 := p3 μ3 H3 Ext.refl S3
    refine p4 μ3 H3 Ext.refl S3 (x :: y :: vs) ?_
    simp only [Reps]
    exact ⟨x, _, rfl, Rep.mono S2 e3 _ _ (Rep.mono S1 e2 _ _ rx), y, vs, rfl, Rep.mono S2 e3 _ _ ry, rs⟩
theorem dK_keep {K : Fg} {H : Hp} {p : Addr} {kvs : List (Key × V)} {u : HO} (hp : H p = some (.dK kvs)) : (∀ a xs, SqT K H a xs → SqT K (upd H p u) a xs) ∧ (∀ a xs, FzS K H a xs → FzS K (upd H p u) a xs) := by
  refine ⟨fun a xs q => ?_, fun a xs q => ?_⟩
  · rcases q with (q | ⟨o, q⟩) | q
    · exact .inl (.inl (by rw [upd_ne (fun z => by rw [z, hp] at q; cases q)]; exact q))
    · exact .inl (.inr ⟨o, by rw [upd_ne (fun z => by rw [z, hp] at q; cases q)]; exact q⟩)
    · exact .inr q
  · rcases q with ⟨o, q⟩ | q
    · exact .inl ⟨o, by rw [upd_ne (fun z => by rw [z, hp] at q; cases q)]; exact q⟩
    · exact .inr q
section
variable {K : Fg} {R : Ap} {n : Nat} {μ : Nat → Addr} {H : Hp}
theorem prs_rep : ∀ (ds : List D) (vs : List V) (kvs : List (D × D)), pairUp ds = some kvs → Reps K R n μ H ds vs → (kvs.all fun p => keyB p.1) = true →
    ∃ kk : List (Key × V), prs vs = kk.map (fun p => (kV p.1, p.2)) ∧ kvs.map (·.1) = kk.map (fun p => keyD p.1) ∧ Reps K R n μ H (kvs.map (·.2)) (kk.map (·.2))
  | [], vs, kvs, e, r, _ => by
    simp only [pairUp] at e; cases e
    simp only [Reps] at r; subst r
    exact ⟨[], rfl, rfl, by simp [Reps]⟩
  | [_], _, _, e, _, _ => by simp [pairUp] at e
  | x :: y :: ds, vs, kvs, e, r, hk => by
    simp only [pairUp] at e
    split at e
    · rename_i l q
      cases e
      simp only [Reps] at r
      obtain ⟨v, ws, rfl, rx, w, us, rfl, ry, rr⟩ := r
      simp only [List.all_cons, Bool.and_eq_true] at hk
      obtain ⟨kk, h1, h2, h3⟩ := prs_rep ds us l q rr hk.2
      obtain ⟨k, rfl⟩ := keyB_of hk.1
      cases rep_keyD rx
      refine ⟨(k, w) :: kk, by simp only [prs, List.map_cons, h1], by simp [h2], ?_⟩
      simp only [List.map_cons, Reps]
      exact ⟨w, _, rfl, ry, h3⟩
    · cases e
theorem merge_dput : ∀ (kvs : List (D × D)) (kk : List (Key × V)) (acc : List (D × D)) (ak : List (Key × V)), kvs.map (·.1) = kk.map (fun p => keyD p.1) → Reps K R n μ H (kvs.map (·.2)) (kk.map (·.2)) →
    acc.map (·.1) = ak.map (fun p => keyD p.1) → Reps K R n μ H (acc.map (·.2)) (ak.map (·.2)) →
    (kvs.foldl (fun acc p => dput acc p.1 p.2) acc).map (·.1) = (mergeK ak kk).map (fun p => keyD p.1) ∧ Reps K R n μ H ((kvs.foldl (fun acc p => dput acc p.1 p.2) acc).map (·.2)) ((mergeK ak kk).map (·.2))
  | [], [], _, _, _, _, e, r => ⟨e, r⟩
  | [], _ :: _, _, _, e, _, _, _ => by simp at e
  | _ :: _, [], _, _, e, _, _, _ => by simp at e
  | p :: kvs, q :: kk, acc, ak, e, r, e0, r0 => by
    simp only [List.map_cons, List.cons.injEq] at e
    simp only [List.map_cons, Reps, List.cons.injEq] at r
    obtain ⟨v, vs, ⟨rfl, rfl⟩, r1, r2⟩ := r
    obtain ⟨d1, d2⟩ := putK_dput (k := q.1) r1 e0 r0
    have := merge_dput kvs kk (dput acc p.1 p.2) (putK ak q.1 q.2) e.2 r2 (by rw [e.1]; exact d1) (by rw [e.1]; exact d2)
    exact this
end
theorem dsp_rd {X : Cx} {W : WX} {es : List E} {σ : L2.St} {H : Hp} {Q : VK} (hl : es.length % 2 = 0) (q : rdE X W (.dsp es) σ H Q) : tDisp (trsE X W es) σ H Q := by
  intro p0 hp
  obtain ⟨R, μ, h, env, S, Ev, p⟩ := q
  simp only [evE] at p
  have hR : ∀ a, (R a ∨ a = p0) → R a ∨ H a = none := fun a r => by
    rcases r with r | r
    · exact .inl r
    · subst r; exact .inr hp
  have e0 : Ext h.length μ H h.length μ (upd H p0 (.dK [])) := Ext.laid hp
  have S0 := S.apart (u := .dK []) hp
  have nR : ¬ R p0 := (S.unr_fresh hp).1
  refine pairs_rd es σ _ _ hl ⟨fun a => R a ∨ a = p0, μ, h, env, S0, (Ev.up hR).mono S e0, ?_⟩
  cases e : evEs es env h with
  | no => rw [e] at p; exact p.elim
  | ex x h1 =>
    rw [e] at p ⊢
    exact fun μ1 H1 cls dx e1 S1 rx => p μ1 H1 cls dx (e0.trans S0 e1) (S1.weak fun _ r => .inl r) (by
      obtain ⟨C, c1, c2, c3⟩ := rx
      refine ⟨C, c1, c2, ?_⟩
      split at c3
      · exact c3
      · obtain ⟨a, v, q1, q2, q3⟩ := c3
        exact ⟨a, v, q1, q2, Rep.up (fun a r => .inl (.inl r)) _ _ q3⟩)
  | ok ds h1 =>
    rw [e] at p ⊢
    simp only [Res.bind] at p
    intro μ1 H1 e1 S1 vs r
    split at p
    · exact p.elim
    · rename_i kvs hkv
      split at p
      · rename_i c
        obtain ⟨kk, k1, k2, k3⟩ := prs_rep ds vs kvs hkv r c.1
        have hdK : H1 p0 = some (.dK []) := e1.keep p0 _ (fun l hl z => S0.sep l hl (.inr z)) upd_same
        have hlen : kk.length ≤ 15 := by
          have := congrArg List.length k2
          simp only [List.length_map] at this
          omega
        refine ⟨hdK, kk, k1, hlen, ?_⟩
        obtain ⟨d1, d2⟩ := merge_dput kvs kk [] [] k2 k3 rfl (by simp [Reps])
        obtain ⟨kt, kf⟩ := dK_keep (K := X.K) (u := .dK (mergeK [] kk)) hdK
        have S2 := S1.newLocR (u := .dK (mergeK [] kk)) (o := .dct (kvs.foldl (fun acc p => dput acc p.1 p.2) [])) nR hdK (fun gen => by
          have gens : ∀ (ds : List D) (vs : List V), Reps X.K (fun a => R a ∨ a = p0) h1.length μ1 H1 ds vs → Reps X.K R (h1.length + 1) (muN μ1 h1.length p0) (upd H1 p0 (.dK (mergeK [] kk))) ds vs := by
            intro ds
            induction ds with
            | nil => intro vs r; simpa only [Reps] using r
            | cons d ds ih =>
              intro vs r
              simp only [Reps] at r ⊢
              obtain ⟨v, ws, rfl, r1, r2⟩ := r
              exact ⟨v, ws, rfl, gen _ _ r1, ih _ r2⟩
          refine ⟨(mergeK [] kk).map fun p => kV p.1, (mergeK [] kk).map (·.2), .inl ⟨_, upd_same, d1, rfl, rfl⟩, ?_, gens _ _ d2⟩
          rw [d1]
          exact reps_keys _) kt kf
        have e2 : Ext h.length μ H (h1 ++ [O.dct (kvs.foldl (fun acc p => dput acc p.1 p.2) [])]).length (muN μ1 h1.length p0) (upd H1 p0 (.dK (mergeK [] kk))) := by
          rw [List.length_append]
          exact (e0.trans S0 e1).newLocR hp
        refine p _ _ e2 S2 _ ?_
        simp only [Rep]
        refine ⟨by simp, ?_⟩
        rw [muN_eq]
      · exact p.elim
theorem idxOf_at {ys : List Str} {z : Str} {k : Nat} (h : ys.idxOf? z = some k) : ys[k]? = some z ∧ ∀ m, m < k → ys[m]? ≠ some z := by
  rw [List.idxOf?, List.findIdx?_eq_some_iff_getElem] at h
  obtain ⟨hl, h1, h2⟩ := h
  refine ⟨by rw [List.getElem?_eq_getElem hl, eq_of_beq h1], fun m hm e => ?_⟩
  have hml : m < ys.length := Nat.lt_trans hm hl
  rw [List.getElem?_eq_getElem hml, Option.some.injEq] at e
  exact h2 m hm (by rw [e]; exact beq_self_eq_true z)
theorem tix_rd {X : Cx} {W : WX} {os : List E} {c : E} {σ : L2.St} {H : Hp} {Q : VK} (q : rdE X W (.tix os c) σ H Q) : tTix X.K (rdEs X W os) (rdE X W c) σ H Q := by
  obtain ⟨R, μ, h, env, S, Ev, p⟩ := q
  simp only [evE] at p
  refine ⟨R, μ, h, env, S, Ev, p.bind.imp fun ds h1 μ1 H1 e1 S1 p1 xs rs => ?_⟩
  split at p1
  · rename_i hl
    refine ⟨by rw [← rs.length]; exact hl, fun a ha => ?_⟩
    have eL : Ext h1.length μ1 H1 h1.length μ1 (upd H1 a (.tup xs)) := Ext.laid ha
    have SL := S1.laid (o := .tup xs) ha
    refine ⟨R, μ1, h1, env, SL, (Ev.mono S e1).mono S1 eL, (p1.later eL SL).bind.imp fun d2 h2 μ2 H2 e2 S2 p2 v2 r2 => ?_⟩
    split at p2
    · rename_i ys z qs
      cases repS.mp r2
      split at p2
      · rename_i k qk
        obtain ⟨i1, i2⟩ := idxOf_at qk
        have exs := strsOf_ok qs rs
        have sq : SqT X.K H2 a xs := (mono_k (R := R) SL e2).2.1 a xs (SqT.of upd_same)
        exact ⟨ys, z, k, exs, rfl, sq, i1, i2, p2.int S2⟩
      · exact p2.elim
    · exact p2.elim
  · exact p1.elim
theorem reps_ints {K : Fg} {R : Ap} {n : Nat} {μ : Nat → Addr} {H : Hp} {α : Type} (f : α → Int) : ∀ l : List α, Reps K R n μ H (l.map fun k => D.int (f k)) (l.map fun k => V.int (f k))
  | [] => by simp [Reps]
  | a :: l => by
    simp only [List.map_cons, Reps]
    exact ⟨_, _, rfl, rep_int.mpr rfl, reps_ints f l⟩
theorem lrg1_rd {X : Cx} {W : WX} {m : Bool} {a : E} {σ : L2.St} {H : Hp} {Q : VK} (q : rdE X W (.lrg m (.rng [a])) σ H Q) : tLstRg (tRg1 (rdE X W a)) σ H Q := by
  obtain ⟨R, μ, h, env, S, Ev, p⟩ := q
  simp only [evE, evI] at p
  refine ⟨R, μ, h, env, S, Ev, p.bind.bind.imp fun d1 h1 μ1 H1 e1 S1 p1 v1 r1 => ?_⟩
  split at p1
  · rename_i l q
    unfold rangeItems at q
    split at q
    · rename_i j q5
      cases q5
      split at q
      · rename_i c
        cases q
        cases repI.mp r1
        have p2 := p1 μ1 H1 Ext.refl S1
        simp only at p2
        split at p2
        · rename_i hz
          have e1 : ∀ i : Nat, (0 : Int) + (i : Nat) = ((i : Nat) : Int) := fun i => by omega
          have hz' : (j - 0).toNat ≤ 2 ^ 24 := by
            have : ((List.range j.toNat).map fun i => D.int (i : Nat)).length ≤ sizeLine := hz
            rw [List.length_map, List.length_range, sizeLine_eq] at this
            omega
          refine ⟨j, rfl, ⟨by decide, by decide, c.1, c.2, hz'⟩, ?_⟩
          have r : Reps X.K R h1.length μ1 H1 ((List.range j.toNat).map fun i => D.int (i : Nat)) (rgV 0 j) := by
            unfold rgV
            rw [show (j - 0).toNat = j.toNat by omega]
            simp only [e1]
            exact reps_ints (fun i : Nat => ((i : Nat) : Int)) _
          exact lst_ok S1 r p2
        · exact p2.elim
      · cases q
    · rename_i q5; cases q5
    · cases q
  · exact p1.elim
theorem lrg2_rd {X : Cx} {W : WX} {m : Bool} {a b : E} {σ : L2.St} {H : Hp} {Q : VK} (q : rdE X W (.lrg m (.rng [a, b])) σ H Q) : tLstRg (tRg2 (rdE X W a) (rdE X W b)) σ H Q := by
  obtain ⟨R, μ, h, env, S, Ev, p⟩ := q
  simp only [evE, evI] at p
  refine ⟨R, μ, h, env, S, Ev, p.bind.bind.imp fun d1 h1 μ1 H1 e1 S1 p1 v1 r1 => ?_⟩
  refine ⟨R, μ1, h1, env, S1, Ev.mono S e1, p1.bind.imp fun d2 h2 μ2 H2 e2 S2 p2 v2 r2 => ?_⟩
  split at p2
  · rename_i l q
    unfold rangeItems at q
    split at q
    · rename_i q5; cases q5
    · rename_i i j q5
      cases q5
      split at q
      · rename_i c
        cases q
        cases repI.mp (Rep.mono S1 e2 _ _ r1)
        cases repI.mp r2
        have p3 := p2 μ2 H2 Ext.refl S2
        simp only at p3
        split at p3
        · rename_i hz
          have hz' : (j - i).toNat ≤ 2 ^ 24 := by
            have : ((List.range (j - i).toNat).map fun k => D.int (i + (k : Nat))).length ≤ sizeLine := hz
            rw [List.length_map, List.length_range, sizeLine_eq] at this
            exact this
          refine ⟨i, j, rfl, rfl, ⟨c.1, c.2.1, c.2.2.1, c.2.2.2, hz'⟩, ?_⟩
          exact lst_ok S2 (reps_ints (fun k : Nat => i + (k : Nat)) _) p3
        · exact p3.elim
      · cases q
    · cases q
  · exact p2.elim
theorem Reps.reverse {K : Fg} {R : Ap} {n : Nat} {μ : Nat → Addr} {H : Hp} : ∀ {ds : List D} {vs : List V}, Reps K R n μ H ds vs → Reps K R n μ H ds.reverse vs.reverse
  | [], vs, r => by simp only [Reps] at r; subst r; simp [Reps]
  | d :: ds, vs, r => by
    simp only [Reps] at r
    obtain ⟨v, ws, rfl, r1, r2⟩ := r
    rw [List.reverse_cons, List.reverse_cons]
    exact (Reps.reverse r2).append (reps1.mpr ⟨v, rfl, r1⟩)
theorem wk_rngC {K : Fg} {R : Ap} {μ : Nat → Addr} {H : Hp} {h : LH} {i j : Int} : Wk K R (Itc i (-1) (i - j).toNat) [] (rangeDown i j) h.length μ H := by
  have hl : (rangeDown i j).length = (i - j).toNat := by simp [rangeDown]
  refine ⟨fun R' μ' H' h' hR e S' _ => ?_, fun R' k μ' H' h' hR hk e S' _ => ?_, fun R' k d μ' H' h' x H2 hR hd e S' _ y => ?_⟩
  · show (i - j).toNat ≤ _
    rw [hl]; exact Nat.le_refl _
  · show k < (i - j).toNat
    rw [← hl]; exact hk
  · obtain ⟨rfl, rfl⟩ := y
    refine ⟨Ext.refl, S', ?_⟩
    unfold rangeDown at hd
    rw [List.getElem?_map] at hd
    have hk : k < (i - j).toNat := by rw [← hl]; exact (List.getElem?_eq_some_iff.mp (by unfold rangeDown; rw [List.getElem?_map]; exact hd)).1
    rw [List.getElem?_range hk] at hd
    cases hd
    exact rep_int.mpr rfl
/-- a list or tuple that stands for the items, whatever comes -/
def SqW (K : Fg) (R : Ap) (t : Bool) (a : Addr) (src : Src) (items : List D) (n1 : Nat) (μ1 : Nat → Addr) (H1 : Hp) : Prop :=
  ∀ (R' : Ap) μ H (h : LH), (∀ b, R' b → R b ∨ H1 b = none) → Ext n1 μ1 H1 h.length μ H → SimH K R' μ H h → SrcOk src h → ∃ xs, SqB t K H a xs ∧ Reps K R' h.length μ H items xs
theorem sqw_of {K : Fg} {R : Ap} {μ : Nat → Addr} {H : Hp} {h : LH} {d : D} {v : V} {src : Src} {items : List D} (S : SimH K R μ H h) (r : Rep K R h.length μ H d v) (hs : seqSrc h d = some (src, items)) (hl : (asS h d).isSome = true) :
    ∃ t a, v = .ref a ∧ (∃ xs, SqB t K H a xs) ∧ SqW K R t a src items h.length μ H := by
  have mono : ∀ {R' : Ap} {μ' H' h'}, (∀ b, R' b → R b ∨ H b = none) → Ext h.length μ H (List.length (h' : LH)) μ' H' → Rep K R' h'.length μ' H' d v := fun {R' μ' H' h'} hR e => Rep.mono S e _ _ (Rep.up hR _ _ r)
  cases d with
  | tup ds =>
    cases hs
    have r0 := r
    simp only [Rep] at r0
    obtain ⟨a, xs, rfl, sq, _⟩ := r0
    refine ⟨true, a, rfl, ⟨xs, sq⟩, fun R' μ' H' h' hR e S' _ => ?_⟩
    have r1 := mono hR e
    simp only [Rep] at r1
    obtain ⟨b, ys, q, sq1, ra⟩ := r1
    cases q
    exact ⟨ys, sq1, ra⟩
  | lst ds =>
    cases hs
    have r0 := r
    simp only [Rep] at r0
    obtain ⟨a, xs, rfl, sq, _⟩ := r0
    refine ⟨false, a, rfl, ⟨xs, SqL.of sq⟩, fun R' μ' H' h' hR e S' _ => ?_⟩
    have r1 := mono hR e
    simp only [Rep] at r1
    obtain ⟨b, ys, q, sq1, _, ra⟩ := r1
    cases q
    exact ⟨ys, SqL.of sq1, ra⟩
  | loc n =>
    simp only [seqSrc] at hs
    split at hs
    · rename_i es q
      cases hs
      have r0 := r
      simp only [Rep] at r0
      obtain ⟨hn, rfl⟩ := r0
      obtain ⟨xs, e1, _⟩ := S.obj n _ q
      refine ⟨false, μ n, rfl, ⟨xs, SqL.of e1⟩, fun R' μ' H' h' hR e S' ok => ?_⟩
      have q' : h'[n]? = some (.lst items) := ok (n, items) (by simp)
      obtain ⟨ys, e2, ra⟩ := S'.obj n _ q'
      rw [e.agree n hn] at e2
      exact ⟨ys, SqL.of e2, ra⟩
    · cases hs
  | _ => simp [asS, asL] at hl
theorem wk_enB {K : Fg} {R : Ap} {t : Bool} {μ : Nat → Addr} {H : Hp} {h : LH} {a : Addr} {src : Src} {items : List D} (w : SqW K R t a src items h.length μ H) : Wk K R (IteB t K a) src (enmD items) h.length μ H := by
  have hl : (enmD items).length = items.length := by simp [enmD]
  refine ⟨fun R' μ' H' h' hR e S' ok => ?_, fun R' k μ' H' h' hR hk e S' ok => ?_, fun R' k d μ' H' h' x H2 hR hd e S' ok y => ?_⟩
  · obtain ⟨xs, sq, ra⟩ := w R' μ' H' h' hR e S' ok
    exact ⟨xs, sq, by rw [hl, ra.length]; exact Nat.le_refl _⟩
  · obtain ⟨xs, sq, ra⟩ := w R' μ' H' h' hR e S' ok
    obtain ⟨v, q, _⟩ := ra.get (List.getElem?_eq_getElem (by rw [← hl]; exact hk))
    exact ⟨xs, v, sq, q⟩
  · obtain ⟨xs, sq, ra⟩ := w R' μ' H' h' hR e S' ok
    obtain ⟨T, x0, rfl, hT, rfl, hx⟩ := y
    have hk : k < items.length := by rw [← hl]; exact (List.getElem?_eq_some_iff.mp hd).1
    obtain ⟨v, q, rv⟩ := ra.get (List.getElem?_eq_getElem hk)
    have z := hx xs sq
    rw [q] at z
    cases z
    have eL : Ext h'.length μ' H' h'.length μ' (upd H' T (.tup [.int (k : Nat), x0])) := Ext.laid hT
    refine ⟨eL, S'.laid hT, ?_⟩
    unfold enmD at hd
    rw [List.getElem?_map, List.getElem?_zipIdx, List.getElem?_eq_getElem hk] at hd
    simp only [Option.map_some, Option.some.injEq] at hd
    subst hd
    simp only [Rep]
    refine ⟨T, _, rfl, SqT.of upd_same, ?_⟩
    simp only [Reps]
    exact ⟨_, _, rfl, by simp [Rep], x0, [], rfl, Rep.mono S' eL _ _ rv, rfl⟩
theorem wk_zpB {K : Fg} {R : Ap} {t1 t2 : Bool} {μ : Nat → Addr} {H : Hp} {h : LH} {a b : Addr} {s1 s2 : Src} {i1 i2 : List D} (w1 : SqW K R t1 a s1 i1 h.length μ H) (w2 : SqW K R t2 b s2 i2 h.length μ H) : Wk K R (ItzB t1 t2 K a b) (s1 ++ s2) (zipD i1 i2) h.length μ H := by
  have hl : (zipD i1 i2).length = min i1.length i2.length := by simp [zipD]
  have ok1 {g : LH} (ok : SrcOk (s1 ++ s2) g) : SrcOk s1 g ∧ SrcOk s2 g := ⟨fun p hp => ok p (List.mem_append_left _ hp), fun p hp => ok p (List.mem_append_right _ hp)⟩
  refine ⟨fun R' μ' H' h' hR e S' ok => ?_, fun R' k μ' H' h' hR hk e S' ok => ?_, fun R' k d μ' H' h' x H2 hR hd e S' ok y => ?_⟩
  · obtain ⟨xs, sq, ra⟩ := w1 R' μ' H' h' hR e S' (ok1 ok).1
    obtain ⟨ys, sq2, rb⟩ := w2 R' μ' H' h' hR e S' (ok1 ok).2
    have := ra.length
    have := rb.length
    exact ⟨xs, ys, sq, sq2, by rw [hl]; omega⟩
  · obtain ⟨xs, sq, ra⟩ := w1 R' μ' H' h' hR e S' (ok1 ok).1
    obtain ⟨ys, sq2, rb⟩ := w2 R' μ' H' h' hR e S' (ok1 ok).2
    obtain ⟨u, q1, _⟩ := ra.get (List.getElem?_eq_getElem (show k < i1.length by omega))
    obtain ⟨v, q2, _⟩ := rb.get (List.getElem?_eq_getElem (show k < i2.length by omega))
    exact ⟨xs, ys, u, v, sq, sq2, q1, q2⟩
  · obtain ⟨xs, sq, ra⟩ := w1 R' μ' H' h' hR e S' (ok1 ok).1
    obtain ⟨ys, sq2, rb⟩ := w2 R' μ' H' h' hR e S' (ok1 ok).2
    obtain ⟨T, x0, y0, rfl, hT, rfl, hx, hy⟩ := y
    have hk : k < (zipD i1 i2).length := (List.getElem?_eq_some_iff.mp hd).1
    have k1 : k < i1.length := by omega
    have k2 : k < i2.length := by omega
    obtain ⟨u, q1, r1⟩ := ra.get (List.getElem?_eq_getElem k1)
    obtain ⟨v, q2, r2⟩ := rb.get (List.getElem?_eq_getElem k2)
    have z1 := hx xs sq
    rw [q1] at z1
    cases z1
    have z2 := hy ys sq2
    rw [q2] at z2
    cases z2
    have eL : Ext h'.length μ' H' h'.length μ' (upd H' T (.tup [x0, y0])) := Ext.laid hT
    refine ⟨eL, S'.laid hT, ?_⟩
    have ed : d = .tup [i1[k], i2[k]] := by
      unfold zipD at hd
      rw [List.getElem?_map, List.getElem?_eq_getElem (by simp; omega)] at hd
      simp only [Option.map_some, Option.some.injEq, List.getElem_zip] at hd
      exact hd.symm
    subst ed
    simp only [Rep]
    refine ⟨T, _, rfl, SqT.of upd_same, ?_⟩
    simp only [Reps]
    exact ⟨_, _, rfl, Rep.mono S' eL _ _ r1, y0, [], rfl, Rep.mono S' eL _ _ r2, rfl⟩
end Ev
namespace Ev
open PySem L2
variable [Tabs]
/-- a law's fixed things, the level of calls -/
structure Gam where
  P : Program
  w : World
  K : Fg
  mg : Mg
  base : Heap
  k : Nat
abbrev gam (X : Cx) (k : Nat) : Gam := ⟨X.prog, X.w, X.K, X.mg, X.base, k⟩
/-- a def's promise in the evaluator's words -/
def spD (K : Fg) (mg : Mg) (m : Nat) (S : Fn) : Sp := fun vs H Q E => ∃ R μ h ds, ds.length = m ∧ SimH K R μ H h ∧ Reps K R h.length μ H ds vs ∧ Post K mg E R h.length μ H (PV K R Q) (S ds h)
structure FnD (Γ : Gam) (x : Str) (S : Fn) (m : Nat) (dfl : List D) : Prop where
  ex : ∃ (f : Addr) (fd : FuncData) (ps : List Str) (j : Nat) (ds : List Value) (dvs : List V), Γ.mg x = some (.ref f) ∧ j ≤ Γ.k ∧ FnOk Γ.P Γ.w Γ.K Γ.mg Γ.base (L2.CX Γ.P Γ.w) j f fd ps (spD Γ.K Γ.mg m S) ∧
    PySem.W.keepIn Γ.K (.ref f) = true ∧ Binds Γ.K fd ps ds ∧ Vals dvs ds ∧ ∀ R n μ H, Reps Γ.K R n μ H dfl dvs
/-- an attribute of the instances of a class -/
structure AttD (Γ : Gam) (c f : Str) : Prop where
  ex : ∀ C, ClsAt Γ.K c C → L2.Cls Γ.K C ∧ L2.NoAttr Γ.K C f
/-- a method of a class, and its promise -/
structure MthD (Γ : Gam) (c x : Str) (S : Fn) (m : Nat) (dfl : List D) : Prop where
  ex : ∀ C, ClsAt Γ.K c C → L2.Cls Γ.K C ∧ ∃ (f : Addr) (fd : FuncData) (ps : List Str) (j : Nat) (ds : List Value) (dvs : List V), L2.Meth Γ.K C x f ∧ j ≤ Γ.k ∧ FnOk Γ.P Γ.w Γ.K Γ.mg Γ.base (L2.CX Γ.P Γ.w) j f fd ps (spD Γ.K Γ.mg m S) ∧
    Binds Γ.K fd ps ds ∧ Vals dvs ds ∧ ∀ R n μ H, Reps Γ.K R n μ H dfl dvs
/-- a property of a class: its getter's promise -/
structure PrpD (Γ : Gam) (c x : Str) (S : Fn) : Prop where
  ex : ∀ C, ClsAt Γ.K c C → L2.Cls Γ.K C ∧ ∃ (p g : Addr) (fd : FuncData) (ps : List Str) (j : Nat), L2.PropOf Γ.K C x p g ∧ j + 1 ≤ Γ.k ∧ FnOk Γ.P Γ.w Γ.K Γ.mg Γ.base (L2.CX Γ.P Γ.w) j g fd ps (spD Γ.K Γ.mg 1 S) ∧ Binds Γ.K fd ps []
/-- a class is called: its __init__'s promise -/
structure MkD (Γ : Gam) (c : Str) (S : Fn) (m : Nat) (dfl : List D) : Prop where
  ex : ∃ (C f : Addr) (fd : FuncData) (ps : List Str) (j : Nat) (ds : List Value) (dvs : List V), Γ.mg c = some (.ref C) ∧ ClsAt Γ.K c C ∧ L2.Mk Γ.K C f ∧ j + 1 ≤ Γ.k ∧ FnOk Γ.P Γ.w Γ.K Γ.mg Γ.base (L2.CX Γ.P Γ.w) j f fd ps (spD Γ.K Γ.mg m S) ∧
    Binds Γ.K fd ps ds ∧ Vals dvs ds ∧ ∀ R n μ H, Reps Γ.K R n μ H dfl dvs
structure GlobD (Γ : Gam) (x : Str) (d : D) : Prop where
  ex : ∃ u v, Γ.mg x = some u ∧ RelV v u ∧ ∀ R n μ H, Rep Γ.K R n μ H d v
mutual
def okE (Γ : Gam) : E → Prop
  | .var _ => True
  | .cst _ => True
  | .glob x d => GlobD Γ x d
  | .tup es => okEs Γ es
  | .lst _ es => okEs Γ es
  | .bin _ _ a b => okE Γ a ∧ okE Γ b
  | .neg a => okE Γ a
  | .not a => okE Γ a
  | .and es => okEs Γ es
  | .or es => okEs Γ es
  | .cmp _ a b => okE Γ a ∧ okE Γ b
  | .chn _ _ a b c => okE Γ a ∧ okE Γ b ∧ okE Γ c
  | .ite c a b => okE Γ c ∧ okE Γ a ∧ okE Γ b
  | .idx a i => okE Γ a ∧ okE Γ i
  | .slc _ a lo hi => okE Γ a ∧ okE Γ lo ∧ okE Γ hi
  | .noe => True
  | .isi a _ => okE Γ a
  | .bui _ _ es => okEs Γ es
  | .met _ _ o es => okE Γ o ∧ okEs Γ es
  | .cal x S m dfl es => FnD Γ x S m dfl ∧ okEs Γ es
  | .lcp _ _ it cond elt => okE Γ it ∧ okEs Γ cond ∧ okE Γ elt
  | .itv e => okE Γ e
  | .rng es => okEs Γ es
  | .dsp es => okEs Γ es
  | .ds1 _ _ => False
  | .tix os e => okEs Γ os ∧ okE Γ e
  | .lrg _ it => okE Γ it
  | .att c f o => AttD Γ c f ∧ okE Γ o
  | .mca c x S m dfl o es => MthD Γ c x S m dfl ∧ okE Γ o ∧ okEs Γ es
  | .prp c x S o => PrpD Γ c x S ∧ okE Γ o
  | .mk c S m dfl es => MkD Γ c S m dfl ∧ okEs Γ es
  | .rvs _ a => okE Γ a
  | .zip a b => okE Γ a ∧ okE Γ b
  | .enm a => okE Γ a
  | .bad => True
def okEs (Γ : Gam) : List E → Prop
  | [] => True
  | e :: es => okE Γ e ∧ okEs Γ es
end
/-- a context in which names, calls and built-ins mean what they should -/
structure Good (k : Nat) (sc : Scope) (X : Cx) : Prop where
  nd : X.N.Nodup
  hsc : X.env.scope = sc
  calm : X.calm = true
  room : Room k X.A
  nb : ∀ x ∈ BN, X.mg x = none
  hw : Tabs.w = X.w

section
variable {X : Cx} {k : Nat} {sc : Scope} {W : WX}
theorem Good.units (G : Good k sc X) : X.A.units + 65 < cLine := by have := G.room.un; omega
theorem Good.units1 (G : Good k sc X) : X.A.units + 64 < cLine := by have := G.room.un; omega
theorem noStar_star {env : PySem.Env} {e : Expr} {es : List Expr} (h : isStarredE e = false) : starEach (e :: es) env = (false, eval e env) :: starEach es env := by
  cases e <;> first | rfl | (simp [isStarredE] at h)
theorem chkEs_star {N : List Str} {env : PySem.Env} {pos : Pos} : ∀ {cs : List E} {es : List Expr}, chkEs N sc cs es = true → (backTo pos (starEach es env)).any (·.1) = false ∧ (backTo pos (starEach es env)).all (fun x => !x.1) = true
  | [], [], _ => ⟨rfl, rfl⟩
  | [], _ :: _, h => by simp [chkEs] at h
  | _ :: _, [], h => by simp [chkEs] at h
  | c :: cs, e :: es, h => by
    simp only [chkEs, Bool.and_eq_true, Bool.not_eq_true'] at h
    obtain ⟨h1, h2⟩ := chkEs_star (env := env) (pos := pos) h.2
    rw [noStar_star h.1.1]
    simp only [backTo, List.map_cons, List.any_cons, List.all_cons] at h1 h2 ⊢
    exact ⟨by rw [h1]; rfl, by rw [h2]; rfl⟩
theorem visB_ok {x : Str} (h : visB sc x = true) (e : X.env.scope = sc) : Vis X.env.scope x := by
  rw [e]
  unfold visB at h
  split at h
  · exact .inl (by assumption)
  · exact .inr (.inl (by assumption))
  · exact .inr (.inr (by assumption))
  · cases h
theorem glB_ok {x : Str} (h : glB sc x = true) (e : X.env.scope = sc) : Gl X x := by
  have h := of_decide_eq_true h
  show X.env.scope.names.lookup x = _
  rw [e]
  exact h
theorem noDbg_ok {x : Str} (h : noDbg x = true) : (x == ("__debug__" : Str)) = false ∧ (x == ("__classdict__" : Str)) = false ∧ x ≠ "__name__" := by
  unfold noDbg at h
  simp only [Bool.and_eq_true, Bool.not_eq_true', decide_eq_true_eq] at h
  exact ⟨h.1.1, h.1.2, h.2⟩
theorem BN_dbg : ∀ x ∈ BN, (x == ("__debug__" : Str)) = false ∧ x ≠ "__name__" := by decide +kernel
theorem biName_mem : ∀ f : Bi, biName f ∈ BN := by intro f; cases f <;> decide +kernel
theorem biV_boot : ∀ f : Bi, bootBuiltins (biName f) = some (biV f) := by intro f; cases f <;> decide +kernel
theorem biV_kind : ∀ f : Bi, (∃ id, biV f = .builtin id) ∨ ∃ T, biV f = .type T := by
  intro f
  cases f <;> first | exact .inl ⟨_, rfl⟩ | exact .inr ⟨_, rfl⟩
theorem isiTys_mem {ty : String} (h : isiTys.contains ty = true) : Str.ofString ty ∈ BN ∧ bootBuiltins (Str.ofString ty) = some (.type ty) := by
  have h : ty ∈ isiTys := by simpa using h
  have all : ∀ t ∈ isiTys, Str.ofString t ∈ BN ∧ bootBuiltins (Str.ofString t) = some (.type t) := by decide +kernel
  exact all ty h
/-- a def is called, with its defaults -/
theorem pe_callD {x : Str} {S : Fn} {m : Nat} {dfl : List D} {e : Expr} {es : List Expr} {t : TA} {p pos : Pos} (F : FnD (gam X k) x S m dfl) (hr : Room k X.A) (hg : Gl X x) (tk : Takes X W) (ha : PA X (e :: es) t) (hdb : (x == ("__debug__" : Str)) = false)
    (he : starEach (e :: es) X.env = (false, eval e X.env) :: starEach es X.env) (hpl : (backTo pos (starEach es X.env)).any (·.1) = false) :
    PE X (.Call (.Name x p) (e :: es) [] pos) (fun σ H Q => t σ H fun vs H1 => ∀ dvs, (∀ R n μ H, Reps X.K R n μ H dfl dvs) → spD X.K X.mg m S (vs ++ dvs) H1 Q (WE W σ)) := by
  obtain ⟨f, fd, ps, j, ds, dvs, hm, hj, hF, hk, hb, hd, hrep⟩ := F.ex
  refine ⟨fun pins s σ H Q I h => ?_⟩
  refine wpAny_Call_Name_kw (ld_glob I hg hm ?_ hdb)
  refine PySem.W.callWith_K (h₀ := X.base) I.ok.mod.kin hk (thn (ha.run pos pins s σ H _ I h) fun us s1 ⟨vs, H1, I1, r, q⟩ => ⟨I1.kIn, ?_⟩) he hpl
  have q := q dvs hrep
  have r2 : Vals (vs ++ dvs) (us ++ ds) := r.append hd
  have F' : FnOk X.prog X.w X.K X.mg X.base (L2.CX X.prog X.w) k f fd ps (spD X.K X.mg m S) := hF.mono hj
  have hl : (us ++ ds).length = ps.length := by rw [← r2.length]; exact F'.len _ _ _ _ q
  refine wpAny_call (codeAny_mono (F'.run X.A X.stack s1 H1 ⟨us, []⟩ (us ++ ds) (vs ++ dvs) Q (WE W σ) hr I1.env0 (hb s1 us I1.kIn hl) r2 q) fun r s' hq => ?_)
  match r, hq with
  | .error z, hq => exact passAt tk σ pins H1 s1 z s' I1 hq
  | .ok (.ret u), hq => exact I1.after hq
  | .ok .next, hq => exact False.elim hq
  | .ok .brk, hq => exact False.elim hq
  | .ok .cont, hq => exact False.elim hq
/-- a method runs -/
theorem mcall_run {c x : Str} {S : Fn} {m : Nat} {dfl : List D} {C a : Addr} {pins : List (Addr × Obj)} {σ : L2.St} {Q : VK} {f : Addr} {fd : FuncData} {ps : List Str} {j : Nat} {ds : List Value} {dvs : List V} (hr : Room k X.A) (tk : Takes X W) (hj : j ≤ k)
    (hF : FnOk X.prog X.w X.K X.mg X.base (L2.CX X.prog X.w) j f fd ps (spD X.K X.mg m S)) (hb : Binds X.K fd ps ds) (hd : Vals dvs ds) {us : List Value} {vs : List V} {s2 : Shared} {H2 : Hp} (I2 : Inv X pins σ H2 s2) (r : Vals vs us) (q : spD X.K X.mg m S (.ref a :: (vs ++ dvs)) H2 Q (WE W σ)) :
    wpAny (model X.prog X.w) X.A (call (.ref f) (.ref a :: us)) (EP X pins σ Q) X.xe s2 := by
  have F' : FnOk X.prog X.w X.K X.mg X.base (L2.CX X.prog X.w) k f fd ps (spD X.K X.mg m S) := hF.mono hj
  have r2 : Vals (V.ref a :: (vs ++ dvs)) (Value.ref a :: (us ++ ds)) := .cons rfl (r.append hd)
  have hl : (Value.ref a :: us ++ ds).length = ps.length := by
    have e := r2.length
    rw [F'.len _ _ _ _ q] at e
    exact e.symm
  refine wpAny_call (codeAny_mono (F'.run X.A X.stack s2 H2 ⟨Value.ref a :: us, []⟩ (Value.ref a :: (us ++ ds)) _ Q (WE W σ) hr I2.env0 (hb s2 (Value.ref a :: us) I2.kIn hl) r2 q) fun r s' hq => ?_)
  match r, hq with
  | .error z, hq => exact passAt tk σ pins H2 s2 z s' I2 hq
  | .ok (.ret u), hq => exact I2.after hq
  | .ok .next, hq => exact False.elim hq
  | .ok .brk, hq => exact False.elim hq
  | .ok .cont, hq => exact False.elim hq
/-- a method is called -/
theorem pe_mcaD {c x : Str} {S : Fn} {m : Nat} {dfl : List D} {o e : Expr} {es : List Expr} {ta : TE} {t : TA} {apos pos : Pos} {pl : Sem Bool} (F : MthD (gam X k) c x S m dfl) (hr : Room k X.A) (tk : Takes X W) (he : PE X o ta) (ha : PA X (e :: es) t)
    (h1 : starEach (e :: es) X.env = (false, eval e X.env) :: starEach es X.env) (h2 : (backTo pos (starEach es X.env)).any (·.1) = false)
    (ht : eval (.Call (.Attribute o x apos) (e :: es) [] pos) X.env = (do
      let ov ← eval o X.env
      standAt apos.atName
      let (f, first) ← holding [ov] (getMethod ov x pl)
      callWith pos f first (backTo pos (starEach (e :: es) X.env)) (backToKw pos (keywordEach [] X.env)))) :
    PE X (.Call (.Attribute o x apos) (e :: es) [] pos) (fun σ H Q => ta σ H fun v H1 => ∃ a C dx fs, v = .ref a ∧ ClsAt X.K c C ∧ H1 a = some (.ins C dx fs) ∧ fs.lookup x = none ∧ t σ H1 fun vs H2 => ∀ dvs, (∀ R n μ H, Reps X.K R n μ H dfl dvs) → spD X.K X.mg m S (.ref a :: (vs ++ dvs)) H2 Q (WE W σ)) := by
  refine ⟨fun pins s σ H Q I h => ?_⟩
  refine PySem.W.methodCall_KW (pl := pl) (thn (he.run pins s σ H _ I h) fun u s1 ⟨v, H1, I1, rx, a, C, dx, fs, ex, hc, ea, l, q⟩ => ?_) ht
  subst ex
  obtain rfl : u = Value.ref a := rx
  obtain ⟨cl, f, fd, ps, j, ds, dvs, hm, hj, hF, hb, hd, hrep⟩ := F.ex C hc
  refine L2.getmeth_ok I1 ea cl hm l ?_
  exact PySem.W.callWith_K (first := [.ref a]) (h₀ := X.base) I1.ok.mod.kin hm.kp (thn (ha.run pos pins s1 σ H1 _ I1 q) fun us s2 ⟨vs, H2, I2, r, q2⟩ => ⟨I2.kIn, mcall_run (C := C) (c := c) (x := x) (dfl := dfl) hr tk hj hF hb hd I2 r (q2 dvs hrep)⟩) h1 h2
theorem pe_mcaD0 {c x : Str} {S : Fn} {m : Nat} {dfl : List D} {o : Expr} {ta : TE} {apos pos : Pos} {pl : Sem Bool} (F : MthD (gam X k) c x S m dfl) (hr : Room k X.A) (tk : Takes X W) (he : PE X o ta)
    (ht : eval (.Call (.Attribute o x apos) [] [] pos) X.env = (do
      let ov ← eval o X.env
      standAt apos.atName
      let (f, first) ← holding [ov] (getMethod ov x pl)
      callWith pos f first (backTo pos (starEach [] X.env)) (backToKw pos (keywordEach [] X.env)))) :
    PE X (.Call (.Attribute o x apos) [] [] pos) (fun σ H Q => ta σ H fun v H1 => ∃ a C dx fs, v = .ref a ∧ ClsAt X.K c C ∧ H1 a = some (.ins C dx fs) ∧ fs.lookup x = none ∧ ∀ dvs, (∀ R n μ H, Reps X.K R n μ H dfl dvs) → spD X.K X.mg m S (.ref a :: dvs) H1 Q (WE W σ)) := by
  refine ⟨fun pins s σ H Q I h => ?_⟩
  refine PySem.W.methodCall_KW (pl := pl) (thn (he.run pins s σ H _ I h) fun u s1 ⟨v, H1, I1, rx, a, C, dx, fs, ex, hc, ea, l, q⟩ => ?_) ht
  subst ex
  obtain rfl : u = Value.ref a := rx
  obtain ⟨cl, f, fd, ps, j, ds, dvs, hm, hj, hF, hb, hd, hrep⟩ := F.ex C hc
  refine L2.getmeth_ok I1 ea cl hm l ?_
  exact PySem.W.callWith_K0 (first := [.ref a]) I1.kIn hm.kp (mcall_run (C := C) (c := c) (x := x) (dfl := dfl) hr tk hj hF hb hd I1 (us := []) (vs := []) .nil (q dvs hrep))

theorem mcall_eq {env : PySem.Env} {o : Expr} {name : Str} {apos pos : Pos} {args : List Expr} (hbase : attributeBase o name env (eval o env) = eval o env)
    (hfew : ((backTo pos (starEach args env)).all (fun x => !x.1) && (backToKw pos (keywordEach [] env)).all (fun x => x.1.isSome)
      && decide (args.length + ([] : List Keyword).length + (if ([] : List Keyword).isEmpty then 0 else 1) < 30)) = true)
    (hline : (apos.endLine == pos.line) = true) : eval (.Call (.Attribute o name apos) args [] pos) env = (do
      let ov ← eval o env
      standAt apos.atName
      let (f, first) ← holding [ov] (getMethod ov name (do return (← importBound o env).getD true))
      callWith pos f first (backTo pos (starEach args env)) (backToKw pos (keywordEach [] env))) := by
  have hform : methodCallForm (args.length + ([] : List Keyword).length) (backTo pos (starEach args env)) (backToKw pos (keywordEach [] env)) = true := hfew
  have hpos : methodCallPos true o env apos pos = pure pos := by unfold methodCallPos; simp [hline]
  rw [arm_eval_Call, hbase]
  unfold methodCall
  rw [hform, hpos]
  rfl
theorem mcall_eq0 {env : PySem.Env} {o : Expr} {name : Str} {apos pos : Pos} (hbase : attributeBase o name env (eval o env) = eval o env) (hline : (apos.endLine == pos.line) = true) : eval (.Call (.Attribute o name apos) [] [] pos) env = (do
      let ov ← eval o env
      standAt apos.atName
      let (f, first) ← holding [ov] (getMethod ov name (do return (← importBound o env).getD true))
      callWith pos f first (backTo pos (starEach [] env)) (backToKw pos (keywordEach [] env))) := mcall_eq hbase rfl hline
theorem Rep.ins_of {K : Fg} {R : Ap} {μ : Nat → Addr} {H : Hp} {h : LH} {d : D} {c : Str} {fs : List (Str × D)} {v : V} (S : SimH K R μ H h) (r : Rep K R h.length μ H d v) (e : asI h d = some (c, fs)) :
    ∃ a C dx ws, v = .ref a ∧ ClsAt K c C ∧ H a = some (.ins C dx ((fs.map (·.1)).zip ws)) ∧ Reps K R h.length μ H (fs.map (·.2)) ws := by
  cases d with
  | ins c' gs ds =>
    simp only [asI, Option.some.injEq, Prod.mk.injEq] at e
    obtain ⟨rfl, rfl⟩ := e
    simp only [Rep] at r
    obtain ⟨a, C, dx, ws, rfl, hc, q, hl, _, rs⟩ := r
    have hl2 : gs.length = ds.length := by rw [hl]; exact rs.length.symm
    exact ⟨a, C, dx, ws, rfl, hc, by rw [List.map_fst_zip (Nat.le_of_eq hl2)]; exact q, by rw [List.map_snd_zip (Nat.le_of_eq hl2.symm)]; exact rs⟩
  | loc n =>
    simp only [asI] at e
    split at e
    · rename_i c' gs q
      cases e
      simp only [Rep] at r
      obtain ⟨C, dx, ws, hc, q2, rs⟩ := S.obj n _ q
      exact ⟨_, C, dx, ws, r.2, hc, q2, rs⟩
    · cases e
  | _ => simp [asI] at e
theorem reps_lookup {K : Fg} {R : Ap} {n : Nat} {μ : Nat → Addr} {H : Hp} {f : Str} : ∀ {fs : List (Str × D)} {ws : List V}, Reps K R n μ H (fs.map (·.2)) ws → (fs.lookup f = none → ((fs.map (·.1)).zip ws).lookup f = none) ∧ ∀ d, fs.lookup f = some d → ∃ v, ((fs.map (·.1)).zip ws).lookup f = some v ∧ Rep K R n μ H d v
  | [], ws, r => ⟨fun _ => by simp, fun d e => by simp at e⟩
  | (g, x) :: fs, ws, r => by
    simp only [List.map_cons, Reps] at r
    obtain ⟨v, vs, rfl, r1, r2⟩ := r
    obtain ⟨i1, i2⟩ := reps_lookup (f := f) r2
    simp only [List.map_cons, List.zip_cons_cons, List.lookup_cons]
    cases f == g with
    | true =>
      refine ⟨fun z => by simp at z, fun d e => ?_⟩
      simp only [Option.some.injEq] at e
      subst e
      exact ⟨v, rfl, r1⟩
    | false => exact ⟨i1, i2⟩
theorem reps_putF {K : Fg} {R : Ap} {n : Nat} {μ : Nat → Addr} {H : Hp} {f : Str} {d : D} {v : V} (rv : Rep K R n μ H d v) : ∀ {fs : List (Str × D)} {ws : List V}, Reps K R n μ H (fs.map (·.2)) ws → ∃ ws', L2.putF f v ((fs.map (·.1)).zip ws) = ((putFD f d fs).map (·.1)).zip ws' ∧ Reps K R n μ H ((putFD f d fs).map (·.2)) ws'
  | [], ws, r => ⟨[v], by simp [L2.putF, putFD], by simp only [putFD, List.map_cons, List.map_nil, Reps]; exact ⟨v, [], rfl, rv, rfl⟩⟩
  | (g, x) :: fs, ws, r => by
    simp only [List.map_cons, Reps] at r
    obtain ⟨y, vs, rfl, r1, r2⟩ := r
    simp only [List.map_cons, List.zip_cons_cons, L2.putF, putFD]
    split
    · exact ⟨v :: vs, by simp, by simp only [List.map_cons, Reps]; exact ⟨v, vs, rfl, rv, r2⟩⟩
    · obtain ⟨ws', e1, e2⟩ := reps_putF (f := f) rv r2
      exact ⟨y :: ws', by simp [e1], by simp only [List.map_cons, Reps]; exact ⟨y, ws', rfl, r1, e2⟩⟩
theorem zip_length {K : Fg} {R : Ap} {n : Nat} {μ : Nat → Addr} {H : Hp} {fs : List (Str × D)} {ws : List V} (r : Reps K R n μ H (fs.map (·.2)) ws) : ((fs.map (·.1)).zip ws).length = fs.length := by
  have := r.length
  simp only [List.length_zip, List.length_map] at this ⊢
  omega
/-- a property is read -/
theorem pe_prpD {c x : Str} {S : Fn} {o : Expr} {ta : TE} {pos : Pos} (F : PrpD (gam X k) c x S) (hr : Room k X.A) (he : PE X o ta) (hab : attributeBase o x X.env (eval o X.env) = eval o X.env) :
    PE X (.Attribute o x pos) (fun σ H Q => ta σ H fun v H1 => ∃ a C dx fs, v = .ref a ∧ ClsAt X.K c C ∧ H1 a = some (.ins C dx fs) ∧ spD X.K X.mg 1 S [.ref a] H1 Q (fun _ _ _ => False)) := by
  refine ⟨fun pins s σ H Q I h => ?_⟩
  refine attr_of hab (thn (he.run pins s σ H _ I h) fun u s1 ⟨v, H1, I1, rx, a, C, dx, fs, ex, hc, ea, q⟩ => ?_)
  subst ex
  obtain rfl : u = Value.ref a := rx
  obtain ⟨cl, p, g, fd, ps, j, hp, hj, hF, hb⟩ := F.ex C hc
  refine getprop_ok (dvs := []) (ds := []) I1 ea cl hp hF (hr.mono hj) hb .nil (fun _ _ _ _ _ _ _ z => ?_) q
  obtain ⟨_, _, _, _, _, _, _, _, _, _, _, _, z⟩ := z
  exact z.elim
/-- C(..) -/
theorem mk_run {c : Str} {S : Fn} {m : Nat} {dfl : List D} {C : Addr} {pins : List (Addr × Obj)} {σ : L2.St} {Q : VK} {f : Addr} {fd : FuncData} {ps : List Str} {j : Nat} {ds : List Value} {dvs : List V} {H : Hp} {s : Shared} {us : List Value} {vs : List V} (M : Mk X.K C f) (hr : Room k X.A) (tk : Takes X W) (hj : j + 1 ≤ k)
    (F : FnOk X.prog X.w X.K X.mg X.base (L2.CX X.prog X.w) j f fd ps (spD X.K X.mg m S)) (hb : Binds X.K fd ps ds) (hd : Vals dvs ds) (I : Inv X pins σ H s) (r : Vals vs us)
    (h : ∀ x dx, H x = none → H dx = none → dx ≠ x → spD X.K X.mg m S (.ref x :: (vs ++ dvs)) (upd (upd H dx (.own x)) x (.ins C dx [])) (fun v H2 => v = .non ∧ Q (.ref x) H2) (WE W σ)) :
    wpAny (model X.prog X.w) X.A (call (.ref C) us) (EP X pins σ Q) X.xe s := by
  have hq := h (s.heap.objs.size + 1) s.heap.objs.size (I.hok.fresh (Nat.le_succ _)) (I.hok.fresh (Nat.le_refl _)) (Nat.ne_of_lt (Nat.lt_succ_self _))
  have I2 := Inv.made (C := C) I
  have r2 : Vals (V.ref (s.heap.objs.size + 1) :: (vs ++ dvs)) (Value.ref (s.heap.objs.size + 1) :: (us ++ ds)) := .cons rfl (r.append hd)
  have hl : (Value.ref (s.heap.objs.size + 1) :: us ++ ds).length = ps.length := by
    have e := r2.length
    rw [F.len _ _ _ _ hq] at e
    exact e.symm
  refine wpAny_call (make_map (f := f) I.kIn M.makes M.init (beq_iff_eq.mp M.fn) (codeAny_mono (F.run _ X.stack _ _ ⟨Value.ref (s.heap.objs.size + 1) :: us, []⟩ (Value.ref (s.heap.objs.size + 1) :: (us ++ ds)) _ _ _ ((hr.mono hj).make C us [])
    (I2.env0.make C us []) (hb _ (Value.ref (s.heap.objs.size + 1) :: us) I2.kIn hl) r2 hq) fun r s' hq' => ?_))
  match r, hq' with
  | .error z, hq' => exact passAt tk σ pins _ _ z s' I2 hq'
  | .ok (.ret u), hq' =>
    obtain ⟨v, H', I3, rv, ev, q3⟩ := I2.after hq'
    subst ev
    exact ⟨rv, ⟨V.ref (s.heap.objs.size + 1), H', I3, rfl, q3⟩⟩
  | .ok .next, hq' => exact False.elim hq'
  | .ok .brk, hq' => exact False.elim hq'
  | .ok .cont, hq' => exact False.elim hq'
/-- what a class's call asks -/
def tMkD (X : Cx) (W : WX) (c : Str) (S : Fn) (m : Nat) (dfl : List D) (t : TA) : TE := fun σ H Q => t σ H fun vs H1 => ∀ C, ClsAt X.K c C → ∀ dvs, (∀ R n μ H, Reps X.K R n μ H dfl dvs) → ∀ x dx, H1 x = none → H1 dx = none → dx ≠ x → spD X.K X.mg m S (.ref x :: (vs ++ dvs)) (upd (upd H1 dx (.own x)) x (.ins C dx [])) (fun v H2 => v = .non ∧ Q (.ref x) H2) (WE W σ)
theorem pe_mkD {c : Str} {S : Fn} {m : Nat} {dfl : List D} {e : Expr} {es : List Expr} {t : TA} {p pos : Pos} (F : MkD (gam X k) c S m dfl) (hr : Room k X.A) (hg : Gl X c) (tk : Takes X W) (ha : PA X (e :: es) t) (hdb : (c == ("__debug__" : Str)) = false)
    (he : starEach (e :: es) X.env = (false, eval e X.env) :: starEach es X.env) (hpl : (backTo pos (starEach es X.env)).any (·.1) = false) :
    PE X (.Call (.Name c p) (e :: es) [] pos) (tMkD X W c S m dfl t) := by
  obtain ⟨C, f, fd, ps, j, ds, dvs, hm, hc, M, hj, hF, hb, hd, hrep⟩ := F.ex
  refine ⟨fun pins s σ H Q I h => ?_⟩
  refine wpAny_Call_Name_kw (ld_glob I hg hm ?_ hdb)
  refine PySem.W.callWith_K (h₀ := X.base) I.ok.mod.kin M.kp (thn (ha.run pos pins s σ H _ I h) fun us s1 ⟨vs, H1, I1, r, q⟩ => ⟨I1.kIn, ?_⟩) he hpl
  exact mk_run (c := c) (dfl := dfl) M hr tk hj hF hb hd I1 r (q C hc dvs hrep)
theorem pe_mkD0 {c : Str} {S : Fn} {m : Nat} {dfl : List D} {p pos : Pos} (F : MkD (gam X k) c S m dfl) (hr : Room k X.A) (hg : Gl X c) (tk : Takes X W) (hdb : (c == ("__debug__" : Str)) = false) :
    PE X (.Call (.Name c p) [] [] pos) (tMkD X W c S m dfl tNil) := by
  obtain ⟨C, f, fd, ps, j, ds, dvs, hm, hc, M, hj, hF, hb, hd, hrep⟩ := F.ex
  refine ⟨fun pins s σ H Q I h => ?_⟩
  refine wpAny_Call_Name_kw (ld_glob I hg hm ?_ hdb)
  exact PySem.W.callWith_K0 I.kIn M.kp (mk_run (c := c) (dfl := dfl) (us := []) M hr tk hj hF hb hd I .nil (h C hc dvs hrep))

theorem wipe_in {σ : L2.St} : ∀ {vs : List Nat} {j : Nat}, j ∈ vs → (wipe σ vs)[j]? = if j < σ.length then some none else none
  | [], j, h => by simp at h
  | v :: vs, j, h => by
    show ((wipe σ vs).set v none)[j]? = _
    by_cases hj : j = v
    · subst hj
      split
      · exact List.getElem?_set_self (by rw [L2.wipe_length]; assumption)
      · exact List.getElem?_eq_none (by rw [List.length_set, L2.wipe_length]; omega)
    · rw [List.getElem?_set_ne (Ne.symm hj)]
      exact wipe_in (by simpa [hj] using h)
theorem wipe_same {σ σ' : L2.St} {vs : List Nat} {is : List Nat} (h : ∀ j, j ∉ is → σ'[j]? = (wipe σ vs)[j]?) (hl : σ'.length = σ.length) (hi : ∀ j ∈ is, j ∈ vs) : wipe σ' vs = wipe σ vs := by
  apply List.ext_getElem?
  intro j
  by_cases hj : j ∈ vs
  · rw [wipe_in hj, wipe_in hj, hl]
  · rw [wipe_out hj, h j fun z => hj (hi j z)]
/-- no exception leaves the block -/
abbrev W0 : WX := fun _ _ _ _ => False
theorem lcp_rd {own : List (Str × Nat)} {t : T} {it elt : E} {cond : List E} {σ : L2.St} {H : Hp} {Q : VK} (hown : chkOwn own t = true) (q : rdE X W (.lcp own t it cond elt) σ H Q) :
    tLc (rdI X W it) (rdG X t) (rdC X W0 cond) (rdE X W0 elt) (own.map (·.2)) σ H Q := by
  obtain ⟨R, μ, h, env, S, Ev, p⟩ := q
  simp only [evE] at p
  refine ⟨R, μ, h, env, S, Ev, p.bind.imp fun src h1 μ1 H1 e1 S1 p1 J wk Dd hD => ?_⟩
  have Ev1 := Ev.mono S e1
  generalize hvs : own.map (·.2) = vs at p1 ⊢
  have hsub : ∀ j ∈ tSlots t, j ∈ vs := fun j hj => by
    unfold chkOwn at hown
    rw [List.all_eq_true] at hown
    have := hown j hj
    rw [hvs] at this
    simpa using this
  generalize hf : (fun env1 h2 => (evC cond env1 h2).bind fun b h3 => if b = true then (evE elt env1 h3).bind fun d h4 => Res.ok (some d) h4 else Res.ok none h3) = f at p1
  -- the slots ahead, the list in the making set apart
  have hR : ∀ a, (R a ∨ a = Dd) → R a ∨ H1 a = none := fun a r => by
    rcases r with r | r
    · exact .inl r
    · subst r; exact .inr hD
  have EvR : RepEnv X.K (fun a => R a ∨ a = Dd) h1.length μ1 H1 env σ := Ev1.up hR
  refine ⟨fun i m H => m = src.2.length - i ∧ i ≤ src.2.length ∧ ∃ μ' h' acc accV, Ext h1.length μ1 H1 (List.length (h' : LH)) μ' H ∧ SimH X.K (fun a => R a ∨ a = Dd) μ' H h' ∧ H Dd = some (.lst accV) ∧
      Reps X.K (fun a => R a ∨ a = Dd) h'.length μ' H acc accV ∧
      Post X.K X.mg (WP X W σ) R h1.length μ1 H1 (PV X.K R Q) ((compLoop src.1 vs t f (src.2.drop i) acc env h').bind fun ds h5 => .ok (.lst ds) h5), ⟨src.2.length, by omega, Nat.zero_le _, μ1, h1, [], [], Ext.laid hD, S1.apart hD, upd_same, by simp [Reps], p1⟩, ?_⟩
  rintro i m H2 ⟨rfl, hi, μ', h', acc, accV, e2, S2, hacc, rA, p2⟩
  have nR : ¬ R Dd := (S1.unr_fresh hD).1
  have S2R : SimH X.K R μ' H2 h' := S2.weak fun _ r => .inl r
  by_cases hlt : i < src.2.length
  · -- a turn
    refine .inr ?_
    rw [List.drop_eq_getElem_cons hlt] at p2
    simp only [compLoop] at p2
    split at p2
    · rename_i c
      obtain ⟨ok1, hsz⟩ := c
      refine ⟨wk.go _ i μ' H2 h' hR hlt e2 S2 ok1, _, fun H' n => ⟨src.2.length - (i + 1), by omega, rfl, hlt, n⟩, fun x H3 y => ?_⟩
      obtain ⟨e3, S3, rx⟩ := wk.yld _ i _ μ' H2 h' x H3 hR (List.getElem?_eq_getElem hlt) e2 S2 ok1 y
      split at p2
      · exact p2.elim
      · rename_i env1 hb
        have eA := e2.trans S2 e3
        have Ev3 : RepEnv X.K (fun a => R a ∨ a = Dd) h'.length μ' H3 (wipeE env vs) (wipe σ vs) := (EvR.mono S1 eA).wipe vs
        refine ⟨_, μ', h', wipeE env vs, S3, Ev3, src.2[i], env1, rx, hb, fun σ' r' fr => ⟨wipe_same fr (by rw [← r'.len, bindT_len hb, wipeE_length]; exact Ev.len) hsub, ?_⟩⟩
        -- the test
        have accK : ∀ {μ4 H4 h4}, Ext h'.length μ' H3 (List.length (h4 : LH)) μ4 H4 → H4 Dd = some (.lst accV) := fun {μ4 H4 h4} e4 => by
          have u : ∀ l, l < h'.length → μ' l ≠ Dd := fun l hl z => S3.sep l hl (.inr z)
          have u2 : ∀ l, l < h'.length → μ' l ≠ Dd := fun l hl z => S2.sep l hl (.inr z)
          exact e4.keep Dd _ u (e3.keep Dd _ u2 hacc)
        refine ⟨_, μ', h', env1, S3, r', ?_⟩
        show Post _ _ _ _ _ _ _ _ (evC cond env1 h')
        cases q1 : evC cond env1 h' with
        | no =>
          have q3 : f env1 h' = .no := by rw [← hf]; simp only [q1, Res.bind]
          rw [q3] at p2; exact p2.elim
        | ex x' h3 =>
          have q3 : f env1 h' = .ex x' h3 := by rw [← hf]; simp only [q1, Res.bind]
          rw [q3] at p2; exact p2.elim
        | ok b h3 =>
          intro μ3 H4 e4 S4
          cases b with
          | false =>
            have q3 : f env1 h' = .ok none h3 := by rw [← hf]; simp only [q1, Res.bind, Bool.false_eq_true, if_false]
            rw [q3] at p2
            show if false = true then _ else _
            rw [if_neg Bool.false_ne_true]
            have acc4 := accK e4
            refine ⟨μ3, h3, acc, accV, eA.trans S3 e4, S4, acc4, ?_, p2⟩
            exact Reps.mono S3 e4 _ _ (Reps.mono S2 e3 _ _ rA)
          | true =>
            show if true = true then _ else _
            rw [if_pos rfl]
            refine ⟨_, μ3, h3, env1, S4, r'.mono S3 e4, ?_⟩
            show Post _ _ _ _ _ _ _ _ (evE elt env1 h3)
            cases q2 : evE elt env1 h3 with
            | no =>
              have q3 : f env1 h' = .no := by rw [← hf]; simp only [q1, q2, Res.bind, if_true]
              rw [q3] at p2; exact p2.elim
            | ex x' h4 =>
              have q3 : f env1 h' = .ex x' h4 := by rw [← hf]; simp only [q1, q2, Res.bind, if_true]
              rw [q3] at p2; exact p2.elim
            | ok d h4 =>
              have q3 : f env1 h' = .ok (some d) h4 := by rw [← hf]; simp only [q1, q2, Res.bind, if_true]
              rw [q3] at p2
              intro μ4 H5 e5 S5 v rv
              have e45 := e4.trans S4 e5
              have acc5 := accK e45
              refine ⟨accV, acc5, by rw [← rA.length]; exact hsz, μ4, h4, acc ++ [d], accV ++ [v], (eA.trans S3 e45).grow hD, S5.grow acc5 (.inr rfl), upd_same, ?_, p2⟩
              refine Reps.append ?_ (reps1.mpr ⟨v, rfl, ?_⟩)
              · exact Reps.grow acc5 (.inr rfl) _ _ (Reps.mono S3 e45 _ _ (Reps.mono S2 e3 _ _ rA))
              · exact Rep.grow acc5 (.inr rfl) _ _ rv
    · exact p2.elim
  · -- the end
    have : i = src.2.length := by omega
    subst this
    rw [List.drop_length] at p2
    simp only [compLoop] at p2
    split at p2
    · rename_i ok1
      refine .inl ⟨wk.stop _ μ' H2 h' hR e2 S2 ok1, ?_⟩
      refine p2 μ' H2 e2 S2R _ ?_
      simp only [Rep]
      refine ⟨Dd, accV, rfl, hacc, ⟨nR, fun l hl z => S2.sep l hl (.inr z)⟩, Reps.up (fun a r => .inl (.inl r)) _ _ rA⟩
    · exact p2.elim
theorem lcp_ok {own : List (Str × Nat)} {t : T} {it elt : E} {cond : List E} {e tg iter : Expr} {ifs : List Expr} {scope : Scope} {pos : Pos} (G : Good k sc X) (hi : PI X tg iter (rdI X W it)) (ok : BlkOk X.N X.env.scope scope own) (hown : chkOwn own t = true)
    (hg : ∀ (s : Shared) (H : Hp) (C : Addr) (cl : List (Str × Addr)) (fp : List Addr), PG (X.blk s H scope (compEnvC scope cl C X.env) fp) tg (rdG X t))
    (ht : ∀ (s : Shared) (H : Hp) (C : Addr) (cl : List (Str × Addr)) (fp : List Addr), PTs (X.blk s H scope (compEnvC scope cl C X.env) fp) ifs (rdC X W0 cond))
    (he : ∀ (s : Shared) (H : Hp) (C : Addr) (cl : List (Str × Addr)) (fp : List Addr), PE (X.blk s H scope (compEnvC scope cl C X.env) fp) e (rdE X W0 elt))
    (hs : ∀ x, foldedSetIterable iter X.env x = pure x) : PE X (.ListComp e [⟨tg, iter, ifs, 0⟩] scope pos) (rdE X W (.lcp own t it cond elt)) :=
  PE.imp (pe_lc G.calm G.nd hi ok hg ht he hs) fun σ H Q q => lcp_rd hown q
end
end Ev
namespace Ev
open PySem L2 PyProof.Rows
variable [Tabs]
/-- B.__init__(self, ..), B a class of the program over ValueError without an __init__ of its own -/
structure BaseI (K : Fg) (B : Addr) : Prop where
  ga : PySem.W.specialIn K (.ref B) "__getattribute__" = some (some (.builtin "type.__getattribute__"))
  rd : PySem.W.readsIn K B (.type "type") = true
  fc : PySem.W.findCls K (.ref B) (.type "type") "__init__" = some (.val (.builtin "ValueError.__init__"))
theorem pe_baseI {X : Cx} {b : Str} {B : Addr} {e : Expr} {es : List Expr} {ta : TA} {p1 p2 pos : Pos} {pl : Sem Bool} (T : BaseI X.K B) (hg : Gl X b) (hm : X.mg b = some (.ref B)) (hdb : (b == ("__debug__" : Str)) = false) (ha : PA X (e :: es) ta)
    (hc : eval (.Call (.Attribute (.Name b p1) "__init__" p2) (e :: es) [] pos) X.env = (do
      let ov ← eval (.Name b p1) X.env
      standAt p2.atName
      let (f, first) ← holding [ov] (getMethod ov "__init__" pl)
      callWith pos f first (backTo pos (starEach (e :: es) X.env)) (backToKw pos (keywordEach [] X.env))))
    (he : starEach (e :: es) X.env = (false, eval e X.env) :: starEach es X.env) (hpl : (backTo pos (starEach es X.env)).any (·.1) = false) :
    PE X (.Call (.Attribute (.Name b p1) "__init__" p2) (e :: es) [] pos) (tVeI X.K ta) := by
  refine ⟨fun pins s σ H Q I h => ?_⟩
  refine PySem.W.methodCall_KW (ld_glob I hg hm ?_ hdb) hc
  refine PySem.W.method_cls I.kIn T.ga (PySem.W.cls_value I.kIn T.rd T.fc (by decide +kernel) ?_)
  have hrun := ha.run pos pins _ σ H _ (I.tok (s.toks + 1)) h
  refine PyProof.Rows.callWith_method1 (thn hrun fun us s1 q1 => ?_) he hpl
  obtain ⟨vs, H1, I1, r1, a, C, ws, rfl, hl, O, ea, q⟩ := q1
  cases r1 with
  | @cons _ u0 _ ur ra rr =>
    obtain rfl : u0 = Value.ref a := ra
    have hlen : ur.length ≤ sizeLine := by
      have := Paired.length rr
      rw [sizeLine_eq]
      omega
    exact oinit_ok O I1 ea hlen fun s' J => ⟨.non, H1, J, rfl, q⟩
/-- the promise of such an __init__: the one field is stored -/
def spIni (C : Addr) (f : Str) : Sp := fun vs H Q _ => ∃ a v, vs = [.ref a, v] ∧ H a = some (exo a C none) ∧ ∀ d, H d = none → d ≠ a → Q .non (upd (upd H d (exd d [(f, v)])) a (exo a C (some d)))
theorem ini_ok {P : Program} {w : World} {K : Fg} {mg : Mg} {base : Heap} {k : Nat} {x qual b self par f m : Str} {st : Stmt} {fI C B : Addr} {fd : FuncData} {p1 p2 p3 p4 p5 p6 p7 p8 p9 p10 : Pos} {kk : Nat}
    (F : L2.Fun K x qual st fI fd) (S : FnScope [self, par] [self, par] (defScope st))
    (hb : defBody st = [.Expr (.Call (.Attribute (.Name b p1) "__init__" p2) [.Name self p3, .Constant (.str m) kk p4] [] p5) p6, .Assign [.Attribute (.Name self p7) f p8] (.Name par p9) p10])
    (hc : ∀ X : Cx, ∃ pl, eval (.Call (.Attribute (.Name b p1) "__init__" p2) [.Name self p3, .Constant (.str m) kk p4] [] p5) X.env = (do
      let ov ← eval (.Name b p1) X.env
      standAt p2.atName
      let (f, first) ← holding [ov] (getMethod ov "__init__" pl)
      callWith p5 f first (backTo p5 (starEach [.Name self p3, .Constant (.str m) kk p4] X.env)) (backToKw p5 (keywordEach [] X.env))))
    (O : OexC K C) (no : PySem.W.findIn K (.ref C) f = some none) (T : BaseI K B) (hm : mg b = some (.ref B)) (gb : (defScope st).names.lookup b = some .globalImplicit)
    (d1 : noDbg b = true) (d2 : noDbg self = true) (d3 : noDbg par = true) (v1 : visB (defScope st) self = true) (v2 : visB (defScope st) par = true) (ne : self ≠ par) :
    FnOk P w K mg base (L2.CX P w) (k + 1) fI fd [self, par] (spIni C f) := by
  refine F.okX S (fun vs H Q E hsp => ?_) (fun cdv A outer s H vs Q E hr hsp => ?_)
  · obtain ⟨a, v, rfl, _⟩ := hsp
    rfl
  · obtain ⟨a, v, rfl, ea, q⟩ := hsp
    rw [hb]
    let X : Cx := cxOf (L2.CX P w) P w K mg base [self, par] qual (defScope st) fI cdv A outer s H E
    obtain ⟨pl, hc⟩ := hc X
    have pself (p : Pos) : PE X (.Name self p) (tVar 0) := pe_var (by rfl) (visB_ok v1 rfl) (noDbg_ok d2).1 (noDbg_ok d2).2.1
    have ppar (p : Pos) : PE X (.Name par p) (tVar 1) := pe_var (by rfl) (visB_ok v2 rfl) (noDbg_ok d3).1 (noDbg_ok d3).2.1
    have call := pe_baseI (X := X) T gb hm (noDbg_ok d1).1 (pa_cons (pself p3) (pa_cons pe_str pa_nil)) hc (by rfl) (by rfl)
    refine ⟨_, pss_cons (ps_expr call) (pss_cons (ps_ost (pself p7) (ppar p9)) pss_nil), ?_⟩
    show tVar 0 (L2.start [self, par] [.ref a, v]) H _
    refine ⟨.ref a, rfl, ?_⟩
    refine ⟨a, C, [.str m], rfl, by simp, O, ea, ?_⟩
    change tOst K f (tVar 0) (tVar 1) _ _ _
    refine ⟨v, rfl, .ref a, rfl, a, C, rfl, O, no, .inl ⟨ea, fun d hd hne => q d hd hne⟩⟩
theorem cx_no {P : Program} {w : World} {o : List PySem.Env} {H : Hp} {s s' : Shared} {e : Value} (h : L2.CX P w o H s (fun _ _ _ => False) e s') : False := by
  obtain ⟨_, _, _, _, _, _, _, _, _, _, _, _, z⟩ := h
  exact z
/-- an exception class of the program whose __init__ stores one field -/
structure ExcF (Γ : Gam) (x f : Str) : Prop where
  ex : ∃ (C fI : Addr) (fd : FuncData) (ps : List Str) (j : Nat), Γ.mg x = some (.ref C) ∧ OexC Γ.K C ∧ PySem.W.findIn Γ.K (.ref C) "__init__" = some (some (.ref fI)) ∧ PySem.W.typeIn Γ.K (.ref fI) = some (.type "function") ∧ j + 1 ≤ Γ.k ∧
    FnOk Γ.P Γ.w Γ.K Γ.mg Γ.base (L2.CX Γ.P Γ.w) j fI fd ps (spIni C f) ∧ Binds Γ.K fd ps []
theorem ps_raiF {X : Cx} {W : WX} {k : Nat} {x f : Str} {e : Expr} {c : E} {p cpos pos : Pos} (F : ExcF (gam X k) x f) (hr : Room k X.A) (hcm : X.calm = true) (tk : Takes X W) (hg : Gl X x) (hdb : (x == ("__debug__" : Str)) = false) (he : PE X e (rdE X W c)) (hs : starEach [e] X.env = [(false, eval e X.env)]) :
    PS X (.Raise (some (.Call (.Name x p) [e] [] cpos)) none pos) (fun D σ H => rdE X W c σ H fun v H1 => ∀ C, X.mg x = some (.ref C) → ∀ d, H1 d = none → W (.ref C) (some d) σ (upd H1 d (.xd [(f, v)]))) := by
  obtain ⟨C, fI, fd, ps, j, hm, O, h1, h2, hj, F1, hb⟩ := F.ex
  have mk := pmk_oex (X := X) (pos := cpos) (p := p) (ds := []) (dvs := []) O h1 h2 F1 (hr.mono hj) hb .nil (fun _ _ _ _ _ _ _ z => (cx_no z).elim) hg hm (pa_cons he pa_nil hs) hdb hs (by rfl)
  refine PS.imp (ps_raise hcm tk mk) fun D σ H q => ?_
  show rdE X W c σ H _
  obtain ⟨R, μ, h, env, S, Ev, p⟩ := q
  refine ⟨R, μ, h, env, S, Ev, p.imp fun d h1 μ1 H1 e1 S1 p1 v r => ?_⟩
  have q := p1 v r C hm
  refine ⟨by simp, fun a ha => ⟨a, v, rfl, upd_same, fun d hd hne => ⟨rfl, d, [(f, v)], upd_same, ?_, ?_, ?_⟩⟩⟩
  · rw [upd_ne hne, upd_same]
  · rw [upd_ne hne] at hd; exact hd
  · rw [upd_ne hne] at hd
    have z := q d hd
    have e2 : upd (del (upd (upd (upd H1 a (exo a C none)) d (exd d [(f, v)])) a (exo a C (some d))) a) d (.xd [(f, v)]) = upd H1 d (.xd [(f, v)]) := by
      funext b
      by_cases hbd : b = d
      · rw [hbd, upd_same, upd_same]
      · rw [upd_ne hbd, upd_ne hbd]
        by_cases hba : b = a
        · rw [hba, del_same, ha]
        · rw [del_ne hba, upd_ne hba, upd_ne hbd, upd_ne hba]
    rw [e2]
    exact z
/-- .. whose field is read in an except suite -/
structure ExcH (Γ : Gam) (x f : Str) : Prop where
  ex : ∃ C, Γ.mg x = some (.ref C) ∧ XfC Γ.K C ∧ PySem.W.findIn Γ.K (.ref C) f = some none ∧ PySem.W.exmOne Γ.K (.ref C) (.ref C) = some true
theorem RepEnv.caught {K : Fg} {R : Ap} {n : Nat} {μ : Nat → Addr} {H : Hp} {env : Env} {σ : L2.St} {ei ti : Nat} {d : D} {v a : V} (r : RepEnv K R n μ H env σ) (ne : ei ≠ ti) (rv : Rep K R n μ H d v) :
    RepEnv K R n μ H ((env.set ti (some d)).set ei none) (((σ.set ei (some a)).set ti (some v)).set ei none) := by
  refine ⟨by simpa using r.len, fun j e q => ?_⟩
  by_cases hj : j = ei
  · subst hj
    by_cases hl : j < (env.set ti (some d)).length
    · rw [List.getElem?_set_self hl] at q; cases q
    · rw [List.getElem?_eq_none (by simpa using Nat.le_of_not_lt hl)] at q; cases q
  · rw [List.getElem?_set_ne (Ne.symm hj)] at q ⊢
    by_cases ht : j = ti
    · subst ht
      by_cases hl : j < env.length
      · rw [List.getElem?_set_self hl] at q
        cases q
        exact ⟨v, List.getElem?_set_self (by rw [List.length_set, ← r.len]; exact hl), rv⟩
      · rw [List.getElem?_eq_none (by simpa using Nat.le_of_not_lt hl)] at q; cases q
    · rw [List.getElem?_set_ne (Ne.symm ht)] at q ⊢
      rw [List.getElem?_set_ne (Ne.symm hj)]
      exact r.at_ j e q
end Ev
namespace Ev
open PySem L2
variable [Tabs]
theorem Good.blk {X : Cx} {k : Nat} {sc scope : Scope} (G : Good k sc X) (s : Shared) (H : Hp) (C : Addr) (cl : List (Str × Addr)) (fp : List Addr) : Good k (relS scope sc) (X.blk s H scope (compEnvC scope cl C X.env) fp) :=
  ⟨G.nd, by rw [← G.hsc]; rfl, G.calm, ⟨G.room.hd, G.room.dp, G.room.un⟩, G.nb, G.hw⟩
theorem blkSt_ok {X : Cx} {scope : Scope} {s : Shared} {H : Hp} {C : Addr} {cl : List (Str × Addr)} {fp : List Addr} {x : Str} (h : blkSt scope x = true) :
    Loc (X.blk s H scope (compEnvC scope cl C X.env) fp).env.scope x ∧ ((X.blk s H scope (compEnvC scope cl C X.env) fp).fn x = true ∨ (X.blk s H scope (compEnvC scope cl C X.env) fp).env.scope.names.lookup x = some .local) := by
  unfold blkSt at h
  split at h
  · rename_i e
    have q : (relS scope X.env.scope).names.lookup x = some .local := lookup_relS_keep (by decide) e
    exact ⟨.inl q, .inr q⟩
  · rename_i e
    have q : (relS scope X.env.scope).names.lookup x = some .cell := lookup_relS_keep (by decide) e
    refine ⟨.inr q, .inl ?_⟩
    show (scope.names.lookup x == some .cell) = true
    rw [e]
    rfl
  · cases h
theorem seqSrc_wk {X : Cx} {R : Ap} {μ : Nat → Addr} {H : Hp} {h : LH} {d : D} {v : V} {src : Src} {items : List D} (S : SimH X.K R μ H h) (r : Rep X.K R h.length μ H d v) (e : seqSrc h d = some (src, items)) :
    (∃ a, v = .ref a ∧ (∃ xs, SqT X.K H a xs) ∧ (∃ ds, d = .tup ds) ∧ Wk X.K R (Itt X.K a) src items h.length μ H) ∨ (∃ a, v = .ref a ∧ (∃ xs, SqL X.K H a xs) ∧ (asL h d).isSome = true ∧ Wk X.K R (Itl X.K a) src items h.length μ H) ∨
      (∃ x, v = .str x ∧ d = .str x ∧ Wk X.K R (Its x) src items h.length μ H) := by
  cases d with
  | tup ds =>
    cases e
    have r' := r
    simp only [Rep] at r'
    obtain ⟨a, xs, rfl, sq, _⟩ := r'
    exact .inl ⟨a, rfl, ⟨xs, sq⟩, ⟨_, rfl⟩, wk_tup S r⟩
  | lst ds =>
    obtain ⟨a, xs, rfl, sq, _⟩ := r.lst_of (ds := ds) S rfl
    exact .inr (.inl ⟨a, rfl, ⟨xs, SqL.of sq⟩, rfl, wk_lst S r e rfl⟩)
  | loc n =>
    have hl : (asL h (.loc n)).isSome = true := by
      simp only [seqSrc] at e
      split at e
      · rename_i q
        simp only [asL, q]
        rfl
      · cases e
    obtain ⟨ds, q⟩ := Option.isSome_iff_exists.mp hl
    obtain ⟨a, xs, rfl, sq, _⟩ := r.lst_of (ds := ds) S q
    exact .inr (.inl ⟨a, rfl, ⟨xs, SqL.of sq⟩, hl, wk_lst S r e hl⟩)
  | str x =>
    cases e
    cases repS.mp r
    exact .inr (.inr ⟨x, rfl, rfl, wk_str⟩)
  | _ => simp [seqSrc] at e
section
variable {k : Nat}
theorem attrBase {X : Cx} {e : Expr} {n : Str} (h : isCallE e = false) : attributeBase e n X.env (eval e X.env) = eval e X.env := by
  cases e <;> first | rfl | (simp [isCallE] at h)
theorem plainIx {e : Expr} (h : isSliceE e = false) : PlainIx e := by
  intro o i
  cases e <;> first | rfl | (simp [isSliceE] at h)
theorem setIter {X : Cx} {e : Expr} (h : isSetE e = false) (x : Value) : foldedSetIterable e X.env x = pure x := by
  cases e <;> first | rfl | (simp [isSetE] at h)
theorem markBehind {e : Expr} (h : isSetE e = false) (op : CmpOp) : behindInMarks op e = false := by
  cases e <;> first | rfl | (simp [isSetE] at h)
theorem repsApp {K : Fg} {R : Ap} {n : Nat} {μ : Nat → Addr} {H : Hp} {ds es : List D} {vs ws : List V} (r : Reps K R n μ H ds vs) (q : Reps K R n μ H es ws) : Reps K R n μ H (ds ++ es) (vs ++ ws) := Reps.append r q
/-- a compound test that the model does not treat apart -/
def plainT : E → Bool
  | .not _ => false
  | .and _ => false
  | .or _ => false
  | .cmp .. => false
  | .chn .. => false
  | .ite .. => false
  | .bad => false
  | _ => true
theorem plain_isTrue {X : Cx} {N : List Str} {sc : Scope} {c : E} {e : Expr} (h : chkE N sc c e = true) (p : plainT c = true) (wh : Sem Value) : isTrue e X.env wh = (do let v ← wh; standAt e.pos; holding [v] (PySem.truthy v)) := by
  cases c <;> simp only [plainT, Bool.false_eq_true] at p <;> cases e <;> first | rfl | (simp [chkE, sub1, calN, calM, lcp1, dct1, att1] at h; done) | skip
  rename_i a op o p2
  simp only [chkE, Bool.and_eq_true, decide_eq_true_eq] at h
  obtain ⟨rfl, _⟩ := h
  rfl
theorem pt_of {X : Cx} {W : WX} {c : E} {e : Expr} (hp : PE X e (rdE X W c)) (he : ∀ wh, isTrue e X.env wh = (do let v ← wh; standAt e.pos; holding [v] (PySem.truthy v))) : PT X e (rdT X W c) := by
  refine PT.imp (pt_truth hp he) fun σ H Q q => ?_
  obtain ⟨R, μ, h, env, S, Ev, p⟩ := q
  unfold evT at p
  refine ⟨R, μ, h, env, S, Ev, p.bind.imp fun d h1 μ1 H1 e1 S1 p1 v r => ?_⟩
  split at p1
  · rename_i b q
    exact ⟨b, truthy_ok S1 q r, p1 μ1 H1 Ext.refl S1⟩
  · exact p1.elim
theorem rdT_of {X : Cx} {W : WX} {c : E} {σ : L2.St} {H : Hp} {Q : Bool → Hp → Prop} (q : In1 X σ H fun R μ h env => Post X.K X.mg (WP X W σ) R h.length μ H (fun b _ _ H' => Q b H') ((evE c env h).bind fun d h1 => truR h1 d)) : rdT X W c σ H Q := q
theorem cmp_rd {X : Cx} {W : WX} {op : CmpOp} {a b : E} {σ : L2.St} {H : Hp} {Q : VK} (q : rdE X W (.cmp op a b) σ H Q) : tOp (rD2 X.K X.mg (opCmp op)) (rdE X W a) (rdE X W b) σ H Q := by
  obtain ⟨R, μ, h, env, S, Ev, p⟩ := q
  simp only [evE] at p
  refine ⟨R, μ, h, env, S, Ev, p.bind.imp fun d1 h1 μ1 H1 e1 S1 p1 v1 r1 => ?_⟩
  refine ⟨R, μ1, h1, env, S1, Ev.mono S e1, p1.bind.imp fun d2 h2 μ2 H2 e2 S2 p2 v2 r2 => ?_⟩
  exact ⟨_, R, μ2, h2, d1, d2, S2, Rep.mono S1 e2 _ _ r1, r2, p2⟩
theorem opCmp_bl {op : CmpOp} {a b d : D} {h h' : LH} (e : opCmp op a b h = .ok d h') : ∃ k, d = .bl k := by
  cases op <;> simp only [opCmp, cmpI] at e <;> split at e <;> first | (cases e; exact ⟨_, rfl⟩) | (cases e; done)
theorem chn_rd {X : Cx} {W : WX} {op op' : CmpOp} {a b c : E} {σ : L2.St} {H : Hp} {Q : VK} (q : rdE X W (.chn op op' a b c) σ H Q) :
    tChain (rD2 X.K X.mg (opCmp op)) (rD2 X.K X.mg (opCmp op')) (rdE X W a) (rdE X W b) (rdE X W c) σ H Q := by
  obtain ⟨R, μ, h, env, S, Ev, p⟩ := q
  simp only [evE] at p
  refine ⟨R, μ, h, env, S, Ev, p.bind.imp fun d1 h1 μ1 H1 e1 S1 p1 v1 r1 => ?_⟩
  refine ⟨R, μ1, h1, env, S1, Ev.mono S e1, p1.bind.imp fun d2 h2 μ2 H2 e2 S2 p2 v2 r2 => ?_⟩
  refine ⟨_, R, μ2, h2, d1, d2, S2, Rep.mono S1 e2 _ _ r1, r2, p2.bind.imp fun z h3 μ3 H3 e3 S3 p3 v3 r3 => ?_⟩
  split at p3
  · cases repB.mp r3
    refine ⟨true, rfl, ?_⟩
    show if true = true then _ else _
    rw [if_pos rfl]
    refine ⟨R, μ3, h3, env, S3, ((Ev.mono S e1).mono S1 e2).mono S2 e3, p3.bind.imp fun d4 h4 μ4 H4 e4 S4 p4 v4 r4 => ?_⟩
    exact ⟨_, R, μ4, h4, d2, d4, S4, Rep.mono S3 e4 _ _ (Rep.mono S2 e3 _ _ r2), r4, p4⟩
  · cases repB.mp r3
    refine ⟨false, rfl, ?_⟩
    show if false = true then _ else _
    rw [if_neg Bool.false_ne_true]
    exact p3.bl S3
  · exact p3.elim
/-- a test whose value is a bool -/
theorem rdB_of {X : Cx} {W : WX} {c : E} {σ : L2.St} {H : Hp} {Q : Bool → Hp → Prop} (hb : ∀ env h d h', evE c env h = .ok d h' → ∃ k, d = .bl k) (q : rdT X W c σ H Q) : rdE X W c σ H (fun x H' => ∃ k, x = .bl k ∧ Q k H') := by
  obtain ⟨R, μ, h, env, S, Ev, p⟩ := q
  refine ⟨R, μ, h, env, S, Ev, ?_⟩
  show Post _ _ _ _ _ _ _ _ (evE c env h)
  unfold evT at p
  cases e : evE c env h with
  | no => rw [e] at p; exact p.elim
  | ex x h1 => rw [e] at p; exact p
  | ok d h1 =>
    rw [e] at p
    obtain ⟨k, rfl⟩ := hb _ _ _ _ e
    intro μ1 H1 e1 S1 v r
    cases repB.mp r
    exact ⟨k, rfl, p μ1 H1 e1 S1⟩
theorem bind_ok {α β : Type} {r : Res α} {f : α → LH → Res β} {b : β} {h' : LH} (e : r.bind f = .ok b h') : ∃ a h, r = .ok a h ∧ f a h = .ok b h' := by
  cases r with
  | ok a h => exact ⟨a, h, rfl, e⟩
  | ex x h => cases e
  | no => cases e
theorem cmp_bl {op : CmpOp} {a b : E} : ∀ env h d h', evE (.cmp op a b) env h = .ok d h' → ∃ k, d = .bl k := by
  intro env h d h' e
  simp only [evE] at e
  obtain ⟨_, _, _, e⟩ := bind_ok e
  obtain ⟨_, _, _, e⟩ := bind_ok e
  exact opCmp_bl e
theorem chn_bl {op op' : CmpOp} {a b c : E} : ∀ env h d h', evE (.chn op op' a b c) env h = .ok d h' → ∃ k, d = .bl k := by
  intro env h d h' e
  simp only [evE] at e
  obtain ⟨_, _, _, e⟩ := bind_ok e
  obtain ⟨_, _, _, e⟩ := bind_ok e
  obtain ⟨_, _, _, e⟩ := bind_ok e
  split at e
  · obtain ⟨_, _, _, e⟩ := bind_ok e
    exact opCmp_bl e
  · cases e; exact ⟨_, rfl⟩
  · cases e
theorem ite_eq {c a b : E} {env : Env} {h : LH} : evE (.ite c a b) env h = (evT c env h).bind fun k h1 => if k = true then evE a env h1 else evE b env h1 := by
  simp only [evE]
  unfold evT
  cases evE c env h with
  | no => rfl
  | ex x h1 => rfl
  | ok d h1 =>
    simp only [Res.bind]
    cases truthy h1 d with
    | none => rfl
    | some k => cases k <;> rfl
theorem andT_cons {X : Cx} {W : WX} {c c2 : E} {cs : List E} {σ : L2.St} {H : Hp} {Q : Bool → Hp → Prop} (q : rdAndT X W (c :: c2 :: cs) σ H Q) : tAnd (rdT X W c) (rdAndT X W (c2 :: cs)) σ H Q := by
  obtain ⟨R, μ, h, env, S, Ev, p⟩ := q
  refine ⟨R, μ, h, env, S, Ev, ?_⟩
  show Post _ _ _ _ _ _ _ _ (evT c env h)
  unfold evT
  simp only [evAnd] at p
  cases e : evE c env h with
  | no => rw [e] at p; exact p.elim
  | ex x h1 => rw [e] at p; exact p
  | ok d h1 =>
    rw [e] at p
    cases d with
    | bl k =>
      simp only [Res.bind, truthy] at p ⊢
      intro μ1 H1 e1 S1
      cases k with
      | true =>
        show if true = true then _ else _
        rw [if_pos rfl]
        exact ⟨R, μ1, h1, env, S1, Ev.mono S e1, p.later e1 S1⟩
      | false =>
        show if false = true then _ else _
        rw [if_neg Bool.false_ne_true]
        exact p μ1 H1 e1 S1
    | _ => exact (show False from p).elim
theorem orT_cons {X : Cx} {W : WX} {c c2 : E} {cs : List E} {σ : L2.St} {H : Hp} {Q : Bool → Hp → Prop} (q : rdOrT X W (c :: c2 :: cs) σ H Q) : tOr (rdT X W c) (rdOrT X W (c2 :: cs)) σ H Q := by
  obtain ⟨R, μ, h, env, S, Ev, p⟩ := q
  refine ⟨R, μ, h, env, S, Ev, ?_⟩
  show Post _ _ _ _ _ _ _ _ (evT c env h)
  unfold evT
  simp only [evOr] at p
  cases e : evE c env h with
  | no => rw [e] at p; exact p.elim
  | ex x h1 => rw [e] at p; exact p
  | ok d h1 =>
    rw [e] at p
    cases d with
    | bl k =>
      simp only [Res.bind, truthy] at p ⊢
      intro μ1 H1 e1 S1
      cases k with
      | true =>
        show if true = true then _ else _
        rw [if_pos rfl]
        exact p μ1 H1 e1 S1
      | false =>
        show if false = true then _ else _
        rw [if_neg Bool.false_ne_true]
        exact ⟨R, μ1, h1, env, S1, Ev.mono S e1, p.later e1 S1⟩
    | _ => exact (show False from p).elim
theorem mt_facts : ∀ f : Mt, PlainAttrs (mtT f) ∧ Slot (mtT f) (mtName f) (mtId f) ∧ typeOf (.builtin (mtId f)) = pure (.type "method_descriptor")
  | .append => ⟨PySem.F.plainAttrs_list, PySem.F.slot_list_append, PySem.F.type_list_append⟩
  | .pop0 => ⟨PySem.F.plainAttrs_list, PySem.F.slot_list_pop, PySem.F.type_list_pop⟩
  | .pop => ⟨PySem.F.plainAttrs_list, PySem.F.slot_list_pop, PySem.F.type_list_pop⟩
  | .popAt => ⟨PySem.F.plainAttrs_list, PySem.F.slot_list_pop, PySem.F.type_list_pop⟩
  | .index => ⟨PySem.F.plainAttrs_list, PySem.F.slot_list_index, PySem.F.type_list_index⟩
  | .join => ⟨PySem.F.plainAttrs_str, PySem.F.slot_str_join, PySem.F.type_str_join⟩
  | .split => ⟨PySem.F.plainAttrs_str, PySem.F.slot_str_split, PySem.F.type_str_split⟩
  | .get2 => ⟨PySem.F.plainAttrs_dict, PySem.F.slot_dict_get, PySem.F.type_dict_get⟩
  | .popK => ⟨PySem.F.plainAttrs_dict, PySem.F.slot_dict_pop, PySem.F.type_dict_pop⟩
theorem mtOk_ok {X : Cx} {R : Ap} {μ : Nat → Addr} {H : Hp} {h : LH} {f : Mt} {d : D} {v : V} (S : SimH X.K R μ H h) (r : Rep X.K R h.length μ H d v) (e : mtOk f h d = true) : SemTy X (mtT f) v H := by
  have go : (asL h d).isSome = true → SemTy X "list" v H := fun q => by
    obtain ⟨ds, q⟩ := Option.isSome_iff_exists.mp q
    obtain ⟨a, xs, rfl, sq, _⟩ := r.lst_of S q
    exact .of (.inl ⟨rfl, xs, SqL.of sq⟩)
  have god : (asD h d).isSome = true → SemTy X "dict" v H := fun q => by
    obtain ⟨ds, q⟩ := Option.isSome_iff_exists.mp q
    obtain ⟨a, rfl, dv⟩ := asD_of S r q
    exact .dv dv
  cases f with
  | append => exact go (by simpa [mtOk] using e)
  | pop0 => exact go (by simpa [mtOk] using e)
  | pop => exact go (by simpa [mtOk] using e)
  | popAt => exact go (by simpa [mtOk] using e)
  | get2 => exact god (by simpa [mtOk] using e)
  | popK => exact god (by simpa [mtOk] using e)
  | index => cases d <;> simp [mtOk] at e
  | join => cases d <;> first | (cases repS.mp r; exact .of rfl) | (simp [mtOk] at e)
  | split => cases d <;> first | (cases repS.mp r; exact .of rfl) | (simp [mtOk] at e)
theorem plainB {X : Cx} {W : WX} {N : List Str} {sc : Scope} {c : E} {e : Expr} (h : chkE N sc c e = true) (p : plainT c = true) (q : PE X e (rdE X W c)) : PE X e (rdE X W c) ∧ PT X e (rdT X W c) := ⟨q, pt_of q (plain_isTrue h p)⟩
theorem chkEs_head {N : List Str} {sc : Scope} {cs : List E} {e : Expr} {es : List Expr} (h : chkEs N sc cs (e :: es) = true) : isStarredE e = false := by
  cases cs with
  | nil => simp [chkEs] at h
  | cons c cs =>
    simp only [chkEs, Bool.and_eq_true, Bool.not_eq_true'] at h
    exact h.1.1
mutual
theorem soundE : ∀ (c : E) (sc : Scope) (X : Cx) (W : WX) (e : Expr), chkE X.N sc c e = true → okE (gam X k) c → Good k sc X → Takes X W → PE X e (rdE X W c) ∧ PT X e (rdT X W c)
  | .var i, sc, X, W, e, h, ok, G, tk => by
    refine plainB h rfl ?_
    cases e <;> simp only [chkE, Bool.and_eq_true, decide_eq_true_eq, Bool.false_eq_true] at h
    obtain ⟨⟨h1, h2⟩, h3⟩ := h
    obtain ⟨d1, d2, _⟩ := noDbg_ok h3
    refine PE.imp (pe_var h1 (visB_ok h2 G.hsc) d1 d2) fun σ H Q q => ?_
    obtain ⟨R, μ, h, env, S, Ev, p⟩ := q
    simp only [evE] at p
    split at p
    · rename_i d q
      obtain ⟨v, e1, r⟩ := Ev.at_ i d q
      exact ⟨v, e1, p.val S r⟩
    · exact p.elim
  | .cst c, sc, X, W, e, h, ok, G, tk => by
    refine plainB h rfl ?_
    cases e <;> simp only [chkE, Bool.and_eq_true, decide_eq_true_eq, Bool.false_eq_true] at h
    obtain ⟨rfl, h2⟩ := h
    cases c <;> simp only [cstD, Option.isSome_some, Option.isSome_none, Bool.false_eq_true] at h2
    · refine PE.imp pe_non fun σ H Q q => ?_
      obtain ⟨R, μ, h, env, S, Ev, p⟩ := q
      exact p.val S (repN.mpr rfl)
    · refine PE.imp pe_bl fun σ H Q q => ?_
      obtain ⟨R, μ, h, env, S, Ev, p⟩ := q
      exact p.val S (repB.mpr rfl)
    · refine PE.imp pe_int fun σ H Q q => ?_
      obtain ⟨R, μ, h, env, S, Ev, p⟩ := q
      exact p.val S (repI.mpr rfl)
    · refine PE.imp pe_str fun σ H Q q => ?_
      obtain ⟨R, μ, h, env, S, Ev, p⟩ := q
      exact p.val S (repS.mpr rfl)
  | .glob x d, sc, X, W, e, h, ok, G, tk => by
    refine plainB h rfl ?_
    cases e <;> simp only [chkE, Bool.and_eq_true, decide_eq_true_eq, Bool.false_eq_true] at h
    obtain ⟨⟨rfl, h2⟩, h3⟩ := h
    simp only [okE] at ok
    obtain ⟨u, v, hm, rv, rep⟩ := ok.ex
    refine PE.imp (pe_glob (glB_ok h2 G.hsc) hm rv (noDbg_ok h3).1) fun σ H Q q => ?_
    obtain ⟨R, μ, h, env, S, Ev, p⟩ := q
    exact p.val S (rep _ _ _ _)
  | .tup es, sc, X, W, e, h, ok, G, tk => by
    refine plainB h rfl ?_
    cases e <;> simp only [chkE, Bool.false_eq_true] at h
    simp only [okE] at ok
    refine PE.imp (pe_tup (soundEs es sc X W _ h ok G tk)) fun σ H Q q => ?_
    obtain ⟨R, μ, h, env, S, Ev, p⟩ := q
    simp only [evE] at p
    refine ⟨R, μ, h, env, S, Ev, p.bind.imp fun ds h1 μ1 H1 e1 S1 p1 vs r => ?_⟩
    split at p1
    · rename_i hl
      exact ⟨by rw [← r.length]; exact hl, tup_ok S1 r p1⟩
    · exact p1.elim
  | .lst m es, sc, X, W, e, h, ok, G, tk => by
    refine plainB h rfl ?_
    cases e <;> simp only [chkE, Bool.false_eq_true] at h
    simp only [okE] at ok
    refine PE.imp (pe_lst (soundEs es sc X W _ h ok G tk)) fun σ H Q q => ?_
    obtain ⟨R, μ, h, env, S, Ev, p⟩ := q
    simp only [evE] at p
    refine ⟨R, μ, h, env, S, Ev, p.bind.imp fun ds h1 μ1 H1 e1 S1 p1 vs r => ?_⟩
    split at p1
    · rename_i hl
      exact ⟨by rw [← r.length]; exact hl, lst_ok S1 r p1⟩
    · exact p1.elim
  | .bin op m a b, sc, X, W, e, h, ok, G, tk => by
    refine plainB h rfl ?_
    cases e <;> simp only [chkE, Bool.and_eq_true, decide_eq_true_eq, Bool.false_eq_true] at h
    obtain ⟨⟨rfl, h2⟩, h3⟩ := h
    simp only [okE] at ok
    refine PE.imp (pe_op (opBin_ok (m := m)) (soundE a sc X W _ h2 ok.1 G tk).1 (soundE b sc X W _ h3 ok.2 G tk).1) fun σ H Q q => ?_
    obtain ⟨R, μ, h, env, S, Ev, p⟩ := q
    simp only [evE] at p
    refine ⟨R, μ, h, env, S, Ev, p.bind.imp fun d1 h1 μ1 H1 e1 S1 p1 v1 r1 => ?_⟩
    refine ⟨R, μ1, h1, env, S1, Ev.mono S e1, p1.bind.imp fun d2 h2 μ2 H2 e2 S2 p2 v2 r2 => ?_⟩
    exact ⟨_, R, μ2, h2, d1, d2, S2, Rep.mono S1 e2 _ _ r1, r2, p2⟩
  | .neg a, sc, X, W, e, h, ok, G, tk => by
    refine plainB h rfl ?_
    cases e <;> simp only [chkE, Bool.and_eq_true, decide_eq_true_eq, Bool.false_eq_true] at h
    obtain ⟨rfl, h2⟩ := h
    simp only [okE] at ok
    refine PE.imp (pe_un un_neg (soundE a sc X W _ h2 ok G tk).1) fun σ H Q q => ?_
    obtain ⟨R, μ, h, env, S, Ev, p⟩ := q
    simp only [evE] at p
    refine ⟨R, μ, h, env, S, Ev, p.bind.imp fun d1 h1 μ1 H1 e1 S1 p1 v1 r1 => ?_⟩
    split at p1
    · cases repI.mp r1
      exact ⟨_, rfl, p1.int S1⟩
    · exact p1.elim
  | .not a, sc, X, W, e, h, ok, G, tk => by
    refine ⟨?_, ?_⟩
    · skip
      cases e <;> simp only [chkE, Bool.and_eq_true, decide_eq_true_eq, Bool.false_eq_true] at h
      obtain ⟨rfl, h2⟩ := h
      simp only [okE] at ok
      refine PE.imp (pe_not (soundE a sc X W _ h2 ok G tk).1) fun σ H Q q => ?_
      obtain ⟨R, μ, h, env, S, Ev, p⟩ := q
      simp only [evE] at p
      refine ⟨R, μ, h, env, S, Ev, p.bind.imp fun d1 h1 μ1 H1 e1 S1 p1 v1 r1 => ?_⟩
      split at p1
      · cases repB.mp r1
        exact ⟨_, rfl, p1.bl S1⟩
      · exact p1.elim
    · skip
      cases e <;> simp only [chkE, Bool.and_eq_true, decide_eq_true_eq, Bool.false_eq_true] at h
      obtain ⟨rfl, h2⟩ := h
      simp only [okE] at ok
      refine PT.imp (pt_not (soundE a sc X W _ h2 ok G tk).2) fun σ H Q q => ?_
      obtain ⟨R, μ, h, env, S, Ev, p⟩ := q
      refine ⟨R, μ, h, env, S, Ev, ?_⟩
      show Post _ _ _ _ _ _ _ _ (evT a env h)
      unfold evT at p ⊢
      simp only [evE] at p
      cases e : evE a env h with
      | no => rw [e] at p; exact p.elim
      | ex x h1 => rw [e] at p; exact p
      | ok d h1 =>
        rw [e] at p
        cases d with
        | bl k => exact p
        | _ => exact (show False from p).elim
  | .and es, sc, X, W, e, h, ok, G, tk => by
    refine ⟨?_, ?_⟩
    · skip
      cases e <;> simp only [chkE, Bool.and_eq_true, decide_eq_true_eq, Bool.false_eq_true] at h
      obtain ⟨rfl, h2⟩ := h
      simp only [okE] at ok
      refine PE.imp (soundAnd es sc X W _ _ h2 ok G tk) fun σ H Q q => ?_
      obtain ⟨R, μ, h, env, S, Ev, p⟩ := q
      simp only [evE] at p
      exact ⟨R, μ, h, env, S, Ev, p⟩
    · skip
      cases e <;> simp only [chkE, Bool.and_eq_true, decide_eq_true_eq, Bool.false_eq_true] at h
      obtain ⟨rfl, h2⟩ := h
      simp only [okE] at ok
      refine PT.imp (soundAndT es sc X W _ _ h2 ok G tk).pt fun σ H Q q => ?_
      obtain ⟨R, μ, h, env, S, Ev, p⟩ := q
      unfold evT at p
      simp only [evE] at p
      exact ⟨R, μ, h, env, S, Ev, p⟩
  | .or es, sc, X, W, e, h, ok, G, tk => by
    refine ⟨?_, ?_⟩
    · skip
      cases e <;> simp only [chkE, Bool.and_eq_true, decide_eq_true_eq, Bool.false_eq_true] at h
      obtain ⟨rfl, h2⟩ := h
      simp only [okE] at ok
      refine PE.imp (soundOr es sc X W _ _ h2 ok G tk) fun σ H Q q => ?_
      obtain ⟨R, μ, h, env, S, Ev, p⟩ := q
      simp only [evE] at p
      exact ⟨R, μ, h, env, S, Ev, p⟩
    · skip
      cases e <;> simp only [chkE, Bool.and_eq_true, decide_eq_true_eq, Bool.false_eq_true] at h
      obtain ⟨rfl, h2⟩ := h
      simp only [okE] at ok
      refine PT.imp (soundOrT es sc X W _ _ h2 ok G tk).pt fun σ H Q q => ?_
      obtain ⟨R, μ, h, env, S, Ev, p⟩ := q
      unfold evT at p
      simp only [evE] at p
      exact ⟨R, μ, h, env, S, Ev, p⟩
  | .cmp op a b, sc, X, W, e, h, ok, G, tk => by
    refine ⟨?_, ?_⟩
    · skip
      simp only [chkE] at h
      split at h <;> try (cases h; done)
      rename_i e o f q0
      obtain ⟨pos, rfl⟩ := cmp1_eq q0
      simp only [Bool.and_eq_true, decide_eq_true_eq, Bool.not_eq_true'] at h
      obtain ⟨⟨⟨rfl, hm⟩, h2⟩, h3⟩ := h
      simp only [okE] at ok
      exact PE.imp (pe_cmpR (opCmp_ok G.hw G.units) (soundE a sc X W _ h2 ok.1 G tk).1 (soundE b sc X W _ h3 ok.2 G tk).1 (markBehind hm o)) fun σ H Q q => cmp_rd q
    · skip
      simp only [chkE] at h
      split at h <;> try (cases h; done)
      rename_i e o f q0
      obtain ⟨pos, rfl⟩ := cmp1_eq q0
      simp only [Bool.and_eq_true, decide_eq_true_eq, Bool.not_eq_true'] at h
      obtain ⟨⟨⟨rfl, hm⟩, h2⟩, h3⟩ := h
      simp only [okE] at ok
      exact PT.imp (pt_cmpR (opCmp_ok G.hw G.units) (soundE a sc X W _ h2 ok.1 G tk).1 (soundE b sc X W _ h3 ok.2 G tk).1 (markBehind hm o)) fun σ H Q q => cmp_rd (rdB_of cmp_bl q)
  | .chn op op' a b c, sc, X, W, e, h, ok, G, tk => by
    refine ⟨?_, ?_⟩
    · skip
      simp only [chkE] at h
      split at h <;> try (cases h; done)
      rename_i e o f o' g q0
      obtain ⟨pos, rfl⟩ := cmp2_eq q0
      simp only [Bool.and_eq_true, decide_eq_true_eq, Bool.not_eq_true'] at h
      obtain ⟨⟨⟨⟨⟨⟨rfl, rfl⟩, hm⟩, hm'⟩, h2⟩, h3⟩, h4⟩ := h
      simp only [okE] at ok
      exact PE.imp (pe_chain (opCmp_ok G.hw G.units) (opCmp_ok G.hw G.units) (soundE a sc X W _ h2 ok.1 G tk).1 (soundE b sc X W _ h3 ok.2.1 G tk).1 (soundE c sc X W _ h4 ok.2.2 G tk).1 (markBehind hm' o')) fun σ H Q q => chn_rd q
    · skip
      simp only [chkE] at h
      split at h <;> try (cases h; done)
      rename_i e o f o' g q0
      obtain ⟨pos, rfl⟩ := cmp2_eq q0
      simp only [Bool.and_eq_true, decide_eq_true_eq, Bool.not_eq_true'] at h
      obtain ⟨⟨⟨⟨⟨⟨rfl, rfl⟩, hm⟩, hm'⟩, h2⟩, h3⟩, h4⟩ := h
      simp only [okE] at ok
      exact PT.imp (pt_chain (opCmp_ok G.hw G.units) (opCmp_ok G.hw G.units) (soundE a sc X W _ h2 ok.1 G tk).1 (soundE b sc X W _ h3 ok.2.1 G tk).1 (soundE c sc X W _ h4 ok.2.2 G tk).1 (markBehind hm' o')) fun σ H Q q => chn_rd (rdB_of chn_bl q)
  | .ite c a b, sc, X, W, e, h, ok, G, tk => by
    refine ⟨?_, ?_⟩
    · skip
      cases e <;> simp only [chkE, Bool.and_eq_true, decide_eq_true_eq, Bool.false_eq_true] at h
      obtain ⟨⟨h1, h2⟩, h3⟩ := h
      simp only [okE] at ok
      refine PE.imp (pe_ifExp (soundE c sc X W _ h1 ok.1 G tk).2 (soundE a sc X W _ h2 ok.2.1 G tk).1 (soundE b sc X W _ h3 ok.2.2 G tk).1) fun σ H Q q => ?_
      obtain ⟨R, μ, h, env, S, Ev, p⟩ := q
      rw [ite_eq] at p
      refine ⟨R, μ, h, env, S, Ev, p.bind.imp fun b h1 μ1 H1 e1 S1 p1 => ?_⟩
      cases b with
      | true => exact ⟨R, μ1, h1, env, S1, Ev.mono S e1, p1⟩
      | false => exact ⟨R, μ1, h1, env, S1, Ev.mono S e1, p1⟩
    · skip
      cases e <;> simp only [chkE, Bool.and_eq_true, decide_eq_true_eq, Bool.false_eq_true] at h
      obtain ⟨⟨h1, h2⟩, h3⟩ := h
      simp only [okE] at ok
      have pc := (soundE c sc X W _ h1 ok.1 G tk).2
      have pa := (soundE a sc X W _ h2 ok.2.1 G tk).2
      have pb := (soundE b sc X W _ h3 ok.2.2 G tk).2
      refine ⟨fun pins s σ H Q I q => ?_⟩
      obtain ⟨R, μ, h, env, S, Ev, p⟩ := q
      unfold evT at p
      rw [ite_eq] at p
      have p' : Post X.K X.mg (WP X W σ) R h.length μ H (fun b _ _ H' => Q b H') ((evT c env h).bind fun k h1 => if k = true then evT a env h1 else evT b env h1) := by
        have e : (((evT c env h).bind fun k h1 => if k = true then evE a env h1 else evE b env h1).bind fun d h1 => match truthy h1 d with | some b => Res.ok b h1 | none => Res.no) = ((evT c env h).bind fun k h1 => if k = true then evT a env h1 else evT b env h1) := by
          cases evT c env h with
          | no => rfl
          | ex x h1 => rfl
          | ok k h1 => cases k <;> rfl
        rw [← e]
        exact p
      refine PyProof.Rows.isTrue_IfExp (thn (pc.run pins s σ H (fun k H1 => if k = true then rdT X W a σ H1 Q else rdT X W b σ H1 Q) I ⟨R, μ, h, env, S, Ev, p'.bind.imp fun k h1 μ1 H1 e1 S1 p1 => ?_⟩) fun k s1 hk => ?_)
      · cases k with
        | true => exact ⟨R, μ1, h1, env, S1, Ev.mono S e1, p1⟩
        | false => exact ⟨R, μ1, h1, env, S1, Ev.mono S e1, p1⟩
      · obtain ⟨H1, I1, q1⟩ := hk
        cases k with
        | true => exact pa.run pins s1 σ H1 Q I1 q1
        | false => exact pb.run pins s1 σ H1 Q I1 q1
  | .idx a i, sc, X, W, e, h, ok, G, tk => by
    refine plainB h rfl ?_
    simp only [chkE] at h
    split at h <;> try (cases h; done)
    rename_i e f q0
    obtain ⟨pos, rfl⟩ := sub1_eq q0
    simp only [Bool.and_eq_true, Bool.not_eq_true'] at h
    obtain ⟨⟨h2, h3⟩, h4⟩ := h
    simp only [okE] at ok
    refine PE.imp (pe_ix (opIdx_ok G.hw G.units) (soundE a sc X W _ h2 ok.1 G tk).1 (soundE i sc X W _ h3 ok.2 G tk).1 (plainIx h4)) fun σ H Q q => ?_
    obtain ⟨R, μ, h, env, S, Ev, p⟩ := q
    simp only [evE] at p
    refine ⟨R, μ, h, env, S, Ev, p.bind.imp fun d1 h1 μ1 H1 e1 S1 p1 v1 r1 => ?_⟩
    refine ⟨R, μ1, h1, env, S1, Ev.mono S e1, p1.bind.imp fun d2 h2 μ2 H2 e2 S2 p2 v2 r2 => ?_⟩
    exact ⟨_, R, μ2, h2, d1, d2, S2, Rep.mono S1 e2 _ _ r1, r2, p2⟩
  | .slc m a lo hi, sc, X, W, e, h, ok, G, tk => by
    refine plainB h rfl ?_
    simp only [chkE] at h
    split at h <;> try (cases h; done)
    rename_i e s q0
    split at h <;> try (cases h; done)
    rename_i l u q1
    obtain ⟨pos, rfl⟩ := sub1_eq q0
    obtain ⟨p2, rfl⟩ := slc1_eq q1
    simp only [Bool.and_eq_true] at h
    obtain ⟨⟨h2, h3⟩, h4⟩ := h
    simp only [okE] at ok
    refine PE.imp (pe_slice (opCut_ok (m := m)) (soundE a sc X W _ h2 ok.1 G tk).1 (soundO lo sc X W _ h3 ok.2.1 G tk) (soundO hi sc X W _ h4 ok.2.2 G tk)) fun σ H Q q => ?_
    obtain ⟨R, μ, h, env, S, Ev, p⟩ := q
    simp only [evE] at p
    refine ⟨R, μ, h, env, S, Ev, p.bind.imp fun d1 h1 μ1 H1 e1 S1 p1 v1 r1 => ?_⟩
    refine ⟨R, μ1, h1, env, S1, Ev.mono S e1, p1.bind.imp fun l h2 μ2 H2 e2 S2 p2 => ?_⟩
    refine ⟨R, μ2, h2, env, S2, (Ev.mono S e1).mono S1 e2, p2.bind.imp fun u h3 μ3 H3 e3 S3 p3 => ?_⟩
    exact ⟨_, R, μ3, h3, d1, S3, Rep.mono S2 e3 _ _ (Rep.mono S1 e2 _ _ r1), p3⟩
  | .noe, sc, X, W, e, h, ok, G, tk => by simp [chkE] at h
  | .isi a ty, sc, X, W, e, h, ok, G, tk => by
    refine plainB h rfl ?_
    simp only [chkE] at h
    split at h <;> try (cases h; done)
    rename_i n e f q0
    split at h <;> try (cases h; done)
    rename_i t q1
    obtain ⟨p1, pos, rfl⟩ := calN_eq q0
    obtain ⟨p2, rfl⟩ := nameE_eq q1
    simp only [Bool.and_eq_true, decide_eq_true_eq, Bool.not_eq_true'] at h
    obtain ⟨⟨⟨⟨⟨⟨rfl, rfl⟩, h3⟩, h4⟩, h5⟩, h6⟩, h7⟩ := h
    simp only [okE] at ok
    obtain ⟨m1, m2⟩ := isiTys_mem h3
    obtain ⟨b1, b2⟩ := BN_dbg _ m1
    have pt : PE X (.Name (Str.ofString ty) p2) (tC (.ty ty)) := pe_bltn (glB_ok h5 G.hsc) (G.nb _ m1) m2 rfl b2 b1
    refine PE.imp (pe_callB call_isi (glB_ok h4 G.hsc) (G.nb _ (by decide +kernel)) (by decide +kernel) (pa_cons (soundE a sc X W _ h6 ok G tk).1 (pa_cons pt pa_nil (by rfl)) (noStar_star h7)) (by decide +kernel) (by decide +kernel) (noStar_star h7) (by rfl)) fun σ H Q q => ?_
    obtain ⟨R, μ, h, env, S, Ev, p⟩ := q
    simp only [evE] at p
    refine ⟨R, μ, h, env, S, Ev, p.bind.imp fun d1 h1 μ1 H1 e1 S1 p1 v1 r1 => ?_⟩
    split at p1
    · rename_i b q
      exact isi_ok S1 r1 q (p1.bl S1)
    · exact p1.elim
  | .bui f m es, sc, X, W, e, h, ok, G, tk => by
    refine plainB h rfl ?_
    simp only [chkE] at h
    split at h <;> try (cases h; done)
    rename_i n e fs q0
    obtain ⟨p1, pos, rfl⟩ := calN_eq q0
    simp only [Bool.and_eq_true, decide_eq_true_eq] at h
    obtain ⟨⟨rfl, h2⟩, h3⟩ := h
    simp only [okE] at ok
    have hst := chkEs_head h3
    have hpl : (backTo pos (starEach fs X.env)).any (·.1) = false := by
      have q := (chkEs_star (env := X.env) (pos := pos) h3).1
      rw [noStar_star hst] at q
      simpa only [backTo, List.map_cons, List.any_cons, Bool.false_or] using q
    obtain ⟨b1, b2⟩ := BN_dbg _ (biName_mem f)
    have pa := soundEs es sc X W _ h3 ok G tk
    have fin : ∀ σ H Q, rdE X W (.bui f m es) σ H Q → tCB (rBi X.K X.mg f m) (rdEs X W es) σ H Q := fun σ H Q q => by
      obtain ⟨R, μ, h, env, S, Ev, p⟩ := q
      simp only [evE] at p
      exact ⟨R, μ, h, env, S, Ev, p.bind.imp fun ds h1 μ1 H1 e1 S1 p1 vs r => ⟨_, R, μ1, h1, ds, S1, r, p1⟩⟩
    have hb := biV_boot f
    have hc : CallR X (biV f) (rBi X.K X.mg f m) := biF_ok G.calm
    rcases biV_kind f with ⟨id, hid⟩ | ⟨T, hT⟩
    · rw [hid] at hb hc
      exact PE.imp (pe_callB hc (glB_ok h2 G.hsc) (G.nb _ (biName_mem f)) hb pa b2 b1 (noStar_star hst) hpl) fin
    · rw [hT] at hb hc
      exact PE.imp (pe_callTy hc (glB_ok h2 G.hsc) (G.nb _ (biName_mem f)) hb pa b2 b1 (noStar_star hst) hpl) fin
  | .met f m o es, sc, X, W, e, h, ok, G, tk => by
    refine plainB h rfl ?_
    simp only [chkE] at h
    split at h <;> try (cases h; done)
    rename_i e n a0 fs b0 q0
    obtain ⟨apos, pos, rfl, rfl, rfl⟩ := calM_eq q0
    simp only [Bool.and_eq_true, decide_eq_true_eq, Bool.not_eq_true'] at h
    obtain ⟨⟨⟨⟨⟨rfl, h2⟩, h3⟩, h4⟩, h5⟩, h6⟩ := h
    simp only [okE] at ok
    obtain ⟨f1, f2, f3⟩ := mt_facts f
    have pe := (soundE o sc X W _ h4 ok.1 G tk).1
    have hline : (apos.endLine == pos.line) = true := by rw [h2]; simp
    cases fs with
    | nil =>
      refine PE.imp (pe_bmS0 f1 f2 f3 (mtF_ok G.hw G.units (m := m)) pe (attrBase h3) hline) fun σ H Q q => ?_
      obtain ⟨R, μ, h, env, S, Ev, p⟩ := q
      simp only [evE] at p
      refine ⟨R, μ, h, env, S, Ev, p.bind.imp fun d1 h1 μ1 H1 e1 S1 p1 v1 r1 => ?_⟩
      split at p1
      · rename_i hm
        refine ⟨mtOk_ok S1 r1 hm, ?_⟩
        cases es with
        | nil => exact ⟨_, R, μ1, h1, d1, [], S1, r1, by simp [Reps], p1⟩
        | cons _ _ => simp [chkEs] at h5
      · exact p1.elim
    | cons e2 fs =>
      have hst := chkEs_head h5
      have hq := chkEs_star (env := X.env) (pos := pos) h5
      have hpl : (backTo pos (starEach fs X.env)).any (·.1) = false := by
        have q := hq.1
        rw [noStar_star hst] at q
        simpa only [backTo, List.map_cons, List.any_cons, Bool.false_or] using q
      have hfew : ((backTo pos (starEach (e2 :: fs) X.env)).all (fun x => !x.1) && (backToKw pos (keywordEach [] X.env)).all (fun x => x.1.isSome)
          && decide ((e2 :: fs).length + ([] : List Keyword).length + (if ([] : List Keyword).isEmpty then 0 else 1) < 30)) = true := by
        rw [hq.2]
        show (true && true && decide ((e2 :: fs).length + 0 + 0 < 30)) = true
        simpa using h6
      refine PE.imp (pe_bmS f1 f2 f3 (mtF_ok G.hw G.units (m := m)) pe (soundEs es sc X W _ h5 ok.2 G tk) (attrBase h3) hfew hline (noStar_star hst) hpl) fun σ H Q q => ?_
      obtain ⟨R, μ, h, env, S, Ev, p⟩ := q
      simp only [evE] at p
      refine ⟨R, μ, h, env, S, Ev, p.bind.imp fun d1 h1 μ1 H1 e1 S1 p1 v1 r1 => ?_⟩
      split at p1
      · rename_i hm
        refine ⟨mtOk_ok S1 r1 hm, R, μ1, h1, env, S1, Ev.mono S e1, p1.bind.imp fun ds h2 μ2 H2 e2 S2 p2 vs r2 => ?_⟩
        exact ⟨_, R, μ2, h2, d1, ds, S2, Rep.mono S1 e2 _ _ r1, r2, p2⟩
      · exact p1.elim
  | .cal x S m dfl es, sc, X, W, e, h, ok, G, tk => by
    refine plainB h rfl ?_
    simp only [chkE] at h
    split at h <;> try (cases h; done)
    rename_i n e fs q0
    obtain ⟨p1, pos, rfl⟩ := calN_eq q0
    simp only [Bool.and_eq_true, decide_eq_true_eq] at h
    obtain ⟨⟨⟨rfl, h2⟩, h4⟩, h3⟩ := h
    simp only [okE] at ok
    have hst := chkEs_head h3
    have hpl : (backTo pos (starEach fs X.env)).any (·.1) = false := by
      have q := (chkEs_star (env := X.env) (pos := pos) h3).1
      rw [noStar_star hst] at q
      simpa only [backTo, List.map_cons, List.any_cons, Bool.false_or] using q
    refine PE.imp (pe_callD ok.1 G.room (glB_ok h2 G.hsc) tk (soundEs es sc X W _ h3 ok.2 G tk) (noDbg_ok h4).1 (noStar_star hst) hpl) fun σ H Q q => ?_
    obtain ⟨R, μ, h, env, S, Ev, p⟩ := q
    simp only [evE] at p
    refine ⟨R, μ, h, env, S, Ev, p.bind.imp fun ds h1 μ1 H1 e1 S1 p1 vs r dvs hr => ?_⟩
    split at p1
    · rename_i hl
      exact ⟨R, μ1, h1, ds ++ dfl, by rw [List.length_append]; exact hl, S1, r.append (hr _ _ _ _), p1⟩
    · exact p1.elim
  | .lcp own t it cond elt, sc, X, W, e, h, ok, G, tk => by
    refine plainB h rfl ?_
    simp only [chkE] at h
    split at h <;> try (cases h; done)
    rename_i e tg iter ifs a scope q0
    obtain ⟨pos, rfl⟩ := lcp1_eq q0
    simp only [Bool.and_eq_true, decide_eq_true_eq, Bool.not_eq_true'] at h
    obtain ⟨⟨⟨⟨⟨⟨⟨⟨rfl, h2⟩, h3⟩, h4⟩, h5⟩, h6⟩, h7⟩, h8⟩, h9⟩ := h
    simp only [okE] at ok
    have hsc : X.env.scope = sc := G.hsc
    refine lcp_ok G (soundI it sc X W tg _ h4 h9 ok.1 G tk) (by rw [hsc]; exact blkOk_by h3) h6 (fun s H C cl fp => ?_) (fun s H C cl fp => ?_) (fun s H C cl fp => ?_) (setIter h2)
    · exact pg_ok (X := X.blk s H scope (compEnvC scope cl C X.env) fp) G.nd G.calm (fun x hx => blkSt_ok hx) t tg h5
    · exact soundC cond (relS scope sc) (X.blk s H scope (compEnvC scope cl C X.env) fp) W0 ifs h7 ok.2.1 (G.blk s H C cl fp) takes0
    · exact (soundE elt (relS scope sc) (X.blk s H scope (compEnvC scope cl C X.env) fp) W0 e h8 ok.2.2 (G.blk s H C cl fp) takes0).1
  | .itv e', sc, X, W, e, h, ok, G, tk => by simp [chkE] at h
  | .rng es, sc, X, W, e, h, ok, G, tk => by simp [chkE] at h
  | .dsp es, sc, X, W, e, h, ok, G, tk => by
    refine plainB h rfl ?_
    simp only [chkE] at h
    split at h <;> try (cases h; done)
    rename_i ks vs q0
    obtain ⟨pos, rfl⟩ := dct1_eq q0
    simp only [Bool.and_eq_true, decide_eq_true_eq] at h
    obtain ⟨⟨h1, h2⟩, h3⟩ := h
    simp only [okE] at ok
    obtain ⟨s1, s2, s3⟩ := soundDs es sc X W ks vs pos h1 ok G tk
    cases ks with
    | nil =>
      cases vs with
      | cons _ _ => simp at h2
      | nil =>
        cases es with
        | cons _ _ => simp [chkDs] at h1
        | nil =>
          refine PE.imp pe_dnewK fun σ H Q q p hp => ?_
          obtain ⟨_, kvs, e1, _, q1⟩ := dsp_rd (by rfl) q p hp
          cases kvs with
          | cons _ _ => simp at e1
          | nil => rw [upd_upd] at q1; exact q1
    | cons k ks => exact PE.imp (pe_disp s1 s2 h2 (by simp) h3) fun σ H Q q => dsp_rd s3 q
  | .ds1 .., sc, X, W, e, h, ok, G, tk => (show False from ok).elim
  | .att c f o, sc, X, W, e, h, ok, G, tk => by
    refine plainB h rfl ?_
    simp only [chkE] at h
    split at h <;> try (cases h; done)
    rename_i e g q0
    obtain ⟨pos, rfl⟩ := att1_eq q0
    simp only [Bool.and_eq_true, decide_eq_true_eq, Bool.not_eq_true'] at h
    obtain ⟨⟨rfl, h2⟩, h3⟩ := h
    simp only [okE] at ok
    refine PE.imp (pe_fld (soundE o sc X W _ h3 ok.2 G tk).1 (attrBase h2)) fun σ H Q q => ?_
    obtain ⟨R, μ, h, env, S, Ev, p⟩ := q
    simp only [evE] at p
    refine ⟨R, μ, h, env, S, Ev, p.bind.imp fun d h1 μ1 H1 e1 S1 p1 v1 r1 => ?_⟩
    split at p1
    · rename_i c' fs q
      split at p1
      · rename_i hc
        split at p1
        · rename_i v hv
          obtain ⟨a, C, dx, ws, rfl, hC, ha, rs⟩ := r1.ins_of S1 q
          obtain ⟨w, hw, rw_⟩ := (reps_lookup rs).2 v hv
          obtain ⟨cl, na⟩ := ok.1.ex C (by rw [← hc]; exact hC)
          exact ⟨a, C, dx, _, w, rfl, ha, cl, na, hw, p1.val S1 rw_⟩
        · exact p1.elim
      · exact p1.elim
    · exact p1.elim
  | .prp c f S o, sc, X, W, e, h, ok, G, tk => by
    refine plainB h rfl ?_
    simp only [chkE] at h
    split at h <;> try (cases h; done)
    rename_i e g q0
    obtain ⟨pos, rfl⟩ := att1_eq q0
    simp only [Bool.and_eq_true, decide_eq_true_eq, Bool.not_eq_true'] at h
    obtain ⟨⟨rfl, h2⟩, h3⟩ := h
    simp only [okE] at ok
    refine PE.imp (pe_prpD ok.1 G.room (soundE o sc X W _ h3 ok.2 G tk).1 (attrBase h2)) fun σ H Q q => ?_
    obtain ⟨R, μ, h, env, S0, Ev, p⟩ := q
    simp only [evE] at p
    refine ⟨R, μ, h, env, S0, Ev, p.bind.imp fun d h1 μ1 H1 e1 S1 p1 v1 r1 => ?_⟩
    split at p1
    · rename_i c' fs q
      split at p1
      · rename_i hc
        obtain ⟨a, C, dx, ws, rfl, hC, ha, rs⟩ := r1.ins_of S1 q
        refine ⟨a, C, dx, _, rfl, by rw [← hc]; exact hC, ha, R, μ1, h1, [d], rfl, S1, reps1.mpr ⟨_, rfl, r1⟩, ?_⟩
        split at p1
        · rename_i v h2 hS
          rw [hS]; exact p1
        · exact p1.elim
      · exact p1.elim
    · exact p1.elim
  | .mk c S m dfl es, sc, X, W, e, h, ok, G, tk => by
    refine plainB h rfl ?_
    simp only [chkE] at h
    split at h <;> try (cases h; done)
    rename_i n fs q0
    obtain ⟨p1, pos, rfl⟩ := calN_eq q0
    simp only [Bool.and_eq_true, decide_eq_true_eq] at h
    obtain ⟨⟨⟨rfl, h2⟩, h4⟩, h3⟩ := h
    simp only [okE] at ok
    have go : ∀ (t : TA), (∀ σ H Q, rdEs X W es σ H Q → t σ H Q) → ∀ σ H Q, rdE X W (.mk n S m dfl es) σ H Q → tMkD X W n S m dfl t σ H Q := fun t ht σ H Q q => by
      obtain ⟨R, μ, h, env, S0, Ev, p⟩ := q
      simp only [evE] at p
      refine ht _ _ _ ⟨R, μ, h, env, S0, Ev, p.bind.imp fun ds h1 μ1 H1 e1 S1 p1 vs r C hC dvs hr x dx hx hdx hne => ?_⟩
      split at p1
      · rename_i hl
        have eA : Ext h1.length μ1 H1 h1.length μ1 (upd H1 dx (.own x)) := Ext.laid hdx
        have SA := S1.laid (o := .own x) hdx
        have hx' : upd H1 dx (.own x) x = none := by rw [upd_ne hne.symm]; exact hx
        have SB := SA.newLocO (u := .ins C dx []) (ob := .ins n []) hx' fun _ => ⟨C, dx, [], hC, upd_same, by simp [Reps]⟩
        have eB : Ext h1.length μ1 (upd H1 dx (.own x)) (h1 ++ [O.ins n []]).length (muN μ1 h1.length x) (upd (upd H1 dx (.own x)) x (.ins C dx [])) := by rw [List.length_append]; exact Ext.newLoc hx'
        have eAB := eA.trans SA eB
        refine ⟨R, _, h1 ++ [O.ins n []], .loc h1.length :: (ds ++ dfl), by simp only [List.length_cons, List.length_append]; omega, SB, ?_, ?_⟩
        · simp only [Reps]
          refine ⟨.ref x, _, rfl, ?_, (Reps.mono S1 eAB _ _ r).append (hr _ _ _ _)⟩
          simp only [Rep]
          exact ⟨by simp, by rw [muN_eq]⟩
        · refine ((p1.later eAB SB).bind).imp fun d h2 μ2 H2 e2 S2 p2 v2 r2 => ?_
          cases d <;> try (exact p2.elim)
          refine ⟨repN.mp r2, p2.val S2 ?_⟩
          simp only [Rep]
          have hlt : h1.length < (h1 ++ [O.ins n []]).length := by simp
          exact ⟨Nat.lt_of_lt_of_le hlt e2.le, by rw [e2.agree _ hlt, muN_eq]⟩
      · exact p1.elim
    cases fs with
    | nil =>
      cases es with
      | cons _ _ => simp [chkEs] at h3
      | nil =>
        exact PE.imp (pe_mkD0 ok.1 G.room (glB_ok h2 G.hsc) tk (noDbg_ok h4).1) (go tNil fun σ H Q q => by
          obtain ⟨R, μ, h, env, S0, Ev, p⟩ := q
          exact p μ H Ext.refl S0 [] (by simp [Reps]))
    | cons e fs =>
      have hst := chkEs_head h3
      have hpl : (backTo pos (starEach fs X.env)).any (·.1) = false := by
        have q := (chkEs_star (env := X.env) (pos := pos) h3).1
        rw [noStar_star hst] at q
        simpa only [backTo, List.map_cons, List.any_cons, Bool.false_or] using q
      exact PE.imp (pe_mkD ok.1 G.room (glB_ok h2 G.hsc) tk (soundEs es sc X W _ h3 ok.2 G tk) (noDbg_ok h4).1 (noStar_star hst) hpl) (go _ fun σ H Q q => q)
  | .mca c x S m dfl o es, sc, X, W, e, h, ok, G, tk => by
    refine plainB h rfl ?_
    simp only [chkE] at h
    split at h <;> try (cases h; done)
    rename_i e n a0 fs b0 q0
    obtain ⟨apos, pos, rfl, rfl, rfl⟩ := calM_eq q0
    simp only [Bool.and_eq_true, decide_eq_true_eq, Bool.not_eq_true'] at h
    obtain ⟨⟨⟨⟨⟨rfl, h2⟩, h3⟩, h4⟩, h5⟩, h6⟩ := h
    simp only [okE] at ok
    have pe := (soundE o sc X W _ h4 ok.2.1 G tk).1
    have hline : (apos.endLine == pos.line) = true := by rw [h2]; simp
    have go : ∀ (t : TA), (∀ σ H Q, rdEs X W es σ H Q → t σ H Q) → ∀ σ H Q, rdE X W (.mca c n S m dfl o es) σ H Q → rdE X W o σ H fun v H1 => ∃ a C dx fs, v = .ref a ∧ ClsAt X.K c C ∧ H1 a = some (.ins C dx fs) ∧ fs.lookup n = none ∧ t σ H1 fun vs H2 => ∀ dvs, (∀ R n μ H, Reps X.K R n μ H dfl dvs) → spD X.K X.mg m S (.ref a :: (vs ++ dvs)) H2 Q (WE W σ) := fun t ht σ H Q q => by
      obtain ⟨R, μ, h, env, S0, Ev, p⟩ := q
      simp only [evE] at p
      refine ⟨R, μ, h, env, S0, Ev, p.bind.imp fun d h1 μ1 H1 e1 S1 p1 v1 r1 => ?_⟩
      split at p1
      · rename_i c' fs q
        split at p1
        · rename_i hc
          obtain ⟨a, C, dx, ws, rfl, hC, ha, rs⟩ := r1.ins_of S1 q
          refine ⟨a, C, dx, _, rfl, by rw [← hc.1]; exact hC, ha, (reps_lookup rs).1 hc.2, ht _ _ _ ⟨R, μ1, h1, env, S1, Ev.mono S0 e1, p1.bind.imp fun ds h2 μ2 H2 e2 S2 p2 vs r2 dvs hr => ?_⟩⟩
          split at p2
          · rename_i hl
            exact ⟨R, μ2, h2, d :: (ds ++ dfl), by simp only [List.length_cons, List.length_append]; omega, S2, by simp only [Reps]; exact ⟨_, _, rfl, Rep.mono S1 e2 _ _ r1, r2.append (hr _ _ _ _)⟩, p2⟩
          · exact p2.elim
        · exact p1.elim
      · exact p1.elim
    cases fs with
    | nil =>
      cases es with
      | cons _ _ => simp [chkEs] at h5
      | nil =>
        refine PE.imp (pe_mcaD0 ok.1 G.room tk pe (mcall_eq0 (attrBase h3) hline)) fun σ H Q q => ?_
        obtain ⟨R, μ, h, env, S0, Ev, p⟩ := go tNil (fun σ H Q q => by
          obtain ⟨R, μ, h, env, S0, Ev, p⟩ := q
          exact p μ H Ext.refl S0 [] (by simp [Reps])) σ H Q q
        refine ⟨R, μ, h, env, S0, Ev, p.imp fun d h1 μ1 H1 e1 S1 p1 v r => ?_⟩
        obtain ⟨a, C, dx, fs, q1, q2, q3, q4, q5⟩ := p1 v r
        exact ⟨a, C, dx, fs, q1, q2, q3, q4, q5⟩
    | cons e2 fs =>
      have hst := chkEs_head h5
      have hq := chkEs_star (env := X.env) (pos := pos) h5
      have hpl : (backTo pos (starEach fs X.env)).any (·.1) = false := by
        have q := hq.1
        rw [noStar_star hst] at q
        simpa only [backTo, List.map_cons, List.any_cons, Bool.false_or] using q
      have hfew : ((backTo pos (starEach (e2 :: fs) X.env)).all (fun x => !x.1) && (backToKw pos (keywordEach [] X.env)).all (fun x => x.1.isSome)
          && decide ((e2 :: fs).length + ([] : List Keyword).length + (if ([] : List Keyword).isEmpty then 0 else 1) < 30)) = true := by
        rw [hq.2]
        show (true && true && decide ((e2 :: fs).length + 0 + 0 < 30)) = true
        simpa using h6
      exact PE.imp (pe_mcaD ok.1 G.room tk pe (soundEs es sc X W _ h5 ok.2.2 G tk) (noStar_star hst) hpl (mcall_eq (attrBase h3) hfew hline)) (go _ fun σ H Q q => q)
  | .zip .., sc, X, W, e, h, ok, G, tk => by simp [chkE] at h
  | .bad, sc, X, W, e, h, ok, G, tk => ⟨⟨fun pins s σ H Q I q => by obtain ⟨R, μ, h, env, S, Ev, p⟩ := q; exact (show False from p).elim⟩, ⟨fun pins s σ H Q I q => by obtain ⟨R, μ, h, env, S, Ev, p⟩ := q; exact (show False from p).elim⟩⟩
  | .enm .., sc, X, W, e, h, ok, G, tk => by simp [chkE] at h
  | .tix os c, sc, X, W, e, h, ok, G, tk => by
    refine plainB h rfl ?_
    simp only [chkE] at h
    split at h <;> try (cases h; done)
    rename_i e n a0 f b0 q0
    split at h <;> try (cases h; done)
    rename_i fs q1
    obtain ⟨apos, pos, rfl, rfl, rfl⟩ := calM_eq q0
    obtain ⟨kk, tpos, rfl⟩ := tupL_eq q1
    simp only [Bool.and_eq_true, decide_eq_true_eq, Bool.not_eq_true'] at h
    obtain ⟨⟨⟨⟨rfl, h2⟩, h3⟩, h4⟩, h5⟩ := h
    simp only [okE] at ok
    refine PE.imp (pe_tix (soundEs os sc X W _ h3 ok.1 G tk) (soundE c sc X W _ h4 ok.2 G tk).1 (noStar_star h5) (by rw [h2]; simp)) fun σ H Q q => tix_rd q
  | .lrg m it, sc, X, W, e, h, ok, G, tk => by
    refine plainB h rfl ?_
    simp only [chkE] at h
    split at h <;> try (cases h; done)
    rename_i n r q0
    obtain ⟨p1, pos, rfl⟩ := calN_eq q0
    simp only [Bool.and_eq_true, decide_eq_true_eq] at h
    obtain ⟨⟨rfl, h2⟩, h3⟩ := h
    cases it <;> simp only [chkR, Bool.false_eq_true] at h3
    rename_i es
    split at h3 <;> try (cases h3; done)
    rename_i n fs q0
    obtain ⟨p2, pos2, rfl⟩ := calN_eq q0
    simp only [Bool.and_eq_true, decide_eq_true_eq, Bool.or_eq_true] at h3
    obtain ⟨⟨⟨rfl, g2⟩, g3⟩, g4⟩ := h3
    simp only [okE] at ok
    have nbl := G.nb "list" (by decide +kernel)
    have nbr := G.nb "range" (by decide +kernel)
    match es, fs, g3, g4, ok with
    | [a], [x], g3, _, ok =>
      simp only [chkEs, Bool.and_eq_true, Bool.not_eq_true'] at g3
      simp only [okEs] at ok
      exact PE.imp (pe_listRg G.calm (glB_ok h2 G.hsc) nbl (prg_1 (glB_ok g2 G.hsc) nbr (soundE a sc X W _ g3.1.2 ok.1 G tk).1 (noStar_star g3.1.1))) fun σ H Q q => lrg1_rd q
    | [a, b], [x, y], g3, _, ok =>
      simp only [chkEs, Bool.and_eq_true, Bool.not_eq_true'] at g3
      simp only [okEs] at ok
      have hy := noStar_star (env := X.env) (es := []) g3.2.1.1
      exact PE.imp (pe_listRg G.calm (glB_ok h2 G.hsc) nbl (prg_2 (glB_ok g2 G.hsc) nbr (soundE a sc X W _ g3.1.2 ok.1 G tk).1 (soundE b sc X W _ g3.2.1.2 ok.2.1 G tk).1 (noStar_star g3.1.1) hy (by rw [hy]; rfl))) fun σ H Q q => lrg2_rd q
    | [], _, _, g4, _ => simp at g4
    | _ :: _ :: _ :: _, _, _, g4, _ => simp at g4
    | [_], [], g3, _, _ => simp [chkEs] at g3
    | [_], _ :: _ :: _, g3, _, _ => simp [chkEs] at g3
    | [_, _], [], g3, _, _ => simp [chkEs] at g3
    | [_, _], [_], g3, _, _ => simp [chkEs] at g3
    | [_, _], _ :: _ :: _ :: _, g3, _, _ => simp [chkEs] at g3
  | .rvs m a, sc, X, W, e, h, ok, G, tk => by
    refine plainB h rfl ?_
    simp only [chkE] at h
    split at h <;> try (cases h; done)
    rename_i e s0 q0
    obtain ⟨pos, rfl⟩ := sub1_eq q0
    simp only [Bool.and_eq_true] at h
    simp only [okE] at ok
    obtain ⟨hr, h2⟩ := h
    unfold rev1 at hr
    split at hr <;> try (cases hr; done)
    refine PE.imp (pe_revL (soundE a sc X W _ h2 ok G tk).1) fun σ H Q q => ?_
    obtain ⟨R, μ, h, env, S, Ev, p⟩ := q
    simp only [evE] at p
    refine ⟨R, μ, h, env, S, Ev, p.bind.imp fun d1 h1 μ1 H1 e1 S1 p1 v1 r1 => ?_⟩
    split at p1
    · rename_i ds q
      obtain ⟨b, xs, rfl, sq, ra⟩ := r1.lst_of S1 q
      exact ⟨b, xs, rfl, SqL.of sq, lst_ok S1 ra.reverse p1⟩
    · exact p1.elim
theorem soundDs : ∀ (cs : List E) (sc : Scope) (X : Cx) (W : WX) (ks : List (Option Expr)) (vs : List Expr) (pos : Pos), chkDs X.N sc cs ks vs = true → okEs (gam X k) cs → Good k sc X → Takes X W → PPs X pos ks vs (trsE X W cs) ∧ ks.all (·.isSome) = true ∧ cs.length % 2 = 0
  | [], sc, X, W, ks, vs, pos, h, ok, G, tk => by
    cases ks with
    | cons _ _ => simp [chkDs] at h
    | nil =>
      cases vs with
      | cons _ _ => simp [chkDs] at h
      | nil => exact ⟨pps_nil, rfl, rfl⟩
  | [_], sc, X, W, ks, vs, pos, h, ok, G, tk => by cases ks <;> cases vs <;> simp [chkDs] at h
  | a :: b :: cs, sc, X, W, ks, vs, pos, h, ok, G, tk => by
    cases ks with
    | nil => cases vs <;> simp [chkDs] at h
    | cons o ks =>
      cases o with
      | none => cases vs <;> simp [chkDs] at h
      | some e =>
        cases vs with
        | nil => simp [chkDs] at h
        | cons f vs =>
          simp only [chkDs, Bool.and_eq_true] at h
          simp only [okEs] at ok
          obtain ⟨i1, i2, i3⟩ := soundDs cs sc X W ks vs pos h.2 ok.2.2 G tk
          refine ⟨pps_cons (soundE a sc X W _ h.1.1 ok.1 G tk).1 (soundE b sc X W _ h.1.2 ok.2.1 G tk).1 i1, by simpa using i2, by simp only [List.length_cons]; omega⟩
theorem soundEs : ∀ (cs : List E) (sc : Scope) (X : Cx) (W : WX) (es : List Expr), chkEs X.N sc cs es = true → okEs (gam X k) cs → Good k sc X → Takes X W → PA X es (rdEs X W cs)
  | [], sc, X, W, es, h, ok, G, tk => by
    cases es with
    | nil =>
      refine PA.imp pa_nil fun σ H Q q => ?_
      obtain ⟨R, μ, h, env, S, Ev, p⟩ := q
      exact p μ H Ext.refl S [] (by simp [Reps])
    | cons _ _ => simp [chkEs] at h
  | c :: cs, sc, X, W, es, h, ok, G, tk => by
    cases es with
    | nil => simp [chkEs] at h
    | cons e es =>
      simp only [chkEs, Bool.and_eq_true, Bool.not_eq_true'] at h
      simp only [okEs] at ok
      refine PA.imp (pa_cons (soundE c sc X W _ h.1.2 ok.1 G tk).1 (soundEs cs sc X W _ h.2 ok.2 G tk) (noStar_star h.1.1)) fun σ H Q q => ?_
      obtain ⟨R, μ, h, env, S, Ev, p⟩ := q
      simp only [evEs] at p
      refine ⟨R, μ, h, env, S, Ev, p.bind.imp fun d1 h1 μ1 H1 e1 S1 p1 v1 r1 => ?_⟩
      refine ⟨R, μ1, h1, env, S1, Ev.mono S e1, p1.bind.imp fun ds h2 μ2 H2 e2 S2 p2 vs r2 => ?_⟩
      refine p2 μ2 H2 Ext.refl S2 (v1 :: vs) ?_
      simp only [Reps]
      exact ⟨v1, vs, rfl, Rep.mono S1 e2 _ _ r1, r2⟩
theorem soundAnd : ∀ (cs : List E) (sc : Scope) (X : Cx) (W : WX) (es : List Expr) (pos : Pos), chkEs X.N sc cs es = true → okEs (gam X k) cs → Good k sc X → Takes X W → PE X (.BoolOp .And es pos) (rdAnd X W cs)
  | [], sc, X, W, es, pos, h, ok, G, tk => ⟨fun pins s σ H Q I q => by obtain ⟨R, μ, h, env, S, Ev, p⟩ := q; exact (show False from p).elim⟩
  | [c], sc, X, W, es, pos, h, ok, G, tk => by
    cases es with
    | nil => simp [chkEs] at h
    | cons e es =>
      simp only [chkEs, Bool.and_eq_true, Bool.not_eq_true'] at h
      simp only [okEs] at ok
      cases es with
      | cons _ _ => simp [chkEs] at h
      | nil =>
        refine PE.imp (pe_one (soundE c sc X W _ h.1.2 ok.1 G tk).1) fun σ H Q q => ?_
        obtain ⟨R, μ, h, env, S, Ev, p⟩ := q
        simp only [evAnd] at p
        exact ⟨R, μ, h, env, S, Ev, p⟩
  | c :: c2 :: cs, sc, X, W, es, pos, h, ok, G, tk => by
    cases es with
    | nil => simp [chkEs] at h
    | cons e es =>
      rw [chkEs] at h
      simp only [Bool.and_eq_true, Bool.not_eq_true'] at h
      rw [okEs] at ok
      cases es with
      | nil => simp [chkEs] at h
      | cons e2 es =>
        refine PE.imp (pe_and (soundE c sc X W _ h.1.2 ok.1 G tk).1 (soundAnd (c2 :: cs) sc X W _ pos h.2 ok.2 G tk)) fun σ H Q q => ?_
        obtain ⟨R, μ, h, env, S, Ev, p⟩ := q
        simp only [evAnd] at p
        refine ⟨R, μ, h, env, S, Ev, p.bind.imp fun d1 h1 μ1 H1 e1 S1 p1 v1 r1 => ?_⟩
        split at p1
        · cases repB.mp r1
          exact ⟨true, rfl, by rw [if_pos rfl]; exact ⟨R, μ1, h1, env, S1, Ev.mono S e1, p1⟩⟩
        · cases repB.mp r1
          exact ⟨false, rfl, by rw [if_neg Bool.false_ne_true]; exact p1.bl S1⟩
        · exact p1.elim
theorem soundOr : ∀ (cs : List E) (sc : Scope) (X : Cx) (W : WX) (es : List Expr) (pos : Pos), chkEs X.N sc cs es = true → okEs (gam X k) cs → Good k sc X → Takes X W → PE X (.BoolOp .Or es pos) (rdOr X W cs)
  | [], sc, X, W, es, pos, h, ok, G, tk => ⟨fun pins s σ H Q I q => by obtain ⟨R, μ, h, env, S, Ev, p⟩ := q; exact (show False from p).elim⟩
  | [c], sc, X, W, es, pos, h, ok, G, tk => by
    cases es with
    | nil => simp [chkEs] at h
    | cons e es =>
      simp only [chkEs, Bool.and_eq_true, Bool.not_eq_true'] at h
      simp only [okEs] at ok
      cases es with
      | cons _ _ => simp [chkEs] at h
      | nil =>
        refine PE.imp (pe_one (soundE c sc X W _ h.1.2 ok.1 G tk).1) fun σ H Q q => ?_
        obtain ⟨R, μ, h, env, S, Ev, p⟩ := q
        simp only [evOr] at p
        exact ⟨R, μ, h, env, S, Ev, p⟩
  | c :: c2 :: cs, sc, X, W, es, pos, h, ok, G, tk => by
    cases es with
    | nil => simp [chkEs] at h
    | cons e es =>
      rw [chkEs] at h
      simp only [Bool.and_eq_true, Bool.not_eq_true'] at h
      rw [okEs] at ok
      cases es with
      | nil => simp [chkEs] at h
      | cons e2 es =>
        refine PE.imp (pe_or (soundE c sc X W _ h.1.2 ok.1 G tk).1 (soundOr (c2 :: cs) sc X W _ pos h.2 ok.2 G tk)) fun σ H Q q => ?_
        obtain ⟨R, μ, h, env, S, Ev, p⟩ := q
        simp only [evOr] at p
        refine ⟨R, μ, h, env, S, Ev, p.bind.imp fun d1 h1 μ1 H1 e1 S1 p1 v1 r1 => ?_⟩
        split at p1
        · cases repB.mp r1
          exact ⟨false, rfl, by rw [if_neg Bool.false_ne_true]; exact ⟨R, μ1, h1, env, S1, Ev.mono S e1, p1⟩⟩
        · cases repB.mp r1
          exact ⟨true, rfl, by rw [if_pos rfl]; exact p1.bl S1⟩
        · exact p1.elim
theorem soundAndT : ∀ (cs : List E) (sc : Scope) (X : Cx) (W : WX) (es : List Expr) (pos : Pos), chkEs X.N sc cs es = true → okEs (gam X k) cs → Good k sc X → Takes X W → PW X (.BoolOp .And es pos) (rdAndT X W cs)
  | [], sc, X, W, es, pos, h, ok, G, tk => ⟨fun wh pins s σ H Q I q => by obtain ⟨R, μ, h, env, S, Ev, p⟩ := q; exact (show False from p).elim⟩
  | [c], sc, X, W, es, pos, h, ok, G, tk => by
    cases es with
    | nil => simp [chkEs] at h
    | cons e es =>
      simp only [chkEs, Bool.and_eq_true, Bool.not_eq_true'] at h
      simp only [okEs] at ok
      cases es with
      | cons _ _ => simp [chkEs] at h
      | nil =>
        refine PW.imp (pw_and1 (soundE c sc X W _ h.1.2 ok.1 G tk).2) fun σ H Q q => ?_
        obtain ⟨R, μ, h, env, S, Ev, p⟩ := q
        simp only [evAnd] at p
        exact ⟨R, μ, h, env, S, Ev, p⟩
  | c :: c2 :: cs, sc, X, W, es, pos, h, ok, G, tk => by
    cases es with
    | nil => simp [chkEs] at h
    | cons e es =>
      rw [chkEs] at h
      simp only [Bool.and_eq_true, Bool.not_eq_true'] at h
      rw [okEs] at ok
      cases es with
      | nil => simp [chkEs] at h
      | cons e2 es => exact PW.imp (pw_and (soundE c sc X W _ h.1.2 ok.1 G tk).2 (soundAndT (c2 :: cs) sc X W _ pos h.2 ok.2 G tk)) fun σ H Q q => andT_cons q
theorem soundOrT : ∀ (cs : List E) (sc : Scope) (X : Cx) (W : WX) (es : List Expr) (pos : Pos), chkEs X.N sc cs es = true → okEs (gam X k) cs → Good k sc X → Takes X W → PW X (.BoolOp .Or es pos) (rdOrT X W cs)
  | [], sc, X, W, es, pos, h, ok, G, tk => ⟨fun wh pins s σ H Q I q => by obtain ⟨R, μ, h, env, S, Ev, p⟩ := q; exact (show False from p).elim⟩
  | [c], sc, X, W, es, pos, h, ok, G, tk => by
    cases es with
    | nil => simp [chkEs] at h
    | cons e es =>
      simp only [chkEs, Bool.and_eq_true, Bool.not_eq_true'] at h
      simp only [okEs] at ok
      cases es with
      | cons _ _ => simp [chkEs] at h
      | nil =>
        refine PW.imp (pw_or1 (soundE c sc X W _ h.1.2 ok.1 G tk).2) fun σ H Q q => ?_
        obtain ⟨R, μ, h, env, S, Ev, p⟩ := q
        simp only [evOr] at p
        exact ⟨R, μ, h, env, S, Ev, p⟩
  | c :: c2 :: cs, sc, X, W, es, pos, h, ok, G, tk => by
    cases es with
    | nil => simp [chkEs] at h
    | cons e es =>
      rw [chkEs] at h
      simp only [Bool.and_eq_true, Bool.not_eq_true'] at h
      rw [okEs] at ok
      cases es with
      | nil => simp [chkEs] at h
      | cons e2 es => exact PW.imp (pw_or (soundE c sc X W _ h.1.2 ok.1 G tk).2 (soundOrT (c2 :: cs) sc X W _ pos h.2 ok.2 G tk)) fun σ H Q q => orT_cons q
theorem soundO : ∀ (c : E) (sc : Scope) (X : Cx) (W : WX) (e : Option Expr), chkO X.N sc c e = true → okE (gam X k) c → Good k sc X → Takes X W → PO X e (rdO X W c)
  | .noe, sc, X, W, e, h, ok, G, tk => by
    cases e with
    | some _ => simp [chkO] at h
    | none =>
      refine PO.imp po_none fun σ H Q q => ?_
      obtain ⟨R, μ, h, env, S, Ev, p⟩ := q
      exact p μ H Ext.refl S
  | .itv c, sc, X, W, e, h, ok, G, tk => by
    cases e with
    | none => simp [chkO] at h
    | some e =>
      simp only [chkO] at h
      simp only [okE] at ok
      refine PO.imp (po_some (soundE c sc X W _ h ok G tk).1) fun σ H Q q => ?_
      obtain ⟨R, μ, h, env, S, Ev, p⟩ := q
      simp only [evO] at p
      refine ⟨R, μ, h, env, S, Ev, p.bind.imp fun d1 h1 μ1 H1 e1 S1 p1 v1 r1 => ?_⟩
      split at p1
      · cases repI.mp r1
        exact ⟨_, rfl, p1 μ1 H1 Ext.refl S1⟩
      · exact p1.elim
  | .var _, sc, X, W, e, h, ok, G, tk => by simp [chkO] at h
  | .cst _, sc, X, W, e, h, ok, G, tk => by simp [chkO] at h
  | .glob .., sc, X, W, e, h, ok, G, tk => by simp [chkO] at h
  | .tup _, sc, X, W, e, h, ok, G, tk => by simp [chkO] at h
  | .lst .., sc, X, W, e, h, ok, G, tk => by simp [chkO] at h
  | .bin .., sc, X, W, e, h, ok, G, tk => by simp [chkO] at h
  | .neg _, sc, X, W, e, h, ok, G, tk => by simp [chkO] at h
  | .not _, sc, X, W, e, h, ok, G, tk => by simp [chkO] at h
  | .and _, sc, X, W, e, h, ok, G, tk => by simp [chkO] at h
  | .or _, sc, X, W, e, h, ok, G, tk => by simp [chkO] at h
  | .cmp .., sc, X, W, e, h, ok, G, tk => by simp [chkO] at h
  | .chn .., sc, X, W, e, h, ok, G, tk => by simp [chkO] at h
  | .ite .., sc, X, W, e, h, ok, G, tk => by simp [chkO] at h
  | .idx .., sc, X, W, e, h, ok, G, tk => by simp [chkO] at h
  | .slc .., sc, X, W, e, h, ok, G, tk => by simp [chkO] at h
  | .isi .., sc, X, W, e, h, ok, G, tk => by simp [chkO] at h
  | .bui .., sc, X, W, e, h, ok, G, tk => by simp [chkO] at h
  | .met .., sc, X, W, e, h, ok, G, tk => by simp [chkO] at h
  | .cal .., sc, X, W, e, h, ok, G, tk => by simp [chkO] at h
  | .lcp .., sc, X, W, e, h, ok, G, tk => by simp [chkO] at h
  | .rng _, sc, X, W, e, h, ok, G, tk => by simp [chkO] at h
  | .dsp .., sc, X, W, e, h, ok, G, tk => by simp [chkO] at h
  | .ds1 .., sc, X, W, e, h, ok, G, tk => by simp [chkO] at h
  | .tix .., sc, X, W, e, h, ok, G, tk => by simp [chkO] at h
  | .lrg .., sc, X, W, e, h, ok, G, tk => by simp [chkO] at h
  | .att .., sc, X, W, e, h, ok, G, tk => by simp [chkO] at h
  | .mca .., sc, X, W, e, h, ok, G, tk => by simp [chkO] at h
  | .prp .., sc, X, W, e, h, ok, G, tk => by simp [chkO] at h
  | .mk .., sc, X, W, e, h, ok, G, tk => by simp [chkO] at h
  | .rvs .., sc, X, W, e, h, ok, G, tk => by simp [chkO] at h
  | .zip .., sc, X, W, e, h, ok, G, tk => by simp [chkO] at h
  | .enm .., sc, X, W, e, h, ok, G, tk => by simp [chkO] at h
  | .bad, sc, X, W, e, h, ok, G, tk => by simp [chkO] at h
theorem soundI : ∀ (c : E) (sc : Scope) (X : Cx) (W : WX) (tg : Expr) (e : Expr), chkI X.N sc c e = true → (!itTup c || isTupE tg) = true → okE (gam X k) c → Good k sc X → Takes X W → PI X tg e (rdI X W c)
  | .itv c, sc, X, W, tg, e, h, ht, ok, G, tk => by
    simp only [chkI] at h
    simp only [okE] at ok
    have pe := (soundE c sc X W _ h ok G tk).1
    refine ⟨fun pins s σ H P I q => ?_⟩
    obtain ⟨R, μ, h, env, S, Ev, p⟩ := q
    simp only [evI] at p
    -- which kind of value comes
    have go : ∀ {wi : TI}, PI X tg e wi → wi σ H P → wpAny (model X.prog X.w) X.A (eval e X.env) (fun v s1 => wpAny (model X.prog X.w) X.A (pyIter v) (PIE X pins σ tg P) X.xe s1) X.xe s := fun hp hw => hp.run pins s σ H P I hw
    have at_ : ∀ {d h1}, evE c env h = .ok d h1 → ∀ {Q : VK}, (∀ μ1 H1 v, Ext h.length μ H (List.length (h1 : LH)) μ1 H1 → SimH X.K R μ1 H1 h1 → Rep X.K R h1.length μ1 H1 d v → Q v H1) → rdE X W c σ H Q := fun {d h1} e {Q} f => by
      refine ⟨R, μ, h, env, S, Ev, ?_⟩
      show Post _ _ _ _ _ _ _ _ (evE c env h)
      rw [e]
      exact fun μ1 H1 e1 S1 v r => f μ1 H1 v e1 S1 r
    cases e : evE c env h with
    | no => rw [e] at p; exact p.elim
    | ex x h1 =>
      rw [e] at p
      refine go (pi_tup pe) ⟨R, μ, h, env, S, Ev, ?_⟩
      show Post _ _ _ _ _ _ _ _ (evE c env h)
      rw [e]
      exact p
    | ok d h1 =>
      rw [e] at p
      simp only [Res.bind] at p
      split at p
      · rename_i src q
        obtain ⟨src, items⟩ := src
        cases d with
        | tup ds =>
          refine go (pi_tup pe) (at_ e fun μ1 H1 v e1 S1 r => ?_)
          rcases seqSrc_wk S1 r q with ⟨a, rfl, ⟨xs, sq⟩, _, wk⟩ | ⟨a, rfl, _, hl, wk⟩ | ⟨x, rfl, hx, wk⟩
          · exact ⟨a, rfl, ⟨xs, sq⟩, p μ1 H1 e1 S1 _ wk⟩
          · simp [asL] at hl
          · cases hx
        | str z =>
          refine go (pi_str pe) (at_ e fun μ1 H1 v e1 S1 r => ?_)
          rcases seqSrc_wk S1 r q with ⟨a, rfl, _, ⟨ds, hd⟩, wk⟩ | ⟨a, rfl, _, hl, wk⟩ | ⟨x, rfl, hx, wk⟩
          · cases hd
          · simp [asL] at hl
          · exact ⟨x, rfl, p μ1 H1 e1 S1 _ wk⟩
        | _ =>
          refine go (pi_list pe) (at_ e fun μ1 H1 v e1 S1 r => ?_)
          rcases seqSrc_wk S1 r q with ⟨a, rfl, _, ⟨ds, hd⟩, wk⟩ | ⟨a, rfl, ⟨xs, sq⟩, _, wk⟩ | ⟨x, rfl, hx, wk⟩
          · cases hd
          · exact ⟨a, rfl, ⟨xs, sq⟩, p μ1 H1 e1 S1 _ wk⟩
          · cases hx
      · exact p.elim
  | .rng [a], sc, X, W, tg, e, h, ht, ok, G, tk => by
    simp only [chkI] at h
    split at h <;> try (cases h; done)
    rename_i n fs q0
    obtain ⟨p1, pos, rfl⟩ := calN_eq q0
    simp only [Bool.and_eq_true, decide_eq_true_eq] at h
    obtain ⟨⟨⟨rfl, h2⟩, h3⟩, h4⟩ := h
    simp only [okE, okEs] at ok
    cases fs with
    | nil => simp [chkEs] at h3
    | cons x fs =>
      simp only [chkEs, Bool.and_eq_true, Bool.not_eq_true'] at h3
      cases fs with
      | cons _ _ => simp [chkEs] at h3
      | nil =>
        have pa := (soundE a sc X W _ h3.1.2 ok.1 G tk).1
        refine PI.imp (pi_range1 (glB_ok h2 G.hsc) (G.nb _ (by decide +kernel)) (pa_cons pa pa_nil (noStar_star h3.1.1)) (noStar_star h3.1.1)) fun σ H P q => ?_
        obtain ⟨R, μ, h, env, S, Ev, p⟩ := q
        simp only [evI] at p
        refine ⟨R, μ, h, env, S, Ev, p.bind.imp fun d1 h1 μ1 H1 e1 S1 p1 v1 r1 => ?_⟩
        split at p1
        · rename_i l q
          unfold rangeItems at q
          split at q
          · rename_i j q5
            cases q5
            split at q
            · rename_i c
              cases q
              cases repI.mp r1
              refine ⟨j, rfl, c.1, c.2, p1 μ1 H1 Ext.refl S1 _ ?_⟩
              have w := wk_rng (K := X.K) (R := R) (μ := μ1) (H := H1) (h := h1) (lo := 0) (n := j.toNat)
              simpa using w
            · cases q
          · rename_i q5; cases q5
          · cases q
        · exact p1.elim
  | .rng [a, b], sc, X, W, tg, e, h, ht, ok, G, tk => by
    simp only [chkI] at h
    split at h <;> try (cases h; done)
    rename_i n fs q0
    obtain ⟨p1, pos, rfl⟩ := calN_eq q0
    simp only [Bool.and_eq_true, decide_eq_true_eq] at h
    obtain ⟨⟨⟨rfl, h2⟩, h3⟩, h4⟩ := h
    simp only [okE, okEs] at ok
    cases fs with
    | nil => simp [chkEs] at h3
    | cons x fs =>
      cases fs with
      | nil => simp [chkEs] at h3
      | cons y fs =>
        simp only [chkEs, Bool.and_eq_true, Bool.not_eq_true'] at h3
        cases fs with
        | cons _ _ => simp [chkEs] at h3
        | nil =>
          have pa := (soundE a sc X W _ h3.1.2 ok.1 G tk).1
          have pb := (soundE b sc X W _ h3.2.1.2 ok.2.1 G tk).1
          have hy := noStar_star (env := X.env) (es := []) h3.2.1.1
          refine PI.imp (pi_range2 (glB_ok h2 G.hsc) (G.nb _ (by decide +kernel)) (pa_cons pa (pa_cons pb pa_nil hy) (noStar_star h3.1.1)) (by rw [noStar_star h3.1.1, hy]; rfl) hy) fun σ H P q => ?_
          obtain ⟨R, μ, h, env, S, Ev, p⟩ := q
          simp only [evI] at p
          refine ⟨R, μ, h, env, S, Ev, p.bind.imp fun d1 h1 μ1 H1 e1 S1 p1 v1 r1 => ?_⟩
          refine ⟨R, μ1, h1, env, S1, Ev.mono S e1, p1.bind.imp fun d2 h2 μ2 H2 e2 S2 p2 v2 r2 => ?_⟩
          split at p2
          · rename_i l q
            unfold rangeItems at q
            split at q
            · rename_i q5; cases q5
            · rename_i i j q5
              cases q5
              split at q
              · rename_i c
                cases q
                cases repI.mp (Rep.mono S1 e2 _ _ r1)
                cases repI.mp r2
                exact ⟨i, j, rfl, c, p2 μ2 H2 Ext.refl S2 _ wk_rng⟩
              · cases q
            · cases q
          · exact p2.elim
  | .rng [], sc, X, W, tg, e, h, ht, ok, G, tk => by
    simp only [chkI] at h
    split at h <;> try (cases h; done)
    simp at h
  | .rng [a, b, c], sc, X, W, tg, e, h, ht, ok, G, tk => by
    simp only [chkI] at h
    split at h <;> try (cases h; done)
    rename_i n fs q0
    obtain ⟨p1, pos, rfl⟩ := calN_eq q0
    simp only [Bool.and_eq_true, decide_eq_true_eq] at h
    obtain ⟨⟨⟨rfl, h2⟩, h3⟩, h4⟩ := h
    simp only [okE, okEs] at ok
    cases fs with
    | nil => simp [chkEs] at h3
    | cons x fs =>
      cases fs with
      | nil => simp [chkEs] at h3
      | cons y fs =>
        cases fs with
        | nil => simp [chkEs] at h3
        | cons z fs =>
          simp only [chkEs, Bool.and_eq_true, Bool.not_eq_true'] at h3
          cases fs with
          | cons _ _ => simp [chkEs] at h3
          | nil =>
            have pa := (soundE a sc X W _ h3.1.2 ok.1 G tk).1
            have pb := (soundE b sc X W _ h3.2.1.2 ok.2.1 G tk).1
            have pc := (soundE c sc X W _ h3.2.2.1.2 ok.2.2.1 G tk).1
            have hz := noStar_star (env := X.env) (es := []) h3.2.2.1.1
            have hy := noStar_star (env := X.env) (es := [z]) h3.2.1.1
            refine PI.imp (pi_range3 (glB_ok h2 G.hsc) (G.nb _ (by decide +kernel)) (pa_cons pa (pa_cons pb (pa_cons pc pa_nil hz) hy) (noStar_star h3.1.1)) (noStar_star h3.1.1) (by rw [hy, hz]; rfl)) fun σ H P q => ?_
            obtain ⟨R, μ, h, env, S, Ev, p⟩ := q
            simp only [evI] at p
            refine ⟨R, μ, h, env, S, Ev, p.bind.imp fun d1 h1 μ1 H1 e1 S1 p1 v1 r1 => ?_⟩
            refine ⟨R, μ1, h1, env, S1, Ev.mono S e1, p1.bind.imp fun d2 h2 μ2 H2 e2 S2 p2 v2 r2 => ?_⟩
            refine ⟨R, μ2, h2, env, S2, (Ev.mono S e1).mono S1 e2, p2.bind.imp fun d3 h3 μ3 H3 e3 S3 p3 v3 r3 => ?_⟩
            split at p3
            · rename_i i j g
              split at p3
              · rename_i c
                obtain ⟨rfl, c1, c2, c3, c4⟩ := c
                cases repI.mp (Rep.mono S2 e3 _ _ (Rep.mono S1 e2 _ _ r1))
                cases repI.mp (Rep.mono S2 e3 _ _ r2)
                cases repI.mp r3
                exact ⟨i, j, -1, (i - j).toNat, rfl, RgC.neg c1 c2 c3 c4, p3 μ3 H3 Ext.refl S3 _ wk_rngC⟩
              · exact p3.elim
            · exact p3.elim
  | .rng (_ :: _ :: _ :: _ :: _), sc, X, W, tg, e, h, ht, ok, G, tk => by
    simp only [chkI] at h
    split at h <;> try (cases h; done)
    simp at h
  | .enm a, sc, X, W, tg, e, h, ht, ok, G, tk => by
    simp only [chkI] at h
    split at h <;> try (cases h; done)
    rename_i n x q0
    obtain ⟨p1, pos, rfl⟩ := calN_eq q0
    simp only [Bool.and_eq_true, decide_eq_true_eq, Bool.not_eq_true'] at h
    obtain ⟨⟨⟨rfl, h2⟩, h3⟩, h4⟩ := h
    simp only [okE] at ok
    obtain ⟨fs, kk, tpos, rfl⟩ := isTupE_eq (by simpa [itTup] using ht)
    have pa := (soundE a sc X W _ h3 ok G tk).1
    refine PI.imp (pi_enB (glB_ok h2 G.hsc) (G.nb _ (by decide +kernel)) (pa_cons pa pa_nil (noStar_star h4)) (noStar_star h4)) fun σ H P q => ?_
    obtain ⟨R, μ, h, env, S, Ev, p⟩ := q
    simp only [evI] at p
    refine ⟨R, μ, h, env, S, Ev, p.bind.imp fun d1 h1 μ1 H1 e1 S1 p1 v1 r1 => ?_⟩
    split at p1
    · rename_i src q
      split at p1
      · rename_i hl
        obtain ⟨t, a, rfl, ⟨xs, sq⟩, w⟩ := sqw_of S1 r1 q hl
        exact ⟨t, a, xs, rfl, sq, p1 μ1 H1 Ext.refl S1 _ (wk_enB w)⟩
      · exact p1.elim
    · exact p1.elim
  | .zip a b, sc, X, W, tg, e, h, ht, ok, G, tk => by
    simp only [chkI] at h
    split at h <;> try (cases h; done)
    rename_i n x y q0
    obtain ⟨p1, pos, rfl⟩ := calN_eq q0
    simp only [Bool.and_eq_true, decide_eq_true_eq, Bool.not_eq_true'] at h
    obtain ⟨⟨⟨⟨⟨rfl, h2⟩, h3⟩, h4⟩, h5⟩, h6⟩ := h
    simp only [okE] at ok
    obtain ⟨fs, kk, tpos, rfl⟩ := isTupE_eq (by simpa [itTup] using ht)
    have pa := (soundE a sc X W _ h3 ok.1 G tk).1
    have pb := (soundE b sc X W _ h4 ok.2 G tk).1
    have hy := noStar_star (env := X.env) (es := []) h6
    refine PI.imp (pi_zpB (glB_ok h2 G.hsc) (G.nb _ (by decide +kernel)) (pa_cons pa (pa_cons pb pa_nil hy) (noStar_star h5)) (noStar_star h5) (by rw [hy]; rfl)) fun σ H P q => ?_
    obtain ⟨R, μ, h, env, S, Ev, p⟩ := q
    simp only [evI] at p
    refine ⟨R, μ, h, env, S, Ev, p.bind.imp fun d1 h1 μ1 H1 e1 S1 p1 v1 r1 => ?_⟩
    refine ⟨R, μ1, h1, env, S1, Ev.mono S e1, p1.bind.imp fun d2 h2 μ2 H2 e2 S2 p2 v2 r2 => ?_⟩
    split at p2
    · rename_i sa sb qa qb
      split at p2
      · rename_i hl
        obtain ⟨t1, a1, rfl, ⟨xs, sq⟩, w1⟩ := sqw_of S2 (Rep.mono S1 e2 _ _ r1) qa hl.1
        obtain ⟨t2, a2, rfl, ⟨ys, sq2⟩, w2⟩ := sqw_of S2 r2 qb hl.2
        exact ⟨t1, t2, a1, a2, xs, ys, rfl, sq, sq2, p2 μ2 H2 Ext.refl S2 _ (wk_zpB w1 w2)⟩
      · exact p2.elim
    · exact p2.elim
  | .dsp .., sc, X, W, tg, e, h, ht, ok, G, tk => by simp [chkI] at h
  | .ds1 .., sc, X, W, tg, e, h, ht, ok, G, tk => by simp [chkI] at h
  | .tix .., sc, X, W, tg, e, h, ht, ok, G, tk => by simp [chkI] at h
  | .lrg .., sc, X, W, tg, e, h, ht, ok, G, tk => by simp [chkI] at h
  | .att .., sc, X, W, tg, e, h, ht, ok, G, tk => by simp [chkI] at h
  | .mca .., sc, X, W, tg, e, h, ht, ok, G, tk => by simp [chkI] at h
  | .prp .., sc, X, W, tg, e, h, ht, ok, G, tk => by simp [chkI] at h
  | .mk .., sc, X, W, tg, e, h, ht, ok, G, tk => by simp [chkI] at h
  | .rvs .., sc, X, W, tg, e, h, ht, ok, G, tk => by simp [chkI] at h
  | .bad, sc, X, W, tg, e, h, ht, ok, G, tk => by simp [chkI] at h
  | .var _, sc, X, W, tg, e, h, ht, ok, G, tk => by simp [chkI] at h
  | .cst _, sc, X, W, tg, e, h, ht, ok, G, tk => by simp [chkI] at h
  | .glob .., sc, X, W, tg, e, h, ht, ok, G, tk => by simp [chkI] at h
  | .tup _, sc, X, W, tg, e, h, ht, ok, G, tk => by simp [chkI] at h
  | .lst .., sc, X, W, tg, e, h, ht, ok, G, tk => by simp [chkI] at h
  | .bin .., sc, X, W, tg, e, h, ht, ok, G, tk => by simp [chkI] at h
  | .neg _, sc, X, W, tg, e, h, ht, ok, G, tk => by simp [chkI] at h
  | .not _, sc, X, W, tg, e, h, ht, ok, G, tk => by simp [chkI] at h
  | .and _, sc, X, W, tg, e, h, ht, ok, G, tk => by simp [chkI] at h
  | .or _, sc, X, W, tg, e, h, ht, ok, G, tk => by simp [chkI] at h
  | .cmp .., sc, X, W, tg, e, h, ht, ok, G, tk => by simp [chkI] at h
  | .chn .., sc, X, W, tg, e, h, ht, ok, G, tk => by simp [chkI] at h
  | .ite .., sc, X, W, tg, e, h, ht, ok, G, tk => by simp [chkI] at h
  | .idx .., sc, X, W, tg, e, h, ht, ok, G, tk => by simp [chkI] at h
  | .slc .., sc, X, W, tg, e, h, ht, ok, G, tk => by simp [chkI] at h
  | .noe, sc, X, W, tg, e, h, ht, ok, G, tk => by simp [chkI] at h
  | .isi .., sc, X, W, tg, e, h, ht, ok, G, tk => by simp [chkI] at h
  | .bui .., sc, X, W, tg, e, h, ht, ok, G, tk => by simp [chkI] at h
  | .met .., sc, X, W, tg, e, h, ht, ok, G, tk => by simp [chkI] at h
  | .cal .., sc, X, W, tg, e, h, ht, ok, G, tk => by simp [chkI] at h
  | .lcp .., sc, X, W, tg, e, h, ht, ok, G, tk => by simp [chkI] at h
theorem soundC : ∀ (cs : List E) (sc : Scope) (X : Cx) (W : WX) (es : List Expr), chkC X.N sc cs es = true → okEs (gam X k) cs → Good k sc X → Takes X W → PTs X es (rdC X W cs)
  | [], sc, X, W, es, h, ok, G, tk => by
    cases es with
    | cons _ _ => simp [chkC] at h
    | nil =>
      exact ⟨fun pins s σ H Q I q => pts_nil.run pins s σ H Q I (by
        obtain ⟨R, μ, h, env, S, Ev, p⟩ := q
        exact p μ H Ext.refl S)⟩
  | [c], sc, X, W, es, h, ok, G, tk => by
    cases es with
    | nil => simp [chkC] at h
    | cons e es =>
    cases es with
    | cons _ _ => simp [chkC] at h
    | nil =>
    
    simp only [chkC] at h
    simp only [okEs] at ok
    exact ⟨fun pins s σ H Q I q => (pts_one (soundE c sc X W e h ok.1 G tk).2).run pins s σ H Q I (by
      obtain ⟨R, μ, h, env, S, Ev, p⟩ := q
      simp only [evC] at p
      exact ⟨R, μ, h, env, S, Ev, p⟩)⟩
  | _ :: _ :: _, sc, X, W, es, h, ok, G, tk => by cases es <;> simp [chkC] at h
end
end
end Ev
namespace Ev
open PySem L2
variable [Tabs]
def PostS (K : Fg) (mg : Mg) (W : WX) (R : Ap) (n : Nat) (μ : Nat → Addr) (H : Hp) (D : Ends) : RS → Prop
  | .nx env' h' => ∀ μ' H' σ', Ext n μ H h'.length μ' H' → SimH K R μ' H' h' → RepEnv K R h'.length μ' H' env' σ' → D.nx σ' H'
  | .rt d h' => ∀ μ' H' v, Ext n μ H h'.length μ' H' → SimH K R μ' H' h' → Rep K R h'.length μ' H' d v → D.rt v H'
  | .bk env' h' => ∀ μ' H' σ', Ext n μ H h'.length μ' H' → SimH K R μ' H' h' → RepEnv K R h'.length μ' H' env' σ' → D.bk σ' H'
  | .ct env' h' => ∀ μ' H' σ', Ext n μ H h'.length μ' H' → SimH K R μ' H' h' → RepEnv K R h'.length μ' H' env' σ' → D.ct σ' H'
  | .ex x env' h' => ∀ μ' H' σ' cls dx, Ext n μ H h'.length μ' H' → SimH K R μ' H' h' → RepEnv K R h'.length μ' H' env' σ' → RepX K mg R h'.length μ' H' x cls dx → W cls dx σ' H'
  | .no => False
def rdS (X : Cx) (W : WX) (F : Nat) (s : S) : TS := fun D σ H => In1 X σ H fun R μ h env => PostS X.K X.mg W R h.length μ H D (evS F s env h)
def rdSs (X : Cx) (W : WX) (F : Nat) (ss : List S) : TS := fun D σ H => In1 X σ H fun R μ h env => PostS X.K X.mg W R h.length μ H D (evSs F ss env h)
section
variable {K : Fg} {mg : Mg} {W : WX} {R : Ap} {n : Nat} {μ μ1 : Nat → Addr} {H H1 : Hp} {h h1 : LH} {D : Ends} {env : Env} {σ : L2.St}
theorem PostS.later {r : RS} (p : PostS K mg W R n μ H D r) (e : Ext n μ H h1.length μ1 H1) (S : SimH K R μ1 H1 h1) : PostS K mg W R h1.length μ1 H1 D r := by
  cases r with
  | nx env' h' => exact fun μ' H' σ' e' S' r' => p μ' H' σ' (e.trans S e') S' r'
  | rt d h' => exact fun μ' H' v e' S' r' => p μ' H' v (e.trans S e') S' r'
  | bk env' h' => exact fun μ' H' σ' e' S' r' => p μ' H' σ' (e.trans S e') S' r'
  | ct env' h' => exact fun μ' H' σ' e' S' r' => p μ' H' σ' (e.trans S e') S' r'
  | ex x env' h' => exact fun μ' H' σ' cls dx e' S' r' rx => p μ' H' σ' cls dx (e.trans S e') S' r' rx
  | no => exact p
theorem PostS.inS {α : Type} {r : Res α} {f : α → LH → RS} (S : SimH K R μ H h) (Ev : RepEnv K R h.length μ H env σ) (p : PostS K mg W R h.length μ H D (r.inS env f)) :
    Post K mg (fun cls d H' => W cls d σ H') R h.length μ H (fun a h1 μ1 H1 => PostS K mg W R h1.length μ1 H1 D (f a h1)) r := by
  cases r with
  | ok a h1 => exact fun μ1 H1 e1 S1 => PostS.later (r := f a h1) p e1 S1
  | ex x h1 => exact fun μ1 H1 cls dx e1 S1 rx => p μ1 H1 σ cls dx e1 S1 (Ev.mono S e1) rx
  | no => exact p
/-- other wishes, at least as strong -/
theorem PostS.imp {r : RS} {D' : Ends} {W' : WX} (p : PostS K mg W R n μ H D r) (hn : ∀ σ' H', D.nx σ' H' → D'.nx σ' H') (hr : ∀ v H', D.rt v H' → D'.rt v H') (hb : ∀ σ' H', D.bk σ' H' → D'.bk σ' H') (hc : ∀ σ' H', D.ct σ' H' → D'.ct σ' H')
    (hx : ∀ cls dx σ' H', W cls dx σ' H' → W' cls dx σ' H') : PostS K mg W' R n μ H D' r := by
  cases r with
  | nx env' h' => exact fun μ' H' σ' e' S' r' => hn _ _ (p μ' H' σ' e' S' r')
  | rt d h' => exact fun μ' H' v e' S' r' => hr _ _ (p μ' H' v e' S' r')
  | bk env' h' => exact fun μ' H' σ' e' S' r' => hb _ _ (p μ' H' σ' e' S' r')
  | ct env' h' => exact fun μ' H' σ' e' S' r' => hc _ _ (p μ' H' σ' e' S' r')
  | ex x env' h' => exact fun μ' H' σ' cls dx e' S' r' rx => hx _ _ _ _ (p μ' H' σ' cls dx e' S' r' rx)
  | no => exact p
end
/-- an exception class of the program, without an __init__ of its own -/
structure ExcD (Γ : Gam) (x : Str) : Prop where
  ex : ∃ C, Γ.mg x = some (.ref C) ∧ PySem.W.excIn Γ.K C [.type "ValueError", .type "Exception", .type "BaseException", .type "object"] "ValueError.__new__" = true ∧ PySem.W.keepIn Γ.K (.ref C) = true ∧
    PySem.W.subIn Γ.K (.ref C) (.type "BaseException") = some true ∧ PySem.W.typeIn Γ.K (.ref C) = some (.type "type")
structure ExcP (Γ : Gam) (x y : Str) : Prop where
  ex : ∃ C D, Γ.mg x = some (.ref C) ∧ Γ.mg y = some (.ref D) ∧ PySem.W.exmOne Γ.K (.ref C) (.ref D) = some (decide (x = y))
mutual
def okS (Γ : Gam) : S → Prop
  | .set _ e => okE Γ e
  | .sat c f o e => AttD Γ c f ∧ okE Γ o ∧ okE Γ e
  | .raiA x f e => ExcF Γ x f ∧ okE Γ e
  | .tryA b x _ f _ => okSs Γ b ∧ ExcH Γ x f
  | .bad => True
  | .unp _ e => okE Γ e
  | .stx o i e => okE Γ o ∧ okE Γ i ∧ okE Γ e
  | .exp e => okE Γ e
  | .ret e => okE Γ e
  | .retN => True
  | .ifs c a b => okE Γ c ∧ okSs Γ a ∧ okSs Γ b
  | .for_ _ it b => okE Γ it ∧ okSs Γ b
  | .whl c b => okE Γ c ∧ okSs Γ b
  | .rai x => ExcD Γ x
  | .tryS xs b hs => okSs Γ b ∧ (∀ x ∈ xs, ∀ p ∈ hs, ExcP Γ x p.1) ∧ (∀ p ∈ hs, ∃ C, Γ.mg p.1 = some (.ref C))
  | .pas => True
  | .brk => True
  | .cnt => True
def okSs (Γ : Gam) : List S → Prop
  | [] => True
  | s :: ss => okS Γ s ∧ okSs Γ ss
end
/-- .. for statements: a def's body -/
structure GoodS (k : Nat) (sc : Scope) (X : Cx) : Prop extends Good k sc X where
  own : PassesOwn (model X.prog X.w) X.A X.env X.xe
  stk : X.stack = X.env :: X.outer
  fr : X.env.frame = some X.env.locals
  fn : ∀ x, X.fn x = true
  knd : sc.kind = .function
section
variable {X : Cx} {k : Nat} {sc : Scope} {W : WX} {F : Nat}
theorem swaps_none {e : Expr} {tg : Option Expr} {l : Nat} {env : PySem.Env} (h : isCompE e = false) : swapsWith e tg l env = pure false := by
  cases e <;> first | rfl | (simp [isCompE] at h)
theorem sole {e tg : Expr} {l : Nat} {env : PySem.Env} (h : isCompE e = false) : swapsWithSole [tg] e l env = pure false := swaps_none h
theorem swaps_cell {e : Expr} {x : Str} {px : Pos} {l : Nat} (hx : X.env.scope.names.lookup x = some .cell) : swapsWith e (some (.Name x px)) l X.env = pure false := by
  have hk : (X.env.kindOf x == some NameKind.local) = false := by
    show (X.env.scope.names.lookup x == some NameKind.local) = false
    rw [hx]; rfl
  cases e <;> first
    | rfl
    | (unfold swapsWith
       simp only [hk, Bool.and_false, Bool.false_and])
theorem compSwap_ok {e : Expr} {x : Str} {px : Pos} {l : Nat} (hk : X.env.scope.kind = .function) (h : compSwap X.env.scope x px e = true) : swapsWith e (some (.Name x px)) l X.env = pure true := by
  cases e <;> simp only [compSwap, Bool.false_eq_true] at h
  rename_i elt gs scope pos
  simp only [Bool.and_eq_true, decide_eq_true_eq, Bool.not_eq_true'] at h
  exact sw_true hk h.1.1 h.1.2 h.2
theorem locB_ok {x : Str} (h : locB sc x = true) (e : X.env.scope = sc) : Loc X.env.scope x := by
  rw [e]
  unfold locB at h
  split at h
  · exact .inl (by assumption)
  · exact .inr (by assumption)
  · cases h
theorem noSwap_ok {ts vs : List Expr} {kt k2 : Nat} {pt p2 : Pos} (hk : X.env.scope.kind = .function) (h : noSwapB X.env.scope ts vs = true) : swappedStores [.Tuple ts kt pt] (.Tuple vs k2 p2) X.env = pure none := by
  have hb : X.env.blockKind = .function := by unfold Env.blockKind; rw [hk]; rfl
  unfold swappedStores
  simp only [hb]
  split
  · rfl
  · rename_i c1
    split
    · rfl
    · rename_i c2
      split
      · rfl
      · rename_i c3
        split
        · rfl
        · rename_i c4
          exfalso
          have c1' : ¬ ((!(ts.length == 2 || ts.length == 3) || vs.length != ts.length) = true) := fun z => c1 (by rw [z]; rfl)
          unfold noSwapB at h
          simp only [Bool.or_eq_true (_ || _ || _)] at h
          rcases Bool.or_eq_true _ _ ▸ h with h | h
          · rcases Bool.or_eq_true _ _ ▸ h with h | h
            · rcases Bool.or_eq_true _ _ ▸ h with h | h
              · exact c1' h
              · exact c2 h
            · exact c3 h
          · exact c4 h
theorem swap_ok {ts vs : List Expr} {kt k2 : Nat} {pt p2 : Pos} (hk : X.env.scope.kind = .function) (h : swapB X.env.scope ts vs = true) : swappedStores [.Tuple ts kt pt] (.Tuple vs k2 p2) X.env = pure (some (swNames X.env.scope ts)) := by
  have hb : X.env.blockKind = .function := by unfold Env.blockKind; rw [hk]; rfl
  unfold swapB at h
  simp only [Bool.and_eq_true, Bool.not_eq_true'] at h
  obtain ⟨⟨⟨⟨c1, c2⟩, c3⟩, c4⟩, c5⟩ := h
  unfold swappedStores
  simp only [hb]
  rw [if_neg (by rw [c1]; decide)]
  rw [if_neg (by intro z; exact absurd (c2.symm.trans z) (by decide))]
  rw [if_neg (by intro z; exact absurd (c3.symm.trans z) (by decide)), if_neg (by rw [c4]; decide), if_neg (by rw [c5]; decide)]
  rfl
theorem swNames2 {x y : Str} {px py : Pos} (h : (swNames sc [.Name x px, .Name y py]).length = 2) : swNames sc [.Name x px, .Name y py] = [x, y] ∧ sc.names.lookup x = some .local ∧ sc.names.lookup y = some .local := by
  unfold swNames at h ⊢
  simp only [List.filterMap_cons, List.filterMap_nil] at h ⊢
  split at h <;> split at h <;> simp_all
  rename_i ha hb
  exact ⟨ha.2 ▸ ha.1.1, hb.2 ▸ hb.1.1⟩
theorem swNames3 {x y z : Str} {px py pz : Pos} (h : (swNames sc [.Name x px, .Name y py, .Name z pz]).length = 3) : swNames sc [.Name x px, .Name y py, .Name z pz] = [x, y, z] ∧ sc.names.lookup x = some .local ∧ sc.names.lookup y = some .local ∧ sc.names.lookup z = some .local := by
  unfold swNames at h ⊢
  simp only [List.filterMap_cons, List.filterMap_nil] at h ⊢
  split at h <;> split at h <;> split at h <;> simp_all
  rename_i ha hb hc
  exact ⟨ha.2 ▸ ha.1.1, hb.2 ▸ hb.1.1, hc.2 ▸ hc.1.1⟩
theorem swap_len {ts vs : List Expr} (h : swapB sc ts vs = true) : (swNames sc ts).length = ts.length := by
  unfold swapB at h
  simp only [Bool.and_eq_true, Bool.not_eq_true', Bool.or_eq_false_iff] at h
  have := h.1.1.2.1
  simpa using this

theorem GoodS.tr (G : GoodS k sc X) (pn : List (Addr × Obj)) (xe : Value → Shared → Prop) (hp : PassesOwn (model X.prog X.w) X.A X.env xe) : GoodS k sc (X.tr pn xe) :=
  ⟨⟨G.nd, G.hsc, G.calm, ⟨G.room.hd, G.room.dp, G.room.un⟩, G.nb, G.hw⟩, hp, G.stk, G.fr, G.fn, G.knd⟩
/-- from here on, in the readings' form -/
theorem in1 {P : Ap → (Nat → Addr) → LH → Env → Prop} {σ : L2.St} {H : Hp} {R : Ap} {μ : Nat → Addr} {h : LH} {env : Env} (S : SimH X.K R μ H h) (Ev : RepEnv X.K R h.length μ H env σ) (p : P R μ h env) : In1 X σ H P := ⟨R, μ, h, env, S, Ev, p⟩
/-- one slot is stored -/
theorem set_fin {R : Ap} {μ : Nat → Addr} {H : Hp} {h : LH} {env : Env} {σ : L2.St} {i : Nat} {d : D} {v : V} {D : Ends} (S : SimH X.K R μ H h) (Ev : RepEnv X.K R h.length μ H env σ) (r : Rep X.K R h.length μ H d v)
    (p : PostS X.K X.mg W R h.length μ H D (if i < env.length then .nx (env.set i (some d)) h else .no)) : D.nx (σ.set i (some v)) H := by
  split at p
  · exact p μ H _ Ext.refl S (Ev.set r)
  · exact p.elim

theorem for_rd {t : T} {it : E} {b : List S} {D : Ends} {σ : L2.St} {H : Hp} (q : rdS X W F (.for_ t it b) D σ H) : tFor (rdI X W it) (rdG X t) (rdSs X W F b) D σ H := by
  obtain ⟨R, μ, h, env, S, Ev, p⟩ := q
  simp only [evS] at p
  refine ⟨R, μ, h, env, S, Ev, (p.inS S Ev).imp fun src h1 μ1 H1 e1 S1 p1 J wk => ?_⟩
  have Ev1 := Ev.mono S e1
  have hR : ∀ a, R a → R a ∨ H1 a = none := fun a r => .inl r
  refine ⟨fun i m σ' H' => m = src.2.length - i ∧ i ≤ src.2.length ∧ ∃ μ' h' env', Ext h1.length μ1 H1 (List.length (h' : LH)) μ' H' ∧ SimH X.K R μ' H' h' ∧ RepEnv X.K R h'.length μ' H' env' σ' ∧
      PostS X.K X.mg W R h1.length μ1 H1 D (forLoop src.1 t (fun env1 h2 => evSs F b env1 h2) (src.2.drop i) env' h'), ⟨src.2.length, by omega, Nat.zero_le _, μ1, h1, env, Ext.refl, S1, Ev1, p1⟩, ?_⟩
  rintro i m σ2 H2 ⟨rfl, hi, μ', h', env', e2, S2, Ev2, p2⟩
  by_cases hlt : i < src.2.length
  · refine .inr ?_
    rw [List.drop_eq_getElem_cons hlt] at p2
    simp only [forLoop] at p2
    split at p2
    · rename_i ok1
      refine ⟨wk.go R i μ' H2 h' hR hlt e2 S2 ok1, _, fun σ3 H3 n => ⟨src.2.length - (i + 1), by omega, rfl, hlt, n⟩, fun x H3 y => ?_⟩
      obtain ⟨e3, S3, rx⟩ := wk.yld R i _ μ' H2 h' x H3 hR (List.getElem?_eq_getElem hlt) e2 S2 ok1 y
      split at p2
      · exact p2.elim
      · rename_i env1 hb
        have eA := e2.trans S2 e3
        refine ⟨R, μ', h', env', S3, Ev2.mono S2 e3, src.2[i], env1, rx, hb, fun σ4 r4 _ => ?_⟩
        refine ⟨R, μ', h', env1, S3, r4, ?_⟩
        show PostS _ _ _ _ _ _ _ _ (evSs F b env1 h')
        cases q1 : evSs F b env1 h' with
        | no => simp only [q1] at p2; exact p2.elim
        | nx e h2 => simp only [q1] at p2; exact fun μ5 H5 σ5 e5 S5 r5 => ⟨μ5, h2, e, eA.trans S3 e5, S5, r5, p2⟩
        | ct e h2 => simp only [q1] at p2; exact fun μ5 H5 σ5 e5 S5 r5 => ⟨μ5, h2, e, eA.trans S3 e5, S5, r5, p2⟩
        | bk e h2 => simp only [q1] at p2; exact fun μ5 H5 σ5 e5 S5 r5 => p2 μ5 H5 σ5 (eA.trans S3 e5) S5 r5
        | rt d h2 => simp only [q1] at p2; exact fun μ5 H5 v e5 S5 r5 => p2 μ5 H5 v (eA.trans S3 e5) S5 r5
        | ex x e h2 => simp only [q1] at p2; exact fun μ5 H5 σ5 cls dx e5 S5 r5 rx => p2 μ5 H5 σ5 cls dx (eA.trans S3 e5) S5 r5 rx
    · exact p2.elim
  · have : i = src.2.length := by omega
    subst this
    rw [List.drop_length] at p2
    simp only [forLoop] at p2
    split at p2
    · rename_i ok1
      exact .inl ⟨wk.stop R μ' H2 h' hR e2 S2 ok1, p2 μ' H2 σ2 e2 S2 Ev2⟩
    · exact p2.elim
theorem whl_rd {c : E} {b : List S} {D : Ends} {σ : L2.St} {H : Hp} (q : rdS X W F (.whl c b) D σ H) : tWhile (rdT X W c) (rdSs X W F b) D σ H := by
  obtain ⟨R, μ, h, env, S, Ev, p⟩ := q
  simp only [evS] at p
  refine ⟨fun m σ' H' => ∃ μ' h' env', SimH X.K R μ' H' h' ∧ RepEnv X.K R h'.length μ' H' env' σ' ∧ PostS X.K X.mg W R h'.length μ' H' D (whileLoop (fun env1 h1 => evT c env1 h1) (fun env1 h1 => evSs F b env1 h1) m env' h'), ⟨F, μ, h, env, S, Ev, p⟩, ?_⟩
  rintro m σ1 H1 ⟨μ1, h1, env1, S1, Ev1, p1⟩
  cases m with
  | zero => exact (show False from p1).elim
  | succ m =>
    simp only [whileLoop] at p1
    refine ⟨R, μ1, h1, env1, S1, Ev1, (p1.inS S1 Ev1).imp fun k h2 μ2 H2 e2 S2 p2 => ?_⟩
    have Ev2 := Ev1.mono S1 e2
    cases k with
    | false =>
      show if false = true then _ else _
      rw [if_neg Bool.false_ne_true]
      exact p2 μ2 H2 σ1 Ext.refl S2 Ev2
    | true =>
      show if true = true then _ else _
      rw [if_pos rfl]
      rw [if_pos rfl] at p2
      refine ⟨fun σ' H' => ∃ μ' h' env', SimH X.K R μ' H' h' ∧ RepEnv X.K R h'.length μ' H' env' σ' ∧ PostS X.K X.mg W R h'.length μ' H' D (whileLoop (fun env1 h1 => evT c env1 h1) (fun env1 h1 => evSs F b env1 h1) m env' h'), fun σ' H' n => ⟨m, Nat.lt_succ_self _, n⟩, R, μ2, h2, env1, S2, Ev2, ?_⟩
      show PostS _ _ _ _ _ _ _ _ (evSs F b env1 h2)
      cases q1 : evSs F b env1 h2 with
      | no => simp only [q1] at p2; exact p2.elim
      | nx e h3 => simp only [q1] at p2; exact fun μ5 H5 σ5 e5 S5 r5 => ⟨μ5, h3, e, S5, r5, p2.later e5 S5⟩
      | ct e h3 => simp only [q1] at p2; exact fun μ5 H5 σ5 e5 S5 r5 => ⟨μ5, h3, e, S5, r5, p2.later e5 S5⟩
      | bk e h3 => simp only [q1] at p2; exact fun μ5 H5 σ5 e5 S5 r5 => p2 μ5 H5 σ5 e5 S5 r5
      | rt d h3 => simp only [q1] at p2; exact fun μ5 H5 v e5 S5 r5 => p2 μ5 H5 v e5 S5 r5
      | ex x e h3 => simp only [q1] at p2; exact fun μ5 H5 σ5 cls dx e5 S5 r5 rx => p2 μ5 H5 σ5 cls dx e5 S5 r5 rx

theorem handlers_ok (G : GoodS k sc X) : ∀ {hs : List (Str × Nat × Const)} {es : List ExceptHandler}, handlersB X.N sc hs es = true → (∀ p ∈ hs, ∃ C, X.mg p.1 = some (.ref C)) →
    ∃ l : List (Value × (Addr → Value → Option Addr → TS)), HdsOk X es l ∧ ∀ (xs : List Str) (x : Exn) (D : Ends) (R : Ap) (μ : Nat → Addr) (H : Hp) (h : LH) (env : Env) (σ : L2.St) (cls : Value) (dx : Option Addr), (∀ x ∈ xs, ∀ p ∈ hs, ExcP (gam X k) x p.1) → x.cls ∈ xs →
      SimH X.K R μ H h → RepEnv X.K R h.length μ H env σ → RepX X.K X.mg R h.length μ H x cls dx → PostS X.K X.mg W R h.length μ H D (handle xs hs x env h) → wMany X.K W D l cls dx σ H
  | [], [], _, _ => ⟨[], .nil, fun xs x D R μ H h env σ cls dx _ _ S Ev rx p => p μ H σ cls dx Ext.refl S Ev rx⟩
  | [], _ :: _, h, _ => by simp [handlersB] at h
  | _ :: _, [], h, _ => by simp [handlersB] at h
  | (y, i, c) :: hs, e :: es, h, hc => by
    simp only [handlersB, Bool.and_eq_true] at h
    obtain ⟨h1, h2⟩ := h
    obtain ⟨l, L1, L2'⟩ := handlers_ok G h2 fun p hp => hc p (List.mem_cons_of_mem _ hp)
    unfold handlerB at h1
    split at h1
    · rename_i y i c x0 np z pz c0 kk pp pp2 pp3 q
      cases q
      simp only [Bool.and_eq_true, decide_eq_true_eq] at h1
      obtain ⟨⟨⟨⟨⟨⟨rfl, g1⟩, g2⟩, g3⟩, g4⟩, rfl⟩, g5⟩ := h1
      obtain ⟨d, hd⟩ := Option.isSome_iff_exists.mp g5
      obtain ⟨C, hC⟩ := hc (x0, i, c) List.mem_cons_self
      -- the suite's one row
      have suite : ∃ v, (∀ R n μ H, Rep X.K R n μ H d v) ∧ ∀ (a : Addr) (pn : List (Addr × Obj)), PSs (X.suite a pn) [.Assign [.Name z pz] (.Constant c kk pp) pp2] (tAsg (tC v) (gName i)) := by
        have row : ∀ {v : V} (a : Addr) (pn : List (Addr × Obj)), PE (X.suite a pn) (.Constant c kk pp) (tC v) → PSs (X.suite a pn) [.Assign [.Name z pz] (.Constant c kk pp) pp2] (tAsg (tC v) (gName i)) := fun {v} a pn he =>
          pss_one (ps_set (X := X.suite a pn) G.nd g3 (locB_ok g4 G.hsc) he (by rfl) (.inl (G.fn _)))
        cases c with
        | none => cases hd; exact ⟨.non, fun R n μ H => repN.mpr rfl, fun a pn => row a pn pe_non⟩
        | bool b => cases hd; exact ⟨.bl b, fun R n μ H => repB.mpr rfl, fun a pn => row a pn pe_bl⟩
        | int b => cases hd; exact ⟨.int b, fun R n μ H => repI.mpr rfl, fun a pn => row a pn pe_int⟩
        | str b => cases hd; exact ⟨.str b, fun R n μ H => repS.mpr rfl, fun a pn => row a pn pe_str⟩
        | _ => cases hd
      obtain ⟨v, rv, hsuite⟩ := suite
      refine ⟨(.ref C, fun _ _ _ => tAsg (tC v) (gName i)) :: l, .cons ⟨glB_ok g1 G.hsc, (noDbg_ok g2).1, .inl hC⟩ (fun a oe cls d pn _ _ => hsuite a _) L1, fun xs x D R μ H h env σ cls dx hp hx S Ev rx p => ?_⟩
      obtain ⟨C1, D1, m1, m2, m3⟩ := (hp _ hx (x0, i, c) List.mem_cons_self).ex
      obtain ⟨C2, n1, rfl, n3⟩ := id rx
      have m1 : X.mg x.cls = some (.ref C1) := m1
      have m2 : X.mg x0 = some (.ref D1) := m2
      rw [n1] at m1; cases m1
      rw [hC] at m2; cases m2
      refine ⟨_, m3, fun hb a _ => ?_, fun hb => ?_⟩
      · have e := of_decide_eq_true hb
        simp only [handle, e, if_true, hd] at p
        exact set_fin S Ev (rv _ _ _ _) p
      · have e := of_decide_eq_false hb
        simp only [handle, if_neg e] at p
        exact L2' xs x D R μ H h env σ _ dx (fun x hx p hp' => hp x hx p (List.mem_cons_of_mem _ hp')) hx S Ev rx p
    · cases h1
theorem Reps.set {K : Fg} {R : Ap} {n : Nat} {μ : Nat → Addr} {H : Hp} {d : D} {v : V} (r : Rep K R n μ H d v) : ∀ {ds : List D} {vs : List V} (j : Nat), Reps K R n μ H ds vs → Reps K R n μ H (ds.set j d) (vs.set j v)
  | [], _, _, q => by simp only [Reps] at q; subst q; simp [Reps]
  | x :: ds, _, 0, q => by
    simp only [Reps] at q
    obtain ⟨w, ws, rfl, _, q2⟩ := q
    simp only [List.set_cons_zero, Reps]
    exact ⟨v, ws, rfl, r, q2⟩
  | x :: ds, _, j + 1, q => by
    simp only [Reps] at q
    obtain ⟨w, ws, rfl, q1, q2⟩ := q
    simp only [List.set_cons_succ, Reps]
    exact ⟨w, _, rfl, q1, Reps.set r j q2⟩
def rStx (X : Cx) : V → V → V → Hp → (Hp → Prop) → Prop := fun ov iv vv H Q => ∃ R μ h h' o i v, SimH X.K R μ H h ∧ Rep X.K R h.length μ H o ov ∧ Rep X.K R h.length μ H i iv ∧ Rep X.K R h.length μ H v vv ∧ setSub o i v h = some h' ∧
  ∀ H', Ext h.length μ H h'.length μ H' → SimH X.K R μ H' h' → Q H'
theorem set_any (hw : Tabs.w = X.w) (hu : X.A.units + 65 < cLine) : PSet X (rStx X) := by
  intro pins s σ H ov iv vv ou iu vu Q I xo xi xv hq
  obtain ⟨R, μ, h, h', o, i, v, S, ro, ri, rv, e, hq⟩ := hq
  unfold setSub at e
  split at e
  · rename_i n
    simp only [Rep] at ro
    obtain ⟨hn, rfl⟩ := ro
    split at e
    · rename_i ds q
      split at e
      · rename_i k
        split at e
        · rename_i j hj
          cases e
          cases repI.mp ri
          obtain ⟨xs, e1, ra⟩ := S.obj n _ q
          refine set_list pins s σ H _ _ vv ou iu vu Q I xo xi xv ⟨_, xs, k, j, rfl, rfl, e1, by rw [← ra.length]; exact hj, ?_⟩
          refine hq _ ?_ (S.set hn (Reps.set rv j ra))
          rw [List.length_set]
          exact Ext.set hn
        · cases e
      · cases e
    · rename_i kvs q
      split at e
      · rename_i c
        cases e
        have dv : DV X.K R h.length μ H (μ n) kvs := S.obj n _ q
        obtain rfl : ou = Value.ref (μ n) := xo
        refine dv_setItem hw (by omega) I dv c.2 c.1 ri xi rv xv fun o s' kws ws _ hr r1 r2 I' => ?_
        refine ⟨_, I', hq _ ?_ (S.put hn fun e5 => ⟨kws, ws, hr, Reps.mono S e5 _ _ r1, Reps.mono S e5 _ _ r2⟩)⟩
        rw [List.length_set]
        exact Ext.set hn
      · cases e
    · cases e
  · cases e
theorem sub_assign {a b : Expr} {pos : Pos} {env : PySem.Env} (h : isSliceE b = false) (v : Value) : assign (.Subscript a b pos) env v = (do
      let ov ← holding [v] (eval a env)
      let iv ← holding [v, ov] (eval b env)
      standAt pos
      holding [v, ov, iv] (setItem ov iv v)
      release [v, ov, iv] []) := by
  cases b <;> first | rfl | (simp [isSliceE] at h)
theorem raiE_eq {e : Expr} {x : Str} (h : raiE e = some x) : ∃ p m j p2 pos, e = .Call (.Name x p) [.Constant (.str m) j p2] [] pos := by
  unfold raiE at h
  split at h
  · cases h; exact ⟨_, _, _, _, _, rfl⟩
  · cases h
theorem tupE_eq {e : Expr} {vs : List Expr} (h : tupE e = some vs) : ∃ k pos, e = .Tuple vs k pos := by
  unfold tupE at h
  split at h
  · cases h; exact ⟨_, _, rfl⟩
  · cases h
theorem tupE_no {ts : List Expr} {kt : Nat} {pt : Pos} {e : Expr} {env : PySem.Env} (h : tupE e = none) : swappedStores [.Tuple ts kt pt] e env = pure none := by
  cases e <;> first | rfl | (simp [tupE] at h)
theorem bindT_nm {i : Nat} {d : D} {env env' : Env} (h : bindT (.nm i) d env = some env') : i < env.length ∧ env' = env.set i (some d) := by
  simp only [bindT] at h
  split at h
  · cases h; exact ⟨by assumption, rfl⟩
  · cases h
/-- the lcp's parts, from its check -/
theorem comp_set {i : Nat} {x : Str} {px pos : Pos} {e : E} {f : Expr} (G : GoodS k sc X) (tk : Takes X W) (h1 : X.N[i]? = some x) (h : chkE X.N sc e f = true) (ok : okE (gam X k) e) (hs : compSwap sc x px f = true) :
    PS X (.Assign [.Name x px] f pos) (fun D σ H => rdE X W e σ H fun v H1 => D.nx (σ.set i (some v)) H1) := by
  have hs' := hs
  cases f <;> simp only [compSwap, Bool.false_eq_true] at hs
  rename_i elt0 gs scope0 pos0
  simp only [Bool.and_eq_true, decide_eq_true_eq] at hs
  by_cases hbad : e = .bad
  · subst hbad
    exact ⟨fun pins s σ H D I q => by obtain ⟨R, μ, h, env, S, Ev, p⟩ := q; exact (show False from p).elim⟩
  cases e <;> first | exact absurd rfl hbad | simp only [chkE, Bool.false_eq_true, cmp1, cmp2, sub1, calN, calM, dct1, att1] at h
  rename_i own t it cond elt
  split at h <;> try (cases h; done)
  rename_i e tg iter ifs a scope q0
  obtain ⟨pos1, q1⟩ := lcp1_eq q0
  cases q1
  simp only [Bool.and_eq_true, decide_eq_true_eq, Bool.not_eq_true'] at h
  obtain ⟨⟨⟨⟨⟨⟨⟨⟨rfl, h2⟩, h3⟩, h4⟩, h5⟩, h6⟩, h7⟩, h8⟩, h9⟩ := h
  simp only [okE] at ok
  have hsc : X.env.scope = sc := G.hsc
  have hsw := compSwap_ok (X := X) (l := pos.line) (by rw [hsc]; exact G.knd) (by rw [hsc]; exact hs')
  refine PS.imp (ps_setLc G.calm G.nd h1 (by rw [hsc]; exact hs.1.1) hsw (soundI it sc X W tg _ h4 h9 ok.1 G.toGood tk) (by rw [hsc]; exact blkOk_by h3) (fun s H C cl fp => ?_) (fun s H C cl fp => ?_) (fun s H C cl fp => ?_) (setIter h2)) fun D σ H q => lcp_rd h6 q
  · exact pg_ok (X := X.blk s H scope0 (compEnvC scope0 cl C X.env) fp) G.nd G.calm (fun x hx => blkSt_ok hx) t tg h5
  · exact soundC cond (relS scope0 sc) (X.blk s H scope0 (compEnvC scope0 cl C X.env) fp) W0 ifs h7 ok.2.1 (G.toGood.blk s H C cl fp) takes0
  · exact (soundE elt (relS scope0 sc) (X.blk s H scope0 (compEnvC scope0 cl C X.env) fp) W0 _ h8 ok.2.2 (G.toGood.blk s H C cl fp) takes0).1
mutual
theorem soundS : ∀ (c : S) (sc : Scope) (X : Cx) (W : WX) (s : Stmt), chkS X.N sc c s = true → okS (gam X k) c → GoodS k sc X → Takes X W → PS X s (rdS X W F c)
  | .set i e, sc, X, W, s, h, ok, G, tk => by
    simp only [chkS] at h
    split at h <;> try (cases h; done)
    rename_i t f pos q0
    split at h <;> try (cases h; done)
    rename_i x px q1
    obtain rfl := asg1_eq q0
    obtain rfl := nmP_eq q1
    simp only [Bool.and_eq_true, decide_eq_true_eq, Bool.or_eq_true, Bool.not_eq_true'] at h
    obtain ⟨⟨⟨h1, h2⟩, h3⟩, h4⟩ := h
    simp only [okS] at ok
    have fin : ∀ D σ H, rdS X W F (.set i e) D σ H → rdE X W e σ H fun v H1 => D.nx (σ.set i (some v)) H1 := fun D σ H q => by
      obtain ⟨R, μ, h, env, S, Ev, p⟩ := q
      simp only [evS] at p
      refine ⟨R, μ, h, env, S, Ev, (p.inS S Ev).imp fun d h1 μ1 H1 e1 S1 p1 v r => ?_⟩
      exact set_fin S1 (Ev.mono S e1) r p1
    have plain : ∀ (hs : swapsWith f (some (.Name x px)) pos.line X.env = pure false), PS X (.Assign [.Name x px] f pos) (rdS X W F (.set i e)) := fun hs =>
      PS.imp (ps_set G.nd h1 (locB_ok h2 G.hsc) (soundE e sc X W _ h3 ok G.toGood tk).1 hs (.inl (G.fn _))) fin
    rcases h4 with h4 | h4 | h4
    · exact plain (swaps_none h4)
    · exact PS.imp (comp_set G tk h1 h3 ok h4) fin
    · exact plain (swaps_cell (by rw [G.hsc]; exact h4))
  | .unp (.tp ts) e, sc, X, W, s, h, ok, G, tk => by
    simp only [chkS] at h
    split at h <;> try (cases h; done)
    rename_i t f pos q0
    split at h <;> try (cases h; done)
    rename_i es kk pp q1
    obtain rfl := asg1_eq q0
    obtain rfl := tupP_eq q1
    simp only [Bool.and_eq_true, Bool.not_eq_true'] at h
    obtain ⟨⟨⟨h1, h2⟩, h3⟩, h4⟩ := h
    simp only [okS] at ok
    have pe := (soundE e sc X W _ h2 ok G.toGood tk).1
    have pg := pg_ok (st := locB sc) G.nd G.calm (fun x hx => ⟨locB_ok hx G.hsc, .inl (G.fn _)⟩) (.tp ts) (.Tuple es kk pp) h1
    have plain : swappedStores [.Tuple es kk pp] f X.env = pure none → PS X (.Assign [.Tuple es kk pp] f pos) (rdS X W F (.unp (.tp ts) e)) := fun hw => by
      refine PS.imp (ps_asg pe pg (sole h3) hw (by rfl)) fun D σ H q => ?_
      obtain ⟨R, μ, h, env, S, Ev, p⟩ := q
      simp only [evS] at p
      refine ⟨R, μ, h, env, S, Ev, (p.inS S Ev).imp fun d h1 μ1 H1 e1 S1 p1 v r => ?_⟩
      split at p1
      · rename_i env' hb
        exact ⟨R, μ1, h1, env, S1, Ev.mono S e1, d, env', r, hb, fun σ' r' _ => p1 μ1 H1 σ' Ext.refl S1 r'⟩
      · exact p1.elim
    split at h4
    · rename_i q2
      exact plain (tupE_no q2)
    · rename_i vs q2
      simp only [Bool.or_eq_true, Bool.and_eq_true] at h4
      obtain ⟨k2, p2, rfl⟩ := tupE_eq q2
      have hk : X.env.scope.kind = .function := by rw [G.hsc]; exact G.knd
      rcases h4 with h4 | ⟨h4, h5⟩
      · exact plain (noSwap_ok hk (by rw [G.hsc]; exact h4))
      · have hsw := swap_ok (X := X) (kt := kk) (pt := pp) (k2 := k2) (p2 := p2) hk (by rw [G.hsc]; exact h4)
        have hln := swap_len h4
        unfold parB at h5
        split at h5
        · -- two names
          rename_i i j x px y py c1 c2
          simp only [decide_eq_true_eq] at h5
          obtain ⟨n1, n2, n3⟩ := swNames2 (sc := sc) hln
          rw [G.hsc, n1] at hsw
          simp only [chkE] at h2
          simp only [okE] at ok
          have vl : ∃ a b, vs = [a, b] := by
            match vs, h2 with
            | [a, b], _ => exact ⟨a, b, rfl⟩
            | [], h2 => simp [chkEs] at h2
            | [_], h2 => simp [chkEs] at h2
            | _ :: _ :: _ :: _, h2 => simp [chkEs] at h2
          obtain ⟨a, b, rfl⟩ := vl
          have pa := soundEs [c1, c2] sc X W [a, b] h2 ok G.toGood tk
          simp only [chkTg, chkTgs, Bool.and_eq_true, decide_eq_true_eq] at h1
          refine PS.imp (ps_par G.calm G.nd h1.1.2.1 h1.2.1.2.1 h5 (by rw [G.hsc]; exact n2) (by rw [G.hsc]; exact n3) pa hsw (sole rfl)) fun D σ H q => ?_
          obtain ⟨R, μ, h, env, S, Ev, p⟩ := q
          simp only [evS, evE] at p
          refine ⟨R, μ, h, env, S, Ev, ((p.inS S Ev).bind).imp fun ds h1 μ1 H1 e1 S1 p1 us r => ?_⟩
          split at p1
          · have p1 := p1 μ1 H1 Ext.refl S1
            match ds, r, p1 with
            | [d1, d2], r, p1 =>
              obtain ⟨v1, v2, rfl, r1, r2⟩ := reps2.mp r
              refine ⟨v1, v2, rfl, ?_⟩
              split at p1
              · rename_i env' hb
                simp only [bindT, bindTs, List.length_cons, List.length_nil, if_true] at hb
                split at hb
                · rename_i e5 he5
                  split at he5
                  · cases he5
                    split at hb
                    · rename_i e6 he6
                      split at he6
                      · cases he6; cases hb
                        exact p1 μ1 H1 _ Ext.refl S1 (((Ev.mono S e1).set r1).set r2)
                      · cases he6
                    · cases hb
                  · cases he5
                · cases hb
              · exact p1.elim
            | [], r, p1 => exact (show False from p1).elim
            | [_], r, p1 => exact (show False from p1).elim
            | _ :: _ :: _ :: _, r, p1 => exact (show False from p1).elim
          · exact p1.elim
        · -- three names
          rename_i i j l x px y py z pz c1 c2 c3
          simp only [Bool.and_eq_true, decide_eq_true_eq] at h5
          obtain ⟨⟨h5, h6⟩, h7⟩ := h5
          obtain ⟨n1, n2, n3, n4⟩ := swNames3 (sc := sc) hln
          rw [G.hsc, n1] at hsw
          simp only [chkE] at h2
          simp only [okE] at ok
          have vl : ∃ a b c, vs = [a, b, c] := by
            match vs, h2 with
            | [a, b, c], _ => exact ⟨a, b, c, rfl⟩
            | [], h2 => simp [chkEs] at h2
            | [_], h2 => simp [chkEs] at h2
            | [_, _], h2 => simp [chkEs] at h2
            | _ :: _ :: _ :: _ :: _, h2 => simp [chkEs] at h2
          obtain ⟨a, b, c, rfl⟩ := vl
          have pa := soundEs [c1, c2, c3] sc X W [a, b, c] h2 ok G.toGood tk
          simp only [chkTg, chkTgs, Bool.and_eq_true, decide_eq_true_eq] at h1
          refine PS.imp (ps_par3 G.calm G.nd h1.1.2.1 h1.2.1.2.1 h1.2.2.1.2.1 h5 h6 h7 (by rw [G.hsc]; exact n2) (by rw [G.hsc]; exact n3) (by rw [G.hsc]; exact n4) pa hsw (sole rfl)) fun D σ H q => ?_
          obtain ⟨R, μ, h, env, S, Ev, p⟩ := q
          simp only [evS, evE] at p
          refine ⟨R, μ, h, env, S, Ev, ((p.inS S Ev).bind).imp fun ds h1 μ1 H1 e1 S1 p1 us r => ?_⟩
          split at p1
          · have p1 := p1 μ1 H1 Ext.refl S1
            match ds, r, p1 with
            | [d1, d2, d3], r, p1 =>
              simp only [Reps] at r
              obtain ⟨v1, us1, rfl, r1, v2, us2, rfl, r2, v3, us3, rfl, r3, rfl⟩ := r
              refine ⟨v1, v2, v3, rfl, ?_⟩
              split at p1
              · rename_i env' hb
                simp only [bindT, bindTs, List.length_cons, List.length_nil, if_true] at hb
                split at hb
                · rename_i e5 he5
                  split at he5
                  · cases he5
                    split at hb
                    · rename_i e6 he6
                      split at he6
                      · cases he6
                        split at hb
                        · rename_i e7 he7
                          split at he7
                          · cases he7; cases hb
                            exact p1 μ1 H1 _ Ext.refl S1 ((((Ev.mono S e1).set r1).set r2).set r3)
                          · cases he7
                        · cases hb
                      · cases he6
                    · cases hb
                  · cases he5
                · cases hb
              · exact p1.elim
            | [], r, p1 => exact (show False from p1).elim
            | [_], r, p1 => exact (show False from p1).elim
            | [_, _], r, p1 => exact (show False from p1).elim
            | _ :: _ :: _ :: _ :: _, r, p1 => exact (show False from p1).elim
          · exact p1.elim
        · cases h5
  | .unp (.nm _) e, sc, X, W, s, h, ok, G, tk => by simp [chkS] at h
  | .stx o i e, sc, X, W, s, h, ok, G, tk => by
    simp only [chkS] at h
    split at h <;> try (cases h; done)
    rename_i t f pos q0
    split at h <;> try (cases h; done)
    rename_i a b q1
    obtain rfl := asg1_eq q0
    obtain ⟨pp, rfl⟩ := sub1_eq q1
    simp only [Bool.and_eq_true, Bool.not_eq_true'] at h
    obtain ⟨⟨⟨⟨h1, h2⟩, h3⟩, h4⟩, h5⟩ := h
    simp only [okS] at ok
    have po := (soundE o sc X W _ h1 ok.1 G.toGood tk).1
    have pi := (soundE i sc X W _ h2 ok.2.1 G.toGood tk).1
    have pe := (soundE e sc X W _ h3 ok.2.2 G.toGood tk).1
    refine PS.imp (ps_asg pe (pg_sub po pi (set_any G.hw G.units) (sub_assign h4)) (sole h5) (by rfl) (by rfl)) fun D σ H q => ?_
    obtain ⟨R, μ, h, env, S, Ev, p⟩ := q
    simp only [evS] at p
    refine ⟨R, μ, h, env, S, Ev, (p.inS S Ev).imp fun v h1 μ1 H1 e1 S1 p1 vv rv => ?_⟩
    have Ev1 := Ev.mono S e1
    refine ⟨R, μ1, h1, env, S1, Ev1, (p1.inS S1 Ev1).imp fun x h2 μ2 H2 e2 S2 p2 xv rx => ?_⟩
    have Ev2 := Ev1.mono S1 e2
    refine ⟨R, μ2, h2, env, S2, Ev2, (p2.inS S2 Ev2).imp fun y h3 μ3 H3 e3 S3 p3 yv ry => ?_⟩
    have Ev3 := Ev2.mono S2 e3
    split at p3
    · rename_i h4 q
      exact ⟨R, μ3, _, _, _, _, _, S3, Rep.mono S2 e3 _ _ rx, ry, Rep.mono S2 e3 _ _ (Rep.mono S1 e2 _ _ rv), q, fun H' e' S' => p3 _ _ _ e' S' (Ev3.mono S3 e')⟩
    · exact p3.elim
  | .exp e, sc, X, W, s, h, ok, G, tk => by
    simp only [chkS] at h
    split at h <;> try (cases h; done)
    rename_i f q0
    obtain ⟨pos, rfl⟩ := exp1_eq q0
    simp only [Bool.and_eq_true, Bool.not_eq_true'] at h
    simp only [okS] at ok
    refine PS.imp (ps_expr (soundE e sc X W _ h.1 ok G.toGood tk).1 (swaps_none h.2)) fun D σ H q => ?_
    obtain ⟨R, μ, h, env, S, Ev, p⟩ := q
    simp only [evS] at p
    exact ⟨R, μ, h, env, S, Ev, (p.inS S Ev).imp fun d h1 μ1 H1 e1 S1 p1 v r => p1 μ1 H1 σ Ext.refl S1 (Ev.mono S e1)⟩
  | .ret e, sc, X, W, s, h, ok, G, tk => by
    simp only [chkS] at h
    split at h <;> try (cases h; done)
    rename_i f q0
    obtain ⟨pos, rfl⟩ := ret1_eq q0
    simp only [okS] at ok
    refine PS.imp (ps_ret (soundE e sc X W _ h ok G.toGood tk).1) fun D σ H q => ?_
    obtain ⟨R, μ, h, env, S, Ev, p⟩ := q
    simp only [evS] at p
    exact ⟨R, μ, h, env, S, Ev, (p.inS S Ev).imp fun d h1 μ1 H1 e1 S1 p1 v r => p1 μ1 H1 v Ext.refl S1 r⟩
  | .retN, sc, X, W, s, h, ok, G, tk => by
    simp only [chkS] at h
    split at h <;> try (cases h; done)
    rename_i q0
    obtain ⟨pos, rfl⟩ := ret1_eq q0
    refine PS.imp ps_retN fun D σ H q => ?_
    obtain ⟨R, μ, h, env, S, Ev, p⟩ := q
    simp only [evS] at p
    exact p μ H .non Ext.refl S (repN.mpr rfl)
  | .ifs c a b, sc, X, W, s, h, ok, G, tk => by
    simp only [chkS] at h
    split at h <;> try (cases h; done)
    rename_i t x y q0
    obtain ⟨pos, rfl⟩ := if1_eq q0
    simp only [Bool.and_eq_true] at h
    simp only [okS] at ok
    refine PS.imp (ps_if (soundE c sc X W _ h.1.1 ok.1 G.toGood tk).2 (soundSs a sc X W _ h.1.2 ok.2.1 G tk) (soundSs b sc X W _ h.2 ok.2.2 G tk)) fun D σ H q => ?_
    obtain ⟨R, μ, h, env, S, Ev, p⟩ := q
    simp only [evS] at p
    refine ⟨R, μ, h, env, S, Ev, (p.inS S Ev).imp fun k h1 μ1 H1 e1 S1 p1 => ?_⟩
    cases k with
    | true => exact ⟨R, μ1, h1, env, S1, Ev.mono S e1, p1⟩
    | false => exact ⟨R, μ1, h1, env, S1, Ev.mono S e1, p1⟩
  | .for_ t it b, sc, X, W, s, h, ok, G, tk => by
    simp only [chkS] at h
    split at h <;> try (cases h; done)
    rename_i tg iter x q0
    obtain ⟨pos, rfl⟩ := for1_eq q0
    simp only [Bool.and_eq_true, Bool.not_eq_true'] at h
    obtain ⟨⟨⟨⟨h1, h2⟩, h3⟩, h4⟩, h5⟩ := h
    simp only [okS] at ok
    exact PS.imp (ps_for G.own G.calm (soundI it sc X W tg _ h2 h5 ok.1 G.toGood tk) (pg_ok (st := locB sc) G.nd G.calm (fun x hx => ⟨locB_ok hx G.hsc, .inl (G.fn _)⟩) t tg h1) (soundSs b sc X W _ h4 ok.2 G tk) (setIter h3)) fun D σ H q => for_rd q
  | .whl c b, sc, X, W, s, h, ok, G, tk => by
    simp only [chkS] at h
    split at h <;> try (cases h; done)
    rename_i t x q0
    obtain ⟨pos, rfl⟩ := whl1_eq q0
    simp only [Bool.and_eq_true] at h
    simp only [okS] at ok
    exact PS.imp (ps_while G.own (soundE c sc X W _ h.1 ok.1 G.toGood tk).2 (soundSs b sc X W _ h.2 ok.2 G tk)) fun D σ H q => whl_rd q
  | .rai x, sc, X, W, s, h, ok, G, tk => by
    simp only [chkS] at h
    split at h <;> try (cases h; done)
    rename_i e q0
    obtain ⟨pos, rfl⟩ := rai1_eq q0
    simp only [Bool.and_eq_true, decide_eq_true_eq] at h
    obtain ⟨⟨h1, h2⟩, h3⟩ := h
    obtain ⟨p, m, j, p2, pos2, rfl⟩ := raiE_eq h1
    simp only [okS] at ok
    obtain ⟨C, c1, c2, c3, c4, c5⟩ := ok.ex
    refine PS.imp (ps_raise G.calm tk (pmk_own PySem.F.excBase_ValueError c2 c1 c3 (raises_own c4 c5) (glB_ok h2 G.hsc) (noDbg_ok h3).1)) fun D σ H q => ?_
    obtain ⟨R, μ, h, env, S, Ev, p⟩ := q
    simp only [evS] at p
    exact p μ H σ (.ref C) none Ext.refl S Ev ⟨C, c1, rfl, rfl⟩
  | .tryS xs b hs, sc, X, W, s, h, ok, G, tk => by
    simp only [chkS] at h
    split at h <;> try (cases h; done)
    rename_i x hds q0
    obtain ⟨pos, rfl⟩ := try1_eq q0
    simp only [Bool.and_eq_true] at h
    obtain ⟨⟨h1, h2⟩, h3⟩ := h
    simp only [okS] at ok
    cases hds with
    | nil => simp at h1
    | cons hd hds =>
      obtain ⟨l, L1, L2'⟩ := handlers_ok (W := W) G h3 ok.2.2
      refine PS.imp (ps_try_many (Wout := W) (tb := fun W' => rdSs X W' F b) G.stk G.fr tk (fun W' pn xe tk' hp => soundSs b sc (X.tr pn xe) W' x h2 ok.1 (G.tr pn xe hp) tk') L1) fun D σ H q => ?_
      obtain ⟨R, μ, h, env, S, Ev, p⟩ := q
      simp only [evS] at p
      refine ⟨R, μ, h, env, S, Ev, ?_⟩
      show PostS _ _ _ _ _ _ _ _ (evSs F b env h)
      cases q1 : evSs F b env h with
      | no => simp only [q1] at p; exact p.elim
      | nx e h2 => simp only [q1] at p; exact p
      | ct e h2 => simp only [q1] at p; exact p
      | bk e h2 => simp only [q1] at p; exact p
      | rt d h2 => simp only [q1] at p; exact p
      | ex x e h2 =>
        simp only [q1] at p
        intro μ5 H5 σ5 cls dx e5 S5 r5 rx
        split at p
        · rename_i hx
          exact L2' xs x D R μ5 H5 h2 e σ5 cls dx ok.2.1 (by simpa using hx) S5 r5 rx (p.later e5 S5)
        · exact p.elim
  | .pas, sc, X, W, s, h, ok, G, tk => by
    cases s <;> simp [chkS, smp1] at h
    refine PS.imp ps_pass fun D σ H q => ?_
    obtain ⟨R, μ, h, env, S, Ev, p⟩ := q
    exact p μ H σ Ext.refl S Ev
  | .brk, sc, X, W, s, h, ok, G, tk => by
    cases s <;> simp [chkS, smp1] at h
    refine PS.imp ps_break fun D σ H q => ?_
    obtain ⟨R, μ, h, env, S, Ev, p⟩ := q
    exact p μ H σ Ext.refl S Ev
  | .cnt, sc, X, W, s, h, ok, G, tk => by
    cases s <;> simp [chkS, smp1] at h
    refine PS.imp ps_continue fun D σ H q => ?_
    obtain ⟨R, μ, h, env, S, Ev, p⟩ := q
    exact p μ H σ Ext.refl S Ev
  | .sat c f o e, sc, X, W, s, h, ok, G, tk => by
    simp only [chkS] at h
    split at h <;> try (cases h; done)
    rename_i t g pos q0
    split at h <;> try (cases h; done)
    rename_i a f' q1
    obtain rfl := asg1_eq q0
    obtain ⟨pp, rfl⟩ := att1_eq q1
    simp only [Bool.and_eq_true, decide_eq_true_eq, Bool.not_eq_true'] at h
    obtain ⟨⟨⟨rfl, h2⟩, h3⟩, h4⟩ := h
    simp only [okS] at ok
    have po := (soundE o sc X W _ h2 ok.2.1 G.toGood tk).1
    have pe := (soundE e sc X W _ h3 ok.2.2 G.toGood tk).1
    refine PS.imp (ps_fld po pe (swaps_none h4)) fun D σ H q => ?_
    obtain ⟨R, μ, h, env, S, Ev, p⟩ := q
    simp only [evS] at p
    refine ⟨R, μ, h, env, S, Ev, (p.inS S Ev).imp fun v h1 μ1 H1 e1 S1 p1 vv rv => ?_⟩
    have Ev1 := Ev.mono S e1
    refine ⟨R, μ1, h1, env, S1, Ev1, (p1.inS S1 Ev1).imp fun x h2 μ2 H2 e2 S2 p2 xv rx => ?_⟩
    have Ev2 := Ev1.mono S1 e2
    have rv2 := Rep.mono S1 e2 _ _ rv
    split at p2
    · rename_i h5 q
      unfold setAtt at q
      split at q <;> try (cases q; done)
      rename_i n
      split at q <;> try (cases q; done)
      rename_i c' fs qn
      split at q <;> try (cases q; done)
      rename_i hc
      obtain ⟨rfl, hl⟩ := hc
      cases q
      obtain ⟨C, dx, ws, hC, ha, rs⟩ := S2.obj n _ qn
      simp only [Rep] at rx
      obtain ⟨hn, rfl⟩ := rx
      obtain ⟨cl, na⟩ := ok.1.ex C hC
      refine ⟨_, C, dx, _, rfl, ha, cl, na, by rw [zip_length rs]; exact hl, ?_⟩
      obtain ⟨ws', w1, w2⟩ := reps_putF (f := f) rv2 rs
      have e3 : Ext h2.length μ2 H2 (h2.set n (.ins c' (putFD f v fs))).length μ2 (upd H2 (μ2 n) (.ins C dx (L2.putF f vv ((fs.map (·.1)).zip ws)))) := by
        rw [List.length_set]; exact Ext.set hn
      have S3 := S2.put (u := .ins C dx (L2.putF f vv ((fs.map (·.1)).zip ws))) (o := .ins c' (putFD f v fs)) hn fun e4 => ⟨C, dx, ws', hC, by rw [upd_same, w1], Reps.mono S2 e4 _ _ w2⟩
      exact p2 μ2 _ σ e3 S3 (Ev2.mono S2 e3)
    · exact p2.elim
  | .raiA x f e, sc, X, W, s, h, ok, G, tk => by
    simp only [chkS] at h
    split at h <;> try (cases h; done)
    rename_i r q0
    split at h <;> try (cases h; done)
    rename_i n a q1
    obtain ⟨pos, rfl⟩ := rai1_eq q0
    obtain ⟨p, cpos, rfl⟩ := raiX_eq q1
    simp only [Bool.and_eq_true, decide_eq_true_eq, Bool.not_eq_true'] at h
    obtain ⟨⟨⟨⟨rfl, h2⟩, h3⟩, h4⟩, h5⟩ := h
    simp only [okS] at ok
    have pe := (soundE e sc X W _ h4 ok.2 G.toGood tk).1
    refine PS.imp (ps_raiF ok.1 G.room G.calm tk (glB_ok h2 G.hsc) (noDbg_ok h3).1 pe (noStar_star h5)) fun D σ H q => ?_
    obtain ⟨R, μ, h, env, S, Ev, p⟩ := q
    simp only [evS] at p
    refine ⟨R, μ, h, env, S, Ev, (p.inS S Ev).imp fun d h1 μ1 H1 e1 S1 p1 v rv => ?_⟩
    intro C hC dx hdx
    have eL : Ext h1.length μ1 H1 h1.length μ1 (upd H1 dx (.xd [(f, v)])) := Ext.laid hdx
    exact p1 μ1 _ σ (.ref C) (some dx) eL (S1.laid hdx) ((Ev.mono S e1).mono S1 eL) ⟨C, hC, rfl, dx, v, rfl, upd_same, Rep.mono S1 eL _ _ rv⟩
  | .tryA b x ei f ti, sc, X, W, s, h, ok, G, tk => by
    simp only [chkS] at h
    split at h <;> try (cases h; done)
    rename_i y hds q0
    split at h <;> try (cases h; done)
    rename_i n e t e' g q1
    obtain ⟨pos, rfl⟩ := try1_eq q0
    obtain ⟨p1, p2, p3, p4, p5, p6, rfl⟩ := hndA_eq q1
    simp only [Bool.and_eq_true, decide_eq_true_eq] at h
    obtain ⟨⟨⟨⟨⟨⟨⟨⟨⟨⟨⟨rfl, h2⟩, h3⟩, rfl⟩, h5⟩, h6⟩, h7⟩, rfl⟩, h9⟩, h10⟩, h11⟩, h12⟩ := h
    simp only [okS] at ok
    obtain ⟨C, hC, T, hno, hex⟩ := ok.2.ex
    have hln : X.env.kindOf e = some .local := by
      show X.env.scope.names.lookup e = _
      rw [G.hsc]; exact h9
    have hv : Vis X.env.scope e := .inl hln
    have row (a : Addr) (oe : Obj) (cls : Value) (d : Option Addr) (pn : List (Addr × Obj)) (hz : Zc cls d oe) (hf : ∃ vs, oe.data = .fields vs) :
        PSs (X.suite a ((a, oe) :: pn)) [.Assign [.Name t p2] (.Attribute (.Name e p3) f p4) p5] (tAsg (tXf a cls d C f (tVar ei)) (gName ti)) :=
      pss_one (ps_set (X := X.suite a ((a, oe) :: pn)) G.nd h6 (locB_ok h10 G.hsc) (pe_xf T hno hz hf (pe_var (X := X.suite a ((a, oe) :: pn)) h5 hv (noDbg_ok h11).1 (noDbg_ok h11).2.1)) (by rfl) (.inl (G.fn _)))
    refine PS.imp (ps_try_as (Wout := W) (tb := fun W' => rdSs X W' F b) (ts := fun a cls d => tAsg (tXf a cls d C f (tVar ei)) (gName ti)) G.stk G.fr G.nd h5 hln ⟨glB_ok h2 G.hsc, (noDbg_ok h3).1, .inl hC⟩ tk (fun W' pn xe tk' hp => soundSs b sc (X.tr pn xe) W' y h12 ok.1 (G.tr pn xe hp) tk') row) fun D σ H q => ?_
    obtain ⟨R, μ, h, env, S, Ev, p⟩ := q
    simp only [evS] at p
    refine ⟨R, μ, h, env, S, Ev, ?_⟩
    show PostS _ _ _ _ _ _ _ _ (evSs F b env h)
    cases q1 : evSs F b env h with
    | no => simp only [q1] at p; exact p.elim
    | nx e h2 => simp only [q1] at p; exact p
    | ct e h2 => simp only [q1] at p; exact p
    | bk e h2 => simp only [q1] at p; exact p
    | rt d h2 => simp only [q1] at p; exact p
    | ex z env2 h2 =>
      simp only [q1] at p
      intro μ5 H5 σ5 cls dx e5 S5 r5 rx
      unfold handleA at p
      split at p
      · rename_i hz
        split at p
        · rename_i g d hd
          split at p
          · rename_i c
            obtain ⟨rfl, c2, c3, c4⟩ := c
            obtain ⟨C', m1, m2, m3⟩ := rx
            rw [hd] at m3
            obtain ⟨da, v, rfl, m5, m6⟩ := m3
            rw [hz] at m1
            cases hC.symm.trans m1
            subst m2
            refine ⟨true, hex, fun _ a ha => ?_, fun k => by cases k⟩
            have hlen : ei < σ5.length := by rw [← r5.len]; exact c3
            refine ⟨.ref a, List.getElem?_set_self hlen, rfl, rfl, da, _, v, rfl, m5, by simp, ?_⟩
            exact p μ5 H5 _ e5 S5 (r5.caught h7 m6)
          · exact p.elim
        · exact p.elim
      · exact p.elim
  | .bad, sc, X, W, s, h, ok, G, tk => ⟨fun pins s σ H D I q => by obtain ⟨R, μ, h, env, S, Ev, p⟩ := q; exact (show False from p).elim⟩
theorem soundSs : ∀ (cs : List S) (sc : Scope) (X : Cx) (W : WX) (ss : List Stmt), chkSs X.N sc cs ss = true → okSs (gam X k) cs → GoodS k sc X → Takes X W → PSs X ss (rdSs X W F cs)
  | [], sc, X, W, ss, h, ok, G, tk => by
    cases ss with
    | cons _ _ => simp [chkSs] at h
    | nil =>
      refine PSs.imp pss_nil fun D σ H q => ?_
      obtain ⟨R, μ, h, env, S, Ev, p⟩ := q
      exact p μ H σ Ext.refl S Ev
  | c :: cs, sc, X, W, ss, h, ok, G, tk => by
    cases ss with
    | nil => simp [chkSs] at h
    | cons s ss =>
      simp only [chkSs, Bool.and_eq_true] at h
      simp only [okSs] at ok
      refine PSs.imp (pss_cons (soundS c sc X W s h.1 ok.1 G tk) (soundSs cs sc X W ss h.2 ok.2 G tk)) fun D σ H q => ?_
      obtain ⟨R, μ, h, env, S, Ev, p⟩ := q
      simp only [evSs] at p
      refine ⟨R, μ, h, env, S, Ev, ?_⟩
      show PostS _ _ _ _ _ _ _ _ (evS F c env h)
      cases q1 : evS F c env h with
      | no => rw [q1] at p; exact p.elim
      | nx e h2 => rw [q1] at p; exact fun μ5 H5 σ5 e5 S5 r5 => ⟨R, μ5, h2, e, S5, r5, PostS.later (r := evSs F cs e h2) p e5 S5⟩
      | ct e h2 => rw [q1] at p; exact p
      | bk e h2 => rw [q1] at p; exact p
      | rt d h2 => rw [q1] at p; exact p
      | ex x e h2 => rw [q1] at p; exact p
end
end
end Ev
namespace Ev
open PySem L2
variable [Tabs]
theorem repEnv_start {K : Fg} {R : Ap} {n : Nat} {μ : Nat → Addr} {H : Hp} {N : List Str} {ds : List D} {vs : List V} (r : Reps K R n μ H ds vs) : RepEnv K R n μ H (ds.map some ++ List.replicate (N.length - ds.length) none) (L2.start N vs) := by
  have hl := r.length
  unfold L2.start
  rw [hl]
  refine ⟨by simp [hl], fun i d e => ?_⟩
  by_cases hi : i < ds.length
  · rw [List.getElem?_append_left (by simpa using hi), List.getElem?_map] at e
    cases q : ds[i]? with
    | none => rw [q] at e; cases e
    | some d' =>
      rw [q] at e
      cases e
      obtain ⟨v, q1, q2⟩ := r.get q
      exact ⟨v, by rw [List.getElem?_append_left (by rw [List.length_map]; omega), List.getElem?_map, q1]; rfl, q2⟩
  · rw [List.getElem?_append_right (by simpa using Nat.le_of_not_lt hi), List.getElem?_replicate] at e
    split at e <;> cases e
/-- a def keeps its promise -/
theorem fn_ok {P : Program} {w : World} {K : Fg} {mg : Mg} {base : Heap} {k m : Nat} {x qual : Str} {st : Stmt} {f : Addr} {fd : FuncData} {N ps : List Str} {b : List S} {Sp : Fn} (F : L2.Fun K x qual st f fd) (S : FnScope N ps (defScope st)) (hm : ps.length = m)
    (nb : ∀ x ∈ BN, mg x = none) (hw : Tabs.w = w) (hc : chkSs N (defScope st) b (defBody st) = true) (ok : okSs ⟨P, w, K, mg, base, k⟩ b)
    (run : ∀ (args : List D) (h : LH), args.length = m → Sp args h = .no ∨ ∃ F, Fin h (runF F N.length b args h) (Sp args h)) : FnOk P w K mg base (L2.CX P w) (k + 1) f fd ps (spD K mg m Sp) := by
  refine F.okX S (fun vs H Q E hsp => ?_) (fun cdv A outer s H vs Q E hr hsp => ?_)
  · obtain ⟨R, μ, h, ds, hl, _, r, _⟩ := hsp
    rw [← r.length, hl, hm]
  · obtain ⟨R, μ, h, ds, hl, Sm, r, p⟩ := hsp
    rcases run ds h hl with hno | ⟨F0, hf⟩
    · rw [hno] at p; exact p.elim
    · have G : GoodS k (defScope st) (cxOf (L2.CX P w) P w K mg base N qual (defScope st) f cdv A outer s H E) :=
        ⟨⟨S.nd, rfl, rfl, hr, nb, hw⟩, passes_of rfl, rfl, rfl, fun _ => rfl, S.kind⟩
      refine ⟨_, soundSs (F := F0) b (defScope st) (cxOf (L2.CX P w) P w K mg base N qual (defScope st) f cdv A outer s H E) (fun cls d _ H => E cls d H) (defBody st) hc ok G (takes_of rfl rfl rfl rfl), R, μ, h, _, Sm, repEnv_start r, ?_⟩
      have p2 := hf.post Sm p
      unfold runF at p2
      show PostS _ _ _ _ _ _ _ _ (evSs F0 b (ds.map some ++ List.replicate (N.length - ds.length) none) h)
      cases q : evSs F0 b (ds.map some ++ List.replicate (N.length - ds.length) none) h with
      | no => rw [q] at p2; exact p2.elim
      | nx e h1 => rw [q] at p2; exact fun μ' H' σ' e' S' r' => p2 μ' H' e' S' _ (repN.mpr rfl)
      | rt d h1 => rw [q] at p2; exact fun μ' H' v e' S' r' => p2 μ' H' e' S' v r'
      | ex x e h1 => rw [q] at p2; exact fun μ' H' σ' cls dx e' S' _ rx => p2 μ' H' cls dx e' S' rx
      | bk e h1 => rw [q] at p2; exact p2.elim
      | ct e h1 => rw [q] at p2; exact p2.elim
/-- .. with defaults -/
theorem fn_okD {P : Program} {w : World} {K : Fg} {mg : Mg} {base : Heap} {k m : Nat} {x qual : Str} {st : Stmt} {f : Addr} {fd : FuncData} {N ps : List Str} {b : List S} {Sp : Fn} {dvs : List V} (F : L2.FunD K x qual (defArgs st) (defBody st) (defScope st) dvs [] f fd) (S : FnScope N ps (defScope st)) (hm : ps.length = m)
    (nb : ∀ x ∈ BN, mg x = none) (hw : Tabs.w = w) (hc : chkSs N (defScope st) b (defBody st) = true) (ok : okSs ⟨P, w, K, mg, base, k⟩ b)
    (run : ∀ (args : List D) (h : LH), args.length = m → Sp args h = .no ∨ ∃ F, Fin h (runF F N.length b args h) (Sp args h)) : FnOk P w K mg base (L2.CX P w) (k + 1) f fd ps (spD K mg m Sp) := by
  refine F.ok S (fun vs H Q E hsp => ?_) (fun cdv A outer s H vs Q E hr hsp => ?_)
  · obtain ⟨R, μ, h, ds, hl, _, r, _⟩ := hsp
    rw [← r.length, hl, hm]
  · obtain ⟨R, μ, h, ds, hl, Sm, r, p⟩ := hsp
    rcases run ds h hl with hno | ⟨F0, hf⟩
    · rw [hno] at p; exact p.elim
    · have G : GoodS k (defScope st) (cxOf (L2.CX P w) P w K mg base N qual (defScope st) f cdv A outer s H E) :=
        ⟨⟨S.nd, rfl, rfl, hr, nb, hw⟩, passes_of rfl, rfl, rfl, fun _ => rfl, S.kind⟩
      refine ⟨_, soundSs (F := F0) b (defScope st) (cxOf (L2.CX P w) P w K mg base N qual (defScope st) f cdv A outer s H E) (fun cls d _ H => E cls d H) (defBody st) hc ok G (takes_of rfl rfl rfl rfl), R, μ, h, _, Sm, repEnv_start r, ?_⟩
      have p2 := hf.post Sm p
      unfold runF at p2
      show PostS _ _ _ _ _ _ _ _ (evSs F0 b (ds.map some ++ List.replicate (N.length - ds.length) none) h)
      cases q : evSs F0 b (ds.map some ++ List.replicate (N.length - ds.length) none) h with
      | no => rw [q] at p2; exact p2.elim
      | nx e h1 => rw [q] at p2; exact fun μ' H' σ' e' S' r' => p2 μ' H' e' S' _ (repN.mpr rfl)
      | rt d h1 => rw [q] at p2; exact fun μ' H' v e' S' r' => p2 μ' H' e' S' v r'
      | ex x e h1 => rw [q] at p2; exact fun μ' H' σ' cls dx e' S' _ rx => p2 μ' H' cls dx e' S' rx
      | bk e h1 => rw [q] at p2; exact p2.elim
      | ct e h1 => rw [q] at p2; exact p2.elim
omit [Tabs] in
/-- the law's own promise: True for every script -/
def spLaw (K : Fg) : Sp := fun vs H Q _ => ∃ (a : Addr) (ns : List Int), vs = [.ref a] ∧ SqL K H a (ns.map V.int) ∧ Only H ∧ ns.length ≤ 63 ∧ ∀ H', Q (.bl true) H'
omit [Tabs] in
def fnLaw : Fn := fun ds h => match ds, h with
  | [.scr ns], [] => if ns.length ≤ 63 then .ok (.bl true) [] else .no
  | _, _ => .no
theorem law_imp {P : Program} {w : World} {K : Fg} {mg : Mg} {base : Heap} {k : Nat} {f : Addr} {fd : FuncData} {ps : List Str} (F : FnOk P w K mg base (L2.CX P w) k f fd ps (spD K mg 1 fnLaw)) : FnOk P w K mg base (L2.CX P w) k f fd ps (spLaw K) := by
  refine F.imp fun vs H Q E hsp => ?_
  obtain ⟨a, ns, rfl, sq, ho, hl, q⟩ := hsp
  refine ⟨fun _ => False, fun _ => 0, [], [.scr ns], rfl, ⟨fun l hl => absurd hl (Nat.not_lt_zero _), fun a r => r.elim, fun i j hi => absurd hi (Nat.not_lt_zero _), fun l o e => by simp at e⟩, reps1.mpr ⟨.ref a, rfl, ?_⟩, ?_⟩
  · simp only [Rep]
    refine ⟨a, rfl, ?_⟩
    rcases sq with sq | sq
    · rcases ho a with z | ⟨o, xs, z⟩
      · rcases sq with sq | ⟨_, sq⟩ <;> (rw [z] at sq; cases sq)
      · rcases sq with sq | ⟨o', sq⟩
        · rw [z] at sq; cases sq
        · exact .inl ⟨o', sq⟩
    · exact .inr sq
  · unfold fnLaw
    simp only
    rw [if_pos hl]
    intro μ' H' _ _ v r
    cases repB.mp r
    exact q H'
end Ev
noncomputable section
namespace Ev
open PySem L2
variable {α β : Type} {h : LH} {env : Env} {m : Bool} {F : Nat}
@[simp] theorem b_ok {a : α} {f : α → LH → Res β} : (Res.ok a h).bind f = f a h := (rfl)
@[simp] theorem bind_ex {x : Exn} {f : α → LH → Res β} : (Res.ex x h).bind f = .ex x h := (rfl)
@[simp] theorem bind_no {f : α → LH → Res β} : (Res.no : Res α).bind f = .no := (rfl)
@[simp] theorem inS_ok {a : α} {f : α → LH → RS} : (Res.ok a h).inS env f = f a h := (rfl)
@[simp] theorem inS_ex {x : Exn} {f : α → LH → RS} : (Res.ex x h).inS env f = .ex x env h := (rfl)
@[simp] theorem inS_no {f : α → LH → RS} : (Res.no : Res α).inS env f = .no := (rfl)
@[simp] theorem seq_nx {f : Env → LH → RS} : (RS.nx env h).seq f = f env h := (rfl)
@[simp] theorem seq_rt {f : Env → LH → RS} {d : D} : (RS.rt d h).seq f = .rt d h := (rfl)
@[simp] theorem seq_bk {f : Env → LH → RS} : (RS.bk env h).seq f = .bk env h := (rfl)
@[simp] theorem seq_ct {f : Env → LH → RS} : (RS.ct env h).seq f = .ct env h := (rfl)
@[simp] theorem seq_ex {f : Env → LH → RS} {x : Exn} : (RS.ex x env h).seq f = .ex x env h := (rfl)
@[simp] theorem seq_no {f : Env → LH → RS} : (RS.no).seq f = .no := (rfl)
/-- a def's end -/
def fin : RS → Res D
  | .nx _ h1 => .ok .non h1
  | .rt d h1 => .ok d h1
  | .ex x _ h1 => .ex x h1
  | _ => .no
@[simp] theorem fin_nx : fin (.nx env h) = .ok .non h := (rfl)
@[simp] theorem fin_rt {d : D} : fin (.rt d h) = .ok d h := (rfl)
@[simp] theorem fin_ex {x : Exn} : fin (.ex x env h) = .ex x h := (rfl)
@[simp] theorem fin_no : fin .no = .no := (rfl)
theorem runF_eq {n : Nat} {b : List S} {args : List D} : runF F n b args h = fin (evSs F b (args.map some ++ List.replicate (n - args.length) none) h) := by
  unfold runF fin
  cases evSs F b (args.map some ++ List.replicate (n - args.length) none) h <;> rfl
@[simp] theorem asL_lst {ds : List D} : asL h (.lst ds) = some ds := (rfl)
theorem asL_loc {n : Nat} {ds : List D} (e : h[n]? = some (.lst ds)) : asL h (.loc n) = some ds := by simp only [asL, e]
@[simp] theorem asL_tup {ds : List D} : asL h (.tup ds) = none := (rfl)
@[simp] theorem asL_str {x : Str} : asL h (.str x) = none := (rfl)
@[simp] theorem asL_int {x : Int} : asL h (.int x) = none := (rfl)
@[simp] theorem asL_bl {x : Bool} : asL h (.bl x) = none := (rfl)
@[simp] theorem asL_non : asL h .non = none := (rfl)
@[simp] theorem asS_tup {ds : List D} : asS h (.tup ds) = some ds := (rfl)
@[simp] theorem asS_lst {ds : List D} : asS h (.lst ds) = some ds := (rfl)
theorem asS_loc {n : Nat} {ds : List D} (e : h[n]? = some (.lst ds)) : asS h (.loc n) = some ds := by simp only [asS, asL, e]
@[simp] theorem truthy_non : truthy h .non = some false := (rfl)
@[simp] theorem truthy_bl {b : Bool} : truthy h (.bl b) = some b := (rfl)
@[simp] theorem truthy_int {i : Int} : truthy h (.int i) = some (i != 0) := (rfl)
@[simp] theorem truthy_tup {ds : List D} : truthy h (.tup ds) = some (!ds.isEmpty) := (rfl)
@[simp] theorem truthy_lst {ds : List D} : truthy h (.lst ds) = some (!ds.isEmpty) := (rfl)
theorem truthy_loc {n : Nat} {ds : List D} (e : h[n]? = some (.lst ds)) : truthy h (.loc n) = some (!ds.isEmpty) := by simp only [truthy, asL, e]
theorem truthy_str {x : Str} (e : x.length ≤ sizeLine) : truthy h (.str x) = some ((x.length : Int) != 0) := by simp only [truthy, e, if_true]
@[simp] theorem alloc_t {ds : List D} : alloc true ds h = .ok (.loc h.length) (h ++ [.lst ds]) := (rfl)
@[simp] theorem alloc_f {ds : List D} : alloc false ds h = .ok (.lst ds) h := (rfl)
@[simp] theorem lenD_tup {ds : List D} : lenD h (.tup ds) = some ((ds.length : Nat) : Int) := (rfl)
@[simp] theorem lenD_lst {ds : List D} : lenD h (.lst ds) = some ((ds.length : Nat) : Int) := (rfl)
@[simp] theorem lenD_scr {ds : List Int} : lenD h (.scr ds) = some ((ds.length : Nat) : Int) := (rfl)
theorem lenD_loc {n : Nat} {ds : List D} (e : h[n]? = some (.lst ds)) : lenD h (.loc n) = some ((ds.length : Nat) : Int) := by simp only [lenD, asL, e]
theorem lenD_str {x : Str} (e : x.length ≤ sizeLine) : lenD h (.str x) = some ((x.length : Nat) : Int) := by simp only [lenD, e, if_true]
@[simp] theorem add_int {i j : Int} : opBin .Add m (.int i) (.int j) h = .ok (.int (i + j)) h := (rfl)
@[simp] theorem sub_int {i j : Int} : opBin .Sub m (.int i) (.int j) h = .ok (.int (i - j)) h := (rfl)
@[simp] theorem mul_int {i j : Int} : opBin .Mult m (.int i) (.int j) h = if (-(2 ^ 64) < i ∧ i < 2 ^ 64) ∨ (-(2 ^ 64) < j ∧ j < 2 ^ 64) then .ok (.int (i * j)) h else .no := (rfl)
@[simp high] theorem mul_lr {i : Int} {n : Nat} (e : n < 18446744073709551616) : opBin .Mult m (.int i) (.int (no_index (OfNat.ofNat n))) h = .ok (.int (i * OfNat.ofNat n)) h := by
  have q : (OfNat.ofNat n : Int) = (n : Int) := (rfl)
  rw [mul_int, if_pos (.inr (by rw [q]; omega))]
@[simp high] theorem mul_ll {i : Int} {n : Nat} (e : n < 18446744073709551616) : opBin .Mult m (.int (no_index (OfNat.ofNat n))) (.int i) h = .ok (.int (OfNat.ofNat n * i)) h := by
  have q : (OfNat.ofNat n : Int) = (n : Int) := (rfl)
  rw [mul_int, if_pos (.inl (by rw [q]; omega))]
@[simp] theorem mul_tup {ds : List D} {k : Int} : opBin .Mult m (.tup ds) (.int k) h = if ds ≠ [] ∧ 2 ≤ k ∧ k ≤ 1000 ∧ ds.length ≤ 1000 then .ok (.tup (List.replicate k.toNat ds).flatten) h else .no := (rfl)
@[simp] theorem div_int {i j : Int} : opBin .FloorDiv m (.int i) (.int j) h = if 0 < j ∧ j.natAbs.log2 < 9000 then .ok (.int (i / j)) h else .no := (rfl)
@[simp] theorem mod_int {i j : Int} : opBin .Mod m (.int i) (.int j) h = if 0 < j then .ok (.int (i % j)) h else .no := (rfl)
@[simp] theorem pow_int {i j : Int} : opBin .Pow m (.int i) (.int j) h = if 0 ≤ j ∧ j ≤ 1000000 ∧ i.natAbs < 2 ^ 64 then .ok (.int (i ^ j.toNat)) h else .no := (rfl)
@[simp] theorem add_str {x y : Str} : opBin .Add m (.str x) (.str y) h = if x.length + y.length ≤ sizeLine then .ok (.str (x ++ y)) h else .no := (rfl)
@[simp] theorem add_tup {x y : List D} : opBin .Add m (.tup x) (.tup y) h = if x.length + y.length ≤ sizeLine then .ok (.tup (x ++ y)) h else .no := (rfl)
@[simp] theorem add_lst {x y : List D} : opBin .Add m (.lst x) (.lst y) h = if x.length + y.length ≤ sizeLine then alloc m (x ++ y) h else .no := (rfl)
@[simp] theorem cmp_eq {a b : D} : opCmp .Eq a b h = match eqD h a b with | some k => .ok (.bl k) h | none => .no := (rfl)
@[simp] theorem cmp_ne {a b : D} : opCmp .NotEq a b h = match eqD h a b with | some k => .ok (.bl (!k)) h | none => .no := (rfl)
@[simp] theorem cmp_in {a b : D} : opCmp .In a b h = match inD h a b with | some k => .ok (.bl k) h | none => .no := (rfl)
@[simp] theorem cmp_ni {a b : D} : opCmp .NotIn a b h = match inD h a b with | some k => .ok (.bl (!k)) h | none => .no := (rfl)
@[simp] theorem cmp_lt {i j : Int} : opCmp .Lt (.int i) (.int j) h = .ok (.bl (decide (i < j))) h := (rfl)
@[simp] theorem cmp_le {i j : Int} : opCmp .LtE (.int i) (.int j) h = .ok (.bl (decide (i ≤ j))) h := (rfl)
@[simp] theorem cmp_gt {i j : Int} : opCmp .Gt (.int i) (.int j) h = .ok (.bl (decide (j < i))) h := (rfl)
@[simp] theorem cmp_ge {i j : Int} : opCmp .GtE (.int i) (.int j) h = .ok (.bl (decide (j ≤ i))) h := (rfl)
def isNon : D → Bool | .non => true | _ => false
@[simp] theorem isNon1 : isNon .non = true := (rfl)
@[simp] theorem isNon2 {i : Int} : isNon (.int i) = false := (rfl)
@[simp] theorem isNon3 {i : Bool} : isNon (.bl i) = false := (rfl)
@[simp] theorem isNon4 {i : Str} : isNon (.str i) = false := (rfl)
@[simp] theorem isNon5 {i : List D} : isNon (.tup i) = false := (rfl)
@[simp] theorem isNon6 {i : List D} : isNon (.lst i) = false := (rfl)
@[simp] theorem isNon7 {i : Nat} : isNon (.loc i) = false := (rfl)
@[simp] theorem cmp_is {a : D} : opCmp .Is a .non h = .ok (.bl (isNon a)) h := by cases a <;> rfl
@[simp] theorem cmp_isn {a : D} : opCmp .IsNot a .non h = .ok (.bl (!isNon a)) h := by cases a <;> rfl
theorem eqD_of {a b : D} {x y : PyData} (e1 : pdT h a = some x) (e2 : pdT h b = some y) (s1 : SeqAt.shaped x = true) (s2 : SeqAt.shaped y = true) : eqD h a b = some (PyData.eqv x y) := by simp only [eqD, eqP, e1, e2, s1, s2, and_self, if_true]
@[simp] theorem eqD_int {i j : Int} : eqD h (.int i) (.int j) = some (decide (i = j)) := (rfl)
@[simp] theorem idx_tup {ds : List D} {k : Int} : opIdx (.tup ds) (.int k) h = match atI ds k with | some d => .ok d h | none => .no := (rfl)
@[simp] theorem idx_lst {ds : List D} {k : Int} : opIdx (.lst ds) (.int k) h = match atI ds k with | some d => .ok d h | none => .no := (rfl)
@[simp] theorem idx_scr {ds : List Int} {k : Int} : opIdx (.scr ds) (.int k) h = match atI ds k with | some d => .ok (.int d) h | none => .no := (rfl)
theorem idx_loc {n : Nat} {ds : List D} {k : Int} (e : h[n]? = some (.lst ds)) : opIdx (.loc n) (.int k) h = match atI ds k with | some d => .ok d h | none => .no := by simp only [opIdx, opIdxS, asD, asL, e] <;> rfl
theorem idx_str {x : Str} {k : Int} (e : x.length ≤ sizeLine) : opIdx (.str x) (.int k) h = match atI x.cps.toList k with | some c => .ok (.str ⟨#[c]⟩) h | none => .no := by simp only [opIdx, opIdxS, asD, e, if_true] <;> rfl
theorem atI_nat {α : Type} {xs : List α} {k : Nat} {x : α} (e : xs[k]? = some x) : atI xs (k : Int) = some x := by
  have hk := (List.getElem?_eq_some_iff.mp e).1
  have h1 : (0 : Int) ≤ (k : Int) := by omega
  have h2 : (k : Int) < (xs.length : Int) := by omega
  simp only [atI, ixN, h1, h2, if_true, Option.bind_some, Int.toNat_natCast, e]
@[simp] theorem atI0 {α : Type} {x : α} {xs : List α} : atI (x :: xs) 0 = some x := atI_nat (k := 0) rfl
@[simp] theorem atI1 {α : Type} {x y : α} {xs : List α} : atI (x :: y :: xs) 1 = some y := atI_nat (k := 1) rfl
@[simp] theorem atI2 {α : Type} {x y z : α} {xs : List α} : atI (x :: y :: z :: xs) 2 = some z := atI_nat (k := 2) rfl
@[simp] theorem cut_tup {ds : List D} {lo hi : Option Int} : opCut m (.tup ds) lo hi h = .ok (.tup (cutL ds lo hi)) h := (rfl)
@[simp] theorem cut_lst {ds : List D} {lo hi : Option Int} : opCut m (.lst ds) lo hi h = alloc m (cutL ds lo hi) h := (rfl)
theorem cut_loc {n : Nat} {ds : List D} {lo hi : Option Int} (e : h[n]? = some (.lst ds)) : opCut m (.loc n) lo hi h = alloc m (cutL ds lo hi) h := by simp only [opCut, asL, e]
theorem cut_str {x : Str} {lo hi : Option Int} (e : x.length ≤ sizeLine) : opCut m (.str x) lo hi h = .ok (.str (cutS x lo hi)) h := by simp only [opCut, e, if_true]
theorem isi_in {T t : String} {d : D} (e : tyN h d = some t) (c : isiTys.contains T = true) : isiD h T d = some (t == T || (t == "bool" && T == "int")) := by simp only [isiD, e, c, if_true]
@[simp] theorem isi_s1 : isiD h "str" .non = some false := (rfl)
@[simp] theorem isi_s2 {b : Bool} : isiD h "str" (.bl b) = some false := (rfl)
@[simp] theorem isi_s3 {b : Int} : isiD h "str" (.int b) = some false := (rfl)
@[simp] theorem isi_s4 {b : Str} : isiD h "str" (.str b) = some true := (rfl)
@[simp] theorem isi_s5 {b : List D} : isiD h "str" (.tup b) = some false := (rfl)
@[simp] theorem isi_s6 {b : List D} : isiD h "str" (.lst b) = some false := (rfl)
@[simp] theorem isi_i1 : isiD h "int" .non = some false := (rfl)
@[simp] theorem isi_i2 {b : Bool} : isiD h "int" (.bl b) = some true := (rfl)
@[simp] theorem isi_i3 {b : Int} : isiD h "int" (.int b) = some true := (rfl)
@[simp] theorem isi_i4 {b : Str} : isiD h "int" (.str b) = some false := (rfl)
@[simp] theorem isi_i5 {b : List D} : isiD h "int" (.tup b) = some false := (rfl)
@[simp] theorem isi_i6 {b : List D} : isiD h "int" (.lst b) = some false := (rfl)
@[simp] theorem isi_b1 : isiD h "bool" .non = some false := (rfl)
@[simp] theorem isi_b2 {b : Bool} : isiD h "bool" (.bl b) = some true := (rfl)
@[simp] theorem isi_b3 {b : Int} : isiD h "bool" (.int b) = some false := (rfl)
@[simp] theorem isi_b4 {b : Str} : isiD h "bool" (.str b) = some false := (rfl)
@[simp] theorem isi_b5 {b : List D} : isiD h "bool" (.tup b) = some false := (rfl)
@[simp] theorem isi_b6 {b : List D} : isiD h "bool" (.lst b) = some false := (rfl)
@[simp] theorem isi_t1 : isiD h "tuple" .non = some false := (rfl)
@[simp] theorem isi_t2 {b : Bool} : isiD h "tuple" (.bl b) = some false := (rfl)
@[simp] theorem isi_t3 {b : Int} : isiD h "tuple" (.int b) = some false := (rfl)
@[simp] theorem isi_t4 {b : Str} : isiD h "tuple" (.str b) = some false := (rfl)
@[simp] theorem isi_t5 {b : List D} : isiD h "tuple" (.tup b) = some true := (rfl)
@[simp] theorem isi_t6 {b : List D} : isiD h "tuple" (.lst b) = some false := (rfl)
@[simp] theorem isi_l1 : isiD h "list" .non = some false := (rfl)
@[simp] theorem isi_l2 {b : Bool} : isiD h "list" (.bl b) = some false := (rfl)
@[simp] theorem isi_l3 {b : Int} : isiD h "list" (.int b) = some false := (rfl)
@[simp] theorem isi_l4 {b : Str} : isiD h "list" (.str b) = some false := (rfl)
@[simp] theorem isi_l5 {b : List D} : isiD h "list" (.tup b) = some false := (rfl)
@[simp] theorem isi_l6 {b : List D} : isiD h "list" (.lst b) = some true := (rfl)
@[simp] theorem bi_len {d : D} : biF .len m [d] h = match lenD h d with | some n => .ok (.int n) h | none => .no := by cases d <;> rfl
@[simp] theorem bi_int {i : Int} : biF .int1 m [.int i] h = .ok (.int i) h := (rfl)
@[simp] theorem bi_intb {i : Bool} : biF .int1 m [.bl i] h = .ok (.int (if i then 1 else 0)) h := (rfl)
theorem bi_ints {x : Str} {n : Int} (e : PySem.intText? x = some n) (l : x.length ≤ 640) : biF .int1 m [.str x] h = .ok (.int n) h := by simp only [biF, e, l, if_true]
@[simp] theorem bi_abs {i : Int} : biF .abs1 m [.int i] h = .ok (.int (if i < 0 then -i else i)) h := (rfl)
@[simp] theorem bi_min {i j : Int} : biF .min2 m [.int i, .int j] h = .ok (.int (if j < i then j else i)) h := (rfl)
@[simp] theorem bi_max {i j : Int} : biF .max2 m [.int i, .int j] h = .ok (.int (if j > i then j else i)) h := (rfl)
@[simp] theorem bi_tup {d : D} : biF .tuple1 m [d] h = match asS h d with | some l => .ok (.tup l) h | none => .no := by cases d <;> rfl
@[simp] theorem bi_lst {d : D} : biF .list1 m [d] h = match asS h d with | some l => alloc m l h | none => .no := by cases d <;> rfl
@[simp] theorem bi_all {d : D} : biF .all1 m [d] h = match (asL h d).bind boolsOf with | some bs => .ok (.bl (bs.all id)) h | none => .no := by cases d <;> rfl
@[simp] theorem bi_sum {d : D} : biF .sum1 m [d] h = match (asL h d).bind intsOf with | some bs => .ok (.int bs.sum) h | none => .no := by cases d <;> rfl
@[simp] theorem bi_str {i : Int} : biF .str1 m [.int i] h = if i.natAbs.log2 < 1920 then .ok (.str (toString i)) h else .no := (rfl)
@[simp] theorem mt_app {n : Nat} {d : D} : mtF .append m (.loc n) [d] h = match h[n]? with | some (.lst xs) => if xs.length < sizeLine then .ok .non (h.set n (.lst (xs ++ [d]))) else .no | _ => .no := (rfl)
@[simp] theorem mt_pop {n : Nat} : mtF .pop m (.loc n) [] h = match h[n]? with | some (.lst xs) => (match xs[xs.length - 1]? with | some y => .ok y (h.set n (.lst xs.dropLast)) | none => .no) | _ => .no := (rfl)
theorem mt_pop0 {n : Nat} {x : D} {xs : List D} (e : h[n]? = some (.lst (x :: xs))) : mtF .popAt m (.loc n) [.int 0] h = .ok x (h.set n (.lst xs)) := by
  have q : seqIndex? 0 (x :: xs).length = some 0 := by simp [seqIndex?]
  simp only [mtF, e, q]
  simp
@[simp] theorem mo_popAt {d : D} : mtOk .popAt h d = (asL h d).isSome := by cases d <;> rfl
@[simp] theorem mt_join {s : Str} {d : D} : mtF .join m (.str s) [d] h = match (asS h d).bind strsOf with | some ys => if (ys.map (·.length)).sum + ys.length * s.length ≤ 16777216 then .ok (.str (Txt.join s ys)) h else .no | none => .no := by cases d <;> rfl
@[simp] theorem mt_split {a b : Str} : mtF .split m (.str a) [.str b] h = if (b.length == 0) = false ∧ a.length + 2 ≤ sizeLine then alloc m ((Txt.split a b).map D.str) h else .no := (rfl)
@[simp] theorem mo_join {s : Str} : mtOk .join h (.str s) = true := (rfl)
@[simp] theorem mo_split {s : Str} : mtOk .split h (.str s) = true := (rfl)
@[simp] theorem mo_app {d : D} : mtOk .append h d = (asL h d).isSome := by cases d <;> rfl
@[simp] theorem mo_pop {d : D} : mtOk .pop h d = (asL h d).isSome := by cases d <;> rfl
@[simp] theorem bools_nil : boolsOf [] = some [] := (rfl)
@[simp] theorem bools_map {α : Type} (f : α → Bool) : ∀ l : List α, boolsOf (l.map fun x => D.bl (f x)) = some (l.map f)
  | [] => rfl
  | x :: l => by simp only [List.map_cons, boolsOf, bools_map f l]
@[simp] theorem ints_map {α : Type} (f : α → Int) : ∀ l : List α, intsOf (l.map fun x => D.int (f x)) = some (l.map f)
  | [] => rfl
  | x :: l => by simp only [List.map_cons, intsOf, ints_map f l]
@[simp] theorem strs_map {α : Type} (f : α → Str) : ∀ l : List α, strsOf (l.map fun x => D.str (f x)) = some (l.map f)
  | [] => rfl
  | x :: l => by simp only [List.map_cons, strsOf, strs_map f l]
@[simp] theorem bT_nm {i : Nat} {d : D} : bindT (.nm i) d env = if i < env.length then some (env.set i (some d)) else none := by rw [bindT]
@[simp] theorem bindT_tp {ts : List T} {ds : List D} : bindT (.tp ts) (.tup ds) env = if ts.length = ds.length then bindTs ts ds env else none := by rw [bindT]
@[simp] theorem bindTs_nil : bindTs [] [] env = some env := by rw [bindTs]
@[simp] theorem bindTs_cons {t : T} {ts : List T} {d : D} {ds : List D} : bindTs (t :: ts) (d :: ds) env = match bindT t d env with | some env' => bindTs ts ds env' | none => none := by rw [bindTs] <;> rfl
@[simp] theorem wipe_nil : wipeE env [] = env := (rfl)
@[simp] theorem wipe_cons {v : Nat} {vs : List Nat} : wipeE env (v :: vs) = (wipeE env vs).set v none := (rfl)
@[simp] theorem src_tup {ds : List D} : seqSrc h (.tup ds) = some ([], ds) := (rfl)
@[simp] theorem src_lst {ds : List D} : seqSrc h (.lst ds) = some ([], ds) := (rfl)
@[simp] theorem src_str {x : Str} : seqSrc h (.str x) = some ([], x.cps.toList.map fun c => D.str ⟨#[c]⟩) := (rfl)
theorem src_loc {n : Nat} {ds : List D} (e : h[n]? = some (.lst ds)) : seqSrc h (.loc n) = some ([(n, ds)], ds) := by simp only [seqSrc, e]
@[simp] theorem rng1 {j : Int} : rangeItems [.int j] = if -(2 ^ 62) ≤ j ∧ j < 2 ^ 62 then some ((List.range j.toNat).map fun i => D.int (i : Nat)) else none := (rfl)
@[simp] theorem rng2 {i j : Int} : rangeItems [.int i, .int j] = if -(2 ^ 62) ≤ i ∧ i < 2 ^ 62 ∧ -(2 ^ 62) ≤ j ∧ j < 2 ^ 62 then some ((List.range (j - i).toNat).map fun k => D.int (i + (k : Nat))) else none := (rfl)
def setL (h : LH) (n : Nat) (k : Int) (v : D) : Option LH := match h[n]? with | some (.lst ds) => (match ixN ds.length k with | some j => some (h.set n (.lst (ds.set j v))) | none => none) | some (.dct kvs) => (if kOk kvs (.int k) = true ∧ kvs.length < sizeLine then some (h.set n (.dct (dput kvs (.int k) v))) else none) | _ => none
@[simp] theorem set_loc {n : Nat} {k : Int} {v : D} : setSub (.loc n) (.int k) v h = setL h n k v := (rfl)
@[simp] theorem setL_eq {n : Nat} {k : Int} {v : D} {ds : List D} (e : h[n]? = some (.lst ds)) : setL h n k v = match ixN ds.length k with | some j => some (h.set n (.lst (ds.set j v))) | none => none := by simp only [setL, e] <;> rfl
theorem set_dct {n : Nat} {k v : D} {kvs : List (D × D)} (e : h[n]? = some (.dct kvs)) : setSub (.loc n) k v h = if kOk kvs k = true ∧ kvs.length < sizeLine then some (h.set n (.dct (dput kvs k v))) else none := by simp only [setSub, e]
@[simp] theorem cst_n : cstD .none = some .non := (rfl)
@[simp] theorem cst_b {b : Bool} : cstD (.bool b) = some (.bl b) := (rfl)
@[simp] theorem cst_i {b : Int} : cstD (.int b) = some (.int b) := (rfl)
@[simp] theorem cst_s {b : Str} : cstD (.str b) = some (.str b) := (rfl)
def rdv (env : Env) (h : LH) (i : Nat) : Res D := match env[i]? with | some (some d) => .ok d h | _ => .no
@[simp] theorem rdv0 {d : D} : rdv (some d :: env) h 0 = .ok d h := (rfl)
@[simp] theorem rdv_s {x : Option D} {i : Nat} : rdv (x :: env) h (i + 1) = rdv env h i := by simp only [rdv, List.getElem?_cons_succ]
def ofI : D → LH → Res D | .int i, h => .ok (.int (-i)) h | _, _ => .no
def ofN : D → LH → Res D | .bl b, h => .ok (.bl (!b)) h | _, _ => .no
@[simp] theorem ofI_int {i : Int} : ofI (.int i) h = .ok (.int (-i)) h := (rfl)
@[simp] theorem ofN_bl {i : Bool} : ofN (.bl i) h = .ok (.bl (!i)) h := (rfl)
@[simp] theorem e_var {i : Nat} : evE (.var i) env h = rdv env h i := by rw [evE] <;> rfl
@[simp] theorem e_cst {c : Const} : evE (.cst c) env h = match cstD c with | some d => .ok d h | none => .no := by rw [evE] <;> rfl
@[simp] theorem e_glob {x : Str} {d : D} : evE (.glob x d) env h = .ok d h := by rw [evE]
def kTup (ds : List D) (h1 : LH) : Res D := if ds.length ≤ sizeLine then .ok (.tup ds) h1 else .no
@[simp] theorem kTup_eq {ds : List D} : kTup ds h = if ds.length ≤ sizeLine then .ok (.tup ds) h else .no := (rfl)
@[simp] theorem e_tup {es : List E} : evE (.tup es) env h = (evEs es env h).bind kTup := by rw [evE] <;> rfl
def kLst (m : Bool) (ds : List D) (h1 : LH) : Res D := if ds.length ≤ sizeLine then alloc m ds h1 else .no
@[simp] theorem kLst_eq {ds : List D} : kLst m ds h = if ds.length ≤ sizeLine then alloc m ds h else .no := (rfl)
@[simp] theorem e_lst {es : List E} : evE (.lst m es) env h = (evEs es env h).bind (kLst m) := by rw [evE] <;> rfl
def kBin (op : Operator) (m : Bool) (b : E) (env : Env) (x : D) (h1 : LH) : Res D := (evE b env h1).bind (opBin op m x)
@[simp] theorem kBin_eq {op : Operator} {b : E} {x : D} : kBin op m b env x h = (evE b env h).bind (opBin op m x) := (rfl)
@[simp] theorem e_bin {op : Operator} {a b : E} : evE (.bin op m a b) env h = (evE a env h).bind (kBin op m b env) := by rw [evE] <;> rfl
@[simp] theorem e_neg {a : E} : evE (.neg a) env h = (evE a env h).bind ofI := by
  rw [evE]; congr 1; funext x h1; cases x <;> rfl
@[simp] theorem e_not {a : E} : evE (.not a) env h = (evE a env h).bind ofN := by
  rw [evE]; congr 1; funext x h1; cases x <;> rfl
@[simp] theorem e_and {es : List E} : evE (.and es) env h = evAnd es env h := by rw [evE]
@[simp] theorem e_or {es : List E} : evE (.or es) env h = evOr es env h := by rw [evE]
def kCmp (op : CmpOp) (b : E) (env : Env) (x : D) (h1 : LH) : Res D := (evE b env h1).bind (opCmp op x)
@[simp] theorem kCmp_eq {op : CmpOp} {b : E} {x : D} : kCmp op b env x h = (evE b env h).bind (opCmp op x) := (rfl)
@[simp] theorem e_cmp {op : CmpOp} {a b : E} : evE (.cmp op a b) env h = (evE a env h).bind (kCmp op b env) := by rw [evE] <;> rfl
def brB (f g : LH → Res D) : D → LH → Res D
  | .bl true, h => f h
  | .bl false, h => g h
  | _, _ => .no
@[simp] theorem brB_bl {f g : LH → Res D} {b : Bool} : brB f g (.bl b) h = if b = true then f h else g h := by cases b <;> rfl
def kBl (b : Bool) (h : LH) : Res D := .ok (.bl b) h
@[simp] theorem kBl_eq {b : Bool} : kBl b h = .ok (.bl b) h := (rfl)
def kChn3 (op' : CmpOp) (c : E) (env : Env) (y : D) (h3 : LH) : Res D := (evE c env h3).bind (opCmp op' y)
@[simp] theorem kChn3_eq {op' : CmpOp} {c : E} {y : D} : kChn3 op' c env y h = (evE c env h).bind (opCmp op' y) := (rfl)
def kChn2 (op op' : CmpOp) (c : E) (env : Env) (x y : D) (h2 : LH) : Res D := (opCmp op x y h2).bind (brB (kChn3 op' c env y) (kBl false))
@[simp] theorem kChn2_eq {op op' : CmpOp} {c : E} {x y : D} : kChn2 op op' c env x y h = (opCmp op x y h).bind (brB (kChn3 op' c env y) (kBl false)) := (rfl)
def kChn (op op' : CmpOp) (b c : E) (env : Env) (x : D) (h1 : LH) : Res D := (evE b env h1).bind (kChn2 op op' c env x)
@[simp] theorem kChn_eq {op op' : CmpOp} {b c : E} {x : D} : kChn op op' b c env x h = (evE b env h).bind (kChn2 op op' c env x) := (rfl)
@[simp] theorem e_chn {op op' : CmpOp} {a b c : E} : evE (.chn op op' a b c) env h = (evE a env h).bind (kChn op op' b c env) := by
  rw [evE]; congr 1; funext x h1; rw [kChn_eq]; congr 1; funext y h2; rw [kChn2_eq]; congr 1; funext k h3
  cases k <;> try rfl
  rename_i b; cases b <;> rfl
def brT (f g : LH → Res D) : Option Bool → LH → Res D
  | some true, h => f h
  | some false, h => g h
  | none, _ => .no
@[simp] theorem brT_s {f g : LH → Res D} {b : Bool} : brT f g (some b) h = if b = true then f h else g h := by cases b <;> rfl
def kIte (a b : E) (env : Env) (x : D) (h1 : LH) : Res D := brT (evE a env) (evE b env) (truthy h1 x) h1
@[simp] theorem kIte_eq {a b : E} {x : D} : kIte a b env x h = brT (evE a env) (evE b env) (truthy h x) h := (rfl)
@[simp] theorem e_ite {c a b : E} : evE (.ite c a b) env h = (evE c env h).bind (kIte a b env) := by
  rw [evE]; congr 1; funext x h1; rw [kIte_eq]
  cases truthy h1 x <;> try rfl
  rename_i b; cases b <;> rfl
def kIdx (i : E) (env : Env) (x : D) (h1 : LH) : Res D := (evE i env h1).bind (opIdx x)
@[simp] theorem kIdx_eq {i : E} {x : D} : kIdx i env x h = (evE i env h).bind (opIdx x) := (rfl)
@[simp] theorem e_idx {a i : E} : evE (.idx a i) env h = (evE a env h).bind (kIdx i env) := by rw [evE] <;> rfl
def kSlc2 (m : Bool) (hi : E) (env : Env) (x : D) (l : Option Int) (h2 : LH) : Res D := (evO hi env h2).bind (opCut m x l)
@[simp] theorem kSlc2_eq {hi : E} {x : D} {l : Option Int} : kSlc2 m hi env x l h = (evO hi env h).bind (opCut m x l) := (rfl)
def kSlc (m : Bool) (lo hi : E) (env : Env) (x : D) (h1 : LH) : Res D := (evO lo env h1).bind (kSlc2 m hi env x)
@[simp] theorem kSlc_eq {lo hi : E} {x : D} : kSlc m lo hi env x h = (evO lo env h).bind (kSlc2 m hi env x) := (rfl)
@[simp] theorem e_slc {a lo hi : E} : evE (.slc m a lo hi) env h = (evE a env h).bind (kSlc m lo hi env) := by rw [evE] <;> rfl
def kIsi (ty : String) (x : D) (h1 : LH) : Res D := match isiD h1 ty x with | some b => .ok (.bl b) h1 | none => .no
@[simp] theorem kIsi_eq {ty : String} {x : D} : kIsi ty x h = match isiD h ty x with | some b => .ok (.bl b) h | none => .no := (rfl)
@[simp] theorem e_isi {a : E} {ty : String} : evE (.isi a ty) env h = (evE a env h).bind (kIsi ty) := by rw [evE] <;> rfl
@[simp] theorem e_bui {f : Bi} {es : List E} : evE (.bui f m es) env h = (evEs es env h).bind (biF f m) := by rw [evE] <;> rfl
def kMet (f : Mt) (m : Bool) (es : List E) (env : Env) (x : D) (h1 : LH) : Res D := if mtOk f h1 x = true then (evEs es env h1).bind (mtF f m x) else .no
@[simp] theorem kMet_eq {f : Mt} {es : List E} {x : D} : kMet f m es env x h = if mtOk f h x = true then (evEs es env h).bind (mtF f m x) else .no := (rfl)
@[simp] theorem e_met {f : Mt} {o : E} {es : List E} : evE (.met f m o es) env h = (evE o env h).bind (kMet f m es env) := by rw [evE] <;> rfl
def kCal (Sp : Fn) (k : Nat) (dfl : List D) (ds : List D) (h1 : LH) : Res D := if ds.length + dfl.length = k then Sp (ds ++ dfl) h1 else .no
@[simp] theorem kCal_eq {Sp : Fn} {k : Nat} {dfl ds : List D} : kCal Sp k dfl ds h = if ds.length + dfl.length = k then Sp (ds ++ dfl) h else .no := (rfl)
@[simp] theorem e_cal {x : Str} {Sp : Fn} {k : Nat} {dfl : List D} {es : List E} : evE (.cal x Sp k dfl es) env h = (evEs es env h).bind (kCal Sp k dfl) := by rw [evE] <;> rfl
/-- a comprehension's run -/
def lcpR (own : List (Str × Nat)) (t : T) (cond : List E) (elt : E) (s : Src) (xs : List D) (env : Env) (h : LH) : Res (List D) := compLoop s (own.map (·.2)) t (fun env1 h2 => (evC cond env1 h2).bind fun b h3 =>
      if b = true then (evE elt env1 h3).bind fun d h4 => .ok (some d) h4 else .ok none h3) xs [] env h
def kLs (ds : List D) (h : LH) : Res D := .ok (.lst ds) h
@[simp] theorem kLs_eq {ds : List D} : kLs ds h = .ok (.lst ds) h := (rfl)
def kLcp (own : List (Str × Nat)) (t : T) (cond : List E) (elt : E) (env : Env) (p : Src × List D) (h1 : LH) : Res D := (lcpR own t cond elt p.1 p.2 env h1).bind kLs
@[simp] theorem kLcp_eq {own : List (Str × Nat)} {t : T} {cond : List E} {elt : E} {p : Src × List D} : kLcp own t cond elt env p h = (lcpR own t cond elt p.1 p.2 env h).bind kLs := (rfl)
@[simp] theorem e_lcp {own : List (Str × Nat)} {t : T} {it : E} {cond : List E} {elt : E} : evE (.lcp own t it cond elt) env h = (evI it env h).bind (kLcp own t cond elt env) := by rw [evE] <;> rfl
def kCons (d : D) (ds : List D) (h : LH) : Res (List D) := .ok (d :: ds) h
@[simp] theorem kCons_eq {d : D} {ds : List D} : kCons d ds h = .ok (d :: ds) h := (rfl)
def kEs (es : List E) (env : Env) (d : D) (h1 : LH) : Res (List D) := (evEs es env h1).bind (kCons d)
@[simp] theorem kEs_eq {es : List E} {d : D} : kEs es env d h = (evEs es env h).bind (kCons d) := (rfl)
@[simp] theorem es_nil : evEs [] env h = .ok [] h := by rw [evEs]
@[simp] theorem es_cons {e : E} {es : List E} : evEs (e :: es) env h = (evE e env h).bind (kEs es env) := by rw [evEs] <;> rfl
@[simp] theorem and_one {e : E} : evAnd [e] env h = evE e env h := by rw [evAnd]
@[simp] theorem and_cons {e e' : E} {es : List E} : evAnd (e :: e' :: es) env h = (evE e env h).bind (brB (evAnd (e' :: es) env) (kBl false)) := by
  rw [evAnd]
  · congr 1; funext x h1
    cases x <;> try rfl
    rename_i b; cases b <;> rfl
  · simp
@[simp] theorem or_one {e : E} : evOr [e] env h = evE e env h := by rw [evOr]
@[simp] theorem or_cons {e e' : E} {es : List E} : evOr (e :: e' :: es) env h = (evE e env h).bind (brB (kBl true) (evOr (e' :: es) env)) := by
  rw [evOr]
  · congr 1; funext x h1
    cases x <;> try rfl
    rename_i b; cases b <;> rfl
  · simp
def ofO : D → LH → Res (Option Int) | .int i, h => .ok (some i) h | _, _ => .no
@[simp] theorem ofO_int {i : Int} : ofO (.int i) h = .ok (some i) h := (rfl)
@[simp] theorem o_no : evO .noe env h = .ok none h := by rw [evO]
@[simp] theorem o_itv {e : E} : evO (.itv e) env h = (evE e env h).bind ofO := by
  rw [evO]; congr 1; funext x h1; cases x <;> rfl
def kItv (d : D) (h1 : LH) : Res (Src × List D) := match seqSrc h1 d with | some p => .ok p h1 | none => .no
@[simp] theorem kItv_eq {d : D} : kItv d h = match seqSrc h d with | some p => .ok p h | none => .no := (rfl)
@[simp] theorem i_itv {e : E} : evI (.itv e) env h = (evE e env h).bind kItv := by rw [evI] <;> rfl
def kR1 (d : D) (h1 : LH) : Res (Src × List D) := match rangeItems [d] with | some l => .ok ([], l) h1 | none => .no
@[simp] theorem kR1_eq {d : D} : kR1 d h = match rangeItems [d] with | some l => .ok ([], l) h | none => .no := (rfl)
@[simp] theorem i_rng1 {a : E} : evI (.rng [a]) env h = (evE a env h).bind kR1 := by rw [evI] <;> rfl
def kR22 (d e : D) (h1 : LH) : Res (Src × List D) := match rangeItems [d, e] with | some l => .ok ([], l) h1 | none => .no
@[simp] theorem kR22_eq {d e : D} : kR22 d e h = match rangeItems [d, e] with | some l => .ok ([], l) h | none => .no := (rfl)
def kR2 (b : E) (env : Env) (d : D) (h1 : LH) : Res (Src × List D) := (evE b env h1).bind (kR22 d)
@[simp] theorem kR2_eq {b : E} {d : D} : kR2 b env d h = (evE b env h).bind (kR22 d) := (rfl)
@[simp] theorem i_rng2 {a b : E} : evI (.rng [a, b]) env h = (evE a env h).bind (kR2 b env) := by rw [evI] <;> rfl
def kTru (d : D) (h1 : LH) : Res Bool := match truthy h1 d with | some b => .ok b h1 | none => .no
@[simp] theorem kTru_eq {d : D} : kTru d h = match truthy h d with | some b => .ok b h | none => .no := (rfl)
@[simp] theorem c_nil : evC [] env h = .ok true h := by rw [evC]
@[simp] theorem c_cons {e : E} {es : List E} : evC (e :: es) env h = (evE e env h).bind kTru := by rw [evC] <;> rfl
@[simp] theorem t_eq {e : E} : evT e env h = (evE e env h).bind kTru := (rfl)
@[simp] theorem asD_dct {ks vs : List D} : asD h (.dct ks vs) = some (ks.zip vs) := (rfl)
theorem asD_loc {n : Nat} {kvs : List (D × D)} (e : h[n]? = some (.dct kvs)) : asD h (.loc n) = some kvs := by simp only [asD, e]
theorem asD_locL {n : Nat} {ds : List D} (e : h[n]? = some (.lst ds)) : asD h (.loc n) = none := by simp only [asD, e]
@[simp] theorem asD_tup {x : List D} : asD h (.tup x) = none := (rfl)
@[simp] theorem asD_lst {x : List D} : asD h (.lst x) = none := (rfl)
@[simp] theorem asD_str {x : Str} : asD h (.str x) = none := (rfl)
theorem idx_D {d k v : D} {kvs : List (D × D)} (e : asD h d = some kvs) (ko : kOk kvs k = true) (g : dget kvs k = some v) : opIdx d k h = .ok v h := by simp only [opIdx, e, ko, g, if_true]
theorem in_D {d k : D} {kvs : List (D × D)} (e : asD h d = some kvs) (ko : kOk kvs k = true) : inD h k d = some (dget kvs k).isSome := by simp only [inD, e, ko, if_true]
theorem get_D {d k x : D} {kvs : List (D × D)} (e : asD h d = some kvs) (ko : kOk kvs k = true) : mtF .get2 m d [k, x] h = .ok ((dget kvs k).getD x) h := by simp only [mtF, e, ko, if_true]
@[simp] theorem mo_get {d : D} : mtOk .get2 h d = (asD h d).isSome := by cases d <;> rfl
@[simp] theorem mo_popK {d : D} : mtOk .popK h d = (asD h d).isSome := by cases d <;> rfl
@[simp] theorem alD {kvs : List (D × D)} : allocD kvs h = .ok (.loc h.length) (h ++ [.dct kvs]) := (rfl)
def kDsp (ds : List D) (h1 : LH) : Res D := match pairUp ds with | none => .no | some kvs => if (kvs.all fun p => keyB p.1) = true ∧ kvs.length ≤ 15 then allocD (kvs.foldl (fun acc p => dput acc p.1 p.2) []) h1 else .no
@[simp] theorem kDsp_eq {ds : List D} {kvs : List (D × D)} (e : pairUp ds = some kvs) (a : (kvs.all fun p => keyB p.1) = true) (b : kvs.length ≤ 15) : kDsp ds h = allocD (kvs.foldl (fun acc p => dput acc p.1 p.2) []) h := by simp only [kDsp, e, a, b, and_self, if_true]
@[simp] theorem pU_nil : pairUp [] = some [] := (rfl)
@[simp] theorem pU_cons {x y : D} {r : List D} : pairUp (x :: y :: r) = match pairUp r with | some l => some ((x, y) :: l) | none => none := (rfl)
@[simp] theorem kB_i {i : Int} : keyB (.int i) = true := (rfl)
@[simp] theorem kB_s {i : Str} : keyB (.str i) = true := (rfl)
theorem kOk_B {kvs : List (D × D)} {k : D} (a : keyB k = true) (b : (kvs.all fun p => keyB p.1) = true) : kOk kvs k = true := by simp only [kOk, a, b, Bool.and_self, Bool.true_or]
@[simp] theorem e_dsp {es : List E} : evE (.dsp es) env h = (evEs es env h).bind kDsp := by rw [evE] <;> rfl
def kTix2 (ds : List D) (x : D) (h2 : LH) : Res D := match strsOf ds, x with
    | some ys, .str z => match ys.idxOf? z with | some k => .ok (.int (k : Nat)) h2 | none => .no
    | _, _ => .no
theorem kTix2_eq {ds : List D} {ys : List Str} {z : Str} {k : Nat} (e : strsOf ds = some ys) (q : ys.idxOf? z = some k) : kTix2 ds (.str z) h = .ok (.int (k : Nat)) h := by simp only [kTix2, e, q]
def kTix (e : E) (env : Env) (ds : List D) (h1 : LH) : Res D := if ds.length ≤ sizeLine then (evE e env h1).bind (kTix2 ds) else .no
@[simp] theorem kTix_eq {e : E} {ds : List D} : kTix e env ds h = if ds.length ≤ sizeLine then (evE e env h).bind (kTix2 ds) else .no := (rfl)
@[simp] theorem e_tix {os : List E} {e : E} : evE (.tix os e) env h = (evEs os env h).bind (kTix e env) := by rw [evE] <;> rfl
def kLrg (m : Bool) (p : Src × List D) (h1 : LH) : Res D := if p.2.length ≤ sizeLine then alloc m p.2 h1 else .no
@[simp] theorem kLrg_eq {p : Src × List D} : kLrg m p h = if p.2.length ≤ sizeLine then alloc m p.2 h else .no := (rfl)
@[simp] theorem e_lrg {it : E} : evE (.lrg m it) env h = (evI it env h).bind (kLrg m) := by rw [evE] <;> rfl
def kRvs (m : Bool) (d : D) (h1 : LH) : Res D := match asL h1 d with | some ds => alloc m ds.reverse h1 | none => .no
@[simp] theorem kRvs_eq {d : D} : kRvs m d h = match asL h d with | some ds => alloc m ds.reverse h | none => .no := (rfl)
@[simp] theorem e_rvs {a : E} : evE (.rvs m a) env h = (evE a env h).bind (kRvs m) := by rw [evE] <;> rfl
def kAtt (c f : Str) (d : D) (h1 : LH) : Res D := match asI h1 d with
  | some (c', fs) => if c' = c then match fs.lookup f with | some v => .ok v h1 | none => .no else .no
  | none => .no
theorem kAtt_eq {c f : Str} {d v : D} {fs : List (Str × D)} (e : asI h d = some (c, fs)) (q : fs.lookup f = some v) : kAtt c f d h = .ok v h := by simp only [kAtt, e, if_true, q]
@[simp] theorem e_att {c f : Str} {o : E} : evE (.att c f o) env h = (evE o env h).bind (kAtt c f) := by rw [evE] <;> rfl
theorem asI_loc {n : Nat} {c : Str} {fs : List (Str × D)} (e : h[n]? = some (.ins c fs)) : asI h (.loc n) = some (c, fs) := by simp only [asI, e]
theorem att_loc {n : Nat} {c f : Str} {v : D} {fs : List (Str × D)} (e : h[n]? = some (.ins c fs)) (q : fs.lookup f = some v) : kAtt c f (.loc n) h = .ok v h := kAtt_eq (asI_loc e) q
def kMca2 (S : Fn) (k : Nat) (dfl : List D) (d : D) (ds : List D) (h2 : LH) : Res D := if ds.length + 1 + dfl.length = k then S (d :: (ds ++ dfl)) h2 else .no
@[simp] theorem kMca2_eq {S : Fn} {k : Nat} {dfl : List D} {d : D} {ds : List D} : kMca2 S k dfl d ds h = if ds.length + 1 + dfl.length = k then S (d :: (ds ++ dfl)) h else .no := (rfl)
def kMca (c x : Str) (S : Fn) (k : Nat) (dfl : List D) (es : List E) (env : Env) (d : D) (h1 : LH) : Res D := match asI h1 d with
  | some (c', fs) => if c' = c ∧ fs.lookup x = none then (evEs es env h1).bind (kMca2 S k dfl d) else .no
  | none => .no
theorem kMca_eq {c x : Str} {S : Fn} {k : Nat} {dfl : List D} {es : List E} {d : D} {fs : List (Str × D)} (e : asI h d = some (c, fs)) (q : fs.lookup x = none) : kMca c x S k dfl es env d h = (evEs es env h).bind (kMca2 S k dfl d) := by simp only [kMca, e, q, and_self, if_true]
theorem mca_loc {n : Nat} {c x : Str} {S : Fn} {k : Nat} {dfl : List D} {es : List E} {fs : List (Str × D)} (e : h[n]? = some (.ins c fs)) (q : fs.lookup x = none) : kMca c x S k dfl es env (.loc n) h = (evEs es env h).bind (kMca2 S k dfl (.loc n)) := kMca_eq (asI_loc e) q
@[simp] theorem e_mca {c x : Str} {S : Fn} {k : Nat} {dfl : List D} {o : E} {es : List E} : evE (.mca c x S k dfl o es) env h = (evE o env h).bind (kMca c x S k dfl es env) := by rw [evE] <;> rfl
def kPrp (c : Str) (S : Fn) (d : D) (h1 : LH) : Res D := match asI h1 d with
  | some (c', _) => if c' = c then (match S [d] h1 with | .ok v h2 => .ok v h2 | _ => .no) else .no
  | none => .no
theorem kPrp_eq {c : Str} {S : Fn} {d v : D} {fs : List (Str × D)} {h2 : LH} (e : asI h d = some (c, fs)) (q : S [d] h = .ok v h2) : kPrp c S d h = .ok v h2 := by simp only [kPrp, e, q, if_true]
theorem prp_loc {n : Nat} {c : Str} {S : Fn} {v : D} {fs : List (Str × D)} {h2 : LH} (e : h[n]? = some (.ins c fs)) (q : S [.loc n] h = .ok v h2) : kPrp c S (.loc n) h = .ok v h2 := kPrp_eq (asI_loc e) q
@[simp] theorem e_prp {c x : Str} {S : Fn} {o : E} : evE (.prp c x S o) env h = (evE o env h).bind (kPrp c S) := by rw [evE] <;> rfl
def kMk2 (n : Nat) (d : D) (h2 : LH) : Res D := match d with | .non => .ok (.loc n) h2 | _ => .no
@[simp] theorem kMk2_eq {n : Nat} : kMk2 n .non h = .ok (.loc n) h := (rfl)
def kMk (c : Str) (S : Fn) (k : Nat) (dfl : List D) (ds : List D) (h1 : LH) : Res D := if ds.length + 1 + dfl.length = k then (S (.loc h1.length :: (ds ++ dfl)) (h1 ++ [.ins c []])).bind (kMk2 h1.length) else .no
@[simp] theorem kMk_eq {c : Str} {S : Fn} {k : Nat} {dfl ds : List D} : kMk c S k dfl ds h = if ds.length + 1 + dfl.length = k then (S (.loc h.length :: (ds ++ dfl)) (h ++ [.ins c []])).bind (kMk2 h.length) else .no := (rfl)
@[simp] theorem e_mk {c : Str} {S : Fn} {k : Nat} {dfl : List D} {es : List E} : evE (.mk c S k dfl es) env h = (evEs es env h).bind (kMk c S k dfl) := by
  rw [evE]; congr 1
def kSat2 (c f : Str) (v : D) (env : Env) (x : D) (h2 : LH) : RS := match setAtt c f x v h2 with | some h3 => .nx env h3 | none => .no
theorem kSat2_eq {c f : Str} {v x : D} {h3 : LH} (e : setAtt c f x v h = some h3) : kSat2 c f v env x h = .nx env h3 := by simp only [kSat2, e]
theorem setAtt_loc {n : Nat} {c f : Str} {v : D} {fs : List (Str × D)} (e : h[n]? = some (.ins c fs)) (q : fs.length < 1000) : setAtt c f (.loc n) v h = some (h.set n (.ins c (putFD f v fs))) := by simp only [setAtt, e, q, and_self, if_true]
theorem sat_loc {n : Nat} {c f : Str} {v : D} {fs : List (Str × D)} (e : h[n]? = some (.ins c fs)) (q : fs.length < 1000) : kSat2 c f v env (.loc n) h = .nx env (h.set n (.ins c (putFD f v fs))) := kSat2_eq (setAtt_loc e q)
def kSat (c f : Str) (o : E) (env : Env) (v : D) (h1 : LH) : RS := (evE o env h1).inS env (kSat2 c f v env)
@[simp] theorem kSat_eq {c f : Str} {o : E} {v : D} : kSat c f o env v h = (evE o env h).inS env (kSat2 c f v env) := (rfl)
@[simp] theorem s_sat {c f : Str} {o e : E} : evS F (.sat c f o e) env h = (evE e env h).inS env (kSat c f o env) := by rw [evS] <;> rfl
def kR33 (d e g : D) (h3 : LH) : Res (Src × List D) := match d, e, g with
    | .int i, .int j, .int z => if z = -1 ∧ -(2 ^ 62) ≤ i ∧ i < 2 ^ 62 ∧ -(2 ^ 62) ≤ j ∧ j < 2 ^ 62 then .ok ([], rangeDown i j) h3 else .no
    | _, _, _ => .no
@[simp] theorem kR33_eq {i j z : Int} : kR33 (.int i) (.int j) (.int z) h = if z = -1 ∧ -(2 ^ 62) ≤ i ∧ i < 2 ^ 62 ∧ -(2 ^ 62) ≤ j ∧ j < 2 ^ 62 then .ok ([], rangeDown i j) h else .no := (rfl)
def kR32 (c : E) (env : Env) (d e : D) (h2 : LH) : Res (Src × List D) := (evE c env h2).bind (kR33 d e)
@[simp] theorem kR32_eq {c : E} {d e : D} : kR32 c env d e h = (evE c env h).bind (kR33 d e) := (rfl)
def kR31 (b c : E) (env : Env) (d : D) (h1 : LH) : Res (Src × List D) := (evE b env h1).bind (kR32 c env d)
@[simp] theorem kR31_eq {b c : E} {d : D} : kR31 b c env d h = (evE b env h).bind (kR32 c env d) := (rfl)
@[simp] theorem i_rng3 {a b c : E} : evI (.rng [a, b, c]) env h = (evE a env h).bind (kR31 b c env) := by rw [evI] <;> rfl
def kEnm (d : D) (h1 : LH) : Res (Src × List D) := match seqSrc h1 d with | some p => (if (asS h1 d).isSome = true then .ok (p.1, enmD p.2) h1 else .no) | none => .no
@[simp] theorem kEnm_eq {d : D} : kEnm d h = match seqSrc h d with | some p => (if (asS h d).isSome = true then .ok (p.1, enmD p.2) h else .no) | none => .no := (rfl)
@[simp] theorem i_enm {a : E} : evI (.enm a) env h = (evE a env h).bind kEnm := by rw [evI] <;> rfl
def kZp2 (d e : D) (h2 : LH) : Res (Src × List D) := match seqSrc h2 d, seqSrc h2 e with | some p, some q => (if (asS h2 d).isSome = true ∧ (asS h2 e).isSome = true then .ok (p.1 ++ q.1, zipD p.2 q.2) h2 else .no) | _, _ => .no
theorem kZp2_eq {d e : D} {p q : Src × List D} (e1 : seqSrc h d = some p) (e2 : seqSrc h e = some q) (e3 : (asS h d).isSome = true) (e4 : (asS h e).isSome = true) : kZp2 d e h = .ok (p.1 ++ q.1, zipD p.2 q.2) h := by simp only [kZp2, e1, e2, e3, e4, and_self, if_true]
def kZp1 (b : E) (env : Env) (d : D) (h1 : LH) : Res (Src × List D) := (evE b env h1).bind (kZp2 d)
@[simp] theorem kZp1_eq {b : E} {d : D} : kZp1 b env d h = (evE b env h).bind (kZp2 d) := (rfl)
@[simp] theorem i_zip {a b : E} : evI (.zip a b) env h = (evE a env h).bind (kZp1 b env) := by rw [evI] <;> rfl
def kSet (i : Nat) (env : Env) (d : D) (h1 : LH) : RS := if i < env.length then .nx (env.set i (some d)) h1 else .no
@[simp] theorem kSet_eq {i : Nat} {d : D} : kSet i env d h = if i < env.length then .nx (env.set i (some d)) h else .no := (rfl)
@[simp] theorem s_set {i : Nat} {e : E} : evS F (.set i e) env h = (evE e env h).inS env (kSet i env) := by rw [evS] <;> rfl
def kUnp (t : T) (env : Env) (d : D) (h1 : LH) : RS := match bindT t d env with | some env' => .nx env' h1 | none => .no
@[simp] theorem kUnp_eq {t : T} {d : D} : kUnp t env d h = match bindT t d env with | some env' => .nx env' h | none => .no := (rfl)
@[simp] theorem s_unp {t : T} {e : E} : evS F (.unp t e) env h = (evE e env h).inS env (kUnp t env) := by rw [evS] <;> rfl
def kStx3 (v x : D) (env : Env) (k : D) (h3 : LH) : RS := match setSub x k v h3 with | some h4 => .nx env h4 | none => .no
@[simp] theorem kStx3_eq {v x k : D} : kStx3 v x env k h = match setSub x k v h with | some h4 => .nx env h4 | none => .no := (rfl)
def kStx2 (v : D) (i : E) (env : Env) (x : D) (h2 : LH) : RS := (evE i env h2).inS env (kStx3 v x env)
@[simp] theorem kStx2_eq {v x : D} {i : E} : kStx2 v i env x h = (evE i env h).inS env (kStx3 v x env) := (rfl)
def kStx (o i : E) (env : Env) (v : D) (h1 : LH) : RS := (evE o env h1).inS env (kStx2 v i env)
@[simp] theorem kStx_eq {v : D} {o i : E} : kStx o i env v h = (evE o env h).inS env (kStx2 v i env) := (rfl)
@[simp] theorem s_stx {o i e : E} : evS F (.stx o i e) env h = (evE e env h).inS env (kStx o i env) := by rw [evS] <;> rfl
def kExp (env : Env) (_ : D) (h1 : LH) : RS := .nx env h1
@[simp] theorem kExp_eq {d : D} : kExp env d h = .nx env h := (rfl)
@[simp] theorem s_exp {e : E} : evS F (.exp e) env h = (evE e env h).inS env (kExp env) := by rw [evS] <;> rfl
@[simp] theorem s_ret {e : E} : evS F (.ret e) env h = (evE e env h).inS env RS.rt := by rw [evS]
@[simp] theorem s_retN : evS F .retN env h = .rt .non h := by rw [evS]
/-- an if's two ways -/
def br (a b : LH → RS) (k : Bool) (h : LH) : RS := if k = true then a h else b h
@[simp] theorem br_t {a b : LH → RS} : br a b true h = a h := (rfl)
@[simp] theorem br_f {a b : LH → RS} : br a b false h = b h := (rfl)
@[simp] theorem s_ifs {c : E} {a b : List S} : evS F (.ifs c a b) env h = (evT c env h).inS env (br (evSs F a env) (evSs F b env)) := by rw [evS] <;> rfl
def forR (F : Nat) (t : T) (b : List S) (s : Src) (xs : List D) (env : Env) (h : LH) : RS := forLoop s t (fun env1 h2 => evSs F b env1 h2) xs env h
def kFor (F : Nat) (t : T) (b : List S) (env : Env) (p : Src × List D) (h1 : LH) : RS := forR F t b p.1 p.2 env h1
@[simp] theorem kFor_eq {t : T} {b : List S} {p : Src × List D} : kFor F t b env p h = forR F t b p.1 p.2 env h := (rfl)
@[simp] theorem s_for {t : T} {it : E} {b : List S} : evS F (.for_ t it b) env h = (evI it env h).inS env (kFor F t b env) := by rw [evS] <;> rfl
def whR (F : Nat) (c : E) (b : List S) (n : Nat) (env : Env) (h : LH) : RS := whileLoop (fun env1 h1 => evT c env1 h1) (fun env1 h1 => evSs F b env1 h1) n env h
@[simp] theorem s_whl {c : E} {b : List S} : evS F (.whl c b) env h = whR F c b F env h := by rw [evS] <;> rfl
@[simp] theorem s_rai {x : Str} : evS F (.rai x) env h = .ex ⟨x, none⟩ env h := by rw [evS]
def kRaiA (x f : Str) (env : Env) (d : D) (h1 : LH) : RS := .ex ⟨x, some (f, d)⟩ env h1
@[simp] theorem kRaiA_eq {x f : Str} {d : D} : kRaiA x f env d h = .ex ⟨x, some (f, d)⟩ env h := (rfl)
@[simp] theorem s_raiA {x f : Str} {e : E} : evS F (.raiA x f e) env h = (evE e env h).inS env (kRaiA x f env) := by rw [evS] <;> rfl
def tryB (x : Str) (ei : Nat) (f : Str) (ti : Nat) : RS → RS
  | .ex y env1 h1 => handleA x ei f ti y env1 h1
  | r => r
@[simp] theorem tryB_nx {x f : Str} {ei ti : Nat} : tryB x ei f ti (.nx env h) = .nx env h := (rfl)
@[simp] theorem tryB_rt {x f : Str} {ei ti : Nat} {d : D} : tryB x ei f ti (.rt d h) = .rt d h := (rfl)
@[simp] theorem tryB_ex {x f : Str} {ei ti : Nat} {y : Exn} : tryB x ei f ti (.ex y env h) = handleA x ei f ti y env h := (rfl)
@[simp] theorem s_tryA {b : List S} {x f : Str} {ei ti : Nat} : evS F (.tryA b x ei f ti) env h = tryB x ei f ti (evSs F b env h) := by rw [evS] <;> rfl
def tryR (xs : List Str) (hs : List (Str × Nat × Const)) : RS → RS
  | .ex x env1 h1 => if xs.contains x.cls then handle xs hs x env1 h1 else .no
  | r => r
@[simp] theorem tryR_nx {xs : List Str} {hs : List (Str × Nat × Const)} : tryR xs hs (.nx env h) = .nx env h := (rfl)
@[simp] theorem tryR_rt {xs : List Str} {hs : List (Str × Nat × Const)} {d : D} : tryR xs hs (.rt d h) = .rt d h := (rfl)
@[simp] theorem tryR_ex {xs : List Str} {hs : List (Str × Nat × Const)} {x : Exn} : tryR xs hs (.ex x env h) = if xs.contains x.cls then handle xs hs x env h else .no := (rfl)
@[simp] theorem s_try {xs : List Str} {b : List S} {hs : List (Str × Nat × Const)} : evS F (.tryS xs b hs) env h = tryR xs hs (evSs F b env h) := by rw [evS] <;> rfl
@[simp] theorem s_pas : evS F .pas env h = .nx env h := by rw [evS]
@[simp] theorem s_brk : evS F .brk env h = .bk env h := by rw [evS]
@[simp] theorem s_cnt : evS F .cnt env h = .ct env h := by rw [evS]
@[simp] theorem ss_nil : evSs F [] env h = .nx env h := by rw [evSs]
@[simp] theorem ss_cons {s : S} {ss : List S} : evSs F (s :: ss) env h = (evS F s env h).seq (evSs F ss) := by rw [evSs]
end Ev
end
noncomputable section
namespace Ev
open PySem L2
/-- no location, no script, texts and rows of at most b, at most n deep -/
def fit (b : Nat) : Nat → D → Prop
  | _, .non => True
  | _, .bl _ => True
  | _, .int _ => True
  | _, .str x => x.length ≤ b ∧ PyData.strOk x = true
  | n + 1, .tup ds => ds.length ≤ b ∧ ∀ d ∈ ds, fit b n d
  | n + 1, .lst ds => ds.length ≤ b ∧ ∀ d ∈ ds, fit b n d
  | _, _ => False
def fitB (b : Nat) : Nat → D → Bool
  | _, .non => true
  | _, .bl _ => true
  | _, .int _ => true
  | _, .str x => decide (x.length ≤ b) && PyData.strOk x
  | n + 1, .tup ds => decide (ds.length ≤ b) && ds.all (fitB b n)
  | n + 1, .lst ds => decide (ds.length ≤ b) && ds.all (fitB b n)
  | _, _ => false
theorem fit_of : ∀ {b n : Nat} {d : D}, fitB b n d = true → fit b n d
  | b, n, .non, _ => by cases n <;> trivial
  | b, n, .bl _, _ => by cases n <;> trivial
  | b, n, .int _, _ => by cases n <;> trivial
  | b, n, .str x, h => by cases n <;> simpa [fitB, fit] using h
  | b, n + 1, .tup ds, h => by
    simp only [fitB, Bool.and_eq_true, decide_eq_true_eq, List.all_eq_true] at h
    exact ⟨h.1, fun d hd => fit_of (h.2 d hd)⟩
  | b, n + 1, .lst ds, h => by
    simp only [fitB, Bool.and_eq_true, decide_eq_true_eq, List.all_eq_true] at h
    exact ⟨h.1, fun d hd => fit_of (h.2 d hd)⟩
  | b, 0, .tup ds, h => by simp [fitB] at h
  | b, 0, .lst ds, h => by simp [fitB] at h
  | b, n, .loc _, h => by cases n <;> simp [fitB] at h
  | b, n, .scr _, h => by cases n <;> simp [fitB] at h
  | b, n, .dct _ _, h => by cases n <;> simp [fitB] at h
  | b, n, .ins _ _ _, h => by cases n <;> simp [fitB] at h
  | b, n, .clo _ _, h => by cases n <;> simp [fitB] at h
theorem fit_mono : ∀ {b b' n n' : Nat} {d : D}, b ≤ b' → n ≤ n' → fit b n d → fit b' n' d
  | b, b', n, n', .non, _, _, _ => by cases n' <;> trivial
  | b, b', n, n', .bl _, _, _, _ => by cases n' <;> trivial
  | b, b', n, n', .int _, _, _, _ => by cases n' <;> trivial
  | b, b', n, n', .str x, hb, _, h => by
    have : x.length ≤ b ∧ PyData.strOk x = true := by cases n <;> exact h
    cases n' <;> exact ⟨Nat.le_trans this.1 hb, this.2⟩
  | b, b', n + 1, n' + 1, .tup ds, hb, hn, h => ⟨Nat.le_trans h.1 hb, fun d hd => fit_mono hb (Nat.le_of_succ_le_succ hn) (h.2 d hd)⟩
  | b, b', n + 1, n' + 1, .lst ds, hb, hn, h => ⟨Nat.le_trans h.1 hb, fun d hd => fit_mono hb (Nat.le_of_succ_le_succ hn) (h.2 d hd)⟩
  | b, b', n + 1, 0, .tup ds, _, hn, _ => absurd hn (Nat.not_succ_le_zero n)
  | b, b', n + 1, 0, .lst ds, _, hn, _ => absurd hn (Nat.not_succ_le_zero n)
  | b, b', 0, n', .tup ds, _, _, h => h.elim
  | b, b', 0, n', .lst ds, _, _, h => h.elim
  | b, b', n, n', .loc _, _, _, h => by cases n <;> exact h.elim
  | b, b', n, n', .scr _, _, _, h => by cases n <;> exact h.elim
  | b, b', n, n', .dct _ _, _, _, h => by cases n <;> exact h.elim
  | b, b', n, n', .ins _ _ _, _, _, h => by cases n <;> exact h.elim
  | b, b', n, n', .clo _ _, _, _, h => by cases n <;> exact h.elim
@[simp] theorem fit_non {b n} : fit b n .non := by cases n <;> trivial
@[simp] theorem fit_bl {b n k} : fit b n (.bl k) := by cases n <;> trivial
@[simp] theorem fit_int {b n k} : fit b n (.int k) := by cases n <;> trivial
@[simp] theorem fit_str {b n x} : fit b n (.str x) ↔ x.length ≤ b ∧ PyData.strOk x = true := by cases n <;> exact Iff.rfl
@[simp] theorem fit_loc {b n k} : ¬ fit b n (.loc k) := by cases n <;> exact id
@[simp] theorem fit_scr {b n k} : ¬ fit b n (.scr k) := by cases n <;> exact id
@[simp] theorem fit_dct {b n k l} : ¬ fit b n (.dct k l) := by cases n <;> exact id
@[simp] theorem fit_ins {b n k l m} : ¬ fit b n (.ins k l m) := by cases n <;> exact id
@[simp] theorem fit_clo {b n k l} : ¬ fit b n (.clo k l) := by cases n <;> exact id
@[simp] theorem fit_tup {b n ds} : fit b (n + 1) (.tup ds) ↔ ds.length ≤ b ∧ ∀ d ∈ ds, fit b n d := Iff.rfl
@[simp] theorem fit_lst {b n ds} : fit b (n + 1) (.lst ds) ↔ ds.length ≤ b ∧ ∀ d ∈ ds, fit b n d := Iff.rfl
@[simp] theorem fit_tup0 {b ds} : ¬ fit b 0 (.tup ds) := id
@[simp] theorem fit_lst0 {b ds} : ¬ fit b 0 (.lst ds) := id
theorem fit_tup1 {b n ds} (h : fit b n (.tup ds)) : ds.length ≤ b ∧ ∀ d ∈ ds, fit b (n - 1) d := by
  cases n with
  | zero => exact h.elim
  | succ n => exact h
theorem fit_lst1 {b n ds} (h : fit b n (.lst ds)) : ds.length ≤ b ∧ ∀ d ∈ ds, fit b (n - 1) d := by
  cases n with
  | zero => exact h.elim
  | succ n => exact h
theorem all0 : ∀ {l : List PyData}, (∀ x ∈ l, x.canLay0 = true) → PyData.canLayAll0 l = true
  | [], _ => by rw [PyData.canLayAll0]
  | x :: l, h => by
    rw [PyData.canLayAll0, h x List.mem_cons_self, all0 fun y hy => h y (List.mem_cons_of_mem _ hy)]
    rfl
theorem depthAll_le {n : Nat} : ∀ {l : List PyData}, (∀ x ∈ l, x.depth ≤ n) → PyData.depthAll l ≤ n
  | [], _ => by rw [PyData.depthAll]; exact Nat.zero_le _
  | x :: l, h => by
    rw [PyData.depthAll]
    exact Nat.max_le.mpr ⟨h x List.mem_cons_self, depthAll_le fun y hy => h y (List.mem_cons_of_mem _ hy)⟩
theorem fit_pd : ∀ {b n : Nat} {d : D}, fit b n d → ∃ x, pd d = some x ∧ x.canLay0 = true ∧ x.depth ≤ n
  | b, n, .non, _ => ⟨_, rfl, by rw [PyData.canLay0], by rw [PyData.depth]; exact Nat.zero_le _⟩
  | b, n, .bl _, _ => ⟨_, rfl, by rw [PyData.canLay0], by rw [PyData.depth]; exact Nat.zero_le _⟩
  | b, n, .int _, _ => ⟨_, rfl, by rw [PyData.canLay0], by rw [PyData.depth]; exact Nat.zero_le _⟩
  | b, n, .str x, h => ⟨_, rfl, by rw [PyData.canLay0]; exact (by cases n <;> exact h : x.length ≤ b ∧ PyData.strOk x = true).2, by rw [PyData.depth]; exact Nat.zero_le _⟩
  | b, n + 1, .tup ds, h => by
    have all : ∀ es : List D, (∀ d ∈ es, fit b n d) → ∃ l, pds es = some l ∧ ∀ x ∈ l, x.canLay0 = true ∧ x.depth ≤ n := by
      intro es
      induction es with
      | nil => intro _; exact ⟨[], rfl, by simp⟩
      | cons e es ih =>
        intro he
        obtain ⟨x, e1, x1, x2⟩ := fit_pd (he e List.mem_cons_self)
        obtain ⟨l, e2, e3⟩ := ih fun d hd => he d (List.mem_cons_of_mem _ hd)
        refine ⟨x :: l, by simp only [pds, e1, e2], fun y hy => ?_⟩
        rcases List.mem_cons.mp hy with rfl | hy
        · exact ⟨x1, x2⟩
        · exact e3 y hy
    obtain ⟨l, e, p⟩ := all ds h.2
    refine ⟨.tuple l, by simp only [pd, e], ?_, ?_⟩
    · rw [PyData.canLay0]; exact all0 fun x hx => (p x hx).1
    · rw [PyData.depth]; exact Nat.succ_le_succ (depthAll_le fun x hx => (p x hx).2)
  | b, n + 1, .lst ds, h => by
    have all : ∀ es : List D, (∀ d ∈ es, fit b n d) → ∃ l, pds es = some l ∧ ∀ x ∈ l, x.canLay0 = true ∧ x.depth ≤ n := by
      intro es
      induction es with
      | nil => intro _; exact ⟨[], rfl, by simp⟩
      | cons e es ih =>
        intro he
        obtain ⟨x, e1, x1, x2⟩ := fit_pd (he e List.mem_cons_self)
        obtain ⟨l, e2, e3⟩ := ih fun d hd => he d (List.mem_cons_of_mem _ hd)
        refine ⟨x :: l, by simp only [pds, e1, e2], fun y hy => ?_⟩
        rcases List.mem_cons.mp hy with rfl | hy
        · exact ⟨x1, x2⟩
        · exact e3 y hy
    obtain ⟨l, e, p⟩ := all ds h.2
    refine ⟨.list l, by simp only [pd, e], ?_, ?_⟩
    · rw [PyData.canLay0]; exact all0 fun x hx => (p x hx).1
    · rw [PyData.depth]; exact Nat.succ_le_succ (depthAll_le fun x hx => (p x hx).2)
  | b, 0, .tup ds, h => h.elim
  | b, 0, .lst ds, h => h.elim
  | b, n, .loc _, h => by cases n <;> exact h.elim
  | b, n, .scr _, h => by cases n <;> exact h.elim
  | b, n, .dct _ _, h => by cases n <;> exact h.elim
  | b, n, .ins _ _ _, h => by cases n <;> exact h.elim
  | b, n, .clo _ _, h => by cases n <;> exact h.elim
theorem fit_pdT {b n : Nat} {d : D} {h : LH} (f : fit b n d) : pdT h d = pd d := by
  cases d <;> first | rfl | simp at f
theorem fit_shaped {b n : Nat} {d : D} (hn : n ≤ 64) (f : fit b n d) : ∃ x, pd d = some x ∧ SeqAt.shaped x = true := by
  obtain ⟨x, e, a, c⟩ := fit_pd f
  exact ⟨x, e, by simp only [SeqAt.shaped, a, Bool.true_and, decide_eq_true_eq]; omega⟩
def Sat (r : Res D) (Q : D → LH → Prop) : Prop := ∃ d h, r = .ok d h ∧ Q d h
theorem compLoop_pure {s : Src} {own : List Nat} {t : T} {f : Env → LH → Res (Option D)} {env : Env} {h : LH} (so : SrcOk s h) (g : D → Option D) : ∀ (xs acc : List D), (∀ x ∈ xs, ∃ env1, bindT t x (wipeE env own) = some env1 ∧ f env1 h = .ok (g x) h) → acc.length + xs.length ≤ sizeLine → compLoop s own t f xs acc env h = .ok (acc ++ xs.filterMap g) h
  | [], acc, _, _ => by simp [compLoop, so]
  | x :: xs, acc, H, hl => by
    obtain ⟨env1, e1, e2⟩ := H x List.mem_cons_self
    have hl2 : acc.length < sizeLine := by simp only [List.length_cons] at hl; omega
    simp only [compLoop, so, hl2, and_self, if_true, e1, e2]
    cases q : g x with
    | none =>
      simp only
      rw [compLoop_pure so g xs acc (fun y hy => H y (List.mem_cons_of_mem _ hy)) (by simp only [List.length_cons] at hl; omega)]
      simp [List.filterMap_cons, q]
    | some d =>
      simp only
      rw [compLoop_pure so g xs (acc ++ [d]) (fun y hy => H y (List.mem_cons_of_mem _ hy)) (by simp only [List.length_cons, List.length_append, List.length_nil] at hl ⊢; omega)]
      simp [List.filterMap_cons, q]
theorem srcOk_nil {h : LH} : SrcOk [] h := fun p hp => by simp at hp
theorem compLoop_inv {s : Src} {own : List Nat} {t : T} {f : Env → LH → Res (Option D)} {env : Env} {P : LH → Prop} {Q : D → Prop} (so : ∀ h, P h → SrcOk s h) : ∀ (xs acc : List D) (h : LH), P h → (∀ x ∈ xs, ∀ h, P h → ∃ env1, bindT t x (wipeE env own) = some env1 ∧ ∃ d h1, f env1 h = .ok (some d) h1 ∧ P h1 ∧ Q d) → acc.length + xs.length ≤ sizeLine → ∃ ds h1, compLoop s own t f xs acc env h = .ok (acc ++ ds) h1 ∧ P h1 ∧ (∀ d ∈ ds, Q d) ∧ ds.length = xs.length
  | [], acc, h, hp, _, _ => ⟨[], h, by simp [compLoop, so h hp], hp, by simp, rfl⟩
  | x :: xs, acc, h, hp, H, hl => by
    obtain ⟨env1, e1, d, h1, e2, p1, q1⟩ := H x List.mem_cons_self h hp
    have hl2 : acc.length < sizeLine := by simp only [List.length_cons] at hl; omega
    obtain ⟨ds, h2, e3, p2, q2, l2⟩ := compLoop_inv so xs (acc ++ [d]) h1 p1 (fun y hy => H y (List.mem_cons_of_mem _ hy)) (by simp only [List.length_cons, List.length_append, List.length_nil] at hl ⊢; omega)
    refine ⟨d :: ds, h2, ?_, p2, ?_, by simp [l2]⟩
    · simp only [compLoop, so h hp, hl2, and_self, if_true, e1, e2, e3]
      simp
    · intro y hy
      rcases List.mem_cons.mp hy with rfl | hy
      · exact q1
      · exact q2 y hy
theorem lcp_map {own : List (Str × Nat)} {t : T} {elt : E} {s : Src} {xs : List D} {env : Env} {h : LH} (g : D → D) (so : SrcOk s h) (hl : xs.length ≤ sizeLine) (H : ∀ x ∈ xs, ∃ env1, bindT t x (wipeE env (own.map (·.2))) = some env1 ∧ evE elt env1 h = .ok (g x) h) : lcpR own t [] elt s xs env h = .ok (xs.map g) h := by
  unfold lcpR
  rw [compLoop_pure so (fun x => some (g x)) xs [] (fun x hx => ?_) (by simpa using hl)]
  · simp
  · obtain ⟨env1, e1, e2⟩ := H x hx
    exact ⟨env1, e1, by simp [e2]⟩
theorem lcp_filter {own : List (Str × Nat)} {t : T} {c elt : E} {s : Src} {xs : List D} {env : Env} {h : LH} (p : D → Bool) (g : D → D) (so : SrcOk s h) (hl : xs.length ≤ sizeLine) (H : ∀ x ∈ xs, ∃ env1, bindT t x (wipeE env (own.map (·.2))) = some env1 ∧ evE c env1 h = .ok (.bl (p x)) h ∧ (p x = true → evE elt env1 h = .ok (g x) h)) : lcpR own t [c] elt s xs env h = .ok ((xs.filter p).map g) h := by
  unfold lcpR
  rw [compLoop_pure so (fun x => if p x = true then some (g x) else none) xs [] (fun x hx => ?_) (by simpa using hl)]
  · congr 1
    induction xs with
    | nil => rfl
    | cons x xs ih =>
      have ih2 := ih (by simp only [List.length_cons] at hl; omega) fun y hy => H y (List.mem_cons_of_mem _ hy)
      simp only [List.nil_append] at ih2 ⊢
      cases q : p x <;> simp [q, ih2]
  · obtain ⟨env1, e1, e2, e3⟩ := H x hx
    refine ⟨env1, e1, ?_⟩
    cases q : p x
    · simp [e2, q]
    · simp [e2, q, e3 q]
theorem lcp_inv {own : List (Str × Nat)} {t : T} {elt : E} {s : Src} {xs : List D} {env : Env} {h : LH} (P : LH → Prop) (Q : D → Prop) (so : ∀ h, P h → SrcOk s h) (hl : xs.length ≤ sizeLine) (hp : P h) (H : ∀ x ∈ xs, ∀ h, P h → ∃ env1, bindT t x (wipeE env (own.map (·.2))) = some env1 ∧ ∃ d h1, evE elt env1 h = .ok d h1 ∧ P h1 ∧ Q d) : ∃ ds h1, lcpR own t [] elt s xs env h = .ok ds h1 ∧ P h1 ∧ (∀ d ∈ ds, Q d) ∧ ds.length = xs.length := by
  unfold lcpR
  obtain ⟨ds, h1, e, r⟩ := compLoop_inv (f := fun env1 h2 => (evC [] env1 h2).bind fun b h3 => if b = true then (evE elt env1 h3).bind fun d h4 => .ok (some d) h4 else .ok none h3) so xs [] h hp (fun x hx h hp => by
    obtain ⟨env1, e1, d, h1, e2, r⟩ := H x hx h hp
    exact ⟨env1, e1, d, h1, by simp [e2], r⟩) (by simpa using hl)
  exact ⟨ds, h1, by simpa using e, r⟩
/-- a statement's end: on, or handing back -/
def RSat (N : Env → LH → Prop) (R : D → LH → Prop) : RS → Prop
  | .nx e h => N e h
  | .rt d h => R d h
  | _ => False
/-- a loop's body's end -/
def LSat (N B : Env → LH → Prop) (R : D → LH → Prop) : RS → Prop
  | .nx e h => N e h
  | .ct e h => N e h
  | .bk e h => B e h
  | .rt d h => R d h
  | _ => False
theorem forLoop_sat {s : Src} {t : T} {f : Env → LH → RS} {I : List D → Env → LH → Prop} {N : Env → LH → Prop} {R : D → LH → Prop} (step : ∀ x rest env h, I (x :: rest) env h → SrcOk s h ∧ ∃ env1, bindT t x env = some env1 ∧ LSat (I rest) N R (f env1 h)) (last : ∀ env h, I [] env h → SrcOk s h ∧ N env h) : ∀ (xs : List D) (env : Env) (h : LH), I xs env h → RSat N R (forLoop s t f xs env h)
  | [], env, h, hi => by
    obtain ⟨a, b⟩ := last env h hi
    simp only [forLoop, a, if_true]
    exact b
  | x :: xs, env, h, hi => by
    obtain ⟨a, env1, e1, l⟩ := step x xs env h hi
    simp only [forLoop, a, if_true, e1]
    cases q : f env1 h with
    | nx e h1 => rw [q] at l; exact forLoop_sat step last xs e h1 l
    | ct e h1 => rw [q] at l; exact forLoop_sat step last xs e h1 l
    | bk e h1 => rw [q] at l; exact l
    | rt d h1 => rw [q] at l; exact l
    | ex x e h1 => rw [q] at l; exact l.elim
    | no => rw [q] at l; exact l.elim
theorem RSat.seq {N N' : Env → LH → Prop} {R : D → LH → Prop} {r : RS} {f : Env → LH → RS} (a : RSat N' R r) (b : ∀ e h, N' e h → RSat N R (f e h)) : RSat N R (r.seq f) := by
  cases r with
  | nx e h => exact b e h a
  | rt d h => exact a
  | ex => exact a.elim
  | bk => exact a.elim
  | ct => exact a.elim
  | no => exact a.elim
theorem RSat.run {Q : D → LH → Prop} {F n : Nat} {b : List S} {args : List D} {h : LH} (a : RSat (fun _ h => Q .non h) Q (evSs F b (args.map some ++ List.replicate (n - args.length) none) h)) : Sat (runF F n b args h) Q := by
  unfold runF
  cases q : evSs F b (args.map some ++ List.replicate (n - args.length) none) h with
  | nx e h => rw [q] at a; exact ⟨_, _, rfl, a⟩
  | rt d h => rw [q] at a; exact ⟨_, _, rfl, a⟩
  | ex => rw [q] at a; exact a.elim
  | bk => rw [q] at a; exact a.elim
  | ct => rw [q] at a; exact a.elim
  | no => rw [q] at a; exact a.elim
theorem RSat.fin {Q : D → LH → Prop} {r : RS} (a : RSat (fun _ h => Q .non h) Q r) : ∃ d h, Ev.fin r = .ok d h ∧ Q d h := by
  cases r with
  | nx e h => exact ⟨_, _, rfl, a⟩
  | rt d h => exact ⟨_, _, rfl, a⟩
  | ex => exact a.elim
  | bk => exact a.elim
  | ct => exact a.elim
  | no => exact a.elim
theorem RSat.imp {N N' : Env → LH → Prop} {R R' : D → LH → Prop} {r : RS} (a : RSat N R r) (n : ∀ e h, N e h → N' e h) (q : ∀ d h, R d h → R' d h) : RSat N' R' r := by
  cases r with
  | nx e h => exact n e h a
  | rt d h => exact q d h a
  | _ => exact a.elim
def IsSrc (o : O) : Prop := ∃ a b c : Int, o = .lst [.int a, .int b, .int c]
def SrcAt (n : Nat) (h : LH) : Prop := ∃ o, h[n]? = some o ∧ IsSrc o
/-- only the source has moved -/
def Dr (n : Nat) (h h' : LH) : Prop := ∃ o, IsSrc o ∧ h' = h.set n o
theorem SrcAt.lt {n : Nat} {h : LH} (s : SrcAt n h) : n < h.length := by
  obtain ⟨o, e, _⟩ := s
  exact (List.getElem?_eq_some_iff.mp e).1
theorem Dr.refl {n : Nat} {h : LH} (s : SrcAt n h) : Dr n h h := by
  obtain ⟨o, e, s⟩ := s
  refine ⟨o, s, ?_⟩
  have := (List.getElem?_eq_some_iff.mp e)
  obtain ⟨a, rfl⟩ := this
  exact (List.set_getElem_self a).symm
theorem Dr.src {n : Nat} {h h' : LH} (s : SrcAt n h) (d : Dr n h h') : SrcAt n h' := by
  obtain ⟨o, so, rfl⟩ := d
  exact ⟨o, by rw [List.getElem?_set_self s.lt], so⟩
theorem Dr.trans {n : Nat} {h h' h'' : LH} (a : Dr n h h') (b : Dr n h' h'') : Dr n h h'' := by
  obtain ⟨o, so, rfl⟩ := a
  obtain ⟨o', so', rfl⟩ := b
  exact ⟨o', so', by rw [List.set_set]⟩
theorem Dr.len {n : Nat} {h h' : LH} (a : Dr n h h') : h'.length = h.length := by
  obtain ⟨o, so, rfl⟩ := a
  exact List.length_set
theorem Dr.get {n i : Nat} {h h' : LH} (a : Dr n h h') (hi : i ≠ n) : h'[i]? = h[i]? := by
  obtain ⟨o, so, rfl⟩ := a
  exact List.getElem?_set_ne (Ne.symm hi)
theorem shaped_str {x : Str} (h : PyData.strOk x = true) : SeqAt.shaped (.str x) = true := by
  obtain ⟨y, e1, e2⟩ := fit_shaped (b := x.length) (n := 0) (d := .str x) (by decide) (fit_str.mpr ⟨Nat.le_refl _, h⟩)
  cases e1
  exact e2
theorem len3 {α : Type} {ds : List α} (h : ds.length = 3) : ∃ a b c, ds = [a, b, c] := by
  match ds, h with
  | [a, b, c], _ => exact ⟨a, b, c, rfl⟩
theorem ne3 {ds : List D} (h : ds.length ≠ 3) : ¬ (ds.length : Int) = 3 := by omega
theorem log_small {m : Int} (h0 : 0 < m) (h1 : m < 18446744073709551616) : m.natAbs.log2 < 9000 := by
  have h2 : m.natAbs < 2 ^ 64 := by omega
  exact Nat.lt_trans ((Nat.log2_lt (by omega)).2 h2) (by decide)
theorem atI_mem {α : Type} {xs : List α} {r : Int} (h0 : 0 ≤ r) (h1 : r < (xs.length : Nat)) : ∃ x ∈ xs, atI xs r = some x := by
  obtain ⟨k, rfl⟩ := Int.eq_ofNat_of_zero_le h0
  have hk : k < xs.length := by omega
  exact ⟨xs[k], List.getElem_mem hk, atI_nat (List.getElem?_eq_getElem hk)⟩
theorem evSs_append {F : Nat} : ∀ (a b : List S) (env : Env) (h : LH), evSs F (a ++ b) env h = (evSs F a env h).seq fun e h1 => evSs F b e h1
  | [], b, env, h => by simp
  | s :: a, b, env, h => by
    simp only [List.cons_append, ss_cons]
    cases q : evS F s env h <;> simp [evSs_append a b]
theorem big0 {n : Nat} (h : n ≤ 1000) : n ≤ sizeLine := Nat.le_of_lt (small1000 h)
theorem eqvAll_nil {l : List PyData} : PyData.eqvAll l [] = l.isEmpty := by
  cases l <;> simp [PyData.eqvAll]
theorem pds_empty {ds : List D} {l : List PyData} (e : pds ds = some l) : l.isEmpty = ds.isEmpty := by
  cases ds with
  | nil => cases e; rfl
  | cons d ds =>
    simp only [pds] at e
    split at e
    · cases e; rfl
    · cases e
theorem pd_tup {ds : List D} {x : PyData} (e : pd (.tup ds) = some x) : ∃ l, pds ds = some l ∧ x = .tuple l := by
  simp only [pd] at e
  split at e
  · rename_i l q; cases e; exact ⟨l, q, rfl⟩
  · cases e
theorem pd_lst {ds : List D} {x : PyData} (e : pd (.lst ds) = some x) : ∃ l, pds ds = some l ∧ x = .list l := by
  simp only [pd] at e
  split at e
  · rename_i l q; cases e; exact ⟨l, q, rfl⟩
  · cases e
theorem eq_nilT {b n : Nat} {ds : List D} {h : LH} (hn : n ≤ 64) (f : fit b n (.tup ds)) : eqD h (.tup ds) (.tup []) = some ds.isEmpty := by
  obtain ⟨x, e, s⟩ := fit_shaped hn f
  obtain ⟨l, e2, rfl⟩ := pd_tup e
  rw [eqD_of (a := .tup ds) (b := .tup []) (x := .tuple l) (y := .tuple []) e rfl s (by decide +kernel), PyData.eqv, eqvAll_nil, pds_empty e2]
theorem eq_nilL {b n : Nat} {ds : List D} {h : LH} (hn : n ≤ 64) (f : fit b n (.lst ds)) : eqD h (.lst ds) (.lst []) = some ds.isEmpty := by
  obtain ⟨x, e, s⟩ := fit_shaped hn f
  obtain ⟨l, e2, rfl⟩ := pd_lst e
  rw [eqD_of (a := .lst ds) (b := .lst []) (x := .list l) (y := .list []) e rfl s (by decide +kernel), PyData.eqv, eqvAll_nil, pds_empty e2]
theorem cut_to {α : Type} {xs : List α} {k : Nat} : cutL xs none (some (k : Int)) = xs.take k := by
  have e1 : HT.sIx xs.length xs.length (some (k : Int)) = min k xs.length := HT.sIx_nat xs.length xs.length k
  have e2 : HT.sIx xs.length 0 none = 0 := HT.sIx_none ..
  simp only [cutL, e1, e2, Nat.sub_zero, List.drop_zero]
  rw [← List.take_eq_take_min]
theorem cut_from {α : Type} {xs : List α} {k : Nat} : cutL xs (some (k : Int)) none = xs.drop k := by
  have e1 : HT.sIx xs.length 0 (some (k : Int)) = min k xs.length := HT.sIx_nat xs.length 0 k
  have e2 : HT.sIx xs.length xs.length none = xs.length := HT.sIx_none ..
  simp only [cutL, e1, e2]
  rw [List.take_of_length_le (by simp)]
  by_cases h : k ≤ xs.length
  · rw [Nat.min_eq_left h]
  · rw [Nat.min_eq_right (by omega), List.drop_of_length_le (Nat.le_refl _), List.drop_of_length_le (by omega)]
theorem strOk_mem {x : Str} (h : PyData.strOk x = true) {c : Nat} (hc : c ∈ x.cps.toList) : PyData.strOk ⟨#[c]⟩ = true := by
  have q : ∀ c ∈ x.cps.toList, (decide (c < 1114112)) = true := by
    intro c hc
    unfold PyData.strOk at h
    rw [← Array.all_toList, List.all_eq_true] at h
    exact h c hc
  unfold PyData.strOk
  rw [← Array.all_toList]
  simpa using q c hc
theorem filter_not_empty {α : Type} (p : α → Bool) (l : List α) : (l.filter fun x => !p x).isEmpty = l.all p := by
  induction l with
  | nil => rfl
  | cons x l ih => cases h : p x <;> simp [h] at ih ⊢; exact ih
theorem filter_fit {b n : Nat} {ds : List D} {p : D → Bool} (h : ds.length ≤ b ∧ ∀ d ∈ ds, fit b n d) : fit b (n + 1) (.lst (ds.filter p)) :=
  ⟨Nat.le_trans (List.length_filter_le _ _) h.1, fun d hd => h.2 d (List.mem_filter.mp hd).1⟩
theorem eq_self {b n : Nat} {d : D} {h : LH} (hn : n ≤ 64) (f : fit b n d) : eqD h d d = some true := by
  obtain ⟨x, e, s⟩ := fit_shaped hn f
  have e2 := (fit_pdT (h := h) f).trans e
  rw [eqD_of e2 e2 s s, SeqAt.eqv_refl]
  unfold SeqAt.shaped at s
  simp only [Bool.and_eq_true] at s
  exact s.1
theorem LSat.of {N B : Env → LH → Prop} {R : D → LH → Prop} {r : RS} (a : RSat N R r) : LSat N B R r := by
  cases r <;> first | exact a | exact a.elim
mutual
/-- no location, no script inside -/
def purD : D → Bool
  | .tup ds => pursD ds
  | .lst ds => pursD ds
  | .loc _ => false
  | .dct ks vs => pursD ks && pursD vs
  | .ins _ _ ds => pursD ds
  | .clo _ ds => pursD ds
  | _ => true
def pursD : List D → Bool
  | [] => true
  | d :: ds => purD d && pursD ds
end
theorem pures_all : ∀ {ds : List D}, pursD ds = true → ∀ d ∈ ds, purD d = true
  | d :: ds, h, x, hx => by
    simp only [pursD, Bool.and_eq_true] at h
    rcases List.mem_cons.mp hx with rfl | hx
    · exact h.1
    · exact pures_all h.2 x hx
theorem pures_of : ∀ {ds : List D}, (∀ d ∈ ds, purD d = true) → pursD ds = true
  | [], _ => rfl
  | d :: ds, h => by
    simp only [pursD, Bool.and_eq_true]
    exact ⟨h d List.mem_cons_self, pures_of fun x hx => h x (List.mem_cons_of_mem _ hx)⟩
mutual
theorem pure_noLoc {n : Nat} : ∀ {d : D}, purD d = true → noLoc n d = true
  | .tup ds, h => by simp only [purD] at h; simp only [noLoc]; exact pures_noLocs h
  | .lst ds, h => by simp only [purD] at h; simp only [noLoc]; exact pures_noLocs h
  | .loc _, h => by simp [purD] at h
  | .non, _ => rfl
  | .bl _, _ => rfl
  | .int _, _ => rfl
  | .str _, _ => rfl
  | .scr _, _ => rfl
  | .dct ks vs, h => by simp only [purD, Bool.and_eq_true] at h; simp only [noLoc, pures_noLocs h.1, pures_noLocs h.2, Bool.and_self]
  | .ins _ _ ds, h => by simp only [purD] at h; simp only [noLoc]; exact pures_noLocs h
  | .clo _ ds, h => by simp only [purD] at h; simp only [noLoc]; exact pures_noLocs h
theorem pures_noLocs {n : Nat} : ∀ {ds : List D}, pursD ds = true → noLocs n ds = true
  | [], _ => rfl
  | d :: ds, h => by
    simp only [pursD, Bool.and_eq_true] at h
    simp only [noLocs, pure_noLoc h.1, pures_noLocs h.2]
    rfl
end
theorem frz_pure {h : LH} {n : Nat} : ∀ {f : Nat} {d : D}, purD d = true → frz h n f d = d
  | 0, _, _ => rfl
  | f + 1, .tup ds, q => by
    simp only [purD] at q
    simp only [frz]
    rw [show ds.map (frz h n f) = ds from (List.map_congr_left fun d hd => frz_pure (pures_all q d hd)).trans (List.map_id _)]
  | f + 1, .lst ds, q => by
    simp only [purD] at q
    simp only [frz]
    rw [show ds.map (frz h n f) = ds from (List.map_congr_left fun d hd => frz_pure (pures_all q d hd)).trans (List.map_id _)]
  | f + 1, .loc _, q => by simp [purD] at q
  | f + 1, .ins _ _ ds, q => by
    simp only [purD] at q
    simp only [frz]
    rw [show ds.map (frz h n f) = ds from (List.map_congr_left fun d hd => frz_pure (pures_all q d hd)).trans (List.map_id _)]
  | f + 1, .clo _ ds, q => by
    simp only [purD] at q
    simp only [frz]
    rw [show ds.map (frz h n f) = ds from (List.map_congr_left fun d hd => frz_pure (pures_all q d hd)).trans (List.map_id _)]
  | f + 1, .dct ks vs, q => by
    simp only [purD, Bool.and_eq_true] at q
    simp only [frz]
    rw [show ks.map (frz h n f) = ks from (List.map_congr_left fun d hd => frz_pure (pures_all q.1 d hd)).trans (List.map_id _)]
    rw [show vs.map (frz h n f) = vs from (List.map_congr_left fun d hd => frz_pure (pures_all q.2 d hd)).trans (List.map_id _)]
  | f + 1, .non, _ => rfl
  | f + 1, .bl _, _ => rfl
  | f + 1, .int _, _ => rfl
  | f + 1, .str _, _ => rfl
  | f + 1, .scr _, _ => rfl
/-- a new list is handed back by value -/
theorem frzR_new {f : Nat} {h t : LH} {l : Nat} {ds : List D} (q : pursD ds = true) (hl : h.length ≤ l) (e : (h ++ t)[l]? = some (.lst ds)) : frzR (f + 1) h (.ok (.loc l) (h ++ t)) = .ok (.lst ds) h := by
  have e2 : frz (h ++ t) h.length (f + 1) (.loc l) = .lst ds := by
    simp only [frz]
    rw [if_neg (by omega), e]
    simp only
    rw [show ds.map (frz (h ++ t) h.length f) = ds from (List.map_congr_left fun d hd => frz_pure (pures_all q d hd)).trans (List.map_id _)]
  simp only [frzR]
  rw [e2, if_pos]
  · simp
  · refine ⟨by simp, fun l o hl e => .inl ?_, by simp only [noLoc]; exact pures_noLocs q⟩
    rw [List.getElem?_append_left hl] at e
    exact e
theorem frzR_pure {f : Nat} {h t : LH} {d : D} (q : purD d = true) : frzR f h (.ok d (h ++ t)) = .ok d h := by
  simp only [frzR]
  rw [frz_pure q, if_pos]
  · simp
  · refine ⟨by simp, fun l o hl e => .inl ?_, pure_noLoc q⟩
    rw [List.getElem?_append_left hl] at e
    exact e
theorem frzR_tup2 {f : Nat} {h t : LH} {l : Nat} {ds es : List D} (q1 : pursD ds = true) (q : pursD es = true) (hl : h.length ≤ l) (e : (h ++ t)[l]? = some (.lst es)) : frzR (f + 2) h (.ok (.tup [.tup ds, .loc l]) (h ++ t)) = .ok (.tup [.tup ds, .lst es]) h := by
  have m (xs : List D) (q : pursD xs = true) (f : Nat) : xs.map (frz (h ++ t) h.length f) = xs := (List.map_congr_left fun d hd => frz_pure (pures_all q d hd)).trans (List.map_id _)
  have e2 : frz (h ++ t) h.length (f + 2) (.tup [.tup ds, .loc l]) = .tup [.tup ds, .lst es] := by
    simp only [frz, List.map_cons, List.map_nil]
    rw [if_neg (by omega), e]
    simp only
    rw [m ds q1, m es q]
  simp only [frzR]
  rw [e2, if_pos]
  · simp
  · refine ⟨by simp, fun l o hl e => .inl ?_, by simp only [noLoc, noLocs, pures_noLocs q, pures_noLocs q1]; rfl⟩
    rw [List.getElem?_append_left hl] at e
    exact e
theorem while_sat {F : Nat} {c : E} {b : List S} {I : Nat → Env → LH → Prop} {N : Env → LH → Prop} {R : D → LH → Prop}
    (step : ∀ k env h, I k env h → (∃ h', evT c env h = .ok false h' ∧ N env h') ∨ (∃ h', evT c env h = .ok true h' ∧ LSat (fun e h2 => ∃ k', k' < k ∧ I k' e h2) N R (evSs F b env h'))) :
    ∀ (n k : Nat) (env : Env) (h : LH), k < n → I k env h → RSat N R (whR F c b n env h)
  | 0, k, _, _, hk, _ => absurd hk (Nat.not_lt_zero _)
  | n + 1, k, env, h, hk, hi => by
    unfold whR whileLoop
    rcases step k env h hi with ⟨h', e, q⟩ | ⟨h', e, q⟩
    · simp only [e, inS_ok]
      exact q
    · simp only [e, inS_ok, if_true]
      cases z : evSs F b env h' with
      | nx e1 h1 =>
        rw [z] at q
        obtain ⟨k', hk', hi'⟩ := q
        exact while_sat step n k' e1 h1 (by omega) hi'
      | ct e1 h1 =>
        rw [z] at q
        obtain ⟨k', hk', hi'⟩ := q
        exact while_sat step n k' e1 h1 (by omega) hi'
      | bk e1 h1 => rw [z] at q; exact q
      | rt d h1 => rw [z] at q; exact q
      | ex x e1 h1 => rw [z] at q; exact q.elim
      | no => rw [z] at q; exact q.elim
def tx (xs : List Str) : D := .tup (xs.map D.str)
abbrev nt (as : List Str) (w : Str) (bs : List Str) : D := .tup [tx as, .str w, tx bs]
theorem pds_strs : ∀ xs : List Str, pds (xs.map D.str) = some (xs.map PyData.str)
  | [] => rfl
  | x :: xs => by simp only [List.map_cons, pds, pd, pds_strs xs]
theorem eqvAll_strs : ∀ xs ys : List Str, PyData.eqvAll (xs.map PyData.str) (ys.map PyData.str) = decide (xs = ys)
  | [], [] => by simp [PyData.eqvAll]
  | [], _ :: _ => by simp [PyData.eqvAll]
  | _ :: _, [] => by simp [PyData.eqvAll]
  | x :: xs, y :: ys => by
    simp only [List.map_cons, PyData.eqvAll, PyData.eqv, eqvAll_strs xs ys, List.cons.injEq, Bool.decide_and]
    rfl
theorem shaped_tx {xs : List Str} (h : ∀ x ∈ xs, PyData.strOk x = true) : SeqAt.shaped (.tuple (xs.map PyData.str)) = true := by
  have a : PyData.canLayAll0 (xs.map PyData.str) = true := all0 fun y hy => by
    obtain ⟨x, hx, rfl⟩ := List.mem_map.mp hy
    rw [PyData.canLay0]
    exact h x hx
  have b : PyData.depthAll (xs.map PyData.str) ≤ 0 := depthAll_le fun y hy => by
    obtain ⟨x, hx, rfl⟩ := List.mem_map.mp hy
    rw [PyData.depth]
    exact Nat.le_refl _
  unfold SeqAt.shaped
  rw [PyData.canLay0, PyData.depth, a, Bool.true_and, decide_eq_true_eq]
  omega
theorem eq_tx {h : LH} {xs ys : List Str} (hx : ∀ x ∈ xs, PyData.strOk x = true) (hy : ∀ y ∈ ys, PyData.strOk y = true) : eqD h (tx xs) (tx ys) = some (decide (xs = ys)) := by
  rw [eqD_of (x := .tuple (xs.map PyData.str)) (y := .tuple (ys.map PyData.str)) (by simp only [tx, pdT, pd, pds_strs]) (by simp only [tx, pdT, pd, pds_strs]) (shaped_tx hx) (shaped_tx hy), PyData.eqv, eqvAll_strs]
theorem eq_str {h : LH} {x y : Str} (hx : PyData.strOk x = true) (hy : PyData.strOk y = true) : eqD h (.str x) (.str y) = some (decide (x = y)) := by
  rw [eqD_of (x := .str x) (y := .str y) rfl rfl (shaped_str hx) (shaped_str hy), PyData.eqv]
  rfl
theorem pds_ints {α : Type} (f : α → Int) : ∀ xs : List α, pds (xs.map fun x => D.int (f x)) = some (xs.map fun x => PyData.int (f x))
  | [] => rfl
  | x :: xs => by simp only [List.map_cons, pds, pd, pds_ints f xs]
theorem eqvAll_refl : ∀ {l : List PyData}, PyData.canLayAll0 l = true → PyData.eqvAll l l = true
  | [], _ => by simp [PyData.eqvAll]
  | x :: l, h => by
    rw [PyData.canLayAll0, Bool.and_eq_true] at h
    rw [PyData.eqvAll, SeqAt.eqv_refl x h.1, eqvAll_refl h.2]
    rfl
theorem loc_lst {h : LH} {l : Nat} {ds : List D} (e : h[l]? = some (.lst ds)) : pdT h (.loc l) = pd (.lst ds) := by simp only [pdT, e]
theorem eqP_self {b n : Nat} {h : LH} {d : D} (hn : n ≤ 64) (f : fit b n d) : eqP h d d = some true := by
  obtain ⟨x, q, x1, x2⟩ := fit_pd f
  have sx : SeqAt.shaped x = true := by
    have := eq_self (h := h) hn f
    by_cases c : SeqAt.shaped x = true
    · exact c
    · exfalso
      have e1 : eqP h d d = none := by simp [eqP, fit_pdT f, q, c]
      have e2 : asD h d = none := by cases d <;> first | rfl | (cases n <;> exact f.elim)
      simp only [eqD, e1, eqE, e2] at this
      cases this
  simp only [eqP, fit_pdT f, q, sx, and_self, if_true, SeqAt.eqv_refl x x1]
theorem eq_locL {b n : Nat} {h : LH} {l : Nat} {ds : List D} (e : h[l]? = some (.lst ds)) (hn : n ≤ 64) (f : fit b n (.lst ds)) : eqD h (.loc l) (.lst ds) = some true := by
  have := eqP_self (h := h) hn f
  have q : eqP h (.loc l) (.lst ds) = some true := by
    rw [← this]; simp only [eqP, loc_lst e, fit_pdT f]
  simp only [eqD, q]
theorem eq_Lloc {b n : Nat} {h : LH} {l : Nat} {ds : List D} (e : h[l]? = some (.lst ds)) (hn : n ≤ 64) (f : fit b n (.lst ds)) : eqD h (.lst ds) (.loc l) = some true := by
  have := eqP_self (h := h) hn f
  have q : eqP h (.lst ds) (.loc l) = some true := by
    rw [← this]; simp only [eqP, loc_lst e, fit_pdT f]
  simp only [eqD, q]
theorem cutL_map {α β : Type} (f : α → β) {xs : List α} {lo hi : Option Int} : cutL (xs.map f) lo hi = (cutL xs lo hi).map f := by
  simp only [cutL, List.length_map, List.map_take, List.map_drop]
theorem cut_mid {α : Type} {xs : List α} {s n : Nat} : cutL xs (some (s : Int)) (some ((s + n : Nat) : Int)) = (xs.drop s).take n := by
  have e1 : HT.sIx xs.length 0 (some (s : Int)) = min s xs.length := HT.sIx_nat xs.length 0 s
  have e2 : HT.sIx xs.length xs.length (some ((s + n : Nat) : Int)) = min (s + n) xs.length := HT.sIx_nat xs.length xs.length (s + n)
  simp only [cutL, e1, e2]
  by_cases h : s ≤ xs.length
  · rw [Nat.min_eq_left h]
    by_cases h2 : s + n ≤ xs.length
    · rw [Nat.min_eq_left h2, Nat.add_sub_cancel_left]
    · rw [Nat.min_eq_right (by omega)]
      rw [List.take_of_length_le (by simp), List.take_of_length_le (by simp; omega)]
  · rw [Nat.min_eq_right (b := xs.length) (a := s) (by omega), List.drop_of_length_le (Nat.le_refl _), List.drop_of_length_le (by omega)]
    simp
section
variable {h : LH} {m : Bool} {xs ys : List Str}
theorem tx_to {k : Nat} : opCut m (tx xs) none (some (k : Int)) h = .ok (tx (xs.take k)) h := by
  unfold tx; rw [cut_tup, cutL_map, cut_to]
theorem tx_from {k : Nat} : opCut m (tx xs) (some (k : Int)) none h = .ok (tx (xs.drop k)) h := by
  unfold tx; rw [cut_tup, cutL_map, cut_from]
theorem tx_mid {s n : Nat} : opCut m (tx xs) (some (s : Int)) (some ((s + n : Nat) : Int)) h = .ok (tx ((xs.drop s).take n)) h := by
  unfold tx; rw [cut_tup, cutL_map, cut_mid]
@[simp] theorem tx_add : opBin .Add m (tx xs) (tx ys) h = if xs.length + ys.length ≤ sizeLine then .ok (tx (xs ++ ys)) h else .no := by
  unfold tx; rw [add_tup]; simp
@[simp] theorem tx_add1 {w : Str} : opBin .Add m (tx xs) (.tup [.str w]) h = if xs.length + 1 ≤ sizeLine then .ok (tx (xs ++ [w])) h else .no := by
  unfold tx; rw [add_tup]; simp
@[simp] theorem tx_len : lenD h (tx xs) = some ((xs.length : Nat) : Int) := by unfold tx; rw [lenD_tup]; simp
@[simp] theorem tx_isi1 : isiD h "tuple" (tx xs) = some true := (rfl)
@[simp] theorem tx_isi2 : isiD h "list" (tx xs) = some false := (rfl)
@[simp] theorem tx_isi3 : isiD h "str" (tx xs) = some false := (rfl)
@[simp] theorem tx_src : seqSrc h (tx xs) = some ([], xs.map D.str) := (rfl)
@[simp] theorem tx_asS : asS h (tx xs) = some (xs.map D.str) := (rfl)
theorem tx_idx {k : Nat} (hk : k < xs.length) : opIdx (tx xs) (.int (k : Int)) h = .ok (.str xs[k]) h := by
  unfold tx
  rw [idx_tup, atI_nat (show (xs.map D.str)[k]? = some (.str xs[k]) by simp [hk])]
theorem tx_fit {b n : Nat} (hl : xs.length ≤ b) (hx : ∀ x ∈ xs, x.length ≤ b ∧ PyData.strOk x = true) : fit b (n + 1) (tx xs) := by
  refine ⟨by simpa using hl, fun d hd => ?_⟩
  obtain ⟨x, hx2, rfl⟩ := List.mem_map.mp hd
  exact fit_str.mpr (hx x hx2)
end
theorem rng_nat {n : Nat} (h : n ≤ 1000000) : rangeItems [.int (n : Nat)] = some ((List.range n).map fun i => D.int (i : Nat)) := by
  have h1 : -(2 ^ 62) ≤ (n : Int) := by omega
  have h2 : (n : Int) < 2 ^ 62 := by omega
  simp only [rangeItems, h1, h2, and_self, if_true, Int.toNat_natCast]
theorem le_line {n : Nat} (h : n ≤ 1000) : n ≤ sizeLine := Nat.le_of_lt (small1000 h)
theorem le_line1 {n : Nat} (h : n ≤ 100000) : n ≤ sizeLine := by
  have e : sizeLine = 16777216 := rfl
  omega
end Ev
end
namespace Ev
open PySem L2
variable [Tabs]
section
variable {P : Program} {w : World} {K : Fg} {mg : Mg} {base : Heap}
/-- a def of the top keeps a promise -/
structure FnAt (P : Program) (w : World) (K : Fg) (mg : Mg) (base : Heap) (k : Nat) (x : Str) (ps : List Str) (m : Nat) (S : Fn) : Prop where
  ex : ∃ (f : Addr) (fd : FuncData), mg x = some (.ref f) ∧ PySem.W.keepIn K (.ref f) = true ∧ Binds K fd ps [] ∧ FnOk P w K mg base (L2.CX P w) k f fd ps (spD K mg m S)
theorem FnAt.fnD {k j : Nat} {x : Str} {ps : List Str} {m : Nat} {S : Fn} (F : FnAt P w K mg base j x ps m S) (h : j ≤ k) : FnD ⟨P, w, K, mg, base, k⟩ x S m [] := by
  obtain ⟨f, fd, e, kp, b, F⟩ := F
  exact ⟨f, fd, ps, j, [], [], e, h, F, kp, b, .nil, fun R n μ H => by simp [Reps]⟩
theorem FnAt.mk' {x qual : Str} {st : Stmt} {f : Addr} {fd : FuncData} {N ps : List Str} {m k : Nat} {b : List S} {Sp : Fn} (e : mg x = some (.ref f)) (F : L2.Fun K x qual st f fd) (S : FnScope N ps (defScope st)) (hm : ps.length = m)
    (hb : ∀ (kV doc pm : Value) (an : Option Addr) (cdv ct : Value) (us : List Value), us.length = ps.length → bindArgs (PySem.W.fnOf x qual (defArgs st) (defBody st) (defScope st) Value.none kV doc pm an cdv ct) { pos := us } = pure (ps.zip us))
    (nb : ∀ x ∈ BN, mg x = none) (hw : Tabs.w = w) (hc : chkSs N (defScope st) b (defBody st) = true) (ok : okSs ⟨P, w, K, mg, base, k⟩ b)
    (run : ∀ (args : List D) (h : LH), args.length = m → Sp args h = .no ∨ ∃ F, Fin h (runF F N.length b args h) (Sp args h)) : FnAt P w K mg base (k + 1) x ps m Sp :=
  ⟨f, fd, e, F.kp, F.binds hb, fn_ok F S hm nb hw hc ok run⟩
/-- .. with defaults -/
structure FnAtD (P : Program) (w : World) (K : Fg) (mg : Mg) (base : Heap) (k : Nat) (x : Str) (ps : List Str) (m : Nat) (S : Fn) (dfl : List D) : Prop where
  ex : ∃ (f : Addr) (fd : FuncData), mg x = some (.ref f) ∧ PySem.W.keepIn K (.ref f) = true ∧ FnOk P w K mg base (L2.CX P w) k f fd ps (spD K mg m S) ∧ ∀ i, i ≤ dfl.length → ∃ ds dvs, Binds K fd ps ds ∧ Vals dvs ds ∧ ∀ R n μ H, Reps K R n μ H (dfl.drop i) dvs
theorem FnAtD.fnD {k j : Nat} {x : Str} {ps : List Str} {m : Nat} {S : Fn} {dfl : List D} (F : FnAtD P w K mg base j x ps m S dfl) (i : Nat) (hi : i ≤ dfl.length) (h : j ≤ k) : FnD ⟨P, w, K, mg, base, k⟩ x S m (dfl.drop i) := by
  obtain ⟨f, fd, e, kp, F, b⟩ := F
  obtain ⟨ds, dvs, b1, b2, b3⟩ := b i hi
  exact ⟨f, fd, ps, j, ds, dvs, e, h, F, kp, b1, b2, b3⟩
theorem FnAtD.mk' {x qual : Str} {st : Stmt} {f : Addr} {fd : FuncData} {N ps : List Str} {m k : Nat} {b : List S} {Sp : Fn} {dvs : List V} {dfl : List D} (e : mg x = some (.ref f)) (F : L2.FunD K x qual (defArgs st) (defBody st) (defScope st) dvs [] f fd) (S : FnScope N ps (defScope st)) (hm : ps.length = m)
    (hr : ∀ R n μ H, Reps K R n μ H dfl dvs) (hb : ∀ i, i ≤ dfl.length → ∃ ds, Vals (dvs.drop i) ds ∧ Binds K fd ps ds)
    (nb : ∀ x ∈ BN, mg x = none) (hw : Tabs.w = w) (hc : chkSs N (defScope st) b (defBody st) = true) (ok : okSs ⟨P, w, K, mg, base, k⟩ b)
    (run : ∀ (args : List D) (h : LH), args.length = m → Sp args h = .no ∨ ∃ F, Fin h (runF F N.length b args h) (Sp args h)) : FnAtD P w K mg base (k + 1) x ps m Sp dfl :=
  ⟨f, fd, e, F.kp, fn_okD F S hm nb hw hc ok run, fun i hi => let ⟨ds, v, b⟩ := hb i hi; ⟨ds, dvs.drop i, b, v, fun R n μ H => (hr R n μ H).drop i⟩⟩
theorem funD_mk {x qual : Str} {st : Stmt} {f T : Addr} {oc tc : Value} {od an td : Option Addr} {osl tsl : Array (Option Value)} {kV doc pm cdv ct : Value} {its : List Value} {n : Nat} {dvs : List V} (l : K.lookup f = some ⟨oc, od, .func (PySem.W.fnOf x qual (defArgs st) (defBody st) (defScope st) (.ref T) kV doc pm an cdv ct), osl⟩)
    (c : PySem.W.codeIn K cdv qual = true) (k : PySem.W.keepIn K (.ref f) = true) (lT : K.lookup T = some ⟨tc, td, .seq its.toArray n, tsl⟩) (hv : Vals dvs its) (hd : dvs ≠ []) : L2.FunD K x qual (defArgs st) (defBody st) (defScope st) dvs [] f (PySem.W.fnOf x qual (defArgs st) (defBody st) (defScope st) (.ref T) kV doc pm an cdv ct) :=
  ⟨⟨oc, od, .ref T, kV, doc, pm, an, cdv, ct, osl, rfl, l, c, .inr ⟨hd, T, _, its, n, rfl, lT, rfl, hv⟩, .inl rfl⟩, k⟩
theorem FnAt.none {x qual : Str} {st : Stmt} {f : Addr} {fd : FuncData} {N ps : List Str} {m k : Nat} (e : mg x = some (.ref f)) (F : L2.Fun K x qual st f fd) (S : FnScope N ps (defScope st)) (hm : ps.length = m)
    (hb : ∀ (kV doc pm : Value) (an : Option Addr) (cdv ct : Value) (us : List Value), us.length = ps.length → bindArgs (PySem.W.fnOf x qual (defArgs st) (defBody st) (defScope st) Value.none kV doc pm an cdv ct) { pos := us } = pure (ps.zip us)) :
    FnAt P w K mg base (k + 1) x ps m (fun _ _ => .no) := by
  refine ⟨f, fd, e, F.kp, F.binds hb, F.okX S (fun vs H Q E hsp => ?_) (fun cdv A outer s H vs Q E hr hsp => ?_)⟩
  · obtain ⟨R, μ, h, ds, hl, _, r, p⟩ := hsp
    exact p.elim
  · obtain ⟨R, μ, h, ds, hl, _, r, p⟩ := hsp
    exact p.elim
theorem ClsAt.inj {c : Str} {C D : Addr} (h : ClsAt K c C) (g : ClsAt K c D) : C = D := by
  unfold ClsAt at h g
  rw [h] at g
  cases g; rfl
structure MthAt (P : Program) (w : World) (K : Fg) (mg : Mg) (base : Heap) (k : Nat) (c x : Str) (ps : List Str) (m : Nat) (S : Fn) : Prop where
  ex : ∃ (f : Addr) (fd : FuncData), (∀ C, ClsAt K c C → L2.Cls K C ∧ L2.Meth K C x f) ∧ Binds K fd ps [] ∧ FnOk P w K mg base (L2.CX P w) k f fd ps (spD K mg m S)
theorem MthAt.mthD {k j : Nat} {c x : Str} {ps : List Str} {m : Nat} {S : Fn} (F : MthAt P w K mg base j c x ps m S) (h : j ≤ k) : MthD ⟨P, w, K, mg, base, k⟩ c x S m [] := by
  obtain ⟨f, fd, e, b, F⟩ := F
  exact ⟨fun C hC => ⟨(e C hC).1, f, fd, ps, j, [], [], (e C hC).2, h, F, b, .nil, fun R n μ H => by simp [Reps]⟩⟩
theorem MthAt.mk' {c x qual : Str} {st : Stmt} {f : Addr} {fd : FuncData} {N ps : List Str} {m k : Nat} {b : List S} {Sp : Fn} (e : ∀ C, ClsAt K c C → L2.Cls K C ∧ L2.Meth K C x f) (F : L2.Fun K x qual st f fd) (S : FnScope N ps (defScope st)) (hm : ps.length = m)
    (hb : ∀ (kV doc pm : Value) (an : Option Addr) (cdv ct : Value) (us : List Value), us.length = ps.length → bindArgs (PySem.W.fnOf x qual (defArgs st) (defBody st) (defScope st) Value.none kV doc pm an cdv ct) { pos := us } = pure (ps.zip us))
    (nb : ∀ x ∈ BN, mg x = none) (hw : Tabs.w = w) (hc : chkSs N (defScope st) b (defBody st) = true) (ok : okSs ⟨P, w, K, mg, base, k⟩ b)
    (run : ∀ (args : List D) (h : LH), args.length = m → Sp args h = .no ∨ ∃ F, Fin h (runF F N.length b args h) (Sp args h)) : MthAt P w K mg base (k + 1) c x ps m Sp :=
  ⟨f, fd, e, F.binds hb, fn_ok F S hm nb hw hc ok run⟩
structure PrpAt (P : Program) (w : World) (K : Fg) (mg : Mg) (base : Heap) (k : Nat) (c x : Str) (S : Fn) : Prop where
  ex : ∃ (p g : Addr) (fd : FuncData) (ps : List Str), (∀ C, ClsAt K c C → L2.Cls K C ∧ L2.PropOf K C x p g) ∧ Binds K fd ps [] ∧ FnOk P w K mg base (L2.CX P w) k g fd ps (spD K mg 1 S)
theorem PrpAt.prpD {k j : Nat} {c x : Str} {S : Fn} (F : PrpAt P w K mg base j c x S) (h : j + 1 ≤ k) : PrpD ⟨P, w, K, mg, base, k⟩ c x S := by
  obtain ⟨p, g, fd, ps, e, b, F⟩ := F
  exact ⟨fun C hC => ⟨(e C hC).1, p, g, fd, ps, j, (e C hC).2, h, F, b⟩⟩
theorem PrpAt.mk' {c x qual : Str} {st : Stmt} {q f : Addr} {fd : FuncData} {N ps : List Str} {k : Nat} {b : List S} {Sp : Fn} (e : ∀ C, ClsAt K c C → L2.Cls K C ∧ L2.PropOf K C x q f) (F : L2.Fun K x qual st f fd) (S : FnScope N ps (defScope st)) (hm : ps.length = 1)
    (hb : ∀ (kV doc pm : Value) (an : Option Addr) (cdv ct : Value) (us : List Value), us.length = ps.length → bindArgs (PySem.W.fnOf x qual (defArgs st) (defBody st) (defScope st) Value.none kV doc pm an cdv ct) { pos := us } = pure (ps.zip us))
    (nb : ∀ x ∈ BN, mg x = none) (hw : Tabs.w = w) (hc : chkSs N (defScope st) b (defBody st) = true) (ok : okSs ⟨P, w, K, mg, base, k⟩ b)
    (run : ∀ (args : List D) (h : LH), args.length = 1 → Sp args h = .no ∨ ∃ F, Fin h (runF F N.length b args h) (Sp args h)) : PrpAt P w K mg base (k + 1) c x Sp :=
  ⟨q, f, fd, ps, e, F.binds hb, fn_ok F S hm nb hw hc ok run⟩
structure MkAt (P : Program) (w : World) (K : Fg) (mg : Mg) (base : Heap) (k : Nat) (c : Str) (ps : List Str) (m : Nat) (S : Fn) : Prop where
  ex : ∃ (C f : Addr) (fd : FuncData), mg c = some (.ref C) ∧ ClsAt K c C ∧ L2.Mk K C f ∧ Binds K fd ps [] ∧ FnOk P w K mg base (L2.CX P w) k f fd ps (spD K mg m S)
theorem MkAt.mkD {k j : Nat} {c : Str} {ps : List Str} {m : Nat} {S : Fn} (F : MkAt P w K mg base j c ps m S) (h : j + 1 ≤ k) : MkD ⟨P, w, K, mg, base, k⟩ c S m [] := by
  obtain ⟨C, f, fd, e1, e2, e3, b, F⟩ := F
  exact ⟨C, f, fd, ps, j, [], [], e1, e2, e3, h, F, b, .nil, fun R n μ H => by simp [Reps]⟩
theorem MkAt.mk' {c x qual : Str} {st : Stmt} {C f : Addr} {fd : FuncData} {N ps : List Str} {m k : Nat} {b : List S} {Sp : Fn} (e1 : mg c = some (.ref C)) (e2 : ClsAt K c C) (e3 : L2.Mk K C f) (F : L2.Fun K x qual st f fd) (S : FnScope N ps (defScope st)) (hm : ps.length = m)
    (hb : ∀ (kV doc pm : Value) (an : Option Addr) (cdv ct : Value) (us : List Value), us.length = ps.length → bindArgs (PySem.W.fnOf x qual (defArgs st) (defBody st) (defScope st) Value.none kV doc pm an cdv ct) { pos := us } = pure (ps.zip us))
    (nb : ∀ x ∈ BN, mg x = none) (hw : Tabs.w = w) (hc : chkSs N (defScope st) b (defBody st) = true) (ok : okSs ⟨P, w, K, mg, base, k⟩ b)
    (run : ∀ (args : List D) (h : LH), args.length = m → Sp args h = .no ∨ ∃ F, Fin h (runF F N.length b args h) (Sp args h)) : MkAt P w K mg base (k + 1) c ps m Sp :=
  ⟨C, f, fd, e1, e2, e3, F.binds hb, fn_ok F S hm nb hw hc ok run⟩
theorem ExcD.mgC {k : Nat} {x : Str} (h : ExcD ⟨P, w, K, mg, base, k⟩ x) : ∃ C, mg x = some (.ref C) := let ⟨C, e, _⟩ := h.ex; ⟨C, e⟩
theorem rep_tupK {R : Ap} {n : Nat} {μ : Nat → Addr} {H : Hp} {a : Addr} {d : Option Addr} {its : Array Value} {k : Nat} {z : Array (Option Value)} {ds : List D} {xs : List V} (q : K.lookup a = some ⟨.type "tuple", d, .seq its k, z⟩) (hs : its.size ≤ sizeLine) (hv : Vals xs its.toList) (r : Reps K R n μ H ds xs) : Rep K R n μ H (.tup ds) (.ref a) := by
  simp only [Rep]
  exact ⟨a, xs, rfl, .inr ⟨_, _, _, q, rfl, rfl, hs, hv⟩, r⟩
theorem rp_nil {R : Ap} {n : Nat} {μ : Nat → Addr} {H : Hp} : Reps K R n μ H [] [] := by simp only [Reps]
theorem rp_cons {R : Ap} {n : Nat} {μ : Nat → Addr} {H : Hp} {d : D} {ds : List D} {v : V} {vs : List V} (a : Rep K R n μ H d v) (b : Reps K R n μ H ds vs) : Reps K R n μ H (d :: ds) (v :: vs) := by
  simp only [Reps]
  exact ⟨v, vs, rfl, a, b⟩
theorem rp_str {R : Ap} {n : Nat} {μ : Nat → Addr} {H : Hp} {x : Str} : Rep K R n μ H (.str x) (.str x) := by simp only [Rep]
theorem rp_int {R : Ap} {n : Nat} {μ : Nat → Addr} {H : Hp} {x : Int} : Rep K R n μ H (.int x) (.int x) := by simp only [Rep]
theorem rp_bl {R : Ap} {n : Nat} {μ : Nat → Addr} {H : Hp} {x : Bool} : Rep K R n μ H (.bl x) (.bl x) := by simp only [Rep]
theorem rp_non {R : Ap} {n : Nat} {μ : Nat → Addr} {H : Hp} : Rep K R n μ H .non .non := by simp only [Rep]
end
omit [Tabs] in
theorem cx_end {P : Program} {w : World} {o : List PySem.Env} {H : Hp} {s s' : Shared} {e : Value} (h : L2.CX P w o H s (fun _ _ _ => False) e s') : False := by
  obtain ⟨_, _, _, _, _, _, _, _, _, _, _, _, z⟩ := h
  exact z
omit [Tabs] in
theorem rel_str {x : Str} {t : Tok} : RelV (.str x) (.str x t) := ⟨t, rfl⟩
omit [Tabs] in
theorem rel_int {x : Int} {t : Tok} : RelV (.int x) (.int x t) := ⟨t, rfl⟩
omit [Tabs] in
theorem rel_bl {x : Bool} : RelV (.bl x) (.bool x) := rfl
omit [Tabs] in
theorem rel_non : RelV .non .none := rfl
omit [Tabs] in
theorem rel_ref {a : Addr} : RelV (.ref a) (.ref a) := rfl
/-- the law's run hands back True -/
theorem law_run {N : Nat} {b : List S} (hS : ∀ ns : List Int, ns.length ≤ 63 → ∃ F h', runF F N b [.scr ns] [] = .ok (.bl true) h') (args : List D) (h : LH) (hl : args.length = 1) : fnLaw args h = .no ∨ ∃ F, Fin h (runF F N b args h) (fnLaw args h) := by
  unfold fnLaw
  split
  · rename_i ns
    split
    · rename_i hn
      obtain ⟨F, h', e⟩ := hS ns hn
      right
      refine ⟨F, ?_⟩
      rw [e]
      exact Fin.frz (h := []) 0 (d := .bl true) (h1 := h') (Nat.zero_le _) (fun l o hl _ => absurd hl (Nat.not_lt_zero _)) rfl
    · exact .inl rfl
  · exact .inl rfl
/-- the j-th statement of a class statement -/
def clsBody (st : Stmt) (j : Nat) : Stmt := match st with
  | .ClassDef _ _ _ b _ _ _ _ _ _ _ => b.getD j (.Pass ⟨0, 0, 0, 0⟩)
  | _ => .Pass ⟨0, 0, 0, 0⟩
end Ev
noncomputable section
namespace Ev
open PySem L2
def c_LETTERS : D := .str "abcdefghijklmnopqrstuvwxyz"
def c_PICKS : D := .tup [(.str "first"), (.str "last"), (.str "only")]
def c_MOST_AROUND : D := .int 2
def c_MOST_ATTEMPTS : D := .int 2
def c_MOST_WORDS : D := .int 60
def c_MOST_PRICE : D := .int 9
def c_MOST_STEPS : D := .int 120
def N__law_source : List Str := ["script", "k", "cell", "start"]
def b__law_source  : List S := [
  .set 2 (.ite (.cmp .Lt (.var 1) (.bui .len false [(.var 0)])) (.bui .abs1 false [(.bui .int1 false [(.idx (.var 0) (.var 1))])]) (.bin .Add false (.bin .Mult false (.cst (.int 31)) (.var 1)) (.cst (.int 5)))), 
  .set 3 (.bin .Mod false (.bui .int1 false [(.bin .Add false (.bin .Add false (.bin .Mult false (.var 2) (.cst (.int 2654435761))) (.bin .Mult false (.cst (.int 977)) (.var 1))) (.cst (.int 13)))]) (.cst (.int 4294967291))), 
  .ret (.lst true [(.ite (.cmp .Gt (.var 2) (.bin .Pow false (.cst (.int 10)) (.cst (.int 17)))) (.var 2) (.cst (.int 0))), (.var 3), (.cst (.int 0))])]
def S__law_source : Fn := fun as h => runF 1000000000 N__law_source.length (b__law_source ) as h
def N__law_draw : List Str := ["source", "many", "low", "mixed"]
def b__law_draw  : List S := [
  .ifs (.cmp .Gt (.idx (.var 0) (.cst (.int 0))) (.cst (.int 0))) [.set 2 (.bin .Mod false (.bui .int1 false [(.idx (.var 0) (.cst (.int 0)))]) (.var 1)), .stx (.var 0) (.cst (.int 0)) (.bin .FloorDiv true (.idx (.var 0) (.cst (.int 0))) (.var 1)), .ret (.var 2)] [], 
  .stx (.var 0) (.cst (.int 2)) (.bin .Add true (.idx (.var 0) (.cst (.int 2))) (.cst (.int 1))), 
  .set 3 (.bin .Mod false (.bui .int1 false [(.bin .Add false (.idx (.var 0) (.cst (.int 1))) (.bin .Mult false (.cst (.int 40503)) (.idx (.var 0) (.cst (.int 2)))))]) (.cst (.int 4294967291))), 
  .set 3 (.bin .Mod false (.bui .int1 false [(.bin .Add false (.bin .Mult false (.var 3) (.var 3)) (.bin .Mult false (.cst (.int 71)) (.idx (.var 0) (.cst (.int 2)))))]) (.cst (.int 4294967291))), 
  .stx (.var 0) (.cst (.int 1)) (.bin .Mod true (.bui .int1 false [(.bin .Add false (.bin .Mult false (.var 3) (.cst (.int 69069))) (.cst (.int 1)))]) (.cst (.int 4294967291))), 
  .ret (.bin .Mod false (.bui .int1 false [(.bin .FloorDiv false (.var 3) (.cst (.int 128)))]) (.var 1))]
def S__law_draw : Fn := fun as h => runF 1000000000 N__law_draw.length (b__law_draw ) as h
def N__law_choice : List Str := ["source", "rows"]
def b__law_choice (S__law_draw : Fn) : List S := [
  .ret (.idx (.var 1) (.cal "_law_draw" S__law_draw 2 [] [(.var 0), (.bui .len false [(.var 1)])]))]
def S__law_choice : Fn := fun as h => runF 1000000000 N__law_choice.length (b__law_choice S__law_draw) as h
def N__law_menu : List Str := ["source", "some"]
def b__law_menu (S__law_choice : Fn) : List S := [
  .set 1 (.lst false [(.lst false [(.cst (.str "a"))]), (.lst false [(.cst (.str "a")), (.cst (.str "b"))]), (.lst false [(.cst (.str "a")), (.cst (.str "b"))]), (.lst false [(.cst (.str "the")), (.cst (.str "cat")), (.cst (.str "sat"))]), (.lst false [(.cst (.str "x")), (.cst (.str "zzzzzzzz"))]), (.lst false [(.cst (.str "a")), (.cst (.str "aa")), (.cst (.str "b"))])]), 
  .ret (.cal "_law_choice" S__law_choice 2 [] [(.var 0), (.var 1)])]
def S__law_menu : Fn := fun as h => runF 1000000000 N__law_menu.length (b__law_menu S__law_choice) as h
def N__law_row : List Str := ["source", "words", "most", "turn"]
def b__law_row (S__law_draw : Fn) (S__law_choice : Fn) : List S := [
  .ret (.bui .tuple1 false [(.lcp [("turn", 3)] (.nm 3) (.rng [(.cal "_law_draw" S__law_draw 2 [] [(.var 0), (.bin .Add false (.var 2) (.cst (.int 1)))])]) [] (.cal "_law_choice" S__law_choice 2 [] [(.var 0), (.var 1)]))])]
def S__law_row : Fn := fun as h => runF 1000000000 N__law_row.length (b__law_row S__law_draw S__law_choice) as h
def N__law_note : List Str := ["source", "most", "words"]
def b__law_note (S__law_menu : Fn) (S__law_row : Fn) (S__law_choice : Fn) : List S := [
  .set 2 (.cal "_law_menu" S__law_menu 1 [] [(.var 0)]), 
  .ret (.tup [(.cal "_law_row" S__law_row 3 [] [(.var 0), (.var 2), (.var 1)]), (.cal "_law_choice" S__law_choice 2 [] [(.var 0), (.var 2)]), (.cal "_law_row" S__law_row 3 [] [(.var 0), (.var 2), (.var 1)])])]
def S__law_note : Fn := fun as h => runF 1000000000 N__law_note.length (b__law_note S__law_menu S__law_row S__law_choice) as h
def N__law_attempt : List Str := ["source", "most", "pick"]
def b__law_attempt (S__law_choice : Fn) (S__law_draw : Fn) : List S := [
  .set 2 (.cal "_law_choice" S__law_choice 2 [] [(.var 0), (.lst false [(.cst (.str "only")), (.cst (.str "only")), (.cst (.str "first")), (.cst (.str "last"))])]), 
  .ret (.tup [(.cal "_law_draw" S__law_draw 2 [] [(.var 0), (.bin .Add false (.var 1) (.cst (.int 1)))]), (.cal "_law_draw" S__law_draw 2 [] [(.var 0), (.bin .Add false (.var 1) (.cst (.int 1)))]), (.var 2)])]
def S__law_attempt : Fn := fun as h => runF 1000000000 N__law_attempt.length (b__law_attempt S__law_choice S__law_draw) as h
def N__law_policy : List Str := ["source", "most", "turn"]
def b__law_policy (S__law_draw : Fn) (S__law_attempt : Fn) : List S := [
  .ret (.bui .tuple1 false [(.lcp [("turn", 2)] (.nm 2) (.rng [(.bin .Add false (.cst (.int 1)) (.cal "_law_draw" S__law_draw 2 [] [(.var 0), (.cst (.int 2))]))]) [] (.cal "_law_attempt" S__law_attempt 2 [] [(.var 0), (.var 1)]))])]
def S__law_policy : Fn := fun as h => runF 1000000000 N__law_policy.length (b__law_policy S__law_draw S__law_attempt) as h
def N__law_words : List Str := ["note"]
def b__law_words  : List S := [
  .ret (.bin .Add false (.bin .Add false (.idx (.var 0) (.cst (.int 0))) (.tup [(.idx (.var 0) (.cst (.int 1)))])) (.idx (.var 0) (.cst (.int 2))))]
def S__law_words : Fn := fun as h => runF 1000000000 N__law_words.length (b__law_words ) as h
def N__law_text : List Str := ["source", "note", "most", "found", "turn", "way"]
def b__law_text (S__law_draw : Fn) (S__law_words : Fn) (S__law_choice : Fn) : List S := [
  .set 3 (.tup []), 
  .for_ (.nm 4) (.rng [(.cal "_law_draw" S__law_draw 2 [] [(.var 0), (.bin .Add false (.var 2) (.cst (.int 1)))])]) [.set 5 (.cal "_law_draw" S__law_draw 2 [] [(.var 0), (.cst (.int 5))]), .ifs (.cmp .Eq (.var 5) (.cst (.int 0))) [.set 3 (.bin .Add false (.var 3) (.cal "_law_words" S__law_words 1 [] [(.var 1)]))] [.ifs (.cmp .Eq (.var 5) (.cst (.int 1))) [.set 3 (.bin .Add false (.var 3) (.tup [(.cal "_law_choice" S__law_choice 2 [] [(.var 0), (.lst false [(.cst (.str "q")), (.cst (.str "a")), (.cst (.str "cat"))])])]))] [.set 3 (.bin .Add false (.var 3) (.tup [(.cal "_law_choice" S__law_choice 2 [] [(.var 0), (.bui .list1 false [(.cal "_law_words" S__law_words 1 [] [(.var 1)])])])]))]]], 
  .ret (.slc false (.var 3) .noe (.itv (.cst (.int 60))))]
def S__law_text : Fn := fun as h => runF 1000000000 N__law_text.length (b__law_text S__law_draw S__law_words S__law_choice) as h
def N__law_held : List Str := ["source", "note", "most", "ahead", "behind"]
def b__law_held (S__law_text : Fn) (S__law_words : Fn) : List S := [
  .unp (.tp [(.nm 3), (.nm 4)]) (.tup [(.cal "_law_text" S__law_text 3 [] [(.var 0), (.var 1), (.var 2)]), (.cal "_law_text" S__law_text 3 [] [(.var 0), (.var 1), (.var 2)])]), 
  .ret (.tup [(.bin .Add false (.bin .Add false (.var 3) (.cal "_law_words" S__law_words 1 [] [(.var 1)])) (.var 4)), (.bin .Add false (.bui .len false [(.var 3)]) (.bui .len false [(.idx (.var 1) (.cst (.int 0)))]))])]
def S__law_held : Fn := fun as h => runF 1000000000 N__law_held.length (b__law_held S__law_text S__law_words) as h
def N__law_script : List Str := ["source", "text", "rate", "found", "many", "at", "other", "way", "step"]
def b__law_script (S__law_draw : Fn) (S__law_choice : Fn) : List S := [
  .unp (.tp [(.nm 3), (.nm 4)]) (.tup [(.tup []), (.cst (.int 0))]), 
  .for_ (.nm 5) (.rng [(.bin .Add false (.bui .len false [(.var 1)]) (.cst (.int 1)))]) [.ifs (.and [(.cmp .Eq (.cal "_law_draw" S__law_draw 2 [] [(.var 0), (.var 2)]) (.cst (.int 0))), (.cmp .Lt (.bin .Sub false (.bin .Add false (.var 4) (.bui .len false [(.var 1)])) (.var 5)) (.cst (.int 60)))]) [.unp (.tp [(.nm 3), (.nm 4)]) (.tup [(.bin .Add false (.var 3) (.tup [(.tup [(.cst (.str "put")), (.cal "_law_choice" S__law_choice 2 [] [(.var 0), (.bin .Add false (.bui .list1 false [(.var 1)]) (.lst false [(.cst (.str "q")), (.cst (.str "a"))]))])])])), (.bin .Add false (.var 4) (.cst (.int 1)))])] [], .ifs (.cmp .Lt (.var 5) (.bui .len false [(.var 1)])) [.set 6 (.cal "_law_choice" S__law_choice 2 [] [(.var 0), (.bin .Add false (.bui .list1 false [(.var 1)]) (.lst false [(.cst (.str "q")), (.cst (.str "cat"))]))]), .set 7 (.cal "_law_draw" S__law_draw 2 [] [(.var 0), (.bin .Mult false (.cst (.int 2)) (.var 2))]), .set 8 (.ite (.cmp .Eq (.var 7) (.cst (.int 0))) (.tup [(.cst (.str "out"))]) (.ite (.and [(.cmp .Eq (.var 7) (.cst (.int 1))), (.cmp .NotEq (.var 6) (.idx (.var 1) (.var 5)))]) (.tup [(.cst (.str "swap")), (.var 6)]) (.tup [(.cst (.str "keep"))]))), .unp (.tp [(.nm 3), (.nm 4)]) (.tup [(.bin .Add false (.var 3) (.tup [(.var 8)])), (.bin .Add false (.var 4) (.bui .int1 false [(.cmp .NotEq (.var 7) (.cst (.int 0)))]))])] []], 
  .ret (.var 3)]
def S__law_script : Fn := fun as h => runF 1000000000 N__law_script.length (b__law_script S__law_draw S__law_choice) as h
def N_is_word : List Str := ["value", "letter"]
def b_is_word  : List S := [
  .ret (.and [(.isi (.var 0) "str"), (.chn .LtE .LtE (.cst (.int 1)) (.bui .len false [(.var 0)]) (.cst (.int 8))), (.bui .all1 false [(.lcp [("letter", 1)] (.nm 1) (.itv (.var 0)) [] (.cmp .In (.var 1) (.glob "LETTERS" c_LETTERS)))])])]
def S_is_word : Fn := fun as h => runF 1000000000 N_is_word.length (b_is_word ) as h
def N_are_words : List Str := ["value", "most", "word"]
def b_are_words (S_is_word : Fn) : List S := [
  .ret (.and [(.isi (.var 0) "tuple"), (.cmp .LtE (.bui .len false [(.var 0)]) (.var 1)), (.bui .all1 false [(.lcp [("word", 2)] (.nm 2) (.itv (.var 0)) [] (.cal "is_word" S_is_word 1 [] [(.var 2)]))])])]
def S_are_words : Fn := fun as h => runF 1000000000 N_are_words.length (b_are_words S_is_word) as h
def N_is_text : List Str := ["value"]
def b_is_text (S_are_words : Fn) : List S := [
  .ret (.cal "are_words" S_are_words 2 [] [(.var 0), (.glob "MOST_WORDS" c_MOST_WORDS)])]
def S_is_text : Fn := fun as h => runF 1000000000 N_is_text.length (b_is_text S_are_words) as h
def N_need_text : List Str := ["value"]
def b_need_text (S_is_text : Fn) : List S := [
  .ifs (.not (.cal "is_text" S_is_text 1 [] [(.var 0)])) [.rai "InvalidText"] []]
def S_need_text : Fn := fun as h => runF 1000000000 N_need_text.length (b_need_text S_is_text) as h
def N_Page___init__ : List Str := ["self", "text"]
def b_Page___init__ (S_need_text : Fn) : List S := [
  .exp (.cal "need_text" S_need_text 1 [] [(.var 1)]), 
  .sat "Page" "now" (.var 0) (.tup [(.var 1), (.tup [])]), 
  .sat "Page" "past" (.var 0) (.lst true [])]
def S_Page___init__ : Fn := fun as h => runF 1000000000 N_Page___init__.length (b_Page___init__ S_need_text) as h
def N_is_from : List Str := ["value", "low", "high"]
def b_is_from  : List S := [
  .ret (.and [(.isi (.var 0) "int"), (.not (.isi (.var 0) "bool")), (.chn .LtE .LtE (.var 1) (.var 0) (.var 2))])]
def S_is_from : Fn := fun as h => runF 1000000000 N_is_from.length (b_is_from ) as h
def N_Page_need_place : List Str := ["self", "place", "more"]
def b_Page_need_place (S_is_from : Fn) : List S := [
  .ifs (.not (.cal "is_from" S_is_from 3 [] [(.var 1), (.cst (.int 0)), (.bin .Add false (.bin .Sub false (.bui .len false [(.idx (.att "Page" "now" (.var 0)) (.cst (.int 0)))]) (.cst (.int 1))) (.var 2))])) [.rai "InvalidPlace"] []]
def S_Page_need_place : Fn := fun as h => runF 1000000000 N_Page_need_place.length (b_Page_need_place S_is_from) as h
def N_Page_go_on : List Str := ["self", "text", "rows"]
def b_Page_go_on  : List S := [
  .exp (.met .append false (.att "Page" "past" (.var 0)) [(.att "Page" "now" (.var 0))]), 
  .sat "Page" "now" (.var 0) (.tup [(.var 1), (.var 2)])]
def S_Page_go_on : Fn := fun as h => runF 1000000000 N_Page_go_on.length (b_Page_go_on ) as h
def N_Page_add : List Str := ["self", "name", "place", "ahead", "behind", "text", "rows", "note", "row"]
def b_Page_add (S_is_word : Fn) (S_Page_need_place : Fn) (S_is_from : Fn) (S_Page_go_on : Fn) : List S := [
  .unp (.tp [(.nm 5), (.nm 6)]) (.att "Page" "now" (.var 0)), 
  .ifs (.or [(.not (.cal "is_word" S_is_word 1 [] [(.var 1)])), (.cmp .In (.var 1) (.lcp [("row", 8)] (.nm 8) (.itv (.var 6)) [] (.idx (.var 8) (.cst (.int 0)))))]) [.rai "InvalidName"] [], 
  .exp (.mca "Page" "need_place" S_Page_need_place 3 [] (.var 0) [(.var 2), (.cst (.int 0))]), 
  .ifs (.or [(.not (.cal "is_from" S_is_from 3 [] [(.var 3), (.cst (.int 0)), (.glob "MOST_AROUND" c_MOST_AROUND)])), (.not (.cal "is_from" S_is_from 3 [] [(.var 4), (.cst (.int 0)), (.glob "MOST_AROUND" c_MOST_AROUND)]))]) [.rai "InvalidNumber"] [], 
  .set 7 (.tup [(.slc false (.var 5) (.itv (.bui .max2 false [(.cst (.int 0)), (.bin .Sub false (.var 2) (.var 3))])) (.itv (.var 2))), (.idx (.var 5) (.var 2)), (.slc false (.var 5) (.itv (.bin .Add false (.var 2) (.cst (.int 1)))) (.itv (.bin .Add false (.bin .Add false (.var 2) (.cst (.int 1))) (.var 4))))]), 
  .exp (.mca "Page" "go_on" S_Page_go_on 3 [] (.var 0) [(.var 5), (.bin .Add false (.var 6) (.tup [(.tup [(.var 1), (.var 7), (.var 2)])]))]), 
  .ret (.var 7)]
def S_Page_add : Fn := fun as h => runF 1000000000 N_Page_add.length (b_Page_add S_is_word S_Page_need_place S_is_from S_Page_go_on) as h
def N_Page_moved : List Str := ["self", "place", "more", "gone", "rows", "name", "note", "at"]
def b_Page_moved  : List S := [
  .set 4 (.tup []), 
  .for_ (.tp [(.nm 5), (.nm 6), (.nm 7)]) (.itv (.idx (.att "Page" "now" (.var 0)) (.cst (.int 1)))) [.ifs (.and [(.cmp .IsNot (.var 7) (.cst .none)), (.cmp .Eq (.var 7) (.var 1)), (.var 3)]) [.set 7 (.cst .none)] [], .ifs (.and [(.cmp .IsNot (.var 7) (.cst .none)), (.cmp .GtE (.var 7) (.var 1))]) [.set 7 (.bin .Add false (.var 7) (.var 2))] [], .set 4 (.bin .Add false (.var 4) (.tup [(.tup [(.var 5), (.var 6), (.var 7)])]))], 
  .ret (.var 4)]
def S_Page_moved : Fn := fun as h => runF 1000000000 N_Page_moved.length (b_Page_moved ) as h
def N_Page_put : List Str := ["self", "place", "word", "text"]
def b_Page_put (S_Page_need_place : Fn) (S_is_word : Fn) (S_Page_go_on : Fn) (S_Page_moved : Fn) : List S := [
  .exp (.mca "Page" "need_place" S_Page_need_place 3 [] (.var 0) [(.var 1), (.cst (.int 1))]), 
  .ifs (.not (.cal "is_word" S_is_word 1 [] [(.var 2)])) [.rai "InvalidWord"] [], 
  .set 3 (.idx (.att "Page" "now" (.var 0)) (.cst (.int 0))), 
  .ifs (.cmp .Eq (.bui .len false [(.var 3)]) (.glob "MOST_WORDS" c_MOST_WORDS)) [.raiA "TooMany" "limit" (.glob "MOST_WORDS" c_MOST_WORDS)] [], 
  .exp (.mca "Page" "go_on" S_Page_go_on 3 [] (.var 0) [(.bin .Add false (.bin .Add false (.slc false (.var 3) .noe (.itv (.var 1))) (.tup [(.var 2)])) (.slc false (.var 3) (.itv (.var 1)) .noe)), (.mca "Page" "moved" S_Page_moved 4 [] (.var 0) [(.var 1), (.cst (.int 1)), (.cst (.bool false))])])]
def S_Page_put : Fn := fun as h => runF 1000000000 N_Page_put.length (b_Page_put S_Page_need_place S_is_word S_Page_go_on S_Page_moved) as h
def N_Page_out : List Str := ["self", "place", "text"]
def b_Page_out (S_Page_need_place : Fn) (S_Page_go_on : Fn) (S_Page_moved : Fn) : List S := [
  .exp (.mca "Page" "need_place" S_Page_need_place 3 [] (.var 0) [(.var 1), (.cst (.int 0))]), 
  .set 2 (.idx (.att "Page" "now" (.var 0)) (.cst (.int 0))), 
  .exp (.mca "Page" "go_on" S_Page_go_on 3 [] (.var 0) [(.bin .Add false (.slc false (.var 2) .noe (.itv (.var 1))) (.slc false (.var 2) (.itv (.bin .Add false (.var 1) (.cst (.int 1)))) .noe)), (.mca "Page" "moved" S_Page_moved 4 [] (.var 0) [(.var 1), (.neg (.cst (.int 1))), (.cst (.bool true))])]), 
  .ret (.idx (.var 2) (.var 1))]
def S_Page_out : Fn := fun as h => runF 1000000000 N_Page_out.length (b_Page_out S_Page_need_place S_Page_go_on S_Page_moved) as h
def N_Page_swap : List Str := ["self", "place", "word", "text"]
def b_Page_swap (S_Page_need_place : Fn) (S_is_word : Fn) (S_Page_go_on : Fn) (S_Page_moved : Fn) : List S := [
  .exp (.mca "Page" "need_place" S_Page_need_place 3 [] (.var 0) [(.var 1), (.cst (.int 0))]), 
  .set 3 (.idx (.att "Page" "now" (.var 0)) (.cst (.int 0))), 
  .ifs (.or [(.not (.cal "is_word" S_is_word 1 [] [(.var 2)])), (.cmp .Eq (.var 2) (.idx (.var 3) (.var 1)))]) [.rai "InvalidWord"] [], 
  .exp (.mca "Page" "go_on" S_Page_go_on 3 [] (.var 0) [(.bin .Add false (.bin .Add false (.slc false (.var 3) .noe (.itv (.var 1))) (.tup [(.var 2)])) (.slc false (.var 3) (.itv (.bin .Add false (.var 1) (.cst (.int 1)))) .noe)), (.mca "Page" "moved" S_Page_moved 4 [] (.var 0) [(.var 1), (.cst (.int 0)), (.cst (.bool true))])]), 
  .ret (.idx (.var 3) (.var 1))]
def S_Page_swap : Fn := fun as h => runF 1000000000 N_Page_swap.length (b_Page_swap S_Page_need_place S_is_word S_Page_go_on S_Page_moved) as h
def N__law_done : List Str := ["page", "script", "at", "many", "step"]
def b__law_done (S_Page_put : Fn) (S_Page_out : Fn) (S_Page_swap : Fn) : List S := [
  .unp (.tp [(.nm 2), (.nm 3)]) (.tup [(.cst (.int 0)), (.cst (.int 0))]), 
  .for_ (.nm 4) (.itv (.var 1)) [.ifs (.cmp .Eq (.idx (.var 4) (.cst (.int 0))) (.cst (.str "put"))) [.exp (.mca "Page" "put" S_Page_put 3 [] (.var 0) [(.var 2), (.idx (.var 4) (.cst (.int 1)))])] [.ifs (.cmp .Eq (.idx (.var 4) (.cst (.int 0))) (.cst (.str "out"))) [.exp (.mca "Page" "out" S_Page_out 2 [] (.var 0) [(.var 2)])] [.ifs (.cmp .Eq (.idx (.var 4) (.cst (.int 0))) (.cst (.str "swap"))) [.exp (.mca "Page" "swap" S_Page_swap 3 [] (.var 0) [(.var 2), (.idx (.var 4) (.cst (.int 1)))])] []]], .set 2 (.bin .Add false (.var 2) (.bui .int1 false [(.cmp .NotEq (.idx (.var 4) (.cst (.int 0))) (.cst (.str "out")))])), .set 3 (.bin .Add false (.var 3) (.bui .int1 false [(.cmp .NotEq (.idx (.var 4) (.cst (.int 0))) (.cst (.str "keep")))]))], 
  .ret (.var 3)]
def S__law_done : Fn := fun as h => runF 1000000000 N__law_done.length (b__law_done S_Page_put S_Page_out S_Page_swap) as h
def N_Page_text : List Str := ["self"]
def b_Page_text  : List S := [
  .ret (.idx (.att "Page" "now" (.var 0)) (.cst (.int 0)))]
def S_Page_text : Fn := fun as h => runF 1000000000 N_Page_text.length (b_Page_text ) as h
def N_has_script : List Str := ["text", "value", "at", "many", "step"]
def b_has_script (S_is_word : Fn) : List S := [
  .ifs (.or [(.not (.isi (.var 1) "tuple")), (.cmp .Gt (.bui .len false [(.var 1)]) (.glob "MOST_STEPS" c_MOST_STEPS))]) [.ret (.cst (.bool false))] [], 
  .unp (.tp [(.nm 2), (.nm 3)]) (.tup [(.cst (.int 0)), (.cst (.int 0))]), 
  .for_ (.nm 4) (.itv (.var 1)) [.ifs (.or [(.not (.isi (.var 4) "tuple")), (.not (.chn .LtE .LtE (.cst (.int 1)) (.bui .len false [(.var 4)]) (.cst (.int 2)))), (.not (.isi (.idx (.var 4) (.cst (.int 0))) "str"))]) [.ret (.cst (.bool false))] [], .ifs (.cmp .NotIn (.idx (.var 4) (.cst (.int 0))) (.ite (.cmp .Eq (.bui .len false [(.var 4)]) (.cst (.int 1))) (.tup [(.cst (.str "keep")), (.cst (.str "out"))]) (.tup [(.cst (.str "put")), (.cst (.str "swap"))]))) [.ret (.cst (.bool false))] [], .ifs (.or [(.and [(.cmp .Eq (.bui .len false [(.var 4)]) (.cst (.int 2))), (.not (.cal "is_word" S_is_word 1 [] [(.idx (.var 4) (.cst (.int 1)))]))]), (.and [(.cmp .NotEq (.idx (.var 4) (.cst (.int 0))) (.cst (.str "put"))), (.cmp .Eq (.var 2) (.bui .len false [(.var 0)]))])]) [.ret (.cst (.bool false))] [], .ifs (.and [(.cmp .Eq (.idx (.var 4) (.cst (.int 0))) (.cst (.str "swap"))), (.cmp .Eq (.idx (.var 4) (.cst (.int 1))) (.idx (.var 0) (.var 2)))]) [.ret (.cst (.bool false))] [], .set 2 (.bin .Add false (.var 2) (.bui .int1 false [(.cmp .NotEq (.idx (.var 4) (.cst (.int 0))) (.cst (.str "put")))])), .set 3 (.bin .Add false (.var 3) (.bui .int1 false [(.cmp .NotEq (.idx (.var 4) (.cst (.int 0))) (.cst (.str "out")))]))], 
  .ret (.and [(.cmp .Eq (.var 2) (.bui .len false [(.var 0)])), (.cmp .LtE (.var 3) (.glob "MOST_WORDS" c_MOST_WORDS))])]
def S_has_script : Fn := fun as h => runF 1000000000 N_has_script.length (b_has_script S_is_word) as h
def N_need_script : List Str := ["text", "value"]
def b_need_script (S_need_text : Fn) (S_has_script : Fn) : List S := [
  .exp (.cal "need_text" S_need_text 1 [] [(.var 0)]), 
  .ifs (.not (.cal "has_script" S_has_script 2 [] [(.var 0), (.var 1)])) [.rai "InvalidScript"] []]
def S_need_script : Fn := fun as h => runF 1000000000 N_need_script.length (b_need_script S_need_text S_has_script) as h
def N_text_behind : List Str := ["text", "script", "at", "found", "step"]
def b_text_behind  : List S := [
  .unp (.tp [(.nm 2), (.nm 3)]) (.tup [(.cst (.int 0)), (.tup [])]), 
  .for_ (.nm 4) (.itv (.var 1)) [.ifs (.cmp .Eq (.idx (.var 4) (.cst (.int 0))) (.cst (.str "keep"))) [.set 3 (.bin .Add false (.var 3) (.tup [(.idx (.var 0) (.var 2))]))] [.ifs (.cmp .NotEq (.idx (.var 4) (.cst (.int 0))) (.cst (.str "out"))) [.set 3 (.bin .Add false (.var 3) (.tup [(.idx (.var 4) (.cst (.int 1)))]))] []], .set 2 (.bin .Add false (.var 2) (.bui .int1 false [(.cmp .NotEq (.idx (.var 4) (.cst (.int 0))) (.cst (.str "put")))]))], 
  .ret (.var 3)]
def S_text_behind : Fn := fun as h => runF 1000000000 N_text_behind.length (b_text_behind ) as h
def N_changed : List Str := ["text", "script"]
def b_changed (S_need_script : Fn) (S_text_behind : Fn) : List S := [
  .exp (.cal "need_script" S_need_script 2 [] [(.var 0), (.var 1)]), 
  .ret (.cal "text_behind" S_text_behind 2 [] [(.var 0), (.var 1)])]
def S_changed : Fn := fun as h => runF 1000000000 N_changed.length (b_changed S_need_script S_text_behind) as h
def N_Page_row_of : List Str := ["self", "name", "found", "row"]
def b_Page_row_of  : List S := [
  .set 2 (.lcp [("row", 3)] (.nm 3) (.itv (.idx (.att "Page" "now" (.var 0)) (.cst (.int 1)))) [(.and [(.isi (.var 1) "str"), (.cmp .Eq (.idx (.var 3) (.cst (.int 0))) (.var 1))])] (.var 3)), 
  .ifs (.cmp .Eq (.var 2) (.lst false [])) [.rai "InvalidName"] [], 
  .ret (.idx (.var 2) (.cst (.int 0)))]
def S_Page_row_of : Fn := fun as h => runF 1000000000 N_Page_row_of.length (b_Page_row_of ) as h
def N_Page_place : List Str := ["self", "name"]
def b_Page_place (S_Page_row_of : Fn) : List S := [
  .ret (.idx (.mca "Page" "row_of" S_Page_row_of 2 [] (.var 0) [(.var 1)]) (.cst (.int 2)))]
def S_Page_place : Fn := fun as h => runF 1000000000 N_Page_place.length (b_Page_place S_Page_row_of) as h
def N_place_behind : List Str := ["script", "place", "at", "new", "step"]
def b_place_behind  : List S := [
  .unp (.tp [(.nm 2), (.nm 3)]) (.tup [(.cst (.int 0)), (.cst (.int 0))]), 
  .for_ (.nm 4) (.itv (.var 0)) [.ifs (.and [(.cmp .NotEq (.idx (.var 4) (.cst (.int 0))) (.cst (.str "put"))), (.cmp .Eq (.var 2) (.var 1))]) [.ret (.ite (.cmp .Eq (.idx (.var 4) (.cst (.int 0))) (.cst (.str "keep"))) (.var 3) (.cst .none))] [], .set 2 (.bin .Add false (.var 2) (.bui .int1 false [(.cmp .NotEq (.idx (.var 4) (.cst (.int 0))) (.cst (.str "put")))])), .set 3 (.bin .Add false (.var 3) (.bui .int1 false [(.cmp .NotEq (.idx (.var 4) (.cst (.int 0))) (.cst (.str "out")))]))], 
  .ret (.cst .none)]
def S_place_behind : Fn := fun as h => runF 1000000000 N_place_behind.length (b_place_behind ) as h
def N_new_place : List Str := ["text", "script", "place"]
def b_new_place (S_need_script : Fn) (S_is_from : Fn) (S_place_behind : Fn) : List S := [
  .exp (.cal "need_script" S_need_script 2 [] [(.var 0), (.var 1)]), 
  .ifs (.not (.cal "is_from" S_is_from 3 [] [(.var 2), (.cst (.int 0)), (.bin .Sub false (.bui .len false [(.var 0)]) (.cst (.int 1)))])) [.rai "InvalidPlace"] [], 
  .ret (.cal "place_behind" S_place_behind 2 [] [(.var 1), (.var 2)])]
def S_new_place : Fn := fun as h => runF 1000000000 N_new_place.length (b_new_place S_need_script S_is_from S_place_behind) as h
def N_is_pick : List Str := ["value"]
def b_is_pick  : List S := [
  .ret (.and [(.isi (.var 0) "str"), (.cmp .In (.var 0) (.glob "PICKS" c_PICKS))])]
def S_is_pick : Fn := fun as h => runF 1000000000 N_is_pick.length (b_is_pick ) as h
def N_is_attempt : List Str := ["value"]
def b_is_attempt (S_is_pick : Fn) (S_is_from : Fn) : List S := [
  .ifs (.or [(.not (.isi (.var 0) "tuple")), (.cmp .NotEq (.bui .len false [(.var 0)]) (.cst (.int 3))), (.not (.cal "is_pick" S_is_pick 1 [] [(.idx (.var 0) (.cst (.int 2)))]))]) [.ret (.cst (.bool false))] [], 
  .ret (.and [(.cal "is_from" S_is_from 3 [] [(.idx (.var 0) (.cst (.int 0))), (.cst (.int 0)), (.glob "MOST_AROUND" c_MOST_AROUND)]), (.cal "is_from" S_is_from 3 [] [(.idx (.var 0) (.cst (.int 1))), (.cst (.int 0)), (.glob "MOST_AROUND" c_MOST_AROUND)])])]
def S_is_attempt : Fn := fun as h => runF 1000000000 N_is_attempt.length (b_is_attempt S_is_pick S_is_from) as h
def N_is_policy : List Str := ["value", "attempt"]
def b_is_policy (S_is_attempt : Fn) : List S := [
  .ifs (.or [(.not (.isi (.var 0) "tuple")), (.not (.chn .LtE .LtE (.cst (.int 1)) (.bui .len false [(.var 0)]) (.glob "MOST_ATTEMPTS" c_MOST_ATTEMPTS)))]) [.ret (.cst (.bool false))] [], 
  .ret (.bui .all1 false [(.lcp [("attempt", 1)] (.nm 1) (.itv (.var 0)) [] (.cal "is_attempt" S_is_attempt 1 [] [(.var 1)]))])]
def S_is_policy : Fn := fun as h => runF 1000000000 N_is_policy.length (b_is_policy S_is_attempt) as h
def N_need_policy : List Str := ["value"]
def b_need_policy (S_is_policy : Fn) : List S := [
  .ifs (.not (.cal "is_policy" S_is_policy 1 [] [(.var 0)])) [.rai "InvalidPolicy"] []]
def S_need_policy : Fn := fun as h => runF 1000000000 N_need_policy.length (b_need_policy S_is_policy) as h
def N_fate_at : List Str := ["kept", "found"]
def b_fate_at  : List S := [
  .ifs (.cmp .Is (.var 0) (.cst .none)) [.ret (.ite (.cmp .Is (.var 1) (.cst .none)) (.cst (.str "gone")) (.cst (.str "ghost")))] [], 
  .ifs (.cmp .Is (.var 1) (.cst .none)) [.ret (.cst (.str "lost"))] [], 
  .ret (.ite (.cmp .Eq (.var 1) (.var 0)) (.cst (.str "right")) (.cst (.str "wrong")))]
def S_fate_at : Fn := fun as h => runF 1000000000 N_fate_at.length (b_fate_at ) as h
def N_picked : List Str := ["places", "pick"]
def b_picked  : List S := [
  .ifs (.or [(.cmp .Eq (.var 0) (.lst false [])), (.and [(.cmp .Eq (.var 1) (.cst (.str "only"))), (.cmp .Gt (.bui .len false [(.var 0)]) (.cst (.int 1)))])]) [.ret (.cst .none)] [], 
  .ret (.ite (.cmp .Eq (.var 1) (.cst (.str "last"))) (.idx (.var 0) (.neg (.cst (.int 1)))) (.idx (.var 0) (.cst (.int 0))))]
def S_picked : Fn := fun as h => runF 1000000000 N_picked.length (b_picked ) as h
def N_sought : List Str := ["note", "attempt", "ahead", "behind"]
def b_sought  : List S := [
  .set 2 (.slc false (.idx (.var 0) (.cst (.int 0))) (.itv (.bui .max2 false [(.cst (.int 0)), (.bin .Sub false (.bui .len false [(.idx (.var 0) (.cst (.int 0)))]) (.idx (.var 1) (.cst (.int 0))))])) .noe), 
  .set 3 (.slc false (.idx (.var 0) (.cst (.int 2))) .noe (.itv (.idx (.var 1) (.cst (.int 1))))), 
  .ret (.tup [(.bin .Add false (.bin .Add false (.var 2) (.tup [(.idx (.var 0) (.cst (.int 1)))])) (.var 3)), (.bui .len false [(.var 3)])])]
def S_sought : Fn := fun as h => runF 1000000000 N_sought.length (b_sought ) as h
def N_places_of : List Str := ["words", "text", "back", "size", "found", "start"]
def b_places_of  : List S := [
  .unp (.tp [(.nm 3), (.nm 4)]) (.tup [(.bui .len false [(.var 0)]), (.lst true [])]), 
  .for_ (.nm 5) (.rng [(.bin .Add false (.bin .Sub false (.bui .len false [(.var 1)]) (.var 3)) (.cst (.int 1)))]) [.ifs (.cmp .Eq (.slc false (.var 1) (.itv (.var 5)) (.itv (.bin .Add false (.var 5) (.var 3)))) (.var 0)) [.exp (.met .append false (.var 4) [(.bin .Sub false (.bin .Sub false (.bin .Add false (.var 5) (.var 3)) (.cst (.int 1))) (.var 2))])] []], 
  .ret (.var 4)]
def S_places_of : Fn := fun as h => frzR 4 h (runF 1000000000 N_places_of.length (b_places_of ) as h)
def N_attempt_matches : List Str := ["note", "attempt", "text", "words", "back"]
def b_attempt_matches (S_sought : Fn) (S_places_of : Fn) : List S := [
  .unp (.tp [(.nm 3), (.nm 4)]) (.cal "sought" S_sought 2 [] [(.var 0), (.var 1)]), 
  .ret (.cal "places_of" S_places_of 3 [] [(.var 3), (.var 2), (.var 4)])]
def S_attempt_matches : Fn := fun as h => runF 1000000000 N_attempt_matches.length (b_attempt_matches S_sought S_places_of) as h
def N_found_in : List Str := ["note", "policy", "text", "attempt", "place"]
def b_found_in (S_picked : Fn) (S_attempt_matches : Fn) : List S := [
  .for_ (.nm 3) (.itv (.var 1)) [.set 4 (.cal "picked" S_picked 2 [] [(.cal "attempt_matches" S_attempt_matches 3 [] [(.var 0), (.var 3), (.var 2)]), (.idx (.var 3) (.cst (.int 2)))]), .ifs (.cmp .IsNot (.var 4) (.cst .none)) [.ret (.var 4)] []], 
  .ret (.cst .none)]
def S_found_in : Fn := fun as h => runF 1000000000 N_found_in.length (b_found_in S_picked S_attempt_matches) as h
def N_Page_fate : List Str := ["self", "name", "policy", "row"]
def b_Page_fate (S_Page_row_of : Fn) (S_need_policy : Fn) (S_fate_at : Fn) (S_found_in : Fn) : List S := [
  .set 3 (.mca "Page" "row_of" S_Page_row_of 2 [] (.var 0) [(.var 1)]), 
  .exp (.cal "need_policy" S_need_policy 1 [] [(.var 2)]), 
  .ret (.cal "fate_at" S_fate_at 2 [] [(.idx (.var 3) (.cst (.int 2))), (.cal "found_in" S_found_in 3 [] [(.idx (.var 3) (.cst (.int 1))), (.var 2), (.idx (.att "Page" "now" (.var 0)) (.cst (.int 0)))])])]
def S_Page_fate : Fn := fun as h => runF 1000000000 N_Page_fate.length (b_Page_fate S_Page_row_of S_need_policy S_fate_at S_found_in) as h
def N_is_note : List Str := ["value"]
def b_is_note (S_is_word : Fn) (S_are_words : Fn) : List S := [
  .ifs (.or [(.not (.isi (.var 0) "tuple")), (.cmp .NotEq (.bui .len false [(.var 0)]) (.cst (.int 3))), (.not (.cal "is_word" S_is_word 1 [] [(.idx (.var 0) (.cst (.int 1)))]))]) [.ret (.cst (.bool false))] [], 
  .ret (.and [(.cal "are_words" S_are_words 2 [] [(.idx (.var 0) (.cst (.int 0))), (.glob "MOST_AROUND" c_MOST_AROUND)]), (.cal "are_words" S_are_words 2 [] [(.idx (.var 0) (.cst (.int 2))), (.glob "MOST_AROUND" c_MOST_AROUND)])])]
def S_is_note : Fn := fun as h => runF 1000000000 N_is_note.length (b_is_note S_is_word S_are_words) as h
def N_need_note : List Str := ["value"]
def b_need_note (S_is_note : Fn) : List S := [
  .ifs (.not (.cal "is_note" S_is_note 1 [] [(.var 0)])) [.rai "InvalidNote"] []]
def S_need_note : Fn := fun as h => runF 1000000000 N_need_note.length (b_need_note S_is_note) as h
def N_need_both : List Str := ["note", "policy"]
def b_need_both (S_need_note : Fn) (S_need_policy : Fn) : List S := [
  .exp (.cal "need_note" S_need_note 1 [] [(.var 0)]), 
  .exp (.cal "need_policy" S_need_policy 1 [] [(.var 1)])]
def S_need_both : Fn := fun as h => runF 1000000000 N_need_both.length (b_need_both S_need_note S_need_policy) as h
def N_words_of : List Str := ["note"]
def b_words_of  : List S := [
  .ret (.bin .Add false (.bin .Add false (.idx (.var 0) (.cst (.int 0))) (.tup [(.idx (.var 0) (.cst (.int 1)))])) (.idx (.var 0) (.cst (.int 2))))]
def S_words_of : Fn := fun as h => runF 1000000000 N_words_of.length (b_words_of ) as h
def N_note_places : List Str := ["note", "text"]
def b_note_places (S_places_of : Fn) (S_words_of : Fn) : List S := [
  .ret (.cal "places_of" S_places_of 3 [] [(.cal "words_of" S_words_of 1 [] [(.var 0)]), (.var 1), (.bui .len false [(.idx (.var 0) (.cst (.int 2)))])])]
def S_note_places : Fn := fun as h => runF 1000000000 N_note_places.length (b_note_places S_places_of S_words_of) as h
def N_fate : List Str := ["note", "policy", "text", "place", "script"]
def b_fate (S_need_both : Fn) (S_need_text : Fn) (S_is_from : Fn) (S_note_places : Fn) (S_need_script : Fn) (S_fate_at : Fn) (S_place_behind : Fn) (S_found_in : Fn) (S_text_behind : Fn) : List S := [
  .exp (.cal "need_both" S_need_both 2 [] [(.var 0), (.var 1)]), 
  .exp (.cal "need_text" S_need_text 1 [] [(.var 2)]), 
  .ifs (.or [(.not (.cal "is_from" S_is_from 3 [] [(.var 3), (.cst (.int 0)), (.bin .Sub false (.bui .len false [(.var 2)]) (.cst (.int 1)))])), (.cmp .NotIn (.var 3) (.cal "note_places" S_note_places 2 [] [(.var 0), (.var 2)]))]) [.rai "InvalidPlace"] [], 
  .exp (.cal "need_script" S_need_script 2 [] [(.var 2), (.var 4)]), 
  .ret (.cal "fate_at" S_fate_at 2 [] [(.cal "place_behind" S_place_behind 2 [] [(.var 4), (.var 3)]), (.cal "found_in" S_found_in 3 [] [(.var 0), (.var 1), (.cal "text_behind" S_text_behind 2 [] [(.var 2), (.var 4)])])])]
def S_fate : Fn := fun as h => runF 1000000000 N_fate.length (b_fate S_need_both S_need_text S_is_from S_note_places S_need_script S_fate_at S_place_behind S_found_in S_text_behind) as h
def N_Page_seek : List Str := ["self", "name", "policy", "note"]
def b_Page_seek (S_Page_row_of : Fn) (S_need_policy : Fn) (S_found_in : Fn) : List S := [
  .set 3 (.idx (.mca "Page" "row_of" S_Page_row_of 2 [] (.var 0) [(.var 1)]) (.cst (.int 1))), 
  .exp (.cal "need_policy" S_need_policy 1 [] [(.var 2)]), 
  .ret (.cal "found_in" S_found_in 3 [] [(.var 3), (.var 2), (.idx (.att "Page" "now" (.var 0)) (.cst (.int 0)))])]
def S_Page_seek : Fn := fun as h => runF 1000000000 N_Page_seek.length (b_Page_seek S_Page_row_of S_need_policy S_found_in) as h
def N_find : List Str := ["note", "policy", "text"]
def b_find (S_need_both : Fn) (S_need_text : Fn) (S_found_in : Fn) : List S := [
  .exp (.cal "need_both" S_need_both 2 [] [(.var 0), (.var 1)]), 
  .exp (.cal "need_text" S_need_text 1 [] [(.var 2)]), 
  .ret (.cal "found_in" S_found_in 3 [] [(.var 0), (.var 1), (.var 2)])]
def S_find : Fn := fun as h => runF 1000000000 N_find.length (b_find S_need_both S_need_text S_found_in) as h
def N_need_prices : List Str := ["value", "one"]
def b_need_prices (S_is_from : Fn) : List S := [
  .ifs (.or [(.not (.isi (.var 0) "tuple")), (.cmp .NotEq (.bui .len false [(.var 0)]) (.cst (.int 3))), (.not (.bui .all1 false [(.lcp [("one", 1)] (.nm 1) (.itv (.var 0)) [] (.cal "is_from" S_is_from 3 [] [(.var 1), (.cst (.int 1)), (.glob "MOST_PRICE" c_MOST_PRICE)]))]))]) [.rai "InvalidPrices"] []]
def S_need_prices : Fn := fun as h => runF 1000000000 N_need_prices.length (b_need_prices S_is_from) as h
def N_price_of : List Str := ["step", "prices"]
def b_price_of  : List S := [
  .ret (.ite (.cmp .Eq (.idx (.var 0) (.cst (.int 0))) (.cst (.str "keep"))) (.cst (.int 0)) (.idx (.var 1) (.tix [(.cst (.str "out")), (.cst (.str "put")), (.cst (.str "swap"))] (.idx (.var 0) (.cst (.int 0))))))]
def S_price_of : Fn := fun as h => runF 1000000000 N_price_of.length (b_price_of ) as h
def N_price : List Str := ["text", "script", "prices", "step"]
def b_price (S_need_script : Fn) (S_need_prices : Fn) (S_price_of : Fn) : List S := [
  .exp (.cal "need_script" S_need_script 2 [] [(.var 0), (.var 1)]), 
  .exp (.cal "need_prices" S_need_prices 1 [] [(.var 2)]), 
  .ret (.bui .sum1 false [(.lcp [("step", 3)] (.nm 3) (.itv (.var 1)) [] (.cal "price_of" S_price_of 2 [] [(.var 3), (.var 2)]))])]
def S_price : Fn := fun as h => runF 1000000000 N_price.length (b_price S_need_script S_need_prices S_price_of) as h
def N_Page_undo : List Str := ["self"]
def b_Page_undo  : List S := [
  .ifs (.cmp .Eq (.att "Page" "past" (.var 0)) (.lst false [])) [.rai "NothingToUndo"] [], 
  .sat "Page" "now" (.var 0) (.met .pop true (.att "Page" "past" (.var 0)) [])]
def S_Page_undo : Fn := fun as h => runF 1000000000 N_Page_undo.length (b_Page_undo ) as h
def N_law : List Str := ["script", "k", "source", "turn", "note", "policy", "text", "place", "steps", "page", "many", "back", "keeps"]
def b_law (S__law_source : Fn) (S__law_note : Fn) (S__law_policy : Fn) (S__law_held : Fn) (S__law_script : Fn) (S__law_draw : Fn) (S_Page___init__ : Fn) (S_Page_add : Fn) (S__law_done : Fn) (S_Page_text : Fn) (S_changed : Fn) (S_Page_place : Fn) (S_new_place : Fn) (S_Page_fate : Fn) (S_fate : Fn) (S_Page_seek : Fn) (S_find : Fn) (S_price : Fn) (S_Page_undo : Fn) (S_Page_swap : Fn) : List S := [
  .for_ (.nm 1) (.rng [(.bin .Add false (.cst (.int 1)) (.bui .min2 false [(.bui .len false [(.var 0)]), (.cst (.int 8))]))]) [.set 2 (.cal "_law_source" S__law_source 2 [] [(.var 0), (.var 1)]), .for_ (.nm 3) (.rng [(.cst (.int 2))]) [.unp (.tp [(.nm 4), (.nm 5)]) (.tup [(.cal "_law_note" S__law_note 2 [] [(.var 2), (.cst (.int 2))]), (.cal "_law_policy" S__law_policy 2 [] [(.var 2), (.cst (.int 2))])]), .unp (.tp [(.nm 6), (.nm 7)]) (.cal "_law_held" S__law_held 3 [] [(.var 2), (.var 4), (.cst (.int 3))]), .unp (.tp [(.nm 8), (.nm 9)]) (.tup [(.cal "_law_script" S__law_script 3 [] [(.var 2), (.var 6), (.bin .Add false (.cst (.int 2)) (.cal "_law_draw" S__law_draw 2 [] [(.var 2), (.cst (.int 6))]))]), (.mk "Page" S_Page___init__ 2 [] [(.var 6)])]), .ifs (.cmp .NotEq (.mca "Page" "add" S_Page_add 5 [] (.var 9) [(.cst (.str "n")), (.var 7), (.bui .len false [(.idx (.var 4) (.cst (.int 0)))]), (.bui .len false [(.idx (.var 4) (.cst (.int 2)))])]) (.var 4)) [.ret (.cst (.bool false))] [], .set 10 (.cal "_law_done" S__law_done 2 [] [(.var 9), (.var 8)]), .ifs (.or [(.cmp .NotEq (.prp "Page" "text" S_Page_text (.var 9)) (.cal "changed" S_changed 2 [] [(.var 6), (.var 8)])), (.cmp .NotEq (.mca "Page" "place" S_Page_place 2 [] (.var 9) [(.cst (.str "n"))]) (.cal "new_place" S_new_place 3 [] [(.var 6), (.var 8), (.var 7)]))]) [.ret (.cst (.bool false))] [], .ifs (.cmp .NotEq (.mca "Page" "fate" S_Page_fate 3 [] (.var 9) [(.cst (.str "n")), (.var 5)]) (.cal "fate" S_fate 5 [] [(.var 4), (.var 5), (.var 6), (.var 7), (.var 8)])) [.ret (.cst (.bool false))] [], .ifs (.or [(.cmp .NotEq (.mca "Page" "seek" S_Page_seek 3 [] (.var 9) [(.cst (.str "n")), (.var 5)]) (.cal "find" S_find 3 [] [(.var 4), (.var 5), (.prp "Page" "text" S_Page_text (.var 9))])), (.cmp .NotEq (.var 10) (.cal "price" S_price 3 [.tup [(.int 1), (.int 1), (.int 1)]] [(.var 6), (.var 8)]))]) [.ret (.cst (.bool false))] [], .for_ (.nm 11) (.rng [(.var 10)]) [.exp (.mca "Page" "undo" S_Page_undo 1 [] (.var 9) [])], .ifs (.or [(.cmp .NotEq (.prp "Page" "text" S_Page_text (.var 9)) (.var 6)), (.cmp .NotEq (.mca "Page" "place" S_Page_place 2 [] (.var 9) [(.cst (.str "n"))]) (.var 7))]) [.ret (.cst (.bool false))] []]], 
  .set 6 (.tup [(.cst (.str "a")), (.cst (.str "b")), (.cst (.str "c")), (.cst (.str "d")), (.cst (.str "e")), (.cst (.str "f")), (.cst (.str "g")), (.cst (.str "h")), (.cst (.str "i"))]), 
  .set 9 (.mk "Page" S_Page___init__ 2 [] [(.var 6)]), 
  .exp (.mca "Page" "add" S_Page_add 5 [] (.var 9) [(.cst (.str "n")), (.cst (.int 8)), (.cst (.int 1)), (.cst (.int 0))]), 
  .exp (.mca "Page" "swap" S_Page_swap 3 [] (.var 9) [(.cst (.int 8)), (.cst (.str "j"))]), 
  .set 12 (.bin .Mult false (.tup [(.tup [(.cst (.str "keep"))])]) (.cst (.int 7))), 
  .ret (.and [(.cmp .Is (.mca "Page" "place" S_Page_place 2 [] (.var 9) [(.cst (.str "n"))]) (.cst .none)), (.cmp .Eq (.cal "new_place" S_new_place 3 [] [(.var 6), (.bin .Add false (.bin .Add false (.tup [(.tup [(.cst (.str "swap")), (.cst (.str "z"))])]) (.var 12)) (.tup [(.tup [(.cst (.str "keep"))])])), (.cst (.int 8))]) (.cst (.int 8)))])]
def S_law : Fn := fun as h => runF 1000000000 N_law.length (b_law S__law_source S__law_note S__law_policy S__law_held S__law_script S__law_draw S_Page___init__ S_Page_add S__law_done S_Page_text S_changed S_Page_place S_new_place S_Page_fate S_fate S_Page_seek S_find S_price S_Page_undo S_Page_swap) as h
end Ev
end
noncomputable section
namespace Ev
open PySem L2
def low (y : Str) : Bool := !(Builtin.Str.occurrences "abcdefghijklmnopqrstuvwxyz" y 0 26 1).isEmpty
def isWord : D → Bool
  | .str x => decide (1 ≤ (x.length : Int)) && decide ((x.length : Int) ≤ 8) && x.cps.all fun c => low ⟨#[c]⟩
  | _ => false
theorem lit26 : (("abcdefghijklmnopqrstuvwxyz" : Str)).length = 26 := by decide +kernel
theorem in_low {h : LH} {x : Str} : inD h (.str x) (.str "abcdefghijklmnopqrstuvwxyz") = some (low x) := by simp only [inD, inS, lit26]; rfl
theorem is_word_ok {b n : Nat} {d : D} {h : LH} (hb : b ≤ sizeLine) (f : fit b n d) : S_is_word [d] h = .ok (.bl (isWord d)) h := by
  cases d with
  | str x =>
    have hx := (fit_str.mp f).1
    have hx2 : x.length ≤ sizeLine := Nat.le_trans hx hb
    have e : x.cps.size = x.length := rfl
    have e := lcp_map (own := [("letter", 1)]) (t := .nm 1) (elt := .cmp .In (.var 1) (.glob "LETTERS" c_LETTERS)) (s := []) (xs := x.cps.toList.map fun c => D.str ⟨#[c]⟩) (env := [some (.str x), none]) (h := h) (fun d => .bl (match d with | .str y => low y | _ => false)) srcOk_nil (by simp; omega) (by
      intro y hy
      obtain ⟨c, _, rfl⟩ := List.mem_map.mp hy
      exact ⟨_, rfl, by simp [c_LETTERS, in_low]⟩)
    simp only [S_is_word, b_is_word, N_is_word, runF_eq]
    by_cases h1 : 1 ≤ (x.length : Int) <;> by_cases h2 : (x.length : Int) ≤ 8 <;> simp [isWord, lenD_str hx2, e, h1, h2, Function.comp_def]
  | loc => simp at f
  | scr => simp at f
  | dct => simp at f
  | ins => simp at f
  | clo => simp at f
  | _ => simp [S_is_word, b_is_word, N_is_word, isWord, runF_eq]
def areWords (m : Int) : D → Bool
  | .tup ds => decide ((ds.length : Int) ≤ m) && ds.all isWord
  | _ => false
theorem are_words_ok {b n : Nat} {d : D} {m : Int} {h : LH} (hb : b ≤ sizeLine) (f : fit b n d) : S_are_words [d, .int m] h = .ok (.bl (areWords m d)) h := by
  cases d with
  | tup ds =>
    have hf := fit_tup1 f
    have e := lcp_map (own := [("word", 2)]) (t := .nm 2) (elt := .cal "is_word" S_is_word 1 [] [(.var 2)]) (s := []) (xs := ds) (env := [some (.tup ds), some (.int m), none]) (h := h) (fun d => .bl (isWord d)) srcOk_nil (by omega) (by
      intro y hy
      exact ⟨_, rfl, by simp [is_word_ok hb (hf.2 y hy)]⟩)
    simp only [S_are_words, b_are_words, N_are_words, runF_eq]
    by_cases h1 : (ds.length : Int) ≤ m <;> simp [areWords, e, h1, Function.comp_def]
  | loc => simp at f
  | scr => simp at f
  | dct => simp at f
  | ins => simp at f
  | clo => simp at f
  | _ => simp [S_are_words, b_are_words, N_are_words, areWords, runF_eq]
end Ev
end
noncomputable section
namespace Ev
open PySem L2
theorem is_text_ok {b n : Nat} {d : D} {h : LH} (hb : b ≤ sizeLine) (f : fit b n d) : S_is_text [d] h = .ok (.bl (areWords 60 d)) h := by
  simp only [S_is_text, b_is_text, N_is_text, runF_eq]
  simp [c_MOST_WORDS, are_words_ok hb f]
end Ev
end
noncomputable section
namespace Ev
open PySem L2
def isNote : D → Bool
  | .tup [a, w, c] => isWord w && areWords 2 a && areWords 2 c
  | _ => false
theorem isNote_ne {ds : List D} (h : ds.length ≠ 3) : isNote (.tup ds) = false := by
  unfold isNote
  split
  · rename_i e
    cases e
    simp at h
  · rfl
theorem is_note_ok {b n : Nat} {d : D} {h : LH} (hb : b ≤ sizeLine) (f : fit b n d) : S_is_note [d] h = .ok (.bl (isNote d)) h := by
  cases d with
  | tup ds =>
    have hf := fit_tup1 f
    simp only [S_is_note, b_is_note, N_is_note, runF_eq]
    by_cases h1 : ds.length = 3
    · obtain ⟨a, w, c, rfl⟩ := len3 h1
      simp at hf
      have e1 := is_word_ok (h := h) hb hf.2.2.1
      have e2 := are_words_ok (h := h) (m := 2) hb hf.2.1
      have e3 := are_words_ok (h := h) (m := 2) hb hf.2.2.2
      cases q1 : isWord w <;> cases q2 : areWords 2 a <;> simp [e1, q1, e2, q2, e3, isNote, c_MOST_AROUND]
    · simp [isNote_ne h1, ne3 h1]
  | loc => simp at f
  | scr => simp at f
  | dct => simp at f
  | ins => simp at f
  | clo => simp at f
  | _ => simp [S_is_note, b_is_note, N_is_note, isNote, runF_eq]
end Ev
end
noncomputable section
namespace Ev
open PySem L2
def isFrom (lo hi : Int) : D → Bool
  | .int i => decide (lo ≤ i) && decide (i ≤ hi)
  | _ => false
theorem is_from_ok {b n : Nat} {d : D} {lo hi : Int} {h : LH} (f : fit b n d) : S_is_from [d, .int lo, .int hi] h = .ok (.bl (isFrom lo hi d)) h := by
  cases d with
  | int i =>
    simp only [S_is_from, b_is_from, N_is_from, runF_eq]
    by_cases h1 : lo ≤ i <;> simp [isFrom, h1]
  | loc => simp at f
  | scr => simp at f
  | dct => simp at f
  | ins => simp at f
  | clo => simp at f
  | _ => simp [S_is_from, b_is_from, N_is_from, isFrom, runF_eq]
def isPick : D → Bool
  | .str x => (("first" : Str) == x || (("last" : Str) == x || ("only" : Str) == x))
  | _ => false
theorem is_pick_ok {b n : Nat} {d : D} {h : LH} (f : fit b n d) : S_is_pick [d] h = .ok (.bl (isPick d)) h := by
  cases d with
  | str x =>
    have hs := shaped_str (fit_str.mp f).2
    have hp : SeqAt.shaped (.list [.str "first", .str "last", .str "only"]) = true := by decide +kernel
    simp only [S_is_pick, b_is_pick, N_is_pick, runF_eq]
    simp [isPick, c_PICKS, inD, inS, pdT, pd, pds, hs, hp, PyData.eqv]
  | loc => simp at f
  | scr => simp at f
  | dct => simp at f
  | ins => simp at f
  | clo => simp at f
  | _ => simp [S_is_pick, b_is_pick, N_is_pick, isPick, runF_eq]
def isAttempt : D → Bool
  | .tup [a, w, c] => isPick c && isFrom 0 2 a && isFrom 0 2 w
  | _ => false
theorem isAttempt_ne {ds : List D} (h : ds.length ≠ 3) : isAttempt (.tup ds) = false := by
  unfold isAttempt
  split
  · rename_i e
    cases e
    simp at h
  · rfl
theorem is_attempt_ok {b n : Nat} {d : D} {h : LH} (f : fit b n d) : S_is_attempt [d] h = .ok (.bl (isAttempt d)) h := by
  cases d with
  | tup ds =>
    have hf := fit_tup1 f
    simp only [S_is_attempt, b_is_attempt, N_is_attempt, runF_eq]
    by_cases h1 : ds.length = 3
    · obtain ⟨a, w, c, rfl⟩ := len3 h1
      simp at hf
      have e1 := is_pick_ok (h := h) hf.2.2.2
      have e2 := is_from_ok (h := h) (lo := 0) (hi := 2) hf.2.1
      have e3 := is_from_ok (h := h) (lo := 0) (hi := 2) hf.2.2.1
      cases q1 : isPick c <;> cases q2 : isFrom 0 2 a <;> simp [e1, q1, e2, q2, e3, isAttempt, c_MOST_AROUND]
    · simp [isAttempt_ne h1, ne3 h1]
  | loc => simp at f
  | scr => simp at f
  | dct => simp at f
  | ins => simp at f
  | clo => simp at f
  | _ => simp [S_is_attempt, b_is_attempt, N_is_attempt, isAttempt, runF_eq]
def isPolicy : D → Bool
  | .tup ds => decide (1 ≤ (ds.length : Int)) && decide ((ds.length : Int) ≤ 2) && ds.all isAttempt
  | _ => false
theorem is_policy_ok {b n : Nat} {d : D} {h : LH} (hb : b ≤ sizeLine) (f : fit b n d) : S_is_policy [d] h = .ok (.bl (isPolicy d)) h := by
  cases d with
  | tup ds =>
    have hf := fit_tup1 f
    have e := lcp_map (own := [("attempt", 1)]) (t := .nm 1) (elt := .cal "is_attempt" S_is_attempt 1 [] [(.var 1)]) (s := []) (xs := ds) (env := [some (.tup ds), none]) (h := h) (fun d => .bl (isAttempt d)) srcOk_nil (by omega) (by
      intro y hy
      exact ⟨_, rfl, by simp [is_attempt_ok (hf.2 y hy)]⟩)
    simp only [S_is_policy, b_is_policy, N_is_policy, runF_eq]
    by_cases h1 : 1 ≤ (ds.length : Int) <;> by_cases h2 : (ds.length : Int) ≤ 2 <;> simp [isPolicy, e, h1, h2, Function.comp_def, c_MOST_ATTEMPTS]
  | loc => simp at f
  | scr => simp at f
  | dct => simp at f
  | ins => simp at f
  | clo => simp at f
  | _ => simp [S_is_policy, b_is_policy, N_is_policy, isPolicy, runF_eq]
end Ev
end
noncomputable section
namespace Ev
open PySem L2
theorem source_rest {F : Nat} {ns : List Int} {k : Nat} {h : LH} (z : Int) : ∃ o, fin (evSs F (b__law_source.drop 1) [some (.scr ns), some (.int k), some (.int z), none] h) = .ok (.loc h.length) (h ++ [o]) ∧ IsSrc o := by
  have h3 : 3 ≤ sizeLine := small1000 (by decide)
  simp only [b__law_source, List.drop_succ_cons, List.drop_zero]
  by_cases hz : 100000000000000000 < z <;> simp [hz, h3] <;> exact ⟨_, _, _, rfl⟩
theorem source_first {F : Nat} {ns : List Int} {k : Nat} {h : LH} : ∃ z : Int, evSs F (b__law_source.take 1) [some (.scr ns), some (.int k), none, none] h = .nx [some (.scr ns), some (.int k), some (.int z), none] h := by
  simp only [b__law_source, List.take_succ_cons, List.take_zero]
  by_cases hl : k < ns.length
  · have e := atI_nat (List.getElem?_eq_getElem hl)
    exact ⟨if ns[k] < 0 then -ns[k] else ns[k], by simp [hl, e]⟩
  · exact ⟨31 * (k : Int) + 5, by simp [hl]⟩
theorem source_ok {ns : List Int} {k : Nat} {h : LH} : ∃ o, S__law_source [.scr ns, .int k] h = .ok (.loc h.length) (h ++ [o]) ∧ IsSrc o := by
  obtain ⟨z, e⟩ := source_first (F := 1000000000) (ns := ns) (k := k) (h := h)
  obtain ⟨o, e2, so⟩ := source_rest (F := 1000000000) (ns := ns) (k := k) (h := h) z
  refine ⟨o, ?_, so⟩
  have q : b__law_source = b__law_source.take 1 ++ b__law_source.drop 1 := rfl
  simp only [S__law_source, runF_eq]
  rw [q, evSs_append]
  have q2 : ([D.scr ns, .int k].map some ++ List.replicate (N__law_source.length - [D.scr ns, .int k].length) none) = [some (.scr ns), some (.int k), none, none] := rfl
  rw [q2, e]
  exact e2
theorem draw_ok {h : LH} {n : Nat} {m : Int} (s : SrcAt n h) (hm : 0 < m) (hm2 : m < 18446744073709551616) : ∃ r h', S__law_draw [.loc n, .int m] h = .ok (.int r) h' ∧ Dr n h h' ∧ 0 ≤ r ∧ r < m := by
  have hn := s.lt
  obtain ⟨o, e, a, b, c, rfl⟩ := s
  have hl := log_small hm hm2
  have l2 : Nat.log2 128 < 9000 := by decide
  simp only [S__law_draw, b__law_draw, N__law_draw, runF_eq]
  by_cases ha : 0 < a
  · have q : ixN 3 0 = some 0 := by decide
    simp [idx_loc e, ha, hm, hl, e, q]
    exact ⟨_, _, ⟨rfl, rfl⟩, ⟨_, ⟨_, _, _, rfl⟩, rfl⟩, Int.emod_nonneg _ (by omega), Int.emod_lt_of_pos _ hm⟩
  · have q : ixN 3 2 = some 2 := by decide
    have q1 : ixN 3 1 = some 1 := by decide
    have e2 : (h.set n (.lst [.int a, .int b, .int (c + 1)]))[n]? = some (.lst [.int a, .int b, .int (c + 1)]) := List.getElem?_set_self hn
    have z (x : Int) : -18446744073709551616 < x % 4294967291 ∧ x % 4294967291 < 18446744073709551616 := by omega
    simp [idx_loc e, idx_loc e2, ha, hm, hl, e, q, q1, e2, l2, z]

    exact ⟨_, _, ⟨rfl, rfl⟩, ⟨_, ⟨_, _, _, rfl⟩, rfl⟩, Int.emod_nonneg _ (by omega), Int.emod_lt_of_pos _ hm⟩
theorem choice_ok {h : LH} {n : Nat} {ds : List D} (s : SrcAt n h) (hd : ds ≠ []) (hl : ds.length ≤ sizeLine) : ∃ d ∈ ds, ∃ h', S__law_choice [.loc n, .lst ds] h = .ok d h' ∧ Dr n h h' := by
  have hp : 0 < ds.length := List.length_pos_iff.mpr hd
  obtain ⟨r, h', e, d, r0, r1⟩ := draw_ok (m := (ds.length : Nat)) s (by omega) (by have : sizeLine = 16777216 := rfl; omega)
  obtain ⟨x, hx, ex⟩ := atI_mem r0 r1
  refine ⟨x, hx, h', ?_, d⟩
  simp only [S__law_choice, b__law_choice, N__law_choice, runF_eq]
  simp [e, ex]
theorem choice_tok {h : LH} {n : Nat} {ds : List D} (s : SrcAt n h) (hd : ds ≠ []) (hl : ds.length ≤ sizeLine) : ∃ d ∈ ds, ∃ h', S__law_choice [.loc n, .tup ds] h = .ok d h' ∧ Dr n h h' := by
  have hp : 0 < ds.length := List.length_pos_iff.mpr hd
  obtain ⟨r, h', e, d, r0, r1⟩ := draw_ok (m := (ds.length : Nat)) s (by omega) (by have : sizeLine = 16777216 := rfl; omega)
  obtain ⟨x, hx, ex⟩ := atI_mem r0 r1
  refine ⟨x, hx, h', ?_, d⟩
  simp only [S__law_choice, b__law_choice, N__law_choice, runF_eq]
  simp [e, ex]
end Ev
end
noncomputable section
namespace Ev
open PySem L2
/-- a word that fits -/
def Wd (d : D) : Prop := isWord d = true ∧ fit 8 0 d
theorem Wd.of {d : D} (h : (isWord d && fitB 8 0 d) = true) : Wd d := by
  rw [Bool.and_eq_true] at h
  exact ⟨h.1, fit_of h.2⟩
theorem menu_ok {h : LH} {n : Nat} (s : SrcAt n h) : ∃ ws h', S__law_menu [.loc n] h = .ok (.lst ws) h' ∧ Dr n h h' ∧ ws ≠ [] ∧ ws.length ≤ 3 ∧ ∀ w ∈ ws, Wd w := by
  obtain ⟨d, hd, h', e, r⟩ := choice_ok (ds := [.lst [.str "a"], .lst [.str "a", .str "b"], .lst [.str "a", .str "b"], .lst [.str "the", .str "cat", .str "sat"], .lst [.str "x", .str "zzzzzzzz"], .lst [.str "a", .str "aa", .str "b"]]) s (by simp) (big0 (by simp))
  have ev : S__law_menu [.loc n] h = .ok d h' := by
    simp only [S__law_menu, b__law_menu, N__law_menu, runF_eq]
    simp [e, big0 (show 1 ≤ 1000 by decide), big0 (show 2 ≤ 1000 by decide), big0 (show 3 ≤ 1000 by decide), big0 (show 6 ≤ 1000 by decide)]
  have w1 : ∀ w ∈ [D.str "a", .str "b", .str "the", .str "cat", .str "sat", .str "x", .str "zzzzzzzz", .str "aa"], Wd w := by
    have q : ([D.str "a", .str "b", .str "the", .str "cat", .str "sat", .str "x", .str "zzzzzzzz", .str "aa"].all fun w => isWord w && fitB 8 0 w) = true := by decide +kernel
    intro w hw
    exact Wd.of (List.all_eq_true.mp q w hw)
  simp only [List.mem_cons, List.not_mem_nil, or_false] at hd w1
  rcases hd with rfl | rfl | rfl | rfl | rfl | rfl <;> exact ⟨_, h', ev, r, by simp, by simp, by
    intro w hw
    simp only [List.mem_cons, List.not_mem_nil, or_false] at hw
    apply w1
    rcases hw with rfl | rfl | rfl <;> simp⟩
theorem row_ok {h : LH} {n : Nat} {ws : List D} {k : Nat} (s : SrcAt n h) (hw : ws ≠ []) (hl : ws.length ≤ sizeLine) (hk : k ≤ 1000) : ∃ ds h', S__law_row [.loc n, .lst ws, .int k] h = .ok (.tup ds) h' ∧ Dr n h h' ∧ ds.length ≤ k ∧ ∀ d ∈ ds, d ∈ ws := by
  obtain ⟨r, h1, e1, d1, r0, r1⟩ := draw_ok (m := (k : Int) + 1) s (by omega) (by omega)
  have s1 := d1.src s
  have hr : r.toNat ≤ 1000 := by omega
  obtain ⟨ds, h2, e2, d2, q, ql⟩ := lcp_inv (own := [("turn", 3)]) (t := .nm 3) (elt := .cal "_law_choice" S__law_choice 2 [] [(.var 0), (.var 1)]) (s := []) (xs := (List.range r.toNat).map fun i => D.int (i : Nat)) (env := [some (.loc n), some (.lst ws), some (.int k), none]) (h := h1) (fun h' => Dr n h1 h') (fun d => d ∈ ws) (fun _ _ => srcOk_nil) (by have := big0 hr; simpa using this) (Dr.refl s1) (by
    intro x hx h2 d2
    obtain ⟨d, hd, h3, e3, d3⟩ := choice_ok (d2.src s1) hw hl
    exact ⟨_, rfl, d, h3, by simp [e3], d2.trans d3, hd⟩)
  refine ⟨ds, h2, ?_, d1.trans d2, by simp at ql; omega, q⟩
  have b1 : -4611686018427387904 ≤ r ∧ r < 4611686018427387904 := by omega
  simp only [S__law_row, b__law_row, N__law_row, runF_eq]
  simp [e1, e2, b1]
/-- a note with at most k words around -/
def Note (k : Nat) (d : D) : Prop := ∃ as w bs, d = .tup [.tup as, w, .tup bs] ∧ as.length ≤ k ∧ bs.length ≤ k ∧ Wd w ∧ (∀ a ∈ as, Wd a) ∧ ∀ b ∈ bs, Wd b
theorem note_ok {h : LH} {n k : Nat} (s : SrcAt n h) (hk : k ≤ 1000) : ∃ d h', S__law_note [.loc n, .int k] h = .ok d h' ∧ Dr n h h' ∧ Note k d := by
  obtain ⟨ws, h1, e1, d1, w0, w1, w2⟩ := menu_ok s
  obtain ⟨as, h2, e2, d2, l2, q2⟩ := row_ok (k := k) (d1.src s) w0 (big0 (by omega)) hk
  obtain ⟨w, hw, h3, e3, d3⟩ := choice_ok ((d1.trans d2).src s) w0 (big0 (by omega))
  obtain ⟨bs, h4, e4, d4, l4, q4⟩ := row_ok (k := k) ((d1.trans (d2.trans d3)).src s) w0 (big0 (by omega)) hk
  refine ⟨_, h4, ?_, d1.trans (d2.trans (d3.trans d4)), as, w, bs, rfl, l2, l4, w2 w hw, fun a ha => w2 a (q2 a ha), fun b hb => w2 b (q4 b hb)⟩
  simp only [S__law_note, b__law_note, N__law_note, runF_eq]
  simp [e1, e2, e3, e4, big0 (show 3 ≤ 1000 by decide)]
def noteWords : D → List D
  | .tup [.tup as, w, .tup bs] => as ++ [w] ++ bs
  | _ => []
theorem noteWords_wd {k : Nat} {d : D} (hn : Note k d) : noteWords d ≠ [] ∧ (noteWords d).length ≤ 2 * k + 1 ∧ ∀ w ∈ noteWords d, Wd w := by
  obtain ⟨as, w, bs, rfl, l1, l2, qw, q1, q2⟩ := hn
  refine ⟨by simp [noteWords], by simp [noteWords]; omega, fun x hx => ?_⟩
  simp only [noteWords, List.mem_append, List.mem_singleton] at hx
  rcases hx with (hx | rfl) | hx
  · exact q1 x hx
  · exact qw
  · exact q2 x hx
theorem wd_fit {b n : Nat} {d : D} (hb : 8 ≤ b) (w : Wd d) : fit b n d := fit_mono hb (Nat.zero_le n) w.2
theorem note_fit {k : Nat} {d : D} (hk : k ≤ 100) (hn : Note k d) : fit 100 2 d := by
  obtain ⟨as, w, bs, rfl, l1, l2, qw, q1, q2⟩ := hn
  refine ⟨by simp, fun x hx => ?_⟩
  simp only [List.mem_cons, List.not_mem_nil, or_false] at hx
  rcases hx with rfl | rfl | rfl
  · exact ⟨by omega, fun a ha => wd_fit (by decide) (q1 a ha)⟩
  · exact wd_fit (by decide) qw
  · exact ⟨by omega, fun a ha => wd_fit (by decide) (q2 a ha)⟩
theorem text_fit {ds : List D} (l : ds.length ≤ 60) (q : ∀ w ∈ ds, Wd w) : fit 100 2 (.tup ds) := ⟨by omega, fun a ha => wd_fit (by decide) (q a ha)⟩
end Ev
end
noncomputable section
namespace Ev
open PySem L2
theorem words_ok {h : LH} {k : Nat} {d : D} (hn : Note k d) (hk : k ≤ 1000) : S__law_words [d] h = .ok (.tup (noteWords d)) h := by
  obtain ⟨as, w, bs, rfl, l1, l2, _⟩ := hn
  have a1 : as.length + 1 ≤ sizeLine := by have : sizeLine = 16777216 := rfl; omega
  have a2 : as.length + (bs.length + 1) ≤ sizeLine := by have : sizeLine = 16777216 := rfl; omega
  have a3 : as.length + 1 + bs.length ≤ sizeLine := by have : sizeLine = 16777216 := rfl; omega
  simp only [S__law_words, b__law_words, N__law_words, runF_eq]
  simp [noteWords, a1, a2, a3, big0 (show 1 ≤ 1000 by decide)]
end Ev
end
noncomputable section
namespace Ev
open PySem L2
/-- an attempt, its numbers at most k -/
def Att (k : Nat) (d : D) : Prop := ∃ (x y : Nat) (p : Str), d = .tup [.int x, .int y, .str p] ∧ x ≤ k ∧ y ≤ k ∧ (p = "only" ∨ p = "first" ∨ p = "last")
theorem attempt_ok {h : LH} {n k : Nat} (s : SrcAt n h) (hk : k ≤ 1000) : ∃ d h', S__law_attempt [.loc n, .int k] h = .ok d h' ∧ Dr n h h' ∧ Att k d := by
  obtain ⟨p, hp, h1, e1, d1⟩ := choice_ok (ds := [.str "only", .str "only", .str "first", .str "last"]) s (by simp) (big0 (by simp))
  obtain ⟨x, h2, e2, d2, x0, x1⟩ := draw_ok (m := (k : Int) + 1) (d1.src s) (by omega) (by omega)
  obtain ⟨y, h3, e3, d3, y0, y1⟩ := draw_ok (m := (k : Int) + 1) ((d1.trans d2).src s) (by omega) (by omega)
  refine ⟨.tup [.int x, .int y, p], h3, ?_, d1.trans (d2.trans d3), ?_⟩
  · simp only [S__law_attempt, b__law_attempt, N__law_attempt, runF_eq]
    simp [e1, e2, e3, big0 (show 3 ≤ 1000 by decide), big0 (show 4 ≤ 1000 by decide)]
  · obtain ⟨x, rfl⟩ := Int.eq_ofNat_of_zero_le x0
    obtain ⟨y, rfl⟩ := Int.eq_ofNat_of_zero_le y0
    simp only [List.mem_cons, List.not_mem_nil, or_false] at hp
    rcases hp with rfl | rfl | rfl | rfl
    · exact ⟨x, y, _, rfl, by omega, by omega, .inl rfl⟩
    · exact ⟨x, y, _, rfl, by omega, by omega, .inl rfl⟩
    · exact ⟨x, y, _, rfl, by omega, by omega, .inr (.inl rfl)⟩
    · exact ⟨x, y, _, rfl, by omega, by omega, .inr (.inr rfl)⟩
def Pol (k : Nat) (d : D) : Prop := ∃ as, d = .tup as ∧ 1 ≤ as.length ∧ as.length ≤ 2 ∧ ∀ a ∈ as, Att k a
theorem policy_ok {h : LH} {n k : Nat} (s : SrcAt n h) (hk : k ≤ 1000) : ∃ d h', S__law_policy [.loc n, .int k] h = .ok d h' ∧ Dr n h h' ∧ Pol k d := by
  obtain ⟨r, h1, e1, d1, r0, r1⟩ := draw_ok (m := 2) s (by omega) (by omega)
  have s1 := d1.src s
  obtain ⟨ds, h2, e2, d2, q, ql⟩ := lcp_inv (own := [("turn", 2)]) (t := .nm 2) (elt := .cal "_law_attempt" S__law_attempt 2 [] [(.var 0), (.var 1)]) (s := []) (xs := (List.range (1 + r).toNat).map fun i => D.int (i : Nat)) (env := [some (.loc n), some (.int k), none]) (h := h1) (fun h' => Dr n h1 h') (Att k) (fun _ _ => srcOk_nil) (by have := big0 (show (1 + r).toNat ≤ 1000 by omega); simpa using this) (Dr.refl s1) (by
    intro x hx h2 d2
    obtain ⟨d, h3, e3, d3, hd⟩ := attempt_ok (d2.src s1) hk
    exact ⟨_, rfl, d, h3, by simp [e3], d2.trans d3, hd⟩)
  refine ⟨.tup ds, h2, ?_, d1.trans d2, ds, rfl, by simp at ql; omega, by simp at ql; omega, q⟩
  have b1 : -4611686018427387904 ≤ 1 + r ∧ 1 + r < 4611686018427387904 := by omega
  simp only [S__law_policy, b__law_policy, N__law_policy, runF_eq]
  simp [e1, e2, b1]
theorem att_fit {k n : Nat} {d : D} (h : Att k d) : fit 100 (n + 1) d := by
  obtain ⟨x, y, p, rfl, _, _, hp⟩ := h
  have q : ([D.str "only", .str "first", .str "last"].all fun d => fitB 100 0 d) = true := by decide +kernel
  have z : fit 100 0 (.str p) := fit_of (List.all_eq_true.mp q _ (by rcases hp with rfl | rfl | rfl <;> simp))
  exact ⟨by simp, by
    intro d hd
    simp only [List.mem_cons, List.not_mem_nil, or_false] at hd
    rcases hd with rfl | rfl | rfl
    · simp
    · simp
    · exact fit_mono (Nat.le_refl _) (Nat.zero_le _) z⟩
theorem pol_fit {k : Nat} {d : D} (h : Pol k d) : fit 100 2 d := by
  obtain ⟨as, rfl, _, l, q⟩ := h
  exact ⟨by omega, fun a ha => att_fit (q a ha)⟩
end Ev
end
noncomputable section
namespace Ev
open PySem L2
theorem text2_ok {h : LH} {n k m : Nat} {d : D} (s : SrcAt n h) (hn : Note k d) (hk : k ≤ 100) (hm : m ≤ 100) : ∃ ds h', S__law_text [.loc n, d, .int m] h = .ok (.tup ds) h' ∧ Dr n h h' ∧ ds.length ≤ 60 ∧ (∀ w ∈ ds, Wd w) ∧ ds.length ≤ (2 * k + 1) * m := by
  obtain ⟨nw0, nw1, nw2⟩ := noteWords_wd hn
  obtain ⟨r, h1, e1, d1, r0, r1⟩ := draw_ok (m := (m : Int) + 1) s (by omega) (by omega)
  have s1 := d1.src s
  generalize hK : 2 * k + 1 = K at *
  have key := RSat.fin (Q := fun v h' => ∃ ds, v = .tup ds ∧ Dr n h h' ∧ ds.length ≤ 60 ∧ (∀ w ∈ ds, Wd w) ∧ ds.length ≤ K * m) (r := evSs 1000000000 (b__law_text S__law_draw S__law_words S__law_choice) [some (.loc n), some d, some (.int m), none, none, none] h) (by
    have b1 : -4611686018427387904 ≤ r ∧ r < 4611686018427387904 := by omega
    simp only [b__law_text]
    simp [e1, b1, big0 (show 0 ≤ 1000 by decide)]
    refine RSat.seq (N' := fun env h' => ∃ ds x y, env = [some (.loc n), some d, some (.int m), some (.tup ds), x, y] ∧ Dr n h h' ∧ (∀ w ∈ ds, Wd w) ∧ ds.length ≤ K * m) (forLoop_sat (I := fun rest env h' => ∃ ds x y, env = [some (.loc n), some d, some (.int m), some (.tup ds), x, y] ∧ Dr n h h' ∧ (∀ w ∈ ds, Wd w) ∧ ds.length + 201 * rest.length ≤ 201 * 1000 ∧ ds.length + K * rest.length ≤ K * m) (fun x rest env h2 hi => ?_) (fun env h2 hi => ?_) _ _ _ ⟨[], _, _, rfl, d1, by simp, by simp; omega, by simp; exact Nat.mul_le_mul_left _ (by omega)⟩) (fun env h2 hi => ?_)
    · obtain ⟨ds, x1, y1, rfl, d2, q, l, l2⟩ := hi
      refine ⟨srcOk_nil, _, rfl, ?_⟩
      have s2 := d2.src s
      obtain ⟨w, h3, e3, d3, w0, w1⟩ := draw_ok (m := 5) s2 (by omega) (by omega)
      have s3 := d3.src s2
      have z1 : ds.length + (noteWords d).length ≤ sizeLine := by have : sizeLine = 16777216 := rfl; omega
      have z2 : ds.length + 1 ≤ sizeLine := by have : sizeLine = 16777216 := rfl; omega
      have wo (h : LH) := words_ok (h := h) hn (Nat.le_trans hk (by decide))
      simp only [List.length_cons] at l
      rw [List.length_cons, Nat.mul_succ] at l2
      simp [e3]
      by_cases w2 : w = 0
      · simp [w2, wo, z1, LSat]
        exact ⟨d2.trans d3, fun x hx => hx.elim (q x) (nw2 x), by omega, by omega⟩
      · by_cases w3 : w = 1
        · obtain ⟨c, hc, h4, e4, d4⟩ := choice_ok (ds := [.str "q", .str "a", .str "cat"]) s3 (by simp) (big0 (by simp))
          simp [w3, e4, z2, LSat, big0 (show 1 ≤ 1000 by decide), big0 (show 3 ≤ 1000 by decide)]
          have w1 : ([D.str "q", .str "a", .str "cat"].all fun w => isWord w && fitB 8 0 w) = true := by decide +kernel
          exact ⟨d2.trans (d3.trans d4), fun x hx => hx.elim (q x) (fun hx => hx ▸ Wd.of (List.all_eq_true.mp w1 _ hc)), by omega, by omega⟩
        · obtain ⟨c, hc, h4, e4, d4⟩ := choice_ok (ds := noteWords d) s3 nw0 (big0 (by omega))
          simp [w2, w3, e4, z2, wo, LSat, big0 (show 1 ≤ 1000 by decide)]
          exact ⟨d2.trans (d3.trans d4), fun x hx => hx.elim (q x) (fun hx => hx ▸ nw2 _ hc), by omega, by omega⟩
    · obtain ⟨ds, x1, y1, rfl, d2, q, l, l2⟩ := hi
      exact ⟨srcOk_nil, _, _, _, rfl, d2, q, by omega⟩
    · obtain ⟨ds, x1, y1, rfl, d2, q, l2⟩ := hi
      have := cut_to (xs := ds) (k := 60)
      simp at this
      simp [this, RSat]
      exact ⟨d2, by omega, fun w hw => q w (List.mem_of_mem_take hw), by omega⟩)
  obtain ⟨v, h', e, ds, rfl, r⟩ := key
  exact ⟨ds, h', by simp only [S__law_text, runF_eq]; exact e, r⟩
theorem text_ok {h : LH} {n k m : Nat} {d : D} (s : SrcAt n h) (hn : Note k d) (hk : k ≤ 100) (hm : m ≤ 100) : ∃ ds h', S__law_text [.loc n, d, .int m] h = .ok (.tup ds) h' ∧ Dr n h h' ∧ ds.length ≤ 60 ∧ ∀ w ∈ ds, Wd w := by
  obtain ⟨ds, h', e, a, b, c, _⟩ := text2_ok s hn hk hm
  exact ⟨ds, h', e, a, b, c⟩
end Ev
end
noncomputable section
namespace Ev
open PySem L2
/-- a word, as a text -/
abbrev WS (x : Str) : Prop := Wd (.str x)
theorem Wd.str {d : D} (h : Wd d) : ∃ x, d = .str x := by
  cases d with
  | str x => exact ⟨x, rfl⟩
  | _ => simp [Wd, isWord] at h
theorem words_strs : ∀ {ds : List D}, (∀ d ∈ ds, Wd d) → ∃ xs : List Str, ds = xs.map D.str ∧ ∀ x ∈ xs, WS x
  | [], _ => ⟨[], rfl, by simp⟩
  | d :: ds, h => by
    obtain ⟨x, rfl⟩ := (h d List.mem_cons_self).str
    obtain ⟨xs, rfl, q⟩ := words_strs fun y hy => h y (List.mem_cons_of_mem _ hy)
    refine ⟨x :: xs, rfl, fun y hy => ?_⟩
    rcases List.mem_cons.mp hy with rfl | hy
    · exact h _ List.mem_cons_self
    · exact q y hy
theorem WS.ok {x : Str} (h : WS x) : PyData.strOk x = true := (fit_str.mp h.2).2
theorem WS.fits {x : Str} (h : WS x) : x.length ≤ 8 := (fit_str.mp h.2).1
/-- a note by its words, at most k around -/
structure NtOk (k : Nat) (as : List Str) (w : Str) (bs : List Str) : Prop where
  la : as.length ≤ k
  lb : bs.length ≤ k
  qa : ∀ x ∈ as, WS x
  qw : WS w
  qb : ∀ x ∈ bs, WS x
theorem Note.nt {k : Nat} {d : D} (h : Note k d) : ∃ as w bs, d = nt as w bs ∧ NtOk k as w bs := by
  obtain ⟨as, w, bs, rfl, l1, l2, qw, q1, q2⟩ := h
  obtain ⟨w, rfl⟩ := qw.str
  obtain ⟨as, rfl, q3⟩ := words_strs q1
  obtain ⟨bs, rfl, q4⟩ := words_strs q2
  exact ⟨as, w, bs, rfl, by simpa using l1, by simpa using l2, q3, qw, q4⟩
theorem NtOk.note {k : Nat} {as bs : List Str} {w : Str} (h : NtOk k as w bs) : Note k (nt as w bs) :=
  ⟨_, _, _, rfl, by simpa using h.la, by simpa using h.lb, h.qw, fun a ha => by obtain ⟨x, hx, rfl⟩ := List.mem_map.mp ha; exact h.qa x hx, fun a ha => by obtain ⟨x, hx, rfl⟩ := List.mem_map.mp ha; exact h.qb x hx⟩
theorem areWords_tx {xs : List Str} {m : Nat} (hl : xs.length ≤ m) (h : ∀ x ∈ xs, WS x) : areWords m (tx xs) = true := by
  simp only [areWords, tx, Bool.and_eq_true, decide_eq_true_eq, List.length_map, List.all_eq_true]
  refine ⟨by omega, fun d hd => ?_⟩
  obtain ⟨x, hx, rfl⟩ := List.mem_map.mp hd
  exact (h x hx).1
theorem NtOk.fits {k : Nat} {as bs : List Str} {w : Str} (h : NtOk k as w bs) (hk : k ≤ 100) : fit 100 2 (nt as w bs) := note_fit hk h.note
theorem tx_fits {xs : List Str} (hl : xs.length ≤ 100) (h : ∀ x ∈ xs, WS x) : fit 100 2 (tx xs) := tx_fit (n := 1) hl fun x hx => ⟨Nat.le_trans (h x hx).fits (by decide), (h x hx).ok⟩
end Ev
end
noncomputable section
namespace Ev
open PySem L2
theorem NtOk.isNote {as bs : List Str} {w : Str} (h : NtOk 2 as w bs) : isNote (nt as w bs) = true := by
  have e1 := areWords_tx (m := 2) h.la h.qa
  have e2 := areWords_tx (m := 2) h.lb h.qb
  have e3 := h.qw.1
  simp only [Ev.isNote, Bool.and_eq_true]
  exact ⟨⟨e3, e1⟩, e2⟩
theorem need_note_ok {b n : Nat} {d : D} {h : LH} (hb : b ≤ sizeLine) (f : fit b n d) (q : isNote d = true) : S_need_note [d] h = .ok .non h := by
  simp only [S_need_note, b_need_note, N_need_note, runF_eq]
  simp [is_note_ok hb f, q]
theorem nt_need {as bs : List Str} {w : Str} {h : LH} (q : NtOk 2 as w bs) : S_need_note [nt as w bs] h = .ok .non h := need_note_ok (le_line (by decide)) (q.fits (by decide)) q.isNote
end Ev
end
noncomputable section
namespace Ev
open PySem L2
theorem isFrom_nat {x : Nat} (h : x ≤ 2) : isFrom 0 2 (.int (x : Nat)) = true := by
  simp only [isFrom, Bool.and_eq_true, decide_eq_true_eq]
  omega
theorem Pol.isPolicy {d : D} (h : Pol 2 d) : isPolicy d = true := by
  obtain ⟨as, rfl, h1, h2, q⟩ := h
  simp only [Ev.isPolicy, Bool.and_eq_true, decide_eq_true_eq, List.all_eq_true]
  refine ⟨⟨by omega, by omega⟩, fun a ha => ?_⟩
  obtain ⟨x, y, p, rfl, hx, hy, hp⟩ := q a ha
  have e : isPick (.str p) = true := by rcases hp with rfl | rfl | rfl <;> decide +kernel
  simp only [isAttempt, e, isFrom_nat hx, isFrom_nat hy, Bool.and_self]
theorem need_policy_ok {b n : Nat} {d : D} {h : LH} (hb : b ≤ sizeLine) (f : fit b n d) (q : isPolicy d = true) : S_need_policy [d] h = .ok .non h := by
  simp only [S_need_policy, b_need_policy, N_need_policy, runF_eq]
  simp [is_policy_ok hb f, q]
theorem pol_need {d : D} {h : LH} (q : Pol 2 d) : S_need_policy [d] h = .ok .non h := need_policy_ok (le_line (by decide)) (pol_fit q) q.isPolicy
theorem need_both_ok {as bs : List Str} {w : Str} {d : D} {h : LH} (q : NtOk 2 as w bs) (q2 : Pol 2 d) : S_need_both [nt as w bs, d] h = .ok .non h := by
  have e1 := nt_need (h := h) q
  have e2 := pol_need (h := h) q2
  generalize nt as w bs = N at *
  simp only [S_need_both, b_need_both, N_need_both, runF_eq]
  simp [e1, e2]
end Ev
end
noncomputable section
namespace Ev
open PySem L2
theorem need_text_ok {b n : Nat} {d : D} {h : LH} (hb : b ≤ sizeLine) (f : fit b n d) (q : areWords 60 d = true) : S_need_text [d] h = .ok .non h := by
  simp only [S_need_text, b_need_text, N_need_text, runF_eq]
  simp [is_text_ok hb f, q]
theorem tx_need {xs : List Str} {h : LH} (hl : xs.length ≤ 60) (q : ∀ x ∈ xs, WS x) : S_need_text [tx xs] h = .ok .non h := need_text_ok (le_line (by decide)) (tx_fits (by omega) q) (areWords_tx (m := 60) hl q)
end Ev
end
noncomputable section
namespace Ev
open PySem L2
/-- the words ahead that an attempt seeks -/
def aheadOf (as : List Str) (x : Nat) : List Str := as.drop (as.length - x)
theorem aheadOf_len {as : List Str} {x : Nat} : (aheadOf as x).length = min x as.length := by
  simp only [aheadOf, List.length_drop]
  omega
theorem sought_ok {as bs : List Str} {w : Str} {x y : Nat} {p : D} {h : LH} (la : as.length ≤ 1000) (lb : bs.length ≤ 1000) : S_sought [nt as w bs, .tup [.int x, .int y, p]] h = .ok (.tup [tx (aheadOf as x ++ [w] ++ bs.take y), .int ((bs.take y).length : Nat)]) h := by
  have e : (if x < as.length then (as.length : Int) - x else 0) = ((as.length - x : Nat) : Int) := by split <;> omega
  have z1 : (aheadOf as x).length + 1 ≤ sizeLine := le_line1 (by simp [aheadOf]; omega)
  have z2 : (aheadOf as x).length + 1 + (bs.take y).length ≤ sizeLine := le_line1 (by simp [aheadOf]; omega)
  simp only [aheadOf, List.length_drop, List.length_take] at z1 z2
  simp only [S_sought, b_sought, N_sought, runF_eq]
  simp [aheadOf, e, tx_from, tx_to, z1, z2, le_line1 (show 1 ≤ 100000 by decide), le_line1 (show 2 ≤ 100000 by decide)]
end Ev
end
noncomputable section
namespace Ev
open PySem L2
/-- where words stand: the places of the word behind which `back` words stand -/
def placesIn (ws ts : List Str) (back : Nat) (l : List Nat) : List Nat := (l.filter fun s => decide ((ts.drop s).take ws.length = ws)).map fun s => s + (ws.length - 1 - back)
def placesOf (ws ts : List Str) (back : Nat) : List Nat := placesIn ws ts back (List.range (ts.length + 1 - ws.length))
def il (ns : List Nat) : List D := ns.map fun n => D.int (n : Nat)
theorem il_app {a b : List Nat} : il (a ++ b) = il a ++ il b := by simp [il]
theorem places_run {ws ts : List Str} {back : Nat} {h : LH} (hw : ∀ x ∈ ws, PyData.strOk x = true) (ht : ∀ x ∈ ts, PyData.strOk x = true) (hl : ts.length ≤ 100000) (hb : back + 1 ≤ ws.length) (hw2 : ws.length ≤ 1000) :
    runF 1000000000 N_places_of.length b_places_of [tx ws, tx ts, .int (back : Nat)] h = .ok (.loc h.length) (h ++ [.lst (il (placesOf ws ts back))]) := by
  have key := RSat.fin (Q := fun v h' => v = .loc h.length ∧ h' = h ++ [.lst (il (placesOf ws ts back))]) (r := evSs 1000000000 b_places_of [some (tx ws), some (tx ts), some (.int (back : Nat)), none, none, none] h) (by
    simp only [b_places_of]
    · have b2 : -4611686018427387904 ≤ (ts.length : Int) - ws.length + 1 ∧ (ts.length : Int) - ws.length + 1 < 4611686018427387904 := by omega
      have e : ((ts.length : Int) - ws.length + 1).toNat = ts.length + 1 - ws.length := by omega
      simp [b2, le_line1 (show 0 ≤ 100000 by decide), le_line1 (show 2 ≤ 100000 by decide), e]
      refine RSat.seq (N' := fun env h' => (∃ a, env = [some (tx ws), some (tx ts), some (.int (back : Nat)), some (.int (ws.length : Nat)), some (.loc h.length), a]) ∧ h' = h ++ [.lst (il (placesOf ws ts back))]) (forLoop_sat (I := fun rest env h' => ∃ done todo a, List.range (ts.length + 1 - ws.length) = done ++ todo ∧ rest = todo.map (fun i => D.int (i : Nat)) ∧ env = [some (tx ws), some (tx ts), some (.int (back : Nat)), some (.int (ws.length : Nat)), some (.loc h.length), a] ∧ h' = h ++ [.lst (il (placesIn ws ts back done))]) (fun x rest env h2 hi => ?_) (fun env h2 hi => ?_) _ _ _ ⟨[], _, _, rfl, rfl, rfl, rfl⟩) (fun env h2 hi => ?_)
      · obtain ⟨done, todo, a, er, e2, rfl, rfl⟩ := hi
        refine ⟨srcOk_nil, _, rfl, ?_⟩
        cases todo with
        | nil => simp at e2
        | cons s todo =>
          simp only [List.map_cons, List.cons.injEq] at e2
          obtain ⟨rfl, rfl⟩ := e2
          have hs : s < ts.length + 1 - ws.length := by
            have : s ∈ List.range (ts.length + 1 - ws.length) := by rw [er]; simp
            exact List.mem_range.mp this
          have q := tx_mid (m := false) (xs := ts) (s := s) (n := ws.length) (h := h ++ [.lst (il (placesIn ws ts back done))])
          rw [Int.natCast_add] at q
          have q2 := eq_tx (h := h ++ [.lst (il (placesIn ws ts back done))]) (xs := (ts.drop s).take ws.length) (ys := ws) (fun x hx => ht x (List.mem_of_mem_drop (List.mem_of_mem_take hx))) hw
          have er2 : List.range (ts.length + 1 - ws.length) = (done ++ [s]) ++ todo := by rw [er]; simp
          have hd : (il (placesIn ws ts back done)).length < sizeLine := by
            have h1 : done.length ≤ 100001 := by
              have := congrArg List.length er
              simp at this
              omega
            have h2 : (il (placesIn ws ts back done)).length ≤ done.length := by
              simp only [il, placesIn, List.length_map]
              exact List.length_filter_le _ _
            have e : sizeLine = 16777216 := rfl
            omega
          by_cases c : (ts.drop s).take ws.length = ws
          · have ei : il (placesIn ws ts back (done ++ [s])) = il (placesIn ws ts back done) ++ [.int ((s : Int) + ws.length - 1 - back)] := by
              simp only [placesIn, List.filter_append, List.map_append, il_app]
              congr 1
              simp [c, il]
              omega
            rw [c] at q q2
            simp [q, q2, LSat, asL_loc (h := h ++ [.lst (il (placesIn ws ts back done))]) (n := h.length) (ds := il (placesIn ws ts back done)) (by simp), hd]
            exact ⟨done ++ [s], todo, by simpa using er2, rfl, by rw [ei]⟩
          · have ei : placesIn ws ts back (done ++ [s]) = placesIn ws ts back done := by
              simp [placesIn, List.filter_append, c]
            simp [q, q2, c, LSat]
            exact ⟨done ++ [s], todo, by simpa using er2, rfl, by rw [ei]⟩
      · obtain ⟨done, todo, a, er, e2, rfl, rfl⟩ := hi
        cases todo with
        | nil =>
          refine ⟨srcOk_nil, ⟨_, rfl⟩, ?_⟩
          rw [List.append_nil] at er
          rw [placesOf, er]
        | cons s todo => simp at e2
      · obtain ⟨⟨a, rfl⟩, rfl⟩ := hi
        simp [RSat]
    )
  obtain ⟨v, h', e, rfl, rfl⟩ := key
  simp only [runF_eq]
  exact e
end Ev
end
noncomputable section
namespace Ev
open PySem L2
/-- where an attempt's words stand -/
def attPlaces (as : List Str) (w : Str) (bs : List Str) (x y : Nat) (ts : List Str) : List Nat := placesOf (aheadOf as x ++ [w] ++ bs.take y) ts (bs.take y).length
/-- the law's own look at one place -/
def lawAt (a : List Str) (w : Str) (b ts : List Str) (p : Nat) : Bool := decide (ts[p]? = some w) && decide (a.length ≤ p) && decide ((ts.drop (p - a.length)).take a.length = a) && decide ((ts.drop (p + 1)).take b.length = b)
theorem take_split {a b : List Str} {w : Str} {ts : List Str} {s : Nat} : (ts.drop s).take (a ++ [w] ++ b).length = a ++ [w] ++ b ↔ ((ts.drop s).take a.length = a ∧ ts[s + a.length]? = some w ∧ (ts.drop (s + a.length + 1)).take b.length = b) := by
  have e : (ts.drop s).take (a ++ [w] ++ b).length = (ts.drop s).take a.length ++ (((ts.drop s).drop a.length).take 1 ++ ((ts.drop s).drop (a.length + 1)).take b.length) := by
    simp only [List.length_append, List.length_cons, List.length_nil]
    rw [Nat.add_assoc, List.take_add, List.take_add, List.drop_drop]
    simp [Nat.add_assoc]
  have e1 : ((ts.drop s).drop a.length).take 1 = match ts[s + a.length]? with | some x => [x] | none => [] := by
    rw [List.drop_drop]
    cases q : ts[s + a.length]? with
    | none =>
      have := List.getElem?_eq_none_iff.mp q
      rw [List.drop_of_length_le this]
      rfl
    | some x =>
      obtain ⟨h, e⟩ := List.getElem?_eq_some_iff.mp q
      rw [List.drop_eq_getElem_cons h, e]
      rfl
  rw [e, e1, List.drop_drop, List.append_assoc]
  constructor
  · intro h
    cases q : ts[s + a.length]? with
    | none =>
      rw [q] at h
      have hn := List.getElem?_eq_none_iff.mp q
      exfalso
      have l := congrArg List.length h
      simp only [List.length_append, List.length_take, List.length_drop, List.length_cons, List.length_nil] at l
      omega
    | some x =>
      rw [q] at h
      have hs := (List.getElem?_eq_some_iff.mp q).1
      have l1 : ((ts.drop s).take a.length).length = a.length := by simp; omega
      obtain ⟨h1, h2⟩ := List.append_inj h l1
      simp only [List.cons_append, List.nil_append, List.cons.injEq] at h2
      exact ⟨h1, by rw [h2.1], by rw [← h2.2]; simp [Nat.add_assoc]⟩
  · rintro ⟨h1, h2, h3⟩
    rw [h2, h1]
    simp only
    rw [← Nat.add_assoc, h3]
theorem law_places {a b : List Str} {w : Str} {ts : List Str} : (List.range ts.length).filter (lawAt a w b ts) = placesOf (a ++ [w] ++ b) ts b.length := by
  unfold placesOf placesIn
  have hlen : (a ++ [w] ++ b).length = a.length + 1 + b.length := by simp; omega
  have sh : (a ++ [w] ++ b).length - 1 - b.length = a.length := by rw [hlen]; omega
  rw [sh]
  have key : ∀ s, lawAt a w b ts (s + a.length) = decide ((ts.drop s).take (a ++ [w] ++ b).length = a ++ [w] ++ b) := by
    intro s
    rw [Bool.eq_iff_iff, decide_eq_true_iff, take_split]
    simp only [lawAt, Bool.and_eq_true, decide_eq_true_eq, Nat.add_sub_cancel]
    constructor
    · rintro ⟨⟨⟨h1, _⟩, h3⟩, h4⟩
      exact ⟨h3, h1, h4⟩
    · rintro ⟨h1, h2, h3⟩
      exact ⟨⟨⟨h2, by omega⟩, h1⟩, h3⟩
  by_cases hl : a.length ≤ ts.length
  · have e : List.range ts.length = List.range a.length ++ (List.range (ts.length - a.length)).map (· + a.length) := by
      apply List.ext_getElem
      · simp; omega
      · intro i h1 h2
        simp only [List.length_range] at h1
        by_cases hi : i < a.length
        · rw [List.getElem_append_left (by simpa using hi)]; simp
        · rw [List.getElem_append_right (by simpa using Nat.le_of_not_lt hi)]; simp; omega
    rw [e, List.filter_append, List.filter_map]
    have z : (List.range a.length).filter (lawAt a w b ts) = [] := by
      rw [List.filter_eq_nil_iff]
      intro p hp
      have := List.mem_range.mp hp
      simp [lawAt]
      omega
    rw [z, List.nil_append]
    have e2 : (fun s => lawAt a w b ts (s + a.length)) = fun s => decide ((ts.drop s).take (a ++ [w] ++ b).length = a ++ [w] ++ b) := funext key
    rw [show (lawAt a w b ts ∘ fun x => x + a.length) = _ from e2]
    congr 1
    have e3 : List.range (ts.length - a.length) = List.range (ts.length + 1 - (a ++ [w] ++ b).length) ++ (List.range (min b.length (ts.length - a.length))).map (· + (ts.length + 1 - (a ++ [w] ++ b).length)) := by
      apply List.ext_getElem
      · simp; omega
      · intro i h1 h2
        simp only [List.length_range] at h1
        by_cases hi : i < ts.length + 1 - (a ++ [w] ++ b).length
        · rw [List.getElem_append_left (by simpa using hi)]; simp
        · rw [List.getElem_append_right (by simpa using Nat.le_of_not_lt hi)]; simp; rw [hlen] at hi; omega
    rw [e3, List.filter_append]
    have z2 : ((List.range (min b.length (ts.length - a.length))).map (· + (ts.length + 1 - (a ++ [w] ++ b).length))).filter (fun s => decide ((ts.drop s).take (a ++ [w] ++ b).length = a ++ [w] ++ b)) = [] := by
      rw [List.filter_eq_nil_iff]
      intro s hs
      obtain ⟨i, hi, rfl⟩ := List.mem_map.mp hs
      simp only [decide_eq_true_eq]
      intro h
      have l := congrArg List.length h
      simp only [List.length_take, List.length_drop] at l
      rw [hlen] at l
      omega
    rw [z2, List.append_nil]
  · have z : (List.range ts.length).filter (lawAt a w b ts) = [] := by
      rw [List.filter_eq_nil_iff]
      intro p hp
      have := List.mem_range.mp hp
      simp [lawAt]
      omega
    rw [z, show ts.length + 1 - (a ++ [w] ++ b).length = 0 by rw [hlen]; omega]
    rfl
theorem pursD_il {ns : List Nat} : pursD (il ns) = true := pures_of fun d hd => by
  obtain ⟨n, _, rfl⟩ := List.mem_map.mp hd
  rfl
end Ev
end
noncomputable section
namespace Ev
open PySem L2
theorem places_ok {ws ts : List Str} {back : Nat} {h : LH} (hw : ∀ x ∈ ws, PyData.strOk x = true) (ht : ∀ x ∈ ts, PyData.strOk x = true) (hl : ts.length ≤ 100000) (hb : back + 1 ≤ ws.length) (hw2 : ws.length ≤ 1000) :
    S_places_of [tx ws, tx ts, .int (back : Nat)] h = .ok (.lst (il (placesOf ws ts back))) h := by
  unfold S_places_of
  rw [places_run hw ht hl hb hw2]
  exact frzR_new (f := 3) (h := h) (t := [_]) pursD_il (Nat.le_refl _) (by simp)
theorem matches_words {as bs : List Str} {w : Str} {x y : Nat} (ha : ∀ x ∈ as, PyData.strOk x = true) (hb : ∀ x ∈ bs, PyData.strOk x = true) (hw : PyData.strOk w = true) : ∀ z ∈ aheadOf as x ++ [w] ++ bs.take y, PyData.strOk z = true := by
  intro z hz
  simp only [List.mem_append, List.mem_singleton] at hz
  rcases hz with (hz | rfl) | hz
  · exact ha z (List.mem_of_mem_drop hz)
  · exact hw
  · exact hb z (List.mem_of_mem_take hz)
theorem attempt_matches_ok {as bs ts : List Str} {w : Str} {x y : Nat} {p : D} {h : LH} (ha : ∀ x ∈ as, PyData.strOk x = true) (hb : ∀ x ∈ bs, PyData.strOk x = true) (hw : PyData.strOk w = true) (ht : ∀ x ∈ ts, PyData.strOk x = true) (la : as.length ≤ 400) (lb : bs.length ≤ 400) (hl : ts.length ≤ 100000) :
    S_attempt_matches [nt as w bs, .tup [.int x, .int y, p], tx ts] h = .ok (.lst (il (attPlaces as w bs x y ts))) h := by
  have e1 := sought_ok (w := w) (x := x) (y := y) (p := p) (h := h) (show as.length ≤ 1000 by omega) (show bs.length ≤ 1000 by omega)
  have e2 := places_ok (h := h) (matches_words (x := x) (y := y) ha hb hw) ht hl (back := (bs.take y).length) (by simp) (by simp [aheadOf]; omega)
  simp only [S_attempt_matches, b_attempt_matches, N_attempt_matches, runF_eq]
  generalize (D.tup [.int x, .int y, p]) = att at *
  simp at e2
  simp [e1, e2, attPlaces]
end Ev
end
noncomputable section
namespace Ev
open PySem L2
theorem SrcAt.app {n : Nat} {h t : LH} (s : SrcAt n h) : SrcAt n (h ++ t) := by
  obtain ⟨o, e, so⟩ := s
  exact ⟨o, by rw [List.getElem?_append_left (List.getElem?_eq_some_iff.mp e).1]; exact e, so⟩
theorem at_last {h : LH} {o : O} : (h ++ [o])[h.length]? = some o := by simp
theorem set_last {h : LH} {o o' : O} : (h ++ [o]).set h.length o' = h ++ [o'] := by
  rw [List.set_append_right _ _ (Nat.le_refl _)]
  simp
theorem isi_loc {h : LH} {l : Nat} {ds : List D} (e : h[l]? = some (.lst ds)) : isiD h "list" (.loc l) = some true := by
  simp [isiD, tyN, asL, e, isiTys]
theorem il_fit {ns : List Nat} {b n : Nat} (hl : ns.length ≤ b) : fit b (n + 1) (.lst (il ns)) := ⟨by simpa [il] using hl, fun d hd => by
  obtain ⟨x, _, rfl⟩ := List.mem_map.mp hd
  simp⟩
theorem placesIn_len {ws ts : List Str} {back : Nat} {l : List Nat} : (placesIn ws ts back l).length ≤ l.length := by
  simp only [placesIn, List.length_map]
  exact List.length_filter_le _ _
theorem placesOf_len {ws ts : List Str} {back : Nat} : (placesOf ws ts back).length ≤ ts.length + 1 := by
  refine Nat.le_trans placesIn_len ?_
  simp
theorem attPlaces_len {as bs ts : List Str} {w : Str} {x y : Nat} : (attPlaces as w bs x y ts).length ≤ ts.length + 1 := placesOf_len
def pickOf (ps : List Nat) (p : Str) : Option Nat := if ps = [] ∨ (p = "only" ∧ 1 < ps.length) then none else if p = "last" then ps.getLast? else ps.head?
def optD : Option Nat → D
  | none => .non
  | some n => .int (n : Nat)
@[simp] theorem optD_n : optD none = .non := rfl
@[simp] theorem optD_s {n : Nat} : optD (some n) = .int (n : Nat) := rfl
theorem optD_fit {o : Option Nat} {b n : Nat} : fit b n (optD o) := by cases o <;> simp
theorem optD_eq {o : Option Nat} {h : LH} : eqD h (optD o) (optD o) = some true := eq_self (b := 0) (n := 0) (by decide) optD_fit
theorem il_last {n : Nat} {ps : List Nat} : atI (il (ps ++ [n])) (-1) = some (.int (n : Nat)) := by
  rw [il_app]
  exact atI_last _ _
theorem str_lits : PyData.strOk "only" = true ∧ PyData.strOk "last" = true ∧ PyData.strOk "first" = true := by decide +kernel
theorem picked_ok {ps : List Nat} {p : Str} {h : LH} (hp : PyData.strOk p = true) (hl : ps.length ≤ 1000) : S_picked [.lst (il ps), .str p] h = .ok (optD (pickOf ps p)) h := by
  have e1 := eq_nilL (h := h) (b := 1000) (n := 1) (ds := il ps) (by decide) (il_fit hl)
  have e2 := eq_str (h := h) hp str_lits.1
  have e3 := eq_str (h := h) hp str_lits.2.1
  simp only [S_picked, b_picked, N_picked, runF_eq]
  rcases List.eq_nil_or_concat ps with rfl | ⟨init, z, rfl⟩
  · have e1 : eqD h (.lst (il [])) (.lst []) = some true := e1
    simp [e1, pickOf, le_line1 (show 0 ≤ 100000 by decide)]
  · rw [List.concat_eq_append] at *
    have e4 := il_last (n := z) (ps := init)
    have e1 : eqD h (.lst (il (init ++ [z]))) (.lst []) = some false := by
      rw [e1]
      simp [il]
    have hn : init ++ [z] ≠ [] := by simp
    have l : (il (init ++ [z])).length = init.length + 1 := by simp [il]
    have e5 : atI (il (init ++ [z])) 0 = some (optD ((init ++ [z]).head?)) := by
      cases init <;> simp [il]
    generalize il (init ++ [z]) = L at *
    by_cases c1 : p = "only"
    · subst c1
      have c2 : ¬ (("only" : Str) = "last") := by decide
      by_cases c3 : 0 < init.length
      · have c4 : (1 : Int) < (init.length : Int) + 1 := by omega
        simp [e1, e2, l, c3, c4, pickOf, le_line1 (show 0 ≤ 100000 by decide)]
      · have c4 : ¬ (1 : Int) < (init.length : Int) + 1 := by omega
        simp [e1, e2, e3, e5, l, c2, c3, c4, pickOf, le_line1 (show 0 ≤ 100000 by decide)]
    · by_cases c2 : p = "last"
      · subst c2
        simp [e1, e2, e3, e4, c1, pickOf, le_line1 (show 0 ≤ 100000 by decide)]
      · simp [e1, e2, e3, e5, c1, c2, pickOf, le_line1 (show 0 ≤ 100000 by decide)]
/-- what one attempt finds -/
def pickD (as : List Str) (w : Str) (bs ts : List Str) : D → Option Nat
  | .tup [.int x, .int y, .str p] => pickOf (attPlaces as w bs x.toNat y.toNat ts) p
  | _ => none
theorem pickD_at {as bs ts : List Str} {w : Str} {x y : Nat} {p : Str} : pickD as w bs ts (.tup [.int (x : Nat), .int (y : Nat), .str p]) = pickOf (attPlaces as w bs x y ts) p := by
  simp [pickD]
theorem Att.pick {a : D} {k : Nat} (q : Att k a) : ∃ (x y : Nat) (p : Str), a = .tup [.int x, .int y, .str p] ∧ PyData.strOk p = true := by
  obtain ⟨x, y, p, rfl, _, _, hp⟩ := q
  exact ⟨x, y, p, rfl, by
    rcases hp with rfl | rfl | rfl
    · exact str_lits.1
    · exact str_lits.2.2
    · exact str_lits.2.1⟩
theorem found_in_ok {k : Nat} {as bs ts : List Str} {w : Str} {ps : List D} {h : LH} (q : NtOk 2 as w bs) (q2 : ∀ a ∈ ps, Att k a) (ht : ∀ x ∈ ts, WS x) (hl : ts.length ≤ 60) : S_found_in [nt as w bs, .tup ps, tx ts] h = .ok (optD (ps.findSome? (pickD as w bs ts))) h := by
  have key := RSat.fin (Q := fun v h' => v = optD (ps.findSome? (pickD as w bs ts)) ∧ h' = h) (r := evSs 1000000000 (b_found_in S_picked S_attempt_matches) [some (nt as w bs), some (.tup ps), some (tx ts), none, none] h) (by
    simp only [b_found_in]
    simp
    refine RSat.seq (N' := fun env h' => ps.findSome? (pickD as w bs ts) = none ∧ h' = h) (forLoop_sat (I := fun rest env h' => ∃ a c, env = [some (nt as w bs), some (.tup ps), some (tx ts), a, c] ∧ h' = h ∧ ps.findSome? (pickD as w bs ts) = rest.findSome? (pickD as w bs ts) ∧ ∀ x ∈ rest, x ∈ ps) (fun a rest env h2 hi => ?_) (fun env h2 hi => ?_) _ _ _ ⟨_, _, rfl, rfl, rfl, fun x hx => hx⟩) (fun env h3 hi => ?_)
    · obtain ⟨_, _, rfl, rfl, hq, hm⟩ := hi
      refine ⟨srcOk_nil, _, rfl, ?_⟩
      obtain ⟨x, y, p, rfl, hp⟩ := (q2 a (hm a List.mem_cons_self)).pick
      have hm2 : ∀ x ∈ rest, x ∈ ps := fun y hy => hm y (List.mem_cons_of_mem _ hy)
      have e1 := attempt_matches_ok (x := x) (y := y) (p := .str p) (h := h2) (fun x hx => (q.qa x hx).ok) (fun x hx => (q.qb x hx).ok) q.qw.ok (fun x hx => (ht x hx).ok) (by have := q.la; omega) (by have := q.lb; omega) (show ts.length ≤ 100000 by omega)
      have e2 := picked_ok (h := h2) (ps := attPlaces as w bs x y ts) hp (Nat.le_trans attPlaces_len (by omega))
      rw [List.findSome?_cons, pickD_at] at hq
      generalize nt as w bs = N at *
      generalize pickOf (attPlaces as w bs x y ts) p = o at *
      cases o with
      | none =>
        simp [e1, e2, LSat]
        exact ⟨hq, hm2⟩
      | some m =>
        simp [e1, e2, LSat]
        simp at hq
        rw [hq]
        rfl
    · obtain ⟨_, _, rfl, rfl, hq, hm⟩ := hi
      exact ⟨srcOk_nil, hq, rfl⟩
    · obtain ⟨hq, rfl⟩ := hi
      simp [RSat, hq])
  obtain ⟨v, h', e, rfl, rfl⟩ := key
  simp only [S_found_in, runF_eq]
  exact e
end Ev
end
noncomputable section
namespace Ev
open PySem L2
theorem find_ok {as bs ts : List Str} {w : Str} {ps : List D} {h : LH} (q : NtOk 2 as w bs) (q2 : Pol 2 (.tup ps)) (ht : ∀ x ∈ ts, WS x) (hl : ts.length ≤ 60) : S_find [nt as w bs, .tup ps, tx ts] h = .ok (optD (ps.findSome? (pickD as w bs ts))) h := by
  have e1 := need_both_ok (h := h) q q2
  have e2 := tx_need (h := h) hl ht
  have hps : ∀ a ∈ ps, Att 2 a := by obtain ⟨_, e, _, _, h⟩ := q2; cases e; exact h
  have e3 := found_in_ok (h := h) q hps ht hl
  generalize nt as w bs = N at *
  simp only [S_find, b_find, N_find, runF_eq]
  simp [e1, e2, e3]
end Ev
end
noncomputable section
namespace Ev
open PySem L2
/-- does a script fit a text from a place on -/
def hsGo (ts : List Str) : List D → Nat → Nat → Bool
  | [], at_, many => decide (at_ = ts.length) && decide (many ≤ 60)
  | .tup [.str a] :: r, at_, many => if a = "keep" ∨ a = "out" then (if at_ = ts.length then false else hsGo ts r (at_ + 1) (many + if a = "out" then 0 else 1)) else false
  | .tup [.str a, w] :: r, at_, many => if isWord w = false then false else if a = "put" then hsGo ts r at_ (many + 1) else if a = "swap" then (if at_ = ts.length then false else if (match w with | .str x => decide (ts[at_]? = some x) | _ => false) = true then false else hsGo ts r (at_ + 1) (many + 1)) else false
  | _ :: _, _, _ => false
def hasScript (ts : List Str) : D → Bool
  | .tup ds => decide (ds.length ≤ 120) && hsGo ts ds 0 0
  | _ => false
theorem eqv_str {a b : Str} : PyData.eqv (.str a) (.str b) = decide (a = b) := by
  rw [PyData.eqv]
  rfl
theorem in_strs {h : LH} {x : Str} {ys : List Str} (hx : PyData.strOk x = true) (hy : ∀ y ∈ ys, PyData.strOk y = true) : inD h (.str x) (tx ys) = some (decide (x ∈ ys)) := by
  have s1 := shaped_str hx
  have s2 : SeqAt.shaped (.list (ys.map PyData.str)) = true := by
    have := shaped_tx hy
    unfold SeqAt.shaped at this ⊢
    simp only [PyData.canLay0, PyData.depth] at this ⊢
    exact this
  have e : ((ys.map PyData.str).any fun z => PyData.eqv z (.str x)) = decide (x ∈ ys) := by
    rw [Bool.eq_iff_iff, List.any_eq_true, decide_eq_true_iff]
    constructor
    · rintro ⟨z, hz, e⟩
      obtain ⟨y, hy, rfl⟩ := List.mem_map.mp hz
      rw [eqv_str, decide_eq_true_iff] at e
      exact e ▸ hy
    · intro hx
      exact ⟨_, List.mem_map.mpr ⟨x, hx, rfl⟩, by rw [eqv_str]; simp⟩
  unfold tx inD
  simp only [asD_tup, inS, asS_tup, pdT, pd, pds_strs, s1, s2, and_self, if_true, e]
theorem script_lits : ∀ y ∈ (["keep", "out", "put", "swap"] : List Str), PyData.strOk y = true := by decide +kernel
theorem has_script_ok {b n : Nat} {ts : List Str} {d : D} {h : LH} (hb : b ≤ sizeLine) (ht : ∀ x ∈ ts, WS x) (f : fit b n d) : S_has_script [tx ts, d] h = .ok (.bl (hasScript ts d)) h := by
  cases d with
  | tup ds =>
    have hf := fit_tup1 f
    have key := RSat.fin (Q := fun v h' => v = .bl (hasScript ts (.tup ds)) ∧ h' = h) (r := evSs 1000000000 (b_has_script S_is_word) [some (tx ts), some (.tup ds), none, none, none] h) (by
      simp only [b_has_script]
      by_cases hl : ds.length ≤ 120
      · have hl2 : ¬ (120 : Int) < ds.length := by omega
        simp [c_MOST_STEPS, c_MOST_WORDS, hl2, le_line1 (show 2 ≤ 100000 by decide)]
        refine RSat.seq (N' := fun env h' => ∃ (at_ many : Nat) (a : Option D), env = [some (tx ts), some (.tup ds), some (.int at_), some (.int many), a] ∧ h' = h ∧ hsGo ts ds 0 0 = (decide (at_ = ts.length) && decide (many ≤ 60))) (forLoop_sat (I := fun rest env h' => ∃ (at_ many : Nat) (a : Option D), env = [some (tx ts), some (.tup ds), some (.int at_), some (.int many), a] ∧ h' = h ∧ at_ ≤ ts.length ∧ hsGo ts ds 0 0 = hsGo ts rest at_ many ∧ ∀ x ∈ rest, x ∈ ds) (fun x rest env h2 hi => ?_) (fun env h2 hi => ?_) _ _ _ ⟨0, 0, _, rfl, rfl, Nat.zero_le _, rfl, fun x hx => hx⟩) (fun env h2 hi => ?_)
        · obtain ⟨at_, many, a, rfl, rfl, hat, hq, hm⟩ := hi
          refine ⟨srcOk_nil, _, rfl, ?_⟩
          have fx := hf.2 x (hm x List.mem_cons_self)
          have hm2 : ∀ x ∈ rest, x ∈ ds := fun y hy => hm y (List.mem_cons_of_mem _ hy)
          have out : hsGo ts (x :: rest) at_ many = false → hasScript ts (.tup ds) = false := fun z => by simp [hasScript, hq, z]
          cases x with
          | tup es =>
            have fe := (fit_tup1 fx).2
            match es, fe with
            | [], _ => simp [LSat] at out ⊢; exact out (by simp [hsGo])
            | [e0], fe =>
              have fe0 := fe e0 List.mem_cons_self
              cases e0 with
              | str a0 =>
                have sa := (fit_str.mp fe0).2
                have i1 := in_strs (h := h2) sa (ys := ["keep", "out"]) (fun y hy => script_lits y (by simp at hy ⊢; rcases hy with h | h <;> simp [h]))
                have i1 : inD h2 (.str a0) (.tup [.str "keep", .str "out"]) = some (decide (a0 ∈ (["keep", "out"] : List Str))) := i1
                have q1 := eq_str (h := h2) sa (script_lits "put" (by simp))
                have q2 := eq_str (h := h2) sa (script_lits "swap" (by simp))
                have q3 := eq_str (h := h2) sa (script_lits "out" (by simp))
                by_cases c : a0 = "keep" ∨ a0 = "out"
                · have n1 : ¬ a0 = "put" := by rcases c with rfl | rfl <;> decide
                  have n2 : ¬ a0 = "swap" := by rcases c with rfl | rfl <;> decide
                  by_cases ca : at_ = ts.length
                  · simp [LSat, i1, c, q1, n1, ca, le_line1 (show 2 ≤ 100000 by decide)] at out ⊢
                    exact out (by simp [hsGo, c, ca])
                  · have ca2 : ¬ (at_ : Int) = ts.length := by omega
                    have hq' : hsGo ts ds 0 0 = hsGo ts rest (at_ + 1) (many + if a0 = "out" then 0 else 1) := by rw [hq, hsGo]; simp [c, ca]
                    by_cases c3 : a0 = "out"
                    · rw [decide_eq_true c3] at q3
                      rw [if_pos c3] at hq'
                      simp [LSat, i1, c, q1, q2, q3, n1, n2, ca2, le_line1 (show 2 ≤ 100000 by decide)]
                      exact ⟨at_ + 1, many, ⟨rfl, rfl⟩, by omega, hq', hm2⟩
                    · rw [decide_eq_false c3] at q3
                      rw [if_neg c3] at hq'
                      simp [LSat, i1, c, q1, q2, q3, n1, n2, ca2, le_line1 (show 2 ≤ 100000 by decide)]
                      exact ⟨at_ + 1, many + 1, ⟨rfl, rfl⟩, by omega, hq', hm2⟩
                · simp [LSat, i1, c, le_line1 (show 2 ≤ 100000 by decide)] at out ⊢
                  exact out (by simp [hsGo, c])
              | loc => simp at fe0
              | scr => simp at fe0
              | dct => simp at fe0
              | ins => simp at fe0
              | clo => simp at fe0
              | _ => simp [LSat] at out ⊢; exact out (by simp [hsGo])
            | [e0, e1], fe =>
              have fe0 := fe e0 List.mem_cons_self
              have fe1 := fe e1 (by simp)
              have iw := is_word_ok (h := h2) hb fe1
              cases e0 with
              | str a0 =>
                have sa := (fit_str.mp fe0).2
                have i1 := in_strs (h := h2) sa (ys := ["put", "swap"]) (fun y hy => script_lits y (by simp at hy ⊢; rcases hy with h | h <;> simp [h]))
                have i1 : inD h2 (.str a0) (.tup [.str "put", .str "swap"]) = some (decide (a0 ∈ (["put", "swap"] : List Str))) := i1
                have q1 := eq_str (h := h2) sa (script_lits "put" (by simp))
                have q2 := eq_str (h := h2) sa (script_lits "swap" (by simp))
                have q3 := eq_str (h := h2) sa (script_lits "out" (by simp))
                by_cases c : a0 = "put" ∨ a0 = "swap"
                · have n3 : ¬ a0 = "out" := by rcases c with rfl | rfl <;> decide
                  have i1 : inD h2 (.str a0) (.tup [.str "put", .str "swap"]) = some true := by rw [i1]; simp [c]
                  cases w : isWord e1
                  · simp [LSat, i1, iw, w, le_line1 (show 2 ≤ 100000 by decide)] at out ⊢
                    exact out (by simp [hsGo, w])
                  · obtain ⟨x, rfl⟩ : ∃ x, e1 = .str x := by
                      cases e1 with
                      | str x => exact ⟨x, rfl⟩
                      | _ => simp [isWord] at w
                    have sx := (fit_str.mp fe1).2
                    have w2 : ¬ isWord (.str x) = false := by simp [w]
                    by_cases c1 : a0 = "put"
                    · have n2 : ¬ a0 = "swap" := by rw [c1]; decide
                      have hq' : hsGo ts ds 0 0 = hsGo ts rest at_ (many + 1) := by rw [hq, hsGo]; simp [w, c1]
                      rw [decide_eq_true c1] at q1
                      simp [LSat, i1, iw, w, q1, q2, q3, n2, n3, le_line1 (show 2 ≤ 100000 by decide)]
                      exact ⟨at_, many + 1, ⟨rfl, rfl⟩, hat, hq', hm2⟩
                    · have c2 : a0 = "swap" := c.resolve_left c1
                      rw [decide_eq_true c2] at q2
                      by_cases ca : at_ = ts.length
                      · simp [LSat, i1, iw, w, q1, c1, ca, le_line1 (show 2 ≤ 100000 by decide)] at out ⊢
                        exact out (by rw [hsGo, if_neg w2, if_neg c1, if_pos c2]; simp)
                      · have ca2 : ¬ (at_ : Int) = ts.length := by omega
                        have hlt : at_ < ts.length := by omega
                        have ei := tx_idx (h := h2) hlt
                        have q4 := eq_str (h := h2) sx (ht _ (List.getElem_mem hlt)).ok
                        by_cases cx : x = ts[at_]
                        · rw [decide_eq_true cx] at q4
                          simp [LSat, i1, iw, w, q1, q2, c1, ca2, ei, q4, le_line1 (show 2 ≤ 100000 by decide)] at out ⊢
                          exact out (by rw [hsGo, if_neg w2, if_neg c1, if_pos c2]; simp [ca, cx, List.getElem?_eq_getElem hlt])
                        · have cy : ¬ ts[at_] = x := fun z => cx z.symm
                          have hq' : hsGo ts ds 0 0 = hsGo ts rest (at_ + 1) (many + 1) := by rw [hq, hsGo, if_neg w2, if_neg c1, if_pos c2]; simp [ca, cy, List.getElem?_eq_getElem hlt]
                          rw [decide_eq_false cx] at q4
                          simp [LSat, i1, iw, w, q1, q2, q3, c1, n3, ca2, ei, q4, le_line1 (show 2 ≤ 100000 by decide)]
                          exact ⟨at_ + 1, many + 1, ⟨rfl, rfl⟩, by omega, hq', hm2⟩
                · simp [LSat, i1, c, le_line1 (show 2 ≤ 100000 by decide)] at out ⊢
                  exact out (by
                    have c1 : ¬ a0 = "put" := fun z => c (.inl z)
                    have c2 : ¬ a0 = "swap" := fun z => c (.inr z)
                    cases w : isWord e1 <;> simp [hsGo, w, c1, c2])
              | loc => simp at fe0
              | scr => simp at fe0
              | dct => simp at fe0
              | ins => simp at fe0
              | clo => simp at fe0
              | _ => simp [LSat] at out ⊢; exact out (by simp [hsGo])
            | e0 :: e1 :: e2 :: r, _ =>
              have l3 : ¬ (r.length : Int) + 1 + 1 + 1 ≤ 2 := by omega
              simp [LSat, l3] at out ⊢
              exact out (by simp [hsGo])
          | loc => simp at fx
          | scr => simp at fx
          | dct => simp at fx
          | ins => simp at fx
          | clo => simp at fx
          | _ => simp [LSat] at out ⊢; exact out (by simp [hsGo])
        · obtain ⟨at_, many, a, rfl, rfl, hat, hq, hm⟩ := hi
          exact ⟨srcOk_nil, at_, many, a, rfl, rfl, by rw [hq, hsGo]⟩
        · obtain ⟨at_, many, a, rfl, rfl, hq⟩ := hi
          have hq' : hasScript ts (.tup ds) = (decide (at_ = ts.length) && decide (many ≤ 60)) := by simp [hasScript, hl, hq]
          by_cases ca : at_ = ts.length
          · have m2 : decide ((many : Int) ≤ 60) = decide (many ≤ 60) := by
              rw [decide_eq_decide]
              omega
            simp [RSat, ca, hq', m2]
          · have ca2 : ¬ (at_ : Int) = ts.length := by omega
            simp [RSat, ca, ca2, hq']
      · have hl2 : (120 : Int) < ds.length := by omega
        simp [c_MOST_STEPS, hl2, hl, RSat, hasScript])
    obtain ⟨v, h', e, rfl, rfl⟩ := key
    simp only [S_has_script, runF_eq]
    exact e
  | loc => simp at f
  | scr => simp at f
  | dct => simp at f
  | ins => simp at f
  | clo => simp at f
  | _ => simp [S_has_script, b_has_script, N_has_script, hasScript, runF_eq]
end Ev
end
noncomputable section
namespace Ev
open PySem L2
/-- a script's step -/
inductive Stp where
  | keep | out | put (x : Str) | swap (x : Str)
def Stp.d : Stp → D
  | .keep => .tup [.str "keep"]
  | .out => .tup [.str "out"]
  | .put x => .tup [.str "put", .str x]
  | .swap x => .tup [.str "swap", .str x]
/-- from (at_, many) behind some steps -/
def stGo (ts : List Str) : List Stp → Nat → Nat → Option (Nat × Nat)
  | [], k, m => some (k, m)
  | .keep :: r, k, m => if k < ts.length then stGo ts r (k + 1) (m + 1) else none
  | .out :: r, k, m => if k < ts.length then stGo ts r (k + 1) m else none
  | .put x :: r, k, m => if isWord (.str x) = true then stGo ts r k (m + 1) else none
  | .swap x :: r, k, m => if k < ts.length ∧ isWord (.str x) = true ∧ ts[k]? ≠ some x then stGo ts r (k + 1) (m + 1) else none
theorem stGo_app {ts : List Str} : ∀ (a b : List Stp) (k m : Nat), stGo ts (a ++ b) k m = (stGo ts a k m).bind fun p => stGo ts b p.1 p.2
  | [], b, k, m => rfl
  | s :: a, b, k, m => by
    cases s <;> simp only [List.cons_append, stGo] <;> split <;> simp [stGo_app a b]
theorem stGo_le {ts : List Str} : ∀ (a : List Stp) {k m k' m' : Nat}, stGo ts a k m = some (k', m') → k ≤ ts.length → k' ≤ ts.length
  | [], k, m, k', m', h, hk => by simp only [stGo, Option.some.injEq, Prod.mk.injEq] at h; omega
  | s :: a, k, m, k', m', h, hk => by
    cases s <;> simp only [stGo] at h <;> split at h <;> first | exact stGo_le a h (by omega) | cases h
/-- a script, as the law's checks see it -/
theorem hsGo_st {ts : List Str} (r : List D) : ∀ (a : List Stp) {k m k' m' : Nat}, k ≤ ts.length → stGo ts a k m = some (k', m') → hsGo ts (a.map Stp.d ++ r) k m = hsGo ts r k' m'
  | [], k, m, k', m', hk, h => by simp only [stGo, Option.some.injEq, Prod.mk.injEq] at h; obtain ⟨rfl, rfl⟩ := h; rfl
  | s :: a, k, m, k', m', hk, h => by
    cases s with
    | keep =>
      simp only [stGo] at h
      split at h
      · rename_i h1
        simp only [List.map_cons, List.cons_append, Stp.d]
        rw [hsGo]
        simp [show ¬ k = ts.length by omega, show ¬ ("keep" : Str) = "out" by decide, hsGo_st r a h1 h]
      · cases h
    | out =>
      simp only [stGo] at h
      split at h
      · rename_i h1
        simp only [List.map_cons, List.cons_append, Stp.d]
        rw [hsGo]
        simp [show ¬ k = ts.length by omega, hsGo_st r a h1 h]
      · cases h
    | put x =>
      simp only [stGo] at h
      split at h
      · rename_i h1
        simp only [List.map_cons, List.cons_append, Stp.d]
        rw [hsGo]
        simp [h1, hsGo_st r a hk h]
      · cases h
    | swap x =>
      simp only [stGo] at h
      split at h
      · rename_i h1
        simp only [List.map_cons, List.cons_append, Stp.d]
        rw [hsGo]
        have h2 : ¬ ts[k]'h1.1 = x := fun z => h1.2.2 (by rw [List.getElem?_eq_getElem h1.1, z])
        simp [h1, h2, show ¬ k = ts.length by omega, show ¬ ("swap" : Str) = "put" by decide, hsGo_st r a h1.1 h]
      · cases h
/-- a whole script for a text -/
structure Scr (ts : List Str) (ss : List Stp) : Prop where
  go : ∃ m, stGo ts ss 0 0 = some (ts.length, m) ∧ m ≤ 60
  len : ss.length ≤ 120
  wd : ∀ s ∈ ss, fit 8 1 s.d
theorem Scr.has {ts : List Str} {ss : List Stp} (q : Scr ts ss) : hasScript ts (.tup (ss.map Stp.d)) = true := by
  obtain ⟨m, e, hm⟩ := q.go
  have := hsGo_st [] ss (Nat.zero_le _) e
  rw [List.append_nil] at this
  simp [hasScript, q.len, this, hsGo, hm]
theorem Scr.fits {ts : List Str} {ss : List Stp} (q : Scr ts ss) : fit 120 2 (.tup (ss.map Stp.d)) := ⟨by simpa using q.len, fun d hd => by
  obtain ⟨s, hs, rfl⟩ := List.mem_map.mp hd
  exact fit_mono (by decide) (Nat.le_refl _) (q.wd s hs)⟩
theorem stp_fit {x : Str} (h : WS x) : fit 8 1 (Stp.put x).d ∧ fit 8 1 (Stp.swap x).d := by
  have a := h.fits
  have b := h.ok
  have c : PyData.strOk "put" = true := by decide +kernel
  have d : PyData.strOk "swap" = true := by decide +kernel
  have e1 : ("put" : Str).length = 3 := by decide +kernel
  have e2 : ("swap" : Str).length = 4 := by decide +kernel
  constructor <;> refine ⟨by simp, fun z hz => ?_⟩ <;> simp only [List.mem_cons, List.not_mem_nil, or_false] at hz <;> rcases hz with rfl | rfl <;> simp [a, b, c, d, e1, e2]
theorem stp_fit0 : fit 8 1 Stp.keep.d ∧ fit 8 1 Stp.out.d := ⟨fit_of (by decide +kernel), fit_of (by decide +kernel)⟩
end Ev
end
noncomputable section
namespace Ev
open PySem L2
theorem kind_lits {h : LH} : eqD h (.str "keep") (.str "keep") = some true ∧ eqD h (.str "out") (.str "keep") = some false ∧ eqD h (.str "put") (.str "keep") = some false ∧ eqD h (.str "swap") (.str "keep") = some false ∧
    eqD h (.str "keep") (.str "out") = some false ∧ eqD h (.str "out") (.str "out") = some true ∧ eqD h (.str "put") (.str "out") = some false ∧ eqD h (.str "swap") (.str "out") = some false ∧
    eqD h (.str "keep") (.str "put") = some false ∧ eqD h (.str "out") (.str "put") = some false ∧ eqD h (.str "put") (.str "put") = some true ∧ eqD h (.str "swap") (.str "put") = some false := by
  have l := script_lits
  have e (a b : Str) (k : Bool) (ha : a ∈ (["keep", "out", "put", "swap"] : List Str)) (hb : b ∈ (["keep", "out", "put", "swap"] : List Str)) (hk : decide (a = b) = k) : eqD h (.str a) (.str b) = some k := by
    rw [eq_str (l a ha) (l b hb), hk]
  refine ⟨?_, ?_, ?_, ?_, ?_, ?_, ?_, ?_, ?_, ?_, ?_, ?_⟩ <;> exact e _ _ _ (by simp) (by simp) (by decide)
theorem need_script_ok {ts : List Str} {ss : List Stp} {h : LH} (hl : ts.length ≤ 60) (ht : ∀ x ∈ ts, WS x) (q : Scr ts ss) : S_need_script [tx ts, .tup (ss.map Stp.d)] h = .ok .non h := by
  have e := has_script_ok (h := h) (le_line (show 120 ≤ 1000 by decide)) ht q.fits
  rw [q.has] at e
  simp only [S_need_script, b_need_script, N_need_script, runF_eq]
  simp [tx_need hl ht, e]
def bhGo (ts : List Str) : List Stp → Nat → List Str → List Str
  | [], _, f => f
  | .keep :: r, k, f => bhGo ts r (k + 1) (f ++ [ts.getD k ""])
  | .out :: r, k, f => bhGo ts r (k + 1) f
  | .put x :: r, k, f => bhGo ts r k (f ++ [x])
  | .swap x :: r, k, f => bhGo ts r (k + 1) (f ++ [x])
/-- the text behind -/
def behind (ts : List Str) (ss : List Stp) : List Str := bhGo ts ss 0 []
theorem bhGo_pre {ts : List Str} (p : List Str) : ∀ (ss : List Stp) (k : Nat) (f : List Str), bhGo ts ss k (p ++ f) = p ++ bhGo ts ss k f
  | [], _, _ => rfl
  | .keep :: r, k, f => by simp only [bhGo, List.append_assoc, bhGo_pre p r]
  | .out :: r, k, f => by simp only [bhGo, bhGo_pre p r]
  | .put x :: r, k, f => by simp only [bhGo, List.append_assoc, bhGo_pre p r]
  | .swap x :: r, k, f => by simp only [bhGo, List.append_assoc, bhGo_pre p r]
theorem bhGo_len {ts : List Str} : ∀ (ss : List Stp) {k m k' m' : Nat} (f : List Str), stGo ts ss k m = some (k', m') → f.length = m → (bhGo ts ss k f).length = m'
  | [], k, m, k', m', f, h, e => by simp only [stGo, Option.some.injEq, Prod.mk.injEq] at h; rw [bhGo]; omega
  | s :: ss, k, m, k', m', f, h, e => by
    cases s <;> simp only [stGo] at h <;> split at h <;> first | (cases h; done) | (rw [bhGo]; exact bhGo_len ss _ h (by simp [e]))
theorem wd_fits {ss : List Stp} (wd : ∀ s ∈ ss, fit 8 1 s.d) : ∀ x, (Stp.put x ∈ ss ∨ Stp.swap x ∈ ss) → x.length ≤ 8 ∧ PyData.strOk x = true := by
  intro x hx
  rcases hx with hx | hx
  · exact fit_str.mp ((wd _ hx).2 (.str x) (by simp))
  · exact fit_str.mp ((wd _ hx).2 (.str x) (by simp))
theorem bhGo_all {ts : List Str} (P : Str → Prop) (ht : ∀ x ∈ ts, P x) : ∀ (ss : List Stp) {k m k' m' : Nat} (f : List Str), (∀ x, isWord (.str x) = true → (Stp.put x ∈ ss ∨ Stp.swap x ∈ ss) → P x) → stGo ts ss k m = some (k', m') → (∀ x ∈ f, P x) → ∀ x ∈ bhGo ts ss k f, P x
  | [], _, _, _, _, f, _, _, hf => hf
  | s :: ss, k, m, k', m', f, hw, h, hf => by
    cases s with
    | keep =>
      simp only [stGo] at h
      split at h
      · rename_i c
        refine bhGo_all P ht ss (f ++ [ts.getD k ""]) (fun x w hx => hw x w (hx.imp (List.mem_cons_of_mem _) (List.mem_cons_of_mem _))) h fun x hx => ?_
        rcases List.mem_append.mp hx with hx | hx
        · exact hf x hx
        · rw [List.mem_singleton.mp hx, List.getD_eq_getElem?_getD, List.getElem?_eq_getElem c]
          exact ht _ (List.getElem_mem c)
      · cases h
    | out =>
      simp only [stGo] at h
      split at h
      · exact bhGo_all P ht ss f (fun x w hx => hw x w (hx.imp (List.mem_cons_of_mem _) (List.mem_cons_of_mem _))) h hf
      · cases h
    | put y =>
      simp only [stGo] at h
      split at h
      · rename_i c
        refine bhGo_all P ht ss (f ++ [y]) (fun x w hx => hw x w (hx.imp (List.mem_cons_of_mem _) (List.mem_cons_of_mem _))) h fun x hx => ?_
        rcases List.mem_append.mp hx with hx | hx
        · exact hf x hx
        · rw [List.mem_singleton.mp hx]; exact hw y c (.inl List.mem_cons_self)
      · cases h
    | swap y =>
      simp only [stGo] at h
      split at h
      · rename_i c
        refine bhGo_all P ht ss (f ++ [y]) (fun x w hx => hw x w (hx.imp (List.mem_cons_of_mem _) (List.mem_cons_of_mem _))) h fun x hx => ?_
        rcases List.mem_append.mp hx with hx | hx
        · exact hf x hx
        · rw [List.mem_singleton.mp hx]; exact hw y c.2.1 (.inr List.mem_cons_self)
      · cases h
theorem Scr.behind_ws {ts : List Str} {ss : List Stp} (q : Scr ts ss) (ht : ∀ x ∈ ts, WS x) : (∀ x ∈ behind ts ss, WS x) ∧ (behind ts ss).length ≤ 60 := by
  obtain ⟨m, e, hm⟩ := q.go
  refine ⟨bhGo_all WS ht ss [] (fun x w hx => ⟨w, ?_⟩) e (by simp), by unfold behind; rw [bhGo_len ss [] e rfl]; exact hm⟩
  exact fit_str.mpr (wd_fits q.wd x hx)
theorem text_behind_ok {ts : List Str} {ss : List Stp} {h : LH} (hl : ts.length ≤ 60) (q : Scr ts ss) : S_text_behind [tx ts, .tup (ss.map Stp.d)] h = .ok (tx (behind ts ss)) h := by
  obtain ⟨m, eg, hm⟩ := q.go
  have hsl := q.len
  have key := RSat.fin (Q := fun v h' => v = tx (behind ts ss) ∧ h' = h) (r := evSs 1000000000 b_text_behind [some (tx ts), some (.tup (ss.map Stp.d)), none, none, none] h) (by
    simp only [b_text_behind]
    simp [le_line1 (show 0 ≤ 100000 by decide), le_line1 (show 2 ≤ 100000 by decide)]
    refine RSat.seq (N' := fun env h' => ∃ a3 a5, env = [some (tx ts), some (.tup (ss.map Stp.d)), a3, some (tx (behind ts ss)), a5] ∧ h' = h) (forLoop_sat (I := fun rest env h' => ∃ (at_ m0 : Nat) (f : List Str) (r : List Stp) (a5 : Option D), env = [some (tx ts), some (.tup (ss.map Stp.d)), some (.int at_), some (tx f), a5] ∧ h' = h ∧ rest = r.map Stp.d ∧ stGo ts r at_ m0 = some (ts.length, m) ∧ bhGo ts r at_ f = behind ts ss ∧ f.length + r.length ≤ 120) (fun x rest env h2 hi => ?_) (fun env h2 hi => ?_) _ _ _ ⟨0, 0, [], ss, _, rfl, rfl, rfl, eg, rfl, by simpa using hsl⟩) (fun env h2 hi => ?_)
    · obtain ⟨at_, m0, f, r, a5, rfl, rfl, hr, hg, hb, hfl⟩ := hi
      cases r with
      | nil => cases hr
      | cons s r =>
      simp only [List.map_cons, List.cons.injEq] at hr
      obtain ⟨rfl, rfl⟩ := hr
      refine ⟨srcOk_nil, _, rfl, ?_⟩
      have z1 : f.length + 1 ≤ sizeLine := le_line1 (by simp at hfl; omega)
      cases s with
      | keep =>
        simp only [stGo] at hg
        split at hg
        · rename_i c
          have ei := tx_idx (h := h2) c
          have gd : ts.getD at_ "" = ts[at_] := by rw [List.getD_eq_getElem?_getD, List.getElem?_eq_getElem c]; rfl
          simp only [Stp.d]
          simp [LSat, kind_lits, ei, z1, le_line1 (show 1 ≤ 100000 by decide)]
          refine ⟨at_ + 1, m0 + 1, f ++ [ts[at_]], ⟨rfl, rfl⟩, r, rfl, hg, ?_, by simp at hfl ⊢; omega⟩
          rw [← hb, bhGo, gd]
        · cases hg
      | out =>
        simp only [stGo] at hg
        split at hg
        · simp only [Stp.d]
          simp [LSat, kind_lits, z1, le_line1 (show 1 ≤ 100000 by decide)]
          refine ⟨at_ + 1, m0, f, ⟨rfl, rfl⟩, r, rfl, hg, ?_, by simp at hfl ⊢; omega⟩
          rw [← hb, bhGo]
        · cases hg
      | put x =>
        simp only [stGo] at hg
        split at hg
        · simp only [Stp.d]
          simp [LSat, kind_lits, z1, le_line1 (show 1 ≤ 100000 by decide)]
          refine ⟨at_, m0 + 1, f ++ [x], ⟨rfl, rfl⟩, r, rfl, hg, ?_, by simp at hfl ⊢; omega⟩
          rw [← hb, bhGo]
        · cases hg
      | swap x =>
        simp only [stGo] at hg
        split at hg
        · simp only [Stp.d]
          simp [LSat, kind_lits, z1, le_line1 (show 1 ≤ 100000 by decide)]
          refine ⟨at_ + 1, m0 + 1, f ++ [x], ⟨rfl, rfl⟩, r, rfl, hg, ?_, by simp at hfl ⊢; omega⟩
          rw [← hb, bhGo]
        · cases hg
    · obtain ⟨at_, m0, f, r, a5, rfl, rfl, hr, hg, hb, hfl⟩ := hi
      cases r with
      | cons _ _ => cases hr
      | nil => exact ⟨srcOk_nil, _, _, by rw [← hb]; rfl, rfl⟩
    · obtain ⟨a3, a5, rfl, rfl⟩ := hi
      simp [RSat])
  obtain ⟨v, h', e, rfl, rfl⟩ := key
  simp only [S_text_behind, runF_eq]
  exact e
/-- where the words stand behind, from a number of words on -/
def pls : List Stp → Nat → List (Option Nat)
  | [], _ => []
  | .keep :: r, n => some n :: pls r (n + 1)
  | .out :: r, n => none :: pls r n
  | .put _ :: r, n => pls r (n + 1)
  | .swap _ :: r, n => none :: pls r (n + 1)
def odD : Option Nat → D
  | none => .non
  | some n => .int (n : Nat)
theorem pls_len {ts : List Str} : ∀ (ss : List Stp) {k m k' m' n : Nat}, stGo ts ss k m = some (k', m') → k + (pls ss n).length = k'
  | [], k, m, k', m', n, h => by simp only [stGo, Option.some.injEq, Prod.mk.injEq] at h; simp [pls, h.1]
  | s :: ss, k, m, k', m', n, h => by
    cases s <;> simp only [stGo] at h <;> split at h <;> first | (cases h; done) | skip
    · have := pls_len (n := n + 1) ss h; simp only [pls, List.length_cons]; omega
    · have := pls_len (n := n) ss h; simp only [pls, List.length_cons]; omega
    · have := pls_len (n := n + 1) ss h; simp only [pls]; omega
    · have := pls_len (n := n + 1) ss h; simp only [pls, List.length_cons]; omega
theorem place_behind_ok {ts : List Str} {ss : List Stp} {p : Nat} {h : LH} (q : Scr ts ss) (hp : p < ts.length) : S_place_behind [.tup (ss.map Stp.d), .int p] h = .ok (odD ((pls ss 0).getD p none)) h := by
  obtain ⟨m, eg, hm⟩ := q.go
  have key := RSat.fin (Q := fun v h' => v = odD ((pls ss 0).getD p none) ∧ h' = h) (r := evSs 1000000000 b_place_behind [some (.tup (ss.map Stp.d)), some (.int p), none, none, none] h) (by
    simp only [b_place_behind]
    simp [le_line1 (show 2 ≤ 100000 by decide)]
    refine RSat.seq (N' := fun env h' => False) (forLoop_sat (I := fun rest env h' => ∃ (at_ m0 : Nat) (n : Nat) (r : List Stp) (a5 : Option D), env = [some (.tup (ss.map Stp.d)), some (.int p), some (.int at_), some (.int n), a5] ∧ h' = h ∧ rest = r.map Stp.d ∧ stGo ts r at_ m0 = some (ts.length, m) ∧ at_ ≤ p ∧ (pls r n).getD (p - at_) none = (pls ss 0).getD p none) (fun x rest env h2 hi => ?_) (fun env h2 hi => ?_) _ _ _ ⟨0, 0, 0, ss, _, rfl, rfl, rfl, eg, Nat.zero_le _, rfl⟩) (fun env h2 hi => hi.elim)
    · obtain ⟨at_, m0, n, r, a5, rfl, rfl, hr, hg, hb, hfl⟩ := hi
      cases r with
      | nil => cases hr
      | cons s r =>
      simp only [List.map_cons, List.cons.injEq] at hr
      obtain ⟨rfl, rfl⟩ := hr
      refine ⟨srcOk_nil, _, rfl, ?_⟩
      have neq : ¬ at_ = p → ¬ (at_ : Int) = (p : Int) := fun a b => a (by omega)
      cases s with
      | keep =>
        simp only [stGo] at hg
        split at hg
        · simp only [Stp.d]
          by_cases c : at_ = p
          · subst c
            rw [Nat.sub_self] at hfl
            simp [LSat, kind_lits]
            rw [← List.getD_eq_getElem?_getD, ← hfl]
            rfl
          · have e1 : p - at_ = (p - (at_ + 1)) + 1 := by omega
            rw [e1] at hfl
            simp [LSat, kind_lits, neq c]
            exact ⟨at_ + 1, m0 + 1, n + 1, ⟨rfl, rfl⟩, r, rfl, hg, by omega, by simpa [pls] using hfl⟩
        · cases hg
      | out =>
        simp only [stGo] at hg
        split at hg
        · simp only [Stp.d]
          by_cases c : at_ = p
          · subst c
            rw [Nat.sub_self] at hfl
            simp [LSat, kind_lits]
            rw [← List.getD_eq_getElem?_getD, ← hfl]
            rfl
          · have e1 : p - at_ = (p - (at_ + 1)) + 1 := by omega
            rw [e1] at hfl
            simp [LSat, kind_lits, neq c]
            exact ⟨at_ + 1, m0, n, ⟨rfl, rfl⟩, r, rfl, hg, by omega, by simpa [pls] using hfl⟩
        · cases hg
      | put x =>
        simp only [stGo] at hg
        split at hg
        · simp only [Stp.d]
          simp [LSat, kind_lits]
          exact ⟨at_, m0 + 1, n + 1, ⟨rfl, rfl⟩, r, rfl, hg, hb, by simpa [pls] using hfl⟩
        · cases hg
      | swap x =>
        simp only [stGo] at hg
        split at hg
        · simp only [Stp.d]
          by_cases c : at_ = p
          · subst c
            rw [Nat.sub_self] at hfl
            simp [LSat, kind_lits]
            rw [← List.getD_eq_getElem?_getD, ← hfl]
            rfl
          · have e1 : p - at_ = (p - (at_ + 1)) + 1 := by omega
            rw [e1] at hfl
            simp [LSat, kind_lits, neq c]
            exact ⟨at_ + 1, m0 + 1, n + 1, ⟨rfl, rfl⟩, r, rfl, hg, by omega, by simpa [pls] using hfl⟩
        · cases hg
    · obtain ⟨at_, m0, n, r, a5, rfl, rfl, hr, hg, hb, hfl⟩ := hi
      cases r with
      | cons _ _ => cases hr
      | nil =>
        simp only [stGo, Option.some.injEq, Prod.mk.injEq] at hg
        omega)
  obtain ⟨v, h', e, rfl, rfl⟩ := key
  simp only [S_place_behind, runF_eq]
  exact e
end Ev
end
noncomputable section
namespace Ev
open PySem L2
theorem words_of_ok {as bs : List Str} {w : Str} {h : LH} (la : as.length ≤ 1000) (lb : bs.length ≤ 1000) : S_words_of [nt as w bs] h = .ok (tx (as ++ [w] ++ bs)) h := by
  have z1 : as.length + 1 ≤ sizeLine := le_line1 (by omega)
  have z2 : as.length + 1 + bs.length ≤ sizeLine := le_line1 (by omega)
  simp only [S_words_of, b_words_of, N_words_of, runF_eq]
  simp [nt, z1, z2, le_line1 (show 1 ≤ 100000 by decide)]
theorem note_places_ok {as bs ts : List Str} {w : Str} {h : LH} (q : NtOk 2 as w bs) (ht : ∀ x ∈ ts, WS x) (hl : ts.length ≤ 60) : S_note_places [nt as w bs, tx ts] h = .ok (.lst (il (placesOf (as ++ [w] ++ bs) ts bs.length))) h := by
  have la := q.la
  have lb := q.lb
  have e := places_ok (ws := as ++ [w] ++ bs) (ts := ts) (back := bs.length) (h := h) (by
    intro x hx
    simp only [List.mem_append, List.mem_singleton] at hx
    rcases hx with (hx | rfl) | hx
    · exact (q.qa x hx).ok
    · exact q.qw.ok
    · exact (q.qb x hx).ok) (fun x hx => (ht x hx).ok) (by omega) (by simp) (by simp; omega)
  have e2 := words_of_ok (as := as) (w := w) (bs := bs) (h := h) (by omega) (by omega)
  simp only [S_note_places, b_note_places, N_note_places, runF_eq]
  simp only [nt] at e2 ⊢
  simp [-List.append_assoc, e2, e]
theorem eqv_int {a b : Int} : PyData.eqv (.int a) (.int b) = true ↔ a = b := by
  simp [PyData.eqv]
theorem in_il {h : LH} {ns : List Nat} {i : Int} : inD h (.int i) (.lst (il ns)) = some (decide (∃ n ∈ ns, (n : Int) = i)) := by
  obtain ⟨x, e1, e2⟩ := fit_shaped (b := ns.length) (n := 1) (d := .lst (il ns)) (by decide) (il_fit (Nat.le_refl _))
  have e3 : pds (il ns) = some (ns.map fun n => PyData.int (n : Nat)) := pds_ints (fun n : Nat => (n : Int)) ns
  simp only [pd, e3, Option.some.injEq] at e1
  subst e1
  have e4 : SeqAt.shaped (.int i) = true := by
    obtain ⟨y, q1, q2⟩ := fit_shaped (b := 0) (n := 0) (d := .int i) (by decide) (by simp)
    cases q1
    exact q2
  have e5 : (ns.map fun n => PyData.int (n : Nat)).any (fun z => PyData.eqv z (.int i)) = decide (∃ n ∈ ns, (n : Int) = i) := by
    rw [Bool.eq_iff_iff, List.any_eq_true, decide_eq_true_iff]
    constructor
    · rintro ⟨z, hz, e⟩
      obtain ⟨n, hn, rfl⟩ := List.mem_map.mp hz
      refine ⟨n, hn, ?_⟩
      exact eqv_int.mp e
    · rintro ⟨n, hn, e⟩
      exact ⟨_, List.mem_map.mpr ⟨n, hn, rfl⟩, eqv_int.mpr e⟩
  simp only [inD, asD_lst, inS, asS_lst, pdT, pd, e3, e2, e4, and_self, if_true, e5]
theorem in_some {h : LH} {ns : List Nat} {d : D} (hd : d = .non ∨ ∃ k, d = .bl k) : ∃ k, inD h d (.lst (il ns)) = some k := by
  obtain ⟨x, e1, e2⟩ := fit_shaped (b := ns.length) (n := 1) (d := .lst (il ns)) (by decide) (il_fit (Nat.le_refl _))
  have e3 : pds (il ns) = some (ns.map fun n => PyData.int (n : Nat)) := pds_ints (fun n : Nat => (n : Int)) ns
  simp only [pd, e3, Option.some.injEq] at e1
  subst e1
  have f : fit 0 0 d := by rcases hd with rfl | ⟨k, rfl⟩ <;> simp
  obtain ⟨y, q1, q2⟩ := fit_shaped (by decide) f
  have q3 : pdT h d = some y := by rw [fit_pdT f, q1]
  have q4 : inD h d (.lst (il ns)) = inS h d (.lst (il ns)) := by simp only [inD, asD_lst]
  rw [q4]
  have q5 : inS h d (.lst (il ns)) = match pdT h d, pds (il ns) with
      | some x, some l => if SeqAt.shaped x = true ∧ SeqAt.shaped (.list l) = true then some (l.any fun z => PyData.eqv z x) else none
      | _, _ => none := by rcases hd with rfl | ⟨k, rfl⟩ <;> rfl
  rw [q5, q3, e3]
  simp only [q2, e2, and_self, if_true]
  exact ⟨_, rfl⟩
def fateOf : Option Nat → Option Nat → Str
  | none, none => "gone"
  | none, some _ => "ghost"
  | some _, none => "lost"
  | some a, some b => if b = a then "right" else "wrong"
theorem odD_opt : ∀ o : Option Nat, odD o = optD o := fun o => by cases o <;> rfl
theorem fate_at_ok {a b : Option Nat} {h : LH} : S_fate_at [odD a, optD b] h = .ok (.str (fateOf a b)) h := by
  simp only [S_fate_at, b_fate_at, N_fate_at, runF_eq]
  cases a with
  | none => cases b <;> simp [odD, fateOf]
  | some a =>
    cases b with
    | none => simp [odD, fateOf]
    | some b =>
      by_cases c : b = a
      · subst c; simp [odD, fateOf]
      · have c2 : ¬ (b : Int) = (a : Int) := by omega
        simp [odD, fateOf, c, c2]
theorem fate_ok {as bs ts : List Str} {w : Str} {ps : List D} {ss : List Stp} {p : Nat} {h : LH} (q : NtOk 2 as w bs) (q2 : Pol 2 (.tup ps)) (ht : ∀ x ∈ ts, WS x) (hl : ts.length ≤ 60) (sc : Scr ts ss) (hp : p < ts.length) (hm : p ∈ placesOf (as ++ [w] ++ bs) ts bs.length) :
    S_fate [nt as w bs, .tup ps, tx ts, .int p, .tup (ss.map Stp.d)] h = .ok (.str (fateOf ((pls ss 0).getD p none) (ps.findSome? (pickD as w bs (behind ts ss))))) h := by
  have hps : ∀ a ∈ ps, Att 2 a := by obtain ⟨_, e, _, _, h⟩ := q2; cases e; exact h
  obtain ⟨bw, bl⟩ := sc.behind_ws ht
  have e1 := need_both_ok (h := h) q q2
  have e2 := tx_need (h := h) hl ht
  have e3 := is_from_ok (h := h) (b := 0) (n := 0) (d := .int p) (lo := 0) (hi := (ts.length : Int) - 1) (by simp)
  have e3b : isFrom 0 ((ts.length : Int) - 1) (.int p) = true := by simp [isFrom]; omega
  have e4 := note_places_ok (h := h) q ht hl
  have e5 := in_il (h := h) (ns := placesOf (as ++ [w] ++ bs) ts bs.length) (i := (p : Int))
  rw [decide_eq_true (⟨p, hm, rfl⟩ : ∃ n ∈ placesOf (as ++ [w] ++ bs) ts bs.length, (n : Int) = p)] at e5
  have e6 := need_script_ok (h := h) hl ht sc
  have e7 := place_behind_ok (h := h) sc hp
  have e8 := found_in_ok (h := h) q hps bw bl
  have e9 := text_behind_ok (h := h) hl sc
  simp only [S_fate, b_fate, N_fate, runF_eq]
  generalize nt as w bs = N at *
  generalize il (placesOf (as ++ [w] ++ bs) ts bs.length) = L at *
  rw [e3b] at e3
  simp [e1, e2, e3, e4, e5, e6, e7, e8, e9, fate_at_ok, -List.getD_eq_getElem?_getD]
theorem fate_no {as bs ts : List Str} {w : Str} {ps : List D} {d sd : D} {h : LH} (q : NtOk 2 as w bs) (q2 : Pol 2 (.tup ps)) (ht : ∀ x ∈ ts, WS x) (hl : ts.length ≤ 60) (f : fit 0 0 d) (hn : isFrom 0 ((ts.length : Int) - 1) d = false ∨ ∃ p : Nat, d = .int p ∧ p ∉ placesOf (as ++ [w] ++ bs) ts bs.length) :
    S_fate [nt as w bs, .tup ps, tx ts, d, sd] h = .ex ⟨"InvalidPlace", none⟩ h := by
  have e1 := need_both_ok (h := h) q q2
  have e2 := tx_need (h := h) hl ht
  have e3 := is_from_ok (h := h) (lo := 0) (hi := (ts.length : Int) - 1) f
  have e4 := note_places_ok (h := h) q ht hl
  simp only [S_fate, b_fate, N_fate, runF_eq]
  by_cases c : isFrom 0 ((ts.length : Int) - 1) d = true
  · rcases hn with hn | ⟨p, rfl, hp⟩
    · rw [c] at hn; cases hn
    · have e5 := in_il (h := h) (ns := placesOf (as ++ [w] ++ bs) ts bs.length) (i := (p : Int))
      rw [decide_eq_false (fun ⟨n, hn, e⟩ => hp (by rwa [show p = n by omega]) : ¬ ∃ n ∈ placesOf (as ++ [w] ++ bs) ts bs.length, (n : Int) = p)] at e5
      generalize nt as w bs = N at *
      generalize il (placesOf (as ++ [w] ++ bs) ts bs.length) = L at *
      rw [c] at e3
      simp [e1, e2, e3, e4, e5]
  · have c := eq_false_of_ne_true c
    generalize nt as w bs = N at *
    generalize il (placesOf (as ++ [w] ++ bs) ts bs.length) = L at *
    rw [c] at e3
    simp [e1, e2, e3]
end Ev
end
noncomputable section
namespace Ev
open PySem L2
theorem stands_mid {as bs ls rs : List Str} {w : Str} : ls.length + as.length ∈ placesOf (as ++ [w] ++ bs) (ls ++ (as ++ [w] ++ bs) ++ rs) bs.length := by
  rw [← law_places]
  refine List.mem_filter.mpr ⟨?_, ?_⟩
  · simp
  · have e1 : (ls ++ (as ++ [w] ++ bs) ++ rs).drop (ls.length + as.length - as.length) = as ++ ([w] ++ (bs ++ rs)) := by
      rw [Nat.add_sub_cancel]
      simp
    have e2 : (ls ++ (as ++ [w] ++ bs) ++ rs).drop (ls.length + as.length + 1) = bs ++ rs := by
      have : ls ++ (as ++ [w] ++ bs) ++ rs = (ls ++ as ++ [w]) ++ (bs ++ rs) := by simp
      rw [this, List.drop_append_of_le_length (by simp; omega)]
      rw [List.drop_eq_nil_of_le (by simp; omega)]
      rfl
    have e3 : (ls ++ (as ++ [w] ++ bs) ++ rs)[ls.length + as.length]? = some w := by
      have : ls ++ (as ++ [w] ++ bs) ++ rs = (ls ++ as) ++ (w :: (bs ++ rs)) := by simp
      rw [this, List.getElem?_append_right (by simp)]
      simp
    simp only [lawAt, e1, e2, e3, Bool.and_eq_true, decide_eq_true_eq]
    refine ⟨⟨⟨trivial, by omega⟩, ?_⟩, ?_⟩ <;> simp
theorem law_held_ok {n m : Nat} (hm : m ≤ 4) {as bs : List Str} {w : Str} {h : LH} (s : SrcAt n h) (q : NtOk 2 as w bs) : ∃ (ts : List Str) (p : Nat) (h' : LH), S__law_held [.loc n, nt as w bs, .int m] h = .ok (.tup [tx ts, .int p]) h' ∧ Dr n h h' ∧ ts.length ≤ 60 ∧ (∀ x ∈ ts, WS x) ∧ p < ts.length ∧ p ∈ placesOf (as ++ [w] ++ bs) ts bs.length := by
  obtain ⟨d1, h1, e1, r1, l1, w1, b1⟩ := text2_ok (m := m) s q.note (by decide) (by omega)
  obtain ⟨d2, h2, e2, r2, l2, w2, b2⟩ := text2_ok (m := m) (r1.src s) q.note (by decide) (by omega)
  obtain ⟨ls, rfl, q1⟩ := words_strs w1
  obtain ⟨rs, rfl, q2⟩ := words_strs w2
  simp only [List.length_map] at b1 b2
  have la := q.la
  have lb := q.lb
  have e3 (h : LH) : S__law_words [nt as w bs] h = .ok (tx (as ++ [w] ++ bs)) h := by
    rw [words_ok (h := h) q.note (by decide)]
    simp [noteWords, nt, tx]
  refine ⟨ls ++ (as ++ [w] ++ bs) ++ rs, ls.length + as.length, h2, ?_, r1.trans r2, by simp; omega, ?_, by simp, stands_mid⟩
  · simp only [S__law_held, b__law_held, N__law_held, runF_eq]
    have i0 (h : LH) : opIdx (nt as w bs) (.int 0) h = .ok (tx as) h := by simp [nt]
    generalize nt as w bs = N at *
    have e1 : S__law_text [.loc n, N, .int m] h = .ok (tx ls) h1 := e1
    have e2 : S__law_text [.loc n, N, .int m] h1 = .ok (tx rs) h2 := e2
    have z1 : ls.length + (as ++ [w] ++ bs).length ≤ sizeLine := le_line1 (by simp; omega)
    have z2 : (ls ++ (as ++ [w] ++ bs)).length + rs.length ≤ sizeLine := le_line1 (by simp; omega)
    generalize as ++ [w] ++ bs = ws at *
    simp [e1, e2, e3, i0, z1, z2, -List.length_append, -List.append_assoc, le_line1 (show 2 ≤ 100000 by decide)]
  · intro x hx
    simp only [List.mem_append, List.mem_singleton] at hx
    rcases hx with (hx | ((hx | rfl) | hx)) | hx
    · exact q1 x hx
    · exact q.qa x hx
    · exact q.qw
    · exact q.qb x hx
    · exact q2 x hx
end Ev
end
noncomputable section
namespace Ev
open PySem L2
theorem changed_ok {ts : List Str} {ss : List Stp} {h : LH} (hl : ts.length ≤ 60) (ht : ∀ x ∈ ts, WS x) (q : Scr ts ss) : S_changed [tx ts, .tup (ss.map Stp.d)] h = .ok (tx (behind ts ss)) h := by
  simp only [S_changed, b_changed, N_changed, runF_eq]
  simp [need_script_ok hl ht q, text_behind_ok hl q]
abbrev pr3 (a b c : Int) : D := .tup [.int a, .int b, .int c]
def stPrice (a b c : Int) : Stp → Int
  | .keep => 0
  | .out => a
  | .put _ => b
  | .swap _ => c
theorem tix_lits {h : LH} : kTix2 [.str "out", .str "put", .str "swap"] (.str "out") h = .ok (.int 0) h ∧ kTix2 [.str "out", .str "put", .str "swap"] (.str "put") h = .ok (.int 1) h ∧ kTix2 [.str "out", .str "put", .str "swap"] (.str "swap") h = .ok (.int 2) h :=
  ⟨kTix2_eq (ys := ["out", "put", "swap"]) (k := 0) rfl (by decide), kTix2_eq (ys := ["out", "put", "swap"]) (k := 1) rfl (by decide), kTix2_eq (ys := ["out", "put", "swap"]) (k := 2) rfl (by decide)⟩
theorem price_of_ok {s : Stp} {a b c : Int} {h : LH} : S_price_of [s.d, pr3 a b c] h = .ok (.int (stPrice a b c s)) h := by
  simp only [S_price_of, b_price_of, N_price_of, runF_eq]
  cases s <;> simp [Stp.d, kind_lits, tix_lits, stPrice, le_line1 (show 3 ≤ 100000 by decide)]
theorem is_fromI {i lo hi : Int} {h : LH} : S_is_from [.int i, .int lo, .int hi] h = .ok (.bl (decide (lo ≤ i ∧ i ≤ hi))) h := by
  simp only [S_is_from, b_is_from, N_is_from, runF_eq]
  by_cases c : lo ≤ i <;> simp [c]
structure Pr3 (a b c : Int) : Prop where
  a1 : 1 ≤ a
  a9 : a ≤ 9
  b1 : 1 ≤ b
  b9 : b ≤ 9
  c1 : 1 ≤ c
  c9 : c ≤ 9
theorem need_prices_ok {a b c : Int} {h : LH} (q : Pr3 a b c) : S_need_prices [pr3 a b c] h = .ok .non h := by
  obtain ⟨a1, a9, b1, b9, c1, c9⟩ := q
  have e := lcp_map (own := [("one", 1)]) (t := .nm 1) (elt := .cal "is_from" S_is_from 3 [] [(.var 1), (.cst (.int 1)), (.glob "MOST_PRICE" c_MOST_PRICE)]) (s := []) (xs := [.int a, .int b, .int c]) (env := [some (pr3 a b c), none]) (h := h) (fun _ => .bl true) srcOk_nil (le_line1 (by simp)) (by
    intro x hx
    simp only [List.mem_cons, List.not_mem_nil, or_false] at hx
    rcases hx with rfl | rfl | rfl <;> refine ⟨_, rfl, ?_⟩ <;> simp [c_MOST_PRICE, is_fromI, a1, a9, b1, b9, c1, c9])
  simp [pr3] at e
  simp only [S_need_prices, b_need_prices, N_need_prices, runF_eq]
  simp [pr3, e, boolsOf]
def prD (a b c : Int) : D → Int
  | .tup (.str x :: _) => if x = "keep" then 0 else if x = "out" then a else if x = "put" then b else c
  | _ => 0
theorem prD_st {a b c : Int} (s : Stp) : prD a b c s.d = stPrice a b c s := by
  have e1 : ¬ ("out" : Str) = "keep" := by decide
  have e2 : ¬ ("put" : Str) = "keep" := by decide
  have e3 : ¬ ("put" : Str) = "out" := by decide
  have e4 : ¬ ("swap" : Str) = "keep" := by decide
  have e5 : ¬ ("swap" : Str) = "out" := by decide
  have e6 : ¬ ("swap" : Str) = "put" := by decide
  cases s <;> simp [Stp.d, prD, stPrice, e1, e2, e3, e4, e5, e6]
/-- what a script costs -/
def priceSum (a b c : Int) (ss : List Stp) : Int := (ss.map (stPrice a b c)).sum
theorem price_ok {ts : List Str} {ss : List Stp} {a b c : Int} {h : LH} (hl : ts.length ≤ 60) (ht : ∀ x ∈ ts, WS x) (q : Scr ts ss) (p : Pr3 a b c) : S_price [tx ts, .tup (ss.map Stp.d), pr3 a b c] h = .ok (.int (priceSum a b c ss)) h := by
  have e := lcp_map (own := [("step", 3)]) (t := .nm 3) (elt := .cal "price_of" S_price_of 2 [] [(.var 3), (.var 2)]) (s := []) (xs := ss.map Stp.d) (env := [some (tx ts), some (.tup (ss.map Stp.d)), some (pr3 a b c), none]) (h := h) (fun d => .int (prD a b c d)) srcOk_nil (le_line1 (by have := q.len; simp; omega)) (by
    intro x hx
    obtain ⟨s, _, rfl⟩ := List.mem_map.mp hx
    exact ⟨_, rfl, by simp [price_of_ok, prD_st]⟩)
  have e2 : (ss.map (prD a b c ∘ Stp.d)) = ss.map (stPrice a b c) := List.map_congr_left fun s _ => prD_st s
  simp only [S_price, b_price, N_price, runF_eq]
  simp [need_script_ok hl ht q, need_prices_ok p, e, -List.map_map]
  rw [List.map_map, e2]
  rfl
theorem new_place_ok {ts : List Str} {ss : List Stp} {p : Nat} {h : LH} (hl : ts.length ≤ 60) (ht : ∀ x ∈ ts, WS x) (q : Scr ts ss) (hp : p < ts.length) : S_new_place [tx ts, .tup (ss.map Stp.d), .int p] h = .ok (odD ((pls ss 0).getD p none)) h := by
  have e := place_behind_ok (h := h) q hp
  have c : (p : Int) ≤ (ts.length : Int) - 1 := by omega
  simp only [S_new_place, b_new_place, N_new_place, runF_eq]
  simp [need_script_ok hl ht q, is_fromI, c, e]
end Ev
end
noncomputable section
namespace Ev
open PySem L2
structure Rw where
  name : Str
  note : D
  at_ : Option Nat
def Rw.d (r : Rw) : D := .tup [.str r.name, r.note, odD r.at_]
structure RwOk (r : Rw) : Prop where
  nm : PyData.strOk r.name = true ∧ r.name.length ≤ 8
  nt : fit 100 2 r.note
def nowD (ts : List Str) (rows : List Rw) : D := .tup [tx ts, .tup (rows.map Rw.d)]
def pgO (p : Nat) (ts : List Str) (rows : List Rw) : O := .ins "Page" [("now", nowD ts rows), ("past", .loc p)]
def pgH (h : LH) (ts : List Str) (rows : List Rw) (past : List D) : LH := h ++ [pgO (h.length + 1) ts rows, .lst past]
section
variable {h : LH} {ts ts' : List Str} {rows rows' : List Rw} {past : List D} {env : Env} {m : Bool}
theorem pg_len : (pgH h ts rows past).length = h.length + 2 := by simp [pgH]
theorem pg_get : (pgH h ts rows past)[h.length]? = some (pgO (h.length + 1) ts rows) := by simp [pgH]
theorem pg_past : (pgH h ts rows past)[h.length + 1]? = some (.lst past) := by simp [pgH]
theorem pg_now : kAtt "Page" "now" (.loc h.length) (pgH h ts rows past) = .ok (nowD ts rows) (pgH h ts rows past) := att_loc pg_get rfl
theorem pg_pastA : kAtt "Page" "past" (.loc h.length) (pgH h ts rows past) = .ok (.loc (h.length + 1)) (pgH h ts rows past) := att_loc pg_get rfl
theorem pg_mca {x : Str} {S : Fn} {k : Nat} {dfl : List D} {es : List E} (h1 : (x == "now") = false) (h2 : (x == "past") = false) : kMca "Page" x S k dfl es env (.loc h.length) (pgH h ts rows past) = (evEs es env (pgH h ts rows past)).bind (kMca2 S k dfl (.loc h.length)) :=
  mca_loc pg_get (by simp [List.lookup, h1, h2])
theorem pg_sat : kSat2 "Page" "now" (nowD ts' rows') env (.loc h.length) (pgH h ts rows past) = .nx env (pgH h ts' rows' past) := by
  rw [sat_loc pg_get (by simp)]
  congr 1
  simp [pgH, pgO, putFD]
theorem pg_app {d : D} (hl : past.length < sizeLine) : mtF .append m (.loc (h.length + 1)) [d] (pgH h ts rows past) = .ok .non (pgH h ts rows (past ++ [d])) := by
  rw [mt_app, pg_past]
  simp only [hl, if_true]
  congr 1
  simp [pgH]
theorem pg_pop {d : D} : mtF .pop m (.loc (h.length + 1)) [] (pgH h ts rows (past ++ [d])) = .ok d (pgH h ts rows past) := by
  rw [mt_pop, pg_past]
  simp
  simp [pgH]
theorem nowD_unp : nowD ts rows = .tup [tx ts, .tup (rows.map Rw.d)] := rfl
end
theorem page_init {h : LH} {ts : List Str} (hl : ts.length ≤ 60) (q : ∀ x ∈ ts, WS x) : S_Page___init__ [.loc h.length, tx ts] (h ++ [.ins "Page" []]) = .ok .non (pgH h ts [] []) := by
  have e1 := tx_need (h := h ++ [.ins "Page" []]) hl q
  have g1 : (h ++ [O.ins "Page" []])[h.length]? = some (.ins "Page" []) := by simp
  have z2 : 2 ≤ sizeLine := le_line1 (by decide)
  have z0 : 0 ≤ sizeLine := le_line1 (by decide)
  have s1 {v : D} {env : Env} : kSat2 "Page" "now" v env (.loc h.length) (h ++ [O.ins "Page" []]) = .nx env (h ++ [O.ins "Page" [("now", v)]]) := by
    rw [sat_loc g1 (by simp)]
    simp [putFD]
  have s2 {v u : D} {o : O} {env : Env} : kSat2 "Page" "past" v env (.loc h.length) (h ++ [O.ins "Page" [("now", u)], o]) = .nx env (h ++ [O.ins "Page" [("now", u), ("past", v)], o]) := by
    rw [sat_loc (fs := [("now", u)]) (by simp) (by simp)]
    simp [putFD, show ¬ ("now" : Str) = "past" by decide]
  simp only [S_Page___init__, b_Page___init__, N_Page___init__, runF_eq]
  simp [e1, s1, z2, z0, s2]
  rfl
theorem need_place_ok {h : LH} {ts : List Str} {rows : List Rw} {past : List D} {p : Nat} {m : Int} (hp : (p : Int) ≤ (ts.length : Int) - 1 + m) : S_Page_need_place [.loc h.length, .int (p : Int), .int m] (pgH h ts rows past) = .ok .non (pgH h ts rows past) := by
  have e1 := is_from_ok (b := 0) (n := 0) (d := .int (p : Int)) (lo := 0) (hi := (ts.length : Int) - 1 + m) (h := pgH h ts rows past) (by simp)
  have e2 : isFrom 0 ((ts.length : Int) - 1 + m) (.int (p : Int)) = true := by simp [isFrom, hp]
  simp only [S_Page_need_place, b_Page_need_place, N_Page_need_place, runF_eq]
  simp [pg_now, nowD, e1, e2]
theorem go_on_ok {h : LH} {ts ts' : List Str} {rows rows' : List Rw} {past : List D} (hl : past.length < sizeLine) : S_Page_go_on [.loc h.length, tx ts', .tup (rows'.map Rw.d)] (pgH h ts rows past) = .ok .non (pgH h ts' rows' (past ++ [nowD ts rows])) := by
  have e := pg_sat (h := h) (ts := ts) (ts' := ts') (rows := rows) (rows' := rows') (past := past ++ [nowD ts rows]) (env := [some (.loc h.length), some (tx ts'), some (.tup (rows'.map Rw.d))])
  have l1 : (asL (pgH h ts rows past) (.loc (h.length + 1))).isSome = true := by rw [asL_loc pg_past]; rfl
  have z2 : 2 ≤ sizeLine := le_line1 (by decide)
  simp only [S_Page_go_on, b_Page_go_on, N_Page_go_on, runF_eq]
  simp [pg_now, pg_pastA, l1, pg_app hl, z2]
  simp only [nowD] at e
  simp [nowD, e]
/-- what becomes of a place -/
def mvAt (place : Nat) (more : Int) (gone : Bool) : Option Nat → Option Nat
  | none => none
  | some a => if a = place ∧ gone = true then none else if place ≤ a then some (a + more).toNat else some a
def Rw.mv (place : Nat) (more : Int) (gone : Bool) (r : Rw) : Rw := { r with at_ := mvAt place more gone r.at_ }
theorem moved_ok {h : LH} {ts : List Str} {rows : List Rw} {past : List D} {place : Nat} {more : Int} {gone : Bool} (hr : rows.length ≤ 1000) (hm : ∀ r ∈ rows, ∀ a, r.at_ = some a → place ≤ a → (a ≠ place ∨ gone = false) → 0 ≤ (a : Int) + more) :
    S_Page_moved [.loc h.length, .int (place : Int), .int more, .bl gone] (pgH h ts rows past) = .ok (.tup ((rows.map (Rw.mv place more gone)).map Rw.d)) (pgH h ts rows past) := by
  have z0 : 0 ≤ sizeLine := le_line1 (by decide)
  have z1 : 1 ≤ sizeLine := le_line1 (by decide)
  have z3 : 3 ≤ sizeLine := le_line1 (by decide)
  have key := RSat.fin (Q := fun v h' => v = .tup ((rows.map (Rw.mv place more gone)).map Rw.d) ∧ h' = pgH h ts rows past) (r := evSs 1000000000 b_Page_moved [some (.loc h.length), some (.int (place : Int)), some (.int more), some (.bl gone), none, none, none, none] (pgH h ts rows past)) (by
    simp only [b_Page_moved]
    simp [pg_now, nowD, z0]
    refine RSat.seq (N' := fun env h' => (∃ a b c, env = [some (.loc h.length), some (.int (place : Int)), some (.int more), some (.bl gone), some (.tup ((rows.map (Rw.mv place more gone)).map Rw.d)), a, b, c]) ∧ h' = pgH h ts rows past) (forLoop_sat (I := fun rest env h' => ∃ done todo a b c, rows = done ++ todo ∧ rest = todo.map Rw.d ∧ env = [some (.loc h.length), some (.int (place : Int)), some (.int more), some (.bl gone), some (.tup ((done.map (Rw.mv place more gone)).map Rw.d)), a, b, c] ∧ h' = pgH h ts rows past) (fun x rest env h2 hi => ?_) (fun env h2 hi => ?_) _ _ _ ⟨[], _, _, _, _, rfl, rfl, rfl, rfl⟩) (fun env h2 hi => ?_)
    · obtain ⟨done, todo, a, b, c, er, e2, rfl, rfl⟩ := hi
      refine ⟨srcOk_nil, ?_⟩
      cases todo with
      | nil => simp at e2
      | cons r todo =>
        simp only [List.map_cons, List.cons.injEq] at e2
        obtain ⟨rfl, rfl⟩ := e2
        have hz : done.length + 1 ≤ sizeLine := le_line1 (by have := congrArg List.length er; simp at this; omega)
        have hr2 := hm r (by rw [er]; simp)
        obtain ⟨nm, nt0, at0⟩ := r
        refine ⟨_, rfl, ?_⟩
        have fini : ∀ o : Option Nat, mvAt place more gone at0 = o → ∃ done' todo' a b c, rows = done' ++ todo' ∧ todo.map Rw.d = todo'.map Rw.d ∧ [some (D.loc h.length), some (.int (place : Int)), some (.int more), some (.bl gone), some (.tup ((done.map (Rw.mv place more gone)).map Rw.d ++ [.tup [.str nm, nt0, odD o]])), some (.str nm), some nt0, some (odD o)] = [some (.loc h.length), some (.int (place : Int)), some (.int more), some (.bl gone), some (.tup ((done'.map (Rw.mv place more gone)).map Rw.d)), a, b, c] ∧ True := fun o ho => ⟨done ++ [⟨nm, nt0, at0⟩], todo, _, _, _, by rw [er]; simp, rfl, by simp [Rw.d, Rw.mv, ho]; exact ⟨rfl, rfl, rfl⟩, trivial⟩
        cases at0 with
        | none =>
          obtain ⟨d2, t2, a2, b2, c2, f1, f2, f3, _⟩ := fini none rfl
          simp [odD] at f3
          simp [odD, z1, z3, hz, LSat]
          exact ⟨d2, t2, f1, f2, f3.1⟩
        | some k =>
          by_cases c1 : k = place
          · subst c1
            cases gone with
            | true =>
              obtain ⟨d2, t2, a2, b2, c2, f1, f2, f3, _⟩ := fini none (by simp [mvAt])
              simp [odD] at f3
              simp [odD, z1, z3, hz, LSat]
              exact ⟨d2, t2, f1, f2, f3.1⟩
            | false =>
              obtain ⟨d2, t2, a2, b2, c2, f1, f2, f3, _⟩ := fini (some (k + more).toNat) (by simp [mvAt])
              have n0 := hr2 k rfl (Nat.le_refl _) (.inr rfl)
              simp [odD] at f3
              simp [odD, z1, z3, hz, LSat]
              rw [Int.max_eq_left n0] at f3
              exact ⟨d2, t2, f1, f2, f3.1⟩
          · have c1' : ¬ (k : Int) = (place : Int) := by omega
            by_cases c2 : place ≤ k
            · obtain ⟨d2, t2, a2, b2, c3, f1, f2, f3, _⟩ := fini (some (k + more).toNat) (by simp [mvAt, c1, c2])
              have n0 := hr2 k rfl c2 (.inl c1)
              simp [odD] at f3
              rw [Int.max_eq_left n0] at f3
              simp [odD, z1, z3, hz, c1', c2, LSat]
              exact ⟨d2, t2, f1, f2, f3.1⟩
            · obtain ⟨d2, t2, a2, b2, c3, f1, f2, f3, _⟩ := fini (some k) (by simp [mvAt, c1, c2])
              simp [odD] at f3
              simp [odD, z1, z3, hz, c1', c2, LSat]
              exact ⟨d2, t2, f1, f2, f3.1⟩
    · obtain ⟨done, todo, a, b, c, er, e2, rfl, rfl⟩ := hi
      cases todo with
      | nil => rw [List.append_nil] at er; subst er; exact ⟨srcOk_nil, ⟨_, _, _, rfl⟩, rfl⟩
      | cons r todo => simp at e2
    · obtain ⟨⟨a, b, c, rfl⟩, rfl⟩ := hi
      simp [RSat])
  obtain ⟨v, h', e, rfl, rfl⟩ := key
  simp only [S_Page_moved, runF_eq]
  exact e
end Ev
end
noncomputable section
namespace Ev
open PySem L2
theorem eq_nil {b n : Nat} {h : LH} {ds : List D} (hn : n ≤ 64) (f : fit b n (.lst ds)) : eqD h (.lst ds) (.lst []) = some ds.isEmpty := by
  obtain ⟨x, e, s⟩ := fit_shaped hn f
  have e2 := (fit_pdT (h := h) f).trans e
  obtain ⟨y, e3, s3⟩ := fit_shaped (b := 0) (n := 1) (d := .lst []) (by decide) (by simp)
  have e4 : pd (.lst []) = some (.list []) := rfl
  rw [e4] at e3
  cases e3
  rw [eqD_of e2 (y := .list []) rfl s s3]
  simp only [pd] at e
  cases hp : pds ds with
  | none => rw [hp] at e; cases e
  | some l =>
    rw [hp] at e
    cases e
    cases ds with
    | nil => simp only [pds, Option.some.injEq] at hp; subst hp; simp [PyData.eqv, PyData.eqvAll]
    | cons d ds =>
      simp only [pds] at hp
      split at hp
      · cases hp; simp [PyData.eqv, PyData.eqvAll]
      · cases hp
theorem eq_nil_loc {b n : Nat} {h : LH} {l : Nat} {ds : List D} (q : h[l]? = some (.lst ds)) (hn : n ≤ 64) (f : fit b n (.lst ds)) : eqD h (.loc l) (.lst []) = some ds.isEmpty := by
  have e := eq_nil (h := h) hn f
  rw [← e]
  have e1 : eqP h (.loc l) (.lst []) = eqP h (.lst ds) (.lst []) := by simp only [eqP, loc_lst q, fit_pdT f]
  simp only [eqD, e1]
  have : ∃ k, eqP h (.lst ds) (.lst []) = some k := by
    cases q2 : eqP h (.lst ds) (.lst []) with
    | some k => exact ⟨k, rfl⟩
    | none =>
      exfalso
      simp only [eqD, q2, eqE, asD] at e
      cases e
  obtain ⟨k, e3⟩ := this
  rw [e3]
/-- rows of a page -/
structure Rws (rows : List Rw) : Prop where
  len : rows.length ≤ 10
  ok : ∀ r ∈ rows, RwOk r
theorem odD_fits {b n : Nat} {o : Option Nat} : fit b n (odD o) := by cases o <;> simp [odD]
theorem Rw.fits {r : Rw} (q : RwOk r) : fit 100 3 r.d := by
  refine ⟨by simp, fun d hd => ?_⟩
  simp only [List.mem_cons, List.not_mem_nil, or_false] at hd
  rcases hd with rfl | rfl | rfl
  · exact fit_str.mpr ⟨by have := q.nm.2; omega, q.nm.1⟩
  · exact q.nt
  · exact odD_fits
theorem Rws.fits {rows : List Rw} (q : Rws rows) : fit 100 4 (.lst (rows.map Rw.d)) := ⟨by have := q.len; simp; omega, fun d hd => by
  obtain ⟨r, hr, rfl⟩ := List.mem_map.mp hd
  exact Rw.fits (q.ok r hr)⟩
theorem now_fits {ts : List Str} {rows : List Rw} (hl : ts.length ≤ 60) (ht : ∀ x ∈ ts, WS x) (q : Rws rows) : fit 100 5 (nowD ts rows) := by
  refine ⟨by simp, fun d hd => ?_⟩
  simp only [List.mem_cons, List.not_mem_nil, or_false] at hd
  rcases hd with rfl | rfl
  · exact fit_mono (Nat.le_refl _) (by decide) (tx_fits (by omega) ht)
  · exact fit_mono (Nat.le_refl _) (Nat.le_refl _) (show fit 100 4 (.tup (rows.map Rw.d)) from q.fits)
section
variable {h : LH} {ts : List Str} {rows : List Rw} {past : List D}
theorem row_of_run {nm : Str} (q : Rws rows) (hn : PyData.strOk nm = true) : (let r := rows.filter fun r => decide (r.name = nm); S_Page_row_of [.loc h.length, .str nm] (pgH h ts rows past) = match r with | [] => .ex ⟨"InvalidName", none⟩ (pgH h ts rows past) | r :: _ => .ok r.d (pgH h ts rows past)) := by
  have e := lcp_filter (own := [("row", 3)]) (t := .nm 3) (c := .and [(.isi (.var 1) "str"), (.cmp .Eq (.idx (.var 3) (.cst (.int 0))) (.var 1))]) (elt := .var 3) (s := []) (xs := rows.map Rw.d) (env := [some (.loc h.length), some (.str nm), none, none]) (h := pgH h ts rows past) (fun d => match d with | .tup (.str x :: _) => decide (x = nm) | _ => false) id srcOk_nil (le_line1 (by have := q.len; simp; omega)) (by
    intro x hx
    obtain ⟨r, hr, rfl⟩ := List.mem_map.mp hx
    have e2 := eq_str (h := pgH h ts rows past) (q.ok r hr).nm.1 hn
    exact ⟨_, rfl, by simp [Rw.d, e2], by simp⟩)
  have e3 : ((rows.map Rw.d).filter fun d => match d with | .tup (.str x :: _) => decide (x = nm) | _ => false) = (rows.filter fun r => decide (r.name = nm)).map Rw.d := by
    rw [List.filter_map]
    rfl
  rw [e3, List.map_id] at e
  have q2 : Rws (rows.filter fun r => decide (r.name = nm)) := ⟨Nat.le_trans (List.length_filter_le _ _) q.len, fun r hr => q.ok r (List.mem_filter.mp hr).1⟩
  generalize (rows.filter fun r => decide (r.name = nm)) = rs at *
  have e4 := eq_nil (h := pgH h ts rows past) (by decide) q2.fits
  simp only [S_Page_row_of, b_Page_row_of, N_Page_row_of, runF_eq]
  have z0 : 0 ≤ sizeLine := le_line1 (by decide)
  simp [pg_now, nowD, e, e4, z0]
  cases rs with
  | nil => simp
  | cons r rs => simp
theorem row_of_ok {nm : Str} {r : Rw} {rs : List Rw} (q : Rws rows) (hn : PyData.strOk nm = true) (hr : (rows.filter fun r => decide (r.name = nm)) = r :: rs) : S_Page_row_of [.loc h.length, .str nm] (pgH h ts rows past) = .ok r.d (pgH h ts rows past) := by
  have := row_of_run (h := h) (ts := ts) (past := past) q hn
  simp only [hr] at this
  exact this
theorem pg_place_ok {nm : Str} {r : Rw} {rs : List Rw} (q : Rws rows) (hn : PyData.strOk nm = true) (hr : (rows.filter fun r => decide (r.name = nm)) = r :: rs) : S_Page_place [.loc h.length, .str nm] (pgH h ts rows past) = .ok (odD r.at_) (pgH h ts rows past) := by
  simp only [S_Page_place, b_Page_place, N_Page_place, runF_eq]
  have e : kMca "Page" "row_of" S_Page_row_of 2 [] [.var 1] [some (.loc h.length), some (.str nm)] (.loc h.length) (pgH h ts rows past) = .ok r.d (pgH h ts rows past) := by
    rw [pg_mca (by decide) (by decide)]
    simp [row_of_ok q hn hr]
  simp [e, Rw.d]
end
section
variable {h : LH} {ts : List Str} {rows : List Rw} {past : List D} {nm : Str} {as bs : List Str} {w : Str} {at_ : Option Nat} {rs : List Rw} {ps : List D}
theorem seek_ok (q : Rws rows) (hn : PyData.strOk nm = true) (hr : (rows.filter fun r => decide (r.name = nm)) = ⟨nm, nt as w bs, at_⟩ :: rs) (qn : NtOk 2 as w bs) (qp : Pol 2 (.tup ps)) (ht : ∀ x ∈ ts, WS x) (hl : ts.length ≤ 60) :
    S_Page_seek [.loc h.length, .str nm, .tup ps] (pgH h ts rows past) = .ok (optD (ps.findSome? (pickD as w bs ts))) (pgH h ts rows past) := by
  obtain ⟨ps', e', _, _, qa⟩ := id qp
  cases e'
  simp only [S_Page_seek, b_Page_seek, N_Page_seek, runF_eq]
  have e : kMca "Page" "row_of" S_Page_row_of 2 [] [.var 1] [some (.loc h.length), some (.str nm), some (.tup ps), none] (.loc h.length) (pgH h ts rows past) = .ok (Rw.d ⟨nm, nt as w bs, at_⟩) (pgH h ts rows past) := by
    rw [pg_mca (by decide) (by decide)]
    simp [row_of_ok q hn hr]
  have e2 := found_in_ok (h := pgH h ts rows past) qn qa ht hl
  have e3 := pol_need (h := pgH h ts rows past) qp
  generalize nt as w bs = N at *
  simp [e, Rw.d, e3, pg_now, nowD, e2]
theorem pg_fate_ok (q : Rws rows) (hn : PyData.strOk nm = true) (hr : (rows.filter fun r => decide (r.name = nm)) = ⟨nm, nt as w bs, at_⟩ :: rs) (qn : NtOk 2 as w bs) (qp : Pol 2 (.tup ps)) (ht : ∀ x ∈ ts, WS x) (hl : ts.length ≤ 60) :
    S_Page_fate [.loc h.length, .str nm, .tup ps] (pgH h ts rows past) = .ok (.str (fateOf at_ (ps.findSome? (pickD as w bs ts)))) (pgH h ts rows past) := by
  obtain ⟨ps', e', _, _, qa⟩ := id qp
  cases e'
  simp only [S_Page_fate, b_Page_fate, N_Page_fate, runF_eq]
  have e : kMca "Page" "row_of" S_Page_row_of 2 [] [.var 1] [some (.loc h.length), some (.str nm), some (.tup ps), none] (.loc h.length) (pgH h ts rows past) = .ok (Rw.d ⟨nm, nt as w bs, at_⟩) (pgH h ts rows past) := by
    rw [pg_mca (by decide) (by decide)]
    simp [row_of_ok q hn hr]
  have e2 := found_in_ok (h := pgH h ts rows past) qn qa ht hl
  have e3 := pol_need (h := pgH h ts rows past) qp
  have e4 := fate_at_ok (a := at_) (b := ps.findSome? (pickD as w bs ts)) (h := pgH h ts rows past)
  generalize nt as w bs = N at *
  simp [e, Rw.d, e3, pg_now, nowD, e2, e4]
theorem pg_text_ok : S_Page_text [.loc h.length] (pgH h ts rows past) = .ok (tx ts) (pgH h ts rows past) := by
  simp only [S_Page_text, b_Page_text, N_Page_text, runF_eq]
  simp [pg_now, nowD]
end
end Ev
end
noncomputable section
namespace Ev
open PySem L2
section
variable {h : LH} {ts : List Str} {rows : List Rw} {past : List D}
theorem line_of {n : Nat} (h : n ≤ 100000) : n < sizeLine := by
  have e : sizeLine = 16777216 := rfl
  omega
theorem need_place_mca {es : List E} {env : Env} {p : Nat} {m : Int} (he : evEs es env (pgH h ts rows past) = .ok [.int (p : Int), .int m] (pgH h ts rows past)) (hp : (p : Int) ≤ (ts.length : Int) - 1 + m) : kMca "Page" "need_place" S_Page_need_place 3 [] es env (.loc h.length) (pgH h ts rows past) = .ok .non (pgH h ts rows past) := by
  rw [pg_mca (by decide) (by decide), he]
  simp [need_place_ok hp]
theorem go_on_mca {es : List E} {env : Env} {ts' : List Str} {rows' : List Rw} (hl : past.length ≤ 1000) (he : evEs es env (pgH h ts rows past) = .ok [tx ts', .tup (rows'.map Rw.d)] (pgH h ts rows past)) : kMca "Page" "go_on" S_Page_go_on 3 [] es env (.loc h.length) (pgH h ts rows past) = .ok .non (pgH h ts' rows' (past ++ [nowD ts rows])) := by
  rw [pg_mca (by decide) (by decide), he]
  simp [go_on_ok (line_of (show past.length ≤ 100000 by omega))]
theorem moved_mca {es : List E} {env : Env} {place : Nat} {more : Int} {gone : Bool} (hr : rows.length ≤ 1000) (hm : ∀ r ∈ rows, ∀ a, r.at_ = some a → place ≤ a → (a ≠ place ∨ gone = false) → 0 ≤ (a : Int) + more)
    (he : evEs es env (pgH h ts rows past) = .ok [.int (place : Int), .int more, .bl gone] (pgH h ts rows past)) : kMca "Page" "moved" S_Page_moved 4 [] es env (.loc h.length) (pgH h ts rows past) = .ok (.tup ((rows.map (Rw.mv place more gone)).map Rw.d)) (pgH h ts rows past) := by
  rw [pg_mca (by decide) (by decide), he]
  have := moved_ok (h := h) (ts := ts) (past := past) (place := place) (more := more) (gone := gone) hr hm
  simp only [b_ok, kMca2_eq, List.length_cons, List.length_nil, List.append_nil, List.cons_append, List.nil_append, this, if_true]
/-- a word put in -/
theorem pput_ok {p : Nat} {x : Str} (hp : p ≤ ts.length) (wx : WS x) (hl : ts.length < 60) (hr : rows.length ≤ 1000) (hpa : past.length ≤ 1000) :
    S_Page_put [.loc h.length, .int (p : Int), .str x] (pgH h ts rows past) = .ok .non (pgH h (ts.take p ++ [x] ++ ts.drop p) (rows.map (Rw.mv p 1 false)) (past ++ [nowD ts rows])) := by
  have e1 := is_word_ok (h := pgH h ts rows past) (b := 8) (n := 0) (le_line (by decide)) wx.2
  rw [show isWord (.str x) = true from wx.1] at e1
  have z1 : 1 ≤ sizeLine := le_line1 (by decide)
  have z2 : (ts.take p).length + 1 ≤ sizeLine := le_line1 (by simp; omega)
  have z3 : (ts.take p ++ [x]).length + (ts.drop p).length ≤ sizeLine := le_line1 (by simp; omega)
  have c1 : ¬ (ts.length : Int) = 60 := by omega
  have t1 {m : Bool} : opCut m (tx ts) none (some (p : Int)) (pgH h ts rows past) = .ok (tx (ts.take p)) (pgH h ts rows past) := tx_to
  have t2 {m : Bool} : opCut m (tx ts) (some (p : Int)) none (pgH h ts rows past) = .ok (tx (ts.drop p)) (pgH h ts rows past) := tx_from
  simp only [S_Page_put, b_Page_put, N_Page_put, runF_eq]
  have n1 := need_place_mca (h := h) (ts := ts) (rows := rows) (past := past) (es := [.var 1, .cst (.int 1)]) (env := [some (.loc h.length), some (.int (p : Int)), some (.str x), none]) (p := p) (m := 1) (by simp) (by omega)
  have n2 := moved_mca (h := h) (ts := ts) (rows := rows) (past := past) (es := [.var 1, .cst (.int 1), .cst (.bool false)]) (env := [some (.loc h.length), some (.int (p : Int)), some (.str x), some (tx ts)]) (place := p) (more := 1) (gone := false) hr (fun r _ a _ _ _ => by omega) (by simp)
  have n3 := go_on_mca (h := h) (ts := ts) (rows := rows) (past := past) (es := [.bin .Add false (.bin .Add false (.slc false (.var 3) .noe (.itv (.var 1))) (.tup [.var 2])) (.slc false (.var 3) (.itv (.var 1)) .noe), .mca "Page" "moved" S_Page_moved 4 [] (.var 0) [.var 1, .cst (.int 1), .cst (.bool false)]]) (env := [some (.loc h.length), some (.int (p : Int)), some (.str x), some (tx ts)]) (ts' := ts.take p ++ [x] ++ ts.drop p) (rows' := rows.map (Rw.mv p 1 false)) hpa (by
    simp [t1, t2, z1, z2, z3, n2, -List.length_append, -List.append_assoc, -List.length_take, -List.length_drop])
  simp [n1, e1, pg_now, nowD_unp, c_MOST_WORDS, c1, -List.append_assoc]
  simp [n3]
  rfl
theorem tx_from1 {m : Bool} {p : Nat} {h : LH} {ts : List Str} : opCut m (tx ts) (some ((p : Int) + 1)) none h = .ok (tx (ts.drop (p + 1))) h := tx_from (k := p + 1)
/-- a word left out -/
theorem pout_ok {p : Nat} (hp : p < ts.length) (hl : ts.length ≤ 60) (hr : rows.length ≤ 1000) (hpa : past.length ≤ 1000) :
    S_Page_out [.loc h.length, .int (p : Int)] (pgH h ts rows past) = .ok (.str ts[p]) (pgH h (ts.take p ++ ts.drop (p + 1)) (rows.map (Rw.mv p (-1) true)) (past ++ [nowD ts rows])) := by
  have z3 : (ts.take p).length + (ts.drop (p + 1)).length ≤ sizeLine := le_line1 (by simp; omega)
  have t1 {m : Bool} : opCut m (tx ts) none (some (p : Int)) (pgH h ts rows past) = .ok (tx (ts.take p)) (pgH h ts rows past) := tx_to
  have t2 {m : Bool} := tx_from1 (m := m) (p := p) (ts := ts) (h := pgH h ts rows past)
  simp only [S_Page_out, b_Page_out, N_Page_out, runF_eq]
  have n1 := need_place_mca (h := h) (ts := ts) (rows := rows) (past := past) (es := [.var 1, .cst (.int 0)]) (env := [some (.loc h.length), some (.int (p : Int)), none]) (p := p) (m := 0) (by simp) (by omega)
  have n2 := moved_mca (h := h) (ts := ts) (rows := rows) (past := past) (es := [.var 1, .neg (.cst (.int 1)), .cst (.bool true)]) (env := [some (.loc h.length), some (.int (p : Int)), some (tx ts)]) (place := p) (more := -1) (gone := true) hr (fun r _ a _ c1 c2 => by rcases c2 with c2 | c2 <;> first | omega | cases c2) (by simp)
  have n3 := go_on_mca (h := h) (ts := ts) (rows := rows) (past := past) (es := [.bin .Add false (.slc false (.var 2) .noe (.itv (.var 1))) (.slc false (.var 2) (.itv (.bin .Add false (.var 1) (.cst (.int 1)))) .noe), .mca "Page" "moved" S_Page_moved 4 [] (.var 0) [.var 1, .neg (.cst (.int 1)), .cst (.bool true)]]) (env := [some (.loc h.length), some (.int (p : Int)), some (tx ts)]) (ts' := ts.take p ++ ts.drop (p + 1)) (rows' := rows.map (Rw.mv p (-1) true)) hpa (by
    simp [t1, t2, z3, n2, -List.length_append, -List.append_assoc, -List.length_take, -List.length_drop])
  have ei {H : LH} := tx_idx (h := H) hp
  simp [n1, pg_now, nowD_unp, -List.append_assoc]
  simp [n3, ei]
  rfl
/-- a word exchanged -/
theorem pswap_ok {p : Nat} {x : Str} (hp : p < ts.length) (ht : ∀ x ∈ ts, WS x) (wx : WS x) (hx : x ≠ ts[p]) (hl : ts.length ≤ 60) (hr : rows.length ≤ 1000) (hpa : past.length ≤ 1000) :
    S_Page_swap [.loc h.length, .int (p : Int), .str x] (pgH h ts rows past) = .ok (.str ts[p]) (pgH h (ts.take p ++ [x] ++ ts.drop (p + 1)) (rows.map (Rw.mv p 0 true)) (past ++ [nowD ts rows])) := by
  have e1 := is_word_ok (h := pgH h ts rows past) (b := 8) (n := 0) (le_line (by decide)) wx.2
  rw [show isWord (.str x) = true from wx.1] at e1
  have z1 : 1 ≤ sizeLine := le_line1 (by decide)
  have z2 : (ts.take p).length + 1 ≤ sizeLine := le_line1 (by simp; omega)
  have z3 : (ts.take p ++ [x]).length + (ts.drop (p + 1)).length ≤ sizeLine := le_line1 (by simp; omega)
  have t1 {m : Bool} : opCut m (tx ts) none (some (p : Int)) (pgH h ts rows past) = .ok (tx (ts.take p)) (pgH h ts rows past) := tx_to
  have t2 {m : Bool} := tx_from1 (m := m) (p := p) (ts := ts) (h := pgH h ts rows past)
  have ei {H : LH} := tx_idx (h := H) hp
  have q4 := eq_str (h := pgH h ts rows past) wx.ok (ht _ (List.getElem_mem hp)).ok
  rw [decide_eq_false hx] at q4
  simp only [S_Page_swap, b_Page_swap, N_Page_swap, runF_eq]
  have n1 := need_place_mca (h := h) (ts := ts) (rows := rows) (past := past) (es := [.var 1, .cst (.int 0)]) (env := [some (.loc h.length), some (.int (p : Int)), some (.str x), none]) (p := p) (m := 0) (by simp) (by omega)
  have n2 := moved_mca (h := h) (ts := ts) (rows := rows) (past := past) (es := [.var 1, .cst (.int 0), .cst (.bool true)]) (env := [some (.loc h.length), some (.int (p : Int)), some (.str x), some (tx ts)]) (place := p) (more := 0) (gone := true) hr (fun r _ a _ _ _ => by omega) (by simp)
  have n3 := go_on_mca (h := h) (ts := ts) (rows := rows) (past := past) (es := [.bin .Add false (.bin .Add false (.slc false (.var 3) .noe (.itv (.var 1))) (.tup [.var 2])) (.slc false (.var 3) (.itv (.bin .Add false (.var 1) (.cst (.int 1)))) .noe), .mca "Page" "moved" S_Page_moved 4 [] (.var 0) [.var 1, .cst (.int 0), .cst (.bool true)]]) (env := [some (.loc h.length), some (.int (p : Int)), some (.str x), some (tx ts)]) (ts' := ts.take p ++ [x] ++ ts.drop (p + 1)) (rows' := rows.map (Rw.mv p 0 true)) hpa (by
    simp [t1, t2, z1, z2, z3, n2, -List.length_append, -List.append_assoc, -List.length_take, -List.length_drop])
  simp [n1, e1, ei, q4, pg_now, nowD_unp, -List.append_assoc]
  simp [n3, ei]
  rfl
/-- the last change is taken back -/
theorem undo_ok {ts0 : List Str} {rows0 : List Rw} (hf : ∀ s ∈ past, fit 100 5 s) (hf0 : fit 100 5 (nowD ts0 rows0)) (hpa : past.length ≤ 200) :
    S_Page_undo [.loc h.length] (pgH h ts rows (past ++ [nowD ts0 rows0])) = .ok .non (pgH h ts0 rows0 past) := by
  have f : fit 400 6 (.lst (past ++ [nowD ts0 rows0])) := ⟨by simp; omega, fun d hd => by
    rcases List.mem_append.mp hd with hd | hd
    · exact fit_mono (by decide) (Nat.le_refl _) (hf d hd)
    · rw [List.mem_singleton.mp hd]; exact fit_mono (by decide) (Nat.le_refl _) hf0⟩
  have e1 := eq_nil_loc (h := pgH h ts rows (past ++ [nowD ts0 rows0])) pg_past (by decide) f
  rw [show (past ++ [nowD ts0 rows0]).isEmpty = false by simp] at e1
  have e2 := pg_sat (h := h) (ts := ts) (ts' := ts0) (rows := rows) (rows' := rows0) (past := past) (env := [some (.loc h.length)])
  have l1 : (asL (pgH h ts rows (past ++ [nowD ts0 rows0])) (.loc (h.length + 1))).isSome = true := by rw [asL_loc pg_past]; rfl
  have z0 : 0 ≤ sizeLine := le_line1 (by decide)
  simp only [S_Page_undo, b_Page_undo, N_Page_undo, runF_eq]
  simp [-mt_pop, pg_pastA, e1, l1, pg_pop, e2, z0]
end
end Ev
end
noncomputable section
namespace Ev
open PySem L2
theorem in_strsL {h : LH} {x : Str} {ys : List Str} (hx : PyData.strOk x = true) (hy : ∀ y ∈ ys, PyData.strOk y = true) : inD h (.str x) (.lst (ys.map D.str)) = some (decide (x ∈ ys)) := by
  have := in_strs (h := h) hx hy
  simpa only [inD, inS, tx, asD, asS, asL] using this
theorem max_sub {p x : Nat} : (if ((p : Int) - (x : Int)) > 0 then ((p : Int) - (x : Int)) else 0) = ((p - x : Nat) : Int) := by split <;> omega
section
variable {h : LH} {ts : List Str} {rows : List Rw} {past : List D}
/-- a note is made -/
theorem padd_ok {nm : Str} {p x y : Nat} (hp : p < ts.length) (wn : WS nm) (hn : ∀ r ∈ rows, r.name ≠ nm) (q : Rws rows) (hx : x ≤ 2) (hy : y ≤ 2) (hl : ts.length ≤ 60) (hpa : past.length ≤ 1000) :
    S_Page_add [.loc h.length, .str nm, .int (p : Int), .int (x : Int), .int (y : Int)] (pgH h ts rows past) = .ok (nt ((ts.drop (p - x)).take (p - (p - x))) ts[p] ((ts.drop (p + 1)).take y)) (pgH h ts (rows ++ [⟨nm, nt ((ts.drop (p - x)).take (p - (p - x))) ts[p] ((ts.drop (p + 1)).take y), some p⟩]) (past ++ [nowD ts rows])) := by
  have e1 := is_word_ok (h := pgH h ts rows past) (b := 8) (n := 0) (le_line (by decide)) wn.2
  rw [show isWord (.str nm) = true from wn.1] at e1
  have z0 : 0 ≤ sizeLine := le_line1 (by decide)
  have z1 : 1 ≤ sizeLine := le_line1 (by decide)
  have z3 : 3 ≤ sizeLine := le_line1 (by decide)
  have zr : rows.length + 1 ≤ sizeLine := le_line1 (by have := q.len; omega)
  have el := lcp_map (own := [("row", 8)]) (t := .nm 8) (elt := .idx (.var 8) (.cst (.int 0))) (s := []) (xs := rows.map Rw.d) (env := [some (.loc h.length), some (.str nm), some (.int (p : Int)), some (.int (x : Int)), some (.int (y : Int)), some (tx ts), some (.tup (rows.map Rw.d)), none, none]) (h := pgH h ts rows past) (fun d => match d with | .tup (.str x :: _) => .str x | _ => .non) srcOk_nil (le_line1 (by have := q.len; simp; omega)) (by
    intro d hd
    obtain ⟨r, hr, rfl⟩ := List.mem_map.mp hd
    exact ⟨_, rfl, by simp [Rw.d]⟩)
  have em : ((rows.map Rw.d).map fun d => match d with | .tup (.str x :: _) => D.str x | _ => .non) = (rows.map Rw.name).map D.str := by
    simp only [List.map_map]
    exact List.map_congr_left fun r _ => rfl
  rw [em] at el
  have ei := in_strsL (h := pgH h ts rows past) (x := nm) (ys := rows.map Rw.name) wn.ok (fun y hy => by obtain ⟨r, hr, rfl⟩ := List.mem_map.mp hy; exact (q.ok r hr).nm.1)
  have hmem : ¬ nm ∈ rows.map Rw.name := fun hm => by
    obtain ⟨r, hr, e⟩ := List.mem_map.mp hm
    exact hn r hr e
  rw [decide_eq_false hmem] at ei
  generalize (rows.map Rw.name).map D.str = names at el ei
  have f1 := is_from_ok (b := 0) (n := 0) (d := .int (x : Int)) (lo := 0) (hi := 2) (h := pgH h ts rows past) (by simp)
  have f2 := is_from_ok (b := 0) (n := 0) (d := .int (y : Int)) (lo := 0) (hi := 2) (h := pgH h ts rows past) (by simp)
  rw [isFrom_nat hx] at f1
  rw [isFrom_nat hy] at f2
  have n1 := need_place_mca (h := h) (ts := ts) (rows := rows) (past := past) (es := [.var 2, .cst (.int 0)]) (env := [some (.loc h.length), some (.str nm), some (.int (p : Int)), some (.int (x : Int)), some (.int (y : Int)), some (tx ts), some (.tup (rows.map Rw.d)), none, none]) (p := p) (m := 0) (by simp) (by omega)
  have t1 {m : Bool} {H : LH} : opCut m (tx ts) (some ((p - x : Nat) : Int)) (some (p : Int)) H = .ok (tx ((ts.drop (p - x)).take (p - (p - x)))) H := by
    have := tx_mid (m := m) (xs := ts) (h := H) (s := p - x) (n := p - (p - x))
    rw [show p - x + (p - (p - x)) = p by omega] at this
    exact this
  have t2 {m : Bool} {H : LH} : opCut m (tx ts) (some ((p : Int) + 1)) (some ((p : Int) + 1 + (y : Int))) H = .ok (tx ((ts.drop (p + 1)).take y)) H := by
    have := tx_mid (m := m) (xs := ts) (h := H) (s := p + 1) (n := y)
    rw [show ((p + 1 : Nat) : Int) = (p : Int) + 1 by omega, show ((p + 1 + y : Nat) : Int) = (p : Int) + 1 + (y : Int) by omega] at this
    exact this
  have ex {H : LH} := tx_idx (h := H) hp
  generalize hN : nt ((ts.drop (p - x)).take (p - (p - x))) ts[p] ((ts.drop (p + 1)).take y) = N
  have n3 := go_on_mca (h := h) (ts := ts) (rows := rows) (past := past) (es := [.var 5, .bin .Add false (.var 6) (.tup [.tup [.var 1, .var 7, .var 2]])]) (env := [some (.loc h.length), some (.str nm), some (.int (p : Int)), some (.int (x : Int)), some (.int (y : Int)), some (tx ts), some (.tup (rows.map Rw.d)), some N, none]) (ts' := ts) (rows' := rows ++ [⟨nm, N, some p⟩]) hpa (by
    simp [z1, z3, zr, Rw.d, odD])
  have n4 (b : D → LH → Res D) : (kMca "Page" "go_on" S_Page_go_on 3 [] [.var 5, .bin .Add false (.var 6) (.tup [.tup [.var 1, .var 7, .var 2]])] [some (.loc h.length), some (.str nm), some (.int (p : Int)), some (.int (x : Int)), some (.int (y : Int)), some (tx ts), some (.tup (rows.map Rw.d)), some N, none] (.loc h.length) (pgH h ts rows past)).bind b = b .non (pgH h ts (rows ++ [⟨nm, N, some p⟩]) (past ++ [nowD ts rows])) := by rw [n3]; rfl
  simp only [S_Page_add, b_Page_add, N_Page_add, runF_eq]
  have hN2 : D.tup [tx ((ts.drop (p - x)).take (p - (p - x))), .str ts[p], tx ((ts.drop (p + 1)).take y)] = N := hN
  have mx {m : Bool} {H : LH} : biF .max2 m [.int 0, .int ((p : Int) - (x : Int))] H = .ok (.int ((p - x : Nat) : Int)) H := by rw [bi_max, max_sub]
  simp [pg_now, nowD_unp, e1, el, ei, n1, c_MOST_AROUND, f1, f2, z0, z1, z3, -bi_max, mx, t1, t2, ex, hN2, n3]
  try rfl
end
end Ev
end
noncomputable section
namespace Ev
open PySem L2
/-- at every put there is room -/
def midGo (n : Nat) : List Stp → Nat → Nat → Prop
  | [], _, _ => True
  | .keep :: r, k, m => midGo n r (k + 1) (m + 1)
  | .out :: r, k, m => midGo n r (k + 1) m
  | .put _ :: r, k, m => m + (n - k) < 60 ∧ midGo n r k (m + 1)
  | .swap _ :: r, k, m => midGo n r (k + 1) (m + 1)
theorem midGo_app {ts : List Str} {n : Nat} {b : List Stp} : ∀ {a : List Stp} {k m k' m' : Nat}, stGo ts a k m = some (k', m') → midGo n a k m → midGo n b k' m' → midGo n (a ++ b) k m
  | [], k, m, k', m', e, _, q => by simp only [stGo, Option.some.injEq, Prod.mk.injEq] at e; obtain ⟨rfl, rfl⟩ := e; exact q
  | s :: a, k, m, k', m', e, p, q => by
    cases s <;> simp only [stGo] at e <;> split at e <;> try (cases e; done)
    all_goals simp only [List.cons_append, midGo] at p ⊢
    · exact midGo_app e p q
    · exact midGo_app e p q
    · exact ⟨p.1, midGo_app e p.2 q⟩
    · exact midGo_app e p q
theorem ws_qa {x : Str} (h : x = "q" ∨ x = "a" ∨ x = "cat") : WS x := by
  have q : ([D.str "q", .str "a", .str "cat"].all fun w => isWord w && fitB 8 0 w) = true := by decide +kernel
  have := List.all_eq_true.mp q (.str x) (by rcases h with rfl | rfl | rfl <;> simp)
  exact Wd.of this
/-- a further word, chosen -/
theorem other_ok {n : Nat} {ts : List Str} {h : LH} {a b : Str} (s : SrcAt n h) (ht : ∀ x ∈ ts, WS x) (hl : ts.length ≤ 1000) (ha : WS a) (hb : WS b) : ∃ x h', S__law_choice [.loc n, .lst (ts.map D.str ++ [.str a, .str b])] h = .ok (.str x) h' ∧ Dr n h h' ∧ WS x := by
  obtain ⟨d, hd, h', e, r⟩ := choice_ok (ds := ts.map D.str ++ [.str a, .str b]) s (by simp) (le_line1 (by simp; omega))
  simp only [List.mem_append, List.mem_map, List.mem_cons, List.not_mem_nil, or_false] at hd
  rcases hd with ⟨x, hx, rfl⟩ | rfl | rfl
  · exact ⟨x, h', e, r, ht x hx⟩
  · exact ⟨a, h', e, r, ha⟩
  · exact ⟨b, h', e, r, hb⟩
theorem law_script_ok {n rate : Nat} {ts : List Str} {h : LH} (s : SrcAt n h) (ht : ∀ x ∈ ts, WS x) (hl : ts.length ≤ 60) (hr : 0 < rate) (hr2 : rate ≤ 1000) : ∃ ss h', S__law_script [.loc n, tx ts, .int rate] h = .ok (.tup (ss.map Stp.d)) h' ∧ Dr n h h' ∧ Scr ts ss ∧ midGo ts.length ss 0 0 := by
  have key := RSat.fin (Q := fun v h' => ∃ ss, v = .tup (ss.map Stp.d) ∧ Dr n h h' ∧ Scr ts ss ∧ midGo ts.length ss 0 0) (r := evSs 1000000000 (b__law_script S__law_draw S__law_choice) [some (.loc n), some (tx ts), some (.int rate), none, none, none, none, none, none] h) (by
    have b1 : -4611686018427387904 ≤ (ts.length : Int) + 1 ∧ (ts.length : Int) + 1 < 4611686018427387904 := by omega
    have b2 : ((ts.length : Int) + 1).toNat = ts.length + 1 := by omega
    simp only [b__law_script]
    simp [b1, b2, le_line1 (show 0 ≤ 100000 by decide), le_line1 (show 2 ≤ 100000 by decide)]
    refine RSat.seq (N' := fun env h' => ∃ ss m a5 a6 a7 a8, env = [some (.loc n), some (tx ts), some (.int rate), some (.tup (ss.map Stp.d)), m, a5, a6, a7, a8] ∧ Dr n h h' ∧ Scr ts ss ∧ midGo ts.length ss 0 0) (forLoop_sat (I := fun rest env h' => ∃ (at_ many puts : Nat) (ss : List Stp) (a5 a6 a7 a8 : Option D), env = [some (.loc n), some (tx ts), some (.int rate), some (.tup (ss.map Stp.d)), some (.int many), a5, a6, a7, a8] ∧ Dr n h h' ∧ rest = (List.range' at_ (ts.length + 1 - at_)).map (fun i => D.int (i : Nat)) ∧ at_ ≤ ts.length + 1 ∧ stGo ts ss 0 0 = some (min at_ ts.length, many) ∧ many + (ts.length - at_) ≤ 60 ∧ ss.length = puts + min at_ ts.length ∧ puts ≤ many ∧ (∀ s ∈ ss, fit 8 1 s.d) ∧ midGo ts.length ss 0 0) (fun x rest env h2 hi => ?_) (fun env h2 hi => ?_) _ _ _ ⟨0, 0, 0, [], _, _, _, _, rfl, Dr.refl s, by rw [List.range_eq_range']; rfl, Nat.zero_le _, by simp [stGo], by omega, by simp, Nat.le_refl _, by simp, trivial⟩) (fun env h2 hi => ?_)
    · obtain ⟨at_, many, puts, ss, a5, a6, a7, a8, rfl, d2, hrest, hat, hgo, hm, hpl, hpm, hwd, hmid⟩ := hi
      have hlt : at_ < ts.length + 1 := by
        rcases Nat.lt_or_ge at_ (ts.length + 1) with z | z
        · exact z
        · rw [show ts.length + 1 - at_ = 0 by omega] at hrest; simp at hrest
      rw [show ts.length + 1 - at_ = (ts.length - at_) + 1 by omega, List.range'_succ] at hrest
      simp only [List.map_cons, List.cons.injEq] at hrest
      obtain ⟨rfl, hrest⟩ := hrest
      refine ⟨srcOk_nil, _, rfl, ?_⟩
      have s2 := d2.src s
      have hmin : min at_ ts.length = at_ := by omega
      rw [hmin] at hgo hpl
      have hss : ss.length ≤ 1000 := by omega
      obtain ⟨r1, h3, e1, d3, r10, r11⟩ := draw_ok (m := rate) s2 (by omega) (by omega)
      have s3 := d3.src s2
      rw [ss_cons]
      -- behind the put, if there is one
      refine LSat.of (RSat.seq (N' := fun env h' => ∃ (many puts : Nat) (ss : List Stp), env = [some (.loc n), some (tx ts), some (.int rate), some (.tup (ss.map Stp.d)), some (.int many), some (.int at_), a6, a7, a8] ∧ Dr n h h' ∧ stGo ts ss 0 0 = some (at_, many) ∧ many + (ts.length - at_) ≤ 60 ∧ ss.length = puts + at_ ∧ puts ≤ many ∧ (∀ s ∈ ss, fit 8 1 s.d) ∧ midGo ts.length ss 0 0) ?_ (fun env h4 hi => ?_))
      · by_cases hz : r1 = 0
        · by_cases hlt2 : (many : Int) + ts.length - at_ < 60
          · obtain ⟨x, h4, e4, d4, wx⟩ := other_ok s3 ht (by omega) (ws_qa (.inl rfl)) (ws_qa (.inr (.inl rfl)))
            have z1 : ss.length + 1 ≤ sizeLine := le_line1 (by omega)
            have z2 : ts.length + 2 ≤ sizeLine := le_line1 (by omega)
            simp [e1, hz, hlt2, e4, z1, z2, RSat, le_line1 (show 1 ≤ 100000 by decide), le_line1 (show 2 ≤ 100000 by decide)]
            refine ⟨many + 1, puts + 1, ss ++ [.put x], ⟨by simp [Stp.d], by simp⟩, d2.trans (d3.trans d4), ?_, by omega, by simp; omega, by omega, fun s hs => ?_, midGo_app hgo hmid (by simp [midGo] <;> omega)⟩
            · rw [stGo_app, hgo]
              simp [stGo, wx.1]
            · rcases List.mem_append.mp hs with hs | hs
              · exact hwd s hs
              · rw [List.mem_singleton.mp hs]; exact (stp_fit wx).1
          · simp [e1, hz, hlt2, RSat]
            exact ⟨many, puts, ss, ⟨rfl, rfl⟩, d2.trans d3, hgo, hm, hpl, hpm, hwd, hmid⟩
        · simp [e1, hz, RSat]
          exact ⟨many, puts, ss, ⟨rfl, rfl⟩, d2.trans d3, hgo, hm, hpl, hpm, hwd, hmid⟩
      · obtain ⟨many, puts, ss, rfl, d4, hgo, hm, hpl, hpm, hwd, hmid⟩ := hi
        by_cases hlt3 : at_ < ts.length
        · have hlt4 : (at_ : Int) < ts.length := by omega
          obtain ⟨x, h5, e5, d5, wx⟩ := other_ok (d4.src s) ht (by omega) (ws_qa (.inl rfl)) (ws_qa (.inr (.inr rfl)))
          obtain ⟨w, h6, e6, d6, w0, w1⟩ := draw_ok (m := 2 * (rate : Int)) ((d4.trans d5).src s) (by omega) (by omega)
          have z1 : ss.length + 1 ≤ sizeLine := le_line1 (by omega)
          have z2 : ts.length + 2 ≤ sizeLine := le_line1 (by omega)
          have ei := tx_idx (h := h6) hlt3
          have q4 := eq_str (h := h6) wx.ok (ht _ (List.getElem_mem hlt3)).ok
          have dd := d4.trans (d5.trans d6)
          by_cases k0 : w = 0
          · simp [hlt4, e5, e6, k0, z1, z2, RSat, le_line1 (show 1 ≤ 100000 by decide), le_line1 (show 2 ≤ 100000 by decide)]
            refine ⟨at_ + 1, many, puts, ss ++ [.out], ⟨by simp [Stp.d], rfl⟩, dd, ?_, by omega, ?_, by omega, by simp; omega, by omega, fun s hs => ?_, midGo_app hgo hmid (by simp [midGo] <;> omega)⟩
            · rw [hrest, show ts.length + 1 - (at_ + 1) = ts.length - at_ by omega]
            · rw [stGo_app, hgo]
              simp [stGo, hlt3]; omega
            · rcases List.mem_append.mp hs with hs | hs
              · exact hwd s hs
              · rw [List.mem_singleton.mp hs]; exact stp_fit0.2
          · by_cases k1 : w = 1 ∧ x ≠ ts[at_]
            · rw [decide_eq_false k1.2] at q4
              simp [hlt4, e5, e6, k1.1, ei, q4, z1, z2, RSat, le_line1 (show 1 ≤ 100000 by decide), le_line1 (show 2 ≤ 100000 by decide)]
              refine ⟨at_ + 1, many + 1, puts, ss ++ [.swap x], ⟨by simp [Stp.d], by simp⟩, dd, ?_, by omega, ?_, by omega, by simp; omega, by omega, fun s hs => ?_, midGo_app hgo hmid (by simp [midGo] <;> omega)⟩
              · rw [hrest, show ts.length + 1 - (at_ + 1) = ts.length - at_ by omega]
              · rw [stGo_app, hgo]
                have k2 : ¬ ts[at_] = x := fun z => k1.2 z.symm
                simp [stGo, hlt3, wx.1, k2]; omega
              · rcases List.mem_append.mp hs with hs | hs
                · exact hwd s hs
                · rw [List.mem_singleton.mp hs]; exact (stp_fit wx).2
            · have goal : ∃ (at2 many2 puts2 : Nat) (ss2 : List Stp) , (Stp.d .keep = .tup [.str "keep"]) ∧ ss2 = ss ++ [.keep] ∧ at2 = at_ + 1 ∧ many2 = many + 1 ∧ puts2 = puts ∧ rest = (List.range' at2 (ts.length + 1 - at2)).map (fun i => D.int (i : Nat)) ∧ at2 ≤ ts.length + 1 ∧ stGo ts ss2 0 0 = some (min at2 ts.length, many2) ∧ many2 + (ts.length - at2) ≤ 60 ∧ ss2.length = puts2 + min at2 ts.length ∧ puts2 ≤ many2 ∧ (∀ s ∈ ss2, fit 8 1 s.d) ∧ midGo ts.length ss2 0 0 := by
                refine ⟨at_ + 1, many + 1, puts, ss ++ [.keep], rfl, rfl, rfl, rfl, rfl, ?_, by omega, ?_, by omega, by simp; omega, by omega, fun s hs => ?_, midGo_app hgo hmid (by simp [midGo] <;> omega)⟩
                · rw [hrest, show ts.length + 1 - (at_ + 1) = ts.length - at_ by omega]
                · rw [stGo_app, hgo]
                  simp [stGo, hlt3]; omega
                · rcases List.mem_append.mp hs with hs | hs
                  · exact hwd s hs
                  · rw [List.mem_singleton.mp hs]; exact stp_fit0.1
              obtain ⟨at2, many2, puts2, ss2, _, e2, e3, e4, e5', q⟩ := goal
              subst e2 e3 e4 e5'
              by_cases k2 : w = 1
              · have k3 : x = ts[at_] := Classical.byContradiction fun z => k1 ⟨k2, z⟩
                rw [decide_eq_true k3] at q4
                simp [hlt4, e5, e6, k2, ei, q4, z1, z2, RSat, le_line1 (show 1 ≤ 100000 by decide), le_line1 (show 2 ≤ 100000 by decide)]
                exact ⟨at_ + 1, many + 1, puts2, ss ++ [.keep], ⟨by simp [Stp.d], by simp⟩, dd, q⟩
              · simp [hlt4, e5, e6, k0, k2, z1, z2, RSat, le_line1 (show 1 ≤ 100000 by decide), le_line1 (show 2 ≤ 100000 by decide)]
                exact ⟨at_ + 1, many + 1, puts2, ss ++ [.keep], ⟨by simp [Stp.d], by simp⟩, dd, q⟩
        · have hlt4 : ¬ (at_ : Int) < ts.length := by omega
          simp [hlt4, RSat]
          refine ⟨at_ + 1, many, puts, ss, ⟨rfl, rfl⟩, d4, ?_, by omega, ?_, by omega, by omega, by omega, hwd, hmid⟩
          · rw [hrest, show ts.length + 1 - (at_ + 1) = ts.length - at_ by omega]
          · rw [hgo]; simp; omega
    · obtain ⟨at_, many, puts, ss, a5, a6, a7, a8, rfl, d2, hrest, hat, hgo, hm, hpl, hpm, hwd, hmid⟩ := hi
      have hlt : at_ = ts.length + 1 := by
        rcases Nat.lt_or_ge at_ (ts.length + 1) with z | z
        · have := congrArg List.length hrest
          simp at this
          omega
        · omega
      subst hlt
      rw [Nat.min_eq_right (Nat.le_succ _)] at hgo hpl
      exact ⟨srcOk_nil, ss, _, _, _, _, _, rfl, d2, ⟨⟨_, hgo, by omega⟩, by omega, hwd⟩, hmid⟩
    · obtain ⟨ss, m, a5, a6, a7, a8, rfl, d2, q⟩ := hi
      simp [RSat]
      exact ⟨ss, rfl, d2, q⟩)
  obtain ⟨v, h', e, ss, rfl, r⟩ := key
  exact ⟨ss, h', by simp only [S__law_script, runF_eq]; exact e, r⟩
end Ev
end
noncomputable section
namespace Ev
open PySem L2
theorem LSat_nx {N B : Env → LH → Prop} {R : D → LH → Prop} {r : RS} {e : Env} {h : LH} (q : r = .nx e h) (n : N e h) : LSat N B R r := by rw [q]; exact n
theorem RSat_rt {N : Env → LH → Prop} {R : D → LH → Prop} {r : RS} {d : D} {h : LH} (q : r = .rt d h) (n : R d h) : RSat N R r := by rw [q]; exact n
def nowS (s : List Str × List Rw) : D := nowD s.1 s.2
def cnt : List Stp → Nat
  | [] => 0
  | .keep :: r => cnt r
  | _ :: r => cnt r + 1
theorem cnt_app : ∀ a b : List Stp, cnt (a ++ b) = cnt a + cnt b
  | [], b => by simp [cnt]
  | s :: a, b => by cases s <;> simp [cnt, cnt_app a b] <;> omega
theorem cnt_price : ∀ ss : List Stp, priceSum 1 1 1 ss = (cnt ss : Nat)
  | [] => rfl
  | s :: a => by
    have ih := cnt_price a
    unfold priceSum at ih ⊢
    cases s <;> simp [cnt, stPrice, ih] <;> omega
theorem cnt_len : ∀ ss : List Stp, cnt ss ≤ ss.length
  | [] => Nat.le_refl _
  | s :: a => by have := cnt_len a; cases s <;> simp [cnt] <;> omega
theorem pos_lits {h : LH} : eqD h (.str "keep") (.str "put") = some false ∧ eqD h (.str "keep") (.str "out") = some false ∧ eqD h (.str "keep") (.str "swap") = some false ∧ eqD h (.str "put") (.str "put") = some true ∧ eqD h (.str "out") (.str "put") = some false ∧ eqD h (.str "out") (.str "out") = some true ∧ eqD h (.str "swap") (.str "put") = some false ∧ eqD h (.str "swap") (.str "out") = some false ∧ eqD h (.str "swap") (.str "swap") = some true ∧ eqD h (.str "put") (.str "keep") = some false ∧ eqD h (.str "out") (.str "keep") = some false ∧ eqD h (.str "swap") (.str "keep") = some false ∧ eqD h (.str "keep") (.str "keep") = some true ∧ eqD h (.str "put") (.str "out") = some false := by
  have l := script_lits
  refine ⟨?_, ?_, ?_, ?_, ?_, ?_, ?_, ?_, ?_, ?_, ?_, ?_, ?_, ?_⟩ <;> (rw [eq_str (l _ (by simp)) (l _ (by simp))]; decide)
structure DnI (h : LH) (ts : List Str) (ss : List Stp) (nm : Str) (N : D) (p : Nat) (past0 : List D) (done todo : List Stp) (k : Nat) (f : List Str) (a : Option Nat) (st : List (List Str × List Rw)) : Prop where
  e : ss = done ++ todo
  bh : bhGo ts todo k f = behind ts ss
  pl : (pls ss 0).getD p none = if k ≤ p then (pls todo f.length).getD (p - k) none else a
  hi : k ≤ p → a = some (f.length + (p - k))
  lo : p < k → ∀ j, a = some j → j < f.length
  ws : ∀ x ∈ f, WS x
  kl : k ≤ ts.length
  mid : midGo ts.length todo k f.length
  go : ∃ m, stGo ts todo k f.length = some (ts.length, m)
  cn : st.length = cnt done
  hd : (st ++ [(f ++ ts.drop k, [(⟨nm, N, a⟩ : Rw)])]).head? = some (ts, [⟨nm, N, some p⟩])
  ft : ∀ s ∈ st, fit 100 5 (nowS s)
  ln : f.length + (ts.length - k) ≤ 60
def DnQ (h : LH) (ts : List Str) (ss : List Stp) (nm : Str) (N : D) (p : Nat) (past0 : List D) (v : D) (h' : LH) : Prop := ∃ st, v = .int (cnt ss : Nat) ∧ h' = pgH h (behind ts ss) [⟨nm, N, (pls ss 0).getD p none⟩] (past0 ++ st.map nowS) ∧ st.length = cnt ss ∧ (∀ s ∈ st, fit 100 5 (nowS s)) ∧
      (st ++ [(behind ts ss, [(⟨nm, N, (pls ss 0).getD p none⟩ : Rw)])]).head? = some (ts, [⟨nm, N, some p⟩])
theorem law_done_ok {h : LH} {ts : List Str} {ss : List Stp} {nm : Str} {N : D} {p : Nat} {past0 : List D} (ht : ∀ x ∈ ts, WS x) (hl : ts.length ≤ 60) (sc : Scr ts ss) (md : midGo ts.length ss 0 0) (hp : p < ts.length) (rk : ∀ a, RwOk ⟨nm, N, a⟩) (hp0 : past0.length ≤ 10) :
    ∃ st, S__law_done [.loc h.length, .tup (ss.map Stp.d)] (pgH h ts [⟨nm, N, some p⟩] past0) = .ok (.int (cnt ss : Nat)) (pgH h (behind ts ss) [⟨nm, N, (pls ss 0).getD p none⟩] (past0 ++ st.map nowS)) ∧ st.length = cnt ss ∧ (∀ s ∈ st, fit 100 5 (nowS s)) ∧
      (st ++ [(behind ts ss, [(⟨nm, N, (pls ss 0).getD p none⟩ : Rw)])]).head? = some (ts, [⟨nm, N, some p⟩]) := by
  have key := RSat.fin (Q := DnQ h ts ss nm N p past0) (r := evSs 1000000000 (b__law_done S_Page_put S_Page_out S_Page_swap) [some (.loc h.length), some (.tup (ss.map Stp.d)), none, none, none] (pgH h ts [⟨nm, N, some p⟩] past0)) (by
    have z2 : 2 ≤ sizeLine := le_line1 (by decide)
    simp only [b__law_done]
    simp [z2]
    refine RSat.seq (N' := fun env h' => ∃ st a b, env = [some (.loc h.length), some (.tup (ss.map Stp.d)), a, some (.int (cnt ss : Nat)), b] ∧ h' = pgH h (behind ts ss) [⟨nm, N, (pls ss 0).getD p none⟩] (past0 ++ st.map nowS) ∧ st.length = cnt ss ∧ (∀ s ∈ st, fit 100 5 (nowS s)) ∧
      (st ++ [(behind ts ss, [(⟨nm, N, (pls ss 0).getD p none⟩ : Rw)])]).head? = some (ts, [⟨nm, N, some p⟩])) (forLoop_sat (I := fun rest env h' => ∃ done todo k f a st b, rest = todo.map Stp.d ∧ env = [some (.loc h.length), some (.tup (ss.map Stp.d)), some (.int (f.length : Nat)), some (.int (st.length : Nat)), b] ∧ h' = pgH h (f ++ ts.drop k) [⟨nm, N, a⟩] (past0 ++ st.map nowS) ∧ DnI h ts ss nm N p past0 done todo k f a st) (fun x rest env h2 hi => ?_) (fun env h2 hi => ?_) _ _ _ ⟨[], ss, 0, [], some p, [], none, rfl, rfl, by simp, ?_⟩) (fun env h2 hi => ?_)
    · obtain ⟨done, todo, k, f, a, st, b, hr, rfl, rfl, I⟩ := hi
      refine ⟨srcOk_nil, ?_⟩
      cases todo with
      | nil => simp at hr
      | cons s todo =>
        simp only [List.map_cons, List.cons.injEq] at hr
        obtain ⟨rfl, rfl⟩ := hr
        refine ⟨_, rfl, ?_⟩
        obtain ⟨m, hgo⟩ := I.go
        have hwd := sc.wd s (by rw [I.e]; simp)
        have hst : st.length ≤ 120 := by
          have h1 := cnt_len done
          have h2 := congrArg List.length I.e
          have h3 := sc.len
          simp at h2
          have := I.cn
          omega
        have hpa : (past0 ++ st.map nowS).length ≤ 1000 := by simp; omega
        have hcur : (f ++ ts.drop k).length ≤ 60 := by simp; exact I.ln
        have hcws : ∀ x ∈ f ++ ts.drop k, WS x := fun x hx => (List.mem_append.mp hx).elim (I.ws x) fun z => ht x (List.mem_of_mem_drop z)
        have hft : ∀ s ∈ st ++ [(f ++ ts.drop k, [(⟨nm, N, a⟩ : Rw)])], fit 100 5 (nowS s) := fun s hs => by
          rcases List.mem_append.mp hs with hs | hs
          · exact I.ft s hs
          · rw [List.mem_singleton.mp hs]
            exact now_fits hcur hcws ⟨by simp, fun r hr => by rw [List.mem_singleton.mp hr]; exact rk _⟩
        have e2 : past0 ++ st.map nowS ++ [nowD (f ++ ts.drop k) [⟨nm, N, a⟩]] = past0 ++ (st ++ [(f ++ ts.drop k, [(⟨nm, N, a⟩ : Rw)])]).map nowS := by simp [nowS]
        cases s with
        | keep =>
          simp only [stGo] at hgo
          split at hgo <;> try (cases hgo; done)
          rename_i hk
          have hd : f ++ ts.drop k = (f ++ [ts[k]]) ++ ts.drop (k + 1) := by rw [List.drop_eq_getElem_cons hk]; simp
          refine LSat_nx (e := [some (.loc h.length), some (.tup (ss.map Stp.d)), some (.int ((f ++ [ts[k]]).length : Nat)), some (.int (st.length : Nat)), some Stp.keep.d]) (h := pgH h (f ++ ts.drop k) [⟨nm, N, a⟩] (past0 ++ st.map nowS)) (by simp [Stp.d, pos_lits]) ?_
          refine ⟨done ++ [.keep], todo, k + 1, f ++ [ts[k]], a, st, _, rfl, rfl, by rw [← hd], ⟨by rw [I.e]; simp, ?_, ?_, ?_, ?_, ?_, hk, ?_, ⟨m, by simpa using hgo⟩, ?_, by rw [← hd]; exact I.hd, I.ft, by simp; have := I.ln; omega⟩⟩
          · rw [← I.bh]; simp only [bhGo]; rw [List.getD_eq_getElem?_getD, List.getElem?_eq_getElem hk]; rfl
          · rw [I.pl]
            by_cases c : k = p
            · subst c
              have := I.hi (Nat.le_refl _)
              simp [pls, this, show ¬ k + 1 ≤ k by omega]
            · by_cases c2 : k ≤ p
              · have c3 : k + 1 ≤ p := by omega
                simp only [c2, c3, if_true, pls]
                rw [show p - k = (p - (k + 1)) + 1 by omega]
                simp
              · have c3 : ¬ k + 1 ≤ p := by omega
                simp [c2, c3]
          · intro c
            rw [I.hi (by omega)]
            simp; omega
          · intro c j hj
            by_cases c2 : k = p
            · rw [I.hi (by omega)] at hj
              cases hj
              simp; omega
            · have := I.lo (by omega) j hj
              simp; omega
          · intro x hx
            rcases List.mem_append.mp hx with hx | hx
            · exact I.ws x hx
            · rw [List.mem_singleton.mp hx]; exact ht _ (List.getElem_mem hk)
          · have := I.mid
            simp only [midGo] at this
            simpa using this
          · rw [cnt_app, I.cn]; simp [cnt]
        | out =>
          simp only [stGo] at hgo
          split at hgo <;> try (cases hgo; done)
          rename_i hk
          have hlt : f.length < (f ++ ts.drop k).length := by simp; omega
          have e1 := pout_ok (h := h) (ts := f ++ ts.drop k) (rows := [⟨nm, N, a⟩]) (past := past0 ++ st.map nowS) hlt hcur (by simp) hpa
          have c1 : (f ++ ts.drop k).take f.length ++ (f ++ ts.drop k).drop (f.length + 1) = f ++ ts.drop (k + 1) := by
            rw [List.take_left', List.drop_append]
            · simp [List.drop_eq_nil_of_le]
            · rfl
          rw [c1, e2] at e1
          have e3 (b : D → LH → Res D) : (kMca "Page" "out" S_Page_out 2 [] [.var 2] [some (.loc h.length), some (.tup (ss.map Stp.d)), some (.int (f.length : Nat)), some (.int (st.length : Nat)), some (.tup [.str "out"])] (.loc h.length) (pgH h (f ++ ts.drop k) [⟨nm, N, a⟩] (past0 ++ st.map nowS))) = .ok (.str ((f ++ ts.drop k)[f.length])) (pgH h (f ++ ts.drop (k + 1)) [Rw.mv f.length (-1) true ⟨nm, N, a⟩] (past0 ++ (st ++ [(f ++ ts.drop k, [(⟨nm, N, a⟩ : Rw)])]).map nowS)) := by
            rw [pg_mca (by decide) (by decide)]
            simp only [es_cons, es_nil, b_ok, kEs_eq, kCons_eq, kMca2_eq]
            simp [e1]
          have e4 := e3 fun d h => .ok d h
          refine LSat_nx (e := [some (.loc h.length), some (.tup (ss.map Stp.d)), some (.int ((f).length : Nat)), some (.int ((st ++ [(f ++ ts.drop k, [(⟨nm, N, a⟩ : Rw)])]).length : Nat)), some Stp.out.d]) (h := pgH h (f ++ ts.drop (k + 1)) [Rw.mv f.length (-1) true ⟨nm, N, a⟩] (past0 ++ (st ++ [(f ++ ts.drop k, [(⟨nm, N, a⟩ : Rw)])]).map nowS)) (by simp [-List.map_append, -List.append_assoc, Stp.d, pos_lits, e4]) ?_
          refine ⟨done ++ [.out], todo, k + 1, f, mvAt f.length (-1) true a, st ++ [(f ++ ts.drop k, [⟨nm, N, a⟩])], _, rfl, rfl, rfl, ⟨by rw [I.e]; simp, ?_, ?_, ?_, ?_, I.ws, hk, ?_, ⟨m, hgo⟩, ?_, ?_, hft, by have := I.ln; omega⟩⟩
          · rw [← I.bh]; simp only [bhGo]
          · rw [I.pl]
            by_cases c : k = p
            · subst c
              have := I.hi (Nat.le_refl _)
              simp [pls, this, mvAt, show ¬ k + 1 ≤ k by omega]
            · by_cases c2 : k ≤ p
              · have c3 : k + 1 ≤ p := by omega
                simp only [c2, c3, if_true, pls]
                rw [show p - k = (p - (k + 1)) + 1 by omega]
                simp
              · have c3 : ¬ k + 1 ≤ p := by omega
                simp only [c2, c3, if_false]
                have lo := I.lo (by omega)
                cases a with
                | none => rfl
                | some j =>
                  have := lo j rfl
                  simp [mvAt, show ¬ j = f.length by omega, show ¬ f.length ≤ j by omega]
          · intro c
            rw [I.hi (by omega)]
            simp [mvAt, show ¬ p - k = 0 by omega]
            omega
          · intro c j hj
            by_cases c2 : k = p
            · subst c2
              rw [I.hi (by omega)] at hj
              simp [mvAt] at hj
            · have lo := I.lo (by omega)
              cases a with
              | none => cases hj
              | some j0 =>
                have := lo j0 rfl
                simp [mvAt, show ¬ j0 = f.length by omega, show ¬ f.length ≤ j0 by omega] at hj
                omega
          · have := I.mid
            simp only [midGo] at this
            exact this
          · rw [cnt_app]; simp [cnt, I.cn]
          · have := I.hd
            cases st <;> simpa using this
        | put x =>
          simp only [stGo] at hgo
          split at hgo <;> try (cases hgo; done)
          rename_i hw
          have wx : WS x := ⟨hw, by
            have := (wd_fits (ss := [Stp.put x]) (by simpa using hwd)) x (.inl (by simp))
            exact fit_str.mpr this⟩
          have hmid := I.mid
          simp only [midGo] at hmid
          have e1 := pput_ok (h := h) (ts := f ++ ts.drop k) (rows := [⟨nm, N, a⟩]) (past := past0 ++ st.map nowS) (p := f.length) (by simp) wx (by simp; omega) (by simp) hpa
          have c1 : (f ++ ts.drop k).take f.length ++ [x] ++ (f ++ ts.drop k).drop f.length = (f ++ [x]) ++ ts.drop k := by
            rw [List.take_left' rfl, List.drop_left' rfl]
          rw [c1, e2] at e1
          have e4 : (kMca "Page" "put" S_Page_put 3 [] [.var 2, .idx (.var 4) (.cst (.int 1))] [some (.loc h.length), some (.tup (ss.map Stp.d)), some (.int (f.length : Nat)), some (.int (st.length : Nat)), some (.tup [.str "put", .str x])] (.loc h.length) (pgH h (f ++ ts.drop k) [⟨nm, N, a⟩] (past0 ++ st.map nowS))) = .ok .non (pgH h (f ++ [x] ++ ts.drop k) [Rw.mv f.length 1 false ⟨nm, N, a⟩] (past0 ++ (st ++ [(f ++ ts.drop k, [(⟨nm, N, a⟩ : Rw)])]).map nowS)) := by
            rw [pg_mca (by decide) (by decide)]
            simp only [List.map_cons, List.map_nil] at e1
            simp [-List.map_append, -List.append_assoc, e1]
          refine LSat_nx (e := [some (.loc h.length), some (.tup (ss.map Stp.d)), some (.int ((f ++ [x]).length : Nat)), some (.int ((st ++ [(f ++ ts.drop k, [(⟨nm, N, a⟩ : Rw)])]).length : Nat)), some (Stp.put x).d]) (h := pgH h (f ++ [x] ++ ts.drop (k)) [Rw.mv f.length 1 false ⟨nm, N, a⟩] (past0 ++ (st ++ [(f ++ ts.drop k, [(⟨nm, N, a⟩ : Rw)])]).map nowS)) (by simp [-List.map_append, -List.append_assoc, Stp.d, pos_lits, e4]) ?_
          refine ⟨done ++ [.put x], todo, k, f ++ [x], mvAt f.length 1 false a, st ++ [(f ++ ts.drop k, [⟨nm, N, a⟩])], _, rfl, rfl, rfl, ⟨by rw [I.e]; simp, ?_, ?_, ?_, ?_, ?_, I.kl, ?_, ⟨m, by simpa using hgo⟩, ?_, ?_, hft, by simp; omega⟩⟩
          · rw [← I.bh]; simp only [bhGo]
          · rw [I.pl]
            by_cases c2 : k ≤ p
            · simp [c2, pls]
            · simp only [c2, if_false]
              have lo := I.lo (by omega)
              cases a with
              | none => rfl
              | some j =>
                have := lo j rfl
                simp [mvAt, show ¬ f.length ≤ j by omega]
          · intro c
            rw [I.hi c]
            simp [mvAt]
            omega
          · intro c j hj
            have lo := I.lo c
            cases a with
            | none => cases hj
            | some j0 =>
              have := lo j0 rfl
              simp [mvAt, show ¬ f.length ≤ j0 by omega] at hj
              simp; omega
          · intro y hy
            rcases List.mem_append.mp hy with hy | hy
            · exact I.ws y hy
            · rw [List.mem_singleton.mp hy]; exact wx
          · simpa using hmid.2
          · rw [cnt_app]; simp [cnt, I.cn]
          · have := I.hd
            cases st <;> simpa using this
        | swap x =>
          simp only [stGo] at hgo
          split at hgo <;> try (cases hgo; done)
          rename_i hw
          obtain ⟨hk, hw, hne⟩ := hw
          have wx : WS x := ⟨hw, by
            have := (wd_fits (ss := [Stp.swap x]) (by simpa using hwd)) x (.inr (by simp))
            exact fit_str.mpr this⟩
          have hlt : f.length < (f ++ ts.drop k).length := by simp; omega
          have hget : (f ++ ts.drop k)[f.length] = ts[k] := by simp
          have hx : x ≠ (f ++ ts.drop k)[f.length] := by
            rw [hget]
            intro z
            exact hne (by rw [List.getElem?_eq_getElem hk, z])
          have e1 := pswap_ok (h := h) (ts := f ++ ts.drop k) (rows := [⟨nm, N, a⟩]) (past := past0 ++ st.map nowS) hlt hcws wx hx hcur (by simp) hpa
          have c1 : (f ++ ts.drop k).take f.length ++ [x] ++ (f ++ ts.drop k).drop (f.length + 1) = (f ++ [x]) ++ ts.drop (k + 1) := by
            rw [List.take_left', List.drop_append]
            · simp [List.drop_eq_nil_of_le]
            · rfl
          rw [c1, e2] at e1
          have e4 : (kMca "Page" "swap" S_Page_swap 3 [] [.var 2, .idx (.var 4) (.cst (.int 1))] [some (.loc h.length), some (.tup (ss.map Stp.d)), some (.int (f.length : Nat)), some (.int (st.length : Nat)), some (.tup [.str "swap", .str x])] (.loc h.length) (pgH h (f ++ ts.drop k) [⟨nm, N, a⟩] (past0 ++ st.map nowS))) = .ok (.str ((f ++ ts.drop k)[f.length])) (pgH h (f ++ [x] ++ ts.drop (k + 1)) [Rw.mv f.length 0 true ⟨nm, N, a⟩] (past0 ++ (st ++ [(f ++ ts.drop k, [(⟨nm, N, a⟩ : Rw)])]).map nowS)) := by
            rw [pg_mca (by decide) (by decide)]
            simp only [List.map_cons, List.map_nil] at e1
            simp [-List.map_append, -List.append_assoc, -List.getElem_append_right, e1]
          refine LSat_nx (e := [some (.loc h.length), some (.tup (ss.map Stp.d)), some (.int ((f ++ [x]).length : Nat)), some (.int ((st ++ [(f ++ ts.drop k, [(⟨nm, N, a⟩ : Rw)])]).length : Nat)), some (Stp.swap x).d]) (h := pgH h (f ++ [x] ++ ts.drop (k + 1)) [Rw.mv f.length 0 true ⟨nm, N, a⟩] (past0 ++ (st ++ [(f ++ ts.drop k, [(⟨nm, N, a⟩ : Rw)])]).map nowS)) (by simp [-List.map_append, -List.append_assoc, Stp.d, pos_lits, e4]) ?_
          refine ⟨done ++ [.swap x], todo, k + 1, f ++ [x], mvAt f.length 0 true a, st ++ [(f ++ ts.drop k, [⟨nm, N, a⟩])], _, rfl, rfl, rfl, ⟨by rw [I.e]; simp, ?_, ?_, ?_, ?_, ?_, hk, ?_, ⟨m, by simpa using hgo⟩, ?_, ?_, hft, by simp; have := I.ln; omega⟩⟩
          · rw [← I.bh]; simp only [bhGo]
          · rw [I.pl]
            by_cases c : k = p
            · subst c
              have := I.hi (Nat.le_refl _)
              simp [pls, this, mvAt, show ¬ k + 1 ≤ k by omega]
            · by_cases c2 : k ≤ p
              · have c3 : k + 1 ≤ p := by omega
                simp only [c2, c3, if_true, pls]
                rw [show p - k = (p - (k + 1)) + 1 by omega]
                simp
              · have c3 : ¬ k + 1 ≤ p := by omega
                simp only [c2, c3, if_false]
                have lo := I.lo (by omega)
                cases a with
                | none => rfl
                | some j =>
                  have := lo j rfl
                  simp [mvAt, show ¬ j = f.length by omega]
          · intro c
            rw [I.hi (by omega)]
            simp [mvAt, show ¬ p - k = 0 by omega]
            omega
          · intro c j hj
            by_cases c2 : k = p
            · subst c2
              rw [I.hi (by omega)] at hj
              simp [mvAt] at hj
            · have lo := I.lo (by omega)
              cases a with
              | none => cases hj
              | some j0 =>
                have := lo j0 rfl
                simp [mvAt, show ¬ j0 = f.length by omega] at hj
                simp; omega
          · intro y hy
            rcases List.mem_append.mp hy with hy | hy
            · exact I.ws y hy
            · rw [List.mem_singleton.mp hy]; exact wx
          · have := I.mid
            simp only [midGo] at this
            simpa using this
          · rw [cnt_app]; simp [cnt, I.cn]
          · have := I.hd
            cases st <;> simpa using this
    · obtain ⟨done, todo, k, f, a, st, b, hr, rfl, rfl, I⟩ := hi
      cases todo with
      | cons s todo => simp at hr
      | nil =>
        obtain ⟨m, hgo⟩ := I.go
        simp only [stGo, Option.some.injEq, Prod.mk.injEq] at hgo
        obtain ⟨rfl, _⟩ := hgo
        have hb := I.bh
        simp only [bhGo] at hb
        have e := I.e
        rw [List.append_nil] at e
        have hpl := I.pl
        rw [if_neg (by omega)] at hpl
        have h1 := I.cn
        rw [← e] at h1
        have h2 := I.hd
        have c0 : f ++ ts.drop ts.length = behind ts ss := by rw [List.drop_length, List.append_nil, hb]
        rw [c0, ← hpl] at h2 ⊢
        exact ⟨srcOk_nil, st, _, _, by rw [h1], rfl, h1, I.ft, h2⟩
    · obtain ⟨m, hgo, _⟩ := sc.go
      exact ⟨rfl, rfl, by simp, fun _ => by simp, fun c => absurd c (Nat.not_lt_zero _), by simp, Nat.zero_le _, md, ⟨m, hgo⟩, rfl, by simp, by simp, by simpa using hl⟩
    · obtain ⟨st, a, b, rfl, q⟩ := hi
      exact RSat_rt (d := .int (cnt ss : Nat)) (h := h2) (by simp) ⟨st, rfl, q⟩)
  obtain ⟨v, h', e, st, rfl, rfl, q⟩ := key
  exact ⟨st, by simp only [S__law_done, runF_eq]; exact e, q⟩
end Ev
end
noncomputable section
namespace Ev
open PySem L2
abbrev bLaw : List S := b_law S__law_source S__law_note S__law_policy S__law_held S__law_script S__law_draw S_Page___init__ S_Page_add S__law_done S_Page_text S_changed S_Page_place S_new_place S_Page_fate S_fate S_Page_seek S_find S_price S_Page_undo S_Page_swap
def Env13 (s : Option D) (env : Env) : Prop := ∃ a1 a2 a3 a4 a5 a6 a7 a8 a9 a10 a11 a12, env = [s, a1, a2, a3, a4, a5, a6, a7, a8, a9, a10, a11, a12]
theorem undo_loop {h : LH} {past0 : List D} {s0 : List Str × List Rw} {e0 : Env} {e1 : Env} (ne : e0.length = 11) (hp0 : past0.length ≤ 10) (hf0 : ∀ s ∈ past0, fit 100 5 s) (h9 : ∀ x, (e0 ++ x :: e1)[9]? = some (some (.loc h.length))) (xs : List D) (st : List (List Str × List Rw)) (c : List Str × List Rw) (x0 : Option D) (hl : st.length = xs.length) (hst : st.length ≤ 150) (hf : ∀ s ∈ st, fit 100 5 (nowS s)) (hh : (st ++ [c]).head? = some s0) :
    RSat (fun env h' => ∃ x, env = e0 ++ x :: e1 ∧ h' = pgH h s0.1 s0.2 past0) (fun _ _ => False) (forR 1000000000 (.nm 11) [.exp (.mca "Page" "undo" S_Page_undo 1 [] (.var 9) [])] [] xs (e0 ++ x0 :: e1) (pgH h c.1 c.2 (past0 ++ st.map nowS))) := by
  refine forLoop_sat (I := fun rest env h' => ∃ st c x, env = e0 ++ x :: e1 ∧ h' = pgH h c.1 c.2 (past0 ++ st.map nowS) ∧ st.length = rest.length ∧ st.length ≤ 150 ∧ (∀ s ∈ st, fit 100 5 (nowS s)) ∧ (st ++ [c]).head? = some s0) (fun x rest env h2 hi => ?_) (fun env h2 hi => ?_) _ _ _ ⟨st, c, x0, rfl, rfl, hl, hst, hf, hh⟩
  · obtain ⟨st, c, x1, rfl, rfl, hl, hst, hf, hh⟩ := hi
    rcases List.eq_nil_or_concat st with rfl | ⟨init, s, rfl⟩
    · simp at hl
    · refine ⟨srcOk_nil, e0 ++ some x :: e1, ?_, ?_⟩
      · simp [bindT, ne]
        try (rw [List.set_append_right _ _ (by omega), ne])
        try rfl
      · have e := undo_ok (h := h) (ts := c.1) (rows := c.2) (past := past0 ++ init.map nowS) (ts0 := s.1) (rows0 := s.2) (fun d hd => by
          rcases List.mem_append.mp hd with hd | hd
          · exact hf0 d hd
          · obtain ⟨s', hs', rfl⟩ := List.mem_map.mp hd
            exact hf s' (by simp [hs'])) (hf s (by simp)) (by simp at hst ⊢; omega)
        have e2 : past0 ++ init.map nowS ++ [nowD s.1 s.2] = past0 ++ (init.concat s).map nowS := by simp [nowS]
        rw [e2] at e
        have e3 : kMca "Page" "undo" S_Page_undo 1 [] [] (e0 ++ some x :: e1) (.loc h.length) (pgH h c.1 c.2 (past0 ++ (init.concat s).map nowS)) = .ok .non (pgH h s.1 s.2 (past0 ++ init.map nowS)) := by
          rw [pg_mca (by decide) (by decide)]
          simp only [es_nil, b_ok, kMca2_eq]
          simp [-List.concat_eq_append, e]
        refine LSat_nx (e := e0 ++ some x :: e1) (h := pgH h s.1 s.2 (past0 ++ init.map nowS)) (by
          simp only [ss_cons, ss_nil, s_exp, e_mca, e_var, rdv, h9, b_ok]
          rw [e3]
          rfl) ⟨init, s, some x, rfl, rfl, by simp at hl; omega, by simp at hst; omega, fun s' hs' => hf s' (by simp [hs']), ?_⟩
        cases init <;> simpa using hh
  · obtain ⟨st, c, x1, rfl, rfl, hl, hst, hf, hh⟩ := hi
    have : st = [] := List.eq_nil_of_length_eq_zero hl
    subst this
    simp at hh
    subst hh
    exact ⟨srcOk_nil, x1, rfl, by simp⟩

theorem note_at {as bs ts : List Str} {w : Str} {p : Nat} (hp : p < ts.length) (hm : p ∈ placesOf (as ++ [w] ++ bs) ts bs.length) : nt ((ts.drop (p - as.length)).take (p - (p - as.length))) ts[p] ((ts.drop (p + 1)).take bs.length) = nt as w bs := by
  rw [← law_places] at hm
  have := (List.mem_filter.mp hm).2
  simp only [lawAt, Bool.and_eq_true, decide_eq_true_eq] at this
  obtain ⟨⟨⟨h1, h2⟩, h3⟩, h4⟩ := this
  rw [List.getElem?_eq_getElem hp, Option.some.injEq] at h1
  rw [show p - (p - as.length) = as.length by omega, h3, h4, h1]
theorem odD_eq {o : Option Nat} {h : LH} : eqD h (odD o) (odD o) = some true := eq_self (b := 0) (n := 0) (by decide) odD_fits
theorem fate_lits : ∀ y ∈ (["gone", "ghost", "lost", "right", "wrong", "place"] : List Str), PyData.strOk y = true := by decide +kernel
theorem fateOf_ok (a b : Option Nat) : PyData.strOk (fateOf a b) = true := by
  apply fate_lits
  unfold fateOf
  split
  · simp
  · simp
  · simp
  · split <;> simp
theorem n_ws : WS "n" := Wd.of (by decide +kernel)
theorem law_turns {F : Nat} {ns : List Int} {k : Nat} {n : Nat} {x : D} {a3 a4 a5 a6 a7 a8 a9 a10 a11 a12 : Option D} {h7 : LH} (hF : F = 1000000000) (s7 : SrcAt n h7) {body : List S} (hb : bLaw.take 1 = [.for_ (.nm 1) (.rng [(.bin .Add false (.cst (.int 1)) (.bui .min2 false [(.bui .len false [(.var 0)]), (.cst (.int 8))]))]) [.set 2 (.cal "_law_source" S__law_source 2 [] [(.var 0), (.var 1)]), .for_ (.nm 3) (.rng [(.cst (.int 2))]) body]]) :
    RSat (fun env h' => (∃ a3 a4 a5 a6 a7 a8 a9 a10 a11 a12, env = [some (.scr ns), some (.int k), some (.loc n), a3, a4, a5, a6, a7, a8, a9, a10, a11, a12]) ∧ SrcAt n h') (fun _ _ => False) (evSs F body [some (.scr ns), some (.int k), some (.loc n), some x, a4, a5, a6, a7, a8, a9, a10, a11, a12] h7) := by
  subst hF
  simp only [bLaw, b_law, List.take_succ_cons, List.take_zero, List.cons.injEq, S.for_.injEq, and_true, true_and] at hb
  subst hb
  obtain ⟨N0, h8, e8, d8, n8⟩ := note_ok (k := 2) s7 (by decide)
  obtain ⟨as, w, bs, rfl, q8⟩ := n8.nt
  obtain ⟨po, h9, e9, d9, n9⟩ := policy_ok (k := 2) (d8.src s7) (by decide)
  obtain ⟨ps, rfl, n9'⟩ := id n9
  obtain ⟨ts, p, h10, e10, d10, l10, w10, p10, m10⟩ := law_held_ok (m := 3) (by decide) ((d8.trans d9).src s7) q8
  obtain ⟨r, h11, e11, d11, r0, r1⟩ := draw_ok (m := 6) ((d8.trans (d9.trans d10)).src s7) (by omega) (by omega)
  obtain ⟨rate, hrate⟩ := Int.eq_ofNat_of_zero_le (show 0 ≤ 2 + r by omega)
  obtain ⟨ss, h12, e12, d12, sc, md⟩ := law_script_ok (rate := rate) ((d8.trans (d9.trans (d10.trans d11))).src s7) w10 l10 (by omega) (by omega)
  have s12 := (d8.trans (d9.trans (d10.trans (d11.trans d12)))).src s7
  obtain ⟨bw, bl⟩ := sc.behind_ws w10
  have e13 := page_init (h := h12) l10 w10
  have e14 := padd_ok (h := h12) (ts := ts) (rows := []) (past := []) (nm := "n") (x := as.length) (y := bs.length) p10 n_ws (by simp) ⟨by simp, by simp⟩ q8.la q8.lb l10 (by simp)
  rw [note_at p10 m10] at e14
  have hN := q8.fits (by decide)
  have rk (a : Option Nat) : RwOk ⟨"n", nt as w bs, a⟩ := ⟨⟨n_ws.ok, n_ws.fits⟩, hN⟩
  obtain ⟨st, e15, st1, st2, st3⟩ := law_done_ok (h := h12) (past0 := [nowD ts []]) w10 l10 sc md p10 rk (by simp)
  have rw1 (a : Option Nat) : Rws [⟨"n", nt as w bs, a⟩] := ⟨by simp, fun r hr => by rw [List.mem_singleton.mp hr]; exact rk a⟩
  have fl (a : Option Nat) : ([(⟨"n", nt as w bs, a⟩ : Rw)].filter fun r => decide (r.name = ("n" : Str))) = ⟨"n", nt as w bs, a⟩ :: [] := by simp
  have e16 {ts past a} := pg_place_ok (h := h12) (ts := ts) (past := past) (rw1 a) n_ws.ok (fl a)
  have e17 {H : LH} := new_place_ok (h := H) l10 w10 sc p10
  have e18 {H : LH} := changed_ok (h := H) l10 w10 sc
  have e19 {past} := pg_fate_ok (h := h12) (past := past) (rw1 ((pls ss 0).getD p none)) n_ws.ok (fl _) q8 n9 bw bl
  have e20 {H : LH} := fate_ok (h := H) q8 n9 w10 l10 sc p10 m10
  have e21 {past a} := seek_ok (h := h12) (past := past) (rw1 a) n_ws.ok (fl a) q8 n9 bw bl
  have e22 {H : LH} := find_ok (h := H) q8 n9 bw bl
  have e23 {H : LH} := price_ok (h := H) l10 w10 sc (a := 1) (b := 1) (c := 1) ⟨by decide, by decide, by decide, by decide, by decide, by decide⟩
  rw [cnt_price] at e23
  have q1 {H : LH} := eq_self (h := H) (by decide) hN
  have q2 {H : LH} := eq_tx (h := H) (xs := behind ts ss) (ys := behind ts ss) (fun x hx => (bw x hx).ok) (fun x hx => (bw x hx).ok)
  have q3 {H : LH} := eq_tx (h := H) (xs := ts) (ys := ts) (fun x hx => (w10 x hx).ok) (fun x hx => (w10 x hx).ok)
  have fo := fateOf_ok ((pls ss 0).getD p none) (ps.findSome? (pickD as w bs (behind ts ss)))
  have q4 {H : LH} := eq_str (h := H) fo fo
  rw [decide_eq_true rfl] at q2 q3 q4
  have b2 : cnt ss ≤ 1000000 := by have := cnt_len ss; have := sc.len; omega
  have b3 := rng_nat b2
  have hst : st.length ≤ 150 := by have := cnt_len ss; have := sc.len; omega
  have pf : ∀ s ∈ [nowD ts []], fit 100 5 s := fun s hs => by rw [List.mem_singleton.mp hs]; exact now_fits l10 w10 ⟨by simp, by simp⟩
  have e24 (xs : List D) (hxs : st.length = xs.length) := undo_loop (h := h12) (past0 := [nowD ts []]) (s0 := (ts, [⟨"n", nt as w bs, some p⟩])) (e0 := [some (.scr ns), some (.int k), some (.loc n), some x, some (nt as w bs), some (.tup ps), some (tx ts), some (.int p), some (.tup (ss.map Stp.d)), some (.loc h12.length), some (.int (cnt ss : Nat))]) (e1 := [a12]) rfl (by simp) pf (fun _ => rfl) xs st (behind ts ss, [⟨"n", nt as w bs, (pls ss 0).getD p none⟩]) a11 hxs hst st2 st3
  rw [← hrate] at e12
  have p1 {ts rows past} : kPrp "Page" S_Page_text (.loc h12.length) (pgH h12 ts rows past) = .ok (tx ts) (pgH h12 ts rows past) := prp_loc pg_get pg_text_ok
  have m1 {ts rows past S k es env} : kMca "Page" "add" S k [] es env (.loc h12.length) (pgH h12 ts rows past) = (evEs es env (pgH h12 ts rows past)).bind (kMca2 S k [] (.loc h12.length)) := pg_mca (by decide) (by decide)
  have m2 {ts rows past S k es env} : kMca "Page" "place" S k [] es env (.loc h12.length) (pgH h12 ts rows past) = (evEs es env (pgH h12 ts rows past)).bind (kMca2 S k [] (.loc h12.length)) := pg_mca (by decide) (by decide)
  have m3 {ts rows past S k es env} : kMca "Page" "fate" S k [] es env (.loc h12.length) (pgH h12 ts rows past) = (evEs es env (pgH h12 ts rows past)).bind (kMca2 S k [] (.loc h12.length)) := pg_mca (by decide) (by decide)
  have m4 {ts rows past S k es env} : kMca "Page" "seek" S k [] es env (.loc h12.length) (pgH h12 ts rows past) = (evEs es env (pgH h12 ts rows past)).bind (kMca2 S k [] (.loc h12.length)) := pg_mca (by decide) (by decide)
  have i0 {h : LH} : opIdx (nt as w bs) (.int 0) h = .ok (tx as) h := by simp [nt]
  have i2 {h : LH} : opIdx (nt as w bs) (.int 2) h = .ok (tx bs) h := by simp [nt]
  simp only [List.nil_append] at e14
  generalize nt as w bs = N at *
  generalize hB : behind ts ss = B at *
  generalize (pls ss 0).getD p none = pl at *
  generalize fateOf pl (ps.findSome? (pickD as w bs B)) = ft at *
  generalize cnt ss = cn at *
  generalize ss.map Stp.d = sd at *
  simp at e8 e9 e10 e11 e12
  simp [-rng1, e8, e9, e10, e11, e12, e13, m1, m2, m3, m4, i0, i2, e14, e15, e16, e17, e18, e19, e20, e21, e22, e23, p1, q1, q2, q3, q4, odD_eq, optD_eq, b3, le_line1 (show 2 ≤ 100000 by decide), le_line1 (show 3 ≤ 100000 by decide)]
  refine RSat.seq (e24 _ (by simp [st1])) (fun env h13 hi => ?_)
  obtain ⟨a11, rfl, rfl⟩ := hi
  simp [m2, e16, p1, q3, odD, RSat]
  exact s12.app
end Ev
end
noncomputable section
namespace Ev
open PySem L2
abbrev T9 : List Str := ["a", "b", "c", "d", "e", "f", "g", "h", "i"]
abbrev ss9 : List Stp := [.swap "z", .keep, .keep, .keep, .keep, .keep, .keep, .keep, .keep]
theorem lit9 : ∀ x ∈ (["a", "b", "c", "d", "e", "f", "g", "h", "i", "j", "z"] : List Str), WS x := by
  have q : ((["a", "b", "c", "d", "e", "f", "g", "h", "i", "j", "z"] : List Str).all fun w => isWord (.str w) && fitB 8 0 (.str w)) = true := by decide +kernel
  intro x hx
  exact Wd.of (List.all_eq_true.mp q _ hx)
theorem law_tail {F : Nat} {s a1 a2 a3 a4 a5 a6 a7 a8 a9 a10 a11 a12 : Option D} {h : LH} : ∃ h', evSs F (bLaw.drop 1) [s, a1, a2, a3, a4, a5, a6, a7, a8, a9, a10, a11, a12] h = .rt (.bl true) h' := by
  have t9 : ∀ x ∈ T9, WS x := fun x hx => lit9 x (by have : x ∈ T9 ++ (["j", "z"] : List Str) := List.mem_append_left _ hx; exact this)
  have wj : WS "j" := lit9 "j" (by simp)
  have wz : WS "z" := lit9 "z" (by simp)
  have e1 := page_init (h := h) (ts := T9) (by decide) t9
  have e2 := padd_ok (h := h) (ts := T9) (rows := []) (past := []) (nm := "n") (p := 8) (x := 1) (y := 0) (by decide) n_ws (by simp) ⟨by simp, by simp⟩ (by decide) (by decide) (by decide) (by simp)
  generalize hN : nt ((T9.drop (8 - 1)).take (8 - (8 - 1))) T9[8] ((T9.drop (8 + 1)).take 0) = N at e2
  have fN : fit 100 2 N := by rw [← hN]; exact fit_of (by decide +kernel)
  simp only [List.nil_append] at e2
  have e3 := pswap_ok (h := h) (ts := T9) (rows := [⟨"n", N, some 8⟩]) (past := [nowD T9 []]) (p := 8) (x := "j") (by decide) t9 wj (by decide) (by decide) (by simp) (by simp)
  have rk (a : Option Nat) : RwOk ⟨"n", N, a⟩ := ⟨⟨n_ws.ok, n_ws.fits⟩, fN⟩
  have e4 {ts past} := pg_place_ok (h := h) (ts := ts) (past := past) (rows := [⟨"n", N, none⟩]) (nm := "n") (r := ⟨"n", N, none⟩) (rs := []) ⟨by simp, fun r hr => by rw [List.mem_singleton.mp hr]; exact rk _⟩ n_ws.ok (by simp)
  have sc9 : Scr T9 ss9 := ⟨⟨9, by simp [stGo, wz.1, show ¬ ("a" : Str) = "z" by decide], by decide⟩, by decide, by
    intro s hs
    simp only [List.mem_cons, List.not_mem_nil, or_false, or_self] at hs
    rcases hs with rfl | rfl
    · exact (stp_fit wz).2
    · exact stp_fit0.1⟩
  have e5 {H : LH} := new_place_ok (h := H) (ts := T9) (ss := ss9) (p := 8) (by decide) t9 sc9 (by decide)
  have pl : (pls ss9 0).getD 8 none = some 8 := by decide +kernel
  rw [pl] at e5
  have m1 {ts rows past S k es env} : kMca "Page" "add" S k [] es env (.loc h.length) (pgH h ts rows past) = (evEs es env (pgH h ts rows past)).bind (kMca2 S k [] (.loc h.length)) := pg_mca (by decide) (by decide)
  have m2 {ts rows past S k es env} : kMca "Page" "place" S k [] es env (.loc h.length) (pgH h ts rows past) = (evEs es env (pgH h ts rows past)).bind (kMca2 S k [] (.loc h.length)) := pg_mca (by decide) (by decide)
  have m3 {ts rows past S k es env} : kMca "Page" "swap" S k [] es env (.loc h.length) (pgH h ts rows past) = (evEs es env (pgH h ts rows past)).bind (kMca2 S k [] (.loc h.length)) := pg_mca (by decide) (by decide)
  have mv8 : Rw.mv 8 0 true ⟨"n", N, some 8⟩ = ⟨"n", N, none⟩ := rfl
  simp only [List.map_cons, List.map_nil, mv8] at e3
  simp only [tx, List.map_cons, List.map_nil, Stp.d] at e1 e2 e3 e5
  have z (n : Nat) (hn : n ≤ 100) : n ≤ sizeLine := le_line1 (by omega)
  generalize T9.take 8 ++ (["j"] : List Str) ++ T9.drop (8 + 1) = ts3 at e3
  generalize ([nowD T9 []] : List D) ++ [nowD T9 [⟨"n", N, some 8⟩]] = past3 at e3
  refine ⟨pgH h ts3 [⟨"n", N, none⟩] past3, ?_⟩
  · simp only [bLaw, b_law, List.drop_succ_cons, List.drop_zero]
    simp at e1 e2 e3 e5
    simp [e1, e2, e3, e4, e5, m1, m2, m3, odD, z 9 (by decide), z 1 (by decide), z 2 (by decide), z 8 (by decide)]
theorem law_ok {ns : List Int} (hl : ns.length ≤ 63) : ∃ h', S_law [.scr ns] [] = .ok (.bl true) h' := by
  have key := RSat.fin (Q := fun v h' => v = .bl true) (r := evSs 1000000000 bLaw [some (.scr ns), none, none, none, none, none, none, none, none, none, none, none, none] []) (by
    have q : bLaw = bLaw.take 1 ++ bLaw.drop 1 := rfl
    rw [q, evSs_append]
    refine RSat.seq (N' := fun env h' => Env13 (some (.scr ns)) env) ?_ (fun env h' hi => ?_)
    · have hb := @law_turns
      simp only [bLaw, b_law, List.take_succ_cons, List.take_zero] at hb ⊢
      have b1 : -4611686018427387904 ≤ 1 + (if (8 : Int) < ns.length then 8 else (ns.length : Int)) ∧ 1 + (if (8 : Int) < ns.length then 8 else (ns.length : Int)) < 4611686018427387904 := by split <;> omega
      rw [ss_cons, s_for]
      simp [b1, -s_for, -ss_cons]
      refine RSat.seq (N' := fun env h' => Env13 (some (.scr ns)) env) (forLoop_sat (I := fun rest env h' => Env13 (some (.scr ns)) env ∧ ∀ x ∈ rest, ∃ k : Nat, x = .int k) (fun x rest env h2 hi => ?_) (fun env h2 hi => ⟨srcOk_nil, hi.1⟩) _ _ _ ⟨⟨_, _, _, _, _, _, _, _, _, _, _, _, rfl⟩, fun x hx => ?_⟩) (fun env h2 hi => by simpa [RSat] using hi)
      · obtain ⟨⟨a1, a2, a3, a4, a5, a6, a7, a8, a9, a10, a11, a12, rfl⟩, hm⟩ := hi
        refine ⟨srcOk_nil, _, rfl, ?_⟩
        obtain ⟨k, rfl⟩ := hm x List.mem_cons_self
        have hm2 : ∀ x ∈ rest, ∃ k : Nat, x = .int k := fun y hy => hm y (List.mem_cons_of_mem _ hy)
        obtain ⟨o, e1, so⟩ := source_ok (ns := ns) (k := k) (h := h2)
        have s1 : SrcAt h2.length (h2 ++ [o]) := ⟨o, by simp, so⟩
        rw [ss_cons, s_set]
        simp [e1, -s_for, -ss_cons]
        rw [ss_cons, s_for]
        simp [-s_for, -ss_cons]
        refine LSat.of (RSat.seq (N' := fun env h' => Env13 (some (.scr ns)) env) (forLoop_sat (I := fun rest env h' => (∃ a3 a4 a5 a6 a7 a8 a9 a10 a11 a12, env = [some (.scr ns), some (.int k), some (.loc h2.length), a3, a4, a5, a6, a7, a8, a9, a10, a11, a12]) ∧ SrcAt h2.length h') (fun x rest env h7 hi => ?_) (fun env h7 hi => ?_) _ _ _ ⟨⟨_, _, _, _, _, _, _, _, _, _, rfl⟩, s1⟩) (fun env h6 hi => by simp [RSat]; exact ⟨hi, hm2⟩))
        · obtain ⟨⟨a3, a4, a5, a6, a7, a8, a9, a10, a11, a12, rfl⟩, s7⟩ := hi
          refine ⟨srcOk_nil, _, rfl, LSat.of ?_⟩
          exact (law_turns (a3 := none) rfl s7 rfl).imp (fun e h q => q) (fun d h q => q.elim)
        · obtain ⟨⟨a3, a4, a5, a6, a7, a8, a9, a10, a11, a12, rfl⟩, s7⟩ := hi
          exact ⟨srcOk_nil, _, _, _, _, _, _, _, _, _, _, _, _, rfl⟩
      · obtain ⟨k, _, rfl⟩ := List.mem_map.mp hx
        exact ⟨k, rfl⟩
    · obtain ⟨a1, a2, a3, a4, a5, a6, a7, a8, a9, a10, a11, a12, rfl⟩ := hi
      obtain ⟨h2, e⟩ := law_tail (F := 1000000000) (s := some (.scr ns)) (a1 := a1) (a2 := a2) (a3 := a3) (a4 := a4) (a5 := a5) (a6 := a6) (a7 := a7) (a8 := a8) (a9 := a9) (a10 := a10) (a11 := a11) (a12 := a12) (h := h')
      rw [e]
      rfl)
  obtain ⟨v, h', e, rfl⟩ := key
  exact ⟨h', by simp only [S_law, runF_eq]; exact e⟩
end Ev
end
namespace Ev
open PySem L2
def topS (i : Nat) : Stmt := PySem.Challenge.pw_notesbelow_k28_whole_pages_and_scripts.main.body.getD i (.Pass ⟨0, 0, 0, 0⟩)
abbrev s__law_source : Stmt := topS 57
theorem sc__law_source : FnScope N__law_source ["script", "k"] (defScope s__law_source) := ⟨rfl, rfl, rfl, by decide +kernel, rfl, by decide +kernel, by decide +kernel⟩
theorem ck__law_source : chkSs N__law_source (defScope s__law_source) (b__law_source ) (defBody s__law_source) = true := by decide +kernel
abbrev s__law_draw : Stmt := topS 58
theorem sc__law_draw : FnScope N__law_draw ["source", "many"] (defScope s__law_draw) := ⟨rfl, rfl, rfl, by decide +kernel, rfl, by decide +kernel, by decide +kernel⟩
theorem ck__law_draw : chkSs N__law_draw (defScope s__law_draw) (b__law_draw ) (defBody s__law_draw) = true := by decide +kernel
abbrev s__law_choice : Stmt := topS 59
theorem sc__law_choice : FnScope N__law_choice ["source", "rows"] (defScope s__law_choice) := ⟨rfl, rfl, rfl, by decide +kernel, rfl, by decide +kernel, by decide +kernel⟩
theorem ck__law_choice : chkSs N__law_choice (defScope s__law_choice) (b__law_choice S__law_draw) (defBody s__law_choice) = true := by decide +kernel
abbrev s__law_menu : Stmt := topS 60
theorem sc__law_menu : FnScope N__law_menu ["source"] (defScope s__law_menu) := ⟨rfl, rfl, rfl, by decide +kernel, rfl, by decide +kernel, by decide +kernel⟩
theorem ck__law_menu : chkSs N__law_menu (defScope s__law_menu) (b__law_menu S__law_choice) (defBody s__law_menu) = true := by decide +kernel
abbrev s__law_row : Stmt := topS 61
theorem sc__law_row : FnScope N__law_row ["source", "words", "most"] (defScope s__law_row) := ⟨rfl, rfl, rfl, by decide +kernel, rfl, by decide +kernel, by decide +kernel⟩
theorem ck__law_row : chkSs N__law_row (defScope s__law_row) (b__law_row S__law_draw S__law_choice) (defBody s__law_row) = true := by decide +kernel
abbrev s__law_note : Stmt := topS 62
theorem sc__law_note : FnScope N__law_note ["source", "most"] (defScope s__law_note) := ⟨rfl, rfl, rfl, by decide +kernel, rfl, by decide +kernel, by decide +kernel⟩
theorem ck__law_note : chkSs N__law_note (defScope s__law_note) (b__law_note S__law_menu S__law_row S__law_choice) (defBody s__law_note) = true := by decide +kernel
abbrev s__law_attempt : Stmt := topS 63
theorem sc__law_attempt : FnScope N__law_attempt ["source", "most"] (defScope s__law_attempt) := ⟨rfl, rfl, rfl, by decide +kernel, rfl, by decide +kernel, by decide +kernel⟩
theorem ck__law_attempt : chkSs N__law_attempt (defScope s__law_attempt) (b__law_attempt S__law_choice S__law_draw) (defBody s__law_attempt) = true := by decide +kernel
abbrev s__law_policy : Stmt := topS 64
theorem sc__law_policy : FnScope N__law_policy ["source", "most"] (defScope s__law_policy) := ⟨rfl, rfl, rfl, by decide +kernel, rfl, by decide +kernel, by decide +kernel⟩
theorem ck__law_policy : chkSs N__law_policy (defScope s__law_policy) (b__law_policy S__law_draw S__law_attempt) (defBody s__law_policy) = true := by decide +kernel
abbrev s__law_words : Stmt := topS 65
theorem sc__law_words : FnScope N__law_words ["note"] (defScope s__law_words) := ⟨rfl, rfl, rfl, by decide +kernel, rfl, by decide +kernel, by decide +kernel⟩
theorem ck__law_words : chkSs N__law_words (defScope s__law_words) (b__law_words ) (defBody s__law_words) = true := by decide +kernel
abbrev s__law_text : Stmt := topS 66
theorem sc__law_text : FnScope N__law_text ["source", "note", "most"] (defScope s__law_text) := ⟨rfl, rfl, rfl, by decide +kernel, rfl, by decide +kernel, by decide +kernel⟩
theorem ck__law_text : chkSs N__law_text (defScope s__law_text) (b__law_text S__law_draw S__law_words S__law_choice) (defBody s__law_text) = true := by decide +kernel
abbrev s__law_held : Stmt := topS 67
theorem sc__law_held : FnScope N__law_held ["source", "note", "most"] (defScope s__law_held) := ⟨rfl, rfl, rfl, by decide +kernel, rfl, by decide +kernel, by decide +kernel⟩
theorem ck__law_held : chkSs N__law_held (defScope s__law_held) (b__law_held S__law_text S__law_words) (defBody s__law_held) = true := by decide +kernel
abbrev s__law_script : Stmt := topS 68
theorem sc__law_script : FnScope N__law_script ["source", "text", "rate"] (defScope s__law_script) := ⟨rfl, rfl, rfl, by decide +kernel, rfl, by decide +kernel, by decide +kernel⟩
theorem ck__law_script : chkSs N__law_script (defScope s__law_script) (b__law_script S__law_draw S__law_choice) (defBody s__law_script) = true := by decide +kernel
abbrev s_is_word : Stmt := topS 20
theorem sc_is_word : FnScope N_is_word ["value"] (defScope s_is_word) := ⟨rfl, rfl, rfl, by decide +kernel, rfl, by decide +kernel, by decide +kernel⟩
theorem ck_is_word : chkSs N_is_word (defScope s_is_word) (b_is_word ) (defBody s_is_word) = true := by decide +kernel
abbrev s_are_words : Stmt := topS 21
theorem sc_are_words : FnScope N_are_words ["value", "most"] (defScope s_are_words) := ⟨rfl, rfl, rfl, by decide +kernel, rfl, by decide +kernel, by decide +kernel⟩
theorem ck_are_words : chkSs N_are_words (defScope s_are_words) (b_are_words S_is_word) (defBody s_are_words) = true := by decide +kernel
abbrev s_is_text : Stmt := topS 24
theorem sc_is_text : FnScope N_is_text ["value"] (defScope s_is_text) := ⟨rfl, rfl, rfl, by decide +kernel, rfl, by decide +kernel, by decide +kernel⟩
theorem ck_is_text : chkSs N_is_text (defScope s_is_text) (b_is_text S_are_words) (defBody s_is_text) = true := by decide +kernel
abbrev s_need_text : Stmt := topS 31
theorem sc_need_text : FnScope N_need_text ["value"] (defScope s_need_text) := ⟨rfl, rfl, rfl, by decide +kernel, rfl, by decide +kernel, by decide +kernel⟩
theorem ck_need_text : chkSs N_need_text (defScope s_need_text) (b_need_text S_is_text) (defBody s_need_text) = true := by decide +kernel
abbrev s_Page___init__ : Stmt := clsBody (topS 55) 0
theorem sc_Page___init__ : FnScope N_Page___init__ ["self", "text"] (defScope s_Page___init__) := ⟨rfl, rfl, rfl, by decide +kernel, rfl, by decide +kernel, by decide +kernel⟩
theorem ck_Page___init__ : chkSs N_Page___init__ (defScope s_Page___init__) (b_Page___init__ S_need_text) (defBody s_Page___init__) = true := by decide +kernel
abbrev s_is_from : Stmt := topS 22
theorem sc_is_from : FnScope N_is_from ["value", "low", "high"] (defScope s_is_from) := ⟨rfl, rfl, rfl, by decide +kernel, rfl, by decide +kernel, by decide +kernel⟩
theorem ck_is_from : chkSs N_is_from (defScope s_is_from) (b_is_from ) (defBody s_is_from) = true := by decide +kernel
abbrev s_Page_need_place : Stmt := clsBody (topS 55) 5
theorem sc_Page_need_place : FnScope N_Page_need_place ["self", "place", "more"] (defScope s_Page_need_place) := ⟨rfl, rfl, rfl, by decide +kernel, rfl, by decide +kernel, by decide +kernel⟩
theorem ck_Page_need_place : chkSs N_Page_need_place (defScope s_Page_need_place) (b_Page_need_place S_is_from) (defBody s_Page_need_place) = true := by decide +kernel
abbrev s_Page_go_on : Stmt := clsBody (topS 55) 6
theorem sc_Page_go_on : FnScope N_Page_go_on ["self", "text", "rows"] (defScope s_Page_go_on) := ⟨rfl, rfl, rfl, by decide +kernel, rfl, by decide +kernel, by decide +kernel⟩
theorem ck_Page_go_on : chkSs N_Page_go_on (defScope s_Page_go_on) (b_Page_go_on ) (defBody s_Page_go_on) = true := by decide +kernel
abbrev s_Page_add : Stmt := clsBody (topS 55) 7
theorem sc_Page_add : FnScope N_Page_add ["self", "name", "place", "ahead", "behind"] (defScope s_Page_add) := ⟨rfl, rfl, rfl, by decide +kernel, rfl, by decide +kernel, by decide +kernel⟩
theorem ck_Page_add : chkSs N_Page_add (defScope s_Page_add) (b_Page_add S_is_word S_Page_need_place S_is_from S_Page_go_on) (defBody s_Page_add) = true := by decide +kernel
abbrev s_Page_moved : Stmt := clsBody (topS 55) 12
theorem sc_Page_moved : FnScope N_Page_moved ["self", "place", "more", "gone"] (defScope s_Page_moved) := ⟨rfl, rfl, rfl, by decide +kernel, rfl, by decide +kernel, by decide +kernel⟩
theorem ck_Page_moved : chkSs N_Page_moved (defScope s_Page_moved) (b_Page_moved ) (defBody s_Page_moved) = true := by decide +kernel
abbrev s_Page_put : Stmt := clsBody (topS 55) 13
theorem sc_Page_put : FnScope N_Page_put ["self", "place", "word"] (defScope s_Page_put) := ⟨rfl, rfl, rfl, by decide +kernel, rfl, by decide +kernel, by decide +kernel⟩
theorem ck_Page_put : chkSs N_Page_put (defScope s_Page_put) (b_Page_put S_Page_need_place S_is_word S_Page_go_on S_Page_moved) (defBody s_Page_put) = true := by decide +kernel
abbrev s_Page_out : Stmt := clsBody (topS 55) 14
theorem sc_Page_out : FnScope N_Page_out ["self", "place"] (defScope s_Page_out) := ⟨rfl, rfl, rfl, by decide +kernel, rfl, by decide +kernel, by decide +kernel⟩
theorem ck_Page_out : chkSs N_Page_out (defScope s_Page_out) (b_Page_out S_Page_need_place S_Page_go_on S_Page_moved) (defBody s_Page_out) = true := by decide +kernel
abbrev s_Page_swap : Stmt := clsBody (topS 55) 15
theorem sc_Page_swap : FnScope N_Page_swap ["self", "place", "word"] (defScope s_Page_swap) := ⟨rfl, rfl, rfl, by decide +kernel, rfl, by decide +kernel, by decide +kernel⟩
theorem ck_Page_swap : chkSs N_Page_swap (defScope s_Page_swap) (b_Page_swap S_Page_need_place S_is_word S_Page_go_on S_Page_moved) (defBody s_Page_swap) = true := by decide +kernel
abbrev s__law_done : Stmt := topS 69
theorem sc__law_done : FnScope N__law_done ["page", "script"] (defScope s__law_done) := ⟨rfl, rfl, rfl, by decide +kernel, rfl, by decide +kernel, by decide +kernel⟩
theorem ck__law_done : chkSs N__law_done (defScope s__law_done) (b__law_done S_Page_put S_Page_out S_Page_swap) (defBody s__law_done) = true := by decide +kernel
abbrev s_Page_text : Stmt := clsBody (topS 55) 1
theorem sc_Page_text : FnScope N_Page_text ["self"] (defScope s_Page_text) := ⟨rfl, rfl, rfl, by decide +kernel, rfl, by decide +kernel, by decide +kernel⟩
theorem ck_Page_text : chkSs N_Page_text (defScope s_Page_text) (b_Page_text ) (defBody s_Page_text) = true := by decide +kernel
abbrev s_has_script : Stmt := topS 43
theorem sc_has_script : FnScope N_has_script ["text", "value"] (defScope s_has_script) := ⟨rfl, rfl, rfl, by decide +kernel, rfl, by decide +kernel, by decide +kernel⟩
theorem ck_has_script : chkSs N_has_script (defScope s_has_script) (b_has_script S_is_word) (defBody s_has_script) = true := by decide +kernel
abbrev s_need_script : Stmt := topS 44
theorem sc_need_script : FnScope N_need_script ["text", "value"] (defScope s_need_script) := ⟨rfl, rfl, rfl, by decide +kernel, rfl, by decide +kernel, by decide +kernel⟩
theorem ck_need_script : chkSs N_need_script (defScope s_need_script) (b_need_script S_need_text S_has_script) (defBody s_need_script) = true := by decide +kernel
abbrev s_text_behind : Stmt := topS 46
theorem sc_text_behind : FnScope N_text_behind ["text", "script"] (defScope s_text_behind) := ⟨rfl, rfl, rfl, by decide +kernel, rfl, by decide +kernel, by decide +kernel⟩
theorem ck_text_behind : chkSs N_text_behind (defScope s_text_behind) (b_text_behind ) (defBody s_text_behind) = true := by decide +kernel
abbrev s_changed : Stmt := topS 47
theorem sc_changed : FnScope N_changed ["text", "script"] (defScope s_changed) := ⟨rfl, rfl, rfl, by decide +kernel, rfl, by decide +kernel, by decide +kernel⟩
theorem ck_changed : chkSs N_changed (defScope s_changed) (b_changed S_need_script S_text_behind) (defBody s_changed) = true := by decide +kernel
abbrev s_Page_row_of : Stmt := clsBody (topS 55) 4
theorem sc_Page_row_of : FnScope N_Page_row_of ["self", "name"] (defScope s_Page_row_of) := ⟨rfl, rfl, rfl, by decide +kernel, rfl, by decide +kernel, by decide +kernel⟩
theorem ck_Page_row_of : chkSs N_Page_row_of (defScope s_Page_row_of) (b_Page_row_of ) (defBody s_Page_row_of) = true := by decide +kernel
abbrev s_Page_place : Stmt := clsBody (topS 55) 9
theorem sc_Page_place : FnScope N_Page_place ["self", "name"] (defScope s_Page_place) := ⟨rfl, rfl, rfl, by decide +kernel, rfl, by decide +kernel, by decide +kernel⟩
theorem ck_Page_place : chkSs N_Page_place (defScope s_Page_place) (b_Page_place S_Page_row_of) (defBody s_Page_place) = true := by decide +kernel
abbrev s_place_behind : Stmt := topS 50
theorem sc_place_behind : FnScope N_place_behind ["script", "place"] (defScope s_place_behind) := ⟨rfl, rfl, rfl, by decide +kernel, rfl, by decide +kernel, by decide +kernel⟩
theorem ck_place_behind : chkSs N_place_behind (defScope s_place_behind) (b_place_behind ) (defBody s_place_behind) = true := by decide +kernel
abbrev s_new_place : Stmt := topS 51
theorem sc_new_place : FnScope N_new_place ["text", "script", "place"] (defScope s_new_place) := ⟨rfl, rfl, rfl, by decide +kernel, rfl, by decide +kernel, by decide +kernel⟩
theorem ck_new_place : chkSs N_new_place (defScope s_new_place) (b_new_place S_need_script S_is_from S_place_behind) (defBody s_new_place) = true := by decide +kernel
abbrev s_is_pick : Stmt := topS 25
theorem sc_is_pick : FnScope N_is_pick ["value"] (defScope s_is_pick) := ⟨rfl, rfl, rfl, by decide +kernel, rfl, by decide +kernel, by decide +kernel⟩
theorem ck_is_pick : chkSs N_is_pick (defScope s_is_pick) (b_is_pick ) (defBody s_is_pick) = true := by decide +kernel
abbrev s_is_attempt : Stmt := topS 26
theorem sc_is_attempt : FnScope N_is_attempt ["value"] (defScope s_is_attempt) := ⟨rfl, rfl, rfl, by decide +kernel, rfl, by decide +kernel, by decide +kernel⟩
theorem ck_is_attempt : chkSs N_is_attempt (defScope s_is_attempt) (b_is_attempt S_is_pick S_is_from) (defBody s_is_attempt) = true := by decide +kernel
abbrev s_is_policy : Stmt := topS 27
theorem sc_is_policy : FnScope N_is_policy ["value"] (defScope s_is_policy) := ⟨rfl, rfl, rfl, by decide +kernel, rfl, by decide +kernel, by decide +kernel⟩
theorem ck_is_policy : chkSs N_is_policy (defScope s_is_policy) (b_is_policy S_is_attempt) (defBody s_is_policy) = true := by decide +kernel
abbrev s_need_policy : Stmt := topS 29
theorem sc_need_policy : FnScope N_need_policy ["value"] (defScope s_need_policy) := ⟨rfl, rfl, rfl, by decide +kernel, rfl, by decide +kernel, by decide +kernel⟩
theorem ck_need_policy : chkSs N_need_policy (defScope s_need_policy) (b_need_policy S_is_policy) (defBody s_need_policy) = true := by decide +kernel
abbrev s_fate_at : Stmt := topS 52
theorem sc_fate_at : FnScope N_fate_at ["kept", "found"] (defScope s_fate_at) := ⟨rfl, rfl, rfl, by decide +kernel, rfl, by decide +kernel, by decide +kernel⟩
theorem ck_fate_at : chkSs N_fate_at (defScope s_fate_at) (b_fate_at ) (defBody s_fate_at) = true := by decide +kernel
abbrev s_picked : Stmt := topS 37
theorem sc_picked : FnScope N_picked ["places", "pick"] (defScope s_picked) := ⟨rfl, rfl, rfl, by decide +kernel, rfl, by decide +kernel, by decide +kernel⟩
theorem ck_picked : chkSs N_picked (defScope s_picked) (b_picked ) (defBody s_picked) = true := by decide +kernel
abbrev s_sought : Stmt := topS 33
theorem sc_sought : FnScope N_sought ["note", "attempt"] (defScope s_sought) := ⟨rfl, rfl, rfl, by decide +kernel, rfl, by decide +kernel, by decide +kernel⟩
theorem ck_sought : chkSs N_sought (defScope s_sought) (b_sought ) (defBody s_sought) = true := by decide +kernel
abbrev s_places_of : Stmt := topS 34
theorem sc_places_of : FnScope N_places_of ["words", "text", "back"] (defScope s_places_of) := ⟨rfl, rfl, rfl, by decide +kernel, rfl, by decide +kernel, by decide +kernel⟩
theorem ck_places_of : chkSs N_places_of (defScope s_places_of) (b_places_of ) (defBody s_places_of) = true := by decide +kernel
abbrev s_attempt_matches : Stmt := topS 36
theorem sc_attempt_matches : FnScope N_attempt_matches ["note", "attempt", "text"] (defScope s_attempt_matches) := ⟨rfl, rfl, rfl, by decide +kernel, rfl, by decide +kernel, by decide +kernel⟩
theorem ck_attempt_matches : chkSs N_attempt_matches (defScope s_attempt_matches) (b_attempt_matches S_sought S_places_of) (defBody s_attempt_matches) = true := by decide +kernel
abbrev s_found_in : Stmt := topS 38
theorem sc_found_in : FnScope N_found_in ["note", "policy", "text"] (defScope s_found_in) := ⟨rfl, rfl, rfl, by decide +kernel, rfl, by decide +kernel, by decide +kernel⟩
theorem ck_found_in : chkSs N_found_in (defScope s_found_in) (b_found_in S_picked S_attempt_matches) (defBody s_found_in) = true := by decide +kernel
abbrev s_Page_fate : Stmt := clsBody (topS 55) 11
theorem sc_Page_fate : FnScope N_Page_fate ["self", "name", "policy"] (defScope s_Page_fate) := ⟨rfl, rfl, rfl, by decide +kernel, rfl, by decide +kernel, by decide +kernel⟩
theorem ck_Page_fate : chkSs N_Page_fate (defScope s_Page_fate) (b_Page_fate S_Page_row_of S_need_policy S_fate_at S_found_in) (defBody s_Page_fate) = true := by decide +kernel
abbrev s_is_note : Stmt := topS 23
theorem sc_is_note : FnScope N_is_note ["value"] (defScope s_is_note) := ⟨rfl, rfl, rfl, by decide +kernel, rfl, by decide +kernel, by decide +kernel⟩
theorem ck_is_note : chkSs N_is_note (defScope s_is_note) (b_is_note S_is_word S_are_words) (defBody s_is_note) = true := by decide +kernel
abbrev s_need_note : Stmt := topS 28
theorem sc_need_note : FnScope N_need_note ["value"] (defScope s_need_note) := ⟨rfl, rfl, rfl, by decide +kernel, rfl, by decide +kernel, by decide +kernel⟩
theorem ck_need_note : chkSs N_need_note (defScope s_need_note) (b_need_note S_is_note) (defBody s_need_note) = true := by decide +kernel
abbrev s_need_both : Stmt := topS 30
theorem sc_need_both : FnScope N_need_both ["note", "policy"] (defScope s_need_both) := ⟨rfl, rfl, rfl, by decide +kernel, rfl, by decide +kernel, by decide +kernel⟩
theorem ck_need_both : chkSs N_need_both (defScope s_need_both) (b_need_both S_need_note S_need_policy) (defBody s_need_both) = true := by decide +kernel
abbrev s_words_of : Stmt := topS 32
theorem sc_words_of : FnScope N_words_of ["note"] (defScope s_words_of) := ⟨rfl, rfl, rfl, by decide +kernel, rfl, by decide +kernel, by decide +kernel⟩
theorem ck_words_of : chkSs N_words_of (defScope s_words_of) (b_words_of ) (defBody s_words_of) = true := by decide +kernel
abbrev s_note_places : Stmt := topS 35
theorem sc_note_places : FnScope N_note_places ["note", "text"] (defScope s_note_places) := ⟨rfl, rfl, rfl, by decide +kernel, rfl, by decide +kernel, by decide +kernel⟩
theorem ck_note_places : chkSs N_note_places (defScope s_note_places) (b_note_places S_places_of S_words_of) (defBody s_note_places) = true := by decide +kernel
abbrev s_fate : Stmt := topS 53
theorem sc_fate : FnScope N_fate ["note", "policy", "text", "place", "script"] (defScope s_fate) := ⟨rfl, rfl, rfl, by decide +kernel, rfl, by decide +kernel, by decide +kernel⟩
theorem ck_fate : chkSs N_fate (defScope s_fate) (b_fate S_need_both S_need_text S_is_from S_note_places S_need_script S_fate_at S_place_behind S_found_in S_text_behind) (defBody s_fate) = true := by decide +kernel
abbrev s_Page_seek : Stmt := clsBody (topS 55) 10
theorem sc_Page_seek : FnScope N_Page_seek ["self", "name", "policy"] (defScope s_Page_seek) := ⟨rfl, rfl, rfl, by decide +kernel, rfl, by decide +kernel, by decide +kernel⟩
theorem ck_Page_seek : chkSs N_Page_seek (defScope s_Page_seek) (b_Page_seek S_Page_row_of S_need_policy S_found_in) (defBody s_Page_seek) = true := by decide +kernel
abbrev s_find : Stmt := topS 39
theorem sc_find : FnScope N_find ["note", "policy", "text"] (defScope s_find) := ⟨rfl, rfl, rfl, by decide +kernel, rfl, by decide +kernel, by decide +kernel⟩
theorem ck_find : chkSs N_find (defScope s_find) (b_find S_need_both S_need_text S_found_in) (defBody s_find) = true := by decide +kernel
abbrev s_need_prices : Stmt := topS 45
theorem sc_need_prices : FnScope N_need_prices ["value"] (defScope s_need_prices) := ⟨rfl, rfl, rfl, by decide +kernel, rfl, by decide +kernel, by decide +kernel⟩
theorem ck_need_prices : chkSs N_need_prices (defScope s_need_prices) (b_need_prices S_is_from) (defBody s_need_prices) = true := by decide +kernel
abbrev s_price_of : Stmt := topS 48
theorem sc_price_of : FnScope N_price_of ["step", "prices"] (defScope s_price_of) := ⟨rfl, rfl, rfl, by decide +kernel, rfl, by decide +kernel, by decide +kernel⟩
theorem ck_price_of : chkSs N_price_of (defScope s_price_of) (b_price_of ) (defBody s_price_of) = true := by decide +kernel
abbrev s_price : Stmt := topS 49
theorem sc_price : FnScope N_price ["text", "script", "prices"] (defScope s_price) := ⟨rfl, rfl, rfl, by decide +kernel, rfl, by decide +kernel, by decide +kernel⟩
theorem ck_price : chkSs N_price (defScope s_price) (b_price S_need_script S_need_prices S_price_of) (defBody s_price) = true := by decide +kernel
abbrev s_Page_undo : Stmt := clsBody (topS 55) 16
theorem sc_Page_undo : FnScope N_Page_undo ["self"] (defScope s_Page_undo) := ⟨rfl, rfl, rfl, by decide +kernel, rfl, by decide +kernel, by decide +kernel⟩
theorem ck_Page_undo : chkSs N_Page_undo (defScope s_Page_undo) (b_Page_undo ) (defBody s_Page_undo) = true := by decide +kernel
abbrev s_law : Stmt := topS 70
theorem sc_law : FnScope N_law ["script"] (defScope s_law) := ⟨rfl, rfl, rfl, by decide +kernel, rfl, by decide +kernel, by decide +kernel⟩
theorem ck_law : chkSs N_law (defScope s_law) (b_law S__law_source S__law_note S__law_policy S__law_held S__law_script S__law_draw S_Page___init__ S_Page_add S__law_done S_Page_text S_changed S_Page_place S_new_place S_Page_fate S_fate S_Page_seek S_find S_price S_Page_undo S_Page_swap) (defBody s_law) = true := by decide +kernel
abbrev si_TooMany : Stmt := clsBody (topS 13) 0
theorem sci_TooMany : FnScope ["self", "limit"] ["self", "limit"] (defScope si_TooMany) := ⟨rfl, rfl, rfl, by decide +kernel, rfl, by decide +kernel, by decide +kernel⟩
variable [Tabs]
structure Top (K : Fg) (mg : Mg) : Prop where
  f__law_source : ∃ f fd, mg "_law_source" = some (.ref f) ∧ L2.Fun K "_law_source" "_law_source" s__law_source f fd
  f__law_draw : ∃ f fd, mg "_law_draw" = some (.ref f) ∧ L2.Fun K "_law_draw" "_law_draw" s__law_draw f fd
  f__law_choice : ∃ f fd, mg "_law_choice" = some (.ref f) ∧ L2.Fun K "_law_choice" "_law_choice" s__law_choice f fd
  f__law_menu : ∃ f fd, mg "_law_menu" = some (.ref f) ∧ L2.Fun K "_law_menu" "_law_menu" s__law_menu f fd
  f__law_row : ∃ f fd, mg "_law_row" = some (.ref f) ∧ L2.Fun K "_law_row" "_law_row" s__law_row f fd
  f__law_note : ∃ f fd, mg "_law_note" = some (.ref f) ∧ L2.Fun K "_law_note" "_law_note" s__law_note f fd
  f__law_attempt : ∃ f fd, mg "_law_attempt" = some (.ref f) ∧ L2.Fun K "_law_attempt" "_law_attempt" s__law_attempt f fd
  f__law_policy : ∃ f fd, mg "_law_policy" = some (.ref f) ∧ L2.Fun K "_law_policy" "_law_policy" s__law_policy f fd
  f__law_words : ∃ f fd, mg "_law_words" = some (.ref f) ∧ L2.Fun K "_law_words" "_law_words" s__law_words f fd
  f__law_text : ∃ f fd, mg "_law_text" = some (.ref f) ∧ L2.Fun K "_law_text" "_law_text" s__law_text f fd
  f__law_held : ∃ f fd, mg "_law_held" = some (.ref f) ∧ L2.Fun K "_law_held" "_law_held" s__law_held f fd
  f__law_script : ∃ f fd, mg "_law_script" = some (.ref f) ∧ L2.Fun K "_law_script" "_law_script" s__law_script f fd
  f_is_word : ∃ f fd, mg "is_word" = some (.ref f) ∧ L2.Fun K "is_word" "is_word" s_is_word f fd
  f_are_words : ∃ f fd, mg "are_words" = some (.ref f) ∧ L2.Fun K "are_words" "are_words" s_are_words f fd
  f_is_text : ∃ f fd, mg "is_text" = some (.ref f) ∧ L2.Fun K "is_text" "is_text" s_is_text f fd
  f_need_text : ∃ f fd, mg "need_text" = some (.ref f) ∧ L2.Fun K "need_text" "need_text" s_need_text f fd
  f_Page___init__ : ∃ C f fd, mg "Page" = some (.ref C) ∧ ClsAt K "Page" C ∧ L2.Mk K C f ∧ L2.Fun K "__init__" "Page.__init__" s_Page___init__ f fd
  f_is_from : ∃ f fd, mg "is_from" = some (.ref f) ∧ L2.Fun K "is_from" "is_from" s_is_from f fd
  f_Page_need_place : ∃ f fd, (∀ C, ClsAt K "Page" C → L2.Cls K C ∧ L2.Meth K C "need_place" f) ∧ L2.Fun K "need_place" "Page.need_place" s_Page_need_place f fd
  f_Page_go_on : ∃ f fd, (∀ C, ClsAt K "Page" C → L2.Cls K C ∧ L2.Meth K C "go_on" f) ∧ L2.Fun K "go_on" "Page.go_on" s_Page_go_on f fd
  f_Page_add : ∃ f fd, (∀ C, ClsAt K "Page" C → L2.Cls K C ∧ L2.Meth K C "add" f) ∧ L2.Fun K "add" "Page.add" s_Page_add f fd
  f_Page_moved : ∃ f fd, (∀ C, ClsAt K "Page" C → L2.Cls K C ∧ L2.Meth K C "moved" f) ∧ L2.Fun K "moved" "Page.moved" s_Page_moved f fd
  f_Page_put : ∃ f fd, (∀ C, ClsAt K "Page" C → L2.Cls K C ∧ L2.Meth K C "put" f) ∧ L2.Fun K "put" "Page.put" s_Page_put f fd
  f_Page_out : ∃ f fd, (∀ C, ClsAt K "Page" C → L2.Cls K C ∧ L2.Meth K C "out" f) ∧ L2.Fun K "out" "Page.out" s_Page_out f fd
  f_Page_swap : ∃ f fd, (∀ C, ClsAt K "Page" C → L2.Cls K C ∧ L2.Meth K C "swap" f) ∧ L2.Fun K "swap" "Page.swap" s_Page_swap f fd
  f__law_done : ∃ f fd, mg "_law_done" = some (.ref f) ∧ L2.Fun K "_law_done" "_law_done" s__law_done f fd
  f_Page_text : ∃ p f fd, (∀ C, ClsAt K "Page" C → L2.Cls K C ∧ L2.PropOf K C "text" p f) ∧ L2.Fun K "text" "Page.text" s_Page_text f fd
  f_has_script : ∃ f fd, mg "has_script" = some (.ref f) ∧ L2.Fun K "has_script" "has_script" s_has_script f fd
  f_need_script : ∃ f fd, mg "need_script" = some (.ref f) ∧ L2.Fun K "need_script" "need_script" s_need_script f fd
  f_text_behind : ∃ f fd, mg "text_behind" = some (.ref f) ∧ L2.Fun K "text_behind" "text_behind" s_text_behind f fd
  f_changed : ∃ f fd, mg "changed" = some (.ref f) ∧ L2.Fun K "changed" "changed" s_changed f fd
  f_Page_row_of : ∃ f fd, (∀ C, ClsAt K "Page" C → L2.Cls K C ∧ L2.Meth K C "row_of" f) ∧ L2.Fun K "row_of" "Page.row_of" s_Page_row_of f fd
  f_Page_place : ∃ f fd, (∀ C, ClsAt K "Page" C → L2.Cls K C ∧ L2.Meth K C "place" f) ∧ L2.Fun K "place" "Page.place" s_Page_place f fd
  f_place_behind : ∃ f fd, mg "place_behind" = some (.ref f) ∧ L2.Fun K "place_behind" "place_behind" s_place_behind f fd
  f_new_place : ∃ f fd, mg "new_place" = some (.ref f) ∧ L2.Fun K "new_place" "new_place" s_new_place f fd
  f_is_pick : ∃ f fd, mg "is_pick" = some (.ref f) ∧ L2.Fun K "is_pick" "is_pick" s_is_pick f fd
  f_is_attempt : ∃ f fd, mg "is_attempt" = some (.ref f) ∧ L2.Fun K "is_attempt" "is_attempt" s_is_attempt f fd
  f_is_policy : ∃ f fd, mg "is_policy" = some (.ref f) ∧ L2.Fun K "is_policy" "is_policy" s_is_policy f fd
  f_need_policy : ∃ f fd, mg "need_policy" = some (.ref f) ∧ L2.Fun K "need_policy" "need_policy" s_need_policy f fd
  f_fate_at : ∃ f fd, mg "fate_at" = some (.ref f) ∧ L2.Fun K "fate_at" "fate_at" s_fate_at f fd
  f_picked : ∃ f fd, mg "picked" = some (.ref f) ∧ L2.Fun K "picked" "picked" s_picked f fd
  f_sought : ∃ f fd, mg "sought" = some (.ref f) ∧ L2.Fun K "sought" "sought" s_sought f fd
  f_places_of : ∃ f fd, mg "places_of" = some (.ref f) ∧ L2.Fun K "places_of" "places_of" s_places_of f fd
  f_attempt_matches : ∃ f fd, mg "attempt_matches" = some (.ref f) ∧ L2.Fun K "attempt_matches" "attempt_matches" s_attempt_matches f fd
  f_found_in : ∃ f fd, mg "found_in" = some (.ref f) ∧ L2.Fun K "found_in" "found_in" s_found_in f fd
  f_Page_fate : ∃ f fd, (∀ C, ClsAt K "Page" C → L2.Cls K C ∧ L2.Meth K C "fate" f) ∧ L2.Fun K "fate" "Page.fate" s_Page_fate f fd
  f_is_note : ∃ f fd, mg "is_note" = some (.ref f) ∧ L2.Fun K "is_note" "is_note" s_is_note f fd
  f_need_note : ∃ f fd, mg "need_note" = some (.ref f) ∧ L2.Fun K "need_note" "need_note" s_need_note f fd
  f_need_both : ∃ f fd, mg "need_both" = some (.ref f) ∧ L2.Fun K "need_both" "need_both" s_need_both f fd
  f_words_of : ∃ f fd, mg "words_of" = some (.ref f) ∧ L2.Fun K "words_of" "words_of" s_words_of f fd
  f_note_places : ∃ f fd, mg "note_places" = some (.ref f) ∧ L2.Fun K "note_places" "note_places" s_note_places f fd
  f_fate : ∃ f fd, mg "fate" = some (.ref f) ∧ L2.Fun K "fate" "fate" s_fate f fd
  f_Page_seek : ∃ f fd, (∀ C, ClsAt K "Page" C → L2.Cls K C ∧ L2.Meth K C "seek" f) ∧ L2.Fun K "seek" "Page.seek" s_Page_seek f fd
  f_find : ∃ f fd, mg "find" = some (.ref f) ∧ L2.Fun K "find" "find" s_find f fd
  f_need_prices : ∃ f fd, mg "need_prices" = some (.ref f) ∧ L2.Fun K "need_prices" "need_prices" s_need_prices f fd
  f_price_of : ∃ f fd, mg "price_of" = some (.ref f) ∧ L2.Fun K "price_of" "price_of" s_price_of f fd
  f_price : ∃ f fd dvs, mg "price" = some (.ref f) ∧ L2.FunD K "price" "price" (defArgs s_price) (defBody s_price) (defScope s_price) dvs [] f fd ∧ dvs.length = 1 ∧ ∀ R n μ H, Reps K R n μ H [.tup [(.int 1), (.int 1), (.int 1)]] dvs
  f_Page_undo : ∃ f fd, (∀ C, ClsAt K "Page" C → L2.Cls K C ∧ L2.Meth K C "undo" f) ∧ L2.Fun K "undo" "Page.undo" s_Page_undo f fd
  f_law : ∃ f fd, mg "law" = some (.ref f) ∧ L2.Fun K "law" "law" s_law f fd
  a_Page_now : ∀ (P : Program) (w : World) (base : Heap) (k : Nat), AttD ⟨P, w, K, mg, base, k⟩ "Page" "now"
  a_Page_past : ∀ (P : Program) (w : World) (base : Heap) (k : Nat), AttD ⟨P, w, K, mg, base, k⟩ "Page" "past"
  g_LETTERS : ∀ (P : Program) (w : World) (base : Heap) (k : Nat), GlobD ⟨P, w, K, mg, base, k⟩ "LETTERS" c_LETTERS
  g_MOST_WORDS : ∀ (P : Program) (w : World) (base : Heap) (k : Nat), GlobD ⟨P, w, K, mg, base, k⟩ "MOST_WORDS" c_MOST_WORDS
  g_MOST_AROUND : ∀ (P : Program) (w : World) (base : Heap) (k : Nat), GlobD ⟨P, w, K, mg, base, k⟩ "MOST_AROUND" c_MOST_AROUND
  g_MOST_STEPS : ∀ (P : Program) (w : World) (base : Heap) (k : Nat), GlobD ⟨P, w, K, mg, base, k⟩ "MOST_STEPS" c_MOST_STEPS
  g_PICKS : ∀ (P : Program) (w : World) (base : Heap) (k : Nat), GlobD ⟨P, w, K, mg, base, k⟩ "PICKS" c_PICKS
  g_MOST_ATTEMPTS : ∀ (P : Program) (w : World) (base : Heap) (k : Nat), GlobD ⟨P, w, K, mg, base, k⟩ "MOST_ATTEMPTS" c_MOST_ATTEMPTS
  g_MOST_PRICE : ∀ (P : Program) (w : World) (base : Heap) (k : Nat), GlobD ⟨P, w, K, mg, base, k⟩ "MOST_PRICE" c_MOST_PRICE
  x_InvalidText : ∀ (P : Program) (w : World) (base : Heap) (k : Nat), ExcD ⟨P, w, K, mg, base, k⟩ "InvalidText"
  x_InvalidPlace : ∀ (P : Program) (w : World) (base : Heap) (k : Nat), ExcD ⟨P, w, K, mg, base, k⟩ "InvalidPlace"
  x_InvalidName : ∀ (P : Program) (w : World) (base : Heap) (k : Nat), ExcD ⟨P, w, K, mg, base, k⟩ "InvalidName"
  x_InvalidNumber : ∀ (P : Program) (w : World) (base : Heap) (k : Nat), ExcD ⟨P, w, K, mg, base, k⟩ "InvalidNumber"
  x_InvalidWord : ∀ (P : Program) (w : World) (base : Heap) (k : Nat), ExcD ⟨P, w, K, mg, base, k⟩ "InvalidWord"
  x_InvalidScript : ∀ (P : Program) (w : World) (base : Heap) (k : Nat), ExcD ⟨P, w, K, mg, base, k⟩ "InvalidScript"
  x_InvalidPolicy : ∀ (P : Program) (w : World) (base : Heap) (k : Nat), ExcD ⟨P, w, K, mg, base, k⟩ "InvalidPolicy"
  x_InvalidNote : ∀ (P : Program) (w : World) (base : Heap) (k : Nat), ExcD ⟨P, w, K, mg, base, k⟩ "InvalidNote"
  x_InvalidPrices : ∀ (P : Program) (w : World) (base : Heap) (k : Nat), ExcD ⟨P, w, K, mg, base, k⟩ "InvalidPrices"
  x_NothingToUndo : ∀ (P : Program) (w : World) (base : Heap) (k : Nat), ExcD ⟨P, w, K, mg, base, k⟩ "NothingToUndo"
  fx_TooMany : ∀ (P : Program) (w : World) (base : Heap) (k : Nat), 2 ≤ k → ExcF ⟨P, w, K, mg, base, k⟩ "TooMany" "limit"
  nb : ∀ x ∈ BN, mg x = none
section
variable {P : Program} {w : World} {K : Fg} {mg : Mg} {base : Heap}
theorem ok__law_source (X : Top K mg) (hw : Tabs.w = w) : FnAt P w K mg base 1 "_law_source" ["script", "k"] 2 S__law_source := by
  obtain ⟨f, fd, e, F⟩ := X.f__law_source
  refine FnAt.mk' e F sc__law_source rfl (fun _ _ _ _ _ _ us hl => match us, hl with | [_, _], _ => rfl) X.nb hw ck__law_source ?_ (fun args h hl => .inr ⟨1000000000, .same _⟩)
  simp only [b__law_source, okSs, okS, okE, okEs, and_true, true_and, and_self]
theorem ok__law_draw (X : Top K mg) (hw : Tabs.w = w) : FnAt P w K mg base 1 "_law_draw" ["source", "many"] 2 S__law_draw := by
  obtain ⟨f, fd, e, F⟩ := X.f__law_draw
  refine FnAt.mk' e F sc__law_draw rfl (fun _ _ _ _ _ _ us hl => match us, hl with | [_, _], _ => rfl) X.nb hw ck__law_draw ?_ (fun args h hl => .inr ⟨1000000000, .same _⟩)
  simp only [b__law_draw, okSs, okS, okE, okEs, and_true, true_and, and_self]
theorem ok__law_choice (X : Top K mg) (hw : Tabs.w = w) : FnAt P w K mg base 2 "_law_choice" ["source", "rows"] 2 S__law_choice := by
  have c_law_draw_0 := (ok__law_draw (P := P) (w := w) (base := base) X hw).fnD (k := 1) (by omega)
  obtain ⟨f, fd, e, F⟩ := X.f__law_choice
  refine FnAt.mk' e F sc__law_choice rfl (fun _ _ _ _ _ _ us hl => match us, hl with | [_, _], _ => rfl) X.nb hw ck__law_choice ?_ (fun args h hl => .inr ⟨1000000000, .same _⟩)
  simp only [b__law_choice, okSs, okS, okE, okEs, and_true, true_and, and_self, c_law_draw_0]
theorem ok__law_menu (X : Top K mg) (hw : Tabs.w = w) : FnAt P w K mg base 3 "_law_menu" ["source"] 1 S__law_menu := by
  have c_law_choice_0 := (ok__law_choice (P := P) (w := w) (base := base) X hw).fnD (k := 2) (by omega)
  obtain ⟨f, fd, e, F⟩ := X.f__law_menu
  refine FnAt.mk' e F sc__law_menu rfl (fun _ _ _ _ _ _ us hl => match us, hl with | [_], _ => rfl) X.nb hw ck__law_menu ?_ (fun args h hl => .inr ⟨1000000000, .same _⟩)
  simp only [b__law_menu, okSs, okS, okE, okEs, and_true, true_and, and_self, c_law_choice_0]
theorem ok__law_row (X : Top K mg) (hw : Tabs.w = w) : FnAt P w K mg base 3 "_law_row" ["source", "words", "most"] 3 S__law_row := by
  have c_law_draw_0 := (ok__law_draw (P := P) (w := w) (base := base) X hw).fnD (k := 2) (by omega)
  have c_law_choice_0 := (ok__law_choice (P := P) (w := w) (base := base) X hw).fnD (k := 2) (by omega)
  obtain ⟨f, fd, e, F⟩ := X.f__law_row
  refine FnAt.mk' e F sc__law_row rfl (fun _ _ _ _ _ _ us hl => match us, hl with | [_, _, _], _ => rfl) X.nb hw ck__law_row ?_ (fun args h hl => .inr ⟨1000000000, .same _⟩)
  simp only [b__law_row, okSs, okS, okE, okEs, and_true, true_and, and_self, c_law_draw_0, c_law_choice_0]
theorem ok__law_note (X : Top K mg) (hw : Tabs.w = w) : FnAt P w K mg base 4 "_law_note" ["source", "most"] 2 S__law_note := by
  have c_law_menu_0 := (ok__law_menu (P := P) (w := w) (base := base) X hw).fnD (k := 3) (by omega)
  have c_law_row_0 := (ok__law_row (P := P) (w := w) (base := base) X hw).fnD (k := 3) (by omega)
  have c_law_choice_0 := (ok__law_choice (P := P) (w := w) (base := base) X hw).fnD (k := 3) (by omega)
  obtain ⟨f, fd, e, F⟩ := X.f__law_note
  refine FnAt.mk' e F sc__law_note rfl (fun _ _ _ _ _ _ us hl => match us, hl with | [_, _], _ => rfl) X.nb hw ck__law_note ?_ (fun args h hl => .inr ⟨1000000000, .same _⟩)
  simp only [b__law_note, okSs, okS, okE, okEs, and_true, true_and, and_self, c_law_menu_0, c_law_row_0, c_law_choice_0]
theorem ok__law_attempt (X : Top K mg) (hw : Tabs.w = w) : FnAt P w K mg base 3 "_law_attempt" ["source", "most"] 2 S__law_attempt := by
  have c_law_choice_0 := (ok__law_choice (P := P) (w := w) (base := base) X hw).fnD (k := 2) (by omega)
  have c_law_draw_0 := (ok__law_draw (P := P) (w := w) (base := base) X hw).fnD (k := 2) (by omega)
  obtain ⟨f, fd, e, F⟩ := X.f__law_attempt
  refine FnAt.mk' e F sc__law_attempt rfl (fun _ _ _ _ _ _ us hl => match us, hl with | [_, _], _ => rfl) X.nb hw ck__law_attempt ?_ (fun args h hl => .inr ⟨1000000000, .same _⟩)
  simp only [b__law_attempt, okSs, okS, okE, okEs, and_true, true_and, and_self, c_law_choice_0, c_law_draw_0]
theorem ok__law_policy (X : Top K mg) (hw : Tabs.w = w) : FnAt P w K mg base 4 "_law_policy" ["source", "most"] 2 S__law_policy := by
  have c_law_draw_0 := (ok__law_draw (P := P) (w := w) (base := base) X hw).fnD (k := 3) (by omega)
  have c_law_attempt_0 := (ok__law_attempt (P := P) (w := w) (base := base) X hw).fnD (k := 3) (by omega)
  obtain ⟨f, fd, e, F⟩ := X.f__law_policy
  refine FnAt.mk' e F sc__law_policy rfl (fun _ _ _ _ _ _ us hl => match us, hl with | [_, _], _ => rfl) X.nb hw ck__law_policy ?_ (fun args h hl => .inr ⟨1000000000, .same _⟩)
  simp only [b__law_policy, okSs, okS, okE, okEs, and_true, true_and, and_self, c_law_draw_0, c_law_attempt_0]
theorem ok__law_words (X : Top K mg) (hw : Tabs.w = w) : FnAt P w K mg base 1 "_law_words" ["note"] 1 S__law_words := by
  obtain ⟨f, fd, e, F⟩ := X.f__law_words
  refine FnAt.mk' e F sc__law_words rfl (fun _ _ _ _ _ _ us hl => match us, hl with | [_], _ => rfl) X.nb hw ck__law_words ?_ (fun args h hl => .inr ⟨1000000000, .same _⟩)
  simp only [b__law_words, okSs, okS, okE, okEs, and_true, true_and, and_self]
theorem ok__law_text (X : Top K mg) (hw : Tabs.w = w) : FnAt P w K mg base 3 "_law_text" ["source", "note", "most"] 3 S__law_text := by
  have c_law_draw_0 := (ok__law_draw (P := P) (w := w) (base := base) X hw).fnD (k := 2) (by omega)
  have c_law_words_0 := (ok__law_words (P := P) (w := w) (base := base) X hw).fnD (k := 2) (by omega)
  have c_law_choice_0 := (ok__law_choice (P := P) (w := w) (base := base) X hw).fnD (k := 2) (by omega)
  obtain ⟨f, fd, e, F⟩ := X.f__law_text
  refine FnAt.mk' e F sc__law_text rfl (fun _ _ _ _ _ _ us hl => match us, hl with | [_, _, _], _ => rfl) X.nb hw ck__law_text ?_ (fun args h hl => .inr ⟨1000000000, .same _⟩)
  simp only [b__law_text, okSs, okS, okE, okEs, and_true, true_and, and_self, c_law_draw_0, c_law_words_0, c_law_choice_0]
theorem ok__law_held (X : Top K mg) (hw : Tabs.w = w) : FnAt P w K mg base 4 "_law_held" ["source", "note", "most"] 3 S__law_held := by
  have c_law_text_0 := (ok__law_text (P := P) (w := w) (base := base) X hw).fnD (k := 3) (by omega)
  have c_law_words_0 := (ok__law_words (P := P) (w := w) (base := base) X hw).fnD (k := 3) (by omega)
  obtain ⟨f, fd, e, F⟩ := X.f__law_held
  refine FnAt.mk' e F sc__law_held rfl (fun _ _ _ _ _ _ us hl => match us, hl with | [_, _, _], _ => rfl) X.nb hw ck__law_held ?_ (fun args h hl => .inr ⟨1000000000, .same _⟩)
  simp only [b__law_held, okSs, okS, okE, okEs, and_true, true_and, and_self, c_law_text_0, c_law_words_0]
theorem ok__law_script (X : Top K mg) (hw : Tabs.w = w) : FnAt P w K mg base 3 "_law_script" ["source", "text", "rate"] 3 S__law_script := by
  have c_law_draw_0 := (ok__law_draw (P := P) (w := w) (base := base) X hw).fnD (k := 2) (by omega)
  have c_law_choice_0 := (ok__law_choice (P := P) (w := w) (base := base) X hw).fnD (k := 2) (by omega)
  obtain ⟨f, fd, e, F⟩ := X.f__law_script
  refine FnAt.mk' e F sc__law_script rfl (fun _ _ _ _ _ _ us hl => match us, hl with | [_, _, _], _ => rfl) X.nb hw ck__law_script ?_ (fun args h hl => .inr ⟨1000000000, .same _⟩)
  simp only [b__law_script, okSs, okS, okE, okEs, and_true, true_and, and_self, c_law_draw_0, c_law_choice_0]
theorem ok_is_word (X : Top K mg) (hw : Tabs.w = w) : FnAt P w K mg base 1 "is_word" ["value"] 1 S_is_word := by
  have g_LETTERS := X.g_LETTERS P w base 0
  obtain ⟨f, fd, e, F⟩ := X.f_is_word
  refine FnAt.mk' e F sc_is_word rfl (fun _ _ _ _ _ _ us hl => match us, hl with | [_], _ => rfl) X.nb hw ck_is_word ?_ (fun args h hl => .inr ⟨1000000000, .same _⟩)
  simp only [b_is_word, okSs, okS, okE, okEs, and_true, true_and, and_self, g_LETTERS]
theorem ok_are_words (X : Top K mg) (hw : Tabs.w = w) : FnAt P w K mg base 2 "are_words" ["value", "most"] 2 S_are_words := by
  have cis_word_0 := (ok_is_word (P := P) (w := w) (base := base) X hw).fnD (k := 1) (by omega)
  obtain ⟨f, fd, e, F⟩ := X.f_are_words
  refine FnAt.mk' e F sc_are_words rfl (fun _ _ _ _ _ _ us hl => match us, hl with | [_, _], _ => rfl) X.nb hw ck_are_words ?_ (fun args h hl => .inr ⟨1000000000, .same _⟩)
  simp only [b_are_words, okSs, okS, okE, okEs, and_true, true_and, and_self, cis_word_0]
theorem ok_is_text (X : Top K mg) (hw : Tabs.w = w) : FnAt P w K mg base 3 "is_text" ["value"] 1 S_is_text := by
  have care_words_0 := (ok_are_words (P := P) (w := w) (base := base) X hw).fnD (k := 2) (by omega)
  have g_MOST_WORDS := X.g_MOST_WORDS P w base 2
  obtain ⟨f, fd, e, F⟩ := X.f_is_text
  refine FnAt.mk' e F sc_is_text rfl (fun _ _ _ _ _ _ us hl => match us, hl with | [_], _ => rfl) X.nb hw ck_is_text ?_ (fun args h hl => .inr ⟨1000000000, .same _⟩)
  simp only [b_is_text, okSs, okS, okE, okEs, and_true, true_and, and_self, care_words_0, g_MOST_WORDS]
theorem ok_need_text (X : Top K mg) (hw : Tabs.w = w) : FnAt P w K mg base 4 "need_text" ["value"] 1 S_need_text := by
  have cis_text_0 := (ok_is_text (P := P) (w := w) (base := base) X hw).fnD (k := 3) (by omega)
  have x_InvalidText := X.x_InvalidText P w base 3
  obtain ⟨f, fd, e, F⟩ := X.f_need_text
  refine FnAt.mk' e F sc_need_text rfl (fun _ _ _ _ _ _ us hl => match us, hl with | [_], _ => rfl) X.nb hw ck_need_text ?_ (fun args h hl => .inr ⟨1000000000, .same _⟩)
  simp only [b_need_text, okSs, okS, okE, okEs, and_true, true_and, and_self, cis_text_0, x_InvalidText]
theorem ok_Page___init__ (X : Top K mg) (hw : Tabs.w = w) : MkAt P w K mg base 5 "Page" ["self", "text"] 2 S_Page___init__ := by
  have cneed_text_0 := (ok_need_text (P := P) (w := w) (base := base) X hw).fnD (k := 4) (by omega)
  have a_Page_now := X.a_Page_now P w base 4
  have a_Page_past := X.a_Page_past P w base 4
  obtain ⟨C, f, fd, e1, e2, e3, F⟩ := X.f_Page___init__
  refine MkAt.mk' e1 e2 e3 F sc_Page___init__ rfl (fun _ _ _ _ _ _ us hl => match us, hl with | [_, _], _ => rfl) X.nb hw ck_Page___init__ ?_ (fun args h hl => .inr ⟨1000000000, .same _⟩)
  simp only [b_Page___init__, okSs, okS, okE, okEs, and_true, true_and, and_self, cneed_text_0, a_Page_now, a_Page_past]
theorem ok_is_from (X : Top K mg) (hw : Tabs.w = w) : FnAt P w K mg base 1 "is_from" ["value", "low", "high"] 3 S_is_from := by
  obtain ⟨f, fd, e, F⟩ := X.f_is_from
  refine FnAt.mk' e F sc_is_from rfl (fun _ _ _ _ _ _ us hl => match us, hl with | [_, _, _], _ => rfl) X.nb hw ck_is_from ?_ (fun args h hl => .inr ⟨1000000000, .same _⟩)
  simp only [b_is_from, okSs, okS, okE, okEs, and_true, true_and, and_self]
theorem ok_Page_need_place (X : Top K mg) (hw : Tabs.w = w) : MthAt P w K mg base 2 "Page" "need_place" ["self", "place", "more"] 3 S_Page_need_place := by
  have cis_from_0 := (ok_is_from (P := P) (w := w) (base := base) X hw).fnD (k := 1) (by omega)
  have x_InvalidPlace := X.x_InvalidPlace P w base 1
  have a_Page_now := X.a_Page_now P w base 1
  obtain ⟨f, fd, e, F⟩ := X.f_Page_need_place
  refine MthAt.mk' e F sc_Page_need_place rfl (fun _ _ _ _ _ _ us hl => match us, hl with | [_, _, _], _ => rfl) X.nb hw ck_Page_need_place ?_ (fun args h hl => .inr ⟨1000000000, .same _⟩)
  simp only [b_Page_need_place, okSs, okS, okE, okEs, and_true, true_and, and_self, cis_from_0, x_InvalidPlace, a_Page_now]
theorem ok_Page_go_on (X : Top K mg) (hw : Tabs.w = w) : MthAt P w K mg base 1 "Page" "go_on" ["self", "text", "rows"] 3 S_Page_go_on := by
  have a_Page_past := X.a_Page_past P w base 0
  have a_Page_now := X.a_Page_now P w base 0
  obtain ⟨f, fd, e, F⟩ := X.f_Page_go_on
  refine MthAt.mk' e F sc_Page_go_on rfl (fun _ _ _ _ _ _ us hl => match us, hl with | [_, _, _], _ => rfl) X.nb hw ck_Page_go_on ?_ (fun args h hl => .inr ⟨1000000000, .same _⟩)
  simp only [b_Page_go_on, okSs, okS, okE, okEs, and_true, true_and, and_self, a_Page_past, a_Page_now]
theorem ok_Page_add (X : Top K mg) (hw : Tabs.w = w) : MthAt P w K mg base 3 "Page" "add" ["self", "name", "place", "ahead", "behind"] 5 S_Page_add := by
  have cis_word_0 := (ok_is_word (P := P) (w := w) (base := base) X hw).fnD (k := 2) (by omega)
  have cPage_need_place_0 := (ok_Page_need_place (P := P) (w := w) (base := base) X hw).mthD (k := 2) (by omega)
  have cis_from_0 := (ok_is_from (P := P) (w := w) (base := base) X hw).fnD (k := 2) (by omega)
  have cPage_go_on_0 := (ok_Page_go_on (P := P) (w := w) (base := base) X hw).mthD (k := 2) (by omega)
  have x_InvalidName := X.x_InvalidName P w base 2
  have x_InvalidNumber := X.x_InvalidNumber P w base 2
  have g_MOST_AROUND := X.g_MOST_AROUND P w base 2
  have a_Page_now := X.a_Page_now P w base 2
  obtain ⟨f, fd, e, F⟩ := X.f_Page_add
  refine MthAt.mk' e F sc_Page_add rfl (fun _ _ _ _ _ _ us hl => match us, hl with | [_, _, _, _, _], _ => rfl) X.nb hw ck_Page_add ?_ (fun args h hl => .inr ⟨1000000000, .same _⟩)
  simp only [b_Page_add, okSs, okS, okE, okEs, and_true, true_and, and_self, cis_word_0, cPage_need_place_0, cis_from_0, cPage_go_on_0, x_InvalidName, x_InvalidNumber, g_MOST_AROUND, a_Page_now]
theorem ok_Page_moved (X : Top K mg) (hw : Tabs.w = w) : MthAt P w K mg base 1 "Page" "moved" ["self", "place", "more", "gone"] 4 S_Page_moved := by
  have a_Page_now := X.a_Page_now P w base 0
  obtain ⟨f, fd, e, F⟩ := X.f_Page_moved
  refine MthAt.mk' e F sc_Page_moved rfl (fun _ _ _ _ _ _ us hl => match us, hl with | [_, _, _, _], _ => rfl) X.nb hw ck_Page_moved ?_ (fun args h hl => .inr ⟨1000000000, .same _⟩)
  simp only [b_Page_moved, okSs, okS, okE, okEs, and_true, true_and, and_self, a_Page_now]
theorem ok_Page_put (X : Top K mg) (hw : Tabs.w = w) : MthAt P w K mg base 3 "Page" "put" ["self", "place", "word"] 3 S_Page_put := by
  have cPage_need_place_0 := (ok_Page_need_place (P := P) (w := w) (base := base) X hw).mthD (k := 2) (by omega)
  have cis_word_0 := (ok_is_word (P := P) (w := w) (base := base) X hw).fnD (k := 2) (by omega)
  have cPage_go_on_0 := (ok_Page_go_on (P := P) (w := w) (base := base) X hw).mthD (k := 2) (by omega)
  have cPage_moved_0 := (ok_Page_moved (P := P) (w := w) (base := base) X hw).mthD (k := 2) (by omega)
  have x_InvalidWord := X.x_InvalidWord P w base 2
  have fx_TooMany := X.fx_TooMany P w base 2 (by omega)
  have g_MOST_WORDS := X.g_MOST_WORDS P w base 2
  have a_Page_now := X.a_Page_now P w base 2
  obtain ⟨f, fd, e, F⟩ := X.f_Page_put
  refine MthAt.mk' e F sc_Page_put rfl (fun _ _ _ _ _ _ us hl => match us, hl with | [_, _, _], _ => rfl) X.nb hw ck_Page_put ?_ (fun args h hl => .inr ⟨1000000000, .same _⟩)
  simp only [b_Page_put, okSs, okS, okE, okEs, and_true, true_and, and_self, cPage_need_place_0, cis_word_0, cPage_go_on_0, cPage_moved_0, x_InvalidWord, fx_TooMany, g_MOST_WORDS, a_Page_now]
theorem ok_Page_out (X : Top K mg) (hw : Tabs.w = w) : MthAt P w K mg base 3 "Page" "out" ["self", "place"] 2 S_Page_out := by
  have cPage_need_place_0 := (ok_Page_need_place (P := P) (w := w) (base := base) X hw).mthD (k := 2) (by omega)
  have cPage_go_on_0 := (ok_Page_go_on (P := P) (w := w) (base := base) X hw).mthD (k := 2) (by omega)
  have cPage_moved_0 := (ok_Page_moved (P := P) (w := w) (base := base) X hw).mthD (k := 2) (by omega)
  have a_Page_now := X.a_Page_now P w base 2
  obtain ⟨f, fd, e, F⟩ := X.f_Page_out
  refine MthAt.mk' e F sc_Page_out rfl (fun _ _ _ _ _ _ us hl => match us, hl with | [_, _], _ => rfl) X.nb hw ck_Page_out ?_ (fun args h hl => .inr ⟨1000000000, .same _⟩)
  simp only [b_Page_out, okSs, okS, okE, okEs, and_true, true_and, and_self, cPage_need_place_0, cPage_go_on_0, cPage_moved_0, a_Page_now]
theorem ok_Page_swap (X : Top K mg) (hw : Tabs.w = w) : MthAt P w K mg base 3 "Page" "swap" ["self", "place", "word"] 3 S_Page_swap := by
  have cPage_need_place_0 := (ok_Page_need_place (P := P) (w := w) (base := base) X hw).mthD (k := 2) (by omega)
  have cis_word_0 := (ok_is_word (P := P) (w := w) (base := base) X hw).fnD (k := 2) (by omega)
  have cPage_go_on_0 := (ok_Page_go_on (P := P) (w := w) (base := base) X hw).mthD (k := 2) (by omega)
  have cPage_moved_0 := (ok_Page_moved (P := P) (w := w) (base := base) X hw).mthD (k := 2) (by omega)
  have x_InvalidWord := X.x_InvalidWord P w base 2
  have a_Page_now := X.a_Page_now P w base 2
  obtain ⟨f, fd, e, F⟩ := X.f_Page_swap
  refine MthAt.mk' e F sc_Page_swap rfl (fun _ _ _ _ _ _ us hl => match us, hl with | [_, _, _], _ => rfl) X.nb hw ck_Page_swap ?_ (fun args h hl => .inr ⟨1000000000, .same _⟩)
  simp only [b_Page_swap, okSs, okS, okE, okEs, and_true, true_and, and_self, cPage_need_place_0, cis_word_0, cPage_go_on_0, cPage_moved_0, x_InvalidWord, a_Page_now]
theorem ok__law_done (X : Top K mg) (hw : Tabs.w = w) : FnAt P w K mg base 4 "_law_done" ["page", "script"] 2 S__law_done := by
  have cPage_put_0 := (ok_Page_put (P := P) (w := w) (base := base) X hw).mthD (k := 3) (by omega)
  have cPage_out_0 := (ok_Page_out (P := P) (w := w) (base := base) X hw).mthD (k := 3) (by omega)
  have cPage_swap_0 := (ok_Page_swap (P := P) (w := w) (base := base) X hw).mthD (k := 3) (by omega)
  obtain ⟨f, fd, e, F⟩ := X.f__law_done
  refine FnAt.mk' e F sc__law_done rfl (fun _ _ _ _ _ _ us hl => match us, hl with | [_, _], _ => rfl) X.nb hw ck__law_done ?_ (fun args h hl => .inr ⟨1000000000, .same _⟩)
  simp only [b__law_done, okSs, okS, okE, okEs, and_true, true_and, and_self, cPage_put_0, cPage_out_0, cPage_swap_0]
theorem ok_Page_text (X : Top K mg) (hw : Tabs.w = w) : PrpAt P w K mg base 1 "Page" "text" S_Page_text := by
  have a_Page_now := X.a_Page_now P w base 0
  obtain ⟨p, f, fd, e, F⟩ := X.f_Page_text
  refine PrpAt.mk' e F sc_Page_text rfl (fun _ _ _ _ _ _ us hl => match us, hl with | [_], _ => rfl) X.nb hw ck_Page_text ?_ (fun args h hl => .inr ⟨1000000000, .same _⟩)
  simp only [b_Page_text, okSs, okS, okE, okEs, and_true, true_and, and_self, a_Page_now]
theorem ok_has_script (X : Top K mg) (hw : Tabs.w = w) : FnAt P w K mg base 2 "has_script" ["text", "value"] 2 S_has_script := by
  have cis_word_0 := (ok_is_word (P := P) (w := w) (base := base) X hw).fnD (k := 1) (by omega)
  have g_MOST_STEPS := X.g_MOST_STEPS P w base 1
  have g_MOST_WORDS := X.g_MOST_WORDS P w base 1
  obtain ⟨f, fd, e, F⟩ := X.f_has_script
  refine FnAt.mk' e F sc_has_script rfl (fun _ _ _ _ _ _ us hl => match us, hl with | [_, _], _ => rfl) X.nb hw ck_has_script ?_ (fun args h hl => .inr ⟨1000000000, .same _⟩)
  simp only [b_has_script, okSs, okS, okE, okEs, and_true, true_and, and_self, cis_word_0, g_MOST_STEPS, g_MOST_WORDS]
theorem ok_need_script (X : Top K mg) (hw : Tabs.w = w) : FnAt P w K mg base 5 "need_script" ["text", "value"] 2 S_need_script := by
  have cneed_text_0 := (ok_need_text (P := P) (w := w) (base := base) X hw).fnD (k := 4) (by omega)
  have chas_script_0 := (ok_has_script (P := P) (w := w) (base := base) X hw).fnD (k := 4) (by omega)
  have x_InvalidScript := X.x_InvalidScript P w base 4
  obtain ⟨f, fd, e, F⟩ := X.f_need_script
  refine FnAt.mk' e F sc_need_script rfl (fun _ _ _ _ _ _ us hl => match us, hl with | [_, _], _ => rfl) X.nb hw ck_need_script ?_ (fun args h hl => .inr ⟨1000000000, .same _⟩)
  simp only [b_need_script, okSs, okS, okE, okEs, and_true, true_and, and_self, cneed_text_0, chas_script_0, x_InvalidScript]
theorem ok_text_behind (X : Top K mg) (hw : Tabs.w = w) : FnAt P w K mg base 1 "text_behind" ["text", "script"] 2 S_text_behind := by
  obtain ⟨f, fd, e, F⟩ := X.f_text_behind
  refine FnAt.mk' e F sc_text_behind rfl (fun _ _ _ _ _ _ us hl => match us, hl with | [_, _], _ => rfl) X.nb hw ck_text_behind ?_ (fun args h hl => .inr ⟨1000000000, .same _⟩)
  simp only [b_text_behind, okSs, okS, okE, okEs, and_true, true_and, and_self]
theorem ok_changed (X : Top K mg) (hw : Tabs.w = w) : FnAt P w K mg base 6 "changed" ["text", "script"] 2 S_changed := by
  have cneed_script_0 := (ok_need_script (P := P) (w := w) (base := base) X hw).fnD (k := 5) (by omega)
  have ctext_behind_0 := (ok_text_behind (P := P) (w := w) (base := base) X hw).fnD (k := 5) (by omega)
  obtain ⟨f, fd, e, F⟩ := X.f_changed
  refine FnAt.mk' e F sc_changed rfl (fun _ _ _ _ _ _ us hl => match us, hl with | [_, _], _ => rfl) X.nb hw ck_changed ?_ (fun args h hl => .inr ⟨1000000000, .same _⟩)
  simp only [b_changed, okSs, okS, okE, okEs, and_true, true_and, and_self, cneed_script_0, ctext_behind_0]
theorem ok_Page_row_of (X : Top K mg) (hw : Tabs.w = w) : MthAt P w K mg base 1 "Page" "row_of" ["self", "name"] 2 S_Page_row_of := by
  have x_InvalidName := X.x_InvalidName P w base 0
  have a_Page_now := X.a_Page_now P w base 0
  obtain ⟨f, fd, e, F⟩ := X.f_Page_row_of
  refine MthAt.mk' e F sc_Page_row_of rfl (fun _ _ _ _ _ _ us hl => match us, hl with | [_, _], _ => rfl) X.nb hw ck_Page_row_of ?_ (fun args h hl => .inr ⟨1000000000, .same _⟩)
  simp only [b_Page_row_of, okSs, okS, okE, okEs, and_true, true_and, and_self, x_InvalidName, a_Page_now]
theorem ok_Page_place (X : Top K mg) (hw : Tabs.w = w) : MthAt P w K mg base 2 "Page" "place" ["self", "name"] 2 S_Page_place := by
  have cPage_row_of_0 := (ok_Page_row_of (P := P) (w := w) (base := base) X hw).mthD (k := 1) (by omega)
  obtain ⟨f, fd, e, F⟩ := X.f_Page_place
  refine MthAt.mk' e F sc_Page_place rfl (fun _ _ _ _ _ _ us hl => match us, hl with | [_, _], _ => rfl) X.nb hw ck_Page_place ?_ (fun args h hl => .inr ⟨1000000000, .same _⟩)
  simp only [b_Page_place, okSs, okS, okE, okEs, and_true, true_and, and_self, cPage_row_of_0]
theorem ok_place_behind (X : Top K mg) (hw : Tabs.w = w) : FnAt P w K mg base 1 "place_behind" ["script", "place"] 2 S_place_behind := by
  obtain ⟨f, fd, e, F⟩ := X.f_place_behind
  refine FnAt.mk' e F sc_place_behind rfl (fun _ _ _ _ _ _ us hl => match us, hl with | [_, _], _ => rfl) X.nb hw ck_place_behind ?_ (fun args h hl => .inr ⟨1000000000, .same _⟩)
  simp only [b_place_behind, okSs, okS, okE, okEs, and_true, true_and, and_self]
theorem ok_new_place (X : Top K mg) (hw : Tabs.w = w) : FnAt P w K mg base 6 "new_place" ["text", "script", "place"] 3 S_new_place := by
  have cneed_script_0 := (ok_need_script (P := P) (w := w) (base := base) X hw).fnD (k := 5) (by omega)
  have cis_from_0 := (ok_is_from (P := P) (w := w) (base := base) X hw).fnD (k := 5) (by omega)
  have cplace_behind_0 := (ok_place_behind (P := P) (w := w) (base := base) X hw).fnD (k := 5) (by omega)
  have x_InvalidPlace := X.x_InvalidPlace P w base 5
  obtain ⟨f, fd, e, F⟩ := X.f_new_place
  refine FnAt.mk' e F sc_new_place rfl (fun _ _ _ _ _ _ us hl => match us, hl with | [_, _, _], _ => rfl) X.nb hw ck_new_place ?_ (fun args h hl => .inr ⟨1000000000, .same _⟩)
  simp only [b_new_place, okSs, okS, okE, okEs, and_true, true_and, and_self, cneed_script_0, cis_from_0, cplace_behind_0, x_InvalidPlace]
theorem ok_is_pick (X : Top K mg) (hw : Tabs.w = w) : FnAt P w K mg base 1 "is_pick" ["value"] 1 S_is_pick := by
  have g_PICKS := X.g_PICKS P w base 0
  obtain ⟨f, fd, e, F⟩ := X.f_is_pick
  refine FnAt.mk' e F sc_is_pick rfl (fun _ _ _ _ _ _ us hl => match us, hl with | [_], _ => rfl) X.nb hw ck_is_pick ?_ (fun args h hl => .inr ⟨1000000000, .same _⟩)
  simp only [b_is_pick, okSs, okS, okE, okEs, and_true, true_and, and_self, g_PICKS]
theorem ok_is_attempt (X : Top K mg) (hw : Tabs.w = w) : FnAt P w K mg base 2 "is_attempt" ["value"] 1 S_is_attempt := by
  have cis_pick_0 := (ok_is_pick (P := P) (w := w) (base := base) X hw).fnD (k := 1) (by omega)
  have cis_from_0 := (ok_is_from (P := P) (w := w) (base := base) X hw).fnD (k := 1) (by omega)
  have g_MOST_AROUND := X.g_MOST_AROUND P w base 1
  obtain ⟨f, fd, e, F⟩ := X.f_is_attempt
  refine FnAt.mk' e F sc_is_attempt rfl (fun _ _ _ _ _ _ us hl => match us, hl with | [_], _ => rfl) X.nb hw ck_is_attempt ?_ (fun args h hl => .inr ⟨1000000000, .same _⟩)
  simp only [b_is_attempt, okSs, okS, okE, okEs, and_true, true_and, and_self, cis_pick_0, cis_from_0, g_MOST_AROUND]
theorem ok_is_policy (X : Top K mg) (hw : Tabs.w = w) : FnAt P w K mg base 3 "is_policy" ["value"] 1 S_is_policy := by
  have cis_attempt_0 := (ok_is_attempt (P := P) (w := w) (base := base) X hw).fnD (k := 2) (by omega)
  have g_MOST_ATTEMPTS := X.g_MOST_ATTEMPTS P w base 2
  obtain ⟨f, fd, e, F⟩ := X.f_is_policy
  refine FnAt.mk' e F sc_is_policy rfl (fun _ _ _ _ _ _ us hl => match us, hl with | [_], _ => rfl) X.nb hw ck_is_policy ?_ (fun args h hl => .inr ⟨1000000000, .same _⟩)
  simp only [b_is_policy, okSs, okS, okE, okEs, and_true, true_and, and_self, cis_attempt_0, g_MOST_ATTEMPTS]
theorem ok_need_policy (X : Top K mg) (hw : Tabs.w = w) : FnAt P w K mg base 4 "need_policy" ["value"] 1 S_need_policy := by
  have cis_policy_0 := (ok_is_policy (P := P) (w := w) (base := base) X hw).fnD (k := 3) (by omega)
  have x_InvalidPolicy := X.x_InvalidPolicy P w base 3
  obtain ⟨f, fd, e, F⟩ := X.f_need_policy
  refine FnAt.mk' e F sc_need_policy rfl (fun _ _ _ _ _ _ us hl => match us, hl with | [_], _ => rfl) X.nb hw ck_need_policy ?_ (fun args h hl => .inr ⟨1000000000, .same _⟩)
  simp only [b_need_policy, okSs, okS, okE, okEs, and_true, true_and, and_self, cis_policy_0, x_InvalidPolicy]
theorem ok_fate_at (X : Top K mg) (hw : Tabs.w = w) : FnAt P w K mg base 1 "fate_at" ["kept", "found"] 2 S_fate_at := by
  obtain ⟨f, fd, e, F⟩ := X.f_fate_at
  refine FnAt.mk' e F sc_fate_at rfl (fun _ _ _ _ _ _ us hl => match us, hl with | [_, _], _ => rfl) X.nb hw ck_fate_at ?_ (fun args h hl => .inr ⟨1000000000, .same _⟩)
  simp only [b_fate_at, okSs, okS, okE, okEs, and_true, true_and, and_self]
theorem ok_picked (X : Top K mg) (hw : Tabs.w = w) : FnAt P w K mg base 1 "picked" ["places", "pick"] 2 S_picked := by
  obtain ⟨f, fd, e, F⟩ := X.f_picked
  refine FnAt.mk' e F sc_picked rfl (fun _ _ _ _ _ _ us hl => match us, hl with | [_, _], _ => rfl) X.nb hw ck_picked ?_ (fun args h hl => .inr ⟨1000000000, .same _⟩)
  simp only [b_picked, okSs, okS, okE, okEs, and_true, true_and, and_self]
theorem ok_sought (X : Top K mg) (hw : Tabs.w = w) : FnAt P w K mg base 1 "sought" ["note", "attempt"] 2 S_sought := by
  obtain ⟨f, fd, e, F⟩ := X.f_sought
  refine FnAt.mk' e F sc_sought rfl (fun _ _ _ _ _ _ us hl => match us, hl with | [_, _], _ => rfl) X.nb hw ck_sought ?_ (fun args h hl => .inr ⟨1000000000, .same _⟩)
  simp only [b_sought, okSs, okS, okE, okEs, and_true, true_and, and_self]
theorem ok_places_of (X : Top K mg) (hw : Tabs.w = w) : FnAt P w K mg base 1 "places_of" ["words", "text", "back"] 3 S_places_of := by
  obtain ⟨f, fd, e, F⟩ := X.f_places_of
  refine FnAt.mk' e F sc_places_of rfl (fun _ _ _ _ _ _ us hl => match us, hl with | [_, _, _], _ => rfl) X.nb hw ck_places_of ?_ (fun args h hl => frzR_fin.imp id fun z => ⟨1000000000, z⟩)
  simp only [b_places_of, okSs, okS, okE, okEs, and_true, true_and, and_self]
theorem ok_attempt_matches (X : Top K mg) (hw : Tabs.w = w) : FnAt P w K mg base 2 "attempt_matches" ["note", "attempt", "text"] 3 S_attempt_matches := by
  have csought_0 := (ok_sought (P := P) (w := w) (base := base) X hw).fnD (k := 1) (by omega)
  have cplaces_of_0 := (ok_places_of (P := P) (w := w) (base := base) X hw).fnD (k := 1) (by omega)
  obtain ⟨f, fd, e, F⟩ := X.f_attempt_matches
  refine FnAt.mk' e F sc_attempt_matches rfl (fun _ _ _ _ _ _ us hl => match us, hl with | [_, _, _], _ => rfl) X.nb hw ck_attempt_matches ?_ (fun args h hl => .inr ⟨1000000000, .same _⟩)
  simp only [b_attempt_matches, okSs, okS, okE, okEs, and_true, true_and, and_self, csought_0, cplaces_of_0]
theorem ok_found_in (X : Top K mg) (hw : Tabs.w = w) : FnAt P w K mg base 3 "found_in" ["note", "policy", "text"] 3 S_found_in := by
  have cpicked_0 := (ok_picked (P := P) (w := w) (base := base) X hw).fnD (k := 2) (by omega)
  have cattempt_matches_0 := (ok_attempt_matches (P := P) (w := w) (base := base) X hw).fnD (k := 2) (by omega)
  obtain ⟨f, fd, e, F⟩ := X.f_found_in
  refine FnAt.mk' e F sc_found_in rfl (fun _ _ _ _ _ _ us hl => match us, hl with | [_, _, _], _ => rfl) X.nb hw ck_found_in ?_ (fun args h hl => .inr ⟨1000000000, .same _⟩)
  simp only [b_found_in, okSs, okS, okE, okEs, and_true, true_and, and_self, cpicked_0, cattempt_matches_0]
theorem ok_Page_fate (X : Top K mg) (hw : Tabs.w = w) : MthAt P w K mg base 5 "Page" "fate" ["self", "name", "policy"] 3 S_Page_fate := by
  have cPage_row_of_0 := (ok_Page_row_of (P := P) (w := w) (base := base) X hw).mthD (k := 4) (by omega)
  have cneed_policy_0 := (ok_need_policy (P := P) (w := w) (base := base) X hw).fnD (k := 4) (by omega)
  have cfate_at_0 := (ok_fate_at (P := P) (w := w) (base := base) X hw).fnD (k := 4) (by omega)
  have cfound_in_0 := (ok_found_in (P := P) (w := w) (base := base) X hw).fnD (k := 4) (by omega)
  have a_Page_now := X.a_Page_now P w base 4
  obtain ⟨f, fd, e, F⟩ := X.f_Page_fate
  refine MthAt.mk' e F sc_Page_fate rfl (fun _ _ _ _ _ _ us hl => match us, hl with | [_, _, _], _ => rfl) X.nb hw ck_Page_fate ?_ (fun args h hl => .inr ⟨1000000000, .same _⟩)
  simp only [b_Page_fate, okSs, okS, okE, okEs, and_true, true_and, and_self, cPage_row_of_0, cneed_policy_0, cfate_at_0, cfound_in_0, a_Page_now]
theorem ok_is_note (X : Top K mg) (hw : Tabs.w = w) : FnAt P w K mg base 3 "is_note" ["value"] 1 S_is_note := by
  have cis_word_0 := (ok_is_word (P := P) (w := w) (base := base) X hw).fnD (k := 2) (by omega)
  have care_words_0 := (ok_are_words (P := P) (w := w) (base := base) X hw).fnD (k := 2) (by omega)
  have g_MOST_AROUND := X.g_MOST_AROUND P w base 2
  obtain ⟨f, fd, e, F⟩ := X.f_is_note
  refine FnAt.mk' e F sc_is_note rfl (fun _ _ _ _ _ _ us hl => match us, hl with | [_], _ => rfl) X.nb hw ck_is_note ?_ (fun args h hl => .inr ⟨1000000000, .same _⟩)
  simp only [b_is_note, okSs, okS, okE, okEs, and_true, true_and, and_self, cis_word_0, care_words_0, g_MOST_AROUND]
theorem ok_need_note (X : Top K mg) (hw : Tabs.w = w) : FnAt P w K mg base 4 "need_note" ["value"] 1 S_need_note := by
  have cis_note_0 := (ok_is_note (P := P) (w := w) (base := base) X hw).fnD (k := 3) (by omega)
  have x_InvalidNote := X.x_InvalidNote P w base 3
  obtain ⟨f, fd, e, F⟩ := X.f_need_note
  refine FnAt.mk' e F sc_need_note rfl (fun _ _ _ _ _ _ us hl => match us, hl with | [_], _ => rfl) X.nb hw ck_need_note ?_ (fun args h hl => .inr ⟨1000000000, .same _⟩)
  simp only [b_need_note, okSs, okS, okE, okEs, and_true, true_and, and_self, cis_note_0, x_InvalidNote]
theorem ok_need_both (X : Top K mg) (hw : Tabs.w = w) : FnAt P w K mg base 5 "need_both" ["note", "policy"] 2 S_need_both := by
  have cneed_note_0 := (ok_need_note (P := P) (w := w) (base := base) X hw).fnD (k := 4) (by omega)
  have cneed_policy_0 := (ok_need_policy (P := P) (w := w) (base := base) X hw).fnD (k := 4) (by omega)
  obtain ⟨f, fd, e, F⟩ := X.f_need_both
  refine FnAt.mk' e F sc_need_both rfl (fun _ _ _ _ _ _ us hl => match us, hl with | [_, _], _ => rfl) X.nb hw ck_need_both ?_ (fun args h hl => .inr ⟨1000000000, .same _⟩)
  simp only [b_need_both, okSs, okS, okE, okEs, and_true, true_and, and_self, cneed_note_0, cneed_policy_0]
theorem ok_words_of (X : Top K mg) (hw : Tabs.w = w) : FnAt P w K mg base 1 "words_of" ["note"] 1 S_words_of := by
  obtain ⟨f, fd, e, F⟩ := X.f_words_of
  refine FnAt.mk' e F sc_words_of rfl (fun _ _ _ _ _ _ us hl => match us, hl with | [_], _ => rfl) X.nb hw ck_words_of ?_ (fun args h hl => .inr ⟨1000000000, .same _⟩)
  simp only [b_words_of, okSs, okS, okE, okEs, and_true, true_and, and_self]
theorem ok_note_places (X : Top K mg) (hw : Tabs.w = w) : FnAt P w K mg base 2 "note_places" ["note", "text"] 2 S_note_places := by
  have cplaces_of_0 := (ok_places_of (P := P) (w := w) (base := base) X hw).fnD (k := 1) (by omega)
  have cwords_of_0 := (ok_words_of (P := P) (w := w) (base := base) X hw).fnD (k := 1) (by omega)
  obtain ⟨f, fd, e, F⟩ := X.f_note_places
  refine FnAt.mk' e F sc_note_places rfl (fun _ _ _ _ _ _ us hl => match us, hl with | [_, _], _ => rfl) X.nb hw ck_note_places ?_ (fun args h hl => .inr ⟨1000000000, .same _⟩)
  simp only [b_note_places, okSs, okS, okE, okEs, and_true, true_and, and_self, cplaces_of_0, cwords_of_0]
theorem ok_fate (X : Top K mg) (hw : Tabs.w = w) : FnAt P w K mg base 6 "fate" ["note", "policy", "text", "place", "script"] 5 S_fate := by
  have cneed_both_0 := (ok_need_both (P := P) (w := w) (base := base) X hw).fnD (k := 5) (by omega)
  have cneed_text_0 := (ok_need_text (P := P) (w := w) (base := base) X hw).fnD (k := 5) (by omega)
  have cis_from_0 := (ok_is_from (P := P) (w := w) (base := base) X hw).fnD (k := 5) (by omega)
  have cnote_places_0 := (ok_note_places (P := P) (w := w) (base := base) X hw).fnD (k := 5) (by omega)
  have cneed_script_0 := (ok_need_script (P := P) (w := w) (base := base) X hw).fnD (k := 5) (by omega)
  have cfate_at_0 := (ok_fate_at (P := P) (w := w) (base := base) X hw).fnD (k := 5) (by omega)
  have cplace_behind_0 := (ok_place_behind (P := P) (w := w) (base := base) X hw).fnD (k := 5) (by omega)
  have cfound_in_0 := (ok_found_in (P := P) (w := w) (base := base) X hw).fnD (k := 5) (by omega)
  have ctext_behind_0 := (ok_text_behind (P := P) (w := w) (base := base) X hw).fnD (k := 5) (by omega)
  have x_InvalidPlace := X.x_InvalidPlace P w base 5
  obtain ⟨f, fd, e, F⟩ := X.f_fate
  refine FnAt.mk' e F sc_fate rfl (fun _ _ _ _ _ _ us hl => match us, hl with | [_, _, _, _, _], _ => rfl) X.nb hw ck_fate ?_ (fun args h hl => .inr ⟨1000000000, .same _⟩)
  simp only [b_fate, okSs, okS, okE, okEs, and_true, true_and, and_self, cneed_both_0, cneed_text_0, cis_from_0, cnote_places_0, cneed_script_0, cfate_at_0, cplace_behind_0, cfound_in_0, ctext_behind_0, x_InvalidPlace]
theorem ok_Page_seek (X : Top K mg) (hw : Tabs.w = w) : MthAt P w K mg base 5 "Page" "seek" ["self", "name", "policy"] 3 S_Page_seek := by
  have cPage_row_of_0 := (ok_Page_row_of (P := P) (w := w) (base := base) X hw).mthD (k := 4) (by omega)
  have cneed_policy_0 := (ok_need_policy (P := P) (w := w) (base := base) X hw).fnD (k := 4) (by omega)
  have cfound_in_0 := (ok_found_in (P := P) (w := w) (base := base) X hw).fnD (k := 4) (by omega)
  have a_Page_now := X.a_Page_now P w base 4
  obtain ⟨f, fd, e, F⟩ := X.f_Page_seek
  refine MthAt.mk' e F sc_Page_seek rfl (fun _ _ _ _ _ _ us hl => match us, hl with | [_, _, _], _ => rfl) X.nb hw ck_Page_seek ?_ (fun args h hl => .inr ⟨1000000000, .same _⟩)
  simp only [b_Page_seek, okSs, okS, okE, okEs, and_true, true_and, and_self, cPage_row_of_0, cneed_policy_0, cfound_in_0, a_Page_now]
theorem ok_find (X : Top K mg) (hw : Tabs.w = w) : FnAt P w K mg base 6 "find" ["note", "policy", "text"] 3 S_find := by
  have cneed_both_0 := (ok_need_both (P := P) (w := w) (base := base) X hw).fnD (k := 5) (by omega)
  have cneed_text_0 := (ok_need_text (P := P) (w := w) (base := base) X hw).fnD (k := 5) (by omega)
  have cfound_in_0 := (ok_found_in (P := P) (w := w) (base := base) X hw).fnD (k := 5) (by omega)
  obtain ⟨f, fd, e, F⟩ := X.f_find
  refine FnAt.mk' e F sc_find rfl (fun _ _ _ _ _ _ us hl => match us, hl with | [_, _, _], _ => rfl) X.nb hw ck_find ?_ (fun args h hl => .inr ⟨1000000000, .same _⟩)
  simp only [b_find, okSs, okS, okE, okEs, and_true, true_and, and_self, cneed_both_0, cneed_text_0, cfound_in_0]
theorem ok_need_prices (X : Top K mg) (hw : Tabs.w = w) : FnAt P w K mg base 2 "need_prices" ["value"] 1 S_need_prices := by
  have cis_from_0 := (ok_is_from (P := P) (w := w) (base := base) X hw).fnD (k := 1) (by omega)
  have x_InvalidPrices := X.x_InvalidPrices P w base 1
  have g_MOST_PRICE := X.g_MOST_PRICE P w base 1
  obtain ⟨f, fd, e, F⟩ := X.f_need_prices
  refine FnAt.mk' e F sc_need_prices rfl (fun _ _ _ _ _ _ us hl => match us, hl with | [_], _ => rfl) X.nb hw ck_need_prices ?_ (fun args h hl => .inr ⟨1000000000, .same _⟩)
  simp only [b_need_prices, okSs, okS, okE, okEs, and_true, true_and, and_self, cis_from_0, x_InvalidPrices, g_MOST_PRICE]
theorem ok_price_of (X : Top K mg) (hw : Tabs.w = w) : FnAt P w K mg base 1 "price_of" ["step", "prices"] 2 S_price_of := by
  obtain ⟨f, fd, e, F⟩ := X.f_price_of
  refine FnAt.mk' e F sc_price_of rfl (fun _ _ _ _ _ _ us hl => match us, hl with | [_, _], _ => rfl) X.nb hw ck_price_of ?_ (fun args h hl => .inr ⟨1000000000, .same _⟩)
  simp only [b_price_of, okSs, okS, okE, okEs, and_true, true_and, and_self]
theorem ok_price (X : Top K mg) (hw : Tabs.w = w) : FnAtD P w K mg base 6 "price" ["text", "script", "prices"] 3 S_price [.tup [(.int 1), (.int 1), (.int 1)]] := by
  have cneed_script_0 := (ok_need_script (P := P) (w := w) (base := base) X hw).fnD (k := 5) (by omega)
  have cneed_prices_0 := (ok_need_prices (P := P) (w := w) (base := base) X hw).fnD (k := 5) (by omega)
  have cprice_of_0 := (ok_price_of (P := P) (w := w) (base := base) X hw).fnD (k := 5) (by omega)
  obtain ⟨f, fd, dvs, e, F, hl, hr⟩ := X.f_price
  have hne : dvs ≠ [] := fun z => by rw [z] at hl; cases hl
  have hb : ∀ i, i ≤ ([.tup [(.int 1), (.int 1), (.int 1)]] : List D).length → ∃ ds, Vals (dvs.drop i) ds ∧ Binds K fd ["text", "script", "prices"] ds := fun i hi => match i, hi with
    | 0, _ => F.binds1 2 0 hne (by rw [hl]; rfl) (fun T kV doc pm an cdv ct us its h1 h2 => match us, its, h1, h2.trans hl with | [_, _], [_], _, _ => ⟨_, rfl, rfl⟩)
    | 1, _ => F.binds1 3 1 hne (by rw [hl]; rfl) (fun T kV doc pm an cdv ct us its h1 h2 => match us, its, h1, h2.trans hl with | [_, _, _], [_], _, _ => ⟨_, rfl, rfl⟩)
    | n + 2, h => absurd h (by simp)
  refine FnAtD.mk' e F sc_price rfl hr hb X.nb hw ck_price ?_ (fun args h hl => .inr ⟨1000000000, .same _⟩)
  simp only [b_price, okSs, okS, okE, okEs, and_true, true_and, and_self, cneed_script_0, cneed_prices_0, cprice_of_0]
theorem ok_Page_undo (X : Top K mg) (hw : Tabs.w = w) : MthAt P w K mg base 1 "Page" "undo" ["self"] 1 S_Page_undo := by
  have x_NothingToUndo := X.x_NothingToUndo P w base 0
  have a_Page_past := X.a_Page_past P w base 0
  have a_Page_now := X.a_Page_now P w base 0
  obtain ⟨f, fd, e, F⟩ := X.f_Page_undo
  refine MthAt.mk' e F sc_Page_undo rfl (fun _ _ _ _ _ _ us hl => match us, hl with | [_], _ => rfl) X.nb hw ck_Page_undo ?_ (fun args h hl => .inr ⟨1000000000, .same _⟩)
  simp only [b_Page_undo, okSs, okS, okE, okEs, and_true, true_and, and_self, x_NothingToUndo, a_Page_past, a_Page_now]
end
theorem top_mk {K : Fg} {h : Heap} {mg : Mg} (X : K.In h) (G : h.Ns mainGlobals mg) {kC_Page : Addr} {f0 : Addr} {od0 an0 : Option Addr} {sl0 : Array (Option Value)} {oc0 kV0 dc0 pm0 cd0 ct0 : Value} {f1 : Addr} {od1 an1 : Option Addr} {sl1 : Array (Option Value)} {oc1 kV1 dc1 pm1 cd1 ct1 : Value} {f2 : Addr} {od2 an2 : Option Addr} {sl2 : Array (Option Value)} {oc2 kV2 dc2 pm2 cd2 ct2 : Value} {f3 : Addr} {od3 an3 : Option Addr} {sl3 : Array (Option Value)} {oc3 kV3 dc3 pm3 cd3 ct3 : Value} {f4 : Addr} {od4 an4 : Option Addr} {sl4 : Array (Option Value)} {oc4 kV4 dc4 pm4 cd4 ct4 : Value} {f5 : Addr} {od5 an5 : Option Addr} {sl5 : Array (Option Value)} {oc5 kV5 dc5 pm5 cd5 ct5 : Value} {f6 : Addr} {od6 an6 : Option Addr} {sl6 : Array (Option Value)} {oc6 kV6 dc6 pm6 cd6 ct6 : Value} {f7 : Addr} {od7 an7 : Option Addr} {sl7 : Array (Option Value)} {oc7 kV7 dc7 pm7 cd7 ct7 : Value} {f8 : Addr} {od8 an8 : Option Addr} {sl8 : Array (Option Value)} {oc8 kV8 dc8 pm8 cd8 ct8 : Value} {f9 : Addr} {od9 an9 : Option Addr} {sl9 : Array (Option Value)} {oc9 kV9 dc9 pm9 cd9 ct9 : Value} {f10 : Addr} {od10 an10 : Option Addr} {sl10 : Array (Option Value)} {oc10 kV10 dc10 pm10 cd10 ct10 : Value} {f11 : Addr} {od11 an11 : Option Addr} {sl11 : Array (Option Value)} {oc11 kV11 dc11 pm11 cd11 ct11 : Value} {f12 : Addr} {od12 an12 : Option Addr} {sl12 : Array (Option Value)} {oc12 kV12 dc12 pm12 cd12 ct12 : Value} {f13 : Addr} {od13 an13 : Option Addr} {sl13 : Array (Option Value)} {oc13 kV13 dc13 pm13 cd13 ct13 : Value} {f14 : Addr} {od14 an14 : Option Addr} {sl14 : Array (Option Value)} {oc14 kV14 dc14 pm14 cd14 ct14 : Value} {f15 : Addr} {od15 an15 : Option Addr} {sl15 : Array (Option Value)} {oc15 kV15 dc15 pm15 cd15 ct15 : Value} {f16 : Addr} {od16 an16 : Option Addr} {sl16 : Array (Option Value)} {oc16 kV16 dc16 pm16 cd16 ct16 : Value} {f17 : Addr} {od17 an17 : Option Addr} {sl17 : Array (Option Value)} {oc17 kV17 dc17 pm17 cd17 ct17 : Value} {f18 : Addr} {od18 an18 : Option Addr} {sl18 : Array (Option Value)} {oc18 kV18 dc18 pm18 cd18 ct18 : Value} {f19 : Addr} {od19 an19 : Option Addr} {sl19 : Array (Option Value)} {oc19 kV19 dc19 pm19 cd19 ct19 : Value} {f20 : Addr} {od20 an20 : Option Addr} {sl20 : Array (Option Value)} {oc20 kV20 dc20 pm20 cd20 ct20 : Value} {f21 : Addr} {od21 an21 : Option Addr} {sl21 : Array (Option Value)} {oc21 kV21 dc21 pm21 cd21 ct21 : Value} {f22 : Addr} {od22 an22 : Option Addr} {sl22 : Array (Option Value)} {oc22 kV22 dc22 pm22 cd22 ct22 : Value} {f23 : Addr} {od23 an23 : Option Addr} {sl23 : Array (Option Value)} {oc23 kV23 dc23 pm23 cd23 ct23 : Value} {f24 : Addr} {od24 an24 : Option Addr} {sl24 : Array (Option Value)} {oc24 kV24 dc24 pm24 cd24 ct24 : Value} {f25 : Addr} {od25 an25 : Option Addr} {sl25 : Array (Option Value)} {oc25 kV25 dc25 pm25 cd25 ct25 : Value} {f26 : Addr} {od26 an26 : Option Addr} {sl26 : Array (Option Value)} {oc26 kV26 dc26 pm26 cd26 ct26 : Value} {p26 : Addr} {pr26 : List Value} {f27 : Addr} {od27 an27 : Option Addr} {sl27 : Array (Option Value)} {oc27 kV27 dc27 pm27 cd27 ct27 : Value} {f28 : Addr} {od28 an28 : Option Addr} {sl28 : Array (Option Value)} {oc28 kV28 dc28 pm28 cd28 ct28 : Value} {f29 : Addr} {od29 an29 : Option Addr} {sl29 : Array (Option Value)} {oc29 kV29 dc29 pm29 cd29 ct29 : Value} {f30 : Addr} {od30 an30 : Option Addr} {sl30 : Array (Option Value)} {oc30 kV30 dc30 pm30 cd30 ct30 : Value} {f31 : Addr} {od31 an31 : Option Addr} {sl31 : Array (Option Value)} {oc31 kV31 dc31 pm31 cd31 ct31 : Value} {f32 : Addr} {od32 an32 : Option Addr} {sl32 : Array (Option Value)} {oc32 kV32 dc32 pm32 cd32 ct32 : Value} {f33 : Addr} {od33 an33 : Option Addr} {sl33 : Array (Option Value)} {oc33 kV33 dc33 pm33 cd33 ct33 : Value} {f34 : Addr} {od34 an34 : Option Addr} {sl34 : Array (Option Value)} {oc34 kV34 dc34 pm34 cd34 ct34 : Value} {f35 : Addr} {od35 an35 : Option Addr} {sl35 : Array (Option Value)} {oc35 kV35 dc35 pm35 cd35 ct35 : Value} {f36 : Addr} {od36 an36 : Option Addr} {sl36 : Array (Option Value)} {oc36 kV36 dc36 pm36 cd36 ct36 : Value} {f37 : Addr} {od37 an37 : Option Addr} {sl37 : Array (Option Value)} {oc37 kV37 dc37 pm37 cd37 ct37 : Value} {f38 : Addr} {od38 an38 : Option Addr} {sl38 : Array (Option Value)} {oc38 kV38 dc38 pm38 cd38 ct38 : Value} {f39 : Addr} {od39 an39 : Option Addr} {sl39 : Array (Option Value)} {oc39 kV39 dc39 pm39 cd39 ct39 : Value} {f40 : Addr} {od40 an40 : Option Addr} {sl40 : Array (Option Value)} {oc40 kV40 dc40 pm40 cd40 ct40 : Value} {f41 : Addr} {od41 an41 : Option Addr} {sl41 : Array (Option Value)} {oc41 kV41 dc41 pm41 cd41 ct41 : Value} {f42 : Addr} {od42 an42 : Option Addr} {sl42 : Array (Option Value)} {oc42 kV42 dc42 pm42 cd42 ct42 : Value} {f43 : Addr} {od43 an43 : Option Addr} {sl43 : Array (Option Value)} {oc43 kV43 dc43 pm43 cd43 ct43 : Value} {f44 : Addr} {od44 an44 : Option Addr} {sl44 : Array (Option Value)} {oc44 kV44 dc44 pm44 cd44 ct44 : Value} {f45 : Addr} {od45 an45 : Option Addr} {sl45 : Array (Option Value)} {oc45 kV45 dc45 pm45 cd45 ct45 : Value} {f46 : Addr} {od46 an46 : Option Addr} {sl46 : Array (Option Value)} {oc46 kV46 dc46 pm46 cd46 ct46 : Value} {f47 : Addr} {od47 an47 : Option Addr} {sl47 : Array (Option Value)} {oc47 kV47 dc47 pm47 cd47 ct47 : Value} {f48 : Addr} {od48 an48 : Option Addr} {sl48 : Array (Option Value)} {oc48 kV48 dc48 pm48 cd48 ct48 : Value} {f49 : Addr} {od49 an49 : Option Addr} {sl49 : Array (Option Value)} {oc49 kV49 dc49 pm49 cd49 ct49 : Value} {f50 : Addr} {od50 an50 : Option Addr} {sl50 : Array (Option Value)} {oc50 kV50 dc50 pm50 cd50 ct50 : Value} {f51 : Addr} {od51 an51 : Option Addr} {sl51 : Array (Option Value)} {oc51 kV51 dc51 pm51 cd51 ct51 : Value} {f52 : Addr} {od52 an52 : Option Addr} {sl52 : Array (Option Value)} {oc52 kV52 dc52 pm52 cd52 ct52 : Value} {f53 : Addr} {od53 an53 : Option Addr} {sl53 : Array (Option Value)} {oc53 kV53 dc53 pm53 cd53 ct53 : Value} {f54 : Addr} {od54 an54 : Option Addr} {sl54 : Array (Option Value)} {oc54 kV54 dc54 pm54 cd54 ct54 : Value} {f55 : Addr} {od55 an55 : Option Addr} {sl55 : Array (Option Value)} {oc55 kV55 dc55 pm55 cd55 ct55 : Value} {f56 T56 : Addr} {od56 an56 td56 : Option Addr} {sl56 ts56 : Array (Option Value)} {oc56 kV56 dc56 pm56 cd56 ct56 tc56 : Value} {tn56 : Nat} {t1 : PySem.Tok} {t2 : PySem.Tok} {t3 : PySem.Tok} {a4 : Addr} {d4 : Option Addr} {n4 : Nat} {z4 : Array (Option Value)} {f57 : Addr} {od57 an57 : Option Addr} {sl57 : Array (Option Value)} {oc57 kV57 dc57 pm57 cd57 ct57 : Value} {f58 : Addr} {od58 an58 : Option Addr} {sl58 : Array (Option Value)} {oc58 kV58 dc58 pm58 cd58 ct58 : Value} {t5 : PySem.Tok} {t6 : PySem.Tok} {t7 : PySem.Tok} {t8 : PySem.Tok} {t9 : PySem.Tok} {t10 : PySem.Tok} {t11 : PySem.Tok} {a12 : Addr} {d12 : Option Addr} {n12 : Nat} {z12 : Array (Option Value)} {t13 : PySem.Tok} {t14 : PySem.Tok} {xC0 : Addr} {xC1 : Addr} {xC2 : Addr} {xC3 : Addr} {xC4 : Addr} {xC5 : Addr} {xC6 : Addr} {xC7 : Addr} {xC8 : Addr} {xC9 : Addr} {yC0 : Addr} {yI0 yB0 yN0 : Addr} {ynm0 yq0 : Str} {ybs0 ybm0 ysub0 : List Value} {ysn0 : List Str} {yab0 : Bool} {ycol0 : Option Bool} {ydd0 : Option Addr} {yk00 yk10 yk20 yk30 yk50 : Option Value} {yod0 yan0 : Option Addr} {ysl0 : Array (Option Value)} {yoc0 ykV0 ydc0 ypm0 ycd0 yct0 : Value}
    (kg_Page : PySem.W.nsIn K mainGlobals "Page" = some (some (.ref kC_Page)))
    (kp_Page : PySem.W.plainGet K kC_Page Str.empty = true)
    (kh_Page : PySem.W.hasDictIn K kC_Page = true)
    (ko_Page : PySem.W.plainOver K kC_Page = true)
    (ks_Page : PySem.W.findIn K (.ref kC_Page) "__setattr__" = some (some (.builtin "object.__setattr__")))
    (ka_Page_now : PySem.W.findIn K (.ref kC_Page) "now" = some none)
    (ka_Page_past : PySem.W.findIn K (.ref kC_Page) "past" = some none)
    (a_0 : PySem.W.nsIn K mainGlobals "_law_source" = some (some (.ref f0)))
    (l_0 : K.lookup f0 = some ⟨oc0, od0, .func (PySem.W.fnOf "_law_source" "_law_source" (defArgs s__law_source) (defBody s__law_source) (defScope s__law_source) .none kV0 dc0 pm0 an0 cd0 ct0), sl0⟩)
    (c_0 : PySem.W.codeIn K cd0 "_law_source" = true)
    (k_0 : PySem.W.keepIn K (.ref f0) = true)
    (a_1 : PySem.W.nsIn K mainGlobals "_law_draw" = some (some (.ref f1)))
    (l_1 : K.lookup f1 = some ⟨oc1, od1, .func (PySem.W.fnOf "_law_draw" "_law_draw" (defArgs s__law_draw) (defBody s__law_draw) (defScope s__law_draw) .none kV1 dc1 pm1 an1 cd1 ct1), sl1⟩)
    (c_1 : PySem.W.codeIn K cd1 "_law_draw" = true)
    (k_1 : PySem.W.keepIn K (.ref f1) = true)
    (a_2 : PySem.W.nsIn K mainGlobals "_law_choice" = some (some (.ref f2)))
    (l_2 : K.lookup f2 = some ⟨oc2, od2, .func (PySem.W.fnOf "_law_choice" "_law_choice" (defArgs s__law_choice) (defBody s__law_choice) (defScope s__law_choice) .none kV2 dc2 pm2 an2 cd2 ct2), sl2⟩)
    (c_2 : PySem.W.codeIn K cd2 "_law_choice" = true)
    (k_2 : PySem.W.keepIn K (.ref f2) = true)
    (a_3 : PySem.W.nsIn K mainGlobals "_law_menu" = some (some (.ref f3)))
    (l_3 : K.lookup f3 = some ⟨oc3, od3, .func (PySem.W.fnOf "_law_menu" "_law_menu" (defArgs s__law_menu) (defBody s__law_menu) (defScope s__law_menu) .none kV3 dc3 pm3 an3 cd3 ct3), sl3⟩)
    (c_3 : PySem.W.codeIn K cd3 "_law_menu" = true)
    (k_3 : PySem.W.keepIn K (.ref f3) = true)
    (a_4 : PySem.W.nsIn K mainGlobals "_law_row" = some (some (.ref f4)))
    (l_4 : K.lookup f4 = some ⟨oc4, od4, .func (PySem.W.fnOf "_law_row" "_law_row" (defArgs s__law_row) (defBody s__law_row) (defScope s__law_row) .none kV4 dc4 pm4 an4 cd4 ct4), sl4⟩)
    (c_4 : PySem.W.codeIn K cd4 "_law_row" = true)
    (k_4 : PySem.W.keepIn K (.ref f4) = true)
    (a_5 : PySem.W.nsIn K mainGlobals "_law_note" = some (some (.ref f5)))
    (l_5 : K.lookup f5 = some ⟨oc5, od5, .func (PySem.W.fnOf "_law_note" "_law_note" (defArgs s__law_note) (defBody s__law_note) (defScope s__law_note) .none kV5 dc5 pm5 an5 cd5 ct5), sl5⟩)
    (c_5 : PySem.W.codeIn K cd5 "_law_note" = true)
    (k_5 : PySem.W.keepIn K (.ref f5) = true)
    (a_6 : PySem.W.nsIn K mainGlobals "_law_attempt" = some (some (.ref f6)))
    (l_6 : K.lookup f6 = some ⟨oc6, od6, .func (PySem.W.fnOf "_law_attempt" "_law_attempt" (defArgs s__law_attempt) (defBody s__law_attempt) (defScope s__law_attempt) .none kV6 dc6 pm6 an6 cd6 ct6), sl6⟩)
    (c_6 : PySem.W.codeIn K cd6 "_law_attempt" = true)
    (k_6 : PySem.W.keepIn K (.ref f6) = true)
    (a_7 : PySem.W.nsIn K mainGlobals "_law_policy" = some (some (.ref f7)))
    (l_7 : K.lookup f7 = some ⟨oc7, od7, .func (PySem.W.fnOf "_law_policy" "_law_policy" (defArgs s__law_policy) (defBody s__law_policy) (defScope s__law_policy) .none kV7 dc7 pm7 an7 cd7 ct7), sl7⟩)
    (c_7 : PySem.W.codeIn K cd7 "_law_policy" = true)
    (k_7 : PySem.W.keepIn K (.ref f7) = true)
    (a_8 : PySem.W.nsIn K mainGlobals "_law_words" = some (some (.ref f8)))
    (l_8 : K.lookup f8 = some ⟨oc8, od8, .func (PySem.W.fnOf "_law_words" "_law_words" (defArgs s__law_words) (defBody s__law_words) (defScope s__law_words) .none kV8 dc8 pm8 an8 cd8 ct8), sl8⟩)
    (c_8 : PySem.W.codeIn K cd8 "_law_words" = true)
    (k_8 : PySem.W.keepIn K (.ref f8) = true)
    (a_9 : PySem.W.nsIn K mainGlobals "_law_text" = some (some (.ref f9)))
    (l_9 : K.lookup f9 = some ⟨oc9, od9, .func (PySem.W.fnOf "_law_text" "_law_text" (defArgs s__law_text) (defBody s__law_text) (defScope s__law_text) .none kV9 dc9 pm9 an9 cd9 ct9), sl9⟩)
    (c_9 : PySem.W.codeIn K cd9 "_law_text" = true)
    (k_9 : PySem.W.keepIn K (.ref f9) = true)
    (a_10 : PySem.W.nsIn K mainGlobals "_law_held" = some (some (.ref f10)))
    (l_10 : K.lookup f10 = some ⟨oc10, od10, .func (PySem.W.fnOf "_law_held" "_law_held" (defArgs s__law_held) (defBody s__law_held) (defScope s__law_held) .none kV10 dc10 pm10 an10 cd10 ct10), sl10⟩)
    (c_10 : PySem.W.codeIn K cd10 "_law_held" = true)
    (k_10 : PySem.W.keepIn K (.ref f10) = true)
    (a_11 : PySem.W.nsIn K mainGlobals "_law_script" = some (some (.ref f11)))
    (l_11 : K.lookup f11 = some ⟨oc11, od11, .func (PySem.W.fnOf "_law_script" "_law_script" (defArgs s__law_script) (defBody s__law_script) (defScope s__law_script) .none kV11 dc11 pm11 an11 cd11 ct11), sl11⟩)
    (c_11 : PySem.W.codeIn K cd11 "_law_script" = true)
    (k_11 : PySem.W.keepIn K (.ref f11) = true)
    (a_12 : PySem.W.nsIn K mainGlobals "is_word" = some (some (.ref f12)))
    (l_12 : K.lookup f12 = some ⟨oc12, od12, .func (PySem.W.fnOf "is_word" "is_word" (defArgs s_is_word) (defBody s_is_word) (defScope s_is_word) .none kV12 dc12 pm12 an12 cd12 ct12), sl12⟩)
    (c_12 : PySem.W.codeIn K cd12 "is_word" = true)
    (k_12 : PySem.W.keepIn K (.ref f12) = true)
    (a_13 : PySem.W.nsIn K mainGlobals "are_words" = some (some (.ref f13)))
    (l_13 : K.lookup f13 = some ⟨oc13, od13, .func (PySem.W.fnOf "are_words" "are_words" (defArgs s_are_words) (defBody s_are_words) (defScope s_are_words) .none kV13 dc13 pm13 an13 cd13 ct13), sl13⟩)
    (c_13 : PySem.W.codeIn K cd13 "are_words" = true)
    (k_13 : PySem.W.keepIn K (.ref f13) = true)
    (a_14 : PySem.W.nsIn K mainGlobals "is_text" = some (some (.ref f14)))
    (l_14 : K.lookup f14 = some ⟨oc14, od14, .func (PySem.W.fnOf "is_text" "is_text" (defArgs s_is_text) (defBody s_is_text) (defScope s_is_text) .none kV14 dc14 pm14 an14 cd14 ct14), sl14⟩)
    (c_14 : PySem.W.codeIn K cd14 "is_text" = true)
    (k_14 : PySem.W.keepIn K (.ref f14) = true)
    (a_15 : PySem.W.nsIn K mainGlobals "need_text" = some (some (.ref f15)))
    (l_15 : K.lookup f15 = some ⟨oc15, od15, .func (PySem.W.fnOf "need_text" "need_text" (defArgs s_need_text) (defBody s_need_text) (defScope s_need_text) .none kV15 dc15 pm15 an15 cd15 ct15), sl15⟩)
    (c_15 : PySem.W.codeIn K cd15 "need_text" = true)
    (k_15 : PySem.W.keepIn K (.ref f15) = true)
    (a_16 : PySem.W.findIn K (.ref kC_Page) "__init__" = some (some (.ref f16)))
    (n_16 : PySem.W.isFn K (.ref f16) = true)
    (mk_16 : PySem.W.makesIn K kC_Page = true)
    (mp_16 : PySem.W.keepIn K (.ref kC_Page) = true)
    (l_16 : K.lookup f16 = some ⟨oc16, od16, .func (PySem.W.fnOf "__init__" "Page.__init__" (defArgs s_Page___init__) (defBody s_Page___init__) (defScope s_Page___init__) .none kV16 dc16 pm16 an16 cd16 ct16), sl16⟩)
    (c_16 : PySem.W.codeIn K cd16 "Page.__init__" = true)
    (k_16 : PySem.W.keepIn K (.ref f16) = true)
    (a_17 : PySem.W.nsIn K mainGlobals "is_from" = some (some (.ref f17)))
    (l_17 : K.lookup f17 = some ⟨oc17, od17, .func (PySem.W.fnOf "is_from" "is_from" (defArgs s_is_from) (defBody s_is_from) (defScope s_is_from) .none kV17 dc17 pm17 an17 cd17 ct17), sl17⟩)
    (c_17 : PySem.W.codeIn K cd17 "is_from" = true)
    (k_17 : PySem.W.keepIn K (.ref f17) = true)
    (a_18 : PySem.W.findIn K (.ref kC_Page) "need_place" = some (some (.ref f18)))
    (n_18 : PySem.W.isFn K (.ref f18) = true)
    (l_18 : K.lookup f18 = some ⟨oc18, od18, .func (PySem.W.fnOf "need_place" "Page.need_place" (defArgs s_Page_need_place) (defBody s_Page_need_place) (defScope s_Page_need_place) .none kV18 dc18 pm18 an18 cd18 ct18), sl18⟩)
    (c_18 : PySem.W.codeIn K cd18 "Page.need_place" = true)
    (k_18 : PySem.W.keepIn K (.ref f18) = true)
    (a_19 : PySem.W.findIn K (.ref kC_Page) "go_on" = some (some (.ref f19)))
    (n_19 : PySem.W.isFn K (.ref f19) = true)
    (l_19 : K.lookup f19 = some ⟨oc19, od19, .func (PySem.W.fnOf "go_on" "Page.go_on" (defArgs s_Page_go_on) (defBody s_Page_go_on) (defScope s_Page_go_on) .none kV19 dc19 pm19 an19 cd19 ct19), sl19⟩)
    (c_19 : PySem.W.codeIn K cd19 "Page.go_on" = true)
    (k_19 : PySem.W.keepIn K (.ref f19) = true)
    (a_20 : PySem.W.findIn K (.ref kC_Page) "add" = some (some (.ref f20)))
    (n_20 : PySem.W.isFn K (.ref f20) = true)
    (l_20 : K.lookup f20 = some ⟨oc20, od20, .func (PySem.W.fnOf "add" "Page.add" (defArgs s_Page_add) (defBody s_Page_add) (defScope s_Page_add) .none kV20 dc20 pm20 an20 cd20 ct20), sl20⟩)
    (c_20 : PySem.W.codeIn K cd20 "Page.add" = true)
    (k_20 : PySem.W.keepIn K (.ref f20) = true)
    (a_21 : PySem.W.findIn K (.ref kC_Page) "moved" = some (some (.ref f21)))
    (n_21 : PySem.W.isFn K (.ref f21) = true)
    (l_21 : K.lookup f21 = some ⟨oc21, od21, .func (PySem.W.fnOf "moved" "Page.moved" (defArgs s_Page_moved) (defBody s_Page_moved) (defScope s_Page_moved) .none kV21 dc21 pm21 an21 cd21 ct21), sl21⟩)
    (c_21 : PySem.W.codeIn K cd21 "Page.moved" = true)
    (k_21 : PySem.W.keepIn K (.ref f21) = true)
    (a_22 : PySem.W.findIn K (.ref kC_Page) "put" = some (some (.ref f22)))
    (n_22 : PySem.W.isFn K (.ref f22) = true)
    (l_22 : K.lookup f22 = some ⟨oc22, od22, .func (PySem.W.fnOf "put" "Page.put" (defArgs s_Page_put) (defBody s_Page_put) (defScope s_Page_put) .none kV22 dc22 pm22 an22 cd22 ct22), sl22⟩)
    (c_22 : PySem.W.codeIn K cd22 "Page.put" = true)
    (k_22 : PySem.W.keepIn K (.ref f22) = true)
    (a_23 : PySem.W.findIn K (.ref kC_Page) "out" = some (some (.ref f23)))
    (n_23 : PySem.W.isFn K (.ref f23) = true)
    (l_23 : K.lookup f23 = some ⟨oc23, od23, .func (PySem.W.fnOf "out" "Page.out" (defArgs s_Page_out) (defBody s_Page_out) (defScope s_Page_out) .none kV23 dc23 pm23 an23 cd23 ct23), sl23⟩)
    (c_23 : PySem.W.codeIn K cd23 "Page.out" = true)
    (k_23 : PySem.W.keepIn K (.ref f23) = true)
    (a_24 : PySem.W.findIn K (.ref kC_Page) "swap" = some (some (.ref f24)))
    (n_24 : PySem.W.isFn K (.ref f24) = true)
    (l_24 : K.lookup f24 = some ⟨oc24, od24, .func (PySem.W.fnOf "swap" "Page.swap" (defArgs s_Page_swap) (defBody s_Page_swap) (defScope s_Page_swap) .none kV24 dc24 pm24 an24 cd24 ct24), sl24⟩)
    (c_24 : PySem.W.codeIn K cd24 "Page.swap" = true)
    (k_24 : PySem.W.keepIn K (.ref f24) = true)
    (a_25 : PySem.W.nsIn K mainGlobals "_law_done" = some (some (.ref f25)))
    (l_25 : K.lookup f25 = some ⟨oc25, od25, .func (PySem.W.fnOf "_law_done" "_law_done" (defArgs s__law_done) (defBody s__law_done) (defScope s__law_done) .none kV25 dc25 pm25 an25 cd25 ct25), sl25⟩)
    (c_25 : PySem.W.codeIn K cd25 "_law_done" = true)
    (k_25 : PySem.W.keepIn K (.ref f25) = true)
    (a_26 : PySem.W.findIn K (.ref kC_Page) "text" = some (some (.ref p26)))
    (pg_26 : PySem.W.specialIn K (.ref p26) "__get__" = some (some (.builtin "property.__get__")))
    (pt_26 : PySem.W.takesIn K (.ref p26) = some true)
    (pc_26 : PySem.W.recIn K p26 "property" = some (.ref f26 :: pr26))
    (l_26 : K.lookup f26 = some ⟨oc26, od26, .func (PySem.W.fnOf "text" "Page.text" (defArgs s_Page_text) (defBody s_Page_text) (defScope s_Page_text) .none kV26 dc26 pm26 an26 cd26 ct26), sl26⟩)
    (c_26 : PySem.W.codeIn K cd26 "Page.text" = true)
    (k_26 : PySem.W.keepIn K (.ref f26) = true)
    (a_27 : PySem.W.nsIn K mainGlobals "has_script" = some (some (.ref f27)))
    (l_27 : K.lookup f27 = some ⟨oc27, od27, .func (PySem.W.fnOf "has_script" "has_script" (defArgs s_has_script) (defBody s_has_script) (defScope s_has_script) .none kV27 dc27 pm27 an27 cd27 ct27), sl27⟩)
    (c_27 : PySem.W.codeIn K cd27 "has_script" = true)
    (k_27 : PySem.W.keepIn K (.ref f27) = true)
    (a_28 : PySem.W.nsIn K mainGlobals "need_script" = some (some (.ref f28)))
    (l_28 : K.lookup f28 = some ⟨oc28, od28, .func (PySem.W.fnOf "need_script" "need_script" (defArgs s_need_script) (defBody s_need_script) (defScope s_need_script) .none kV28 dc28 pm28 an28 cd28 ct28), sl28⟩)
    (c_28 : PySem.W.codeIn K cd28 "need_script" = true)
    (k_28 : PySem.W.keepIn K (.ref f28) = true)
    (a_29 : PySem.W.nsIn K mainGlobals "text_behind" = some (some (.ref f29)))
    (l_29 : K.lookup f29 = some ⟨oc29, od29, .func (PySem.W.fnOf "text_behind" "text_behind" (defArgs s_text_behind) (defBody s_text_behind) (defScope s_text_behind) .none kV29 dc29 pm29 an29 cd29 ct29), sl29⟩)
    (c_29 : PySem.W.codeIn K cd29 "text_behind" = true)
    (k_29 : PySem.W.keepIn K (.ref f29) = true)
    (a_30 : PySem.W.nsIn K mainGlobals "changed" = some (some (.ref f30)))
    (l_30 : K.lookup f30 = some ⟨oc30, od30, .func (PySem.W.fnOf "changed" "changed" (defArgs s_changed) (defBody s_changed) (defScope s_changed) .none kV30 dc30 pm30 an30 cd30 ct30), sl30⟩)
    (c_30 : PySem.W.codeIn K cd30 "changed" = true)
    (k_30 : PySem.W.keepIn K (.ref f30) = true)
    (a_31 : PySem.W.findIn K (.ref kC_Page) "row_of" = some (some (.ref f31)))
    (n_31 : PySem.W.isFn K (.ref f31) = true)
    (l_31 : K.lookup f31 = some ⟨oc31, od31, .func (PySem.W.fnOf "row_of" "Page.row_of" (defArgs s_Page_row_of) (defBody s_Page_row_of) (defScope s_Page_row_of) .none kV31 dc31 pm31 an31 cd31 ct31), sl31⟩)
    (c_31 : PySem.W.codeIn K cd31 "Page.row_of" = true)
    (k_31 : PySem.W.keepIn K (.ref f31) = true)
    (a_32 : PySem.W.findIn K (.ref kC_Page) "place" = some (some (.ref f32)))
    (n_32 : PySem.W.isFn K (.ref f32) = true)
    (l_32 : K.lookup f32 = some ⟨oc32, od32, .func (PySem.W.fnOf "place" "Page.place" (defArgs s_Page_place) (defBody s_Page_place) (defScope s_Page_place) .none kV32 dc32 pm32 an32 cd32 ct32), sl32⟩)
    (c_32 : PySem.W.codeIn K cd32 "Page.place" = true)
    (k_32 : PySem.W.keepIn K (.ref f32) = true)
    (a_33 : PySem.W.nsIn K mainGlobals "place_behind" = some (some (.ref f33)))
    (l_33 : K.lookup f33 = some ⟨oc33, od33, .func (PySem.W.fnOf "place_behind" "place_behind" (defArgs s_place_behind) (defBody s_place_behind) (defScope s_place_behind) .none kV33 dc33 pm33 an33 cd33 ct33), sl33⟩)
    (c_33 : PySem.W.codeIn K cd33 "place_behind" = true)
    (k_33 : PySem.W.keepIn K (.ref f33) = true)
    (a_34 : PySem.W.nsIn K mainGlobals "new_place" = some (some (.ref f34)))
    (l_34 : K.lookup f34 = some ⟨oc34, od34, .func (PySem.W.fnOf "new_place" "new_place" (defArgs s_new_place) (defBody s_new_place) (defScope s_new_place) .none kV34 dc34 pm34 an34 cd34 ct34), sl34⟩)
    (c_34 : PySem.W.codeIn K cd34 "new_place" = true)
    (k_34 : PySem.W.keepIn K (.ref f34) = true)
    (a_35 : PySem.W.nsIn K mainGlobals "is_pick" = some (some (.ref f35)))
    (l_35 : K.lookup f35 = some ⟨oc35, od35, .func (PySem.W.fnOf "is_pick" "is_pick" (defArgs s_is_pick) (defBody s_is_pick) (defScope s_is_pick) .none kV35 dc35 pm35 an35 cd35 ct35), sl35⟩)
    (c_35 : PySem.W.codeIn K cd35 "is_pick" = true)
    (k_35 : PySem.W.keepIn K (.ref f35) = true)
    (a_36 : PySem.W.nsIn K mainGlobals "is_attempt" = some (some (.ref f36)))
    (l_36 : K.lookup f36 = some ⟨oc36, od36, .func (PySem.W.fnOf "is_attempt" "is_attempt" (defArgs s_is_attempt) (defBody s_is_attempt) (defScope s_is_attempt) .none kV36 dc36 pm36 an36 cd36 ct36), sl36⟩)
    (c_36 : PySem.W.codeIn K cd36 "is_attempt" = true)
    (k_36 : PySem.W.keepIn K (.ref f36) = true)
    (a_37 : PySem.W.nsIn K mainGlobals "is_policy" = some (some (.ref f37)))
    (l_37 : K.lookup f37 = some ⟨oc37, od37, .func (PySem.W.fnOf "is_policy" "is_policy" (defArgs s_is_policy) (defBody s_is_policy) (defScope s_is_policy) .none kV37 dc37 pm37 an37 cd37 ct37), sl37⟩)
    (c_37 : PySem.W.codeIn K cd37 "is_policy" = true)
    (k_37 : PySem.W.keepIn K (.ref f37) = true)
    (a_38 : PySem.W.nsIn K mainGlobals "need_policy" = some (some (.ref f38)))
    (l_38 : K.lookup f38 = some ⟨oc38, od38, .func (PySem.W.fnOf "need_policy" "need_policy" (defArgs s_need_policy) (defBody s_need_policy) (defScope s_need_policy) .none kV38 dc38 pm38 an38 cd38 ct38), sl38⟩)
    (c_38 : PySem.W.codeIn K cd38 "need_policy" = true)
    (k_38 : PySem.W.keepIn K (.ref f38) = true)
    (a_39 : PySem.W.nsIn K mainGlobals "fate_at" = some (some (.ref f39)))
    (l_39 : K.lookup f39 = some ⟨oc39, od39, .func (PySem.W.fnOf "fate_at" "fate_at" (defArgs s_fate_at) (defBody s_fate_at) (defScope s_fate_at) .none kV39 dc39 pm39 an39 cd39 ct39), sl39⟩)
    (c_39 : PySem.W.codeIn K cd39 "fate_at" = true)
    (k_39 : PySem.W.keepIn K (.ref f39) = true)
    (a_40 : PySem.W.nsIn K mainGlobals "picked" = some (some (.ref f40)))
    (l_40 : K.lookup f40 = some ⟨oc40, od40, .func (PySem.W.fnOf "picked" "picked" (defArgs s_picked) (defBody s_picked) (defScope s_picked) .none kV40 dc40 pm40 an40 cd40 ct40), sl40⟩)
    (c_40 : PySem.W.codeIn K cd40 "picked" = true)
    (k_40 : PySem.W.keepIn K (.ref f40) = true)
    (a_41 : PySem.W.nsIn K mainGlobals "sought" = some (some (.ref f41)))
    (l_41 : K.lookup f41 = some ⟨oc41, od41, .func (PySem.W.fnOf "sought" "sought" (defArgs s_sought) (defBody s_sought) (defScope s_sought) .none kV41 dc41 pm41 an41 cd41 ct41), sl41⟩)
    (c_41 : PySem.W.codeIn K cd41 "sought" = true)
    (k_41 : PySem.W.keepIn K (.ref f41) = true)
    (a_42 : PySem.W.nsIn K mainGlobals "places_of" = some (some (.ref f42)))
    (l_42 : K.lookup f42 = some ⟨oc42, od42, .func (PySem.W.fnOf "places_of" "places_of" (defArgs s_places_of) (defBody s_places_of) (defScope s_places_of) .none kV42 dc42 pm42 an42 cd42 ct42), sl42⟩)
    (c_42 : PySem.W.codeIn K cd42 "places_of" = true)
    (k_42 : PySem.W.keepIn K (.ref f42) = true)
    (a_43 : PySem.W.nsIn K mainGlobals "attempt_matches" = some (some (.ref f43)))
    (l_43 : K.lookup f43 = some ⟨oc43, od43, .func (PySem.W.fnOf "attempt_matches" "attempt_matches" (defArgs s_attempt_matches) (defBody s_attempt_matches) (defScope s_attempt_matches) .none kV43 dc43 pm43 an43 cd43 ct43), sl43⟩)
    (c_43 : PySem.W.codeIn K cd43 "attempt_matches" = true)
    (k_43 : PySem.W.keepIn K (.ref f43) = true)
    (a_44 : PySem.W.nsIn K mainGlobals "found_in" = some (some (.ref f44)))
    (l_44 : K.lookup f44 = some ⟨oc44, od44, .func (PySem.W.fnOf "found_in" "found_in" (defArgs s_found_in) (defBody s_found_in) (defScope s_found_in) .none kV44 dc44 pm44 an44 cd44 ct44), sl44⟩)
    (c_44 : PySem.W.codeIn K cd44 "found_in" = true)
    (k_44 : PySem.W.keepIn K (.ref f44) = true)
    (a_45 : PySem.W.findIn K (.ref kC_Page) "fate" = some (some (.ref f45)))
    (n_45 : PySem.W.isFn K (.ref f45) = true)
    (l_45 : K.lookup f45 = some ⟨oc45, od45, .func (PySem.W.fnOf "fate" "Page.fate" (defArgs s_Page_fate) (defBody s_Page_fate) (defScope s_Page_fate) .none kV45 dc45 pm45 an45 cd45 ct45), sl45⟩)
    (c_45 : PySem.W.codeIn K cd45 "Page.fate" = true)
    (k_45 : PySem.W.keepIn K (.ref f45) = true)
    (a_46 : PySem.W.nsIn K mainGlobals "is_note" = some (some (.ref f46)))
    (l_46 : K.lookup f46 = some ⟨oc46, od46, .func (PySem.W.fnOf "is_note" "is_note" (defArgs s_is_note) (defBody s_is_note) (defScope s_is_note) .none kV46 dc46 pm46 an46 cd46 ct46), sl46⟩)
    (c_46 : PySem.W.codeIn K cd46 "is_note" = true)
    (k_46 : PySem.W.keepIn K (.ref f46) = true)
    (a_47 : PySem.W.nsIn K mainGlobals "need_note" = some (some (.ref f47)))
    (l_47 : K.lookup f47 = some ⟨oc47, od47, .func (PySem.W.fnOf "need_note" "need_note" (defArgs s_need_note) (defBody s_need_note) (defScope s_need_note) .none kV47 dc47 pm47 an47 cd47 ct47), sl47⟩)
    (c_47 : PySem.W.codeIn K cd47 "need_note" = true)
    (k_47 : PySem.W.keepIn K (.ref f47) = true)
    (a_48 : PySem.W.nsIn K mainGlobals "need_both" = some (some (.ref f48)))
    (l_48 : K.lookup f48 = some ⟨oc48, od48, .func (PySem.W.fnOf "need_both" "need_both" (defArgs s_need_both) (defBody s_need_both) (defScope s_need_both) .none kV48 dc48 pm48 an48 cd48 ct48), sl48⟩)
    (c_48 : PySem.W.codeIn K cd48 "need_both" = true)
    (k_48 : PySem.W.keepIn K (.ref f48) = true)
    (a_49 : PySem.W.nsIn K mainGlobals "words_of" = some (some (.ref f49)))
    (l_49 : K.lookup f49 = some ⟨oc49, od49, .func (PySem.W.fnOf "words_of" "words_of" (defArgs s_words_of) (defBody s_words_of) (defScope s_words_of) .none kV49 dc49 pm49 an49 cd49 ct49), sl49⟩)
    (c_49 : PySem.W.codeIn K cd49 "words_of" = true)
    (k_49 : PySem.W.keepIn K (.ref f49) = true)
    (a_50 : PySem.W.nsIn K mainGlobals "note_places" = some (some (.ref f50)))
    (l_50 : K.lookup f50 = some ⟨oc50, od50, .func (PySem.W.fnOf "note_places" "note_places" (defArgs s_note_places) (defBody s_note_places) (defScope s_note_places) .none kV50 dc50 pm50 an50 cd50 ct50), sl50⟩)
    (c_50 : PySem.W.codeIn K cd50 "note_places" = true)
    (k_50 : PySem.W.keepIn K (.ref f50) = true)
    (a_51 : PySem.W.nsIn K mainGlobals "fate" = some (some (.ref f51)))
    (l_51 : K.lookup f51 = some ⟨oc51, od51, .func (PySem.W.fnOf "fate" "fate" (defArgs s_fate) (defBody s_fate) (defScope s_fate) .none kV51 dc51 pm51 an51 cd51 ct51), sl51⟩)
    (c_51 : PySem.W.codeIn K cd51 "fate" = true)
    (k_51 : PySem.W.keepIn K (.ref f51) = true)
    (a_52 : PySem.W.findIn K (.ref kC_Page) "seek" = some (some (.ref f52)))
    (n_52 : PySem.W.isFn K (.ref f52) = true)
    (l_52 : K.lookup f52 = some ⟨oc52, od52, .func (PySem.W.fnOf "seek" "Page.seek" (defArgs s_Page_seek) (defBody s_Page_seek) (defScope s_Page_seek) .none kV52 dc52 pm52 an52 cd52 ct52), sl52⟩)
    (c_52 : PySem.W.codeIn K cd52 "Page.seek" = true)
    (k_52 : PySem.W.keepIn K (.ref f52) = true)
    (a_53 : PySem.W.nsIn K mainGlobals "find" = some (some (.ref f53)))
    (l_53 : K.lookup f53 = some ⟨oc53, od53, .func (PySem.W.fnOf "find" "find" (defArgs s_find) (defBody s_find) (defScope s_find) .none kV53 dc53 pm53 an53 cd53 ct53), sl53⟩)
    (c_53 : PySem.W.codeIn K cd53 "find" = true)
    (k_53 : PySem.W.keepIn K (.ref f53) = true)
    (a_54 : PySem.W.nsIn K mainGlobals "need_prices" = some (some (.ref f54)))
    (l_54 : K.lookup f54 = some ⟨oc54, od54, .func (PySem.W.fnOf "need_prices" "need_prices" (defArgs s_need_prices) (defBody s_need_prices) (defScope s_need_prices) .none kV54 dc54 pm54 an54 cd54 ct54), sl54⟩)
    (c_54 : PySem.W.codeIn K cd54 "need_prices" = true)
    (k_54 : PySem.W.keepIn K (.ref f54) = true)
    (a_55 : PySem.W.nsIn K mainGlobals "price_of" = some (some (.ref f55)))
    (l_55 : K.lookup f55 = some ⟨oc55, od55, .func (PySem.W.fnOf "price_of" "price_of" (defArgs s_price_of) (defBody s_price_of) (defScope s_price_of) .none kV55 dc55 pm55 an55 cd55 ct55), sl55⟩)
    (c_55 : PySem.W.codeIn K cd55 "price_of" = true)
    (k_55 : PySem.W.keepIn K (.ref f55) = true)
    (a_56 : PySem.W.nsIn K mainGlobals "price" = some (some (.ref f56)))
    (l_56 : K.lookup f56 = some ⟨oc56, od56, .func (PySem.W.fnOf "price" "price" (defArgs s_price) (defBody s_price) (defScope s_price) (.ref T56) kV56 dc56 pm56 an56 cd56 ct56), sl56⟩)
    (c_56 : PySem.W.codeIn K cd56 "price" = true)
    (k_56 : PySem.W.keepIn K (.ref f56) = true)
    (t_56 : K.lookup T56 = some ⟨tc56, td56, .seq #[(.ref a4)] tn56, ts56⟩)
    (q4 : K.lookup a4 = some ⟨.type "tuple", d4, .seq #[(.int 1 t1), (.int 1 t2), (.int 1 t3)] n4, z4⟩)
    (a_57 : PySem.W.findIn K (.ref kC_Page) "undo" = some (some (.ref f57)))
    (n_57 : PySem.W.isFn K (.ref f57) = true)
    (l_57 : K.lookup f57 = some ⟨oc57, od57, .func (PySem.W.fnOf "undo" "Page.undo" (defArgs s_Page_undo) (defBody s_Page_undo) (defScope s_Page_undo) .none kV57 dc57 pm57 an57 cd57 ct57), sl57⟩)
    (c_57 : PySem.W.codeIn K cd57 "Page.undo" = true)
    (k_57 : PySem.W.keepIn K (.ref f57) = true)
    (a_58 : PySem.W.nsIn K mainGlobals "law" = some (some (.ref f58)))
    (l_58 : K.lookup f58 = some ⟨oc58, od58, .func (PySem.W.fnOf "law" "law" (defArgs s_law) (defBody s_law) (defScope s_law) .none kV58 dc58 pm58 an58 cd58 ct58), sl58⟩)
    (c_58 : PySem.W.codeIn K cd58 "law" = true)
    (k_58 : PySem.W.keepIn K (.ref f58) = true)
    (u_LETTERS : PySem.W.nsIn K mainGlobals "LETTERS" = some (some (.str "abcdefghijklmnopqrstuvwxyz" t5)))
    (u_MOST_WORDS : PySem.W.nsIn K mainGlobals "MOST_WORDS" = some (some (.int 60 t6)))
    (u_MOST_AROUND : PySem.W.nsIn K mainGlobals "MOST_AROUND" = some (some (.int 2 t7)))
    (u_MOST_STEPS : PySem.W.nsIn K mainGlobals "MOST_STEPS" = some (some (.int 120 t8)))
    (u_PICKS : PySem.W.nsIn K mainGlobals "PICKS" = some (some (.ref a12)))
    (u_MOST_ATTEMPTS : PySem.W.nsIn K mainGlobals "MOST_ATTEMPTS" = some (some (.int 2 t13)))
    (u_MOST_PRICE : PySem.W.nsIn K mainGlobals "MOST_PRICE" = some (some (.int 9 t14)))
    (q12 : K.lookup a12 = some ⟨.type "tuple", d12, .seq #[(.str "first" t9), (.str "last" t10), (.str "only" t11)] n12, z12⟩)
    (xg_0 : PySem.W.nsIn K mainGlobals "InvalidText" = some (some (.ref xC0)))
    (xx_0 : PySem.W.excIn K xC0 [.type "ValueError", .type "Exception", .type "BaseException", .type "object"] "ValueError.__new__" = true)
    (xk_0 : PySem.W.keepIn K (.ref xC0) = true)
    (xb_0 : PySem.W.subIn K (.ref xC0) (.type "BaseException") = some true)
    (xt_0 : PySem.W.typeIn K (.ref xC0) = some (.type "type"))
    (xg_1 : PySem.W.nsIn K mainGlobals "InvalidPlace" = some (some (.ref xC1)))
    (xx_1 : PySem.W.excIn K xC1 [.type "ValueError", .type "Exception", .type "BaseException", .type "object"] "ValueError.__new__" = true)
    (xk_1 : PySem.W.keepIn K (.ref xC1) = true)
    (xb_1 : PySem.W.subIn K (.ref xC1) (.type "BaseException") = some true)
    (xt_1 : PySem.W.typeIn K (.ref xC1) = some (.type "type"))
    (xg_2 : PySem.W.nsIn K mainGlobals "InvalidName" = some (some (.ref xC2)))
    (xx_2 : PySem.W.excIn K xC2 [.type "ValueError", .type "Exception", .type "BaseException", .type "object"] "ValueError.__new__" = true)
    (xk_2 : PySem.W.keepIn K (.ref xC2) = true)
    (xb_2 : PySem.W.subIn K (.ref xC2) (.type "BaseException") = some true)
    (xt_2 : PySem.W.typeIn K (.ref xC2) = some (.type "type"))
    (xg_3 : PySem.W.nsIn K mainGlobals "InvalidNumber" = some (some (.ref xC3)))
    (xx_3 : PySem.W.excIn K xC3 [.type "ValueError", .type "Exception", .type "BaseException", .type "object"] "ValueError.__new__" = true)
    (xk_3 : PySem.W.keepIn K (.ref xC3) = true)
    (xb_3 : PySem.W.subIn K (.ref xC3) (.type "BaseException") = some true)
    (xt_3 : PySem.W.typeIn K (.ref xC3) = some (.type "type"))
    (xg_4 : PySem.W.nsIn K mainGlobals "InvalidWord" = some (some (.ref xC4)))
    (xx_4 : PySem.W.excIn K xC4 [.type "ValueError", .type "Exception", .type "BaseException", .type "object"] "ValueError.__new__" = true)
    (xk_4 : PySem.W.keepIn K (.ref xC4) = true)
    (xb_4 : PySem.W.subIn K (.ref xC4) (.type "BaseException") = some true)
    (xt_4 : PySem.W.typeIn K (.ref xC4) = some (.type "type"))
    (xg_5 : PySem.W.nsIn K mainGlobals "InvalidScript" = some (some (.ref xC5)))
    (xx_5 : PySem.W.excIn K xC5 [.type "ValueError", .type "Exception", .type "BaseException", .type "object"] "ValueError.__new__" = true)
    (xk_5 : PySem.W.keepIn K (.ref xC5) = true)
    (xb_5 : PySem.W.subIn K (.ref xC5) (.type "BaseException") = some true)
    (xt_5 : PySem.W.typeIn K (.ref xC5) = some (.type "type"))
    (xg_6 : PySem.W.nsIn K mainGlobals "InvalidPolicy" = some (some (.ref xC6)))
    (xx_6 : PySem.W.excIn K xC6 [.type "ValueError", .type "Exception", .type "BaseException", .type "object"] "ValueError.__new__" = true)
    (xk_6 : PySem.W.keepIn K (.ref xC6) = true)
    (xb_6 : PySem.W.subIn K (.ref xC6) (.type "BaseException") = some true)
    (xt_6 : PySem.W.typeIn K (.ref xC6) = some (.type "type"))
    (xg_7 : PySem.W.nsIn K mainGlobals "InvalidNote" = some (some (.ref xC7)))
    (xx_7 : PySem.W.excIn K xC7 [.type "ValueError", .type "Exception", .type "BaseException", .type "object"] "ValueError.__new__" = true)
    (xk_7 : PySem.W.keepIn K (.ref xC7) = true)
    (xb_7 : PySem.W.subIn K (.ref xC7) (.type "BaseException") = some true)
    (xt_7 : PySem.W.typeIn K (.ref xC7) = some (.type "type"))
    (xg_8 : PySem.W.nsIn K mainGlobals "InvalidPrices" = some (some (.ref xC8)))
    (xx_8 : PySem.W.excIn K xC8 [.type "ValueError", .type "Exception", .type "BaseException", .type "object"] "ValueError.__new__" = true)
    (xk_8 : PySem.W.keepIn K (.ref xC8) = true)
    (xb_8 : PySem.W.subIn K (.ref xC8) (.type "BaseException") = some true)
    (xt_8 : PySem.W.typeIn K (.ref xC8) = some (.type "type"))
    (xg_9 : PySem.W.nsIn K mainGlobals "NothingToUndo" = some (some (.ref xC9)))
    (xx_9 : PySem.W.excIn K xC9 [.type "ValueError", .type "Exception", .type "BaseException", .type "object"] "ValueError.__new__" = true)
    (xk_9 : PySem.W.keepIn K (.ref xC9) = true)
    (xb_9 : PySem.W.subIn K (.ref xC9) (.type "BaseException") = some true)
    (xt_9 : PySem.W.typeIn K (.ref xC9) = some (.type "type"))
    (yg_0 : PySem.W.nsIn K mainGlobals "TooMany" = some (some (.ref yC0)))
    (yb_0 : PySem.W.subIn K (.ref yC0) (.type "BaseException") = some true)
    (yt_0 : PySem.W.typeIn K (.ref yC0) = some (.type "type"))
    (yn_0 : PySem.W.findIn K (.ref yC0) "limit" = some none)
    (yc_0 : K.lookup yC0 = some (excClassObj ynm0 yq0 yC0 yN0 ybs0 ybm0 true ysn0 ysub0 yab0 ycol0 ydd0 yk00 yk10 yk20 yk30 yk50 "ValueError.__new__"))
    (yr_0 : PySem.HandSPX.refsVE ybm0 = true)
    (ys_0 : PySem.W.findIn K (.ref yC0) "__setattr__" = some (some (.builtin "object.__setattr__")))
    (yk_0 : PySem.W.keepIn K (.ref yC0) = true)
    (yi_0 : PySem.W.findIn K (.ref yC0) "__init__" = some (some (.ref yI0)))
    (yu_0 : PySem.W.typeIn K (.ref yI0) = some (.type "function"))
    (yl_0 : K.lookup yI0 = some ⟨yoc0, yod0, .func (PySem.W.fnOf "__init__" "TooMany.__init__" (defArgs si_TooMany) (defBody si_TooMany) (defScope si_TooMany) .none ykV0 ydc0 ypm0 yan0 ycd0 yct0), ysl0⟩)
    (yo_0 : PySem.W.codeIn K ycd0 "TooMany.__init__" = true)
    (yp_0 : PySem.W.keepIn K (.ref yI0) = true)
    (zb_0 : PySem.W.nsIn K mainGlobals "NoteError" = some (some (.ref yB0)))
    (zs_0 : PySem.W.specialIn K (.ref yB0) "__getattribute__" = some (some (.builtin "type.__getattribute__")))
    (zr_0 : PySem.W.readsIn K yB0 (.type "type") = true)
    (zf_0 : PySem.W.findCls K (.ref yB0) (.type "type") "__init__" = some (.val (.builtin "ValueError.__init__")))
    (b_0 : PySem.W.nsIn K mainGlobals "len" = some none)
    (b_1 : PySem.W.nsIn K mainGlobals "int" = some none)
    (b_2 : PySem.W.nsIn K mainGlobals "abs" = some none)
    (b_3 : PySem.W.nsIn K mainGlobals "min" = some none)
    (b_4 : PySem.W.nsIn K mainGlobals "max" = some none)
    (b_5 : PySem.W.nsIn K mainGlobals "tuple" = some none)
    (b_6 : PySem.W.nsIn K mainGlobals "list" = some none)
    (b_7 : PySem.W.nsIn K mainGlobals "all" = some none)
    (b_8 : PySem.W.nsIn K mainGlobals "sum" = some none)
    (b_9 : PySem.W.nsIn K mainGlobals "str" = some none)
    (b_10 : PySem.W.nsIn K mainGlobals "isinstance" = some none)
    (b_11 : PySem.W.nsIn K mainGlobals "bool" = some none)
    (b_12 : PySem.W.nsIn K mainGlobals "range" = some none)
    (b_13 : PySem.W.nsIn K mainGlobals "sorted" = some none)
    (b_14 : PySem.W.nsIn K mainGlobals "enumerate" = some none)
    (b_15 : PySem.W.nsIn K mainGlobals "zip" = some none)
    (b_16 : PySem.W.nsIn K mainGlobals "set" = some none)
    (b_17 : PySem.W.nsIn K mainGlobals "dict" = some none) : Top K mg :=
  { a_Page_now := fun P w base k => ⟨fun C hC => by cases ClsAt.inj hC kg_Page; exact ⟨⟨kp_Page, kh_Page, ko_Page, ks_Page⟩, ka_Page_now⟩⟩,
    a_Page_past := fun P w base k => ⟨fun C hC => by cases ClsAt.inj hC kg_Page; exact ⟨⟨kp_Page, kh_Page, ko_Page, ks_Page⟩, ka_Page_past⟩⟩,
    f__law_source := ⟨f0, _, PySem.W.mg_of X G a_0, fun_mk (st := s__law_source) l_0 c_0 k_0⟩,
    f__law_draw := ⟨f1, _, PySem.W.mg_of X G a_1, fun_mk (st := s__law_draw) l_1 c_1 k_1⟩,
    f__law_choice := ⟨f2, _, PySem.W.mg_of X G a_2, fun_mk (st := s__law_choice) l_2 c_2 k_2⟩,
    f__law_menu := ⟨f3, _, PySem.W.mg_of X G a_3, fun_mk (st := s__law_menu) l_3 c_3 k_3⟩,
    f__law_row := ⟨f4, _, PySem.W.mg_of X G a_4, fun_mk (st := s__law_row) l_4 c_4 k_4⟩,
    f__law_note := ⟨f5, _, PySem.W.mg_of X G a_5, fun_mk (st := s__law_note) l_5 c_5 k_5⟩,
    f__law_attempt := ⟨f6, _, PySem.W.mg_of X G a_6, fun_mk (st := s__law_attempt) l_6 c_6 k_6⟩,
    f__law_policy := ⟨f7, _, PySem.W.mg_of X G a_7, fun_mk (st := s__law_policy) l_7 c_7 k_7⟩,
    f__law_words := ⟨f8, _, PySem.W.mg_of X G a_8, fun_mk (st := s__law_words) l_8 c_8 k_8⟩,
    f__law_text := ⟨f9, _, PySem.W.mg_of X G a_9, fun_mk (st := s__law_text) l_9 c_9 k_9⟩,
    f__law_held := ⟨f10, _, PySem.W.mg_of X G a_10, fun_mk (st := s__law_held) l_10 c_10 k_10⟩,
    f__law_script := ⟨f11, _, PySem.W.mg_of X G a_11, fun_mk (st := s__law_script) l_11 c_11 k_11⟩,
    f_is_word := ⟨f12, _, PySem.W.mg_of X G a_12, fun_mk (st := s_is_word) l_12 c_12 k_12⟩,
    f_are_words := ⟨f13, _, PySem.W.mg_of X G a_13, fun_mk (st := s_are_words) l_13 c_13 k_13⟩,
    f_is_text := ⟨f14, _, PySem.W.mg_of X G a_14, fun_mk (st := s_is_text) l_14 c_14 k_14⟩,
    f_need_text := ⟨f15, _, PySem.W.mg_of X G a_15, fun_mk (st := s_need_text) l_15 c_15 k_15⟩,
    f_Page___init__ := ⟨kC_Page, f16, _, PySem.W.mg_of X G kg_Page, kg_Page, ⟨mk_16, a_16, n_16, mp_16⟩, fun_mk (st := s_Page___init__) l_16 c_16 k_16⟩,
    f_is_from := ⟨f17, _, PySem.W.mg_of X G a_17, fun_mk (st := s_is_from) l_17 c_17 k_17⟩,
    f_Page_need_place := ⟨f18, _, fun C hC => by cases ClsAt.inj hC kg_Page; exact ⟨⟨kp_Page, kh_Page, ko_Page, ks_Page⟩, ⟨a_18, n_18, k_18⟩⟩, fun_mk (st := s_Page_need_place) l_18 c_18 k_18⟩,
    f_Page_go_on := ⟨f19, _, fun C hC => by cases ClsAt.inj hC kg_Page; exact ⟨⟨kp_Page, kh_Page, ko_Page, ks_Page⟩, ⟨a_19, n_19, k_19⟩⟩, fun_mk (st := s_Page_go_on) l_19 c_19 k_19⟩,
    f_Page_add := ⟨f20, _, fun C hC => by cases ClsAt.inj hC kg_Page; exact ⟨⟨kp_Page, kh_Page, ko_Page, ks_Page⟩, ⟨a_20, n_20, k_20⟩⟩, fun_mk (st := s_Page_add) l_20 c_20 k_20⟩,
    f_Page_moved := ⟨f21, _, fun C hC => by cases ClsAt.inj hC kg_Page; exact ⟨⟨kp_Page, kh_Page, ko_Page, ks_Page⟩, ⟨a_21, n_21, k_21⟩⟩, fun_mk (st := s_Page_moved) l_21 c_21 k_21⟩,
    f_Page_put := ⟨f22, _, fun C hC => by cases ClsAt.inj hC kg_Page; exact ⟨⟨kp_Page, kh_Page, ko_Page, ks_Page⟩, ⟨a_22, n_22, k_22⟩⟩, fun_mk (st := s_Page_put) l_22 c_22 k_22⟩,
    f_Page_out := ⟨f23, _, fun C hC => by cases ClsAt.inj hC kg_Page; exact ⟨⟨kp_Page, kh_Page, ko_Page, ks_Page⟩, ⟨a_23, n_23, k_23⟩⟩, fun_mk (st := s_Page_out) l_23 c_23 k_23⟩,
    f_Page_swap := ⟨f24, _, fun C hC => by cases ClsAt.inj hC kg_Page; exact ⟨⟨kp_Page, kh_Page, ko_Page, ks_Page⟩, ⟨a_24, n_24, k_24⟩⟩, fun_mk (st := s_Page_swap) l_24 c_24 k_24⟩,
    f__law_done := ⟨f25, _, PySem.W.mg_of X G a_25, fun_mk (st := s__law_done) l_25 c_25 k_25⟩,
    f_Page_text := ⟨p26, f26, _, fun C hC => by cases ClsAt.inj hC kg_Page; exact ⟨⟨kp_Page, kh_Page, ko_Page, ks_Page⟩, ⟨a_26, pg_26, pt_26, ⟨_, pc_26⟩⟩⟩, fun_mk (st := s_Page_text) l_26 c_26 k_26⟩,
    f_has_script := ⟨f27, _, PySem.W.mg_of X G a_27, fun_mk (st := s_has_script) l_27 c_27 k_27⟩,
    f_need_script := ⟨f28, _, PySem.W.mg_of X G a_28, fun_mk (st := s_need_script) l_28 c_28 k_28⟩,
    f_text_behind := ⟨f29, _, PySem.W.mg_of X G a_29, fun_mk (st := s_text_behind) l_29 c_29 k_29⟩,
    f_changed := ⟨f30, _, PySem.W.mg_of X G a_30, fun_mk (st := s_changed) l_30 c_30 k_30⟩,
    f_Page_row_of := ⟨f31, _, fun C hC => by cases ClsAt.inj hC kg_Page; exact ⟨⟨kp_Page, kh_Page, ko_Page, ks_Page⟩, ⟨a_31, n_31, k_31⟩⟩, fun_mk (st := s_Page_row_of) l_31 c_31 k_31⟩,
    f_Page_place := ⟨f32, _, fun C hC => by cases ClsAt.inj hC kg_Page; exact ⟨⟨kp_Page, kh_Page, ko_Page, ks_Page⟩, ⟨a_32, n_32, k_32⟩⟩, fun_mk (st := s_Page_place) l_32 c_32 k_32⟩,
    f_place_behind := ⟨f33, _, PySem.W.mg_of X G a_33, fun_mk (st := s_place_behind) l_33 c_33 k_33⟩,
    f_new_place := ⟨f34, _, PySem.W.mg_of X G a_34, fun_mk (st := s_new_place) l_34 c_34 k_34⟩,
    f_is_pick := ⟨f35, _, PySem.W.mg_of X G a_35, fun_mk (st := s_is_pick) l_35 c_35 k_35⟩,
    f_is_attempt := ⟨f36, _, PySem.W.mg_of X G a_36, fun_mk (st := s_is_attempt) l_36 c_36 k_36⟩,
    f_is_policy := ⟨f37, _, PySem.W.mg_of X G a_37, fun_mk (st := s_is_policy) l_37 c_37 k_37⟩,
    f_need_policy := ⟨f38, _, PySem.W.mg_of X G a_38, fun_mk (st := s_need_policy) l_38 c_38 k_38⟩,
    f_fate_at := ⟨f39, _, PySem.W.mg_of X G a_39, fun_mk (st := s_fate_at) l_39 c_39 k_39⟩,
    f_picked := ⟨f40, _, PySem.W.mg_of X G a_40, fun_mk (st := s_picked) l_40 c_40 k_40⟩,
    f_sought := ⟨f41, _, PySem.W.mg_of X G a_41, fun_mk (st := s_sought) l_41 c_41 k_41⟩,
    f_places_of := ⟨f42, _, PySem.W.mg_of X G a_42, fun_mk (st := s_places_of) l_42 c_42 k_42⟩,
    f_attempt_matches := ⟨f43, _, PySem.W.mg_of X G a_43, fun_mk (st := s_attempt_matches) l_43 c_43 k_43⟩,
    f_found_in := ⟨f44, _, PySem.W.mg_of X G a_44, fun_mk (st := s_found_in) l_44 c_44 k_44⟩,
    f_Page_fate := ⟨f45, _, fun C hC => by cases ClsAt.inj hC kg_Page; exact ⟨⟨kp_Page, kh_Page, ko_Page, ks_Page⟩, ⟨a_45, n_45, k_45⟩⟩, fun_mk (st := s_Page_fate) l_45 c_45 k_45⟩,
    f_is_note := ⟨f46, _, PySem.W.mg_of X G a_46, fun_mk (st := s_is_note) l_46 c_46 k_46⟩,
    f_need_note := ⟨f47, _, PySem.W.mg_of X G a_47, fun_mk (st := s_need_note) l_47 c_47 k_47⟩,
    f_need_both := ⟨f48, _, PySem.W.mg_of X G a_48, fun_mk (st := s_need_both) l_48 c_48 k_48⟩,
    f_words_of := ⟨f49, _, PySem.W.mg_of X G a_49, fun_mk (st := s_words_of) l_49 c_49 k_49⟩,
    f_note_places := ⟨f50, _, PySem.W.mg_of X G a_50, fun_mk (st := s_note_places) l_50 c_50 k_50⟩,
    f_fate := ⟨f51, _, PySem.W.mg_of X G a_51, fun_mk (st := s_fate) l_51 c_51 k_51⟩,
    f_Page_seek := ⟨f52, _, fun C hC => by cases ClsAt.inj hC kg_Page; exact ⟨⟨kp_Page, kh_Page, ko_Page, ks_Page⟩, ⟨a_52, n_52, k_52⟩⟩, fun_mk (st := s_Page_seek) l_52 c_52 k_52⟩,
    f_find := ⟨f53, _, PySem.W.mg_of X G a_53, fun_mk (st := s_find) l_53 c_53 k_53⟩,
    f_need_prices := ⟨f54, _, PySem.W.mg_of X G a_54, fun_mk (st := s_need_prices) l_54 c_54 k_54⟩,
    f_price_of := ⟨f55, _, PySem.W.mg_of X G a_55, fun_mk (st := s_price_of) l_55 c_55 k_55⟩,
    f_price := ⟨f56, _, [(.ref a4)], PySem.W.mg_of X G a_56, funD_mk (st := s_price) (its := [(.ref a4)]) l_56 c_56 k_56 t_56 (.cons rel_ref .nil) (by simp), rfl, fun R n μ H => (rp_cons (rep_tupK q4 (le_line (show 3 ≤ 1000 by decide)) (.cons rel_int (.cons rel_int (.cons rel_int .nil))) (rp_cons rp_int (rp_cons rp_int (rp_cons rp_int rp_nil)))) rp_nil)⟩,
    f_Page_undo := ⟨f57, _, fun C hC => by cases ClsAt.inj hC kg_Page; exact ⟨⟨kp_Page, kh_Page, ko_Page, ks_Page⟩, ⟨a_57, n_57, k_57⟩⟩, fun_mk (st := s_Page_undo) l_57 c_57 k_57⟩,
    f_law := ⟨f58, _, PySem.W.mg_of X G a_58, fun_mk (st := s_law) l_58 c_58 k_58⟩,
    g_LETTERS := fun P w base k => ⟨⟨_, (.str "abcdefghijklmnopqrstuvwxyz"), PySem.W.mg_of X G u_LETTERS, rel_str, fun R n μ H => rp_str⟩⟩,
    g_MOST_WORDS := fun P w base k => ⟨⟨_, (.int 60), PySem.W.mg_of X G u_MOST_WORDS, rel_int, fun R n μ H => rp_int⟩⟩,
    g_MOST_AROUND := fun P w base k => ⟨⟨_, (.int 2), PySem.W.mg_of X G u_MOST_AROUND, rel_int, fun R n μ H => rp_int⟩⟩,
    g_MOST_STEPS := fun P w base k => ⟨⟨_, (.int 120), PySem.W.mg_of X G u_MOST_STEPS, rel_int, fun R n μ H => rp_int⟩⟩,
    g_PICKS := fun P w base k => ⟨⟨_, (.ref a12), PySem.W.mg_of X G u_PICKS, rel_ref, fun R n μ H => (rep_tupK q12 (le_line (show 3 ≤ 1000 by decide)) (.cons rel_str (.cons rel_str (.cons rel_str .nil))) (rp_cons rp_str (rp_cons rp_str (rp_cons rp_str rp_nil))))⟩⟩,
    g_MOST_ATTEMPTS := fun P w base k => ⟨⟨_, (.int 2), PySem.W.mg_of X G u_MOST_ATTEMPTS, rel_int, fun R n μ H => rp_int⟩⟩,
    g_MOST_PRICE := fun P w base k => ⟨⟨_, (.int 9), PySem.W.mg_of X G u_MOST_PRICE, rel_int, fun R n μ H => rp_int⟩⟩,
    x_InvalidText := fun P w base k => ⟨⟨xC0, PySem.W.mg_of X G xg_0, xx_0, xk_0, xb_0, xt_0⟩⟩,
    x_InvalidPlace := fun P w base k => ⟨⟨xC1, PySem.W.mg_of X G xg_1, xx_1, xk_1, xb_1, xt_1⟩⟩,
    x_InvalidName := fun P w base k => ⟨⟨xC2, PySem.W.mg_of X G xg_2, xx_2, xk_2, xb_2, xt_2⟩⟩,
    x_InvalidNumber := fun P w base k => ⟨⟨xC3, PySem.W.mg_of X G xg_3, xx_3, xk_3, xb_3, xt_3⟩⟩,
    x_InvalidWord := fun P w base k => ⟨⟨xC4, PySem.W.mg_of X G xg_4, xx_4, xk_4, xb_4, xt_4⟩⟩,
    x_InvalidScript := fun P w base k => ⟨⟨xC5, PySem.W.mg_of X G xg_5, xx_5, xk_5, xb_5, xt_5⟩⟩,
    x_InvalidPolicy := fun P w base k => ⟨⟨xC6, PySem.W.mg_of X G xg_6, xx_6, xk_6, xb_6, xt_6⟩⟩,
    x_InvalidNote := fun P w base k => ⟨⟨xC7, PySem.W.mg_of X G xg_7, xx_7, xk_7, xb_7, xt_7⟩⟩,
    x_InvalidPrices := fun P w base k => ⟨⟨xC8, PySem.W.mg_of X G xg_8, xx_8, xk_8, xb_8, xt_8⟩⟩,
    x_NothingToUndo := fun P w base k => ⟨⟨xC9, PySem.W.mg_of X G xg_9, xx_9, xk_9, xb_9, xt_9⟩⟩,
    fx_TooMany := fun P w base k hk => ⟨yC0, yI0, _, ["self", "limit"], 1, PySem.W.mg_of X G yg_0, ⟨⟨_, _, _, _, _, _, _, _, _, _, _, _, _, _, _, yc_0, yr_0⟩, ys_0, yb_0, yt_0, yk_0⟩, yi_0, yu_0, hk, ini_ok (kk := _) (k := 0) (fun_mk (st := si_TooMany) yl_0 yo_0 yp_0) sci_TooMany (by rfl) (fun X => ⟨_, by rfl⟩) ⟨⟨_, _, _, _, _, _, _, _, _, _, _, _, _, _, _, yc_0, yr_0⟩, ys_0, yb_0, yt_0, yk_0⟩ yn_0 ⟨zs_0, zr_0, zf_0⟩ (PySem.W.mg_of X G zb_0) (by decide +kernel) (by decide +kernel) (by decide +kernel) (by decide +kernel) (by decide +kernel) (by decide +kernel) (by decide +kernel), (fun_mk (st := si_TooMany) yl_0 yo_0 yp_0).binds (fun _ _ _ _ _ _ us hl => match us, hl with | [_, _], _ => rfl)⟩,
    nb := fun x hx => by
      simp only [BN, List.mem_cons, List.not_mem_nil, or_false] at hx
      rcases hx with rfl | rfl | rfl | rfl | rfl | rfl | rfl | rfl | rfl | rfl | rfl | rfl | rfl | rfl | rfl | rfl | rfl | rfl
      · exact PySem.W.mg_none_of X G b_0
      · exact PySem.W.mg_none_of X G b_1
      · exact PySem.W.mg_none_of X G b_2
      · exact PySem.W.mg_none_of X G b_3
      · exact PySem.W.mg_none_of X G b_4
      · exact PySem.W.mg_none_of X G b_5
      · exact PySem.W.mg_none_of X G b_6
      · exact PySem.W.mg_none_of X G b_7
      · exact PySem.W.mg_none_of X G b_8
      · exact PySem.W.mg_none_of X G b_9
      · exact PySem.W.mg_none_of X G b_10
      · exact PySem.W.mg_none_of X G b_11
      · exact PySem.W.mg_none_of X G b_12
      · exact PySem.W.mg_none_of X G b_13
      · exact PySem.W.mg_none_of X G b_14
      · exact PySem.W.mg_none_of X G b_15
      · exact PySem.W.mg_none_of X G b_16
      · exact PySem.W.mg_none_of X G b_17
  }
theorem law_at {P : Program} {w : World} {K : Fg} {h : Heap} {mg : Mg} {fa : Addr} (hw : Tabs.w = w) (hfa : mg "law" = some (.ref fa)) (T : Top K mg) :
    ∃ fd : FuncData, (∀ (s : Shared) (u : Value), BindsTo s fd ⟨[u], []⟩ [("script", u)]) ∧ ∀ base : Heap, K.In base → base.Ns mainGlobals mg → FnOk P w K mg base (L2.CX P w) 7 fa fd ["script"] (spLaw K) := by
  obtain ⟨f, fd, e, F⟩ := T.f_law
  cases hfa.symm.trans e
  obtain ⟨oc, od, kV, doc, pm, an, cdv, ct, osl, e1, _⟩ := F.ex
  refine ⟨fd, fun s u => ?_, fun base _ _ => ?_⟩
  · rw [e1]
    exact .of_eq rfl
  · refine law_imp (fn_ok (b := b_law S__law_source S__law_note S__law_policy S__law_held S__law_script S__law_draw S_Page___init__ S_Page_add S__law_done S_Page_text S_changed S_Page_place S_new_place S_Page_fate S_fate S_Page_seek S_find S_price S_Page_undo S_Page_swap) F sc_law rfl T.nb hw ck_law ?_ (law_run fun ns hn => ⟨1000000000, law_ok hn⟩))
    have c_law_source_0 := (ok__law_source (P := P) (w := w) (base := base) T hw).fnD (k := 6) (by omega)
    have c_law_note_0 := (ok__law_note (P := P) (w := w) (base := base) T hw).fnD (k := 6) (by omega)
    have c_law_policy_0 := (ok__law_policy (P := P) (w := w) (base := base) T hw).fnD (k := 6) (by omega)
    have c_law_held_0 := (ok__law_held (P := P) (w := w) (base := base) T hw).fnD (k := 6) (by omega)
    have c_law_script_0 := (ok__law_script (P := P) (w := w) (base := base) T hw).fnD (k := 6) (by omega)
    have c_law_draw_0 := (ok__law_draw (P := P) (w := w) (base := base) T hw).fnD (k := 6) (by omega)
    have cPage___init___0 := (ok_Page___init__ (P := P) (w := w) (base := base) T hw).mkD (k := 6) (by omega)
    have cPage_add_0 := (ok_Page_add (P := P) (w := w) (base := base) T hw).mthD (k := 6) (by omega)
    have c_law_done_0 := (ok__law_done (P := P) (w := w) (base := base) T hw).fnD (k := 6) (by omega)
    have cPage_text_0 := (ok_Page_text (P := P) (w := w) (base := base) T hw).prpD (k := 6) (by omega)
    have cchanged_0 := (ok_changed (P := P) (w := w) (base := base) T hw).fnD (k := 6) (by omega)
    have cPage_place_0 := (ok_Page_place (P := P) (w := w) (base := base) T hw).mthD (k := 6) (by omega)
    have cnew_place_0 := (ok_new_place (P := P) (w := w) (base := base) T hw).fnD (k := 6) (by omega)
    have cPage_fate_0 := (ok_Page_fate (P := P) (w := w) (base := base) T hw).mthD (k := 6) (by omega)
    have cfate_0 := (ok_fate (P := P) (w := w) (base := base) T hw).fnD (k := 6) (by omega)
    have cPage_seek_0 := (ok_Page_seek (P := P) (w := w) (base := base) T hw).mthD (k := 6) (by omega)
    have cfind_0 := (ok_find (P := P) (w := w) (base := base) T hw).fnD (k := 6) (by omega)
    have cprice_1 : FnD ⟨P, w, K, mg, base, 6⟩ "price" S_price 3 [.tup [(.int 1), (.int 1), (.int 1)]] := (ok_price (P := P) (w := w) (base := base) T hw).fnD 0 (by decide) (by omega)
    have cPage_undo_0 := (ok_Page_undo (P := P) (w := w) (base := base) T hw).mthD (k := 6) (by omega)
    have cPage_swap_0 := (ok_Page_swap (P := P) (w := w) (base := base) T hw).mthD (k := 6) (by omega)
    simp only [b_law, okSs, okS, okE, okEs, and_true, true_and, and_self, c_law_source_0, c_law_note_0, c_law_policy_0, c_law_held_0, c_law_script_0, c_law_draw_0, cPage___init___0, cPage_add_0, c_law_done_0, cPage_text_0, cchanged_0, cPage_place_0, cnew_place_0, cPage_fate_0, cfate_0, cPage_seek_0, cfind_0, cprice_1, cPage_undo_0, cPage_swap_0]

end Ev
open PySem PySem.W PyProof.Rows
set_option maxHeartbeats 0 in
theorem PySem.Challenge.cw_notesbelow_k28_whole_pages_and_scripts_holds : PySem.Challenge.rw_notesbelow_k28_whole_pages_and_scripts.Holds := by
  w_on; o_law; k_head; (case hw => w_witness2)
  k_fill
  refine L2.walk_of (l := PySem.Challenge.rw_notesbelow_k28_whole_pages_and_scripts) (n := 63) (k := 7) (x := "script") (CX := fun w => L2.CX PySem.Challenge.rw_notesbelow_k28_whole_pages_and_scripts.prog w) (sp := fun w => Ev.spLaw _) rfl (by decide) rfl ⟨rfl, by decide, by decide⟩ (fun w h Y => PySem.W.kIn_of Y) ?F (fun _ _ a ns hl ho hS => ⟨a, ns, rfl, hS, ho, hl, fun _ => rfl⟩) (fun _ _ _ _ _ h => Ev.cx_end h)
  case F =>
    intro w mg fa h KX G hmg
    letI : Ev.Tabs := ⟨w, fun _ => none⟩
    refine' Ev.law_at (h := h) rfl hmg (Ev.top_mk KX G ?kg_Page ?kp_Page ?kh_Page ?ko_Page ?ks_Page ?ka_Page_now ?ka_Page_past ?a_0 ?l_0 ?c_0 ?k_0 ?a_1 ?l_1 ?c_1 ?k_1 ?a_2 ?l_2 ?c_2 ?k_2 ?a_3 ?l_3 ?c_3 ?k_3 ?a_4 ?l_4 ?c_4 ?k_4 ?a_5 ?l_5 ?c_5 ?k_5 ?a_6 ?l_6 ?c_6 ?k_6 ?a_7 ?l_7 ?c_7 ?k_7 ?a_8 ?l_8 ?c_8 ?k_8 ?a_9 ?l_9 ?c_9 ?k_9 ?a_10 ?l_10 ?c_10 ?k_10 ?a_11 ?l_11 ?c_11 ?k_11 ?a_12 ?l_12 ?c_12 ?k_12 ?a_13 ?l_13 ?c_13 ?k_13 ?a_14 ?l_14 ?c_14 ?k_14 ?a_15 ?l_15 ?c_15 ?k_15 ?a_16 ?n_16 ?mk_16 ?mp_16 ?l_16 ?c_16 ?k_16 ?a_17 ?l_17 ?c_17 ?k_17 ?a_18 ?n_18 ?l_18 ?c_18 ?k_18 ?a_19 ?n_19 ?l_19 ?c_19 ?k_19 ?a_20 ?n_20 ?l_20 ?c_20 ?k_20 ?a_21 ?n_21 ?l_21 ?c_21 ?k_21 ?a_22 ?n_22 ?l_22 ?c_22 ?k_22 ?a_23 ?n_23 ?l_23 ?c_23 ?k_23 ?a_24 ?n_24 ?l_24 ?c_24 ?k_24 ?a_25 ?l_25 ?c_25 ?k_25 ?a_26 ?pg_26 ?pt_26 ?pc_26 ?l_26 ?c_26 ?k_26 ?a_27 ?l_27 ?c_27 ?k_27 ?a_28 ?l_28 ?c_28 ?k_28 ?a_29 ?l_29 ?c_29 ?k_29 ?a_30 ?l_30 ?c_30 ?k_30 ?a_31 ?n_31 ?l_31 ?c_31 ?k_31 ?a_32 ?n_32 ?l_32 ?c_32 ?k_32 ?a_33 ?l_33 ?c_33 ?k_33 ?a_34 ?l_34 ?c_34 ?k_34 ?a_35 ?l_35 ?c_35 ?k_35 ?a_36 ?l_36 ?c_36 ?k_36 ?a_37 ?l_37 ?c_37 ?k_37 ?a_38 ?l_38 ?c_38 ?k_38 ?a_39 ?l_39 ?c_39 ?k_39 ?a_40 ?l_40 ?c_40 ?k_40 ?a_41 ?l_41 ?c_41 ?k_41 ?a_42 ?l_42 ?c_42 ?k_42 ?a_43 ?l_43 ?c_43 ?k_43 ?a_44 ?l_44 ?c_44 ?k_44 ?a_45 ?n_45 ?l_45 ?c_45 ?k_45 ?a_46 ?l_46 ?c_46 ?k_46 ?a_47 ?l_47 ?c_47 ?k_47 ?a_48 ?l_48 ?c_48 ?k_48 ?a_49 ?l_49 ?c_49 ?k_49 ?a_50 ?l_50 ?c_50 ?k_50 ?a_51 ?l_51 ?c_51 ?k_51 ?a_52 ?n_52 ?l_52 ?c_52 ?k_52 ?a_53 ?l_53 ?c_53 ?k_53 ?a_54 ?l_54 ?c_54 ?k_54 ?a_55 ?l_55 ?c_55 ?k_55 ?a_56 ?l_56 ?c_56 ?k_56 ?t_56 ?q4 ?a_57 ?n_57 ?l_57 ?c_57 ?k_57 ?a_58 ?l_58 ?c_58 ?k_58 ?u_LETTERS ?u_MOST_WORDS ?u_MOST_AROUND ?u_MOST_STEPS ?u_PICKS ?u_MOST_ATTEMPTS ?u_MOST_PRICE ?q12 ?xg_0 ?xx_0 ?xk_0 ?xb_0 ?xt_0 ?xg_1 ?xx_1 ?xk_1 ?xb_1 ?xt_1 ?xg_2 ?xx_2 ?xk_2 ?xb_2 ?xt_2 ?xg_3 ?xx_3 ?xk_3 ?xb_3 ?xt_3 ?xg_4 ?xx_4 ?xk_4 ?xb_4 ?xt_4 ?xg_5 ?xx_5 ?xk_5 ?xb_5 ?xt_5 ?xg_6 ?xx_6 ?xk_6 ?xb_6 ?xt_6 ?xg_7 ?xx_7 ?xk_7 ?xb_7 ?xt_7 ?xg_8 ?xx_8 ?xk_8 ?xb_8 ?xt_8 ?xg_9 ?xx_9 ?xk_9 ?xb_9 ?xt_9 ?yg_0 ?yb_0 ?yt_0 ?yn_0 ?yc_0 ?yr_0 ?ys_0 ?yk_0 ?yi_0 ?yu_0 ?yl_0 ?yo_0 ?yp_0 ?zb_0 ?zs_0 ?zr_0 ?zf_0 ?b_0 ?b_1 ?b_2 ?b_3 ?b_4 ?b_5 ?b_6 ?b_7 ?b_8 ?b_9 ?b_10 ?b_11 ?b_12 ?b_13 ?b_14 ?b_15 ?b_16 ?b_17)
    (case kg_Page => k_is); (case kp_Page => k_is); (case kh_Page => k_is); (case ko_Page => k_is); (case ks_Page => k_is); (case ka_Page_now => k_is); (case ka_Page_past => k_is); (case a_0 => k_is); (case l_0 => k_is); (case c_0 => k_is); (case k_0 => k_is); (case a_1 => k_is); (case l_1 => k_is); (case c_1 => k_is); (case k_1 => k_is); (case a_2 => k_is); (case l_2 => k_is); (case c_2 => k_is); (case k_2 => k_is); (case a_3 => k_is); (case l_3 => k_is); (case c_3 => k_is); (case k_3 => k_is); (case a_4 => k_is); (case l_4 => k_is); (case c_4 => k_is); (case k_4 => k_is); (case a_5 => k_is); (case l_5 => k_is); (case c_5 => k_is); (case k_5 => k_is); (case a_6 => k_is); (case l_6 => k_is); (case c_6 => k_is); (case k_6 => k_is); (case a_7 => k_is); (case l_7 => k_is); (case c_7 => k_is); (case k_7 => k_is); (case a_8 => k_is); (case l_8 => k_is); (case c_8 => k_is); (case k_8 => k_is); (case a_9 => k_is); (case l_9 => k_is); (case c_9 => k_is); (case k_9 => k_is); (case a_10 => k_is); (case l_10 => k_is); (case c_10 => k_is); (case k_10 => k_is); (case a_11 => k_is); (case l_11 => k_is); (case c_11 => k_is); (case k_11 => k_is); (case a_12 => k_is); (case l_12 => k_is); (case c_12 => k_is); (case k_12 => k_is); (case a_13 => k_is); (case l_13 => k_is); (case c_13 => k_is); (case k_13 => k_is); (case a_14 => k_is); (case l_14 => k_is); (case c_14 => k_is); (case k_14 => k_is); (case a_15 => k_is); (case l_15 => k_is); (case c_15 => k_is); (case k_15 => k_is); (case a_16 => k_is); (case n_16 => k_is); (case mk_16 => k_is); (case mp_16 => k_is); (case l_16 => k_is); (case c_16 => k_is); (case k_16 => k_is); (case a_17 => k_is); (case l_17 => k_is); (case c_17 => k_is); (case k_17 => k_is); (case a_18 => k_is); (case n_18 => k_is); (case l_18 => k_is); (case c_18 => k_is); (case k_18 => k_is); (case a_19 => k_is); (case n_19 => k_is); (case l_19 => k_is); (case c_19 => k_is); (case k_19 => k_is); (case a_20 => k_is); (case n_20 => k_is); (case l_20 => k_is); (case c_20 => k_is); (case k_20 => k_is); (case a_21 => k_is); (case n_21 => k_is); (case l_21 => k_is); (case c_21 => k_is); (case k_21 => k_is); (case a_22 => k_is); (case n_22 => k_is); (case l_22 => k_is); (case c_22 => k_is); (case k_22 => k_is); (case a_23 => k_is); (case n_23 => k_is); (case l_23 => k_is); (case c_23 => k_is); (case k_23 => k_is); (case a_24 => k_is); (case n_24 => k_is); (case l_24 => k_is); (case c_24 => k_is); (case k_24 => k_is); (case a_25 => k_is); (case l_25 => k_is); (case c_25 => k_is); (case k_25 => k_is); (case a_26 => k_is); (case pg_26 => k_is); (case pt_26 => k_is); (case pc_26 => k_is); (case l_26 => k_is); (case c_26 => k_is); (case k_26 => k_is); (case a_27 => k_is); (case l_27 => k_is); (case c_27 => k_is); (case k_27 => k_is); (case a_28 => k_is); (case l_28 => k_is); (case c_28 => k_is); (case k_28 => k_is); (case a_29 => k_is); (case l_29 => k_is); (case c_29 => k_is); (case k_29 => k_is); (case a_30 => k_is); (case l_30 => k_is); (case c_30 => k_is); (case k_30 => k_is); (case a_31 => k_is); (case n_31 => k_is); (case l_31 => k_is); (case c_31 => k_is); (case k_31 => k_is); (case a_32 => k_is); (case n_32 => k_is); (case l_32 => k_is); (case c_32 => k_is); (case k_32 => k_is); (case a_33 => k_is); (case l_33 => k_is); (case c_33 => k_is); (case k_33 => k_is); (case a_34 => k_is); (case l_34 => k_is); (case c_34 => k_is); (case k_34 => k_is); (case a_35 => k_is); (case l_35 => k_is); (case c_35 => k_is); (case k_35 => k_is); (case a_36 => k_is); (case l_36 => k_is); (case c_36 => k_is); (case k_36 => k_is); (case a_37 => k_is); (case l_37 => k_is); (case c_37 => k_is); (case k_37 => k_is); (case a_38 => k_is); (case l_38 => k_is); (case c_38 => k_is); (case k_38 => k_is); (case a_39 => k_is); (case l_39 => k_is); (case c_39 => k_is); (case k_39 => k_is); (case a_40 => k_is); (case l_40 => k_is); (case c_40 => k_is); (case k_40 => k_is); (case a_41 => k_is); (case l_41 => k_is); (case c_41 => k_is); (case k_41 => k_is); (case a_42 => k_is); (case l_42 => k_is); (case c_42 => k_is); (case k_42 => k_is); (case a_43 => k_is); (case l_43 => k_is); (case c_43 => k_is); (case k_43 => k_is); (case a_44 => k_is); (case l_44 => k_is); (case c_44 => k_is); (case k_44 => k_is); (case a_45 => k_is); (case n_45 => k_is); (case l_45 => k_is); (case c_45 => k_is); (case k_45 => k_is); (case a_46 => k_is); (case l_46 => k_is); (case c_46 => k_is); (case k_46 => k_is); (case a_47 => k_is); (case l_47 => k_is); (case c_47 => k_is); (case k_47 => k_is); (case a_48 => k_is); (case l_48 => k_is); (case c_48 => k_is); (case k_48 => k_is); (case a_49 => k_is); (case l_49 => k_is); (case c_49 => k_is); (case k_49 => k_is); (case a_50 => k_is); (case l_50 => k_is); (case c_50 => k_is); (case k_50 => k_is); (case a_51 => k_is); (case l_51 => k_is); (case c_51 => k_is); (case k_51 => k_is); (case a_52 => k_is); (case n_52 => k_is); (case l_52 => k_is); (case c_52 => k_is); (case k_52 => k_is); (case a_53 => k_is); (case l_53 => k_is); (case c_53 => k_is); (case k_53 => k_is); (case a_54 => k_is); (case l_54 => k_is); (case c_54 => k_is); (case k_54 => k_is); (case a_55 => k_is); (case l_55 => k_is); (case c_55 => k_is); (case k_55 => k_is); (case a_56 => k_is); (case l_56 => k_is); (case c_56 => k_is); (case k_56 => k_is); (case t_56 => k_is); (case q4 => k_is); (case a_57 => k_is); (case n_57 => k_is); (case l_57 => k_is); (case c_57 => k_is); (case k_57 => k_is); (case a_58 => k_is); (case l_58 => k_is); (case c_58 => k_is); (case k_58 => k_is); (case u_LETTERS => k_is); (case u_MOST_WORDS => k_is); (case u_MOST_AROUND => k_is); (case u_MOST_STEPS => k_is); (case u_PICKS => k_is); (case u_MOST_ATTEMPTS => k_is); (case u_MOST_PRICE => k_is); (case q12 => k_is); (case xg_0 => k_is); (case xx_0 => k_exc); (case xk_0 => k_is); (case xb_0 => k_is); (case xt_0 => k_is); (case xg_1 => k_is); (case xx_1 => k_exc); (case xk_1 => k_is); (case xb_1 => k_is); (case xt_1 => k_is); (case xg_2 => k_is); (case xx_2 => k_exc); (case xk_2 => k_is); (case xb_2 => k_is); (case xt_2 => k_is); (case xg_3 => k_is); (case xx_3 => k_exc); (case xk_3 => k_is); (case xb_3 => k_is); (case xt_3 => k_is); (case xg_4 => k_is); (case xx_4 => k_exc); (case xk_4 => k_is); (case xb_4 => k_is); (case xt_4 => k_is); (case xg_5 => k_is); (case xx_5 => k_exc); (case xk_5 => k_is); (case xb_5 => k_is); (case xt_5 => k_is); (case xg_6 => k_is); (case xx_6 => k_exc); (case xk_6 => k_is); (case xb_6 => k_is); (case xt_6 => k_is); (case xg_7 => k_is); (case xx_7 => k_exc); (case xk_7 => k_is); (case xb_7 => k_is); (case xt_7 => k_is); (case xg_8 => k_is); (case xx_8 => k_exc); (case xk_8 => k_is); (case xb_8 => k_is); (case xt_8 => k_is); (case xg_9 => k_is); (case xx_9 => k_exc); (case xk_9 => k_is); (case xb_9 => k_is); (case xt_9 => k_is); (case yg_0 => k_is); (case yb_0 => k_is); (case yt_0 => k_is); (case yn_0 => k_is); (case yc_0 => k_is); (case yr_0 => decide +kernel); (case ys_0 => k_is); (case yk_0 => k_is); (case yi_0 => k_is); (case yu_0 => k_is); (case yl_0 => k_is); (case yo_0 => k_is); (case yp_0 => k_is); (case zb_0 => k_is); (case zs_0 => k_is); (case zr_0 => k_is); (case zf_0 => k_is); (case b_0 => k_is); (case b_1 => k_is); (case b_2 => k_is); (case b_3 => k_is); (case b_4 => k_is); (case b_5 => k_is); (case b_6 => k_is); (case b_7 => k_is); (case b_8 => k_is); (case b_9 => k_is); (case b_10 => k_is); (case b_11 => k_is); (case b_12 => k_is); (case b_13 => k_is); (case b_14 => k_is); (case b_15 => k_is); (case b_16 => k_is); (case b_17 => k_is)
