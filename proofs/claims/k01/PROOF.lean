import PyProof.Rows.All
import Wide.All
import OpenK.AllK
import Wide.FinOn
import HandS.Head0
import HandS.Head1
import HandS.Head2
import HandS.HeadEnd
import HandS.HeadWalk
import HandS.HeadHook4
import HandS.Words
import HandS.EndTab
import HandS.EndBits
import HandS.ForMost
import HandS.ForExc
import HandS.Style
import HandS.ExcOwn
import HandS.Lambda
import HandS.ExcInit
import HandS.Conv
import HandS.Iter
import HandS.Comp
import HandS.Zip
import HandS.AnyAll
import PyProof.Rows.FactsT3
import PyProof.Rows.SeqCalls
import PyProof.PvWalk
import PyProof.FactsLen
import HandS.Star
import HandS.Flow
import HandS.IsInst
import HandS.ExcField
import KE.KExcIs
import HandS.TupAny
import HandS.Dict
import HandS.Text
import PyProof.ReprRoads
import PyProof.DictUpdate
import HandS.Deep
import HandS.ExcValue
import KE.SortData
import HandS.TupMul
import HandS.Wide
import PyProof.EqLayable
import PyProof.ReprReads
import KE.KDictZip
import PyProof.ListNew
import PyProof.CollectWalk
import PySem.Challenge.RW_neverbeyond_k01_whole_sets_of_bytes
set_option Elab.async false
set_option linter.all false
section
/-! PyI0: a small interpreter over pure data, for the Python that the linked texts are written in. -/
set_option autoImplicit false
namespace PyI
open PySem

/-- data: ref is a place in the store; exc an exception of the module's own, with its value; fn a def of the module -/
inductive D where
  | non | bl (b : Bool) | int (i : Int) | str (x : Str) | tup (xs : List D) | ref (n : Nat) | exc (c : Str) (v : D) | fn (f : Str)
/-- what the store holds: a list, a dict (w: may be written) -/
inductive Cell where
  | lst (w : Bool) (xs : List D)
  | dct (w : Bool) (kvs : List (D × D))
abbrev Sto := List Cell
abbrev Env := List (Option D)
inductive Res (α : Type) where
  | ok (a : α) (st : Sto)
  | err (c : Str) (v : D) (st : Sto)
  | stuck
def Res.bind {α β : Type} : Res α → (α → Sto → Res β) → Res β
  | .ok a st, f => f a st
  | .err c v st, _ => .err c v st
  | .stuck, _ => .stuck
def Res.opt {α : Type} : Option (α × Sto) → Res α
  | some (a, st) => .ok a st
  | none => .stuck
def Res.opt0 {α : Type} : Option α → Sto → Res α
  | some a, st => .ok a st
  | none, _ => .stuck

inductive BOp where
  | add | sub | mul | mod | fdiv | pow
inductive COp where
  | eq | ne | lt | le | gt | ge | isin | notin | is | isnot
inductive Ty where
  | tuple | int | bool | str | list | cls (c : Str)
inductive BI where
  | len | all | any | tuple | list | sorted | int | str | abs | max | min | sum | repr
inductive MT where
  | append | extend | update | upper
inductive Tg where
  | nm (i : Nat) | tp (is : List Nat)

mutual
inductive IE where
  | non | bl (b : Bool) | int (i : Int) | str (x : Str)
  | var (i : Nat)
  | con (d : D)
  | tup (es : IEs) | lst (es : IEs) | dic (es : IEs)
  | bin (op : BOp) (a b : IE) | neg (a : IE)
  | not (a : IE) | and (a b : IE) | or (a b : IE)
  | cmp (op : COp) (a b : IE) | chain (op op' : COp) (a b c : IE)
  | ite (c a b : IE)
  | call (f : Str) (es : IEs) | callV (i : Nat) (es : IEs)
  | bi (b : BI) (es : IEs) | isi (t : Ty) (e : IE) | meth (m : MT) (o : IE) (es : IEs)
  | ix (o i : IE) | slc (o : IE) (lo hi : IO) | rev (o : IE)
  | lrng (a b : IE) | lzip (a b : IE)
  | lc (elt : IE) (tg : Tg) (it : IT) (ifs : IEs) (own : List Nat)
  | fld (o : IE)
  | heard (x : Str) (e : IE)
  | bad
inductive IEs where
  | nil | cons (star : Bool) (e : IE) (r : IEs)
inductive IO where
  | none | some (e : IE)
inductive IT where
  | e (e : IE) | rng (a b : IE) | zip (a b : IE)
end
mutual
inductive IS where
  | expr (e : IE) | ret (e : IE) | retN | pass | brk | cont
  | asg (tg : Tg) (e : IE) | par (is : List Nat) (es : IEs) | setIx (o i e : IE)
  | iff (c : IE) (a b : ISs) | whl (c : IE) (b : ISs) | forr (tg : Tg) (it : IT) (b : ISs)
  | raise (c : Str) (e : IE)
  | bad
inductive ISs where
  | nil | cons (s : IS) (r : ISs)
end
structure PDef where
  np : Nat
  ns : Nat
  body : ISs

def LIM : Nat := 16777216

/-! ### values -/
def deepN : Nat → Sto → D → Option PyData
  | _, _, .non => some .none
  | _, _, .bl b => some (.bool b)
  | _, _, .int i => some (.int i)
  | _, _, .str x => some (.str x)
  | n + 1, st, .tup ds => (ds.mapM (deepN n st)).map .tuple
  | n + 1, st, .ref k => match st[k]? with
    | some (.lst _ ds) => (ds.mapM (deepN n st)).map .list
    | _ => none
  | _, _, _ => none
/-- a value as plain data -/
def deep (st : Sto) (d : D) : Option PyData := deepN 66 st d
def truth : D → Sto → Option Bool
  | .non, _ => some false
  | .bl b, _ => some b
  | .int i, _ => some (i != 0)
  | .str x, _ => if x.length ≤ LIM then some ((x.length : Int) != 0) else none
  | .tup xs, _ => some (!xs.isEmpty)
  | .ref n, st => match st[n]? with
    | some (.lst _ xs) => some (!xs.isEmpty)
    | some (.dct true kvs) => some (!kvs.isEmpty)
    | _ => none
  | _, _ => none
/-- a new cell -/
def new (c : Cell) (st : Sto) : D × Sto := (.ref st.length, st ++ [c])
/-- the items of a list or a tuple -/
def seqOf : D → Sto → Option (List D)
  | .tup xs, _ => some xs
  | .ref n, st => match st[n]? with
    | some (.lst _ xs) => some xs
    | _ => none
  | _, _ => none
def lstOf : D → Sto → Option (List D)
  | .ref n, st => match st[n]? with
    | some (.lst _ xs) => some xs
    | _ => none
  | _, _ => none
def opB : BOp → D → D → Sto → Option (D × Sto)
  | .add, .int i, .int j, st => some (.int (i + j), st)
  | .add, .str x, .str y, st => if x.length + y.length ≤ LIM then some (.str (x ++ y), st) else none
  | .add, .tup xs, .tup ys, st => if xs.length + ys.length ≤ LIM then some (.tup (xs ++ ys), st) else none
  | .add, .ref a, .ref b, st => match st[a]?, st[b]? with
    | some (.lst true xs), some (.lst true ys) => if xs.length + ys.length ≤ LIM then some (new (.lst true (xs ++ ys)) st) else none
    | _, _ => none
  | .sub, .int i, .int j, st => some (.int (i - j), st)
  | .mul, .int i, .int j, st => if i.natAbs.log2 + j.natAbs.log2 < 1000000 then some (.int (i * j), st) else none
  | .mul, .tup xs, .int k, st => if !xs.isEmpty && decide (2 ≤ k) && decide (k ≤ 1000) && decide (xs.length ≤ 1000) then some (.tup (List.replicate k.toNat xs).flatten, st) else none
  | .mod, .int i, .int j, st => if 0 < j then some (.int (i % j), st) else none
  | .fdiv, .int i, .int j, st => if 0 < j ∧ j.natAbs.log2 < 9000 then some (.int (i / j), st) else none
  | .pow, .int i, .int j, st => if 0 ≤ j ∧ ((i.natAbs.log2 + 1 : Nat) : Int) * j ≤ 134217728 then some (.int (i ^ j.toNat), st) else none
  | _, _, _, _ => none
def flat : D → Bool
  | .non | .bl _ | .int _ | .str _ => true
  | _ => false
/-- == of flat values -/
def flatEq : D → D → Bool
  | .non, .non => true
  | .bl a, .bl b => a == b
  | .bl a, .int b => (if a then 1 else 0) == b
  | .int a, .bl b => a == (if b then 1 else 0)
  | .int a, .int b => a == b
  | .str a, .str b => a == b
  | _, _ => false
def eqD (d e : D) (st : Sto) : Option Bool :=
  match deep st d, deep st e with
  | some p, some q => if SeqAt.shaped p && SeqAt.shaped q then some (PyData.eqv p q) else none
  | _, _ => none
def inD (x y : D) (st : Sto) : Option Bool :=
  match seqOf y st with
  | some ys => if flat x && ys.all flat then some (ys.any fun z => flatEq z x) else none
  | none => none
def isD : D → D → Option Bool
  | .non, .non => some true
  | _, .non => some false
  | _, _ => none
def intCmp (f : Int → Int → Bool) : D → D → Option Bool
  | .int i, .int j => some (f i j)
  | _, _ => none
def cmpB : COp → D → D → Sto → Option Bool
  | .eq, d, e, st => eqD d e st
  | .ne, d, e, st => (eqD d e st).map (!·)
  | .lt, d, e, _ => intCmp (fun i j => decide (i < j)) d e
  | .le, d, e, _ => intCmp (fun i j => decide (i ≤ j)) d e
  | .gt, d, e, _ => intCmp (fun i j => decide (j < i)) d e
  | .ge, d, e, _ => intCmp (fun i j => decide (j ≤ i)) d e
  | .isin, d, e, st => inD d e st
  | .notin, d, e, st => (inD d e st).map (!·)
  | .is, d, e, _ => isD d e
  | .isnot, d, e, _ => (isD d e).map (!·)
/-- xs[i], i of any sign -/
def atD {α : Type} (xs : List α) (i : Int) : Option α :=
  if 0 ≤ i then xs[i.toNat]? else if 0 ≤ i + xs.length then xs[(i + xs.length).toNat]? else none
def ixB : D → D → Sto → Option D
  | .tup xs, .int i, _ => atD xs i
  | .ref n, .int i, st => match st[n]? with
    | some (.lst _ xs) => atD xs i
    | _ => none
  | .str x, .int i, _ => if x.length ≤ LIM then (atD x.cps.toList i).map fun c => .str ⟨#[c]⟩ else none
  | _, _, _ => none
def clip (n d : Nat) : Option Int → Nat
  | none => d
  | some v => if v < 0 then (v + n).toNat else min v.toNat n
def cut {α : Type} (xs : List α) (lo hi : Option Int) : List α :=
  (xs.drop (clip xs.length 0 lo)).take (clip xs.length xs.length hi - clip xs.length 0 lo)
def slcB : D → Option Int → Option Int → Sto → Option (D × Sto)
  | .tup xs, lo, hi, st => some (.tup (cut xs lo hi), st)
  | .ref n, lo, hi, st => match st[n]? with
    | some (.lst _ xs) => some (new (.lst true (cut xs lo hi)) st)
    | _ => none
  | .str x, lo, hi, st => if x.length ≤ LIM then some (.str ⟨(cut x.cps.toList lo hi).toArray⟩, st) else none
  | _, _, _, _ => none
def revB : D → Sto → Option (D × Sto)
  | .tup xs, st => some (.tup xs.reverse, st)
  | .ref n, st => match st[n]? with
    | some (.lst _ xs) => some (new (.lst true xs.reverse) st)
    | _ => none
  | _, _ => none
def bls : List D → Option (List Bool)
  | [] => some []
  | .bl b :: r => (bls r).map (b :: ·)
  | _ => none
def intsD : List D → Option (List Int)
  | [] => some []
  | .int b :: r => (intsD r).map (b :: ·)
  | _ => none
/-- pairs of whole numbers -/
def prs : List D → Option (List (Int × Int))
  | [] => some []
  | .tup [.int a, .int b] :: r => (prs r).map ((a, b) :: ·)
  | _ => none
def prLe (a b : Int × Int) : Bool := decide (a.1 < b.1) || (decide (a.1 = b.1) && decide (a.2 ≤ b.2))
def prD (p : Int × Int) : D := .tup [.int p.1, .int p.2]
def sortD (ds : List D) : Option (List D) :=
  match intsD ds with
  | some ns => some ((ns.mergeSort fun a b => decide (a ≤ b)).map .int)
  | none => match prs ds with
    | some ps => some ((ps.mergeSort prLe).map prD)
    | none => none
def evB : BI → List D → Sto → Option (D × Sto)
  | .len, [x], st => match x with
    | .str x => if x.length ≤ LIM then some (.int x.length, st) else none
    | x => (seqOf x st).map fun xs => (.int xs.length, st)
  | .all, [x], st => match (lstOf x st).bind bls with
    | some bs => some (.bl (bs.all id), st)
    | none => none
  | .any, [x], st => match (lstOf x st).bind bls with
    | some bs => some (.bl (bs.any id), st)
    | none => none
  | .tuple, [x], st => (seqOf x st).map fun xs => (.tup xs, st)
  | .list, [x], st => (seqOf x st).map fun xs => new (.lst true xs) st
  | .sorted, [x], st => match (seqOf x st).bind sortD with
    | some ys => some (new (.lst true ys) st)
    | none => none
  | .int, [.int i], st => some (.int i, st)
  | .int, [.bl b], st => some (.int (if b then 1 else 0), st)
  | .str, [.int i], st => if i.natAbs.log2 < 1920 then some (.str (toString i), st) else none
  | .abs, [.int i], st => some (.int (if i < 0 then -i else i), st)
  | .max, [.int i, .int j], st => some (.int (if j > i then j else i), st)
  | .min, [.int i, .int j], st => some (.int (if j < i then j else i), st)
  | .sum, [x], st => match (lstOf x st).bind intsD with
    | some ns => some (.int ns.sum, st)
    | none => none
  | .repr, [x], st => match deep st x with
    | some p => if p.showable && decide (p.shown.length ≤ LIM) && decide (p.depth ≤ 64) then some (.str p.shown, st) else none
    | none => none
  | _, _, _ => none
/-- a built-in type's name -/
def kindB : D → Sto → Option String
  | .non, _ => some "NoneType"
  | .bl _, _ => some "bool"
  | .int _, _ => some "int"
  | .str _, _ => some "str"
  | .tup _, _ => some "tuple"
  | .ref n, st => match st[n]? with
    | some (.lst _ _) => some "list"
    | some (.dct true _) => some "dict"
    | _ => none
  | _, _ => none
def Ty.name : Ty → String
  | .tuple => "tuple"
  | .int => "int"
  | .bool => "bool"
  | .str => "str"
  | .list => "list"
  | .cls _ => ""
def MT.name : MT → String
  | .append => "list"
  | .extend => "list"
  | .update => "dict"
  | .upper => "str"
def isiB (t : Ty) (sub : Str → Str → Option Bool) (d : D) (st : Sto) : Option Bool :=
  match t with
  | .cls c => match d with
    | .exc e _ => if sub e e = some true then sub e c else none
    | d => if sub c c = some true then (kindB d st).map fun _ => false else none
  | t => match d with
    | .exc e _ => if sub e e = some true then some false else none
    | d => (kindB d st).map fun k => decide (k = t.name) || (decide (k = "bool") && decide (t.name = "int"))
/-- a dict's store (keys are whole numbers or texts) -/
def keyD : D → Bool
  | .int _ | .str _ => true
  | _ => false
def put (k v : D) (kvs : List (D × D)) : List (D × D) :=
  if kvs.any (fun p => flatEq p.1 k) then kvs.map (fun p => if flatEq p.1 k then (p.1, v) else p) else kvs ++ [(k, v)]
def putAll (kvs : List (D × D)) : List (D × D) → List (D × D)
  | [] => kvs
  | (k, v) :: r => putAll (put k v kvs) r
def pairs : List D → Option (List (D × D))
  | [] => some []
  | k :: v :: r => if keyD k then (pairs r).map ((k, v) :: ·) else none
  | _ => none
def methB : MT → D → List D → Sto → Option (D × Sto)
  | .append, .ref n, [y], st => match st[n]? with
    | some (.lst true xs) => if xs.length < LIM then some (.non, st.set n (.lst true (xs ++ [y]))) else none
    | _ => none
  | .extend, .ref n, [.ref m], st => match st[n]?, st[m]? with
    | some (.lst true xs), some (.lst true ys) => if xs.length + ys.length ≤ LIM then some (.non, st.set n (.lst true (xs ++ ys))) else none
    | _, _ => none
  | .update, .ref n, [.ref m], st => match st[n]?, st[m]? with
    | some (.dct true xs), some (.dct true ys) => if xs.length + ys.length ≤ LIM && decide (n ≠ m) then some (.non, st.set n (.dct true (putAll xs ys))) else none
    | _, _ => none
  | _, _, _, _ => none
def setB : D → D → D → Sto → Option Sto
  | .ref n, .int i, v, st => match st[n]? with
    | some (.lst true xs) => if 0 ≤ i then (if i < xs.length then some (st.set n (.lst true (xs.set i.toNat v))) else none)
      else if 0 ≤ i + xs.length then some (st.set n (.lst true (xs.set (i + xs.length).toNat v))) else none
    | _ => none
  | _, _, _, _ => none
def rngOk (a b : Int) : Bool := decide (-(2 ^ 62) ≤ a) && decide (a < 2 ^ 62) && decide (-(2 ^ 62) ≤ b) && decide (b < 2 ^ 62) && decide ((b - a).toNat ≤ LIM)
def rngD (a b : Int) : List D := (List.range (b - a).toNat).map fun (i : Nat) => D.int (a + i)
def wipe (env : Env) : List Nat → Env
  | [] => env
  | v :: vs => (wipe env vs).set v none
def setAll : List Nat → List D → Env → Option Env
  | [], [], env => some env
  | i :: is, d :: ds, env => setAll is ds (env.set i (some d))
  | _, _, _ => none
def tgB : Tg → D → Env → Sto → Option Env
  | .nm i, d, env, _ => some (env.set i (some d))
  | .tp is, d, env, st => match d with
    | .tup ds => setAll is ds env
    | _ => none

/-! ### what is walked -/
inductive Itr where
  | items (ds : List D)
  | live (n : Nat)
  | zipL (n m : Nat)
  | zipT (xs ys : List D)
  | keys (n : Nat) (kvs : List (D × D))
/-- none: stuck; some none: the end -/
def Itr.at (it : Itr) (i : Nat) (st : Sto) : Option (Option D) :=
  match it with
  | .items ds => some ds[i]?
  | .live n => match st[n]? with
    | some (.lst _ xs) => some xs[i]?
    | _ => none
  | .zipL n m => match st[n]?, st[m]? with
    | some (.lst _ xs), some (.lst _ ys) => some (match xs[i]?, ys[i]? with
      | some x, some y => some (.tup [x, y])
      | _, _ => none)
    | _, _ => none
  | .zipT xs ys => some (match xs[i]?, ys[i]? with
      | some x, some y => some (.tup [x, y])
      | _, _ => none)
  | .keys n _ => match st[n]? with
    | some (.dct false kvs) => some (kvs[i]?.map (·.1))
    | _ => none
def noErr {α : Type} : Res α → Res α
  | .ok a st => .ok a st
  | _ => .stuck
def itOf : D → Sto → Option Itr
  | .tup xs, _ => some (.items xs)
  | .ref n, st => match st[n]? with
    | some (.lst _ _) => some (.live n)
    | _ => none
  | _, _ => none
/-- a name's dict, by its keys -/
def keysI : IT → Env → Sto → Option (Nat × List (D × D))
  | .e (.var i), env, st => match env[i]? with
    | some (some (.ref n)) => match st[n]? with
      | some (.dct true kvs) => some (n, kvs)
      | _ => none
    | _ => none
  | _, _, _ => none
def zipOf : D → D → Sto → Option Itr
  | .tup xs, .tup ys, _ => some (.zipT xs ys)
  | .ref n, .ref m, st => match st[n]?, st[m]? with
    | some (.lst _ _), some (.lst _ _) => some (.zipL n m)
    | _, _ => none
  | _, _, _ => none
def FUEL : Nat := 1000000000000

inductive Flow where
  | nx (env : Env) | ret (d : D) | brk (env : Env) | cont (env : Env)

/-- a comprehension's turns: cell n takes the items -/
def lcLoop (it : Itr) (bind : D → Sto → Option Env) (test : Env → Sto → Res Bool) (elt : Env → Sto → Res D) (n : Nat) : Nat → Nat → Sto → Res D
  | 0, _, _ => .stuck
  | m + 1, i, st => match it.at i st with
    | none => .stuck
    | some none => .ok (.ref n) st
    | some (some d) => match bind d st with
      | none => .stuck
      | some env => (noErr (test env st)).bind fun b st1 => match b with
        | false => lcLoop it bind test elt n m (i + 1) st1
        | true => (noErr (elt env st1)).bind fun y st2 => match st2[n]? with
          | some (.lst true xs) => if xs.length < LIM then lcLoop it bind test elt n m (i + 1) (st2.set n (.lst true (xs ++ [y]))) else .stuck
          | _ => .stuck
def forLoop (it : Itr) (tg : Tg) (body : Env → Sto → Res Flow) : Nat → Nat → Env → Sto → Res Flow
  | 0, _, _, _ => .stuck
  | m + 1, i, env, st => match it.at i st with
    | none => .stuck
    | some none => .ok (.nx env) st
    | some (some d) => match tgB tg d env st with
      | none => .stuck
      | some env1 => (body env1 st).bind fun f st1 => match f with
        | .nx env2 => forLoop it tg body m (i + 1) env2 st1
        | .cont env2 => forLoop it tg body m (i + 1) env2 st1
        | .brk env2 => .ok (.nx env2) st1
        | .ret d => .ok (.ret d) st1
def whlLoop (test : Env → Sto → Res Bool) (body : Env → Sto → Res Flow) : Nat → Env → Sto → Res Flow
  | 0, _, _ => .stuck
  | m + 1, env, st => (test env st).bind fun b st1 => match b with
    | false => .ok (.nx env) st1
    | true => (body env st1).bind fun f st2 => match f with
      | .nx env2 => whlLoop test body m env2 st2
      | .cont env2 => whlLoop test body m env2 st2
      | .brk env2 => .ok (.nx env2) st2
      | .ret d => .ok (.ret d) st2

/-- what the module tells: subclasses of its own exceptions -/
structure Prog where
  defs : Str → Option PDef
  sub : Str → Str → Option Bool

/-- an expression's value, its truth -/
structure EV where
  v : Env → Sto → Res D
  t : Env → Sto → Res Bool
def EV.of (f : Env → Sto → Res D) : EV := ⟨f, fun env st => (f env st).bind fun x st => .opt0 (truth x st) st⟩
section
variable (P : Prog) (C : Str → List D → Sto → Res D)
mutual
def ev : IE → EV
  | .non => .of fun _ st => .ok .non st
  | .bl b => .of fun _ st => .ok (.bl b) st
  | .int i => .of fun _ st => .ok (.int i) st
  | .str x => .of fun _ st => .ok (.str x) st
  | .var i => .of fun env st => match env[i]? with
    | some (some d) => .ok d st
    | _ => .stuck
  | .con d => .of fun _ st => .ok d st
  | .tup es => .of fun env st => (evEs es env st).bind fun ds st => if ds.length ≤ LIM then .ok (.tup ds) st else .stuck
  | .lst es => .of fun env st => (evEs es env st).bind fun ds st => if ds.length ≤ LIM then .opt (some (new (.lst true ds) st)) else .stuck
  | .dic es => .of fun env st => (evEs es env (st ++ [.dct true []])).bind fun ds st' => match pairs ds, st'[st.length]? with
    | some kvs, some (.dct true []) => if kvs.length ≤ 15 then .opt (some (.ref st.length, st'.set st.length (.dct true (putAll [] kvs)))) else .stuck
    | _, _ => .stuck
  | .bin op a b => .of fun env st => ((ev a).v env st).bind fun x st => ((ev b).v env st).bind fun y st => .opt (opB op x y st)
  | .neg a => .of fun env st => ((ev a).v env st).bind fun x st => match x with
    | .int i => .ok (.int (-i)) st
    | _ => .stuck
  | .not a => ⟨fun env st => ((ev a).v env st).bind fun x st => .opt0 ((truth x st).map fun b => D.bl (!b)) st, fun env st => ((ev a).t env st).bind fun b st => .ok (!b) st⟩
  | .and a b => ⟨fun env st => ((ev a).v env st).bind fun x st => match x with
      | .bl true => (ev b).v env st
      | .bl false => .ok (.bl false) st
      | _ => .stuck, fun env st => ((ev a).t env st).bind fun x st => match x with
      | true => (ev b).t env st
      | false => .ok false st⟩
  | .or a b => ⟨fun env st => ((ev a).v env st).bind fun x st => match x with
      | .bl true => .ok (.bl true) st
      | .bl false => (ev b).v env st
      | _ => .stuck, fun env st => ((ev a).t env st).bind fun x st => match x with
      | true => .ok true st
      | false => (ev b).t env st⟩
  | .cmp op a b => ⟨fun env st => ((ev a).v env st).bind fun x st => ((ev b).v env st).bind fun y st => .opt0 ((cmpB op x y st).map D.bl) st,
      fun env st => ((ev a).v env st).bind fun x st => ((ev b).v env st).bind fun y st => .opt0 (cmpB op x y st) st⟩
  | .chain op op' a b c => ⟨fun env st => ((ev a).v env st).bind fun x st => ((ev b).v env st).bind fun y st => match cmpB op x y st with
      | none => .stuck
      | some false => .ok (.bl false) st
      | some true => ((ev c).v env st).bind fun z st => .opt0 ((cmpB op' y z st).map D.bl) st,
    fun env st => ((ev a).v env st).bind fun x st => ((ev b).v env st).bind fun y st => match cmpB op x y st with
      | none => .stuck
      | some false => .ok false st
      | some true => ((ev c).v env st).bind fun z st => .opt0 (cmpB op' y z st) st⟩
  | .ite c a b => ⟨fun env st => ((ev c).t env st).bind fun t st => match t with
      | true => (ev a).v env st
      | false => (ev b).v env st, fun env st => ((ev c).t env st).bind fun t st => match t with
      | true => (ev a).t env st
      | false => (ev b).t env st⟩
  | .call f es => .of fun env st => (evEs es env st).bind fun ds st => C f ds st
  | .callV i es => .of fun env st => match env[i]? with
    | some (some (.fn f)) => (evEs es env st).bind fun ds st => C f ds st
    | _ => .stuck
  | .bi b es => .of fun env st => (evEs es env st).bind fun ds st => .opt (evB b ds st)
  | .isi t e => .of fun env st => ((ev e).v env st).bind fun x st => .opt0 ((isiB t P.sub x st).map D.bl) st
  | .meth m o es => .of fun env st => ((ev o).v env st).bind fun x st => if kindB x st = some m.name then (evEs es env st).bind fun ds st => .opt (methB m x ds st) else .stuck
  | .ix o i => .of fun env st => ((ev o).v env st).bind fun x st => ((ev i).v env st).bind fun y st => .opt0 (ixB x y st) st
  | .slc o lo hi => .of fun env st => ((ev o).v env st).bind fun x st => (evO lo env st).bind fun l st => (evO hi env st).bind fun h st => .opt (slcB x l h st)
  | .rev o => .of fun env st => ((ev o).v env st).bind fun x st => .opt (revB x st)
  | .lrng a b => .of fun env st => ((ev a).v env st).bind fun x st => ((ev b).v env st).bind fun y st => match x, y with
    | .int i, .int j => if rngOk i j then .opt (some (new (.lst true (rngD i j)) st)) else .stuck
    | _, _ => .stuck
  | .lzip a b => .of fun env st => ((ev a).v env st).bind fun x st => ((ev b).v env st).bind fun y st => match x, y with
    | .tup xs, .tup ys => .opt (some (new (.lst true (List.zipWith (fun x y => D.tup [x, y]) xs ys)) st))
    | _, _ => .stuck
  | .lc elt tg it ifs own => .of fun env st => match keysI it env st with
    | some (n, kvs) => (lcLoop (.keys n kvs) (fun d st => tgB tg d (wipe env own) st) (fun env st => evTs ifs env st) (fun env st => (ev elt).v env st) st.length FUEL 0 (st.set n (.dct false kvs) ++ [.lst true []])).bind fun d st => .ok d (st.set n (.dct true kvs))
    | none => (evI it env st).bind fun J st => lcLoop J (fun d st => tgB tg d (wipe env own) st) (fun env st => evTs ifs env st) (fun env st => (ev elt).v env st) st.length FUEL 0 (st ++ [.lst true []])
  | .fld o => .of fun env st => ((ev o).v env st).bind fun x st => match x with
    | .exc c v => if P.sub c c = some true then .ok v st else .stuck
    | _ => .stuck
  | .heard x e => .of fun env st => match (ev e).v env st with
    | .ok d st => .ok (.tup [.non, d]) st
    | .err c v st => if P.sub c x = some true then .ok (.tup [.exc c v, .non]) st else .stuck
    | .stuck => .stuck
  | .bad => .of fun _ _ => .stuck
def evEs : IEs → Env → Sto → Res (List D)
  | .nil => fun _ st => .ok [] st
  | .cons false e r => fun env st => ((ev e).v env st).bind fun x st => (evEs r env st).bind fun xs st => .ok (x :: xs) st
  | .cons true e r => fun env st => ((ev e).v env st).bind fun x st => match seqOf x st with
    | some ys => (evEs r env st).bind fun xs st => .ok (ys ++ xs) st
    | none => .stuck
def evTs : IEs → Env → Sto → Res Bool
  | .nil => fun _ st => .ok true st
  | .cons _ e r => match r with
    | .nil => fun env st => (ev e).t env st
    | _ => fun _ _ => .stuck
def evO : IO → Env → Sto → Res (Option Int)
  | .none => fun _ st => .ok none st
  | .some e => fun env st => ((ev e).v env st).bind fun x st => match x with
    | .int i => .ok (some i) st
    | _ => .stuck
def evI : IT → Env → Sto → Res Itr
  | .e e => fun env st => ((ev e).v env st).bind fun x st => .opt0 (itOf x st) st
  | .rng a b => fun env st => ((ev a).v env st).bind fun x st => ((ev b).v env st).bind fun y st => match x, y with
    | .int i, .int j => if rngOk i j then .ok (.items (rngD i j)) st else .stuck
    | _, _ => .stuck
  | .zip a b => fun env st => ((ev a).v env st).bind fun x st => ((ev b).v env st).bind fun y st => .opt0 (zipOf x y st) st
end
def evE (e : IE) (env : Env) (st : Sto) : Res D := (ev P C e).v env st
def evT (e : IE) (env : Env) (st : Sto) : Res Bool := (ev P C e).t env st
mutual
def evS : IS → Env → Sto → Res Flow
  | .expr e, env, st => (evE P C e env st).bind fun _ st => .ok (.nx env) st
  | .ret e, env, st => (evE P C e env st).bind fun d st => .ok (.ret d) st
  | .retN, _, st => .ok (.ret .non) st
  | .pass, env, st => .ok (.nx env) st
  | .brk, env, st => .ok (.brk env) st
  | .cont, env, st => .ok (.cont env) st
  | .asg tg e, env, st => (evE P C e env st).bind fun d st => .opt0 ((tgB tg d env st).map Flow.nx) st
  | .par is es, env, st => (evEs P C es env st).bind fun ds st => .opt0 ((setAll is ds env).map Flow.nx) st
  | .setIx o i e, env, st => (evE P C e env st).bind fun v st => (evE P C o env st).bind fun x st => (evE P C i env st).bind fun y st =>
      match setB x y v st with
      | some st => .ok (.nx env) st
      | none => .stuck
  | .iff c a b, env, st => (evT P C c env st).bind fun t st => match t with
    | true => evSs a env st
    | false => evSs b env st
  | .whl c b, env, st => whlLoop (fun env st => evT P C c env st) (fun env st => evSs b env st) FUEL env st
  | .forr tg it b, env, st => (evI P C it env st).bind fun J st => forLoop J tg (fun env st => evSs b env st) FUEL 0 env st
  | .raise c e, env, st => (evE P C e env st).bind fun d st => .err c d st
  | .bad, _, _ => .stuck
def evSs : ISs → Env → Sto → Res Flow
  | .nil, env, st => .ok (.nx env) st
  | .cons s r, env, st => (evS s env st).bind fun f st => match f with
    | .nx env => evSs r env st
    | f => .ok f st
end
end
def retD : Flow → Sto → Res D
  | .ret d, st => .ok d st
  | .nx _, st => .ok .non st
  | _, _ => .stuck
/-- a def called, so many calls deep -/
def callN (P : Prog) : Nat → Str → List D → Sto → Res D
  | 0, _, _, _ => .stuck
  | n + 1, f, ds, st => match P.defs f with
    | none => .stuck
    | some d => if ds.length = d.np then (evSs P (callN P n) d.body (ds.map some ++ List.replicate (d.ns - d.np) none) st).bind retD else .stuck
end PyI
end
section
/-! PyI1: from the syntax of the linked text to the small interpreter's. -/
set_option autoImplicit false
set_option linter.all false
namespace PyI
open PySem

/-- what a name of the module's is -/
inductive Gk where
  | free | data (d : D) | defn | exc | no
/-- a def's names by slot; what the module's names are -/
structure CT where
  N : List Str
  glob : Str → Gk
  heard : Str
  hx : Str
/-- within a lambda -/
def CT.inLam (T : CT) : CT := ⟨T.N, T.glob, "", T.hx⟩

def idx (x : Str) : List Str → Nat → Option Nat
  | [], _ => none
  | y :: r, i => if y = x then some i else idx x r (i + 1)
def slot (T : CT) (sc : Scope) (x : Str) : Option Nat :=
  if x = "__debug__" ∨ x = "__classdict__" then none else
  match sc.names.lookup x with
  | some .local => idx x T.N 0
  | some .cell => idx x T.N 0
  | some .free => idx x T.N 0
  | _ => none
/-- a slot that may be stored -/
def slotW (T : CT) (sc : Scope) (x : Str) : Option Nat :=
  match sc.names.lookup x with
  | some .local => idx x T.N 0
  | some .cell => idx x T.N 0
  | _ => none
def isGl (sc : Scope) (x : Str) : Bool := decide (sc.names.lookup x = some .globalImplicit)
def isFree (T : CT) (x : Str) : Bool := match T.glob x with
  | .free => true
  | _ => false
def blt (T : CT) (sc : Scope) (x : Str) : Bool := isGl sc x && isFree T x
def isExc (T : CT) (sc : Scope) (x : Str) : Bool := isGl sc x && (match T.glob x with | .exc => true | _ => false) && !decide (x = "__debug__")
def isDef (T : CT) (sc : Scope) (x : Str) : Bool := isGl sc x && (match T.glob x with | .defn => true | _ => false) && !decide (x = "__debug__")

def cOp : Operator → Option BOp
  | .Add => some .add
  | .Sub => some .sub
  | .Mult => some .mul
  | .Mod => some .mod
  | .FloorDiv => some .fdiv
  | .Pow => some .pow
  | _ => none
def cCmp : CmpOp → COp
  | .Eq => .eq
  | .NotEq => .ne
  | .Lt => .lt
  | .LtE => .le
  | .Gt => .gt
  | .GtE => .ge
  | .In => .isin
  | .NotIn => .notin
  | .Is => .is
  | .IsNot => .isnot
/-- no display of a set stands behind in -/
def noSet : Expr → Bool
  | .Set .. => false
  | _ => true
def noLc : Expr → Bool
  | .ListComp .. | .SetComp .. | .DictComp .. => false
  | _ => true
def noSuper : Expr → Bool
  | .Call .. => false
  | _ => true
def noKey (args : List Expr) : Bool := !args.isEmpty
def noSlice : Expr → Bool
  | .Slice .. => false
  | _ => true
def cBi (x : Str) : Option BI :=
  if x = "len" then some .len else if x = "all" then some .all else if x = "any" then some .any else if x = "tuple" then some .tuple
  else if x = "list" then some .list else if x = "sorted" then some .sorted else if x = "int" then some .int else if x = "str" then some .str
  else if x = "abs" then some .abs else if x = "max" then some .max else if x = "min" then some .min else if x = "sum" then some .sum
  else if x = "repr" then some .repr else none
def cTy (T : CT) (sc : Scope) (x : Str) : Option Ty :=
  if blt T sc x then (if x = "tuple" then some .tuple else if x = "int" then some .int else if x = "bool" then some .bool else if x = "str" then some .str else if x = "list" then some .list else none)
  else if isExc T sc x then some (.cls x) else none
def cMt (x : Str) : Option MT :=
  if x = "append" then some .append else if x = "extend" then some .extend else if x = "update" then some .update else none
def noArgs : Arguments → Bool
  | ⟨[], [], none, [], [], none, []⟩ => true
  | _ => false
def relS' (scope sc : Scope) : Scope := L2.relS scope sc
def ownOf (T : CT) (scope : Scope) : List (Str × Nat) := scope.names.filterMap fun y => match y.2 with
  | .local => (idx y.1 T.N 0).map fun i => (y.1, i)
  | .cell => (idx y.1 T.N 0).map fun i => (y.1, i)
  | _ => none
def cIds (T : CT) (sc : Scope) : List Expr → Option (List Nat)
  | [] => some []
  | .Name x _ :: r => match slotW T sc x, cIds T sc r with
    | some i, some is => some (i :: is)
    | _, _ => none
  | _ => none
def cTg (T : CT) (sc : Scope) : Expr → Option Tg
  | .Name x _ => (slotW T sc x).map .nm
  | .Tuple es _ _ => (cIds T sc es).map .tp
  | _ => none
section
variable (f : Expr → Option IE)
def cEs : List Expr → Option IEs
  | [] => some .nil
  | .Starred e _ :: r => match f e, cEs r with
    | some e', some r' => some (.cons true e' r')
    | _, _ => none
  | e :: r => match f e, cEs r with
    | some e', some r' => some (.cons false e' r')
    | _, _ => none
/-- no star -/
def cEp : List Expr → Option IEs
  | [] => some .nil
  | e :: r => match f e, cEp r with
    | some e', some r' => some (.cons false e' r')
    | _, _ => none
def cDic : List (Option Expr) → List Expr → Option IEs
  | [], [] => some .nil
  | some k :: ks, v :: vs => match f k, f v, cDic ks vs with
    | some k', some v', some r' => some (.cons false k' (.cons false v' r'))
    | _, _, _ => none
  | _, _ => none
def cAO (op : BoolOp) (a b : IE) : IE :=
  match op with
  | .And => .and a b
  | .Or => .or a b
def cUn (op : UnaryOp) (a : Option IE) : Option IE :=
  match op, a with
  | .Not, some a' => some (.not a')
  | .USub, some a' => some (.neg a')
  | _, _ => none
def cBool (op : BoolOp) : List Expr → Option IE
  | [] => none
  | [a] => f a
  | a :: r => match f a, cBool op r with
    | some a', some r' => some (cAO op a' r')
    | _, _ => none
def cO : Option Expr → Option IO
  | none => some .none
  | some e => (f e).map .some
def isTup : Expr → Bool
  | .Tuple .. => true
  | _ => false
def cI (T : CT) (sc : Scope) (tg : Expr) : Expr → Option IT
  | .Call (.Name x p) [a] [] pos => if x = "range" then (if blt T sc x then (f a).map fun a' => .rng (.int 0) a' else none) else (f (.Call (.Name x p) [a] [] pos)).map .e
  | .Call (.Name x p) [a, b] [] pos => if x = "range" then (if blt T sc x then (match f a, f b with
      | some a', some b' => some (.rng a' b')
      | _, _ => none) else none)
    else if x = "zip" then (if blt T sc x && isTup tg then (match f a, f b with
      | some a', some b' => some (.zip a' b')
      | _, _ => none) else none)
    else (f (.Call (.Name x p) [a, b] [] pos)).map .e
  | e => if noSet e then (f e).map .e else none
end
def isRev : Expr → Bool
  | .Slice none none (some (.UnaryOp .USub (.Constant (.int 1) _ _) _)) _ => true
  | _ => false
def cSub (f : Expr → Option IE) (o i : Expr) : Option IE :=
  match i with
  | .Slice lo hi none _ => match f o, cO f lo, cO f hi with
    | some o', some l', some h' => some (.slc o' l' h')
    | _, _, _ => none
  | .Slice lo hi (some st) p => if isRev (.Slice lo hi (some st) p) then (f o).map .rev else none
  | i => match f o, f i with
    | some o', some i' => some (.ix o' i')
    | _, _ => none
/-- a call of a def or of a built-in -/
def cPlain (T : CT) (sc : Scope) (f : Expr → Option IE) (x : Str) (args : List Expr) : Option IE :=
  if isDef T sc x then (cEp f args).map (.call x)
  else if blt T sc x && !args.isEmpty then (match cBi x, cEp f args with
    | some b, some as => some (.bi b as)
    | _, _ => none)
  else none
def cListRg (f : Expr → Option IE) : List Expr → Option IE
  | [b] => (f b).map fun b' => .lrng (.int 0) b'
  | [a, b] => match f a, f b with
    | some a', some b' => some (.lrng a' b')
    | _, _ => none
  | _ => none
def cListZip (f : Expr → Option IE) : List Expr → Option IE
  | [a, b] => match f a, f b with
    | some a', some b' => some (.lzip a' b')
    | _, _ => none
  | _ => none
def cIsi (T : CT) (sc : Scope) (f : Expr → Option IE) (e : Expr) (y : Str) : Option IE :=
  match cTy T sc y, f e with
  | some t, some e' => some (.isi t e')
  | _, _ => none
def cCallN (T : CT) (sc : Scope) (f : Expr → Option IE) (fl : Scope → Expr → Option IE) (x : Str) (args : List Expr) : Option IE :=
  if isGl sc x then
    match args with
    | [.Lambda la lb lsc _] => if x = T.heard && T.heard != "" && isDef T sc x && noArgs la && LamX.lamSB sc lsc then (fl lsc lb).map (.heard T.hx) else none
    | [.Call (.Name y q) iargs [] q'] =>
      if x = "list" && blt T sc x && y = "range" && blt T sc y then cListRg f iargs
      else if x = "list" && blt T sc x && y = "zip" && blt T sc y then cListZip f iargs
      else cPlain T sc f x [.Call (.Name y q) iargs [] q']
    | [e, .Name y yp] => if x = "isinstance" && blt T sc x then cIsi T sc f e y else cPlain T sc f x [e, .Name y yp]
    | args => cPlain T sc f x args
  else match slot T sc x, cEp f args with
    | some i, some as => some (.callV i as)
    | _, _ => none
def cE (T : CT) : Nat → Scope → Expr → Option IE
  | 0, _, _ => none
  | n + 1, sc, e => match e with
    | .Constant c _ _ => match c with
      | .none => some .non
      | .bool b => some (.bl b)
      | .int i => some (.int i)
      | .str x => some (.str x)
      | _ => none
    | .Name x _ => match slot T sc x with
      | some i => some (.var i)
      | none => if isGl sc x && !decide (x = "__debug__") then (match T.glob x with
        | .data d => some (.con d)
        | .defn => some (.con (.fn x))
        | _ => none) else none
    | .Tuple es _ _ => (cEs (cE T n sc) es).map .tup
    | .List es _ => (cEs (cE T n sc) es).map .lst
    | .Dict ks vs _ => if ks.isEmpty || decide (15 < ks.length) then none else (cDic (cE T n sc) ks vs).map .dic
    | .BinOp a op b _ => match cOp op, cE T n sc a, cE T n sc b with
      | some o, some a', some b' => some (.bin o a' b')
      | _, _, _ => none
    | .UnaryOp op a _ => cUn op (cE T n sc a)
    | .BoolOp op vs _ => cBool (cE T n sc) op vs
    | .Compare a [op] [b] _ => match cE T n sc a, cE T n sc b with
      | some a', some b' => if noSet b then some (.cmp (cCmp op) a' b') else none
      | _, _ => none
    | .Compare a [op, op'] [b, c] _ => match cE T n sc a, cE T n sc b, cE T n sc c with
      | some a', some b', some c' => if noSet c then some (.chain (cCmp op) (cCmp op') a' b' c') else none
      | _, _, _ => none
    | .IfExp c a b _ => match cE T n sc c, cE T n sc a, cE T n sc b with
      | some c', some a', some b' => some (.ite c' a' b')
      | _, _, _ => none
    | .Call (.Name x _) args [] _ => cCallN T sc (cE T n sc) (cE T.inLam n) x args
    | .Call (.Attribute o m apos) args [] pos => match cMt m, cE T n sc o, cEp (cE T n sc) args with
      | some k, some o', some as => if apos.endLine == pos.line && decide (args.length < 20) && noSuper o && noKey args then some (.meth k o' as) else none
      | none, _, _ => some .bad
      | _, _, _ => none
    | .Attribute o f _ => if f = "value" then (match o with
      | .Name .. => (cE T n sc o).map .fld
      | _ => none) else none
    | .Subscript o i _ => cSub (cE T n sc) o i
    | .ListComp elt [⟨tg, iter, ifs, 0⟩] scope _ =>
      let own := ownOf T scope
      let sc' := relS' scope sc
      if L2.blkC T.N sc scope own then
        (match cTg T scope tg, cI (cE T n sc) T sc tg iter, cEp (cE T n sc') ifs, cE T n sc' elt with
        | some t, some it, some is, some e' => if decide (ifs.length ≤ 1) then some (.lc e' t it is (own.map (·.2))) else none
        | _, _, _, _ => none)
      else none
    | _ => none

/-! ### statements -/
def isStarE : Expr → Bool
  | .Starred .. => true
  | _ => false
def swN (sc : Scope) (ts : List Expr) : List Str := ts.filterMap fun
    | .Name id pos => if sc.names.lookup id == some .local && pos.line == (ts.head?.map (·.pos.line)).getD 0 then some id else none
    | _ => none
/-- a, b = x, y: whether the stores are swapped -/
def swB (sc : Scope) (ts vs : List Expr) : Bool :=
  (ts.length == 2 || ts.length == 3) && !(vs.length != ts.length) && !(vs.any isStarE) && !((swN sc ts).length != ts.length) && !((swN sc ts).eraseDups.length != (swN sc ts).length) && !(vs.all (foldedForSure 8))
def cAsgU (T : CT) (sc : Scope) (f : Expr → Option IE) (ts : List Expr) (e : Expr) : Option IS :=
  match cIds T sc ts, f e with
  | some is, some e' => some (.asg (.tp is) e')
  | _, _ => none
/-- two or three plain names of the def's own, apart -/
def parN (sc : Scope) : List Expr → Bool
  | [.Name x p, .Name y q] => decide (swN sc [.Name x p, .Name y q] = [x, y]) && decide (x ≠ y) && decide (sc.names.lookup x = some .local) && decide (sc.names.lookup y = some .local)
  | [.Name x p, .Name y q, .Name z r] => decide (swN sc [.Name x p, .Name y q, .Name z r] = [x, y, z]) && decide (x ≠ y) && decide (x ≠ z) && decide (y ≠ z) && decide (sc.names.lookup x = some .local) && decide (sc.names.lookup y = some .local) && decide (sc.names.lookup z = some .local)
  | _ => false
def cAsgT (T : CT) (sc : Scope) (f : Expr → Option IE) (ts : List Expr) (e : Expr) : Option IS :=
  match e with
  | .Tuple vs k p => if swB sc ts vs then (if vs.all (constantsAlone 8) || !parN sc ts || ts.length != vs.length then none else (match cIds T sc ts, cEp f vs with
      | some is, some es => some (.par is es)
      | _, _ => none))
    else cAsgU T sc f ts (.Tuple vs k p)
  | e => if noLc e then cAsgU T sc f ts e else none
section
variable (T : CT) (sc : Scope) (F : Nat)
def cSs (f : Stmt → Option IS) : List Stmt → Option ISs
  | [] => some .nil
  | s :: r => match f s, cSs f r with
    | some s', some r' => some (.cons s' r')
    | _, _ => none
def cS : Nat → Stmt → Option IS
  | 0, _ => none
  | n + 1, s => match s with
    | .Expr e _ => if noLc e then (cE T F sc e).map .expr else none
    | .Return (some e) _ => (cE T F sc e).map .ret
    | .Return none _ => some .retN
    | .Pass _ => some .pass
    | .Break _ => some .brk
    | .Continue _ => some .cont
    | .Assign [.Name x xp] e pos => match slotW T sc x, cE T F sc e with
      | some i, some e' => some (.asg (.nm i) e')
      | _, _ => none
    | .Assign [.Tuple ts _ _] e _ => cAsgT T sc (cE T F sc) ts e
    | .Assign [.Subscript o i _] e _ => match cE T F sc o, cE T F sc i, cE T F sc e with
      | some o', some i', some e' => if noLc e && noSlice i then some (.setIx o' i' e') else none
      | _, _, _ => none
    | .If c a b _ => match cE T F sc c, cSs (cS n) a, cSs (cS n) b with
      | some c', some a', some b' => some (.iff c' a' b')
      | _, _, _ => none
    | .While c b [] _ => match cE T F sc c, cSs (cS n) b with
      | some c', some b' => some (.whl c' b')
      | _, _ => none
    | .For tg it b [] _ => match cTg T sc tg, cI (cE T F sc) T sc tg it, cSs (cS n) b with
      | some t, some it', some b' => some (.forr t it' b')
      | _, _, _ => none
    | .Raise (some (.Call (.Name c _) [e] [] _)) none _ => if isExc T sc c then (cE T F sc e).map (.raise c) else none
    | _ => none
end
end PyI
end
section
/-! PyI2a: the interpreter's data and the heap's. -/
set_option autoImplicit false
set_option linter.all false
set_option maxRecDepth 100000
namespace PyI
open PySem PySem.Spec PyProof.Rows L2

/-- the module behind the top: its written part, its names, its own exceptions' classes, the tables of code objects -/
structure Mdl where
  K : PySem.W.Frag
  mg : Str → Option Value
  cls : Str → Addr
  T : List (Addr × Str)

/-- what never changes once it stands -/
def Perm : HO → Prop
  | .tup _ => True
  | .frz _ _ => True
  | .xd _ => True
  | .ext _ => True
  | _ => False
def Keep (H H' : Hp) : Prop := ∀ a o, H a = some o → Perm o → H' a = some o
theorem Keep.refl (H : Hp) : Keep H H := fun _ _ h _ => h
theorem Keep.trans {H H1 H2 : Hp} (a : Keep H H1) (b : Keep H1 H2) : Keep H H2 := fun c o h p => b c o (a c o h p) p
theorem Keep.of {H H' : Hp} (h : Same H H') : Keep H H' := fun a o e _ => h a o e

/-- .. of values' objects alone -/
def PermV : HO → Prop
  | .tup _ => True
  | .xd _ => True
  | .ext _ => True
  | _ => False
theorem PermV.perm {o : HO} (h : PermV o) : Perm o := by
  cases o <;> first | trivial | exact h
def KeepV (H H' : Hp) : Prop := ∀ a o, H a = some o → PermV o → H' a = some o
theorem Keep.v {H H' : Hp} (k : Keep H H') : KeepV H H' := fun a o h p => k a o h p.perm
/-- a caught exception's object -/
def exT (a C d : Addr) : HO := .ext fun h => ∃ (oe : Obj) (fv : Array Value), h.get? a = some oe ∧ oe.cls = .ref C ∧ oe.dict = some d ∧ oe.data = .fields fv
def TupAt (K : PySem.W.Frag) (H : Hp) (a : Addr) (vs : List V) : Prop :=
  H a = some (.tup vs) ∨
    ∃ (o : Obj) (its : Array Value) (n : Nat), K.lookup a = some o ∧ o.cls = .type "tuple" ∧ o.data = .seq its n ∧ its.size ≤ sizeLine ∧ Vals vs its.toList
theorem TupAt.sq {K : PySem.W.Frag} {H : Hp} {a : Addr} {vs : List V} (h : TupAt K H a vs) : SqT K H a vs := by
  rcases h with h | h
  · exact .inl (.inl h)
  · exact .inr h
theorem TupAt.keepV {K : PySem.W.Frag} {H H' : Hp} {a : Addr} {vs : List V} (h : TupAt K H a vs) (k : KeepV H H') : TupAt K H' a vs := by
  rcases h with h | h
  · exact .inl (k _ _ h trivial)
  · exact .inr h
theorem TupAt.keep {K : PySem.W.Frag} {H H' : Hp} {a : Addr} {vs : List V} (h : TupAt K H a vs) (k : Keep H H') : TupAt K H' a vs := h.keepV k.v
mutual
/-- what a value is -/
inductive RD (M : Mdl) (α : List Addr) (H : Hp) : D → V → Prop
  | non : RD M α H .non .non
  | bl (b : Bool) : RD M α H (.bl b) (.bl b)
  | int (i : Int) : RD M α H (.int i) (.int i)
  | str (x : Str) : RD M α H (.str x) (.str x)
  | tup {ds : List D} {a : Addr} {vs : List V} : TupAt M.K H a vs → RDs M α H ds vs → RD M α H (.tup ds) (.ref a)
  | ref {n : Nat} {a : Addr} : α[n]? = some a → RD M α H (.ref n) (.ref a)
  | exc {c : Str} {d : D} {a x : Addr} {w : V} : H a = some (exT a (M.cls c) x) → H x = some (.xd [("value", w)]) → RD M α H d w → RD M α H (.exc c d) (.ref a)
  | fn {f : Str} {a : Addr} : M.mg f = some (.ref a) → PySem.W.keepIn M.K (.ref a) = true → RD M α H (.fn f) (.ref a)
inductive RDs (M : Mdl) (α : List Addr) (H : Hp) : List D → List V → Prop
  | nil : RDs M α H [] []
  | cons {d : D} {v : V} {ds : List D} {vs : List V} : RD M α H d v → RDs M α H ds vs → RDs M α H (d :: ds) (v :: vs)
end
section
variable {M : Mdl} {α α' : List Addr} {H H' : Hp}
theorem pre_get {l l' : List Addr} (p : l <+: l') {n : Nat} {a : Addr} (e : l[n]? = some a) : l'[n]? = some a := by
  obtain ⟨r, rfl⟩ := p
  rw [List.getElem?_append_left (List.getElem?_eq_some_iff.mp e).1]
  exact e
mutual
theorem RD.keepV (p : α <+: α') (k : KeepV H H') : ∀ (d : D) (v : V), RD M α H d v → RD M α' H' d v
  | .non, _, h => by cases h; exact .non
  | .bl b, _, h => by cases h; exact .bl b
  | .int i, _, h => by cases h; exact .int i
  | .str x, _, h => by cases h; exact .str x
  | .tup ds, _, h => by
    cases h with
    | tup ht hs => exact .tup (ht.keepV k) (RDs.keepV p k ds _ hs)
  | .ref n, _, h => by
    cases h with
    | ref e => exact .ref (pre_get p e)
  | .exc c d, _, h => by
    cases h with
    | exc h1 h2 h3 => exact .exc (k _ _ h1 trivial) (k _ _ h2 trivial) (RD.keepV p k d _ h3)
  | .fn f, _, h => by
    cases h with
    | fn e k => exact .fn e k
theorem RDs.keepV (p : α <+: α') (k : KeepV H H') : ∀ (ds : List D) (vs : List V), RDs M α H ds vs → RDs M α' H' ds vs
  | [], _, h => by cases h; exact .nil
  | d :: ds, _, h => by
    cases h with
    | cons h1 h2 => exact .cons (RD.keepV p k d _ h1) (RDs.keepV p k ds _ h2)
end
theorem RD.keep {d : D} {v : V} (h : RD M α H d v) (p : α <+: α') (k : Keep H H') : RD M α' H' d v := RD.keepV p k.v d v h
theorem RDs.keep {d : List D} {v : List V} (h : RDs M α H d v) (p : α <+: α') (k : Keep H H') : RDs M α' H' d v := RDs.keepV p k.v d v h
theorem RDs.length : ∀ {ds : List D} {vs : List V}, RDs M α H ds vs → ds.length = vs.length
  | [], _, h => by cases h; rfl
  | d :: ds, _, h => by
    cases h with
    | cons h1 h2 => rw [List.length_cons, List.length_cons, RDs.length h2]
theorem RDs.app : ∀ {ds es : List D} {vs ws : List V}, RDs M α H ds vs → RDs M α H es ws → RDs M α H (ds ++ es) (vs ++ ws)
  | [], _, _, _, h, h' => by cases h; exact h'
  | d :: ds, _, _, _, h, h' => by
    cases h with
    | cons h1 h2 => exact .cons h1 (RDs.app h2 h')
theorem RDs.get : ∀ {ds : List D} {vs : List V} {i : Nat} {d : D}, RDs M α H ds vs → ds[i]? = some d → ∃ v, vs[i]? = some v ∧ RD M α H d v
  | [], _, _, _, h, e => by simp at e
  | d :: ds, _, 0, x, h, e => by
    cases h with
    | cons h1 h2 =>
      simp at e
      subst e
      exact ⟨_, rfl, h1⟩
  | d :: ds, _, i + 1, x, h, e => by
    cases h with
    | cons h1 h2 =>
      obtain ⟨v, e1, e2⟩ := RDs.get (i := i) h2 (by simpa using e)
      exact ⟨v, by simpa using e1, e2⟩
theorem RDs.getV : ∀ {ds : List D} {vs : List V} {i : Nat} {v : V}, RDs M α H ds vs → vs[i]? = some v → ∃ d, ds[i]? = some d ∧ RD M α H d v
  | [], _, _, _, h, e => by cases h; simp at e
  | d :: ds, _, 0, x, h, e => by
    cases h with
    | cons h1 h2 =>
      simp at e
      subst e
      exact ⟨_, rfl, h1⟩
  | d :: ds, _, i + 1, x, h, e => by
    cases h with
    | cons h1 h2 =>
      obtain ⟨v, e1, e2⟩ := RDs.getV (i := i) h2 (by simpa using e)
      exact ⟨v, by simpa using e1, e2⟩
theorem RDs.set : ∀ {ds : List D} {vs : List V} {i : Nat} {d : D} {v : V}, RDs M α H ds vs → RD M α H d v → RDs M α H (ds.set i d) (vs.set i v)
  | [], _, _, _, _, h, _ => by cases h; exact .nil
  | d :: ds, _, 0, x, y, h, r => by
    cases h with
    | cons h1 h2 => exact .cons r h2
  | d :: ds, _, i + 1, x, y, h, r => by
    cases h with
    | cons h1 h2 => exact .cons h1 (RDs.set h2 r)
theorem RDs.take : ∀ {ds : List D} {vs : List V} (n : Nat), RDs M α H ds vs → RDs M α H (ds.take n) (vs.take n)
  | _, _, 0, _ => .nil
  | [], _, n + 1, h => by cases h; exact .nil
  | d :: ds, _, n + 1, h => by
    cases h with
    | cons h1 h2 => exact .cons h1 (RDs.take n h2)
theorem RDs.drop : ∀ {ds : List D} {vs : List V} (n : Nat), RDs M α H ds vs → RDs M α H (ds.drop n) (vs.drop n)
  | _, _, 0, h => h
  | [], _, n + 1, h => by cases h; exact .nil
  | d :: ds, _, n + 1, h => by
    cases h with
    | cons h1 h2 => exact RDs.drop n h2
theorem RDs.rev : ∀ {ds : List D} {vs : List V}, RDs M α H ds vs → RDs M α H ds.reverse vs.reverse
  | [], _, h => by cases h; exact .nil
  | d :: ds, _, h => by
    cases h with
    | cons h1 h2 =>
      rw [List.reverse_cons, List.reverse_cons]
      exact (RDs.rev h2).app (.cons h1 .nil)
theorem RDs.rep {ds : List D} {vs : List V} (h : RDs M α H ds vs) : ∀ k : Nat, RDs M α H (List.replicate k ds).flatten (List.replicate k vs).flatten
  | 0 => .nil
  | k + 1 => by
    rw [List.replicate_succ, List.flatten_cons, List.replicate_succ, List.flatten_cons]
    exact h.app (RDs.rep h k)

/-- a dict's pairs -/
def keyV : D → Option Key
  | .int i => some (.inl i)
  | .str x => some (.inr x)
  | _ => none
inductive RKs (M : Mdl) (α : List Addr) (H : Hp) : List (D × D) → List (Key × V) → Prop
  | nil : RKs M α H [] []
  | cons {k : D} {k' : Key} {d : D} {v : V} {ds : List (D × D)} {vs : List (Key × V)} : keyV k = some k' → RD M α H d v → RKs M α H ds vs → RKs M α H ((k, d) :: ds) ((k', v) :: vs)
theorem RKs.keepV (p : α <+: α') (k : KeepV H H') : ∀ {ds : List (D × D)} {vs : List (Key × V)}, RKs M α H ds vs → RKs M α' H' ds vs
  | [], _, h => by cases h; exact .nil
  | _ :: _, _, h => by
    cases h with
    | cons h1 h2 h3 => exact .cons h1 (RD.keepV p k _ _ h2) (RKs.keepV p k h3)
theorem RKs.keep {ds : List (D × D)} {vs : List (Key × V)} (h : RKs M α H ds vs) (p : α <+: α') (k : Keep H H') : RKs M α' H' ds vs := RKs.keepV p k.v h
theorem RKs.length : ∀ {ds : List (D × D)} {vs : List (Key × V)}, RKs M α H ds vs → ds.length = vs.length
  | [], _, h => by cases h; rfl
  | _ :: _, _, h => by
    cases h with
    | cons h1 h2 h3 => rw [List.length_cons, List.length_cons, RKs.length h3]
end
/-- what stands at a cell's address -/
def RC (M : Mdl) (α : List Addr) (H : Hp) : Cell → Addr → Prop
  | .lst true ds, a => ∃ vs, H a = some (.lst vs) ∧ RDs M α H ds vs
  | .lst false ds, a => ∃ vs o, H a = some (.frz o (.lst vs)) ∧ RDs M α H ds vs
  | .dct true ks, a => ∃ vs, H a = some (.dK vs) ∧ RKs M α H ks vs
  | .dct false ks, a => ∃ vs o, H a = some (.frz o (.dK vs)) ∧ RKs M α H ks vs
/-- the store -/
structure RH (M : Mdl) (α : List Addr) (st : Sto) (H : Hp) : Prop where
  len : α.length = st.length
  nd : α.Nodup
  cell : ∀ (n : Nat) (c : Cell) (a : Addr), st[n]? = some c → α[n]? = some a → RC M α H c a
  tabs : LamX.Tabs M.T H
/-- the names -/
structure RE (M : Mdl) (α : List Addr) (env : Env) (σ : L2.St) (H : Hp) : Prop where
  len : env.length = σ.length
  at_ : ∀ (i : Nat) (d : D), env[i]? = some (some d) → ∃ v, σ[i]? = some (some v) ∧ RD M α H d v
section
variable {M : Mdl} {α α' : List Addr} {st : Sto} {H H' : Hp} {env : Env} {σ : L2.St}
theorem RE.keepV (h : RE M α env σ H) (p : α <+: α') (k : KeepV H H') : RE M α' env σ H' := ⟨h.len, fun i d e => by
  obtain ⟨v, e1, e2⟩ := h.at_ i d e
  exact ⟨v, e1, RD.keepV p k _ _ e2⟩⟩
theorem RE.keep (h : RE M α env σ H) (p : α <+: α') (k : Keep H H') : RE M α' env σ H' := h.keepV p k.v
theorem RE.set (h : RE M α env σ H) {i : Nat} {d : D} {v : V} (r : RD M α H d v) : RE M α (env.set i (some d)) (σ.set i (some v)) H := by
  refine ⟨by rw [List.length_set, List.length_set, h.len], fun j e q => ?_⟩
  by_cases z : i = j
  · subst z
    by_cases l : i < env.length
    · rw [List.getElem?_set_self l] at q
      rw [List.getElem?_set_self (by rw [← h.len]; exact l)]
      cases q
      exact ⟨v, rfl, r⟩
    · rw [List.getElem?_eq_none (by rw [List.length_set]; omega)] at q
      cases q
  · rw [List.getElem?_set_ne z] at q ⊢
    exact h.at_ j e q
theorem RE.setN (h : RE M α env σ H) {i : Nat} : RE M α (env.set i none) (σ.set i none) H := by
  refine ⟨by rw [List.length_set, List.length_set, h.len], fun j e q => ?_⟩
  by_cases z : i = j
  · subst z
    by_cases l : i < env.length
    · rw [List.getElem?_set_self l] at q
      cases q
    · rw [List.getElem?_eq_none (by rw [List.length_set]; omega)] at q
      cases q
  · rw [List.getElem?_set_ne z] at q ⊢
    exact h.at_ j e q
theorem RE.wipe (h : RE M α env σ H) : ∀ vs : List Nat, RE M α (PyI.wipe env vs) (L2.wipe σ vs) H
  | [] => h
  | v :: vs => by
    show RE M α ((PyI.wipe env vs).set v none) ((L2.wipe σ vs).set v none) H
    exact (RE.wipe h vs).setN
theorem RC.keepV {c : Cell} {a : Addr} (h : RC M α H c a) (p : α <+: α') (k : KeepV H H') (ha : H' a = H a) : RC M α' H' c a := by
  cases c with
  | lst w ds =>
    cases w with
    | true =>
      obtain ⟨vs, e, r⟩ := h
      exact ⟨vs, ha.trans e, RDs.keepV p k _ _ r⟩
    | false =>
      obtain ⟨vs, o, e, r⟩ := h
      exact ⟨vs, o, ha.trans e, RDs.keepV p k _ _ r⟩
  | dct w ds =>
    cases w with
    | true =>
      obtain ⟨vs, e, r⟩ := h
      exact ⟨vs, ha.trans e, RKs.keepV p k r⟩
    | false =>
      obtain ⟨vs, o, e, r⟩ := h
      exact ⟨vs, o, ha.trans e, RKs.keepV p k r⟩
theorem RC.keep {c : Cell} {a : Addr} (h : RC M α H c a) (p : α <+: α') (k : Keep H H') (ha : H' a = H a) : RC M α' H' c a := h.keepV p k.v ha
def Cell.wr : Cell → Bool
  | .lst w _ => w
  | .dct w _ => w
theorem RC.at {c : Cell} {a : Addr} (h : RC M α H c a) : ∃ o, H a = some o ∧ (c.wr = true → ¬ Perm o) ∧ ∀ ps, o ≠ .tbl ps := by
  cases c with
  | lst w ds =>
    cases w with
    | true =>
      obtain ⟨vs, e, r⟩ := h
      exact ⟨_, e, fun _ z => z, fun ps z => by cases z⟩
    | false =>
      obtain ⟨vs, o, e, r⟩ := h
      exact ⟨_, e, fun z => (by cases z), fun ps z => by cases z⟩
  | dct w ds =>
    cases w with
    | true =>
      obtain ⟨vs, e, r⟩ := h
      exact ⟨_, e, fun _ z => z, fun ps z => by cases z⟩
    | false =>
      obtain ⟨vs, o, e, r⟩ := h
      exact ⟨_, e, fun z => (by cases z), fun ps z => by cases z⟩
theorem RH.has (h : RH M α st H) {n : Nat} {a : Addr} (e : α[n]? = some a) : ∃ c, st[n]? = some c ∧ RC M α H c a := by
  have l : n < st.length := by
    rw [← h.len]
    exact (List.getElem?_eq_some_iff.mp e).1
  exact ⟨st[n], List.getElem?_eq_getElem l, h.cell n _ a (List.getElem?_eq_getElem l) e⟩
theorem RH.adr (h : RH M α st H) {n : Nat} {c : Cell} (e : st[n]? = some c) : ∃ a, α[n]? = some a ∧ RC M α H c a := by
  have l : n < α.length := by
    rw [h.len]
    exact (List.getElem?_eq_some_iff.mp e).1
  exact ⟨α[n], List.getElem?_eq_getElem l, h.cell n c _ e (List.getElem?_eq_getElem l)⟩
theorem RH.fresh (h : RH M α st H) {p : Addr} (n : H p = none) : p ∉ α := fun hp => by
  obtain ⟨i, l, e⟩ := List.mem_iff_getElem.mp hp
  obtain ⟨c, _, rc⟩ := h.has (n := i) (a := p) (by rw [List.getElem?_eq_getElem l, e])
  obtain ⟨o, z, _⟩ := rc.at
  rw [n] at z
  cases z
/-- tables and code objects where a thing is written that is neither -/
theorem tabs_upd {T : List (Addr × Str)} (t : LamX.Tabs T H) {a : Addr} {o : HO} (ha : ∀ u, H a = some u → (∀ ps, u ≠ .tbl ps) ∧ ∀ φ, u ≠ .ext φ) : LamX.Tabs T (upd H a o) := fun p hp => by
  obtain ⟨ps, h1, h2, h3⟩ := t p hp
  refine ⟨ps, ?_, h2, fun pos cv hc => ?_⟩
  · have ne : p.1 ≠ a := fun z => by
      rw [z] at h1
      exact (ha _ h1).1 ps rfl
    rw [upd_ne ne]
    exact h1
  · obtain ⟨c, e1, e2⟩ := h3 pos cv hc
    refine ⟨c, e1, ?_⟩
    have ne : c ≠ a := fun z => by
      rw [z] at e2
      exact (ha _ e2).2 _ rfl
    rw [upd_ne ne]
    exact e2
theorem keep_upd {a : Addr} {o : HO} (ha : ∀ u, H a = some u → ¬ Perm u) : Keep H (upd H a o) := fun b u e p => by
  by_cases z : b = a
  · subst z
    exact absurd p (ha u e)
  · rw [upd_ne z]
    exact e
theorem same_new {p : Addr} {o : HO} (n : H p = none) : Same H (upd H p o) := fun b u e => by
  rw [upd_ne (ne_of_none e n)]
  exact e
/-- all that was tracked stands as it stood -/
theorem RH.same (h : RH M α st H) (s : Same H H') : RH M α st H' := by
  refine ⟨h.len, h.nd, fun n c a e1 e2 => ?_, h.tabs.ext s⟩
  have rc := h.cell n c a e1 e2
  obtain ⟨o, z, _⟩ := rc.at
  exact rc.keep (List.prefix_refl _) (.of s) ((s _ _ z).trans z.symm)
/-- a new cell -/
theorem RH.new (h : RH M α st H) {p : Addr} {o : HO} {c : Cell} (n : H p = none) (rc : RC M (α ++ [p]) (upd H p o) c p) : RH M (α ++ [p]) (st ++ [c]) (upd H p o) := by
  have hp := h.fresh n
  refine ⟨by rw [List.length_append, List.length_append, h.len]; rfl, ?_, fun i d a e1 e2 => ?_, h.tabs.ext (same_new n)⟩
  · rw [List.nodup_append]
    refine ⟨h.nd, by simp, fun x hx y hy => ?_⟩
    rw [List.mem_singleton] at hy
    subst hy
    exact fun z => hp (z ▸ hx)
  · by_cases l : i < st.length
    · rw [List.getElem?_append_left l] at e1
      rw [List.getElem?_append_left (by rw [h.len]; exact l)] at e2
      have rc' := h.cell i d a e1 e2
      obtain ⟨u, z, _⟩ := rc'.at
      exact rc'.keep (List.prefix_append _ _) (.of (same_new n)) (by rw [upd_ne (ne_of_none z n)])
    · have le : i = st.length := by
        have := (List.getElem?_eq_some_iff.mp e1).1
        rw [List.length_append] at this
        simp at this
        omega
      subst le
      rw [List.getElem?_append_right (Nat.le_refl _), Nat.sub_self] at e1
      rw [List.getElem?_append_right (by rw [h.len]; exact Nat.le_refl _), h.len, Nat.sub_self] at e2
      simp at e1 e2
      subst e1
      subst e2
      exact rc
/-- a cell's object gives way to another -/
theorem RH.put (h : RH M α st H) {n : Nat} {a : Addr} {o : HO} {c : Cell} (ha : α[n]? = some a) (kp : KeepV H (upd H a o)) (rc : RC M α (upd H a o) c a) : RH M α (st.set n c) (upd H a o) := by
  obtain ⟨c0, e0, r0⟩ := h.has ha
  obtain ⟨u, hu, np, nt⟩ := r0.at
  have only : ∀ w, H a = some w → (∀ ps, w ≠ .tbl ps) ∧ ∀ φ, w ≠ .ext φ := fun w e => by
    rw [hu] at e
    cases e
    refine ⟨nt, fun φ z => ?_⟩
    subst z
    cases c0 with
    | lst w ds =>
      cases w with
      | true =>
        obtain ⟨vs, e, r⟩ := r0
        rw [hu] at e
        cases e
      | false =>
        obtain ⟨vs, o, e, r⟩ := r0
        rw [hu] at e
        cases e
    | dct w ds =>
      cases w with
      | true =>
        obtain ⟨vs, e, r⟩ := r0
        rw [hu] at e
        cases e
      | false =>
        obtain ⟨vs, o, e, r⟩ := r0
        rw [hu] at e
        cases e
  refine ⟨by rw [List.length_set, h.len], h.nd, fun i d b e1 e2 => ?_, tabs_upd h.tabs only⟩
  by_cases z : n = i
  · subst z
    rw [ha] at e2
    cases e2
    rw [List.getElem?_set_self (List.getElem?_eq_some_iff.mp e0).1] at e1
    cases e1
    exact rc
  · rw [List.getElem?_set_ne z] at e1
    have rc' := h.cell i d b e1 e2
    refine rc'.keepV (List.prefix_refl _) kp (upd_ne fun q => z ?_)
    subst q
    obtain ⟨l1, q1⟩ := List.getElem?_eq_some_iff.mp ha
    obtain ⟨l2, q2⟩ := List.getElem?_eq_some_iff.mp e2
    exact (List.getElem_inj h.nd).mp (q1.trans q2.symm)
theorem RH.keepSet (h : RH M α st H) {n : Nat} {a : Addr} {o : HO} {c0 : Cell} (ha : α[n]? = some a) (e0 : st[n]? = some c0) (hw : c0.wr = true) : Keep H (upd H a o) := by
  obtain ⟨u, hu, np, _⟩ := (h.cell n c0 a e0 ha).at
  exact keep_upd fun w e => by
    rw [hu] at e
    cases e
    exact np hw
/-- a cell is written -/
theorem RH.set (h : RH M α st H) {n : Nat} {a : Addr} {o : HO} {c c0 : Cell} (ha : α[n]? = some a) (e0 : st[n]? = some c0) (hw : c0.wr = true) (rc : RC M α (upd H a o) c a) : RH M α (st.set n c) (upd H a o) := h.put ha (h.keepSet ha e0 hw).v rc
end

/-! ### what is wanted behind a step -/
/-- behind an expression; E: what is wanted of an exception -/
def PE' (M : Mdl) (E : XK) (α : List Addr) (H : Hp) (r : Res D) (Q : VK) : Prop :=
  match r with
  | .ok d st => ∀ (α' : List Addr) (v : V) (H' : Hp), α <+: α' → Keep H H' → RH M α' st H' → RD M α' H' d v → Q v H'
  | .err c d st => ∀ (α' : List Addr) (x : Addr) (w : V) (H' : Hp), α <+: α' → Keep H H' → RH M α' st H' → H' x = some (.xd [("value", w)]) → RD M α' H' d w → E (.ref (M.cls c)) (some x) H'
  | .stuck => False
/-- an expression's reading by what the interpreter makes of it -/
def TM (M : Mdl) (E : XK) (f : Env → Sto → Res D) : TE := fun σ H Q => ∃ (α : List Addr) (env : Env) (st : Sto), RE M α env σ H ∧ RH M α st H ∧ PE' M E α H (f env st) Q
/-- .. of a part with another kind of value: K tells what is wanted of it -/
def PG' {β : Type} (M : Mdl) (E : XK) (α : List Addr) (H : Hp) (r : Res β) (K : β → List Addr → Sto → Hp → Prop) : Prop :=
  match r with
  | .ok b st => ∀ (α' : List Addr) (H' : Hp), α <+: α' → Keep H H' → RH M α' st H' → K b α' st H'
  | .err c d st => ∀ (α' : List Addr) (x : Addr) (w : V) (H' : Hp), α <+: α' → Keep H H' → RH M α' st H' → H' x = some (.xd [("value", w)]) → RD M α' H' d w → E (.ref (M.cls c)) (some x) H'
  | .stuck => False
section
variable {M : Mdl} {E : XK} {α α' α1 : List Addr} {st st' : Sto} {H H' H1 : Hp} {σ : L2.St} {env : Env} {Q Q' : VK} {r : Res D} {β γ : Type}
theorem PG'.later {r : Res β} {K : β → List Addr → Sto → Hp → Prop} (h : PG' M E α H r K) (p : α <+: α1) (k : Keep H H1) : PG' M E α1 H1 r K := by
  cases r with
  | ok d st => exact fun α' H' p' k' r => h α' H' (p.trans p') (k.trans k') r
  | err c d st => exact fun α' x w H' p' k' r e rd => h α' x w H' (p.trans p') (k.trans k') r e rd
  | stuck => exact h
theorem PG'.mono {r : Res β} {K K' : β → List Addr → Sto → Hp → Prop} (h : PG' M E α H r K) (hk : ∀ b α' st' H', r = .ok b st' → α <+: α' → Keep H H' → RH M α' st' H' → K b α' st' H' → K' b α' st' H') : PG' M E α H r K' := by
  cases r with
  | ok d st => exact fun α' H' p k rh => hk _ _ _ _ rfl p k rh (h α' H' p k rh)
  | err c d st => exact h
  | stuck => exact h
/-- a part, then the rest -/
theorem PG'.bind {r : Res β} {g : β → Sto → Res γ} {K : γ → List Addr → Sto → Hp → Prop} (h : PG' M E α H (r.bind g) K) : PG' M E α H r fun b α1 st1 H1 => PG' M E α1 H1 (g b st1) K := by
  cases r with
  | ok d st => exact fun α' H' p k rh => PG'.later h p k
  | err c d st => exact h
  | stuck => exact h
/-- a value's -/
def KQ (M : Mdl) (Q : VK) : D → List Addr → Sto → Hp → Prop := fun d α _ H => ∀ v, RD M α H d v → Q v H
theorem PE'.iff : PE' M E α H r Q ↔ PG' M E α H r (KQ M Q) := by
  cases r with
  | ok d st => exact ⟨fun h α' H' p k rh v rd => h α' v H' p k rh rd, fun h α' v H' p k rh rd => h α' H' p k rh v rd⟩
  | err c d st => exact Iff.rfl
  | stuck => exact Iff.rfl
theorem PE'.mono (h : PE' M E α H r Q) (hq : ∀ v H', Q v H' → Q' v H') : PE' M E α H r Q' := by
  cases r with
  | ok d st => exact fun α' v H' p k r rd => hq _ _ (h α' v H' p k r rd)
  | err c d st => exact h
  | stuck => exact h
/-- from a later place -/
theorem PE'.later (h : PE' M E α H r Q) (p : α <+: α1) (k : Keep H H1) : PE' M E α1 H1 r Q := PE'.iff.mpr ((PE'.iff.mp h).later p k)
/-- an expression, then the rest: what the expression's own reading must yield -/
theorem PE'.step {r : Res D} {g : D → Sto → Res β} {K : β → List Addr → Sto → Hp → Prop} (h : PG' M E α H (r.bind g) K) {R : VK} (hR : ∀ d st1 α1 H1 v, r = .ok d st1 → α <+: α1 → Keep H H1 → RH M α1 st1 H1 → RD M α1 H1 d v → PG' M E α1 H1 (g d st1) K → R v H1) : PE' M E α H r R := by
  cases r with
  | ok d st => exact fun α' v H' p k rh rd => hR d st α' H' v rfl p k rh rd (PG'.later h p k)
  | err c d st => exact h
  | stuck => exact h
theorem TM.of (re : RE M α env σ H) (rh : RH M α st H) {f : Env → Sto → Res D} (h : PE' M E α H (f env st) Q) : TM M E f σ H Q := ⟨α, env, st, re, rh, h⟩
/-- THE STEP: an expression is evaluated, then the rest -/
theorem TM.then {f : Env → Sto → Res D} {g : D → Sto → Res β} {K : β → List Addr → Sto → Hp → Prop} (re : RE M α env σ H) (rh : RH M α st H) (h : PG' M E α H ((f env st).bind g) K) {R : VK}
    (hR : ∀ d st1 α1 H1 v, α <+: α1 → Keep H H1 → RE M α1 env σ H1 → RH M α1 st1 H1 → RD M α1 H1 d v → PG' M E α1 H1 (g d st1) K → R v H1) : TM M E f σ H R :=
  ⟨α, env, st, re, rh, PE'.step h fun d st1 α1 H1 v _ p k rh1 rd hg => hR d st1 α1 H1 v p k (re.keep p k) rh1 rd hg⟩
theorem PG'.opt0 {o : Option β} {K : β → List Addr → Sto → Hp → Prop} (h : PG' M E α H (Res.opt0 o st) K) (rh : RH M α st H) : ∃ b, o = some b ∧ K b α st H := by
  cases o with
  | none => exact False.elim h
  | some b => exact ⟨b, rfl, h α H (List.prefix_refl _) (.refl _) rh⟩
theorem PG'.opt {o : Option (β × Sto)} {K : β → List Addr → Sto → Hp → Prop} (h : PG' M E α H (Res.opt o) K) : ∃ b st1, o = some (b, st1) ∧ ∀ (α' : List Addr) (H' : Hp), α <+: α' → Keep H H' → RH M α' st1 H' → K b α' st1 H' := by
  cases o with
  | none => exact False.elim h
  | some b => exact ⟨b.1, b.2, rfl, h⟩
theorem PG'.here {b : β} {K : β → List Addr → Sto → Hp → Prop} (h : PG' M E α H (.ok b st) K) (rh : RH M α st H) : K b α st H := h α H (List.prefix_refl _) (.refl _) rh
end
theorem _root_.L2.PE.imp {X : Cx} {e : Expr} {t t' : TE} (h : PE X e t) (i : ∀ σ H Q, t' σ H Q → t σ H Q) : PE X e t' := ⟨fun pins s σ H Q I q => h.run pins s σ H Q I (i σ H Q q)⟩
theorem _root_.L2.PT.imp {X : Cx} {e : Expr} {t t' : TT} (h : PT X e t) (i : ∀ σ H Q, t' σ H Q → t σ H Q) : PT X e t' := ⟨fun pins s σ H Q I q => h.run pins s σ H Q I (i σ H Q q)⟩
theorem _root_.L2.PA.imp {X : Cx} {es : List Expr} {t t' : TA} (h : PA X es t) (i : ∀ σ H Q, t' σ H Q → t σ H Q) : PA X es t' := ⟨fun pos pins s σ H Q I q => h.run pos pins s σ H Q I (i σ H Q q)⟩
theorem _root_.L2.PS.imp {X : Cx} {s : Stmt} {t t' : TS} (h : PS X s t) (i : ∀ D σ H, t' D σ H → t D σ H) : PS X s t' := ⟨fun pins s σ H D I q => h.run pins s σ H D I (i D σ H q)⟩
theorem _root_.L2.PSs.imp {X : Cx} {s : List Stmt} {t t' : TS} (h : PSs X s t) (i : ∀ D σ H, t' D σ H → t D σ H) : PSs X s t' := ⟨fun pins s σ H D I q => h.run pins s σ H D I (i D σ H q)⟩
end PyI
end
section
/-! PyI2b: operators, comparisons, subscripts. -/
set_option autoImplicit false
set_option linter.all false
set_option maxRecDepth 100000
set_option maxHeartbeats 4000000
namespace PyI
open PySem PySem.Spec PyProof.Rows L2

theorem lim_eq : LIM = sizeLine := by rw [sizeLine_eq]; rfl
/-- what is wanted of a value that came -/
def Qk (M : Mdl) (α : List Addr) (H : Hp) (d : D) (st : Sto) (Q : VK) : Prop :=
  ∀ (α' : List Addr) (v : V) (H' : Hp), α <+: α' → Keep H H' → RH M α' st H' → RD M α' H' d v → Q v H'
section
variable {M : Mdl} {α : List Addr} {st : Sto} {H : Hp} {Q : VK} {d : D} {v : V} {p a : Addr} {ds : List D} {vs : List V} {n : Nat}
theorem Qk.here (q : Qk M α H d st Q) (rh : RH M α st H) (r : RD M α H d v) : Q v H := q α v H (List.prefix_refl _) (.refl _) rh r
theorem Qk.tup (q : Qk M α H (.tup ds) st Q) (rh : RH M α st H) (hp : H p = none) (r : RDs M α H ds vs) : Q (.ref p) (upd H p (.tup vs)) :=
  q α _ _ (List.prefix_refl _) (.of (same_new hp)) (rh.same (same_new hp)) (.tup (.inl upd_same) (r.keep (List.prefix_refl _) (.of (same_new hp))))
theorem Qk.lst (q : Qk M α H (.ref st.length) (st ++ [.lst true ds]) Q) (rh : RH M α st H) (hp : H p = none) (r : RDs M α H ds vs) : Q (.ref p) (upd H p (.lst vs)) := by
  refine q (α ++ [p]) _ _ (List.prefix_append _ _) (.of (same_new hp)) (rh.new hp ⟨vs, upd_same, r.keep (List.prefix_append _ _) (.of (same_new hp))⟩) (.ref ?_)
  rw [← rh.len, List.getElem?_append_right (Nat.le_refl _), Nat.sub_self]
  rfl
theorem Qk.wr {ds' : List D} {vs' : List V} {c0 : Cell} (q : Qk M α H d (st.set n (.lst true ds')) Q) (rh : RH M α st H) (ha : α[n]? = some a) (e0 : st[n]? = some c0) (hw : c0.wr = true) (r : RDs M α H ds' vs') (rd : RD M α H d v) : Q v (upd H a (.lst vs')) :=
  q α _ _ (List.prefix_refl _) (rh.keepSet ha e0 hw) (rh.set ha e0 hw ⟨vs', upd_same, r.keep (List.prefix_refl _) (rh.keepSet ha e0 hw)⟩) (rd.keep (List.prefix_refl _) (rh.keepSet ha e0 hw))
/-- a cell that is a list -/
theorem RH.lst {w : Bool} (rh : RH M α st H) (ha : α[n]? = some a) (e : st[n]? = some (.lst w ds)) : ∃ vs, SqL M.K H a vs ∧ RDs M α H ds vs ∧ (w = true → H a = some (.lst vs)) := by
  have rc := rh.cell n _ a e ha
  cases w with
  | true =>
    obtain ⟨vs, h, r⟩ := rc
    exact ⟨vs, .of h, r, fun _ => h⟩
  | false =>
    obtain ⟨vs, o, h, r⟩ := rc
    exact ⟨vs, .inl (.inr ⟨o, h⟩), r, fun z => by cases z⟩
/-- a list or a tuple -/
theorem seq_at (rh : RH M α st H) (r : RD M α H d v) (e : seqOf d st = some ds) : ∃ a vs, v = .ref a ∧ (SqL M.K H a vs ∨ SqT M.K H a vs) ∧ RDs M α H ds vs := by
  cases r with
  | @tup ds' a vs ht hs =>
    cases e
    exact ⟨a, vs, rfl, .inr ht.sq, hs⟩
  | @ref n a ha =>
    obtain ⟨c, ec, rc⟩ := rh.has ha
    have e' : (match st[n]? with | some (.lst _ xs) => some xs | _ => none) = some ds := e
    rw [ec] at e'
    cases c with
    | lst w xs =>
      cases e'
      obtain ⟨vs, h1, h2, _⟩ := rh.lst ha ec
      exact ⟨a, vs, rfl, .inl h1, h2⟩
    | dct w xs => cases e'
  | _ => cases e
theorem lst_at (rh : RH M α st H) (r : RD M α H d v) (e : lstOf d st = some ds) : ∃ a vs, v = .ref a ∧ SqL M.K H a vs ∧ RDs M α H ds vs := by
  cases r with
  | @ref n a ha =>
    obtain ⟨c, ec, rc⟩ := rh.has ha
    have e' : (match st[n]? with | some (.lst _ xs) => some xs | _ => none) = some ds := e
    rw [ec] at e'
    cases c with
    | lst w xs =>
      cases e'
      obtain ⟨vs, h1, h2, _⟩ := rh.lst ha ec
      exact ⟨a, vs, rfl, h1, h2⟩
    | dct w xs => cases e'
  | _ => cases e
end
/-- two values in, one out -/
def R2p (M : Mdl) (f : D → D → Sto → Option (D × Sto)) : R2 := fun x y H Q => ∃ (α : List Addr) (st : Sto) (d e d' : D) (st' : Sto), RH M α st H ∧ RD M α H d x ∧ RD M α H e y ∧ f d e st = some (d', st') ∧ Qk M α H d' st' Q
/-- two values in, a bool out -/
def R2b (M : Mdl) (f : D → D → Sto → Option Bool) : R2 := fun x y H Q => ∃ (α : List Addr) (st : Sto) (d e : D) (b : Bool), RH M α st H ∧ RD M α H d x ∧ RD M α H e y ∧ f d e st = some b ∧ Q (.bl b) H
section
variable {M : Mdl} {X : Cx}
theorem intBits_le (i : Int) : Builtin.Int.intBits i ≤ i.natAbs.log2 + 1 := by
  unfold Builtin.Int.intBits
  split <;> omega
theorem op_powW : OpR X (binaryOp .Pow) (rI (fun i j => 0 ≤ j ∧ ((i.natAbs.log2 + 1 : Nat) : Int) * j ≤ 134217728) fun i j => .int (i ^ j.toNat)) := opI fun i j _ _ _ _ _ hc q => by
  refine pow_int hc.1 ?_ q
  have h1 : ((Builtin.Int.intBits i : Nat) : Int) ≤ ((i.natAbs.log2 + 1 : Nat) : Int) := Int.ofNat_le.mpr (intBits_le i)
  exact Int.le_trans (Int.mul_le_mul_of_nonneg_right h1 hc.1) hc.2
theorem dyn_add (hK : X.K = M.K) : OpR X (binaryOp .Add) (R2p M (opB .add)) := by
  intro pins s σ H x y v u Q I rx ry h
  obtain ⟨α, st, d, e, d', st', rh, rd, re, hf, q⟩ := h
  cases rd with
  | int i =>
    cases re with
    | int j =>
      cases hf
      exact op_add pins s σ H _ _ v u Q I rx ry ⟨i, j, rfl, rfl, q.here rh (.int _)⟩
    | _ => cases hf
  | str i =>
    cases re with
    | str j =>
      have hf' : (if i.length + j.length ≤ LIM then some (D.str (i ++ j), st) else none) = some (d', st') := hf
      split at hf'
      · rename_i hl
        cases hf'
        exact op_add_str pins s σ H _ _ v u Q I rx ry ⟨i, j, rfl, rfl, by rw [← lim_eq]; exact hl, q.here rh (.str _)⟩
      · cases hf'
    | _ => cases hf
  | @tup xs a vs ta ra =>
    cases re with
    | @tup ys b ws tb rb =>
      have hf' : (if xs.length + ys.length ≤ LIM then some (D.tup (xs ++ ys), st) else none) = some (d', st') := hf
      split at hf'
      · rename_i hl
        cases hf'
        have h1 := ra.length
        have h2 := rb.length
        refine op_catA pins s σ H _ _ v u Q I rx ry ⟨a, b, vs, ws, rfl, rfl, by rw [hK]; exact ta.sq, by rw [hK]; exact tb.sq, by rw [← lim_eq, ← h1, ← h2]; exact hl, fun z => ?_, fun _ z => ?_, fun _ _ p hp => q.tup rh hp (ra.app rb)⟩
        · subst z
          cases ra
          exact q.here rh (.tup tb rb)
        · subst z
          cases rb
          rw [List.append_nil] at q
          exact q.here rh (.tup ta ra)
      · cases hf'
    | _ => cases hf
  | @ref n a ha =>
    cases re with
    | @ref m b hb =>
      have hf' : (match st[n]?, st[m]? with
        | some (.lst true xs), some (.lst true ys) => if xs.length + ys.length ≤ LIM then some (new (.lst true (xs ++ ys)) st) else none
        | _, _ => none) = some (d', st') := hf
      split at hf'
      · rename_i xs ys e1 e2
        split at hf'
        · rename_i hl
          cases hf'
          obtain ⟨vs, _, r1, k1⟩ := rh.lst ha e1
          obtain ⟨ws, _, r2, k2⟩ := rh.lst hb e2
          exact op_cat pins s σ H _ _ v u Q I rx ry ⟨a, b, vs, ws, rfl, rfl, k1 rfl, k2 rfl, by rw [← lim_eq, ← r1.length, ← r2.length]; exact hl, fun p hp => q.lst rh hp (r1.app r2)⟩
        · cases hf'
      · cases hf'
    | _ => cases hf
  | _ => cases re <;> cases hf
theorem dyn_sub : OpR X (binaryOp .Sub) (R2p M (opB .sub)) := by
  intro pins s σ H x y v u Q I rx ry h
  obtain ⟨α, st, d, e, d', st', rh, rd, re, hf, q⟩ := h
  cases rd with
  | int i =>
    cases re with
    | int j =>
      cases hf
      exact op_sub pins s σ H _ _ v u Q I rx ry ⟨i, j, rfl, rfl, q.here rh (.int _)⟩
    | _ => cases hf
  | _ => cases re <;> cases hf
theorem dyn_mul (hK : X.K = M.K) : OpR X (binaryOp .Mult) (R2p M (opB .mul)) := by
  intro pins s σ H x y v u Q I rx ry h
  obtain ⟨α, st, d, e, d', st', rh, rd, re, hf, q⟩ := h
  cases rd with
  | int i =>
    cases re with
    | int j =>
      have hf' : (if i.natAbs.log2 + j.natAbs.log2 < 1000000 then some (D.int (i * j), st) else none) = some (d', st') := hf
      split at hf'
      · rename_i hl
        cases hf'
        exact op_mulW pins s σ H _ _ v u Q I rx ry ⟨i, j, rfl, rfl, hl, q.here rh (.int _)⟩
      · cases hf'
    | _ => cases hf
  | @tup xs a vs ta ra =>
    cases re with
    | int k =>
      have hf' : (if !xs.isEmpty && decide (2 ≤ k) && decide (k ≤ 1000) && decide (xs.length ≤ 1000) then some (D.tup (List.replicate k.toNat xs).flatten, st) else none) = some (d', st') := hf
      split at hf'
      · rename_i hl
        cases hf'
        simp only [Bool.and_eq_true, decide_eq_true_eq, Bool.not_eq_true', List.isEmpty_eq_false_iff] at hl
        obtain ⟨⟨⟨l1, l2⟩, l3⟩, l4⟩ := hl
        refine op_repT pins s σ H _ _ v u Q I rx ry ⟨a, k, vs, rfl, rfl, by rw [hK]; exact ta.sq, fun z => ?_, l2, l3, by rw [← ra.length]; exact l4, fun p hp => q.tup rh hp (ra.rep _)⟩
        subst z
        cases ra
        exact l1 rfl
      · cases hf'
    | _ => cases hf
  | _ => cases re <;> cases hf
theorem dyn_mod : OpR X (binaryOp .Mod) (R2p M (opB .mod)) := by
  intro pins s σ H x y v u Q I rx ry h
  obtain ⟨α, st, d, e, d', st', rh, rd, re, hf, q⟩ := h
  cases rd with
  | int i =>
    cases re with
    | int j =>
      have hf' : (if 0 < j then some (D.int (i % j), st) else none) = some (d', st') := hf
      split at hf'
      · rename_i hl
        cases hf'
        exact op_mod pins s σ H _ _ v u Q I rx ry ⟨i, j, rfl, rfl, hl, q.here rh (.int _)⟩
      · cases hf'
    | _ => cases hf
  | _ => cases re <;> cases hf
theorem dyn_fdiv : OpR X (binaryOp .FloorDiv) (R2p M (opB .fdiv)) := by
  intro pins s σ H x y v u Q I rx ry h
  obtain ⟨α, st, d, e, d', st', rh, rd, re, hf, q⟩ := h
  cases rd with
  | int i =>
    cases re with
    | int j =>
      have hf' : (if 0 < j ∧ j.natAbs.log2 < 9000 then some (D.int (i / j), st) else none) = some (d', st') := hf
      split at hf'
      · rename_i hl
        cases hf'
        exact op_fdivW pins s σ H _ _ v u Q I rx ry ⟨i, j, rfl, rfl, hl, q.here rh (.int _)⟩
      · cases hf'
    | _ => cases hf
  | _ => cases re <;> cases hf
theorem dyn_pow : OpR X (binaryOp .Pow) (R2p M (opB .pow)) := by
  intro pins s σ H x y v u Q I rx ry h
  obtain ⟨α, st, d, e, d', st', rh, rd, re, hf, q⟩ := h
  cases rd with
  | int i =>
    cases re with
    | int j =>
      have hf' : (if 0 ≤ j ∧ ((i.natAbs.log2 + 1 : Nat) : Int) * j ≤ 134217728 then some (D.int (i ^ j.toNat), st) else none) = some (d', st') := hf
      split at hf'
      · rename_i hl
        cases hf'
        exact op_powW pins s σ H _ _ v u Q I rx ry ⟨i, j, rfl, rfl, hl, q.here rh (.int _)⟩
      · cases hf'
    | _ => cases hf
  | _ => cases re <;> cases hf
theorem dyn_op (hK : X.K = M.K) {op : Operator} {b : BOp} (h : cOp op = some b) : OpR X (binaryOp op) (R2p M (opB b)) := by
  cases op <;> simp only [cOp] at h <;> cases h
  · exact dyn_add hK
  · exact dyn_sub
  · exact dyn_mul hK
  · exact dyn_mod
  · exact dyn_pow
  · exact dyn_fdiv

/-! ### comparisons -/
mutual
theorem deep_dp {α : List Addr} {st : Sto} {H : Hp} (rh : RH M α st H) : ∀ (n : Nat) (d : D) (v : V) (p : PyData), RD M α H d v → deepN n st d = some p → Dp M.K H v p
  | n, .non, _, p, r, e => by
    cases r
    have e' : some PyData.none = some p := by cases n <;> exact e
    cases e'
    exact .non
  | n, .bl b, _, p, r, e => by
    cases r
    have e' : some (PyData.bool b) = some p := by cases n <;> exact e
    cases e'
    exact .bl b
  | n, .int i, _, p, r, e => by
    cases r
    have e' : some (PyData.int i) = some p := by cases n <;> exact e
    cases e'
    exact .int i
  | n, .str x, _, p, r, e => by
    cases r
    have e' : some (PyData.str x) = some p := by cases n <;> exact e
    cases e'
    exact .str x
  | 0, .tup ds, _, _, _, e => by cases e
  | n + 1, .tup ds, _, p, r, e => by
    cases r with
    | tup ht hs =>
      have e' : (ds.mapM (deepN n st)).map PyData.tuple = some p := e
      obtain ⟨ps, e1, e2⟩ := Option.map_eq_some_iff.mp e'
      subst e2
      exact .tup ht.sq (deep_dps rh n ds _ ps hs e1)
  | 0, .ref k, _, _, _, e => by cases e
  | n + 1, .ref k, _, p, r, e => by
    cases r with
    | ref ha =>
      have e' : (match st[k]? with
        | some (.lst _ ds) => (ds.mapM (deepN n st)).map PyData.list
        | _ => none) = some p := e
      split at e'
      · rename_i w ds hc
        obtain ⟨ps, e1, e2⟩ := Option.map_eq_some_iff.mp e'
        subst e2
        obtain ⟨vs, h1, h2, _⟩ := rh.lst ha hc
        exact .lst h1 (deep_dps rh n ds _ ps h2 e1)
      · cases e'
  | n, .exc c d, _, _, _, e => by cases n <;> cases e
  | n, .fn f, _, _, _, e => by cases n <;> cases e
  termination_by n _ _ _ _ _ => (n, 0)
theorem deep_dps {α : List Addr} {st : Sto} {H : Hp} (rh : RH M α st H) : ∀ (n : Nat) (ds : List D) (vs : List V) (ps : List PyData), RDs M α H ds vs → ds.mapM (deepN n st) = some ps → DpAll M.K H vs ps
  | n, [], _, _, r, e => by
    cases r
    cases e
    exact .nil
  | n, d :: ds, _, _, r, e => by
    cases r with
    | cons h1 h2 =>
      rw [List.mapM_cons] at e
      cases e1 : deepN n st d with
      | none =>
        rw [e1] at e
        cases e
      | some p =>
        rw [e1] at e
        cases e2 : ds.mapM (deepN n st) with
        | none =>
          rw [e2] at e
          cases e
        | some ps =>
          rw [e2] at e
          cases e
          exact .cons (deep_dp rh n d _ p h1 e1) (deep_dps rh n ds _ ps h2 e2)
  termination_by n ds _ _ _ _ => (n, ds.length + 1)
end
theorem dyn_eq (hK : X.K = M.K) (hu : X.A.units + 64 < cLine) : OpR X (compareOp .Eq) (R2b M eqD) := by
  intro pins s σ H x y v u Q I rx ry h
  obtain ⟨α, st, d, e, b, rh, rd, re, hf, q⟩ := h
  unfold eqD at hf
  split at hf
  · rename_i p p' h1 h2
    split at hf
    · rename_i hs
      cases hf
      rw [Bool.and_eq_true] at hs
      exact op_eqD hu pins s σ H x y v u Q I rx ry ⟨p, p', by rw [hK]; exact deep_dp rh 66 d x p rd h1, by rw [hK]; exact deep_dp rh 66 e y p' re h2, hs.1, hs.2, q⟩
    · cases hf
  · cases hf
theorem dyn_ne (hK : X.K = M.K) (hu : X.A.units + 64 < cLine) : OpR X (compareOp .NotEq) (R2b M fun d e st => (eqD d e st).map (!·)) := by
  intro pins s σ H x y v u Q I rx ry h
  obtain ⟨α, st, d, e, b, rh, rd, re, hf, q⟩ := h
  obtain ⟨b0, hg, eb⟩ := Option.map_eq_some_iff.mp hf
  subst eb
  clear hf
  have hf : eqD d e st = some b0 := hg
  unfold eqD at hf
  split at hf
  · rename_i p p' h1 h2
    split at hf
    · rename_i hs
      cases hf
      rw [Bool.and_eq_true] at hs
      exact op_neD hu pins s σ H x y v u Q I rx ry ⟨p, p', by rw [hK]; exact deep_dp rh 66 d x p rd h1, by rw [hK]; exact deep_dp rh 66 e y p' re h2, hs.1, hs.2, q⟩
    · cases hf
  · cases hf
theorem dyn_int {op : CmpOp} {f : Int → Int → Bool} (h : OpR X (compareOp op) (rI0 fun i j => .bl (f i j))) : OpR X (compareOp op) (R2b M fun d e _ => intCmp f d e) := by
  intro pins s σ H x y v u Q I rx ry h'
  obtain ⟨α, st, d, e, b, rh, rd, re, hf, q⟩ := h'
  cases rd with
  | int i =>
    cases re with
    | int j =>
      cases hf
      exact h pins s σ H _ _ v u Q I rx ry ⟨i, j, rfl, rfl, q⟩
    | _ => cases hf
  | _ => cases re <;> cases hf
theorem flat_rd {α : List Addr} {H : Hp} {d : D} {v : V} (r : RD M α H d v) (f : flat d = true) : flatV v = true := by
  cases r <;> first | rfl | cases f
theorem flats_rd {α : List Addr} {H : Hp} : ∀ {ds : List D} {vs : List V}, RDs M α H ds vs → ds.all flat = true → vs.all flatV = true
  | [], _, r, _ => by cases r; rfl
  | d :: ds, _, r, f => by
    cases r with
    | cons h1 h2 =>
      rw [List.all_cons, Bool.and_eq_true] at f ⊢
      exact ⟨flat_rd h1 f.1, flats_rd h2 f.2⟩
theorem flatEq_rd {α : List Addr} {H : Hp} {d e : D} {v w : V} (r : RD M α H d v) (r' : RD M α H e w) (f : flat d = true) (f' : flat e = true) : eqV v w = flatEq d e := by
  cases r <;> cases r' <;> first | rfl | cases f | cases f'
theorem flatAny_rd {α : List Addr} {H : Hp} {e : D} {w : V} (r' : RD M α H e w) (f' : flat e = true) : ∀ {ds : List D} {vs : List V}, RDs M α H ds vs → ds.all flat = true → inV w vs = ds.any fun z => flatEq z e
  | [], _, r, _ => by cases r; rfl
  | d :: ds, _, r, f => by
    cases r with
    | @cons _ v _ vs h1 h2 =>
      rw [List.all_cons, Bool.and_eq_true] at f
      show (eqV v w || inV w vs) = (flatEq d e || ds.any fun z => flatEq z e)
      rw [flatEq_rd h1 r' f.1 f', flatAny_rd r' f' h2 f.2]
theorem dyn_in (hK : X.K = M.K) : OpR X (compareOp .In) (R2b M inD) := by
  intro pins s σ H x y v u Q I rx ry h
  obtain ⟨α, st, d, e, b, rh, rd, re, hf, q⟩ := h
  unfold inD at hf
  split at hf
  · rename_i ys hy
    split at hf
    · rename_i hs
      cases hf
      rw [Bool.and_eq_true] at hs
      obtain ⟨a, vs, rfl, hq, rs⟩ := seq_at rh re hy
      refine op_in_seq pins s σ H _ _ v u Q I rx ry ⟨a, vs, rfl, by rw [hK]; exact hq, flat_rd rd hs.1, flats_rd rs hs.2, ?_⟩
      show Q (.bl (inV x vs)) H
      rw [flatAny_rd rd hs.1 rs hs.2]
      exact q
    · cases hf
  · cases hf
theorem dyn_notin (hK : X.K = M.K) : OpR X (compareOp .NotIn) (R2b M fun d e st => (inD d e st).map (!·)) := by
  intro pins s σ H x y v u Q I rx ry h
  obtain ⟨α, st, d, e, b, rh, rd, re, hf, q⟩ := h
  obtain ⟨b0, hg, eb⟩ := Option.map_eq_some_iff.mp hf
  subst eb
  clear hf
  have hf : inD d e st = some b0 := hg
  unfold inD at hf
  split at hf
  · rename_i ys hy
    split at hf
    · rename_i hs
      cases hf
      rw [Bool.and_eq_true] at hs
      obtain ⟨a, vs, rfl, hq, rs⟩ := seq_at rh re hy
      refine op_notIn_seq pins s σ H _ _ v u Q I rx ry ⟨a, vs, rfl, by rw [hK]; exact hq, flat_rd rd hs.1, flats_rd rs hs.2, ?_⟩
      show Q (.bl (!inV x vs)) H
      rw [flatAny_rd rd hs.1 rs hs.2]
      exact q
    · cases hf
  · cases hf
theorem isD_rd {α : List Addr} {H : Hp} {d e : D} {v w : V} {b : Bool} (r : RD M α H d v) (r' : RD M α H e w) (h : isD d e = some b) : w = .non ∧ b = decide (v = .non) := by
  cases r' with
  | non =>
    cases r with
    | non =>
      cases h
      exact ⟨rfl, rfl⟩
    | _ =>
      cases h
      exact ⟨rfl, rfl⟩
  | _ => cases r <;> cases h
theorem dyn_is : OpR X (compareOp .Is) (R2b M fun d e _ => isD d e) := by
  intro pins s σ H x y v u Q I rx ry h
  obtain ⟨α, st, d, e, b, rh, rd, re, hf, q⟩ := h
  obtain ⟨e1, e2⟩ := isD_rd rd re hf
  exact op_isN pins s σ H x y v u Q I rx ry ⟨e1, by rw [← e2]; exact q⟩
theorem dyn_isnot : OpR X (compareOp .IsNot) (R2b M fun d e _ => (isD d e).map (!·)) := by
  intro pins s σ H x y v u Q I rx ry h
  obtain ⟨α, st, d, e, b, rh, rd, re, hf, q⟩ := h
  obtain ⟨b0, hg, eb⟩ := Option.map_eq_some_iff.mp hf
  subst eb
  obtain ⟨e1, e2⟩ := isD_rd rd re hg
  exact op_notN pins s σ H x y v u Q I rx ry ⟨e1, by rw [← e2]; exact q⟩
theorem dyn_cmp (hK : X.K = M.K) (hu : X.A.units + 64 < cLine) (op : CmpOp) : OpR X (compareOp op) (R2b M (cmpB (cCmp op))) := by
  cases op
  · exact dyn_eq hK hu
  · exact dyn_ne hK hu
  · exact dyn_int op_lt
  · exact dyn_int op_le
  · exact dyn_int op_gt
  · exact dyn_int op_ge
  · exact dyn_is
  · exact dyn_isnot
  · exact dyn_in hK
  · exact dyn_notin hK

/-! ### truth, subscripts -/
theorem dyn_tru (hK : X.K = M.K) {α : List Addr} {st : Sto} {H : Hp} {d : D} {v : V} {b : Bool} (rh : RH M α st H) (r : RD M α H d v) (h : truth d st = some b) : TruV X.K v H b := by
  cases r with
  | non =>
    cases h
    rfl
  | bl c =>
    cases h
    rfl
  | int i =>
    cases h
    rfl
  | str x =>
    have h' : (if x.length ≤ LIM then some ((x.length : Int) != 0) else none) = some b := h
    split at h'
    · rename_i hl
      cases h'
      exact ⟨by rw [← lim_eq]; exact hl, rfl⟩
    · cases h'
  | @tup ds a vs ht hs =>
    cases h
    refine .inr (.inl ⟨vs, by rw [hK]; exact ht.sq, ?_⟩)
    cases hs <;> rfl
  | @ref n a ha =>
    have h' : (match st[n]? with
      | some (.lst _ xs) => some (!xs.isEmpty)
      | some (.dct true kvs) => some (!kvs.isEmpty)
      | _ => none) = some b := h
    split at h'
    · rename_i w xs e
      cases h'
      obtain ⟨vs, h1, h2, _⟩ := rh.lst ha e
      refine .inl ⟨vs, by rw [hK]; exact h1, ?_⟩
      cases h2 <;> rfl
    · rename_i kvs e
      cases h'
      obtain ⟨vs, h1, h2⟩ := rh.cell n _ a e ha
      refine .inr (.inr ⟨vs, h1, ?_⟩)
      cases h2 <;> rfl
    · cases h'
  | _ => cases h
theorem atD_at {α : List Addr} {H : Hp} {ds : List D} {vs : List V} {i : Int} {d : D} (r : RDs M α H ds vs) (h : atD ds i = some d) : ∃ v, atI vs i = some v ∧ RD M α H d v := by
  have hl := r.length
  unfold atD at h
  unfold atI ixN
  split at h
  · rename_i h0
    obtain ⟨v, e1, e2⟩ := r.get h
    have l : i < vs.length := by
      have := (List.getElem?_eq_some_iff.mp e1).1
      omega
    rw [if_pos h0, if_pos l]
    exact ⟨v, e1, e2⟩
  · rename_i h0
    split at h
    · rename_i h1
      obtain ⟨v, e1, e2⟩ := r.get h
      rw [if_neg h0, if_pos (by omega)]
      rw [hl] at e1
      exact ⟨v, e1, e2⟩
    · cases h
theorem atD_cps {α : Type} {xs : List α} {i : Int} {d : α} (h : atD xs i = some d) : atI xs i = some d := by
  unfold atD at h
  unfold atI ixN
  split at h
  · rename_i h0
    have l : i < xs.length := by
      have := (List.getElem?_eq_some_iff.mp h).1
      omega
    rw [if_pos h0, if_pos l]
    exact h
  · rename_i h0
    split at h
    · rename_i h1
      rw [if_neg h0, if_pos (by omega)]
      exact h
    · cases h
/-- a place in, a value out that stands -/
def R2v (M : Mdl) (f : D → D → Sto → Option D) : R2 := fun x y H Q => ∃ (α : List Addr) (st : Sto) (d e d' : D), RH M α st H ∧ RD M α H d x ∧ RD M α H e y ∧ f d e st = some d' ∧ ∀ v, RD M α H d' v → Q v H
theorem dyn_ix (hK : X.K = M.K) : IxR X (R2v M ixB) := by
  intro ve se pins s σ H x y v u Q I rx ry h hs0
  obtain ⟨α, st, d, e, d', rh, rd, re, hf, q⟩ := h
  cases re with
  | int i =>
    cases rd with
    | @tup ds a vs ht hs =>
      obtain ⟨w, e1, e2⟩ := atD_at hs (show atD ds i = some d' from hf)
      exact ix_seq ve se pins s σ H _ _ v u Q I rx ry (.inr (.inl ⟨a, vs, i, w, rfl, rfl, by rw [hK]; exact ht.sq, e1, q w e2⟩)) hs0
    | @ref n a ha =>
      have hf' : (match st[n]? with
        | some (.lst _ xs) => atD xs i
        | _ => none) = some d' := hf
      split at hf'
      · rename_i wr xs ec
        obtain ⟨vs, h1, h2, _⟩ := rh.lst ha ec
        obtain ⟨w, e1, e2⟩ := atD_at h2 hf'
        exact ix_seq ve se pins s σ H _ _ v u Q I rx ry (.inl ⟨a, vs, i, w, rfl, rfl, by rw [hK]; exact h1, e1, q w e2⟩) hs0
      · cases hf'
    | str z =>
      have hf' : (if z.length ≤ LIM then (atD z.cps.toList i).map fun c => D.str ⟨#[c]⟩ else none) = some d' := hf
      split at hf'
      · rename_i hl
        obtain ⟨c, e1, e2⟩ := Option.map_eq_some_iff.mp hf'
        subst e2
        exact ix_seq ve se pins s σ H _ _ v u Q I rx ry (.inr (.inr ⟨z, i, c, rfl, rfl, by rw [← lim_eq]; exact hl, atD_cps e1, q _ (.str _)⟩)) hs0
      · cases hf'
    | _ => cases hf
  | _ => cases rd <;> cases hf
end
end PyI
end
section
/-! PyI2c: built-ins called. -/
set_option autoImplicit false
set_option linter.all false
set_option maxRecDepth 100000
set_option maxHeartbeats 4000000
namespace PyI
open PySem PySem.Spec PyProof.Rows L2

/-! ### sorted, over a list or a tuple of data -/
section
variable {prog : Program} {w : World} {A : Around} {E : Value → Shared → Prop} {s : Shared}
theorem sorted_seq {l : Addr} {T : String} {o : Obj} {its : List Value} {n : Nat} {bs : List (V × PyData)} {Q : Value → Shared → Prop} (hT : T = "list" ∨ T = "tuple")
    (ho : s.heap.get? l = some o) (hc : o.cls = .type T) (hd : o.data = .seq its.toArray n)
    (e : PySem.W.EachIs (fun u (b : V × PyData) => RelV b.1 u) its bs) (er : PySem.W.EachIs (fun u (b : V × PyData) => ∃ as, Reads s.heap u b.2 as) its bs)
    (hal : PySem.W.AllAlike (bs.map Prod.snd)) (hk : PySem.W.Sortable (bs.map Prod.snd)) (hL : its.length ≤ sizeLine) (hu : ∀ b ∈ bs, A.units + 2 + b.2.depth < cLine)
    (h : ∀ (h' : Heap) (a : Addr) (out : List Value) (n' : Nat), (∀ b x, s.heap.get? b = some x → h'.get? b = some x) → s.heap.get? a = none → h'.get? a = some { cls := .type "list", data := .seq out.toArray n' } →
      PySem.W.EachIs (fun u (b : V × PyData) => RelV b.1 u) out (bs.mergeSort (PySem.W.dataLe false Prod.snd)) → Q (.ref a) { s with heap := h' }) :
    wpAny (model prog w) A (call (.builtin "sorted") [.ref l]) Q E s := by
  refine call_function_entry_kw kind_sorted plain_sorted entry_sorted (args_sorted1 _) ?_
  unfold Builtin.«sorted»
  refine wpAny_bind (m := checkCount "sorted" 1 1 _) (wpAny_pure ?_)
  refine wpAny_bind (wpAny_collect_seq l hT ho hc hd (fun h1 k1 => ?_) (by rw [List.size_toArray]; exact hL))
  rw [show its.toArray.toList = its by simp]
  refine wpAny_bind (wpAny_newList ?_ hL)
  have at1 : (h1.push (seqObj "list" its.toArray 0)).get? h1.objs.size = some (seqObj "list" its.toArray 0) := Heap.get?_push_size _ rfl
  have k2 : ∀ b x, s.heap.get? b = some x → (h1.push (seqObj "list" its.toArray 0)).get? b = some x := fun b x q => Heap.get?_push_of_some _ (k1 b x q)
  have k3 : ∀ b x, s.heap.get? b = some x → (PySem.W.sortingHeap (h1.push (seqObj "list" its.toArray 0)) h1.objs.size its).get? b = some x := fun b x q =>
    PySem.W.sortingHeap_old (Nat.ne_of_lt (Heap.lt_size (k1 b x q))) (k2 b x q)
  have er' : PySem.W.EachIs (fun v (b : V × PyData) => ∃ as, Reads (PySem.W.sortingHeap (h1.push (seqObj "list" its.toArray 0)) h1.objs.size its) v b.2 as) its bs := er.mono fun _ _ ⟨as, r⟩ => ⟨as, PyProof.Rows.Reads.keeps k3 r⟩
  have S : PySem.W.SortsAt prog w A.in1.in1 { s with heap := PySem.W.sortingHeap (h1.push (seqObj "list" its.toArray 0)) h1.objs.size its } (PySem.W.dataKind (PySem.W.sortingHeap (h1.push (seqObj "list" its.toArray 0)) h1.objs.size its) (bs.map Prod.snd)) its :=
    PySem.W.SortsAt.data (s := { s with heap := PySem.W.sortingHeap (h1.push (seqObj "list" its.toArray 0)) h1.objs.size its }) (PySem.W.each_map (R := fun v d => ∃ as, Reads (PySem.W.sortingHeap (h1.push (seqObj "list" its.toArray 0)) h1.objs.size its) v d as) Prod.snd er') hal hk
      fun d hd => by
        obtain ⟨b, hb, rfl⟩ := List.mem_map.mp hd
        exact hu b hb
  show wpAny _ _ _ _ _ { s with heap := h1.push (seqObj "list" its.toArray 0) }
  refine wpAny_bind (wpAny_holding (wpAny_call_entry_kw slot_list_sort ⟨_, at1, rfl⟩ entry_list_sort ?body (args_list_sort _)))
  case body =>
    refine PySem.W.list_sort_vals (s := { s with heap := h1.push (seqObj "list" its.toArray 0) }) at1 S hL ⟨_, rfl, wpAny_pure ⟨_, rfl, ?_⟩⟩
    obtain ⟨n', e'⟩ := PyProof.Rows.sortedHeap_at (vs := its) (out := (PySem.W.sortVals (PySem.W.dataKind (PySem.W.sortingHeap (h1.push (seqObj "list" its.toArray 0)) h1.objs.size its) (bs.map Prod.snd)) false its its).toArray) at1
    refine h _ h1.objs.size _ n' (fun b x q => ?_) ?_ e' (PySem.W.sortVals_data false e er' hal)
    · rw [PyProof.Rows.sortedHeap_old (Nat.ne_of_lt (Heap.lt_size (k1 b x q))) (Heap.lt_size (k2 b x q))]
      exact k2 b x q
    · cases q : s.heap.get? h1.objs.size with
      | none => rfl
      | some x => exact absurd (Heap.lt_size (k1 _ x q)) (Nat.lt_irrefl _)
end
theorem obj_in {P : Program} {w : World} {H : Hp} {h : Heap} {a : Addr} {o : HO} (x : ObjOk P w H h a o) : ∃ ob, h.get? a = some ob := by
  cases o with
  | lst xs => obtain ⟨_, _, _, _, e⟩ := x; exact ⟨_, e⟩
  | tup xs => obtain ⟨_, _, _, ob, e, _⟩ := x; exact ⟨_, e⟩
  | dK kvs => obtain ⟨_, _, _, _, ob, _, _, e, _⟩ := x; exact ⟨_, e⟩
  | dT kvs => obtain ⟨_, _, _, _, ob, _, _, e, _⟩ := x; exact ⟨_, e⟩
  | set S n => obtain ⟨ob, _, _, _, e, _⟩ := x; exact ⟨_, e⟩
  | ins C dx fs => obtain ⟨_, _, _, e, _⟩ := x; exact ⟨_, e⟩
  | own y => exact x
  | xd fs => obtain ⟨_, ⟨ob, _, _, e, _⟩, _⟩ := x; exact ⟨_, e⟩
  | rng lo hi => obtain ⟨_, _, _, e⟩ := x; exact ⟨_, e⟩
  | frz ob u => exact ⟨_, x.1⟩
  | tbl ps => exact ⟨_, show h.get? a = some _ from x⟩
  | met f y => exact ⟨_, show h.get? a = some _ from x⟩
  | ext φ => exact x.2.1
theorem hp_none {X : Cx} {pins : List (Addr × Obj)} {σ : L2.St} {H : Hp} {s : Shared} (I : Inv X pins σ H s) {a : Addr} (h : s.heap.get? a = none) : H a = none := by
  cases q : H a with
  | none => rfl
  | some o =>
    obtain ⟨ob, e⟩ := obj_in (I.hok a o q)
    rw [h] at e
    cases e

/-! ### the reading of a built-in by what the interpreter does -/
def RCp (M : Mdl) (f : List D → Sto → Option (D × Sto)) : List V → Hp → VK → Prop := fun vs H Q => ∃ (α : List Addr) (st : Sto) (ds : List D) (d' : D) (st' : Sto), RH M α st H ∧ RDs M α H ds vs ∧ f ds st = some (d', st') ∧ Qk M α H d' st' Q
section
variable {M : Mdl} {X : Cx} {α : List Addr} {H : Hp}
theorem RDs.one {d : D} {vs : List V} (h : RDs M α H [d] vs) : ∃ v, vs = [v] ∧ RD M α H d v := by
  cases h with
  | cons h1 h2 =>
    cases h2
    exact ⟨_, rfl, h1⟩
theorem RDs.two {d e : D} {vs : List V} (h : RDs M α H [d, e] vs) : ∃ v w, vs = [v, w] ∧ RD M α H d v ∧ RD M α H e w := by
  cases h with
  | cons h1 h2 =>
    obtain ⟨w, rfl, r⟩ := h2.one
    exact ⟨_, w, rfl, h1, r⟩
theorem bls_rd : ∀ {ds : List D} {vs : List V} {bs : List Bool}, RDs M α H ds vs → bls ds = some bs → vs = bs.map V.bl
  | [], _, _, r, e => by
    cases r
    cases e
    rfl
  | d :: ds, _, bs, r, e => by
    cases r with
    | cons h1 h2 =>
      cases h1 with
      | bl b =>
        obtain ⟨cs, e1, e2⟩ := Option.map_eq_some_iff.mp (show (bls ds).map (b :: ·) = some bs from e)
        subst e2
        rw [List.map_cons, bls_rd h2 e1]
      | _ => cases e
theorem ints_rd : ∀ {ds : List D} {vs : List V} {bs : List Int}, RDs M α H ds vs → intsD ds = some bs → vs = bs.map V.int
  | [], _, _, r, e => by
    cases r
    cases e
    rfl
  | d :: ds, _, bs, r, e => by
    cases r with
    | cons h1 h2 =>
      cases h1 with
      | int b =>
        obtain ⟨cs, e1, e2⟩ := Option.map_eq_some_iff.mp (show (intsD ds).map (b :: ·) = some bs from e)
        subst e2
        rw [List.map_cons, ints_rd h2 e1]
      | _ => cases e
theorem rd_ints : ∀ ns : List Int, RDs M α H (ns.map D.int) (ns.map V.int)
  | [] => .nil
  | n :: ns => .cons (.int n) (rd_ints ns)
theorem ints_d : ∀ {ds : List D} {ns : List Int}, intsD ds = some ns → ds = ns.map D.int
  | [], _, e => by
    cases e
    rfl
  | d :: ds, bs, e => by
    cases d with
    | int b =>
      obtain ⟨cs, e1, e2⟩ := Option.map_eq_some_iff.mp (show (intsD ds).map (b :: ·) = some bs from e)
      subst e2
      rw [List.map_cons, ints_d e1]
    | _ => cases e
theorem prs_d : ∀ {ds : List D} {ns : List (Int × Int)}, prs ds = some ns → ds = ns.map prD
  | [], _, e => by
    cases e
    rfl
  | d :: ds, bs, e => by
    match d, e with
    | .tup [.int a, .int b], e =>
      obtain ⟨cs, e1, e2⟩ := Option.map_eq_some_iff.mp (show (prs ds).map ((a, b) :: ·) = some bs from e)
      subst e2
      rw [List.map_cons, prs_d e1]
      rfl
theorem dyn_len (hK : X.K = M.K) : CallR X (.builtin "len") (RCp M (evB .len)) := by
  intro pins s σ H xs us Q I r h
  obtain ⟨α, st, ds, d', st', rh, rds, hf, q⟩ := h
  match ds, rds, hf with
  | [x], rds, hf =>
    obtain ⟨v, rfl, rd⟩ := rds.one
    have fin : ∀ {ys : List D}, seqOf x st = some ys → d' = .int ys.length → st' = st → wpAny (model X.prog X.w) X.A (call (.builtin "len") us) (EP X pins σ Q) X.xe s := fun {ys} e1 e2 e3 => by
      subst e2 e3
      obtain ⟨a, vs, rfl, hs, rs⟩ := seq_at rh rd e1
      refine call_len_seq pins s σ H _ us Q I r ⟨a, vs, rfl, by rw [hK]; exact hs, ?_⟩
      rw [← rs.length]
      exact q.here rh (.int _)
    by_cases hs : ∃ z, x = .str z
    · obtain ⟨z, rfl⟩ := hs
      obtain rfl : v = .str z := by cases rd; rfl
      have hf' : (if z.length ≤ LIM then some (D.int z.length, st) else none) = some (d', st') := hf
      split at hf'
      · rename_i hl
        cases hf'
        exact call_len_str pins s σ H _ us Q I r ⟨z, rfl, by rw [← lim_eq]; exact hl, q.here rh (.int _)⟩
      · cases hf'
    · have hf' : (seqOf x st).map (fun xs => (D.int xs.length, st)) = some (d', st') := by
        cases x with
        | str z => exact absurd ⟨z, rfl⟩ hs
        | _ => exact hf
      obtain ⟨ys, e1, e2⟩ := Option.map_eq_some_iff.mp hf'
      cases e2
      exact fin e1 rfl rfl
theorem dyn_all (hK : X.K = M.K) (hc : X.calm = true) : CallR X (.builtin "all") (RCp M (evB .all)) := by
  intro pins s σ H xs us Q I r h
  obtain ⟨α, st, ds, d', st', rh, rds, hf, q⟩ := h
  match ds, rds, hf with
  | [x], rds, hf =>
    obtain ⟨v, rfl, rd⟩ := rds.one
    have hf' : (match (lstOf x st).bind bls with
      | some bs => some (D.bl (bs.all id), st)
      | none => none) = some (d', st') := hf
    split at hf'
    · rename_i bs hb
      cases hf'
      obtain ⟨ys, e1, e2⟩ := Option.bind_eq_some_iff.mp hb
      obtain ⟨a, vs, rfl, hs, rs⟩ := lst_at rh rd e1
      rw [bls_rd rs e2] at hs
      exact cr_all hc pins s σ H _ us Q I r ⟨a, bs, rfl, by rw [hK]; exact hs, q.here rh (.bl _)⟩
    · cases hf'
theorem dyn_any (hK : X.K = M.K) (hc : X.calm = true) : CallR X (.builtin "any") (RCp M (evB .any)) := by
  intro pins s σ H xs us Q I r h
  obtain ⟨α, st, ds, d', st', rh, rds, hf, q⟩ := h
  match ds, rds, hf with
  | [x], rds, hf =>
    obtain ⟨v, rfl, rd⟩ := rds.one
    have hf' : (match (lstOf x st).bind bls with
      | some bs => some (D.bl (bs.any id), st)
      | none => none) = some (d', st') := hf
    split at hf'
    · rename_i bs hb
      cases hf'
      obtain ⟨ys, e1, e2⟩ := Option.bind_eq_some_iff.mp hb
      obtain ⟨a, vs, rfl, hs, rs⟩ := lst_at rh rd e1
      rw [bls_rd rs e2] at hs
      exact cr_any hc pins s σ H _ us Q I r ⟨a, bs, rfl, by rw [hK]; exact hs, q.here rh (.bl _)⟩
    · cases hf'
theorem dyn_sum (hK : X.K = M.K) (hc : X.calm = true) : CallR X (.builtin "sum") (RCp M (evB .sum)) := by
  intro pins s σ H xs us Q I r h
  obtain ⟨α, st, ds, d', st', rh, rds, hf, q⟩ := h
  match ds, rds, hf with
  | [x], rds, hf =>
    obtain ⟨v, rfl, rd⟩ := rds.one
    have hf' : (match (lstOf x st).bind intsD with
      | some ns => some (D.int ns.sum, st)
      | none => none) = some (d', st') := hf
    split at hf'
    · rename_i bs hb
      cases hf'
      obtain ⟨ys, e1, e2⟩ := Option.bind_eq_some_iff.mp hb
      obtain ⟨a, vs, rfl, hs, rs⟩ := lst_at rh rd e1
      rw [ints_rd rs e2] at hs
      exact cr_sum hc pins s σ H _ us Q I r ⟨a, bs, rfl, by rw [hK]; exact hs, q.here rh (.int _)⟩
    · cases hf'
theorem dyn_tuple (hK : X.K = M.K) : CallR X (.type "tuple") (RCp M (evB .tuple)) := by
  intro pins s σ H xs us Q I r h
  obtain ⟨α, st, ds, d', st', rh, rds, hf, q⟩ := h
  match ds, rds, hf with
  | [x], rds, hf =>
    obtain ⟨v, rfl, rd⟩ := rds.one
    obtain ⟨ys, e1, e2⟩ := Option.map_eq_some_iff.mp (show (seqOf x st).map (fun xs => (D.tup xs, st)) = some (d', st') from hf)
    cases e2
    cases rd with
    | @tup ds' a vs ht hs =>
      cases e1
      exact call_tuple_of pins s σ H _ us Q I r ⟨a, vs, rfl, .inr ⟨by rw [hK]; exact ht.sq, q.here rh (.tup ht hs)⟩⟩
    | @ref n a ha =>
      obtain ⟨a', vs, ea, hs, rs⟩ := lst_at rh (.ref ha) e1
      cases ea
      exact call_tuple_of pins s σ H _ us Q I r ⟨a, vs, rfl, .inl ⟨by rw [hK]; exact hs, fun p hp => q.tup rh hp rs⟩⟩
    | _ => cases e1
theorem dyn_list (hK : X.K = M.K) : CallR X (.type "list") (RCp M (evB .list)) := by
  intro pins s σ H xs us Q I r h
  obtain ⟨α, st, ds, d', st', rh, rds, hf, q⟩ := h
  match ds, rds, hf with
  | [x], rds, hf =>
    obtain ⟨v, rfl, rd⟩ := rds.one
    obtain ⟨ys, e1, e2⟩ := Option.map_eq_some_iff.mp (show (seqOf x st).map (fun xs => new (.lst true xs) st) = some (d', st') from hf)
    cases e2
    obtain ⟨a, vs, rfl, hs, rs⟩ := seq_at rh rd e1
    exact call_list_of pins s σ H _ us Q I r ⟨a, vs, rfl, by rw [hK]; exact hs, fun p hp => q.lst rh hp rs⟩
theorem dyn_int1 : CallR X (.type "int") (RCp M (evB .int)) := by
  intro pins s σ H xs us Q I r h
  obtain ⟨α, st, ds, d', st', rh, rds, hf, q⟩ := h
  match ds, rds, hf with
  | [.int i], rds, hf =>
    obtain ⟨v, rfl, rd⟩ := rds.one
    cases rd
    cases hf
    exact call_int1 pins s σ H _ us Q I r (.inl ⟨i, rfl, q.here rh (.int _)⟩)
  | [.bl b], rds, hf =>
    obtain ⟨v, rfl, rd⟩ := rds.one
    cases rd
    cases hf
    exact call_int1 pins s σ H _ us Q I r (.inr ⟨b, rfl, q.here rh (.int _)⟩)
theorem dyn_str1 : CallR X (.type "str") (RCp M (evB .str)) := by
  intro pins s σ H xs us Q I r h
  obtain ⟨α, st, ds, d', st', rh, rds, hf, q⟩ := h
  match ds, rds, hf with
  | [.int i], rds, hf =>
    obtain ⟨v, rfl, rd⟩ := rds.one
    cases rd
    have hf' : (if i.natAbs.log2 < 1920 then some (D.str (toString i), st) else none) = some (d', st') := hf
    split at hf'
    · rename_i hl
      cases hf'
      exact call_str_int pins s σ H _ us Q I r ⟨i, rfl, hl, q.here rh (.str _)⟩
    · cases hf'
theorem dyn_abs : CallR X (.builtin "abs") (RCp M (evB .abs)) := by
  intro pins s σ H xs us Q I r h
  obtain ⟨α, st, ds, d', st', rh, rds, hf, q⟩ := h
  match ds, rds, hf with
  | [.int i], rds, hf =>
    obtain ⟨v, rfl, rd⟩ := rds.one
    cases rd
    cases hf
    exact call_abs pins s σ H _ us Q I r ⟨i, rfl, q.here rh (.int _)⟩
theorem dyn_max (hc : X.calm = true) : CallR X (.builtin "max") (RCp M (evB .max)) := by
  intro pins s σ H xs us Q I r h
  obtain ⟨α, st, ds, d', st', rh, rds, hf, q⟩ := h
  match ds, rds, hf with
  | [.int i, .int j], rds, hf =>
    obtain ⟨v, w, rfl, rd, rd'⟩ := rds.two
    cases rd
    cases rd'
    cases hf
    exact call_max2 hc pins s σ H _ us Q I r ⟨i, j, rfl, q.here rh (.int _)⟩
theorem dyn_min (hc : X.calm = true) : CallR X (.builtin "min") (RCp M (evB .min)) := by
  intro pins s σ H xs us Q I r h
  obtain ⟨α, st, ds, d', st', rh, rds, hf, q⟩ := h
  match ds, rds, hf with
  | [.int i, .int j], rds, hf =>
    obtain ⟨v, w, rfl, rd, rd'⟩ := rds.two
    cases rd
    cases rd'
    cases hf
    exact call_min2 hc pins s σ H _ us Q I r ⟨i, j, rfl, q.here rh (.int _)⟩

/-! ### sorted -/
/-- items of keys ks: they stand as dec says, and are data as enc says -/
theorem sort_rd {γ : Type} (dec : γ → D) (enc : γ → PyData) (le : γ → γ → Bool) (hle : ∀ a b, le a b = PySem.W.dataLe false (fun p : PyData => p) (enc a) (enc b)) {ks : List γ} {vs : List V} (rs : RDs M α H (ks.map dec) vs) :
    RDs M α H ((ks.mergeSort le).map dec) (((vs.zip (ks.map enc)).mergeSort (PySem.W.dataLe false Prod.snd)).map Prod.fst) := by
  have hl : ks.length = vs.length := by
    have := rs.length
    rw [List.length_map] at this
    exact this
  have e1 : vs.zip (ks.map enc) = (ks.zip vs).map fun z => (z.2, enc z.1) := by
    clear rs
    induction ks generalizing vs with
    | nil =>
      cases vs with
      | nil => rfl
      | cons v vs => cases hl
    | cons k ks ih =>
      cases vs with
      | nil => cases hl
      | cons v vs =>
        simp only [List.map_cons, List.zip_cons_cons]
        rw [ih (by simpa using hl)]
  have e2 : ks = (ks.zip vs).map Prod.fst := by
    rw [List.map_fst_zip]
    omega
  have s1 : ((ks.zip vs).map fun z => (z.2, enc z.1)).mergeSort (PySem.W.dataLe false Prod.snd) = ((ks.zip vs).mergeSort fun a b => le a.1 b.1).map fun z => (z.2, enc z.1) :=
    (List.map_mergeSort fun a _ b _ => hle a.1 b.1).symm
  have s2 : ks.mergeSort le = ((ks.zip vs).mergeSort fun a b => le a.1 b.1).map Prod.fst := by
    conv => lhs; rw [e2]
    exact (List.map_mergeSort (f := Prod.fst) (r := fun a b => le a.1 b.1) (s := le) (l := ks.zip vs) fun a _ b _ => rfl).symm
  rw [e1, s1, s2, List.map_map, List.map_map]
  have hm : ∀ z ∈ (ks.zip vs).mergeSort (fun a b => le a.1 b.1), RD M α H (dec z.1) z.2 := fun z hz => by
    have hz' : z ∈ ks.zip vs := (List.mergeSort_perm _ _).mem_iff.mp hz
    obtain ⟨i, hi, e⟩ := List.mem_iff_getElem.mp hz'
    rw [List.length_zip] at hi
    have hz1 : z = (ks[i]'(by omega), vs[i]'(by omega)) := by rw [← e, List.getElem_zip]
    obtain ⟨v, q1, q2⟩ := rs.get (i := i) (d := dec (ks[i]'(by omega))) (by rw [List.getElem?_map, List.getElem?_eq_getElem (by omega)]; rfl)
    rw [List.getElem?_eq_getElem (by omega)] at q1
    cases q1
    rw [hz1]
    exact q2
  clear s1 s2
  revert hm
  generalize (ks.zip vs).mergeSort (fun a b => le a.1 b.1) = zs
  intro hm
  induction zs with
  | nil => exact .nil
  | cons z zs ih => exact .cons (hm z List.mem_cons_self) (ih fun y hy => hm y (List.mem_cons_of_mem _ hy))
/-- sorted(xs) of data -/
def rSortD (M : Mdl) : List V → Hp → VK → Prop := fun xs H Q => ∃ (a : Addr) (vs : List V) (ps : List PyData), xs = [.ref a] ∧ (SqL M.K H a vs ∨ SqT M.K H a vs) ∧ DpAll M.K H vs ps ∧ PySem.W.AllAlike ps ∧ PySem.W.Sortable ps ∧ (∀ p ∈ ps, p.depth ≤ 60) ∧
  ∀ l, H l = none → Q (.ref l) (upd H l (.lst (((vs.zip ps).mergeSort (PySem.W.dataLe false Prod.snd)).map Prod.fst)))
theorem dp_len {K : PySem.W.Frag} : ∀ {vs : List V} {ps : List PyData}, DpAll K H vs ps → vs.length = ps.length
  | _, [], h => by
    cases h
    rfl
  | _, p :: ps, h => by
    cases h with
    | cons h1 h2 => rw [List.length_cons, List.length_cons, dp_len h2]
theorem each_vals {out : List Value} : ∀ {bs : List (V × PyData)}, PySem.W.EachIs (fun u (b : V × PyData) => RelV b.1 u) out bs → Vals (bs.map Prod.fst) out := by
  intro bs e
  induction e with
  | nil => exact .nil
  | cons h1 _ ih => exact .cons h1 ih
theorem dp_each {pins : List (Addr × Obj)} {σ : L2.St} {s : Shared} (I : Inv X pins σ H s) : ∀ (ps : List PyData) (vs : List V) (its : List Value), DpAll X.K H vs ps → Vals vs its →
    PySem.W.EachIs (fun u (b : V × PyData) => RelV b.1 u) its (vs.zip ps) ∧ PySem.W.EachIs (fun u (b : V × PyData) => ∃ as, Reads s.heap u b.2 as) its (vs.zip ps)
  | [], _, _, h, rv => by
    cases h
    cases rv
    exact ⟨.nil, .nil⟩
  | p :: ps, _, _, h, rv => by
    cases h with
    | cons h1 h2 =>
      cases rv with
      | cons r1 r2 =>
        obtain ⟨i1, i2⟩ := dp_each I ps _ _ h2 r2
        obtain ⟨as, rr⟩ := Dp.reads I p _ _ h1 r1
        exact ⟨.cons r1 i1, .cons ⟨as, rr⟩ i2⟩
theorem cr_sortD (hK : X.K = M.K) (hu : X.A.units + 64 < cLine) : CallR X (.builtin "sorted") (rSortD M) := by
  intro pins s σ H xs us Q I r h
  obtain ⟨a, vs, ps, rfl, hs, hd, hal, hk, hdp, q⟩ := h
  rw [Vals.ref1 r]
  rw [← hK] at hs hd
  have hlen : vs.length = ps.length := dp_len hd
  obtain ⟨T, o, its, n, hT, ho, hc, hdat, rv, hz⟩ : ∃ (T : String) (o : Obj) (its : List Value) (n : Nat), (T = "list" ∨ T = "tuple") ∧ s.heap.get? a = some o ∧ o.cls = .type T ∧ o.data = .seq its.toArray n ∧ Vals vs its ∧ vs.length ≤ sizeLine := by
    rcases hs with hs | hs
    · obtain ⟨its, rv, ⟨o, n, h1, h2, _, h4⟩, hz⟩ := I.list hs
      exact ⟨_, o, its, n, .inl rfl, h1, h2, h4, rv, hz⟩
    · obtain ⟨its, rv, ⟨o, h1, h2, n, h4⟩, hz⟩ := I.tuple hs
      exact ⟨_, o, its, n, .inr rfl, h1, h2, h4, rv, hz⟩
  have e2 : (vs.zip ps).map Prod.snd = ps := by rw [List.map_snd_zip]; omega
  have each : PySem.W.EachIs (fun u (b : V × PyData) => RelV b.1 u) its (vs.zip ps) ∧ PySem.W.EachIs (fun u (b : V × PyData) => ∃ as, Reads s.heap u b.2 as) its (vs.zip ps) := by
    exact dp_each I ps vs its hd rv
  refine sorted_seq hT ho hc hdat each.1 each.2 (by rw [e2]; exact hal) (by rw [e2]; exact hk) (by rw [← rv.length]; exact hz) (fun b hb => ?_) fun h' d out n' k hn hat eo => ?_
  · have := hdp b.2 (by rw [← e2]; exact List.mem_map.mpr ⟨b, hb, rfl⟩)
    omega
  · have hH := hp_none I hn
    have ro : Vals (((vs.zip ps).mergeSort (PySem.W.dataLe false Prod.snd)).map Prod.fst) out := each_vals eo
    refine ⟨.ref d, upd H d (.lst (((vs.zip ps).mergeSort (PySem.W.dataLe false Prod.snd)).map Prod.fst)), I.laidN (t' := s.toks) k hn hH ⟨?_, out, n', ro, hat⟩, rfl, q d hH⟩
    rw [List.length_map, List.length_mergeSort, List.length_zip]
    omega
theorem dp_ints : ∀ ns : List Int, DpAll M.K H (ns.map V.int) (ns.map PyData.int)
  | [] => .nil
  | n :: ns => .cons (.int n) (dp_ints ns)
def prP (p : Int × Int) : PyData := .tuple [.int p.1, .int p.2]
theorem dp_prs : ∀ {ns : List (Int × Int)} {vs : List V}, RDs M α H (ns.map prD) vs → DpAll M.K H vs (ns.map prP)
  | [], _, r => by
    cases r
    exact .nil
  | n :: ns, _, r => by
    cases r with
    | cons h1 h2 =>
      refine .cons ?_ (dp_prs h2)
      cases h1 with
      | tup ht hs =>
        obtain ⟨x, y, rfl, r1, r2⟩ := hs.two
        cases r1
        cases r2
        exact .tup ht.sq (.cons (.int _) (.cons (.int _) .nil))
theorem dyn_sorted (hK : X.K = M.K) (hu : X.A.units + 64 < cLine) : CallR X (.builtin "sorted") (RCp M (evB .sorted)) := by
  intro pins s σ H xs us Q I r h
  obtain ⟨α, st, ds, d', st', rh, rds, hf, q⟩ := h
  match ds, rds, hf with
  | [x], rds, hf =>
    obtain ⟨v, rfl, rd⟩ := rds.one
    have hf' : (match (seqOf x st).bind sortD with
      | some ys => some (new (.lst true ys) st)
      | none => none) = some (d', st') := hf
    split at hf'
    · rename_i ys hb
      cases hf'
      obtain ⟨zs, e1, e2⟩ := Option.bind_eq_some_iff.mp hb
      obtain ⟨a, vs, rfl, hs, rs⟩ := seq_at rh rd e1
      unfold sortD at e2
      split at e2
      · rename_i ns hn
        cases e2
        have ez := ints_d hn
        subst ez
        have ev : vs = ns.map V.int := ints_rd rs hn
        refine cr_sortD hK hu pins s σ H _ us Q I r ⟨a, vs, ns.map PyData.int, rfl, hs, by rw [ev]; exact dp_ints ns, ?_, ?_, fun p hp => ?_, fun l hl => q.lst rh hl (sort_rd D.int PyData.int _ (fun a b => ?_) rs)⟩
        · exact PySem.W.AllAlike.of fun b b' => rfl
        · exact PySem.W.Sortable.others fun b => ⟨(fun z => by cases z), (fun xs z => by cases z)⟩
        · obtain ⟨n, _, rfl⟩ := List.mem_map.mp hp
          exact Nat.zero_le _
        · exact (congrFun (congrFun (PySem.W.dataLe_int (fun b : Int => b)) a) b).symm
      · split at e2
        · rename_i ns hn
          cases e2
          have ez := prs_d hn
          subst ez
          refine cr_sortD hK hu pins s σ H _ us Q I r ⟨a, vs, ns.map prP, rfl, hs, dp_prs rs, ?_, ?_, fun p hp => ?_, fun l hl => q.lst rh hl (sort_rd prD prP _ (fun a b => ?_) rs)⟩
          · exact PySem.W.AllAlike.of fun b b' => rfl
          · exact PySem.W.Sortable.tuples fun b => ⟨_, _, rfl⟩
          · obtain ⟨n, _, rfl⟩ := List.mem_map.mp hp
            show PyData.depth (.tuple [.int n.1, .int n.2]) ≤ 60
            simp [PyData.depth, PyData.depthAll]
          · have := congrFun (congrFun (PySem.W.dataLe_ii (fun b : Int × Int => b.1) (fun b : Int × Int => b.2)) a) b
            refine Eq.trans ?_ this.symm
            unfold prLe
            by_cases h1 : a.1 < b.1 <;> by_cases h2 : a.1 = b.1 <;> by_cases h3 : a.2 ≤ b.2 <;> simp [h1, h2, h3]
        · cases e2
    · cases hf'
end
end PyI
end
section
/-! PyI2d: repr, isinstance, methods, slices. -/
set_option autoImplicit false
set_option linter.all false
set_option maxRecDepth 100000
set_option maxHeartbeats 4000000
namespace PyI
open PySem PySem.Spec PyProof.Rows L2

/-! ### t[::-1] of a tuple -/
theorem fm_congr {β γ : Type} {f g : β → Option γ} : ∀ {l : List β}, (∀ x ∈ l, f x = g x) → l.filterMap f = l.filterMap g
  | [], _ => rfl
  | x :: l, h => by
    rw [List.filterMap_cons, List.filterMap_cons, h x List.mem_cons_self, fm_congr fun y hy => h y (List.mem_cons_of_mem _ hy)]
theorem pick_back (xs : List Value) : ((List.range xs.length).filterMap fun (m : Nat) => xs.toArray[((xs.length : Int) - 1 + (m : Int) * (-1)).toNat]?) = xs.reverse := by
  have e : ∀ m ∈ List.range xs.length, xs.toArray[((xs.length : Int) - 1 + (m : Int) * (-1)).toNat]? = xs.reverse.toArray[0 + m]? := fun m hm => by
    have := List.mem_range.mp hm
    rw [List.getElem?_toArray, List.getElem?_toArray, Nat.zero_add, List.getElem?_reverse (by omega)]
    congr 1
    omega
  rw [fm_congr e]
  have h := PySem.pick_run xs.reverse.toArray 0 xs.length
  rw [List.filterMap_map] at h
  refine Eq.trans h ?_
  rw [List.drop_zero, List.take_of_length_le]
  exact Nat.le_of_eq (List.length_reverse)
section
variable {prog : Program} {w : World} {A : Around} {E : Value → Shared → Prop} {s : Shared}
theorem applied_back {sl : Addr} {vl vu vs : Value} {n : Nat} {Q : Int × Int × Nat → Shared → Prop} (hs : s.heap.IsSliceOf sl vl vu vs) (pl : IsPart vl none) (pu : IsPart vu none) (ps : IsPart vs (some (-1)))
    (h : Q (((n : Nat) : Int) - 1, -1, n) s) : wpAny (model prog w) A (Builtin.Slice.sliceApplied (.ref sl) (pure (n : Int))) Q E s := by
  obtain ⟨ob, h1, h2, h3⟩ := id hs
  unfold Builtin.Slice.sliceApplied Builtin.Slice.sliceFields
  refine wpAny_bind (wpAny_bind (wpAny_field h1 h3 (x := vl) rfl (wpAny_bind (wpAny_field h1 h3 (x := vu) rfl (wpAny_bind (wpAny_field h1 h3 (x := vs) rfl (wpAny_pure ?_)))))))
  refine wpAny_bind (HT.slicePart_ ps ?_)
  show wpAny _ _ (if ((-1 : Int) == 0) = true then _ else _) _ _ s
  rw [if_neg (by decide)]
  refine wpAny_bind (HT.slicePart_ pl (wpAny_bind (HT.slicePart_ pu (wpAny_bind (wpAny_pure ?_)))))
  show wpAny _ _ (pure (((n : Nat) : Int) - 1, (-1 : Int), Builtin.Slice.slicePlaces (((n : Nat) : Int) - 1) (-1) (-1))) _ _ s
  have e : Builtin.Slice.slicePlaces (((n : Nat) : Int) - 1) (-1) (-1) = n := by
    unfold Builtin.Slice.slicePlaces
    rw [if_neg (by decide)]
    by_cases c : (((n : Nat) : Int) - 1) > -1
    · rw [if_pos c, show (-(-1) : Int) = 1 by decide, Int.ediv_one]
      omega
    · rw [if_neg c]
      omega
  rw [e]
  exact wpAny_pure h
theorem getItem_tup_back {t sl : Addr} {its : List Value} {vl vu vs : Value} {Q : Value → Shared → Prop} (ht : IsTup s.heap t its.toArray) (hs : s.heap.IsSliceOf sl vl vu vs) (pl : IsPart vl none) (pu : IsPart vu none) (ps : IsPart vs (some (-1)))
    (h : Q (.ref s.heap.objs.size) { s with heap := s.heap.push { cls := .type "tuple", data := .seq its.reverse.toArray } }) (hz : its.length ≤ sizeLine) : wpAny (model prog w) A (getItem (.ref t) (.ref sl)) Q E s := by
  have ok : sizeOk (.seq its.reverse.toArray) := by
    show its.reverse.toArray.size ≤ sizeLine
    rw [List.size_toArray, List.length_reverse]
    exact hz
  obtain ⟨ob, h1, h2, h3⟩ := id hs
  have isS : s.TypeIs (.ref sl) "slice" := ⟨ob, h1, h2⟩
  unfold getItem
  try with_reducible refine wpAny_holding ?_
  try refine wpAny_bind (wpAny_pure ?_)
  refine wpAny_bind (wpAny_sequenceKey (T := "tuple") ht.typeIs (by decide) ?_)
  refine wpAny_bind (wpAny_callSpecial?_slot (T := "tuple") (name := Str.ofString "__getitem__") ht.typeIs PyProof.Rows.slot_tuple_getitem (wpAny_call_entry PyProof.Rows.slot_tuple_getitem ht.typeIs entry_tuple_getitem ?_ (args_tuple_getitem _ _)))
  show wpAny _ _ (Builtin.Tuple.tupleItemsOf (.ref t) >>= fun xs => _) _ _ s
  refine wpAny_bind (tupleItemsOf_ ht (wpAny_bind (wpAny_typeOf isS ?_)))
  rw [if_pos (by decide)]
  have len : (its.toArray.size : Int) = ((its.length : Nat) : Int) := by rw [List.size_toArray]
  show wpAny _ _ (Builtin.Slice.sliceApplied (.ref sl) (pure (its.toArray.size : Int)) >>= fun p => _) _ _ s
  rw [len]
  refine wpAny_bind (applied_back hs pl pu ps ?_)
  have no : ¬ ((((its.length : Int) - 1) == 0 && (-1 : Int) == 1 && its.length == its.toArray.size) = true) := by
    intro q
    rw [Bool.and_eq_true, Bool.and_eq_true] at q
    exact absurd q.1.2 (by decide)
  show wpAny _ _ (if ((((its.length : Int) - 1) == 0 && (-1 : Int) == 1 && its.length == its.toArray.size) = true) then _ else _) _ _ s
  rw [if_neg no, pick_back]
  first
    | exact wpAny_bind (m := Builtin.Tuple.tupleExact _) (wpAny_newObj_type (wpAny_pure ⟨_, rfl, wpAny_pure h⟩) ok)
    | exact wpAny_bind (m := Builtin.Tuple.tupleExact _) (wpAny_newObj_type (wpAny_bind (wpAny_pure (wpAny_pure ⟨_, rfl, wpAny_pure h⟩))) ok)
    | exact wpAny_bind (wpAny_bind (m := Builtin.Tuple.tupleExact _) (wpAny_newObj_type (wpAny_pure (wpAny_pure ⟨_, rfl, wpAny_pure h⟩)) ok))
    | exact wpAny_bind (wpAny_bind (m := Builtin.Tuple.tupleExact _) (wpAny_newObj_type (wpAny_pure ⟨_, rfl, wpAny_pure h⟩) ok))
end
section
variable {M : Mdl} {X : Cx} {α : List Addr} {H : Hp}
def tRev (K : PySem.W.Frag) (te : TE) : TE := fun σ H Q => te σ H fun x H1 => (∃ a xs, x = .ref a ∧ SqL K H1 a xs ∧ ∀ p, H1 p = none → Q (.ref p) (upd H1 p (.lst xs.reverse))) ∨
  (∃ a xs, x = .ref a ∧ SqT K H1 a xs ∧ ∀ p, H1 p = none → Q (.ref p) (upd H1 p (.tup xs.reverse)))
theorem pe_rev {e : Expr} {te : TE} {k : Nat} {p1 p2 p3 pos : Pos} (he : PE X e te) : PE X (.Subscript e (.Slice none none (some (.UnaryOp .USub (.Constant (.int 1) k p1) p2)) p3) pos) (tRev X.K te) := by
  refine ⟨fun pins s σ H Q I h => Subscript_ (thn (he.run pins s σ H _ I h) fun v s1 ⟨x, H1, I1, r1, q1⟩ => ?_)⟩
  obtain ⟨a, rfl⟩ : ∃ a, x = .ref a := by
    rcases q1 with ⟨a, _, e, _⟩ | ⟨a, _, e, _⟩ <;> exact ⟨a, e⟩
  cases r1
  have part : PO X (some (.UnaryOp .USub (.Constant (.int 1) k p1) p2)) (tPart (tUn (rU fun i => .int (-i)) (tC (.int 1)))) := po_some (pe_un un_neg pe_int)
  refine wpAny_Slice (thn (po_none.run pins s1 σ H1 (fun o G => o = none ∧ G = H1) I1 ⟨rfl, rfl⟩) fun vl s2 ⟨l, H2, I2, pl, z1, z2⟩ => ?_)
  subst z1 z2
  refine thn (po_none.run pins s2 σ H2 (fun o G => o = none ∧ G = H2) I2 ⟨rfl, rfl⟩) fun vu s3 ⟨u, H3, I3, pu, z1, z2⟩ => ?_
  subst z1 z2
  refine thn (part.run pins s3 σ H3 (fun o G => o = some (-1) ∧ G = H3) I3 ⟨1, rfl, -1, rfl, rfl, rfl⟩) fun vs s4 ⟨o, H4, I4, ps, z1, z2⟩ => ?_
  subst z1 z2
  have I5 : Inv X pins σ H4 { s4 with heap := s4.heap.push { cls := .type "slice", data := .fields #[vl, vu, vs] } } := I4.kept (t' := s4.toks) fun b ob q => Heap.get?_push_of_some _ q
  show wpAny (model X.prog X.w) X.A (subscriptTail e (.Slice none none (some (.UnaryOp .USub (.Constant (.int 1) k p1) p2)) p3) (.ref a) (.ref s4.heap.objs.size)) _ _ { s4 with heap := s4.heap.push { cls := .type "slice", data := .fields #[vl, vu, vs] } }
  rcases q1 with ⟨a', xs, ea, hx, q⟩ | ⟨a', xs, ea, hx, q⟩
  · cases ea
    obtain ⟨its, r, ht, hz⟩ := I5.list hx
    have hlen := r.length
    refine tail_any (T := "list") (ops := [.ref a, .ref s4.heap.objs.size]) ht.isList.typeIs PySem.slot_list_getitem.lookup ?_ (by with_unfolding_all rfl)
    refine wpAny_getItem_list_slice ht.isList (Heap.IsSliceOf.new _ vl vu vs) pl pu ps (by decide) ?_ (by simp only [List.size_toArray]; omega)
    rw [PySem.W.krv_pick]
    refine ⟨.ref _, _, I5.laid (o := .lst xs.reverse) (t' := s4.toks) (fun b ob q => Heap.get?_push_of_some _ q) (Nat.le_refl _) ⟨?_, _, 0, r.reverse, Heap.get?_push_size _ rfl⟩, rfl, q _ I5.fresh⟩
    rw [List.length_reverse]
    exact hz
  · cases ea
    obtain ⟨its, r, ht, hz⟩ := I5.tuple hx
    have hlen := r.length
    refine tail_any (T := "tuple") (ops := [.ref a, .ref s4.heap.objs.size]) ht.typeIs PyProof.Rows.slot_tuple_getitem.lookup ?_ (by with_unfolding_all rfl)
    refine getItem_tup_back ht (Heap.IsSliceOf.new _ vl vu vs) pl pu ps ?_ (by omega)
    refine ⟨.ref _, _, I5.laid (o := .tup xs.reverse) (t' := s4.toks) (fun b ob q => Heap.get?_push_of_some _ q) (Nat.le_refl _) ⟨?_, _, r.reverse, IsTup.new _ _⟩, rfl, q _ I5.fresh⟩
    rw [List.length_reverse]
    exact hz

/-! ### slices -/
theorem cut_rd {ds : List D} {vs : List V} (r : RDs M α H ds vs) (lo hi : Option Int) : RDs M α H (cut ds lo hi) (cutV vs lo hi) := by
  unfold cut cutV
  rw [r.length]
  exact (r.drop _).take _
theorem cut_all {ds : List D} {lo hi : Option Int} (h : clip ds.length 0 lo = 0 ∧ clip ds.length ds.length hi = ds.length) : cut ds lo hi = ds := by
  unfold cut
  rw [h.1, h.2, List.drop_zero, Nat.sub_zero, List.take_length]
def R3p (M : Mdl) (f : D → Option Int → Option Int → Sto → Option (D × Sto)) : V → Option Int → Option Int → Hp → VK → Prop := fun x lo hi H Q => ∃ (α : List Addr) (st : Sto) (d d' : D) (st' : Sto), RH M α st H ∧ RD M α H d x ∧ f d lo hi st = some (d', st') ∧ Qk M α H d' st' Q
theorem dyn_slc (hK : X.K = M.K) : L2.SlR X (R3p M slcB) := by
  intro pins s σ H x v vl vu lo hi sl Q I rx hs pl pu h
  obtain ⟨α, st, d, d', st', rh, rd, hf, q⟩ := h
  cases rd with
  | str z =>
    have hf' : (if z.length ≤ LIM then some (D.str ⟨(cut z.cps.toList lo hi).toArray⟩, st) else none) = some (d', st') := hf
    split at hf'
    · rename_i hl
      cases hf'
      exact sl_str pins s σ H _ v vl vu lo hi sl Q I rx hs pl pu ⟨z, rfl, by rw [← lim_eq]; exact hl, q.here rh (.str _)⟩
    · cases hf'
  | @tup ds a vs ht rs =>
    cases hf
    refine sl_tupA pins s σ H _ v vl vu lo hi sl Q I rx hs pl pu ⟨a, vs, rfl, by rw [hK]; exact ht.sq, fun w => ?_, fun _ p hp => q.tup rh hp (cut_rd rs lo hi)⟩
    rw [← rs.length] at w
    have e := cut_all (ds := ds) (lo := lo) (hi := hi) w
    rw [e] at q
    exact q.here rh (.tup ht rs)
  | @ref n a ha =>
    have hf' : (match st[n]? with
      | some (.lst _ xs) => some (new (.lst true (cut xs lo hi)) st)
      | _ => none) = some (d', st') := hf
    split at hf'
    · rename_i w xs e
      cases hf'
      obtain ⟨vs, h1, h2, _⟩ := rh.lst ha e
      exact sl_list pins s σ H _ v vl vu lo hi sl Q I rx hs pl pu ⟨a, vs, rfl, by rw [hK]; exact h1, fun p hp => q.lst rh hp (cut_rd h2 lo hi)⟩
    · cases hf'
  | _ => cases hf
/-- what a reversal wants -/
theorem rev_at {st st' : Sto} {d d' : D} {v : V} {Q : VK} (rh : RH M α st H) (rd : RD M α H d v) (hf : revB d st = some (d', st')) (q : Qk M α H d' st' Q) :
    (∃ a xs, v = .ref a ∧ SqL M.K H a xs ∧ ∀ p, H p = none → Q (.ref p) (upd H p (.lst xs.reverse))) ∨ (∃ a xs, v = .ref a ∧ SqT M.K H a xs ∧ ∀ p, H p = none → Q (.ref p) (upd H p (.tup xs.reverse))) := by
  cases rd with
  | @tup ds a vs ht rs =>
    cases hf
    exact .inr ⟨a, vs, rfl, ht.sq, fun p hp => q.tup rh hp rs.rev⟩
  | @ref n a ha =>
    have hf' : (match st[n]? with
      | some (.lst _ xs) => some (new (.lst true xs.reverse) st)
      | _ => none) = some (d', st') := hf
    split at hf'
    · rename_i w xs e
      cases hf'
      obtain ⟨vs, h1, h2, _⟩ := rh.lst ha e
      exact .inl ⟨a, vs, rfl, h1, fun p hp => q.lst rh hp h2.rev⟩
    · cases hf'
  | _ => cases hf

/-! ### repr -/
mutual
theorem noDict : ∀ (p : PyData) (v : V), Dp M.K H v p → p.hasDict = false
  | .none, _, _ => by simp only [PyData.hasDict]
  | .bool _, _, _ => by simp only [PyData.hasDict]
  | .int _, _, _ => by simp only [PyData.hasDict]
  | .str _, _, _ => by simp only [PyData.hasDict]
  | .list xs, _, h => by
    cases h with
    | lst h1 h2 =>
      simp only [PyData.hasDict]
      exact noDicts xs _ h2
  | .tuple xs, _, h => by
    cases h with
    | tup h1 h2 =>
      simp only [PyData.hasDict]
      exact noDicts xs _ h2
  | .dict _, _, h => by cases h
theorem noDicts : ∀ (ps : List PyData) (vs : List V), DpAll M.K H vs ps → PyData.hasDictAll ps = false
  | [], _, _ => by simp only [PyData.hasDictAll]
  | p :: ps, _, h => by
    cases h with
    | cons h1 h2 => simp only [PyData.hasDictAll, noDict p _ h1, noDicts ps _ h2, Bool.or_self]
end
theorem dyn_repr (hK : X.K = M.K) (hg : X.A.guards = some []) (hu : X.A.units + 70 < cLine) : CallR X (.builtin "repr") (RCp M (evB .repr)) := by
  intro pins s σ H xs us Q I r h
  obtain ⟨α, st, ds, d', st', rh, rds, hf, q⟩ := h
  match ds, rds, hf with
  | [x], rds, hf =>
    obtain ⟨v, rfl, rd⟩ := rds.one
    have hf' : (match deep st x with
      | some p => if p.showable && decide (p.shown.length ≤ LIM) && decide (p.depth ≤ 64) then some (D.str p.shown, st) else none
      | none => none) = some (d', st') := hf
    split at hf'
    · rename_i p hp
      split at hf'
      · rename_i hs
        cases hf'
        rw [Bool.and_eq_true, Bool.and_eq_true, decide_eq_true_eq, decide_eq_true_eq] at hs
        obtain ⟨⟨h1, h2⟩, h3⟩ := hs
        have dp := deep_dp rh 66 x v p rd hp
        rw [lim_eq] at h2
        have hq : Q (.str p.shown) H := q.here rh (.str _)
        obtain ⟨u, rfl, ru⟩ := vals1 r
        cases dp with
        | non =>
          cases (show u = Value.none from ru)
          exact PySem.P.repr_of_none ⟨.str _, H, I.tok _, ⟨_, rfl⟩, hq⟩
        | bl b =>
          cases (show u = Value.bool b from ru)
          refine PySem.P.repr_of_bool ⟨.str _, H, I.tok _, ⟨_, rfl⟩, ?_⟩
          simp only [PyData.shown] at hq
          exact hq
        | int i =>
          obtain ⟨t, rfl⟩ := (show ∃ t, u = Value.int i t from ru)
          simp only [PyData.showable, decide_eq_true_eq] at h1
          simp only [PyData.shown] at hq
          exact PySem.P.repr_of_int h1 ⟨.str _, H, I.tok _, ⟨_, rfl⟩, hq⟩
        | str z =>
          obtain ⟨t, rfl⟩ := (show ∃ t, u = Value.str z t from ru)
          simp only [PyData.shown] at hq h2
          exact PySem.P.repr_of_str ⟨.str _, H, I.tok _, ⟨_, rfl⟩, hq⟩ h2
        | @lst a xs ds s1 s2 =>
          cases (show u = Value.ref a from ru)
          obtain ⟨as, rr⟩ := Dp.reads I _ _ _ (show Dp X.K H (.ref a) (.list ds) by rw [hK]; exact .lst s1 s2) (show RelV (.ref a) (.ref a) from rfl)
          exact repr_of_reads' rr h1 (PyData.noDict_hsm (noDict (M := M) (H := H) _ _ (.lst s1 s2))) hg (by omega) (fun _ _ z => z) (fun h' u tk k => ⟨.str _, H, I.kept (t' := tk) k, ⟨_, rfl⟩, hq⟩) h2
        | @tup a xs ds s1 s2 =>
          cases (show u = Value.ref a from ru)
          obtain ⟨as, rr⟩ := Dp.reads I _ _ _ (show Dp X.K H (.ref a) (.tuple ds) by rw [hK]; exact .tup s1 s2) (show RelV (.ref a) (.ref a) from rfl)
          exact repr_of_reads' rr h1 (PyData.noDict_hsm (noDict (M := M) (H := H) _ _ (.tup s1 s2))) hg (by omega) (fun _ _ z => z) (fun h' u tk k => ⟨.str _, H, I.kept (t' := tk) k, ⟨_, rfl⟩, hq⟩) h2
      · cases hf'
    · cases hf'
end
end PyI
end
section
/-! PyI2e: isinstance, an exception's field, methods, dispatch. -/
set_option autoImplicit false
set_option linter.all false
set_option maxRecDepth 100000
set_option maxHeartbeats 4000000
namespace PyI
open PySem PySem.Spec PyProof.Rows L2

/-! ### own exceptions' classes -/
/-- what an own exception class answers -/
structure ExcF (K : PySem.W.Frag) (C : Addr) : Prop where
  xf : XfC K C
  cl : (PySem.W.clsIn K C).isSome = true
  ha : PySem.W.findIn K (.ref C) "__class__" = some (some (.builtin "object.__class__"))
  hn : PySem.W.specialIn K (.builtin "object.__class__") "__get__" = some (some (.builtin "getset_descriptor.__get__"))
  ht : PySem.W.takesIn K (.builtin "object.__class__") = some true
  hm : PySem.W.mroIn K C (.type "object") = some true
  val : PySem.W.findIn K (.ref C) "value" = some none
  out : ∀ k ∈ (["NoneType", "bool", "int", "str", "tuple", "list", "dict"] : List String), PySem.W.kitOne K (.type k) (.ref C) = some false
  un : ∀ k ∈ (["tuple", "int", "bool", "str", "list"] : List String), PySem.W.kitOne K (.ref C) (.type k) = some false
/-- sub tells truly of the classes -/
structure SubOk (K : PySem.W.Frag) (cls : Str → Addr) (sub : Str → Str → Option Bool) : Prop where
  own : ∀ c, sub c c = some true → ExcF K (cls c)
  sub : ∀ d c b, sub d c = some b → PySem.W.kitOne K (.ref (cls d)) (.ref (cls c)) = some b
def tyVal (M : Mdl) : Ty → V
  | .cls c => .ref (M.cls c)
  | t => .ty t.name
def rIsiD (M : Mdl) (sub : Str → Str → Option Bool) (t : Ty) : List V → Hp → VK → Prop := fun vs H Q => ∃ (α : List Addr) (st : Sto) (d : D) (x : V) (b : Bool), vs = [x, tyVal M t] ∧ RH M α st H ∧ RD M α H d x ∧ isiB t sub d st = some b ∧ Q (.bl b) H
section
variable {M : Mdl} {X : Cx} {α : List Addr} {H : Hp} {st : Sto} {sub : Str → Str → Option Bool}
theorem kind_ty (hK : X.K = M.K) (rh : RH M α st H) {d : D} {x : V} {k : String} (r : RD M α H d x) (h : kindB d st = some k) : TyX X.K H x (.type k) ∧ k ∈ (["NoneType", "bool", "int", "str", "tuple", "list", "dict"] : List String) := by
  rw [hK]
  cases r with
  | non =>
    cases h
    exact ⟨.base .non, by simp⟩
  | bl b =>
    cases h
    exact ⟨.base (.bl b), by simp⟩
  | int i =>
    cases h
    exact ⟨.base (.int i), by simp⟩
  | str z =>
    cases h
    exact ⟨.base (.str z), by simp⟩
  | @tup ds a vs ht hs =>
    cases h
    refine ⟨?_, by simp⟩
    rcases ht with ht | ⟨o, its, n, h1, h2, _⟩
    · exact .base (.tup ht)
    · exact .kTuple h1 h2
  | @ref n a ha =>
    have h' : (match st[n]? with
      | some (.lst _ _) => some "list"
      | some (.dct true _) => some "dict"
      | _ => none) = some k := h
    split at h'
    · rename_i w xs e
      cases h'
      refine ⟨?_, by simp⟩
      have rc := rh.cell n _ a e ha
      cases w with
      | true =>
        obtain ⟨vs, h1, _⟩ := rc
        exact .base (.lst h1)
      | false =>
        obtain ⟨vs, o, h1, _⟩ := rc
        exact .base (.frz h1)
    · rename_i kvs e
      cases h'
      refine ⟨?_, by simp⟩
      obtain ⟨vs, h1, _⟩ := rh.cell n _ a e ha
      exact .base (.dK h1)
    · cases h'
  | _ => cases h
theorem kit_names {K : PySem.W.Frag} : ∀ k ∈ (["NoneType", "bool", "int", "str", "tuple", "list", "dict"] : List String), ∀ t ∈ (["tuple", "int", "bool", "str", "list"] : List String),
    PySem.W.kitOne K (.type k) (.type t) = some (decide (k = t) || (decide (k = "bool") && decide (t = "int"))) := by
  have h : ∀ k ∈ (["NoneType", "bool", "int", "str", "tuple", "list", "dict"] : List String), ∀ t ∈ (["tuple", "int", "bool", "str", "list"] : List String), kitB k t = some (decide (k = t) || (decide (k = "bool") && decide (t = "int"))) := by decide +kernel
  exact fun k hk t ht => kit_ty (h k hk t ht)
theorem name_mem {t : Ty} (h : ∀ c, t ≠ .cls c) : t.name ∈ (["tuple", "int", "bool", "str", "list"] : List String) ∧ tyVal M t = .ty t.name := by
  cases t with
  | cls c => exact absurd rfl (h c)
  | _ => exact ⟨by simp [Ty.name], rfl⟩
theorem isi_sub {t : Ty} {d : D} (h : ∀ c, t ≠ .cls c) : isiB t sub d st = (match d with
    | .exc e _ => if sub e e = some true then some false else none
    | d => (kindB d st).map fun k => decide (k = t.name) || (decide (k = "bool") && decide (t.name = "int"))) := by
  cases t with
  | cls c => exact absurd rfl (h c)
  | _ => rfl
/-- isinstance of an own exception's object -/
theorem kia_exc {pins : List (Addr × Obj)} {σ : L2.St} {s : Shared} {a C x : Addr} {cv : Value} {w : V} {b : Bool} {Q : VK} (F : ExcF X.K C) (I : Inv X pins σ H s) (h1 : H a = some (exT a C x)) (h2 : H x = some (.xd [("value", w)])) (e : PySem.W.kitOne X.K (.ref C) cv = some b) (q : Q (.bl b) H) :
    wpAny (model X.prog X.w) X.A (call (.builtin "isinstance") [.ref a, cv]) (EP X pins σ Q) X.xe s := by
  obtain ⟨⟨oe, fv, hx, hx1, hx2, hx3⟩, _⟩ := I.hok a _ h1
  obtain ⟨mA, hns, _⟩ := (show ObjOk X.prog X.w H s.heap x (.xd [("value", w)]) from I.hok x _ h2)
  obtain ⟨od, ho, _⟩ := lookIn_ns hns
  have J : PySem.W.InstAt s.heap a oe C (some od) := ⟨hx, hx1, by unfold PySem.W.notCls; rw [hx3], by rw [hx2]; exact ho⟩
  exact PySem.W.kia_one (PySem.W.kitx_exc F.cl F.xf.ga F.xf.gg F.xf.exC F.ha F.hn F.ht F.hm) I.kIn J e (fun z => nomatch z) fun tk => ⟨.bl b, H, I.kept (t' := tk) fun _ _ z => z, rfl, q⟩
theorem dyn_isi (hK : X.K = M.K) (S : SubOk M.K M.cls sub) (t : Ty) : CallR X (.builtin "isinstance") (rIsiD M sub t) := by
  intro pins s σ H xs us Q I r h
  obtain ⟨α, st, d, x, b, rfl, rh, rd, hf, q⟩ := h
  by_cases ht : ∃ c, t = .cls c
  · obtain ⟨c, rfl⟩ := ht
    by_cases hd : ∃ e v, d = .exc e v
    · obtain ⟨e, v, rfl⟩ := hd
      have hf' : (if sub e e = some true then sub e c else none) = some b := hf
      split at hf'
      · rename_i h0
        cases rd with
        | @exc _ _ a xa w h1 h2 h3 =>
          obtain ⟨u1, u2, rfl, r1, r2⟩ := vals2 r
          cases (show u1 = Value.ref a from r1)
          cases (show u2 = Value.ref (M.cls c) from r2)
          exact kia_exc (hK ▸ S.own e h0) I h1 h2 (hK ▸ S.sub e c b hf') q
      · cases hf'
    · have hf' : (if sub c c = some true then (kindB d st).map fun _ => false else none) = some b := by
        cases d with
        | exc e v => exact absurd ⟨e, v, rfl⟩ hd
        | _ => exact hf
      split at hf'
      · rename_i h0
        obtain ⟨k, e1, e2⟩ := Option.map_eq_some_iff.mp hf'
        subst e2
        obtain ⟨ty, mem⟩ := kind_ty hK rh rd e1
        exact call_isi pins s σ H _ us Q I r ⟨x, .ref (M.cls c), .type k, .ref (M.cls c), false, rfl, .own _, ty, by rw [hK]; exact (S.own c h0).out k mem, q⟩
      · cases hf'
  · have ht' : ∀ c, t ≠ .cls c := fun c e => ht ⟨c, e⟩
    obtain ⟨m1, m2⟩ := name_mem (M := M) ht'
    rw [isi_sub ht'] at hf
    rw [m2] at r
    by_cases hd : ∃ e v, d = .exc e v
    · obtain ⟨e, v, rfl⟩ := hd
      have hf' : (if sub e e = some true then some false else none) = some b := hf
      split at hf'
      · rename_i h0
        cases hf'
        cases rd with
        | @exc _ _ a xa w h1 h2 h3 =>
          obtain ⟨u1, u2, rfl, r1, r2⟩ := vals2 r
          cases (show u1 = Value.ref a from r1)
          cases (show u2 = Value.type t.name from r2)
          exact kia_exc (hK ▸ S.own e h0) I h1 h2 (by rw [hK]; exact (S.own e h0).un _ m1) q
      · cases hf'
    · have hf' : (kindB d st).map (fun k => decide (k = t.name) || (decide (k = "bool") && decide (t.name = "int"))) = some b := by
        cases d with
        | exc e v => exact absurd ⟨e, v, rfl⟩ hd
        | _ => exact hf
      obtain ⟨k, e1, e2⟩ := Option.map_eq_some_iff.mp hf'
      subst e2
      obtain ⟨ty, mem⟩ := kind_ty hK rh rd e1
      exact call_isi pins s σ H _ us Q I r ⟨x, .ty t.name, .type k, .type t.name, _, rfl, .ty _, ty, kit_names k mem _ m1, q⟩

/-! ### an exception's field -/
def tFld (M : Mdl) (te : TE) : TE := fun σ H Q => te σ H fun x H1 => ∃ (a C xa : Addr) (w : V), x = .ref a ∧ H1 a = some (exT a C xa) ∧ H1 xa = some (.xd [("value", w)]) ∧ ExcF M.K C ∧ Q w H1
theorem pe_fld (hK : X.K = M.K) {e : Expr} {te : TE} {pos : Pos} (he : PE X e te) (hb : attributeBase e "value" X.env (eval e X.env) = eval e X.env) : PE X (.Attribute e "value" pos) (tFld M te) := by
  refine ⟨fun pins s σ H Q I h => attr_of hb (thn (he.run pins s σ H _ I h) fun u s1 ⟨x, H1, I1, rx, a, C, xa, w, ex, h1, h2, F, q⟩ => ?_)⟩
  subst ex
  obtain rfl : u = Value.ref a := rx
  rw [← hK] at F
  obtain ⟨⟨oe, fv, hx, hx1, hx2, hx3⟩, _⟩ := I1.hok a _ h1
  obtain ⟨mA, hns, hr⟩ := (show ObjOk X.prog X.w H1 s1.heap xa (.xd [("value", w)]) from I1.hok xa _ h2)
  obtain ⟨od, ho, hl⟩ := lookIn_ns hns
  obtain ⟨u, hu, ru⟩ := RelO.some_of (v := w) (o := mA "value") (by have := hr "value"; exact this)
  have J : PySem.W.InstAt s1.heap a oe C (some od) := ⟨hx, hx1, by unfold PySem.W.notCls; rw [hx3], by rw [hx2]; exact ho⟩
  exact HandSPX.exc_get I1.kIn J F.xf.ga F.xf.gg F.xf.exC (PySem.W.findObj_own F.xf.hdC F.val rfl (by rw [hl, hu])) (handed_of ru) ⟨w, H1, I1.tok _, ru, q⟩

/-! ### methods -/
def RMt (M : Mdl) (m : MT) : V → List V → Hp → VK → Prop := fun x vs H Q => ∃ (α : List Addr) (st : Sto) (d : D) (ds : List D) (d' : D) (st' : Sto), RH M α st H ∧ RD M α H d x ∧ RDs M α H ds vs ∧ methB m d ds st = some (d', st') ∧ Qk M α H d' st' Q
theorem wr_cell {n : Nat} {a : Addr} (rh : RH M α st H) (ha : α[n]? = some a) {ds : List D} (e : st[n]? = some (.lst true ds)) : ∃ vs, H a = some (.lst vs) ∧ RDs M α H ds vs := rh.cell n _ a e ha
theorem dyn_append : MtM X "list.append" (RMt M .append) := by
  intro pins s σ H x vs v us Q I rx rv h
  obtain ⟨α, st, d, ds, d', st', rh, rd, rds, hf, q⟩ := h
  match d, ds, rd, rds, hf with
  | .ref n, [y], rd, rds, hf =>
    obtain ⟨w, rfl, rw'⟩ := rds.one
    cases rd with
    | @ref _ a ha =>
      have hf' : (match st[n]? with
        | some (.lst true xs) => if xs.length < LIM then some (D.non, st.set n (.lst true (xs ++ [y]))) else none
        | _ => none) = some (d', st') := hf
      split at hf'
      · rename_i xs e
        split at hf'
        · rename_i hl
          cases hf'
          obtain ⟨ws, h1, h2⟩ := wr_cell rh ha e
          rw [lim_eq] at hl
          exact mt_append pins s σ H _ _ v us Q I rx rv ⟨a, ws, w, rfl, rfl, h1, by rw [← h2.length]; exact hl, q.wr rh ha e rfl (h2.app (.cons rw' .nil)) .non⟩
        · cases hf'
      · cases hf'
theorem dyn_extend : MtM X "list.extend" (RMt M .extend) := by
  intro pins s σ H x vs v us Q I rx rv h
  obtain ⟨α, st, d, ds, d', st', rh, rd, rds, hf, q⟩ := h
  match d, ds, rd, rds, hf with
  | .ref n, [.ref m], rd, rds, hf =>
    obtain ⟨w, rfl, rw'⟩ := rds.one
    cases rd with
    | @ref _ a ha =>
      cases rw' with
      | @ref _ b hb =>
        have hf' : (match st[n]?, st[m]? with
          | some (.lst true xs), some (.lst true ys) => if xs.length + ys.length ≤ LIM then some (D.non, st.set n (.lst true (xs ++ ys))) else none
          | _, _ => none) = some (d', st') := hf
        split at hf'
        · rename_i xs ys e1 e2
          split at hf'
          · rename_i hl
            cases hf'
            obtain ⟨ws, h1, h2⟩ := wr_cell rh ha e1
            obtain ⟨zs, h3, h4⟩ := wr_cell rh hb e2
            rw [lim_eq] at hl
            exact mt_extend pins s σ H _ _ v us Q I rx rv ⟨a, b, ws, zs, rfl, rfl, h1, h3, by rw [← h2.length, ← h4.length]; exact hl, q.wr rh ha e1 rfl (h2.app h4) .non⟩
          · cases hf'
        · cases hf'
/-! ### dicts -/
theorem key_eq {k j : D} {k' j' : Key} (h : keyV k = some k') (g : keyV j = some j') : flatEq k j = decide (k' = j') := by
  cases k with
  | int i =>
    cases h
    cases j with
    | int n =>
      cases g
      show (i == n) = decide (Sum.inl i = Sum.inl n)
      by_cases e : i = n <;> simp [e]
    | str x =>
      cases g
      rfl
    | _ => cases g
  | str x =>
    cases h
    cases j with
    | int n =>
      cases g
      rfl
    | str y =>
      cases g
      show (x == y) = decide (Sum.inr x = Sum.inr y)
      by_cases e : x = y <;> simp [e]
    | _ => cases g
  | _ => cases h
theorem any_rd {k : D} {k' : Key} (hk : keyV k = some k') : ∀ {ds : List (D × D)} {vs : List (Key × V)}, RKs M α H ds vs → (ds.any fun p => flatEq p.1 k) = vs.any fun p => decide (p.1 = k')
  | [], _, r => by
    cases r
    rfl
  | p :: ds, _, r => by
    cases r with
    | cons h1 h2 h3 => rw [List.any_cons, List.any_cons, any_rd hk h3, key_eq h1 hk]
theorem map_rd {k d : D} {k' : Key} {v : V} (hk : keyV k = some k') (rv : RD M α H d v) : ∀ {ds : List (D × D)} {vs : List (Key × V)}, RKs M α H ds vs →
    RKs M α H (ds.map fun p => if flatEq p.1 k then (p.1, d) else p) (vs.map fun p => if p.1 = k' then (p.1, v) else p)
  | [], _, r => by
    cases r
    exact .nil
  | p :: ds, _, r => by
    cases r with
    | @cons k1 k2 d1 v1 _ vs h1 h2 h3 =>
      have ih := map_rd hk rv h3
      rw [List.map_cons, List.map_cons]
      by_cases e : k2 = k'
      · rw [if_pos (show flatEq k1 k = true by rw [key_eq h1 hk, decide_eq_true e]), if_pos e]
        exact .cons h1 rv ih
      · rw [if_neg (show ¬ flatEq k1 k = true by rw [key_eq h1 hk, decide_eq_false e]; simp), if_neg e]
        exact .cons h1 h2 ih
theorem RKs.app : ∀ {ds es : List (D × D)} {vs ws : List (Key × V)}, RKs M α H ds vs → RKs M α H es ws → RKs M α H (ds ++ es) (vs ++ ws)
  | [], _, _, _, h, h' => by cases h; exact h'
  | _ :: _, _, _, _, h, h' => by
    cases h with
    | cons h1 h2 h3 => exact .cons h1 h2 (RKs.app h3 h')
theorem put_rd {k d : D} {k' : Key} {v : V} (hk : keyV k = some k') (rv : RD M α H d v) {ds : List (D × D)} {vs : List (Key × V)} (r : RKs M α H ds vs) : RKs M α H (put k d ds) (putK vs k' v) := by
  unfold put putK
  rw [any_rd hk r]
  split
  · exact map_rd hk rv r
  · exact r.app (.cons hk rv .nil)
theorem putAll_rd : ∀ {es : List (D × D)} {ws : List (Key × V)} {ds : List (D × D)} {vs : List (Key × V)}, RKs M α H es ws → RKs M α H ds vs → RKs M α H (putAll ds es) (mergeK vs ws)
  | [], _, _, _, r, h => by
    cases r
    exact h
  | p :: es, _, _, _, r, h => by
    cases r with
    | cons h1 h2 h3 =>
      have z := putAll_rd h3 (put_rd h1 h2 h)
      exact z
theorem d_update {pins : List (Addr × Obj)} {σ : L2.St} {s : Shared} {a b : Addr} {xs ys : List (Key × V)} {A : Around} {E : Value → Shared → Prop} {Q : Value → Shared → Prop} (I : Inv X pins σ H s) (e1 : H a = some (.dK xs)) (e2 : H b = some (.dK ys)) (ne : a ≠ b)
    (hz : xs.length + ys.length ≤ sizeLine) (h : ∀ s', Inv X pins σ (upd H a (.dK (mergeK xs ys))) s' → Q .none s') : wpAny (model X.prog X.w) A (call (.builtin "dict.update") [.ref a, .ref b]) Q E s := by
  obtain ⟨_, na, vs, r1, d1⟩ := dk_of I.hok e1
  obtain ⟨_, nb, ws, r2, d2⟩ := dk_of I.hok e2
  refine call_meetsIn PySem.F.slot_dict_update d1.typeIs PySem.F.entry_dict_update (PySem.F.args_dict_update_2 _ _) (meets_dict_update (mixKind X.prog X.w) a b ne nb)
    ⟨vs, ws, d1, d2, by rw [← r1.length, ← r2.length]; exact hz, fun h' dd _ sb => h _ ?_⟩
  have there : ∃ q, h'.get? a = some q := let ⟨q, _, _, hq, _⟩ := dd; ⟨q, hq⟩
  exact d_write (t' := s.toks) I (by rw [e1]; exact True.intro) sb there (dk_new (Nat.le_trans (length_mergeK _ _) hz) na (r2.merge r1) dd)
theorem Qk.wrD {st : Sto} {d : D} {v : V} {n : Nat} {a : Addr} {Q : VK} {ds' : List (D × D)} {vs' : List (Key × V)} {c0 : Cell} (q : Qk M α H d (st.set n (.dct true ds')) Q) (rh : RH M α st H) (ha : α[n]? = some a) (e0 : st[n]? = some c0) (hw : c0.wr = true) (r : RKs M α H ds' vs') (rd : RD M α H d v) : Q v (upd H a (.dK vs')) :=
  q α _ _ (List.prefix_refl _) (rh.keepSet ha e0 hw) (rh.set ha e0 hw ⟨vs', upd_same, r.keep (List.prefix_refl _) (rh.keepSet ha e0 hw)⟩) (rd.keep (List.prefix_refl _) (rh.keepSet ha e0 hw))
theorem dyn_update : MtM X "dict.update" (RMt M .update) := by
  intro pins s σ H x vs v us Q I rx rv h
  obtain ⟨α, st, d, ds, d', st', rh, rd, rds, hf, q⟩ := h
  match d, ds, rd, rds, hf with
  | .ref n, [.ref m], rd, rds, hf =>
    obtain ⟨w, rfl, rw'⟩ := rds.one
    cases rd with
    | @ref _ a ha =>
      cases rw' with
      | @ref _ b hb =>
        have hf' : (match st[n]?, st[m]? with
          | some (.dct true xs), some (.dct true ys) => if xs.length + ys.length ≤ LIM && decide (n ≠ m) then some (D.non, st.set n (.dct true (putAll xs ys))) else none
          | _, _ => none) = some (d', st') := hf
        split at hf'
        · rename_i xs ys e1 e2
          split at hf'
          · rename_i hl
            cases hf'
            rw [Bool.and_eq_true, decide_eq_true_eq, decide_eq_true_eq] at hl
            obtain ⟨ws, h1, h2⟩ := rh.cell n _ a e1 ha
            obtain ⟨zs, h3, h4⟩ := rh.cell m _ b e2 hb
            obtain ⟨hl, hne⟩ := hl
            rw [lim_eq] at hl
            obtain ⟨u, rfl, ru⟩ := rv.one
            cases (show v = Value.ref a from rx)
            cases (show u = Value.ref b from ru)
            refine d_update I h1 h3 (fun z => hne ?_) (by rw [← h2.length, ← h4.length]; exact hl) fun s' I' => ⟨.non, _, I', rfl, q.wrD rh ha e1 rfl (putAll_rd h4 h2) .non⟩
            subst z
            obtain ⟨l1, q1⟩ := List.getElem?_eq_some_iff.mp ha
            obtain ⟨l2, q2⟩ := List.getElem?_eq_some_iff.mp hb
            exact (List.getElem_inj rh.nd).mp (q1.trans q2.symm)
          · cases hf'
        · cases hf'

/-! ### which method -/
/-- the receiver is of the method's type -/
theorem meth_ty (hK : X.K = M.K) {m : MT} {st : Sto} {d : D} {x : V} (rh : RH M α st H) (rd : RD M α H d x) (hf : kindB d st = some m.name) : tyV X.K m.name x H := by
  rw [hK]
  cases rd with
  | str z =>
    cases m with
    | upper => rfl
    | _ => exact absurd (Option.some.inj hf) (by decide)
  | int z => cases m <;> exact absurd (Option.some.inj hf) (by decide)
  | non => cases m <;> exact absurd (Option.some.inj hf) (by decide)
  | bl => cases m <;> exact absurd (Option.some.inj hf) (by decide)
  | tup => cases m <;> exact absurd (Option.some.inj hf) (by decide)
  | exc => cases hf
  | fn => cases hf
  | @ref n a ha =>
    have hf' : (match st[n]? with
      | some (.lst _ _) => some "list"
      | some (.dct true _) => some "dict"
      | _ => none) = some m.name := hf
    split at hf'
    · rename_i w xs e
      obtain ⟨vs, h1, _, _⟩ := rh.lst ha e
      have z := Option.some.inj hf'
      exact .inl ⟨z.symm, vs, h1⟩
    · rename_i kvs e
      have z := Option.some.inj hf'
      obtain ⟨ws, h1, _⟩ := rh.cell n _ a e ha
      exact .inr (.inr (.inl ⟨z.symm, .inl ⟨ws, h1⟩⟩))
    · cases hf'
end
end PyI
end
section
/-! PyI2f: what is walked. -/
set_option autoImplicit false
set_option linter.all false
set_option maxRecDepth 100000
set_option maxHeartbeats 4000000
namespace PyI
open PySem PySem.Spec PyProof.Rows L2

/-- the walker K hands out what J tells, where P holds -/
structure ItOk (M : Mdl) (J : PyI.Itr) (K : It) (P : List Addr → Hp → Prop) : Prop where
  stable : ∀ α α' H H', α <+: α' → Keep H H' → P α H → P α' H'
  go : ∀ i α st H d, P α H → RH M α st H → J.at i st = some (some d) → K.go i H ∧ ∀ v H', K.yld i H v H' → Keep H H' ∧ RH M α st H' ∧ RD M α H' d v
  stop : ∀ i α st H, P α H → RH M α st H → J.at i st = some none → K.stop i H
section
variable {M : Mdl} {X : Cx} {α : List Addr} {H : Hp} {st : Sto}
theorem it_tup {a : Addr} {ds : List D} : ItOk M (.items ds) (Itt M.K a) (fun α H => ∃ vs, TupAt M.K H a vs ∧ RDs M α H ds vs) where
  stable := fun α α' H H' p k ⟨vs, h1, h2⟩ => ⟨vs, h1.keep k, h2.keep p k⟩
  go := fun i α st H d ⟨vs, h1, h2⟩ rh e => by
    obtain ⟨v, e1, e2⟩ := h2.get (Option.some.inj e)
    refine ⟨⟨vs, v, h1.sq, e1⟩, fun w H' y => ?_⟩
    obtain ⟨rfl, y⟩ := y
    have z := y vs h1.sq
    rw [e1] at z
    cases z
    exact ⟨.refl _, rh, e2⟩
  stop := fun i α st H ⟨vs, h1, h2⟩ rh e => by
    have z : ds[i]? = none := Option.some.inj e
    have l := List.getElem?_eq_none_iff.mp z
    exact ⟨vs, h1.sq, by rw [← h2.length]; exact l⟩
theorem it_rng {a b : Int} : ItOk M (.items (rngD a b)) (L2.Itr a (b - a).toNat) (fun _ _ => True) where
  stable := fun _ _ _ _ _ _ h => h
  go := fun i α st H d _ rh e => by
    have z : (rngD a b)[i]? = some d := Option.some.inj e
    unfold rngD at z
    rw [List.getElem?_map] at z
    obtain ⟨k, e1, e2⟩ := Option.map_eq_some_iff.mp z
    obtain ⟨l, e3⟩ := List.getElem?_eq_some_iff.mp e1
    rw [List.getElem_range] at e3
    rw [List.length_range] at l
    subst e3
    refine ⟨l, fun v H' y => ?_⟩
    obtain ⟨rfl, rfl⟩ := y
    rw [← e2]
    exact ⟨.refl _, rh, .int _⟩
  stop := fun i α st H _ rh e => by
    have z : (rngD a b)[i]? = none := Option.some.inj e
    have l := List.getElem?_eq_none_iff.mp z
    unfold rngD at l
    rw [List.length_map, List.length_range] at l
    exact l
theorem live_at {n i : Nat} {o : Option D} (h : PyI.Itr.at (.live n) i st = some o) : ∃ w xs, st[n]? = some (.lst w xs) ∧ o = xs[i]? := by
  have h' : (match st[n]? with
    | some (.lst _ xs) => some xs[i]?
    | _ => none) = some o := h
  split at h'
  · rename_i w xs e
    cases h'
    exact ⟨w, xs, e, rfl⟩
  · cases h'
theorem it_live {n : Nat} {a : Addr} : ItOk M (.live n) (Itl M.K a) (fun α _ => α[n]? = some a) where
  stable := fun α α' H H' p k h => pre_get p h
  go := fun i α st H d ha rh e => by
    obtain ⟨w, xs, e1, e2⟩ := live_at e
    obtain ⟨vs, h1, h2, _⟩ := rh.lst ha e1
    obtain ⟨v, e3, e4⟩ := h2.get e2.symm
    refine ⟨⟨vs, v, h1, e3⟩, fun u H' y => ?_⟩
    obtain ⟨rfl, y⟩ := y
    have z := y vs h1
    rw [e3] at z
    cases z
    exact ⟨.refl _, rh, e4⟩
  stop := fun i α st H ha rh e => by
    obtain ⟨w, xs, e1, e2⟩ := live_at e
    obtain ⟨vs, h1, h2, _⟩ := rh.lst ha e1
    exact ⟨vs, h1, by rw [← h2.length]; exact List.getElem?_eq_none_iff.mp e2.symm⟩
/-- a new pair -/
theorem pair_new {T : Addr} {x y : D} {v w : V} (rh : RH M α st H) (hT : H T = none) (r1 : RD M α H x v) (r2 : RD M α H y w) : Keep H (upd H T (.tup [v, w])) ∧ RH M α st (upd H T (.tup [v, w])) ∧ RD M α (upd H T (.tup [v, w])) (.tup [x, y]) (.ref T) := by
  have s : Same H (upd H T (.tup [v, w])) := same_new hT
  exact ⟨.of s, rh.same s, .tup (.inl upd_same) ((RDs.cons r1 (.cons r2 .nil)).keep (List.prefix_refl _) (.of s))⟩
theorem zip2 {xs ys : List D} {i : Nat} {o : Option D} (h : some (match xs[i]?, ys[i]? with
      | some x, some y => some (D.tup [x, y])
      | _, _ => none) = some o) : (∃ x y, xs[i]? = some x ∧ ys[i]? = some y ∧ o = some (.tup [x, y])) ∨ ((xs.length ≤ i ∨ ys.length ≤ i) ∧ o = none) := by
  cases hx : xs[i]? with
  | none =>
    rw [hx] at h
    cases h
    exact .inr ⟨.inl (List.getElem?_eq_none_iff.mp hx), rfl⟩
  | some x =>
    cases hy : ys[i]? with
    | none =>
      rw [hx, hy] at h
      cases h
      exact .inr ⟨.inr (List.getElem?_eq_none_iff.mp hy), rfl⟩
    | some y =>
      rw [hx, hy] at h
      cases h
      exact .inl ⟨x, y, rfl, rfl, rfl⟩
theorem it_zipT {a b : Addr} {xs ys : List D} : ItOk M (.zipT xs ys) (RZ.ItzT M.K a b) (fun α H => ∃ vs ws, TupAt M.K H a vs ∧ TupAt M.K H b ws ∧ RDs M α H xs vs ∧ RDs M α H ys ws) where
  stable := fun α α' H H' p k ⟨vs, ws, h1, h2, h3, h4⟩ => ⟨vs, ws, h1.keep k, h2.keep k, h3.keep p k, h4.keep p k⟩
  go := fun i α st H d ⟨vs, ws, h1, h2, h3, h4⟩ rh e => by
    rcases zip2 e with ⟨x, y, e1, e2, e3⟩ | ⟨_, e3⟩
    · cases e3
      obtain ⟨v, f1, r1⟩ := h3.get e1
      obtain ⟨w, f2, r2⟩ := h4.get e2
      refine ⟨⟨vs, ws, v, w, h1.sq, h2.sq, f1, f2⟩, fun u H' z => ?_⟩
      obtain ⟨T, x', y', rfl, hT, rfl, g1, g2⟩ := z
      have z1 := g1 vs h1.sq
      have z2 := g2 ws h2.sq
      rw [f1] at z1
      rw [f2] at z2
      cases z1
      cases z2
      exact pair_new rh hT r1 r2
    · cases e3
  stop := fun i α st H ⟨vs, ws, h1, h2, h3, h4⟩ rh e => by
    rcases zip2 e with ⟨x, y, e1, e2, e3⟩ | ⟨e1, _⟩
    · cases e3
    · exact ⟨vs, ws, h1.sq, h2.sq, by rw [← h3.length, ← h4.length]; exact e1⟩
theorem zipL_at {n m i : Nat} {o : Option D} (h : PyI.Itr.at (.zipL n m) i st = some o) : ∃ w w' xs ys, st[n]? = some (.lst w xs) ∧ st[m]? = some (.lst w' ys) ∧ some (match xs[i]?, ys[i]? with
      | some x, some y => some (D.tup [x, y])
      | _, _ => none) = some o := by
  have h' : (match st[n]?, st[m]? with
    | some (.lst _ xs), some (.lst _ ys) => some (match xs[i]?, ys[i]? with
      | some x, some y => some (D.tup [x, y])
      | _, _ => none)
    | _, _ => none) = some o := h
  split at h'
  · rename_i w xs w' ys e1 e2
    exact ⟨_, _, xs, ys, e1, e2, h'⟩
  · cases h'
theorem it_zipL {n m : Nat} {a b : Addr} : ItOk M (.zipL n m) (Itz M.K a b) (fun α _ => α[n]? = some a ∧ α[m]? = some b) where
  stable := fun α α' H H' p k h => ⟨pre_get p h.1, pre_get p h.2⟩
  go := fun i α st H d ⟨ha, hb⟩ rh e => by
    obtain ⟨w, w', xs, ys, e1, e2, e3⟩ := zipL_at e
    obtain ⟨vs, h1, h3, _⟩ := rh.lst ha e1
    obtain ⟨ws, h2, h4, _⟩ := rh.lst hb e2
    rcases zip2 e3 with ⟨x, y, e1, e2, e3⟩ | ⟨_, e3⟩
    · cases e3
      obtain ⟨v, f1, r1⟩ := h3.get e1
      obtain ⟨w, f2, r2⟩ := h4.get e2
      refine ⟨⟨vs, ws, v, w, h1, h2, f1, f2⟩, fun u H' z => ?_⟩
      obtain ⟨T, x', y', rfl, hT, rfl, g1, g2⟩ := z
      have z1 := g1 vs h1
      have z2 := g2 ws h2
      rw [f1] at z1
      rw [f2] at z2
      cases z1
      cases z2
      exact pair_new rh hT r1 r2
    · cases e3
  stop := fun i α st H ⟨ha, hb⟩ rh e => by
    obtain ⟨w, w', xs, ys, e1, e2, e3⟩ := zipL_at e
    obtain ⟨vs, h1, h3, _⟩ := rh.lst ha e1
    obtain ⟨ws, h2, h4, _⟩ := rh.lst hb e2
    rcases zip2 e3 with ⟨x, y, e1, e2, e3⟩ | ⟨e1, _⟩
    · cases e3
    · exact ⟨vs, ws, h1, h2, by rw [← h3.length, ← h4.length]; exact e1⟩
theorem keyV_rd {k : D} {k' : Key} (h : keyV k = some k') : RD M α H k (kV k') := by
  cases k with
  | int i =>
    cases h
    exact .int i
  | str x =>
    cases h
    exact .str x
  | _ => cases h
theorem RKs.get : ∀ {ds : List (D × D)} {vs : List (Key × V)} {i : Nat} {p : D × D}, RKs M α H ds vs → ds[i]? = some p → ∃ k v, vs[i]? = some (k, v) ∧ keyV p.1 = some k ∧ RD M α H p.2 v
  | [], _, _, _, h, e => by simp at e
  | q :: ds, _, 0, p, h, e => by
    cases h with
    | cons h1 h2 h3 =>
      simp at e
      subst e
      exact ⟨_, _, rfl, h1, h2⟩
  | q :: ds, _, i + 1, p, h, e => by
    cases h with
    | cons h1 h2 h3 =>
      obtain ⟨k, v, e1, e2⟩ := RKs.get (i := i) h3 (by simpa using e)
      exact ⟨k, v, by simpa using e1, e2⟩
theorem keys_at {n i : Nat} {kvs : List (D × D)} {o : Option D} (h : PyI.Itr.at (.keys n kvs) i st = some o) : ∃ ks, st[n]? = some (.dct false ks) ∧ o = ks[i]?.map (·.1) := by
  have h' : (match st[n]? with
    | some (.dct false kvs) => some (kvs[i]?.map (·.1))
    | _ => none) = some o := h
  split at h'
  · rename_i ks e
    cases h'
    exact ⟨ks, e, rfl⟩
  · cases h'
theorem it_keys {n : Nat} {a : Addr} {o : Obj} {vs : List (Key × V)} {kvs : List (D × D)} : ItOk M (.keys n kvs) (Itk a o vs) (fun α H => α[n]? = some a ∧ H a = some (.frz o (.dK vs))) where
  stable := fun α α' H H' p k h => ⟨pre_get p h.1, k _ _ h.2 trivial⟩
  go := fun i α st H d ⟨ha, hf⟩ rh e => by
    obtain ⟨ks, e1, e2⟩ := keys_at e
    obtain ⟨vs', o', h1, h2⟩ := rh.cell n _ a e1 ha
    rw [hf] at h1
    cases h1
    obtain ⟨p, f1, f2⟩ := Option.map_eq_some_iff.mp e2.symm
    obtain ⟨k, v, f3, f4, _⟩ := h2.get f1
    refine ⟨⟨hf, (List.getElem?_eq_some_iff.mp f3).1⟩, fun u H' y => ?_⟩
    obtain ⟨rfl, k', v', y1, rfl⟩ := y
    rw [f3] at y1
    cases y1
    rw [← f2]
    exact ⟨.refl _, rh, keyV_rd f4⟩
  stop := fun i α st H ⟨ha, hf⟩ rh e => by
    obtain ⟨ks, e1, e2⟩ := keys_at e
    obtain ⟨vs', o', h1, h2⟩ := rh.cell n _ a e1 ha
    rw [hf] at h1
    cases h1
    have z := Option.map_eq_none_iff.mp e2.symm
    exact ⟨hf, by rw [← h2.length]; exact List.getElem?_eq_none_iff.mp z⟩

/-! ### the reading of an iterable -/
/-- what is wanted of an iterator -/
def KI (M : Mdl) (R : It → Hp → Prop) : PyI.Itr → List Addr → Sto → Hp → Prop := fun J α _ H => ∀ (K : It) (P : List Addr → Hp → Prop), ItOk M J K P → P α H → R K H
def TIM (M : Mdl) (E : XK) (f : Env → Sto → Res PyI.Itr) : TI := fun σ H R => ∃ (α : List Addr) (env : Env) (st : Sto), RE M α env σ H ∧ RH M α st H ∧ PG' M E α H (f env st) (KI M R)
theorem _root_.L2.PI.imp {tg e : Expr} {t t' : TI} (h : PI X tg e t) (i : ∀ σ H R, t' σ H R → t σ H R) : PI X tg e t' := ⟨fun pins s σ H R I q => h.run pins s σ H R I (i σ H R q)⟩
theorem _root_.L2.PI.or {tg e : Expr} {t t' : TI} (h : PI X tg e t) (h' : PI X tg e t') : PI X tg e (fun σ H R => t σ H R ∨ t' σ H R) := ⟨fun pins s σ H R I q => by
  rcases q with q | q
  · exact h.run pins s σ H R I q
  · exact h'.run pins s σ H R I q⟩
/-- a list or a tuple, as it is walked -/
def iSeq (K : PySem.W.Frag) (tl : TE) : TI := fun σ H R => tl σ H fun x H1 => ∃ a, x = .ref a ∧ (((∃ xs, SqL K H1 a xs) ∧ R (Itl K a) H1) ∨ ((∃ xs, SqT K H1 a xs) ∧ R (Itt K a) H1))
theorem pi_seq {tg l : Expr} {tl : TE} (hl : PE X l tl) : PI X tg l (iSeq X.K tl) := by
  refine ⟨fun pins s σ H R I h => thn (hl.run pins s σ H _ I h) fun v s1 ⟨x, H1, I1, r1, a, e, q1⟩ => ?_⟩
  subst e
  have one : PE X (.Constant .none 0 default) (tC (.non)) := pe_non
  cases r1
  rcases q1 with ⟨⟨xs, hq⟩, q⟩ | ⟨⟨xs, hq⟩, q⟩
  · obtain ⟨its, rv, p, hz⟩ := I1.list hq
    exact wpAny_pyIter_list p.isList (pi_one (tk := s1.toks) I1 _ (turn_list a _) ⟨_, Heap.get?_push_size _ rfl, rfl, rfl⟩ q)
  · obtain ⟨its, rv, p, hz⟩ := I1.tuple hq
    exact wpAny_pyIter_tuple (show s1.heap.IsTuple a its.toArray from p) (pi_one (tk := s1.toks) I1 _ (turn_tuple a _) ⟨_, Heap.get?_push_size _ rfl, rfl, rfl⟩ q)
theorem itOf_at (rh : RH M α st H) {d : D} {v : V} {J : PyI.Itr} {R : It → Hp → Prop} (rd : RD M α H d v) (h : itOf d st = some J) (q : KI M R J α st H) : ∃ a, v = .ref a ∧ (((∃ xs, SqL M.K H a xs) ∧ R (Itl M.K a) H) ∨ ((∃ xs, SqT M.K H a xs) ∧ R (Itt M.K a) H)) := by
  cases rd with
  | @tup ds a vs ht hs =>
    cases h
    exact ⟨a, rfl, .inr ⟨⟨vs, ht.sq⟩, q _ _ it_tup ⟨vs, ht, hs⟩⟩⟩
  | @ref n a ha =>
    have h' : (match st[n]? with
      | some (.lst _ _) => some (PyI.Itr.live n)
      | _ => none) = some J := h
    split at h'
    · rename_i w xs e
      cases h'
      obtain ⟨vs, h1, _, _⟩ := rh.lst ha e
      exact ⟨a, rfl, .inl ⟨⟨vs, h1⟩, q _ _ it_live ha⟩⟩
    · cases h'
  | _ => cases h
theorem zipOf_at (rh : RH M α st H) {d e : D} {v w : V} {J : PyI.Itr} {R : It → Hp → Prop} (rd : RD M α H d v) (re : RD M α H e w) (h : zipOf d e st = some J) (q : KI M R J α st H) :
    ∃ a b xs ys, [v, w] = [V.ref a, .ref b] ∧ ((SqL M.K H a xs ∧ SqL M.K H b ys ∧ R (Itz M.K a b) H) ∨ (SqT M.K H a xs ∧ SqT M.K H b ys ∧ R (RZ.ItzT M.K a b) H)) := by
  cases rd with
  | @tup ds a vs ht hs =>
    cases re with
    | @tup es b ws ht' hs' =>
      cases h
      exact ⟨a, b, vs, ws, rfl, .inr ⟨ht.sq, ht'.sq, q _ _ it_zipT ⟨vs, ws, ht, ht', hs, hs'⟩⟩⟩
    | _ => cases h
  | @ref n a ha =>
    cases re with
    | @ref m b hb =>
      have h' : (match st[n]?, st[m]? with
        | some (.lst _ _), some (.lst _ _) => some (PyI.Itr.zipL n m)
        | _, _ => none) = some J := h
      split at h'
      · rename_i w xs w' ys e1 e2
        cases h'
        obtain ⟨vs, h1, _, _⟩ := rh.lst ha e1
        obtain ⟨ws, h2, _, _⟩ := rh.lst hb e2
        exact ⟨a, b, vs, ws, rfl, .inl ⟨h1, h2, q _ _ it_zipL ⟨ha, hb⟩⟩⟩
      · cases h'
    | _ => cases h
  | _ => cases re <;> cases h
end
end PyI
end
section
/-! PyI2g: comprehensions, loops, targets. -/
set_option autoImplicit false
set_option linter.all false
set_option maxRecDepth 100000
set_option maxHeartbeats 4000000
namespace PyI
open PySem PySem.Spec PyProof.Rows L2

/-- no exception is wanted -/
def E0 : XK := fun _ _ _ => False
def TTM (M : Mdl) (E : XK) (f : Env → Sto → Res Bool) : TT := fun σ H Q => ∃ (α : List Addr) (env : Env) (st : Sto), RE M α env σ H ∧ RH M α st H ∧ PG' M E α H (f env st) (fun b _ _ H' => Q b H')
def TAM (M : Mdl) (E : XK) (f : Env → Sto → Res (List D)) : TA := fun σ H Q => ∃ (α : List Addr) (env : Env) (st : Sto), RE M α env σ H ∧ RH M α st H ∧ PG' M E α H (f env st) (fun ds α' _ H' => ∀ vs, RDs M α' H' ds vs → Q vs H')
def TOM (M : Mdl) (E : XK) (f : Env → Sto → Res (Option Int)) : TO := fun σ H Q => ∃ (α : List Addr) (env : Env) (st : Sto), RE M α env σ H ∧ RH M α st H ∧ PG' M E α H (f env st) (fun o _ _ H' => Q o H')
/-- what is wanted behind a statement -/
def KF (M : Mdl) (D : Ends) : PyI.Flow → List Addr → Sto → Hp → Prop
  | .nx env, α, _, H => ∀ σ, RE M α env σ H → D.nx σ H
  | .ret d, α, _, H => ∀ v, RD M α H d v → D.rt v H
  | .brk env, α, _, H => ∀ σ, RE M α env σ H → D.bk σ H
  | .cont env, α, _, H => ∀ σ, RE M α env σ H → D.ct σ H
def TSM (M : Mdl) (E : XK) (f : Env → Sto → Res PyI.Flow) : TS := fun D σ H => ∃ (α : List Addr) (env : Env) (st : Sto), RE M α env σ H ∧ RH M α st H ∧ PG' M E α H (f env st) (KF M D)
section
variable {M : Mdl} {X : Cx} {E : XK} {α : List Addr} {H : Hp} {st : Sto} {β : Type}
theorem PG'.noErr {E' : XK} {r : Res β} {K : β → List Addr → Sto → Hp → Prop} (h : PG' M E α H (PyI.noErr r) K) : PG' M E' α H r K := by
  cases r with
  | ok b st => exact h
  | err c d st => exact False.elim h
  | stuck => exact h
/-- an expression's wish by values -/
theorem TM.mk {f : Env → Sto → Res D} {env : Env} {σ : L2.St} {Q : VK} (re : RE M α env σ H) (rh : RH M α st H) (h : PG' M E α H (f env st) (KQ M Q)) : TM M E f σ H Q := ⟨α, env, st, re, rh, PE'.iff.mpr h⟩

/-! ### a comprehension's turns -/
section
variable {J : PyI.Itr} {K : It} {P : List Addr → Hp → Prop} {bd : D → Sto → Option Env} {ft : Env → Sto → Res Bool} {fe : Env → Sto → Res D} {n : Nat}
/-- how the target is bound, read -/
def Binds' (M : Mdl) (bd : D → Sto → Option Env) (g : TG) (own : List Nat) (σ0 : L2.St) (P0 : List Addr → Hp → Prop) : Prop :=
  ∀ (α : List Addr) (st : Sto) (H : Hp) (d : D) (v : V) (env : Env) (Q : L2.St → Hp → Prop), P0 α H → RH M α st H → RD M α H d v → bd d st = some env → (∀ σ, RE M α env σ H → L2.wipe σ own = L2.wipe σ0 own → Q σ H) → g v (L2.wipe σ0 own) H Q
theorem lc_turns (ok : ItOk M J K P) {g : TG} {own : List Nat} {σ0 : L2.St} {P0 : List Addr → Hp → Prop} (p0s : ∀ α α' H H', α <+: α' → Keep H H' → P0 α H → P0 α' H') (hb : Binds' M bd g own σ0 P0) {D0 : Addr} {Q : VK} {m0 : Nat} (hP : P α H) (hP0 : P0 α H) (rh : RH M α st H) (hn : α[n]? = some D0)
    (h : PG' M E α H (lcLoop J bd ft fe n m0 0 st) (KQ M Q)) :
    ∃ W : Nat → Nat → Hp → Prop, (∃ m, W 0 m H) ∧ ∀ i m H, W i m H →
      (K.stop i H ∧ Q (.ref D0) H) ∨ (K.go i H ∧ ∃ Nx : Hp → Prop, (∀ H', Nx H' → ∃ m', m' < m ∧ W (i + 1) m' H') ∧ ∀ x H', K.yld i H x H' → g x (L2.wipe σ0 own) H' fun σ2 H2 => L2.wipe σ2 own = L2.wipe σ0 own ∧ TTM M E0 ft σ2 H2 fun b H3 =>
        if b = true then TM M E0 fe σ2 H3 fun y H4 => ∃ acc, H4 D0 = some (.lst acc) ∧ acc.length < sizeLine ∧ Nx (upd H4 D0 (.lst (acc ++ [y]))) else Nx H3) := by
  refine ⟨fun i m H => ∃ α st, P α H ∧ P0 α H ∧ RH M α st H ∧ α[n]? = some D0 ∧ PG' M E α H (lcLoop J bd ft fe n m i st) (KQ M Q), ⟨m0, α, st, hP, hP0, rh, hn, h⟩, ?_⟩
  clear h hn rh hP hP0 m0
  rintro i m H ⟨α, st, hP, hP0, rh, hn, h⟩
  cases m with
  | zero => exact False.elim h
  | succ m =>
    have h' : PG' M E α H (match J.at i st with
      | none => .stuck
      | some none => .ok (.ref n) st
      | some (some d) => match bd d st with
        | none => .stuck
        | some env => (PyI.noErr (ft env st)).bind fun b st1 => match b with
          | false => lcLoop J bd ft fe n m (i + 1) st1
          | true => (PyI.noErr (fe env st1)).bind fun y st2 => match st2[n]? with
            | some (.lst true xs) => if xs.length < LIM then lcLoop J bd ft fe n m (i + 1) (st2.set n (.lst true (xs ++ [y]))) else .stuck
            | _ => .stuck) (KQ M Q) := h
    split at h'
    · exact False.elim h'
    · rename_i hat
      exact .inl ⟨ok.stop i α st H hP rh hat, h'.here rh _ (.ref hn)⟩
    · rename_i d hat
      split at h'
      · exact False.elim h'
      · rename_i env he
        obtain ⟨go, yl⟩ := ok.go i α st H d hP rh hat
        refine .inr ⟨go, _, fun H' nx => ⟨m, Nat.lt_succ_self m, nx⟩, fun x H' y => ?_⟩
        obtain ⟨kp, rh', rd⟩ := yl x H' y
        refine hb α st H' d x env _ (p0s _ _ _ _ (List.prefix_refl _) kp hP0) rh' rd he fun σ2 re ew => ⟨ew, α, env, st, re, rh', ?_⟩
        have h2 := (h'.later (List.prefix_refl _) kp).bind.noErr (E' := E0)
        refine h2.mono fun b α1 st1 H1 _ p1 k1 rh1 h3 => ?_
        have q1 := ok.stable _ _ _ _ p1 (kp.trans k1) hP
        have q0 := p0s _ _ _ _ p1 (kp.trans k1) hP0
        have n1 := pre_get p1 hn
        show (if b = true then _ else _)
        cases b with
        | false =>
          rw [if_neg Bool.false_ne_true]
          exact ⟨α1, st1, q1, q0, rh1, n1, h3⟩
        | true =>
          rw [if_pos rfl]
          refine TM.mk (re.keep p1 k1) rh1 ?_
          refine h3.bind.noErr.mono fun y α2 st2 H2 _ p2 k2 rh2 h4 v rv => ?_
          split at h4
          · rename_i xs hx
            split at h4
            · rename_i hl
              have n2 := pre_get p2 n1
              obtain ⟨acc, a1, a2⟩ := rh2.cell n _ D0 hx n2
              rw [lim_eq] at hl
              have kk := rh2.keepSet (o := .lst (acc ++ [v])) n2 hx rfl
              refine ⟨acc, a1, by rw [← a2.length]; exact hl, α2, _, ok.stable _ _ _ _ p2 (k2.trans kk) q1, p0s _ _ _ _ p2 (k2.trans kk) q0, rh2.set (c := .lst true (xs ++ [y])) n2 hx rfl ⟨_, upd_same, (a2.app (.cons rv .nil)).keep (List.prefix_refl _) kk⟩, n2, h4.later (List.prefix_refl _) kk⟩
            · exact False.elim h4
          · exact False.elim h4
end

/-! ### a for loop's turns -/
theorem for_turns {J : PyI.Itr} {K : It} {P : List Addr → Hp → Prop} {tg : PyI.Tg} {fb : Env → Sto → Res PyI.Flow} (ok : ItOk M J K P) {g : TG} {D0 : Ends}
    (hg : ∀ (α : List Addr) (st : Sto) (H : Hp) (d : D) (v : V) (env env' : Env) (σ : L2.St) (Q : L2.St → Hp → Prop), RH M α st H → RE M α env σ H → RD M α H d v → tgB tg d env st = some env' → (∀ σ', RE M α env' σ' H → Q σ' H) → g v σ H Q)
    {env : Env} {σ : L2.St} {m0 : Nat} (hP : P α H) (re : RE M α env σ H) (rh : RH M α st H) (h : PG' M E α H (PyI.forLoop J tg fb m0 0 env st) (KF M D0)) :
    ∃ W : Nat → Nat → L2.St → Hp → Prop, (∃ m, W 0 m σ H) ∧ ∀ i m σ H, W i m σ H →
      (K.stop i H ∧ D0.nx σ H) ∨ (K.go i H ∧ ∃ N : L2.St → Hp → Prop, (∀ σ' H', N σ' H' → ∃ m', m' < m ∧ W (i + 1) m' σ' H') ∧ ∀ x H', K.yld i H x H' → g x σ H' fun σ2 H2 => TSM M E fb { D0 with nx := N, ct := N, bk := D0.nx } σ2 H2) := by
  refine ⟨fun i m σ H => ∃ α env st, P α H ∧ RE M α env σ H ∧ RH M α st H ∧ PG' M E α H (PyI.forLoop J tg fb m i env st) (KF M D0), ⟨m0, α, env, st, hP, re, rh, h⟩, ?_⟩
  clear h re rh hP m0
  rintro i m σ H ⟨α, env, st, hP, re, rh, h⟩
  cases m with
  | zero => exact False.elim h
  | succ m =>
    have h' : PG' M E α H (match J.at i st with
      | none => .stuck
      | some none => .ok (.nx env) st
      | some (some d) => match tgB tg d env st with
        | none => .stuck
        | some env1 => (fb env1 st).bind fun f st1 => match f with
          | .nx env2 => PyI.forLoop J tg fb m (i + 1) env2 st1
          | .cont env2 => PyI.forLoop J tg fb m (i + 1) env2 st1
          | .brk env2 => .ok (.nx env2) st1
          | .ret d => .ok (.ret d) st1) (KF M D0) := h
    split at h'
    · exact False.elim h'
    · rename_i hat
      exact .inl ⟨ok.stop i α st H hP rh hat, h'.here rh σ re⟩
    · rename_i d hat
      split at h'
      · exact False.elim h'
      · rename_i env1 he
        obtain ⟨go, yl⟩ := ok.go i α st H d hP rh hat
        refine .inr ⟨go, _, fun σ' H' nx => ⟨m, Nat.lt_succ_self m, nx⟩, fun x H' y => ?_⟩
        obtain ⟨kp, rh', rd⟩ := yl x H' y
        refine hg α st H' d x env env1 σ _ rh' (re.keep (List.prefix_refl _) kp) rd he fun σ2 re2 => ⟨α, env1, st, re2, rh', ?_⟩
        refine (h'.later (List.prefix_refl _) kp).bind.mono fun f α1 st1 H1 _ p1 k1 rh1 h3 => ?_
        have q1 := ok.stable _ _ _ _ p1 (kp.trans k1) hP
        cases f with
        | nx env2 => exact fun σ3 re3 => ⟨α1, env2, st1, q1, re3, rh1, h3⟩
        | cont env2 => exact fun σ3 re3 => ⟨α1, env2, st1, q1, re3, rh1, h3⟩
        | brk env2 => exact fun σ3 re3 => h3.here rh1 σ3 re3
        | ret d => exact fun v rv => h3.here rh1 v rv
/-! ### while -/
theorem whl_turns {ft : Env → Sto → Res Bool} {fb : Env → Sto → Res PyI.Flow} {D0 : Ends} {env : Env} {σ : L2.St} {m0 : Nat} (re : RE M α env σ H) (rh : RH M α st H) (h : PG' M E α H (PyI.whlLoop ft fb m0 env st) (KF M D0)) :
    tWhile (TTM M E ft) (TSM M E fb) D0 σ H := by
  refine ⟨fun m σ H => ∃ α env st, RE M α env σ H ∧ RH M α st H ∧ PG' M E α H (PyI.whlLoop ft fb m env st) (KF M D0), ⟨m0, α, env, st, re, rh, h⟩, ?_⟩
  clear h re rh m0
  rintro m σ H ⟨α, env, st, re, rh, h⟩
  cases m with
  | zero => exact False.elim h
  | succ m =>
    have h' : PG' M E α H ((ft env st).bind fun b st1 => match b with
      | false => .ok (.nx env) st1
      | true => (fb env st1).bind fun f st2 => match f with
        | .nx env2 => PyI.whlLoop ft fb m env2 st2
        | .cont env2 => PyI.whlLoop ft fb m env2 st2
        | .brk env2 => .ok (.nx env2) st2
        | .ret d => .ok (.ret d) st2) (KF M D0) := h
    refine ⟨α, env, st, re, rh, h'.bind.mono fun b α1 st1 H1 _ p1 k1 rh1 h2 => ?_⟩
    show (if b = true then _ else _)
    cases b with
    | false =>
      rw [if_neg Bool.false_ne_true]
      exact h2.here rh1 σ (re.keep p1 k1)
    | true =>
      rw [if_pos rfl]
      refine ⟨_, fun σ' H' nx => ⟨m, Nat.lt_succ_self m, nx⟩, α1, env, st1, re.keep p1 k1, rh1, h2.bind.mono fun f α2 st2 H2 _ p2 k2 rh2 h3 => ?_⟩
      cases f with
      | nx env2 => exact fun σ3 re3 => ⟨α2, env2, st2, re3, rh2, h3⟩
      | cont env2 => exact fun σ3 re3 => ⟨α2, env2, st2, re3, rh2, h3⟩
      | brk env2 => exact fun σ3 re3 => h3.here rh2 σ3 re3
      | ret d => exact fun v rv => h3.here rh2 v rv
end

/-! ### targets -/
section
variable {M : Mdl} {X : Cx} {α : List Addr} {H : Hp} {st : Sto}
theorem idx_get {x : Str} : ∀ {N : List Str} {k i : Nat}, idx x N k = some i → k ≤ i ∧ N[i - k]? = some x
  | [], _, _, h => by cases h
  | y :: r, k, i, h => by
    unfold idx at h
    split at h
    · rename_i e
      cases h
      rw [Nat.sub_self]
      exact ⟨Nat.le_refl _, by rw [e]; rfl⟩
    · obtain ⟨h1, h2⟩ := idx_get h
      refine ⟨by omega, ?_⟩
      have e : i - k = (i - (k + 1)) + 1 := by omega
      rw [e, List.getElem?_cons_succ]
      exact h2
theorem idx0 {x : Str} {N : List Str} {i : Nat} (h : idx x N 0 = some i) : N[i]? = some x := by
  have := (idx_get h).2
  simpa using this
theorem slotW_ok {T : CT} {sc : Scope} {x : Str} {i : Nat} (h : slotW T sc x = some i) : T.N[i]? = some x ∧ Loc sc x := by
  unfold slotW at h
  split at h
  · rename_i e
    exact ⟨idx0 h, .inl e⟩
  · rename_i e
    exact ⟨idx0 h, .inr e⟩
  · cases h
theorem slot_ok {T : CT} {sc : Scope} {x : Str} {i : Nat} (h : slot T sc x = some i) : T.N[i]? = some x ∧ Vis sc x ∧ (x == ("__debug__" : Str)) = false ∧ (x == ("__classdict__" : Str)) = false := by
  unfold slot at h
  split at h
  · cases h
  · rename_i nd
    have d1 : (x == ("__debug__" : Str)) = false := by
      rw [beq_eq_false_iff_ne]
      exact fun e => nd (.inl e)
    have d2 : (x == ("__classdict__" : Str)) = false := by
      rw [beq_eq_false_iff_ne]
      exact fun e => nd (.inr e)
    split at h
    · rename_i e
      exact ⟨idx0 h, .inl e, d1, d2⟩
    · rename_i e
      exact ⟨idx0 h, .inr (.inl e), d1, d2⟩
    · rename_i e
      exact ⟨idx0 h, .inr (.inr e), d1, d2⟩
    · cases h
theorem wipe_over {σ : L2.St} {i : Nat} {x : Option V} : ∀ {own : List Nat}, i ∉ own → L2.wipe (σ.set i x) own = (L2.wipe σ own).set i x
  | [], _ => rfl
  | w :: ws, h => by
    have e := wipe_over (σ := σ) (x := x) (own := ws) fun z => h (List.mem_cons_of_mem _ z)
    have ne : w ≠ i := fun z => h (by rw [z]; exact List.mem_cons_self)
    show (L2.wipe (σ.set i x) ws).set w none = ((L2.wipe σ ws).set w none).set i x
    rw [e, List.set_comm _ _ (Ne.symm ne)]
theorem wipe_set {σ : L2.St} {i : Nat} {x : Option V} : ∀ {own : List Nat}, i ∈ own → L2.wipe (σ.set i x) own = L2.wipe σ own
  | [], h => by cases h
  | w :: ws, h => by
    show (L2.wipe (σ.set i x) ws).set w none = (L2.wipe σ ws).set w none
    by_cases z : i ∈ ws
    · rw [wipe_set z]
    · have e : i = w := by
        rcases List.mem_cons.mp h with e | e
        · exact e
        · exact absurd e z
      rw [wipe_over z, e, List.set_set]
/-- the names of an unpacking -/
def gNms : List Nat → TGs
  | [] => gNil
  | i :: is => gCons (gName i) (gNms is)
theorem pgs_names {T : CT} {sc : Scope} (hT : X.N = T.N) (hN : X.N.Nodup) (hst : ∀ x i, slotW T sc x = some i → Loc X.env.scope x ∧ (X.fn x = true ∨ X.env.scope.names.lookup x = some .local)) : ∀ {ts : List Expr} {is : List Nat}, cIds T sc ts = some is → PGs X ts (gNms is) ∧ (assignEach ts X.env).length = is.length ∧ (assignEach ts X.env).findIdx? (·.1) = none
  | [], is, h => by
    cases h
    exact ⟨pgs_nil, rfl, rfl⟩
  | .Name x p :: r, is, h => by
    have h' : (match slotW T sc x, cIds T sc r with
      | some i, some is => some (i :: is)
      | _, _ => none) = some is := h
    split at h'
    · rename_i i js e1 e2
      cases h'
      obtain ⟨q1, q2⟩ := hst x i e1
      obtain ⟨k1, k2, k3⟩ := pgs_names hT hN hst e2
      refine ⟨pgs_cons (pg_name hN (by rw [hT]; exact (slotW_ok e1).1) q1 q2) k1, congrArg (· + 1) k2, ?_⟩
      show List.findIdx? (·.1) ((false, assign (.Name x p) X.env) :: assignEach r X.env) = none
      rw [List.findIdx?_cons, if_neg Bool.false_ne_true, k3]
      rfl
    · cases h'
theorem setAll_rd : ∀ {is : List Nat} {ds : List D} {vs : List V} {env env' : Env} {σ : L2.St} {Q : L2.St → Hp → Prop}, RE M α env σ H → RDs M α H ds vs → setAll is ds env = some env' → (∀ σ', RE M α env' σ' H → (∀ own : List Nat, (∀ i ∈ is, i ∈ own) → L2.wipe σ' own = L2.wipe σ own) → Q σ' H) → gNms is vs σ H Q
  | [], [], _, env, env', σ, Q, re, rs, h, q => by
    cases rs
    cases h
    exact ⟨rfl, q σ re fun _ _ => rfl⟩
  | i :: is, d :: ds, _, env, env', σ, Q, re, rs, h, q => by
    cases rs with
    | @cons _ v _ vs r1 r2 =>
      refine ⟨v, vs, rfl, setAll_rd (re.set r1) r2 h fun σ' re' hw => q σ' re' fun own ho => ?_⟩
      rw [hw own fun j hj => ho j (List.mem_cons_of_mem _ hj)]
      exact wipe_set (ho i List.mem_cons_self)
  | [], _ :: _, _, _, _, _, _, _, _, h, _ => by cases h
  | _ :: _, [], _, _, _, _, _, _, _, h, _ => by cases h
theorem setAll_len : ∀ {is : List Nat} {ds : List D} {env env' : Env}, setAll is ds env = some env' → ds.length = is.length
  | [], [], _, _, _ => rfl
  | i :: is, d :: ds, _, _, h => by
    rw [List.length_cons, List.length_cons, setAll_len (is := is) (ds := ds) h]
  | [], _ :: _, _, _, h => by cases h
  | _ :: _, [], _, _, h => by cases h
end
end PyI
end
section
/-! PyI2h: the parts of expressions, read by the interpreter. -/
set_option autoImplicit false
set_option linter.all false
set_option maxRecDepth 100000
set_option maxHeartbeats 4000000
namespace PyI
open PySem PySem.Spec PyProof.Rows L2

/-- the module's names -/
structure GMod (M : Mdl) (glob : Str → Gk) (P : Prog) : Prop where
  free : ∀ x, glob x = .free → M.mg x = none
  data : ∀ x d, glob x = .data d → ∃ v u, M.mg x = some u ∧ RelV v u ∧ ∀ α H, RD M α H d v
  defn : ∀ x, glob x = .defn → ∃ a, M.mg x = some (.ref a) ∧ PySem.W.keepIn M.K (.ref a) = true
  exc : ∀ x, glob x = .exc → M.mg x = some (.ref (M.cls x))
  sub : SubOk M.K M.cls P.sub
/-- a def keeps what the interpreter promises -/
def GFn (P : Program) (w : World) (M : Mdl) (base : Heap) (k : Nat) (a : Addr) (F : List D → Sto → Res D) : Prop :=
  ∀ (A : Around) (outer : List PySem.Env) (s : Shared) (H : Hp) (us : List Value) (vs : List V) (α : List Addr) (st : Sto) (ds : List D) (Q : VK) (E : XK), A.guards = some [] → Room k A → Env0 P w M.K M.mg base A outer s H → Vals vs us → RH M α st H → RDs M α H ds vs → PE' M E α H (F ds st) Q →
    codeAny (model P w) A (.call (.ref a) ⟨us, []⟩) (CR (L2.CX P w) outer P w H s Q E) s
/-- the context of an expression -/
structure GX (M : Mdl) (T : CT) (P : Prog) (C : Str → List D → Sto → Res D) (kf : Nat) (X : Cx) (E : XK) (sc : Scope) : Prop where
  K : X.K = M.K
  mg : X.mg = M.mg
  N : X.N = T.N
  nd : T.N.Nodup
  calm : X.calm = true
  sc : X.env.scope = sc
  grd : X.A.guards = some []
  room : Room kf X.A
  tk : Takes X (fun c d _ H => E c d H)
  md : GMod M T.glob P
  fns : ∀ f a, M.mg f = some (.ref a) → (P.defs f).isSome = true → GFn X.prog X.w M X.base kf a (C f)
  cst : ∀ f ds st, (P.defs f).isSome = false → C f ds st = .stuck
section
variable {M : Mdl} {T : CT} {P : Prog} {C : Str → List D → Sto → Res D} {kf : Nat} {X : Cx} {E : XK} {sc : Scope} {α : List Addr} {H : Hp} {st : Sto}
theorem GX.un (G : GX M T P C kf X E sc) : X.A.units + 200 < cLine := by
  have := G.room.un
  omega
theorem GX.gl (G : GX M T P C kf X E sc) {x : Str} (h : isGl sc x = true) : Gl X x := by
  have h' := of_decide_eq_true (show decide (sc.names.lookup x = some .globalImplicit) = true from h)
  show X.env.scope.names.lookup x = _
  rw [G.sc]
  exact h'
theorem isFree_ok {x : Str} (h : isFree T x = true) : T.glob x = .free := by
  unfold isFree at h
  split at h
  · assumption
  · cases h
theorem GX.blt (G : GX M T P C kf X E sc) {x : Str} (h : blt T sc x = true) : Gl X x ∧ X.mg x = none := by
  obtain ⟨h1, h2⟩ := Bool.and_eq_true_iff.mp h
  exact ⟨G.gl h1, by rw [G.mg]; exact G.md.free x (isFree_ok h2)⟩
theorem dbg_ok {x : Str} (h : (!decide (x = ("__debug__" : Str))) = true) : (x == ("__debug__" : Str)) = false := by
  rw [beq_eq_false_iff_ne]
  intro e
  rw [decide_eq_true e] at h
  cases h
theorem GX.isDef (G : GX M T P C kf X E sc) {x : Str} (h : isDef T sc x = true) : Gl X x ∧ (∃ a, M.mg x = some (.ref a) ∧ PySem.W.keepIn M.K (.ref a) = true) ∧ (x == ("__debug__" : Str)) = false := by
  obtain ⟨h1, h3⟩ := Bool.and_eq_true_iff.mp h
  obtain ⟨h1, h2⟩ := Bool.and_eq_true_iff.mp h1
  refine ⟨G.gl h1, G.md.defn x ?_, dbg_ok h3⟩
  split at h2
  · assumption
  · cases h2
theorem GX.isExc (G : GX M T P C kf X E sc) {x : Str} (h : isExc T sc x = true) : Gl X x ∧ M.mg x = some (.ref (M.cls x)) ∧ (x == ("__debug__" : Str)) = false := by
  obtain ⟨h1, h3⟩ := Bool.and_eq_true_iff.mp h
  obtain ⟨h1, h2⟩ := Bool.and_eq_true_iff.mp h1
  refine ⟨G.gl h1, G.md.exc x ?_, dbg_ok h3⟩
  split at h2
  · assumption
  · cases h2
/-- a def of the module's is run -/
theorem GX.runs (G : GX M T P C kf X E sc) {f : Str} {a : Addr} (hm : M.mg f = some (.ref a)) {pins : List (Addr × Obj)} {s : Shared} {σ : L2.St} {vs : List V} {us : List Value} {ds : List D} {Q : VK} (I : Inv X pins σ H s) (r : Vals vs us) (rh : RH M α st H) (rs : RDs M α H ds vs) (h : PE' M E α H (C f ds st) Q) :
    wpAny (model X.prog X.w) X.A (call (.ref a) us) (EP X pins σ Q) X.xe s := by
  cases hd : (P.defs f).isSome with
  | false =>
    rw [G.cst f ds st hd] at h
    exact False.elim h
  | true =>
    have F := G.fns f a hm hd
    refine wpAny_call (codeAny_mono (F X.A X.stack s H us vs α st ds Q E G.grd G.room ?_ r rh rs h) fun r s' hq => ?_)
    · rw [← G.K, ← G.mg]
      exact I.env0
    · cases r with
      | error e => exact passAt G.tk σ pins H s e s' I hq
      | ok fl =>
        cases fl with
        | ret u => exact I.after hq
        | next => exact False.elim hq
        | brk => exact False.elim hq
        | cont => exact False.elim hq

/-! ### names, constants -/
theorem g_const {v : V} {d : D} {e : Expr} (h : PE X e (tC v)) (hr : ∀ α H, RD M α H d v) : PE X e (TM M E fun _ st => .ok d st) := h.imp fun σ H Q ⟨α, env, st, re, rh, q⟩ =>
  q α v H (List.prefix_refl _) (.refl _) rh (hr _ _)
theorem g_var (G : GX M T P C kf X E sc) {x : Str} {i : Nat} {pos : Pos} (h : slot T sc x = some i) : PE X (.Name x pos) (TM M E (evE P C (.var i))) := by
  obtain ⟨h1, h2, h3, h4⟩ := slot_ok h
  refine (pe_var (i := i) (by rw [G.N]; exact h1) (by rw [G.sc]; exact h2) h3 h4).imp fun σ H Q ⟨α, env, st, re, rh, q⟩ => ?_
  have q' : PE' M E α H (match env[i]? with
    | some (some d) => .ok d st
    | _ => .stuck) Q := q
  split at q'
  · rename_i d e
    obtain ⟨v, e1, e2⟩ := re.at_ i d e
    exact ⟨v, e1, q' α v H (List.prefix_refl _) (.refl _) rh e2⟩
  · exact False.elim q'
theorem g_glob (G : GX M T P C kf X E sc) {x : Str} {d : D} {pos : Pos} (h : (if isGl sc x && !decide (x = ("__debug__" : Str)) then (match T.glob x with
        | .data d => some d
        | .defn => some (.fn x)
        | _ => none) else none) = some d) : PE X (.Name x pos) (TM M E fun _ st => .ok d st) := by
  split at h
  · rename_i hc
    obtain ⟨h1, h2⟩ := Bool.and_eq_true_iff.mp hc
    split at h
    · rename_i d' e
      cases h
      obtain ⟨v, u, e1, e2, e3⟩ := G.md.data x d e
      exact g_const (pe_glob (G.gl h1) (by rw [G.mg]; exact e1) e2 (dbg_ok h2)) e3
    · rename_i e
      cases h
      obtain ⟨a, e1, e2⟩ := G.md.defn x e
      exact g_const (pe_glob (v := .ref a) (u := .ref a) (G.gl h1) (by rw [G.mg]; exact e1) rfl (dbg_ok h2)) fun α H => .fn e1 e2
    · cases h
  · cases h

/-! ### two parts -/
theorem g_bin {a b : Expr} {fa fb : Env → Sto → Res D} {op : Operator} {f : D → D → Sto → Option (D × Sto)} {pos : Pos} (ho : OpR X (binaryOp op) (R2p M f)) (ha : PE X a (TM M E fa)) (hb : PE X b (TM M E fb)) :
    PE X (.BinOp a op b pos) (TM M E fun env st => (fa env st).bind fun x st => (fb env st).bind fun y st => .opt (f x y st)) := (pe_op ho ha hb).imp fun σ H Q ⟨α, env, st, re, rh, h⟩ => by
  refine TM.then re rh (PE'.iff.mp h) fun x st1 α1 H1 v p1 k1 re1 rh1 rx h1 => TM.then re1 rh1 h1 fun y st2 α2 H2 w p2 k2 re2 rh2 ry h2 => ?_
  obtain ⟨d, st3, e, q⟩ := h2.opt
  exact ⟨α2, st2, x, y, d, st3, rh2, rx.keep p2 k2, ry, e, fun α' u H' p k rh' rd => q α' H' p k rh' u rd⟩
theorem g_ix {a b : Expr} {fa fb : Env → Sto → Res D} {f : D → D → Sto → Option D} {pos : Pos} (ho : IxR X (R2v M f)) (hs : PlainIx b) (ha : PE X a (TM M E fa)) (hb : PE X b (TM M E fb)) :
    PE X (.Subscript a b pos) (TM M E fun env st => (fa env st).bind fun x st => (fb env st).bind fun y st => .opt0 (f x y st) st) := (pe_ix ho ha hb hs).imp fun σ H Q ⟨α, env, st, re, rh, h⟩ => by
  refine TM.then re rh (PE'.iff.mp h) fun x st1 α1 H1 v p1 k1 re1 rh1 rx h1 => TM.then re1 rh1 h1 fun y st2 α2 H2 w p2 k2 re2 rh2 ry h2 => ?_
  obtain ⟨d, e, q⟩ := h2.opt0 rh2
  exact ⟨α2, st2, x, y, d, rh2, rx.keep p2 k2, ry, e, fun u rd => q u rd⟩
theorem r2b_of {f : D → D → Sto → Option Bool} {x y : D} {v w : V} {Q : VK} {β : Type} {g : Bool → β} {K : β → List Addr → Sto → Hp → Prop} (rh : RH M α st H) (rx : RD M α H x v) (ry : RD M α H y w) (h : PG' M E α H (.opt0 ((f x y st).map g) st) K) (hq : ∀ b, f x y st = some b → K (g b) α st H → Q (.bl b) H) : R2b M f v w H Q := by
  obtain ⟨d, e, q⟩ := h.opt0 rh
  obtain ⟨b, e1, e2⟩ := Option.map_eq_some_iff.mp e
  subst e2
  exact ⟨α, st, x, y, b, rh, rx, ry, e1, hq b e1 q⟩
theorem g_cmp {a b : Expr} {fa fb : Env → Sto → Res D} {op : CmpOp} {f : D → D → Sto → Option Bool} {pos : Pos} (ho : OpR X (compareOp op) (R2b M f)) (hm : behindInMarks op b = false) (ha : PE X a (TM M E fa)) (hb : PE X b (TM M E fb)) :
    PE X (.Compare a [op] [b] pos) (TM M E fun env st => (fa env st).bind fun x st => (fb env st).bind fun y st => .opt0 ((f x y st).map D.bl) st) ∧
    PT X (.Compare a [op] [b] pos) (TTM M E fun env st => (fa env st).bind fun x st => (fb env st).bind fun y st => .opt0 (f x y st) st) := by
  refine ⟨(pe_cmpR ho ha hb hm).imp fun σ H Q ⟨α, env, st, re, rh, h⟩ => ?_, (pt_cmpR ho ha hb hm).imp fun σ H Q ⟨α, env, st, re, rh, h⟩ => ?_⟩
  · refine TM.then re rh (PE'.iff.mp h) fun x st1 α1 H1 v p1 k1 re1 rh1 rx h1 => TM.then re1 rh1 h1 fun y st2 α2 H2 w p2 k2 re2 rh2 ry h2 => ?_
    exact r2b_of rh2 (rx.keep p2 k2) ry h2 fun b _ q => q _ (.bl b)
  · refine TM.then re rh h fun x st1 α1 H1 v p1 k1 re1 rh1 rx h1 => TM.then re1 rh1 h1 fun y st2 α2 H2 w p2 k2 re2 rh2 ry h2 => ?_
    obtain ⟨b, e, q⟩ := h2.opt0 rh2
    exact ⟨α2, st2, x, y, b, rh2, rx.keep p2 k2, ry, e, b, rfl, q⟩
theorem g_chain {a b c : Expr} {fa fb fc : Env → Sto → Res D} {op op' : CmpOp} {f f' : D → D → Sto → Option Bool} {pos : Pos} (ho : OpR X (compareOp op) (R2b M f)) (ho' : OpR X (compareOp op') (R2b M f')) (hm : lastMarks [op, op'] [b, c] = false) (ha : PE X a (TM M E fa)) (hb : PE X b (TM M E fb)) (hc : PE X c (TM M E fc)) :
    PE X (.Compare a [op, op'] [b, c] pos) (TM M E fun env st => (fa env st).bind fun x st => (fb env st).bind fun y st => match f x y st with
      | none => .stuck
      | some false => .ok (.bl false) st
      | some true => (fc env st).bind fun z st => .opt0 ((f' y z st).map D.bl) st) ∧
    PT X (.Compare a [op, op'] [b, c] pos) (TTM M E fun env st => (fa env st).bind fun x st => (fb env st).bind fun y st => match f x y st with
      | none => .stuck
      | some false => .ok false st
      | some true => (fc env st).bind fun z st => .opt0 (f' y z st) st) := by
  refine ⟨(L2.pe_chain ho ho' ha hb hc hm).imp fun σ H Q ⟨α, env, st, re, rh, h⟩ => ?_, (L2.pt_chain ho ho' ha hb hc hm).imp fun σ H Q ⟨α, env, st, re, rh, h⟩ => ?_⟩
  · refine TM.then re rh (PE'.iff.mp h) fun x st1 α1 H1 v p1 k1 re1 rh1 rx h1 => TM.then re1 rh1 h1 fun y st2 α2 H2 w p2 k2 re2 rh2 ry h2 => ?_
    split at h2
    · exact False.elim h2
    · rename_i e
      exact ⟨α2, st2, x, y, false, rh2, rx.keep p2 k2, ry, e, false, rfl, by rw [if_neg Bool.false_ne_true]; exact h2.here rh2 _ (.bl false)⟩
    · rename_i e
      refine ⟨α2, st2, x, y, true, rh2, rx.keep p2 k2, ry, e, true, rfl, ?_⟩
      rw [if_pos rfl]
      refine TM.then re2 rh2 h2 fun z st3 α3 H3 u p3 k3 re3 rh3 rz h3 => ?_
      exact r2b_of rh3 (ry.keep p3 k3) rz h3 fun b _ q => q _ (.bl b)
  · refine TM.then re rh h fun x st1 α1 H1 v p1 k1 re1 rh1 rx h1 => TM.then re1 rh1 h1 fun y st2 α2 H2 w p2 k2 re2 rh2 ry h2 => ?_
    split at h2
    · exact False.elim h2
    · rename_i e
      exact ⟨α2, st2, x, y, false, rh2, rx.keep p2 k2, ry, e, false, rfl, by rw [if_neg Bool.false_ne_true]; exact ⟨false, rfl, h2.here rh2⟩⟩
    · rename_i e
      refine ⟨α2, st2, x, y, true, rh2, rx.keep p2 k2, ry, e, true, rfl, ?_⟩
      rw [if_pos rfl]
      refine TM.then re2 rh2 h2 fun z st3 α3 H3 u p3 k3 re3 rh3 rz h3 => ?_
      obtain ⟨b, e, q⟩ := h3.opt0 rh3
      exact ⟨α3, st3, y, z, b, rh3, ry.keep p3 k3, rz, e, b, rfl, q⟩

/-! ### one part, truth -/
theorem g_neg {a : Expr} {fa : Env → Sto → Res D} {pos : Pos} (ha : PE X a (TM M E fa)) : PE X (.UnaryOp .USub a pos) (TM M E fun env st => (fa env st).bind fun x st => match x with
    | .int i => .ok (.int (-i)) st
    | _ => .stuck) := (pe_un un_neg ha).imp fun σ H Q ⟨α, env, st, re, rh, h⟩ => by
  refine TM.then re rh (PE'.iff.mp h) fun x st1 α1 H1 v p1 k1 re1 rh1 rx h1 => ?_
  split at h1
  · cases rx
    rename_i i
    exact ⟨i, rfl, h1.here rh1 _ (.int _)⟩
  · exact False.elim h1
theorem g_notE (hK : X.K = M.K) {a : Expr} {fa : Env → Sto → Res D} {pos : Pos} (ha : PE X a (TM M E fa)) : PE X (.UnaryOp .Not a pos) (TM M E fun env st => (fa env st).bind fun x st => .opt0 ((truth x st).map fun b => D.bl (!b)) st) := (pe_notT ha).imp fun σ H Q ⟨α, env, st, re, rh, h⟩ => by
  refine TM.then re rh (PE'.iff.mp h) fun x st1 α1 H1 v p1 k1 re1 rh1 rx h1 => ?_
  obtain ⟨d, e, q⟩ := h1.opt0 rh1
  obtain ⟨b, e1, e2⟩ := Option.map_eq_some_iff.mp e
  subst e2
  exact ⟨b, dyn_tru hK rh1 rx e1, q _ (.bl _)⟩
theorem g_notT {a : Expr} {fa : Env → Sto → Res Bool} {pos : Pos} (ha : PT X a (TTM M E fa)) : PT X (.UnaryOp .Not a pos) (TTM M E fun env st => (fa env st).bind fun b st => .ok (!b) st) := (pt_not ha).imp fun σ H Q ⟨α, env, st, re, rh, h⟩ =>
  ⟨α, env, st, re, rh, h.bind.mono fun b α1 st1 H1 _ p k rh1 h1 => h1.here rh1⟩
theorem g_truth (hK : X.K = M.K) {a : Expr} {fa : Env → Sto → Res D} (ha : PE X a (TM M E fa)) (he : ∀ whole, isTrue a X.env whole = (do let v ← whole; standAt a.pos; holding [v] (truthy v))) : PT X a (TTM M E fun env st => (fa env st).bind fun x st => .opt0 (truth x st) st) := (pt_truth ha he).imp fun σ H Q ⟨α, env, st, re, rh, h⟩ => by
  refine TM.then re rh h fun x st1 α1 H1 v p1 k1 re1 rh1 rx h1 => ?_
  obtain ⟨b, e, q⟩ := h1.opt0 rh1
  exact ⟨b, dyn_tru hK rh1 rx e, q⟩
theorem g_andE {a b : Expr} {rest : List Expr} {fa fb : Env → Sto → Res D} {pos : Pos} (ha : PE X a (TM M E fa)) (hb : PE X (.BoolOp .And (b :: rest) pos) (TM M E fb)) : PE X (.BoolOp .And (a :: b :: rest) pos) (TM M E fun env st => (fa env st).bind fun x st => match x with
    | .bl true => fb env st
    | .bl false => .ok (.bl false) st
    | _ => .stuck) := (L2.pe_and ha hb).imp fun σ H Q ⟨α, env, st, re, rh, h⟩ => by
  refine TM.then re rh (PE'.iff.mp h) fun x st1 α1 H1 v p1 k1 re1 rh1 rx h1 => ?_
  split at h1
  · cases rx
    exact ⟨true, rfl, by rw [if_pos rfl]; exact TM.mk re1 rh1 h1⟩
  · cases rx
    exact ⟨false, rfl, by rw [if_neg Bool.false_ne_true]; exact h1.here rh1 _ (.bl false)⟩
  · exact False.elim h1
theorem g_orE {a b : Expr} {rest : List Expr} {fa fb : Env → Sto → Res D} {pos : Pos} (ha : PE X a (TM M E fa)) (hb : PE X (.BoolOp .Or (b :: rest) pos) (TM M E fb)) : PE X (.BoolOp .Or (a :: b :: rest) pos) (TM M E fun env st => (fa env st).bind fun x st => match x with
    | .bl true => .ok (.bl true) st
    | .bl false => fb env st
    | _ => .stuck) := (L2.pe_or ha hb).imp fun σ H Q ⟨α, env, st, re, rh, h⟩ => by
  refine TM.then re rh (PE'.iff.mp h) fun x st1 α1 H1 v p1 k1 re1 rh1 rx h1 => ?_
  split at h1
  · cases rx
    exact ⟨true, rfl, by rw [if_pos rfl]; exact h1.here rh1 _ (.bl true)⟩
  · cases rx
    exact ⟨false, rfl, by rw [if_neg Bool.false_ne_true]; exact TM.mk re1 rh1 h1⟩
  · exact False.elim h1
theorem _root_.L2.PW.imp {e : Expr} {t t' : TT} (h : PW X e t) (i : ∀ σ H Q, t' σ H Q → t σ H Q) : PW X e t' := ⟨fun wh pins s σ H Q I q => h.run wh pins s σ H Q I (i σ H Q q)⟩
theorem g_andT {a b : Expr} {rest : List Expr} {fa fb : Env → Sto → Res Bool} {pos : Pos} (ha : PT X a (TTM M E fa)) (hb : PW X (.BoolOp .And (b :: rest) pos) (TTM M E fb)) : PW X (.BoolOp .And (a :: b :: rest) pos) (TTM M E fun env st => (fa env st).bind fun x st => match x with
    | true => fb env st
    | false => .ok false st) := (pw_and ha hb).imp fun σ H Q ⟨α, env, st, re, rh, h⟩ =>
  ⟨α, env, st, re, rh, h.bind.mono fun b α1 st1 H1 _ p k rh1 h1 => by
    show (if b = true then _ else _)
    cases b with
    | true => exact ⟨α1, env, st1, re.keep p k, rh1, h1⟩
    | false => exact h1.here rh1⟩
theorem g_orT {a b : Expr} {rest : List Expr} {fa fb : Env → Sto → Res Bool} {pos : Pos} (ha : PT X a (TTM M E fa)) (hb : PW X (.BoolOp .Or (b :: rest) pos) (TTM M E fb)) : PW X (.BoolOp .Or (a :: b :: rest) pos) (TTM M E fun env st => (fa env st).bind fun x st => match x with
    | true => .ok true st
    | false => fb env st) := (pw_or ha hb).imp fun σ H Q ⟨α, env, st, re, rh, h⟩ =>
  ⟨α, env, st, re, rh, h.bind.mono fun b α1 st1 H1 _ p k rh1 h1 => by
    show (if b = true then _ else _)
    cases b with
    | true => exact h1.here rh1
    | false => exact ⟨α1, env, st1, re.keep p k, rh1, h1⟩⟩
theorem g_ite {c a b : Expr} {fc : Env → Sto → Res Bool} {fa fb : Env → Sto → Res D} {pos : Pos} (hc : PT X c (TTM M E fc)) (ha : PE X a (TM M E fa)) (hb : PE X b (TM M E fb)) : PE X (.IfExp c a b pos) (TM M E fun env st => (fc env st).bind fun t st => match t with
    | true => fa env st
    | false => fb env st) := (pe_ifExp hc ha hb).imp fun σ H Q ⟨α, env, st, re, rh, h⟩ =>
  ⟨α, env, st, re, rh, (PE'.iff.mp h).bind.mono fun b α1 st1 H1 _ p k rh1 h1 => by
    show (if b = true then _ else _)
    cases b with
    | true => exact TM.mk (re.keep p k) rh1 h1
    | false => exact TM.mk (re.keep p k) rh1 h1⟩
theorem g_iteT {c a b : Expr} {fc fa fb : Env → Sto → Res Bool} {pos : Pos} (hc : PT X c (TTM M E fc)) (ha : PT X a (TTM M E fa)) (hb : PT X b (TTM M E fb)) : PT X (.IfExp c a b pos) (TTM M E fun env st => (fc env st).bind fun t st => match t with
    | true => fa env st
    | false => fb env st) := by
  refine ⟨fun pins s σ H Q I ⟨α, env, st, re, rh, h⟩ => PyProof.Rows.isTrue_IfExp (thn (hc.run pins s σ H (fun b H1 => ∃ α1 st1, RE M α1 env σ H1 ∧ RH M α1 st1 H1 ∧ PG' M E α1 H1 (match b with
    | true => fa env st1
    | false => fb env st1) (fun b _ _ H' => Q b H')) I ⟨α, env, st, re, rh, h.bind.mono fun b α1 st1 H1 _ p k rh1 h1 => ⟨α1, st1, re.keep p k, rh1, h1⟩⟩) fun b s1 ⟨H1, I1, α1, st1, re1, rh1, h1⟩ => ?_)⟩
  cases b with
  | true => exact ha.run pins s1 σ H1 Q I1 ⟨α1, env, st1, re1, rh1, h1⟩
  | false => exact hb.run pins s1 σ H1 Q I1 ⟨α1, env, st1, re1, rh1, h1⟩
end
end PyI
end
section
/-! PyI2i: lists of expressions, calls, built-ins. -/
set_option autoImplicit false
set_option linter.all false
set_option maxRecDepth 100000
set_option maxHeartbeats 4000000
namespace PyI
open PySem PySem.Spec PyProof.Rows L2
section
variable {M : Mdl} {T : CT} {P : Prog} {C : Str → List D → Sto → Res D} {kf : Nat} {X : Cx} {E : XK} {sc : Scope} {α : List Addr} {H : Hp} {st : Sto}
/-- what the compiled expression is: rules for it -/
def EOk (M : Mdl) (P : Prog) (C : Str → List D → Sto → Res D) (X : Cx) (E : XK) (f : Expr → Option IE) : Prop :=
  ∀ e ie, f e = some ie → PE X e (TM M E (evE P C ie)) ∧ PT X e (TTM M E (evT P C ie)) ∧ ∀ es, starEach (e :: es) X.env = (false, eval e X.env) :: starEach es X.env
variable {f : Expr → Option IE}
theorem starred_one (e : Expr) (p : Pos) (es : List Expr) (env : PySem.Env) : starEach (.Starred e p :: es) env = (true, eval e env) :: starEach es env := by rfl
theorem g_cons {e : Expr} {es : List Expr} {ie : IE} {ies : IEs} (he : PE X e (TM M E (evE P C ie))) (hs : starEach (e :: es) X.env = (false, eval e X.env) :: starEach es X.env) (hr : PA X es (TAM M E (evEs P C ies))) : PA X (e :: es) (TAM M E (evEs P C (.cons false ie ies))) := (pa_cons he hr hs).imp fun σ H Q ⟨α, env, st, re, rh, h⟩ => by
  have h' : PG' M E α H ((evE P C ie env st).bind fun x st => (evEs P C ies env st).bind fun xs st => .ok (x :: xs) st) (fun ds α' _ H' => ∀ vs, RDs M α' H' ds vs → Q vs H') := h
  refine TM.then re rh h' fun x st1 α1 H1 v p1 k1 re1 rh1 rx h1 => ⟨α1, env, st1, re1, rh1, h1.bind.mono fun xs α2 st2 H2 _ p2 k2 rh2 h2 vs rs => h2.here rh2 (v :: vs) (.cons (rx.keep p2 k2) rs)⟩
theorem g_star (hK : X.K = M.K) {e : Expr} {es : List Expr} {ie : IE} {ies : IEs} {p : Pos} (he : PE X e (TM M E (evE P C ie))) (hr : PA X es (TAM M E (evEs P C ies))) : PA X (.Starred e p :: es) (TAM M E (evEs P C (.cons true ie ies))) := (StX.pa_star he hr (starred_one _ _ _ _)).imp fun σ H Q ⟨α, env, st, re, rh, h⟩ => by
  have h' : PG' M E α H ((evE P C ie env st).bind fun x st => match seqOf x st with
    | some ys => (evEs P C ies env st).bind fun xs st => .ok (ys ++ xs) st
    | none => .stuck) (fun ds α' _ H' => ∀ vs, RDs M α' H' ds vs → Q vs H') := h
  refine TM.then re rh h' fun x st1 α1 H1 v p1 k1 re1 rh1 rx h1 => ?_
  split at h1
  · rename_i ys e
    obtain ⟨a, vs, rfl, hs, rs⟩ := seq_at rh1 rx e
    refine ⟨a, vs, rfl, by rw [hK]; exact hs.symm, α1, env, st1, re1, rh1, h1.bind.mono fun xs α2 st2 H2 _ p2 k2 rh2 h2 ws rs2 => h2.here rh2 (vs ++ ws) ((rs.keep p2 k2).app rs2)⟩
  · exact False.elim h1
theorem g_nil : PA X [] (TAM M E (evEs P C .nil)) := pa_nil.imp fun σ H Q ⟨α, env, st, re, rh, h⟩ => h.here rh [] .nil
theorem cEs_ok (hK : X.K = M.K) (ok : EOk M P C X E f) : ∀ {es : List Expr} {ies : IEs}, cEs f es = some ies → PA X es (TAM M E (evEs P C ies))
  | [], _, h => by
    cases h
    exact g_nil
  | e :: es, ies, h => by
    by_cases hs : ∃ x p, e = .Starred x p
    · obtain ⟨x, p, rfl⟩ := hs
      have h' : (match f x, cEs f es with
        | some e', some r' => some (IEs.cons true e' r')
        | _, _ => none) = some ies := h
      split at h'
      · rename_i e' r' e1 e2
        cases h'
        exact g_star hK (ok x e' e1).1 (cEs_ok hK ok e2)
      · cases h'
    · have h' : (match f e, cEs f es with
        | some e', some r' => some (IEs.cons false e' r')
        | _, _ => none) = some ies := by
        cases e with
        | Starred x p => exact absurd ⟨x, p, rfl⟩ hs
        | _ => exact h
      split at h'
      · rename_i e' r' e1 e2
        cases h'
        exact g_cons (ok e e' e1).1 ((ok e e' e1).2.2 es) (cEs_ok hK ok e2)
      · cases h'
theorem cEp_ok (ok : EOk M P C X E f) : ∀ {es : List Expr} {ies : IEs}, cEp f es = some ies → PA X es (TAM M E (evEs P C ies)) ∧ (∀ pos : Pos, (backTo pos (starEach es X.env)).any (·.1) = false) ∧ ∀ e r, es = e :: r → starEach es X.env = (false, eval e X.env) :: starEach r X.env ∧ ∀ pos : Pos, (backTo pos (starEach r X.env)).any (·.1) = false
  | [], _, h => by
    cases h
    exact ⟨g_nil, fun _ => rfl, fun e r z => by cases z⟩
  | e :: es, ies, h => by
    have h' : (match f e, cEp f es with
        | some e', some r' => some (IEs.cons false e' r')
        | _, _ => none) = some ies := h
    split at h'
    · rename_i e' r' e1 e2
      cases h'
      obtain ⟨h1, h2, h3⟩ := cEp_ok ok e2
      have hs := (ok e e' e1).2.2 es
      refine ⟨g_cons (ok e e' e1).1 hs h1, fun pos => ?_, fun e0 r0 z => ?_⟩
      · rw [hs]
        show (false || (backTo pos (starEach es X.env)).any (·.1)) = false
        rw [h2 pos]
        rfl
      · cases z
        exact ⟨hs, h2⟩
    · cases h'

/-! ### displays -/
theorem g_tup {es : List Expr} {ies : IEs} {k : Nat} {pos : Pos} (ha : PA X es (TAM M E (evEs P C ies))) : PE X (.Tuple es k pos) (TM M E (evE P C (.tup ies))) := (pe_tup (x1 := k) ha).imp fun σ H Q ⟨α, env, st, re, rh, h⟩ => by
  have h' : PG' M E α H ((evEs P C ies env st).bind fun ds st => if ds.length ≤ LIM then .ok (.tup ds) st else .stuck) (KQ M Q) := PE'.iff.mp h
  refine ⟨α, env, st, re, rh, h'.bind.mono fun ds α1 st1 H1 _ p1 k1 rh1 h1 vs rs => ?_⟩
  split at h1
  · rename_i hl
    rw [lim_eq] at hl
    have q : Qk M α1 H1 (.tup ds) st1 Q := fun α' v H' p k r rd => h1 α' H' p k r v rd
    exact ⟨by rw [← rs.length]; exact hl, fun p hp => q.tup rh1 hp rs⟩
  · exact False.elim h1
theorem g_lst {es : List Expr} {ies : IEs} {k : Nat} {pos : Pos} (ha : PA X es (TAM M E (evEs P C ies))) : PE X (.List es pos) (TM M E (evE P C (.lst ies))) := (pe_lst ha).imp fun σ H Q ⟨α, env, st, re, rh, h⟩ => by
  have h' : PG' M E α H ((evEs P C ies env st).bind fun ds st => if ds.length ≤ LIM then .opt (some (new (.lst true ds) st)) else .stuck) (KQ M Q) := PE'.iff.mp h
  refine ⟨α, env, st, re, rh, h'.bind.mono fun ds α1 st1 H1 _ p1 k1 rh1 h1 vs rs => ?_⟩
  split at h1
  · rename_i hl
    rw [lim_eq] at hl
    have q : Qk M α1 H1 (.ref st1.length) (st1 ++ [.lst true ds]) Q := fun α' v H' p k r rd => h1 α' H' p k r v rd
    exact ⟨by rw [← rs.length]; exact hl, fun p hp => q.lst rh1 hp rs⟩
  · exact False.elim h1
/-- the pairs of a display, read -/
def fPairs (P : Prog) (C : Str → List D → Sto → Res D) (M : Mdl) (E : XK) : IEs → List (TE × TE)
  | .cons _ k (.cons _ v r) => (TM M E (evE P C k), TM M E (evE P C v)) :: fPairs P C M E r
  | _ => []
theorem cDic_ok (ok : EOk M P C X E f) {pos : Pos} : ∀ {ks : List (Option Expr)} {vs : List Expr} {ies : IEs}, cDic f ks vs = some ies → PPs X pos ks vs (fPairs P C M E ies) ∧ ks.all (·.isSome) = true ∧ ks.length = vs.length
  | [], [], ies, h => by
    cases h
    exact ⟨pps_nil, rfl, rfl⟩
  | some k :: ks, v :: vs, ies, h => by
    have h' : (match f k, f v, cDic f ks vs with
      | some k', some v', some r' => some (IEs.cons false k' (.cons false v' r'))
      | _, _, _ => none) = some ies := h
    split at h'
    · rename_i k' v' r' e1 e2 e3
      cases h'
      obtain ⟨h1, h2, h3⟩ := cDic_ok ok (pos := pos) e3
      exact ⟨pps_cons (ok k k' e1).1 (ok v v' e2).1 h1, h2, by rw [List.length_cons, List.length_cons, h3]⟩
    · cases h'
  | [], _ :: _, _, h => by cases h
  | none :: _, _, _, h => by cases h
  | some _ :: _, [], _, h => by cases h
/-- the keys and values of pairs -/
inductive PrV : List V → List (V × V) → Prop
  | nil : PrV [] []
  | cons {k v : V} {r : List V} {ps : List (V × V)} : PrV r ps → PrV (k :: v :: r) ((k, v) :: ps)
theorem g_pairs {σ : L2.St} {env : Env} : ∀ {n : Nat} {ks : List (Option Expr)} {vs : List Expr} {ies : IEs}, ks.length = n → cDic f ks vs = some ies → ∀ {α : List Addr} {H : Hp} {st : Sto} {R : List (V × V) → Hp → Prop}, RE M α env σ H → RH M α st H →
    PG' M E α H (evEs P C ies env st) (fun ds α' st' H' => ∀ ws ps, RDs M α' H' ds ws → PrV ws ps → R ps H') → tPairs (fPairs P C M E ies) σ H R
  | 0, [], [], ies, _, h, α, H, st, R, re, rh, q => by
    cases h
    exact q.here rh [] [] .nil .nil
  | n + 1, some k :: ks, v :: vs, ies, hn, h, α, H, st, R, re, rh, q => by
    have h' : (match f k, f v, cDic f ks vs with
      | some k', some v', some r' => some (IEs.cons false k' (.cons false v' r'))
      | _, _, _ => none) = some ies := h
    split at h'
    · rename_i k' v' r' e1 e2 e3
      cases h'
      have q' : PG' M E α H ((evE P C k' env st).bind fun x st => ((evE P C v' env st).bind fun y st => (evEs P C r' env st).bind fun xs st => .ok (y :: xs) st).bind fun xs st => .ok (x :: xs) st) (fun ds α' st' H' => ∀ ws ps, RDs M α' H' ds ws → PrV ws ps → R ps H') := q
      refine TM.then re rh q' fun x st1 α1 H1 u p1 k1 re1 rh1 rx h1 => TM.then re1 rh1 h1.bind fun y st2 α2 H2 w p2 k2 re2 rh2 ry h2 => ?_
      refine g_pairs (n := n) (by simpa using hn) e3 re2 rh2 (h2.bind.mono fun xs α3 st3 H3 _ p3 k3 rh3 h3 ws ps rs pr => ?_)
      exact (h3.here rh3).here rh3 (u :: w :: ws) ((u, w) :: ps) (.cons ((rx.keep p2 k2).keep p3 k3) (.cons (ry.keep p3 k3) rs)) (.cons pr)
    · cases h'
  | 0, _ :: _, _, _, hn, _, _, _, _, _, _, _, _ => by cases hn
  | _ + 1, [], _, _, hn, _, _, _, _, _, _, _, _ => by cases hn
  | _, [], _ :: _, _, _, h, _, _, _, _, _, _, _ => by cases h
  | _, none :: _, _, _, _, h, _, _, _, _, _, _, _ => by cases h
  | _, some _ :: _, [], _, _, h, _, _, _, _, _, _, _ => by cases h
theorem pairs_rd : ∀ {ds : List D} {kvs : List (D × D)} {ws : List V} {ps : List (V × V)}, pairs ds = some kvs → RDs M α H ds ws → PrV ws ps → ∃ ks : List (Key × V), ps = ks.map (fun kv => (kV kv.1, kv.2)) ∧ RKs M α H kvs ks ∧ ks.length = kvs.length
  | [], kvs, _, _, h, rs, pr => by
    cases h
    cases rs
    cases pr
    exact ⟨[], rfl, .nil, rfl⟩
  | [_], _, _, _, h, _, _ => by cases h
  | k :: v :: r, kvs, _, _, h, rs, pr => by
    have h' : (if keyD k then (pairs r).map ((k, v) :: ·) else none) = some kvs := h
    split at h'
    · rename_i hk
      obtain ⟨kvs', e1, e2⟩ := Option.map_eq_some_iff.mp h'
      subst e2
      cases rs with
      | cons r1 rs =>
        cases rs with
        | cons r2 rs =>
          cases pr with
          | cons pr =>
            obtain ⟨ks, f1, f2, f3⟩ := pairs_rd e1 rs pr
            cases k with
            | int i =>
              cases r1
              exact ⟨(.inl i, _) :: ks, by rw [f1]; rfl, .cons rfl r2 f2, by rw [List.length_cons, List.length_cons, f3]⟩
            | str x =>
              cases r1
              exact ⟨(.inr x, _) :: ks, by rw [f1]; rfl, .cons rfl r2 f2, by rw [List.length_cons, List.length_cons, f3]⟩
            | _ => cases hk
    · cases h'
theorem g_dic (ok : EOk M P C X E f) {ks : List (Option Expr)} {vs : List Expr} {ies : IEs} {pos : Pos} (h : cDic f ks vs = some ies) (h0 : ks ≠ []) (h15 : ks.length ≤ 15) : PE X (.Dict ks vs pos) (TM M E (evE P C (.dic ies))) := by
  obtain ⟨h1, h2, h3⟩ := cDic_ok ok (pos := pos) h
  refine (pe_disp h1 h2 h3 h0 h15).imp fun σ H Q ⟨α, env, st, re, rh, q⟩ p hp => ?_
  have q' : PG' M E α H ((evEs P C ies env (st ++ [.dct true []])).bind fun ds st' => match pairs ds, st'[st.length]? with
    | some kvs, some (.dct true []) => if kvs.length ≤ 15 then .opt (some (.ref st.length, st'.set st.length (.dct true (putAll [] kvs)))) else .stuck
    | _, _ => .stuck) (KQ M Q) := PE'.iff.mp q
  have sm : Keep H (upd H p (.dK [])) := .of (same_new hp)
  have rh' : RH M (α ++ [p]) (st ++ [.dct true []]) (upd H p (.dK [])) := rh.new hp ⟨[], upd_same, .nil⟩
  refine g_pairs rfl h (re.keep (List.prefix_append _ _) sm) rh' ((q'.bind.later (List.prefix_append _ _) sm).mono fun ds α1 st1 H1 _ p1 k1 rh1 h1 ws ps rs pr => ?_)
  split at h1
  · rename_i kvs e1 e2
    split at h1
    · rename_i hl
      have hn : α1[st.length]? = some p := pre_get p1 (by rw [← rh.len, List.getElem?_append_right (Nat.le_refl _), Nat.sub_self]; rfl)
      obtain ⟨vs0, a1, a2⟩ := rh1.cell _ _ p e2 hn
      cases a2
      obtain ⟨kk, f1, f2, f3⟩ := pairs_rd e1 rs pr
      refine ⟨a1, kk, f1, by rw [f3]; exact hl, ?_⟩
      have q : Qk M α1 H1 (.ref st.length) (st1.set st.length (.dct true (putAll [] kvs))) Q := fun α' v H' p k r rd => h1 α' H' p k r v rd
      exact q.wrD rh1 hn e2 rfl (putAll_rd f2 .nil) (.ref hn)
    · exact False.elim h1
  · exact False.elim h1

/-! ### calls -/
/-- no star stands in the arguments -/
def NoSt (X : Cx) (es : List Expr) (ies : IEs) : Prop := (es = [] → ies = .nil) ∧ ∀ e r, es = e :: r → starEach es X.env = (false, eval e X.env) :: starEach r X.env ∧ ∀ pos : Pos, (backTo pos (starEach r X.env)).any (·.1) = false
theorem cEp_no (ok : EOk M P C X E f) {es : List Expr} {ies : IEs} (h : cEp f es = some ies) : PA X es (TAM M E (evEs P C ies)) ∧ NoSt X es ies := by
  obtain ⟨h1, h2, h3⟩ := cEp_ok ok h
  refine ⟨h1, fun z => ?_, h3⟩
  subst z
  cases h
  rfl
/-- the call of a def, its value at hand -/
theorem g_run (G : GX M T P C kf X E sc) {x : Str} {a : Addr} {es : List Expr} {ies : IEs} {pos : Pos} (hm : M.mg x = some (.ref a)) (kp : PySem.W.keepIn M.K (.ref a) = true) (ha : PA X es (TAM M E (evEs P C ies))) (hs : NoSt X es ies) {pins : List (Addr × Obj)} {s : Shared} {σ : L2.St} {Q : VK} {env : Env}
    (I : Inv X pins σ H s) (re : RE M α env σ H) (rh : RH M α st H) (q : PG' M E α H ((evEs P C ies env st).bind fun ds st => C x ds st) (KQ M Q)) :
    wpAny (model X.prog X.w) X.A (callWith pos (.ref a) [] (backTo pos (starEach es X.env)) (backToKw pos (keywordEach [] X.env))) (EP X pins σ Q) X.xe s := by
  have wish : TAM M E (evEs P C ies) σ H (fun vs H1 => ∃ (α : List Addr) (st : Sto) (ds : List D), RH M α st H1 ∧ RDs M α H1 ds vs ∧ PE' M E α H1 (C x ds st) Q) := ⟨α, env, st, re, rh, q.bind.mono fun ds α1 st1 H1 _ p1 k1 rh1 h1 vs rs => ⟨α1, st1, ds, rh1, rs, PE'.iff.mpr h1⟩⟩
  cases es with
  | nil =>
    refine PySem.W.callWith_K0 I.kIn (by rw [G.K]; exact kp) ?_
    rw [hs.1 rfl] at q
    exact G.runs hm I .nil rh .nil (PE'.iff.mpr q)
  | cons e r =>
    obtain ⟨s1, s2⟩ := hs.2 e r rfl
    refine PySem.W.callWith_K (h₀ := X.base) I.ok.mod.kin (by rw [G.K]; exact kp) (thn (ha.run pos pins s σ H _ I wish) fun us s1 ⟨vs, H1, I1, r, α1, st1, ds, rh1, rs, q1⟩ => ⟨I1.kIn, ?_⟩) s1 (s2 pos)
    exact G.runs hm I1 r rh1 rs q1
theorem g_call (G : GX M T P C kf X E sc) {x : Str} {es : List Expr} {ies : IEs} {p pos : Pos} (hd : isDef T sc x = true) (ha : PA X es (TAM M E (evEs P C ies))) (hs : NoSt X es ies) : PE X (.Call (.Name x p) es [] pos) (TM M E (evE P C (.call x ies))) := by
  obtain ⟨h1, ⟨a, h2, kp⟩, h3⟩ := G.isDef hd
  refine ⟨fun pins s σ H Q I ⟨α, env, st, re, rh, q⟩ => wpAny_Call_Name_kw (ld_glob I h1 (by rw [G.mg]; exact h2) ?_ h3)⟩
  exact g_run G h2 kp ha hs I re rh (PE'.iff.mp q)
theorem g_callV (G : GX M T P C kf X E sc) {x : Str} {i : Nat} {es : List Expr} {ies : IEs} {p pos : Pos} (hi : slot T sc x = some i) (ha : PA X es (TAM M E (evEs P C ies))) (hs : NoSt X es ies) : PE X (.Call (.Name x p) es [] pos) (TM M E (evE P C (.callV i ies))) := by
  obtain ⟨h1, h2, h3, h4⟩ := slot_ok hi
  refine ⟨fun pins s σ H Q I ⟨α, env, st, re, rh, q⟩ => ?_⟩
  have q' : PG' M E α H (match env[i]? with
    | some (some (.fn f)) => (evEs P C ies env st).bind fun ds st => C f ds st
    | _ => .stuck) (KQ M Q) := PE'.iff.mp q
  split at q'
  · rename_i f ef
    obtain ⟨v, e1, e2⟩ := re.at_ i _ ef
    cases e2 with
    | @fn _ a hm kp =>
      refine wpAny_Call_Name_kw (thn ((pe_var (pos := p) (i := i) (by rw [G.N]; exact h1) (by rw [G.sc]; exact h2) h3 h4).run pins s σ H (fun v H1 => v = .ref a ∧ H1 = H) I ⟨_, e1, rfl, rfl⟩) fun u s1 ⟨v, H1, I1, r1, ev, eH⟩ => ?_)
      subst ev eH
      obtain rfl : u = Value.ref a := r1
      exact g_run G hm kp ha hs I1 re rh q'
  · exact False.elim q'
end
end PyI
end
section
/-! PyI2j: built-ins, methods, slices, comprehensions in place. -/
set_option autoImplicit false
set_option linter.all false
set_option maxRecDepth 100000
set_option maxHeartbeats 4000000
namespace PyI
open PySem PySem.Spec PyProof.Rows L2
section
variable {M : Mdl} {T : CT} {P : Prog} {C : Str → List D → Sto → Res D} {kf : Nat} {X : Cx} {E : XK} {sc : Scope} {α : List Addr} {H : Hp} {st : Sto} {f : Expr → Option IE}

/-! ### built-ins -/
def biV : BI → Value
  | .len => .builtin "len"
  | .all => .builtin "all"
  | .any => .builtin "any"
  | .tuple => .type "tuple"
  | .list => .type "list"
  | .sorted => .builtin "sorted"
  | .int => .type "int"
  | .str => .type "str"
  | .abs => .builtin "abs"
  | .max => .builtin "max"
  | .min => .builtin "min"
  | .sum => .builtin "sum"
  | .repr => .builtin "repr"
def biN : BI → Str
  | .len => "len"
  | .all => "all"
  | .any => "any"
  | .tuple => "tuple"
  | .list => "list"
  | .sorted => "sorted"
  | .int => "int"
  | .str => "str"
  | .abs => "abs"
  | .max => "max"
  | .min => "min"
  | .sum => "sum"
  | .repr => "repr"
theorem boot_bi : ∀ b : BI, bootBuiltins (biN b) = some (biV b) := by
  intro b
  cases b <;> (show bootBuiltins _ = some _; decide +kernel)
theorem cBi_name {x : Str} {b : BI} (h : cBi x = some b) : x = biN b := by
  unfold cBi at h
  by_cases e : x = "len"
  · rw [if_pos e] at h
    cases h
    exact e
  rw [if_neg e] at h
  clear e
  by_cases e : x = "all"
  · rw [if_pos e] at h
    cases h
    exact e
  rw [if_neg e] at h
  clear e
  by_cases e : x = "any"
  · rw [if_pos e] at h
    cases h
    exact e
  rw [if_neg e] at h
  clear e
  by_cases e : x = "tuple"
  · rw [if_pos e] at h
    cases h
    exact e
  rw [if_neg e] at h
  clear e
  by_cases e : x = "list"
  · rw [if_pos e] at h
    cases h
    exact e
  rw [if_neg e] at h
  clear e
  by_cases e : x = "sorted"
  · rw [if_pos e] at h
    cases h
    exact e
  rw [if_neg e] at h
  clear e
  by_cases e : x = "int"
  · rw [if_pos e] at h
    cases h
    exact e
  rw [if_neg e] at h
  clear e
  by_cases e : x = "str"
  · rw [if_pos e] at h
    cases h
    exact e
  rw [if_neg e] at h
  clear e
  by_cases e : x = "abs"
  · rw [if_pos e] at h
    cases h
    exact e
  rw [if_neg e] at h
  clear e
  by_cases e : x = "max"
  · rw [if_pos e] at h
    cases h
    exact e
  rw [if_neg e] at h
  clear e
  by_cases e : x = "min"
  · rw [if_pos e] at h
    cases h
    exact e
  rw [if_neg e] at h
  clear e
  by_cases e : x = "sum"
  · rw [if_pos e] at h
    cases h
    exact e
  rw [if_neg e] at h
  clear e
  by_cases e : x = "repr"
  · rw [if_pos e] at h
    cases h
    exact e
  rw [if_neg e] at h
  clear e
  cases h
theorem biN_ok : ∀ b : BI, biN b ≠ ("__name__" : Str) ∧ (biN b == ("__debug__" : Str)) = false := by
  intro b
  cases b <;> decide
theorem dyn_bi (G : GX M T P C kf X E sc) (b : BI) : CallR X (biV b) (RCp M (evB b)) := by
  have hu := G.un
  cases b
  · exact dyn_len G.K
  · exact dyn_all G.K G.calm
  · exact dyn_any G.K G.calm
  · exact dyn_tuple G.K
  · exact dyn_list G.K
  · exact dyn_sorted G.K (by omega)
  · exact dyn_int1
  · exact dyn_str1
  · exact dyn_abs
  · exact dyn_max G.calm
  · exact dyn_min G.calm
  · exact dyn_sum G.K G.calm
  · exact dyn_repr G.K G.grd (by omega)
theorem rcp_of {b : BI} {ies : IEs} {σ : L2.St} {env : Env} {Q : VK} (re : RE M α env σ H) (rh : RH M α st H) (q : PE' M E α H (evE P C (.bi b ies) env st) Q) : tCB (RCp M (evB b)) (TAM M E (evEs P C ies)) σ H Q := by
  have q' : PG' M E α H ((evEs P C ies env st).bind fun ds st => .opt (evB b ds st)) (KQ M Q) := PE'.iff.mp q
  refine ⟨α, env, st, re, rh, q'.bind.mono fun ds α1 st1 H1 _ p1 k1 rh1 h1 vs rs => ?_⟩
  obtain ⟨d, st2, e, w⟩ := h1.opt
  exact ⟨α1, st1, ds, d, st2, rh1, rs, e, fun α' u H' p k rh' rd => w α' H' p k rh' u rd⟩
theorem g_bi (G : GX M T P C kf X E sc) {x : Str} {b : BI} {e : Expr} {es : List Expr} {ies : IEs} {p pos : Pos} (hb : blt T sc x = true) (hx : cBi x = some b) (ha : PA X (e :: es) (TAM M E (evEs P C ies))) (hs : NoSt X (e :: es) ies) : PE X (.Call (.Name x p) (e :: es) [] pos) (TM M E (evE P C (.bi b ies))) := by
  have ex := cBi_name hx
  obtain ⟨h1, h2⟩ := G.blt hb
  obtain ⟨n1, n2⟩ := biN_ok b
  obtain ⟨s1, s2⟩ := hs.2 e es rfl
  have hv := boot_bi b
  rw [← ex] at hv n1 n2
  have hc := dyn_bi G b
  have go : ∀ {Q : VK} {σ : L2.St} {H : Hp}, TM M E (evE P C (.bi b ies)) σ H Q → tCB (RCp M (evB b)) (TAM M E (evEs P C ies)) σ H Q := fun {Q σ H} ⟨α, env, st, re, rh, q⟩ => rcp_of re rh q
  cases b
  case tuple => exact (pe_callTy hc h1 h2 hv ha n1 n2 s1 (s2 pos)).imp fun σ H Q h => go h
  case list => exact (pe_callTy hc h1 h2 hv ha n1 n2 s1 (s2 pos)).imp fun σ H Q h => go h
  case int => exact (pe_callTy hc h1 h2 hv ha n1 n2 s1 (s2 pos)).imp fun σ H Q h => go h
  case str => exact (pe_callTy hc h1 h2 hv ha n1 n2 s1 (s2 pos)).imp fun σ H Q h => go h
  all_goals exact (pe_callB hc h1 h2 hv ha n1 n2 s1 (s2 pos)).imp fun σ H Q h => go h
theorem g_plain (G : GX M T P C kf X E sc) (ok : EOk M P C X E f) {x : Str} {es : List Expr} {ie : IE} {p pos : Pos} (h : cPlain T sc f x es = some ie) : PE X (.Call (.Name x p) es [] pos) (TM M E (evE P C ie)) := by
  unfold cPlain at h
  split at h
  · rename_i hd
    obtain ⟨ies, e1, e2⟩ := Option.map_eq_some_iff.mp h
    subst e2
    obtain ⟨a1, a2⟩ := cEp_no ok e1
    exact g_call G hd a1 a2
  · split at h
    · rename_i hb
      obtain ⟨hb', hne⟩ := Bool.and_eq_true_iff.mp hb
      split at h
      · rename_i b ies e1 e2
        cases h
        obtain ⟨a1, a2⟩ := cEp_no ok e2
        cases es with
        | nil => cases hne
        | cons e es => exact g_bi G hb' e1 a1 a2
      · cases h
    · cases h

/-! ### isinstance -/
theorem cTy_pe (G : GX M T P C kf X E sc) {y : Str} {t : Ty} {p : Pos} (h : cTy T sc y = some t) : PE X (.Name y p) (tC (tyVal M t)) := by
  unfold cTy at h
  split at h
  · rename_i hb
    obtain ⟨h1, h2⟩ := G.blt hb
    have go : ∀ n : String, bootBuiltins y = some (.type n) → y ≠ ("__name__" : Str) → (y == ("__debug__" : Str)) = false → PE X (.Name y p) (tC (.ty n)) := fun n hv n1 n2 => pe_bltn h1 h2 hv rfl n1 n2
    split at h
    · rename_i e
      cases h
      subst e
      exact go _ (by decide +kernel) (by decide) (by decide)
    · split at h
      · rename_i e
        cases h
        subst e
        exact go _ (by decide +kernel) (by decide) (by decide)
      · split at h
        · rename_i e
          cases h
          subst e
          exact go _ (by decide +kernel) (by decide) (by decide)
        · split at h
          · rename_i e
            cases h
            subst e
            exact go _ (by decide +kernel) (by decide) (by decide)
          · split at h
            · rename_i e
              cases h
              subst e
              exact go _ (by decide +kernel) (by decide) (by decide)
            · cases h
  · split at h
    · rename_i he
      cases h
      obtain ⟨h1, h2, h3⟩ := G.isExc he
      exact pe_glob (v := .ref (M.cls y)) (u := .ref (M.cls y)) h1 (by rw [G.mg]; exact h2) rfl h3
    · cases h
theorem g_isi (G : GX M T P C kf X E sc) (ok : EOk M P C X E f) {e : Expr} {y : Str} {ie : IE} {p q pos : Pos} (hb : blt T sc "isinstance" = true) (h : cIsi T sc f e y = some ie) : PE X (.Call (.Name "isinstance" p) [e, .Name y q] [] pos) (TM M E (evE P C ie)) := by
  unfold cIsi at h
  split at h
  · rename_i t e' e1 e2
    cases h
    obtain ⟨k1, k2, k3⟩ := ok e e' e2
    have hy := cTy_pe G (p := q) e1
    obtain ⟨h1, h2⟩ := G.blt hb
    have ha : PA X [e, .Name y q] (tCons (TM M E (evE P C e')) (tCons (tC (tyVal M t)) tNil)) := pa_cons k1 (pa_cons hy pa_nil) (k3 _)
    refine (pe_callB (dyn_isi G.K G.md.sub t) h1 h2 PyProof.Rows.boot_isinstance ha (by decide) (by decide) (k3 _) rfl).imp fun σ H Q ⟨α, env, st, re, rh, q⟩ => ?_
    have q' : PG' M E α H ((evE P C e' env st).bind fun x st => .opt0 ((isiB t P.sub x st).map D.bl) st) (KQ M Q) := PE'.iff.mp q
    refine TM.then re rh q' fun x st1 α1 H1 v p1 k1 re1 rh1 rx h1 => ?_
    obtain ⟨d, e, w⟩ := h1.opt0 rh1
    obtain ⟨b, f1, f2⟩ := Option.map_eq_some_iff.mp e
    subst f2
    exact ⟨α1, st1, x, v, b, rfl, rh1, rx, f1, w _ (.bl b)⟩
  · cases h

/-! ### fields, methods -/
theorem g_fld (G : GX M T P C kf X E sc) {e : Expr} {ie : IE} {pos : Pos} (he : PE X e (TM M E (evE P C ie))) (hb : attributeBase e "value" X.env (eval e X.env) = eval e X.env) : PE X (.Attribute e "value" pos) (TM M E (evE P C (.fld ie))) := (pe_fld G.K he hb).imp fun σ H Q ⟨α, env, st, re, rh, q⟩ => by
  have q' : PG' M E α H ((evE P C ie env st).bind fun x st => match x with
    | .exc c v => if P.sub c c = some true then .ok v st else .stuck
    | _ => .stuck) (KQ M Q) := PE'.iff.mp q
  refine TM.then re rh q' fun x st1 α1 H1 v p1 k1 re1 rh1 rx h1 => ?_
  split at h1
  · split at h1
    · rename_i hc
      cases rx with
      | @exc _ _ a xa w a1 a2 a3 => exact ⟨a, _, xa, w, rfl, a1, a2, G.md.sub.own _ hc, h1.here rh1 _ a3⟩
    · exact False.elim h1
  · exact False.elim h1
theorem base_ok {o : Expr} {m : Str} {env : PySem.Env} (h : noSuper o = true) : attributeBase o m env (eval o env) = eval o env := by
  cases o with
  | Call => cases h
  | _ => rfl
theorem few_ok {pos : Pos} {env : PySem.Env} : ∀ {es : List Expr} {n : Nat}, (backTo pos (starEach es env)).any (·.1) = false → es.length < 20 → ((backTo pos (starEach es env)).all (fun x => !x.1) && (backToKw pos (keywordEach [] env)).all (fun x => x.1.isSome) && decide (es.length + ([] : List Keyword).length + (if ([] : List Keyword).isEmpty then 0 else 1) < 30)) = true := by
  intro es n h hl
  have h1 : (backTo pos (starEach es env)).all (fun x => !x.1) = true := by
    rw [List.all_eq_true]
    intro x hx
    have := List.any_eq_false.mp h x hx
    simpa using this
  rw [h1]
  have h2 : (es.length + ([] : List Keyword).length + (if ([] : List Keyword).isEmpty then 0 else 1) < 30) := by
    show es.length + 0 + 0 < 30
    omega
  rw [decide_eq_true h2]
  rfl
theorem g_meth (G : GX M T P C kf X E sc) {o e : Expr} {es : List Expr} {m : MT} {nm : Str} {io : IE} {ies : IEs} {apos pos : Pos} (hm : cMt nm = some m) (ho : PE X o (TM M E (evE P C io))) (ha : PA X (e :: es) (TAM M E (evEs P C ies))) (hs : NoSt X (e :: es) ies)
    (hsup : noSuper o = true) (hl : (apos.endLine == pos.line) = true) (h20 : (e :: es).length < 20) : PE X (.Call (.Attribute o nm apos) (e :: es) [] pos) (TM M E (evE P C (.meth m io ies))) := by
  obtain ⟨s1, s2⟩ := hs.2 e es rfl
  have hany : (backTo pos (starEach (e :: es) X.env)).any (·.1) = false := by
    rw [s1]
    show (false || (backTo pos (starEach es X.env)).any (·.1)) = false
    rw [s2 pos]
    rfl
  have few := few_ok (n := 0) hany h20
  have go : ∀ {Q : VK} {σ : L2.St} {H : Hp}, TM M E (evE P C (.meth m io ies)) σ H Q → tBM X.K m.name (RMt M m) (TM M E (evE P C io)) (TAM M E (evEs P C ies)) σ H Q := fun {Q σ H} ⟨α, env, st, re, rh, q⟩ => by
    have q' : PG' M E α H ((evE P C io env st).bind fun x st => if kindB x st = some m.name then (evEs P C ies env st).bind fun ds st => .opt (methB m x ds st) else .stuck) (KQ M Q) := PE'.iff.mp q
    refine TM.then re rh q' fun x st1 α1 H1 v p1 k1 re1 rh1 rx h1 => ?_
    split at h1
    · rename_i hk
      refine ⟨meth_ty G.K rh1 rx hk, α1, env, st1, re1, rh1, h1.bind.mono fun ds α2 st2 H2 _ p2 k2 rh2 h2 vs rs => ?_⟩
      obtain ⟨d, st3, e, w⟩ := h2.opt
      exact ⟨α2, st2, x, ds, d, st3, rh2, rx.keep p2 k2, rs, e, fun α' u H' p k rh' rd => w α' H' p k rh' u rd⟩
    · exact False.elim h1
  unfold cMt at hm
  split at hm
  · rename_i e0
    cases hm
    subst e0
    exact (pe_bm F.plainAttrs_list F.slot_list_append F.type_list_append dyn_append ho ha (base_ok hsup) few hl s1 (s2 pos)).imp fun σ H Q h => go h
  · split at hm
    · rename_i e0
      cases hm
      subst e0
      exact (pe_bm F.plainAttrs_list F.slot_list_extend F.type_list_extend dyn_extend ho ha (base_ok hsup) few hl s1 (s2 pos)).imp fun σ H Q h => go h
    · split at hm
      · rename_i e0
        cases hm
        subst e0
        exact (pe_bm F.plainAttrs_dict F.slot_dict_update F.type_dict_update dyn_update ho ha (base_ok hsup) few hl s1 (s2 pos)).imp fun σ H Q h => go h
      · cases hm

/-! ### slices -/
theorem cO_ok (ok : EOk M P C X E f) {o : Option Expr} {io : IO} (h : cO f o = some io) : PO X o (TOM M E (evO P C io)) := by
  cases o with
  | none =>
    cases h
    exact ⟨fun pins s σ H Q I ⟨α, env, st, re, rh, q⟩ => po_none.run pins s σ H Q I (q.here rh)⟩
  | some e =>
    obtain ⟨ie, e1, e2⟩ := Option.map_eq_some_iff.mp (show (f e).map IO.some = some io from h)
    subst e2
    refine ⟨fun pins s σ H Q I ⟨α, env, st, re, rh, q⟩ => (po_some (ok e ie e1).1).run pins s σ H Q I ?_⟩
    have q' : PG' M E α H ((evE P C ie env st).bind fun x st => match x with
      | .int i => .ok (some i) st
      | _ => .stuck) (fun o _ _ H' => Q o H') := q
    refine TM.then re rh q' fun x st1 α1 H1 v p1 k1 re1 rh1 rx h1 => ?_
    split at h1
    · cases rx
      exact ⟨_, rfl, h1.here rh1⟩
    · exact False.elim h1
theorem g_slc (G : GX M T P C kf X E sc) {o : Expr} {lo hi : Option Expr} {io : IE} {il ih : IO} {p pos : Pos} (ho : PE X o (TM M E (evE P C io))) (hl : PO X lo (TOM M E (evO P C il))) (hh : PO X hi (TOM M E (evO P C ih))) :
    PE X (.Subscript o (.Slice lo hi none p) pos) (TM M E (evE P C (.slc io il ih))) := (pe_slice (dyn_slc G.K) ho hl hh).imp fun σ H Q ⟨α, env, st, re, rh, q⟩ => by
  have q' : PG' M E α H ((evE P C io env st).bind fun x st => (evO P C il env st).bind fun l st => (evO P C ih env st).bind fun h st => .opt (slcB x l h st)) (KQ M Q) := PE'.iff.mp q
  refine TM.then re rh q' fun x st1 α1 H1 v p1 k1 re1 rh1 rx h1 => ⟨α1, env, st1, re1, rh1, h1.bind.mono fun l α2 st2 H2 _ p2 k2 rh2 h2 => ⟨α2, env, st2, re1.keep p2 k2, rh2, h2.bind.mono fun h α3 st3 H3 _ p3 k3 rh3 h3 => ?_⟩⟩
  obtain ⟨d, st4, e, w⟩ := h3.opt
  exact ⟨α3, st3, x, d, st4, rh3, (rx.keep p2 k2).keep p3 k3, e, fun α' u H' p k rh' rd => w α' H' p k rh' u rd⟩
theorem g_rev (G : GX M T P C kf X E sc) {o : Expr} {io : IE} {k : Nat} {p1 p2 p3 pos : Pos} (ho : PE X o (TM M E (evE P C io))) : PE X (.Subscript o (.Slice none none (some (.UnaryOp .USub (.Constant (.int 1) k p1) p2)) p3) pos) (TM M E (evE P C (.rev io))) := (pe_rev ho).imp fun σ H Q ⟨α, env, st, re, rh, q⟩ => by
  have q' : PG' M E α H ((evE P C io env st).bind fun x st => .opt (revB x st)) (KQ M Q) := PE'.iff.mp q
  refine TM.then re rh q' fun x st1 α1 H1 v p1 k1 re1 rh1 rx h1 => ?_
  obtain ⟨d, st2, e, w⟩ := h1.opt
  rw [G.K]
  exact rev_at rh1 rx e fun α' u H' p k rh' rd => w α' H' p k rh' u rd

/-! ### list(range(..)) -/
theorem rgD_rd {a b : Int} : RDs M α H (rngD a b) (rgV a b) := by
  unfold rngD rgV
  generalize List.range (b - a).toNat = l
  induction l with
  | nil => exact .nil
  | cons n l ih => exact .cons (.int _) ih
theorem rgOk_ok {a b : Int} (h : rngOk a b = true) : RgOk a b := by
  unfold rngOk at h
  simp only [Bool.and_eq_true, decide_eq_true_eq] at h
  obtain ⟨⟨⟨⟨h1, h2⟩, h3⟩, h4⟩, h5⟩ := h
  exact ⟨h1, h2, h3, h4, by rw [show (2 : Nat) ^ 24 = LIM from rfl]; exact h5⟩
theorem rng_wish {x y : D} {v w : V} {Q : VK} (rh : RH M α st H) (rx : RD M α H x v) (ry : RD M α H y w) (h : PG' M E α H (match x, y with
    | .int i, .int j => if rngOk i j then .opt (some (new (.lst true (rngD i j)) st)) else .stuck
    | _, _ => .stuck) (KQ M Q)) : ∃ i j, v = .int i ∧ w = .int j ∧ RgOk i j ∧ ∀ q, H q = none → Q (.ref q) (upd H q (.lst (rgV i j))) := by
  split at h
  · rename_i i j
    split at h
    · rename_i hr
      cases rx
      cases ry
      have q : Qk M α H (.ref st.length) (st ++ [.lst true (rngD i j)]) Q := fun α' v H' p k r rd => h α' H' p k r v rd
      exact ⟨i, j, rfl, rfl, rgOk_ok hr, fun p hp => q.lst rh hp rgD_rd⟩
    · exact False.elim h
  · exact False.elim h
theorem g_lrng (G : GX M T P C kf X E sc) (ok : EOk M P C X E f) {es : List Expr} {ie : IE} {p q r pos : Pos} (hb : blt T sc "list" = true) (hb2 : blt T sc "range" = true) (h : cListRg f es = some ie) : PE X (.Call (.Name "list" p) [.Call (.Name "range" q) es [] r] [] pos) (TM M E (evE P C ie)) := by
  obtain ⟨h1, h2⟩ := G.blt hb
  obtain ⟨g1, g2⟩ := G.blt hb2
  match es, h with
  | [b], h =>
    obtain ⟨ib, e1, e2⟩ := Option.map_eq_some_iff.mp (show (f b).map (fun b' => IE.lrng (.int 0) b') = some ie from h)
    subst e2
    obtain ⟨k1, _, k3⟩ := ok b ib e1
    refine (pe_listRg G.calm h1 h2 (prg_1 g1 g2 k1 (k3 _)) rfl).imp fun σ H Q ⟨α, env, st, re, rh, q⟩ => ?_
    have q' : PG' M E α H ((evE P C ib env st).bind fun y st => match D.int 0, y with
      | .int i, .int j => if rngOk i j then .opt (some (new (.lst true (rngD i j)) st)) else .stuck
      | _, _ => .stuck) (KQ M Q) := PE'.iff.mp q
    refine TM.then re rh q' fun y st1 α1 H1 v p1 k1 re1 rh1 ry h1 => ?_
    obtain ⟨i, j, e1, rfl, e3, e4⟩ := rng_wish rh1 (.int 0) ry h1
    cases e1
    exact ⟨j, rfl, e3, e4⟩
  | [a, b], h =>
    have h' : (match f a, f b with
      | some a', some b' => some (IE.lrng a' b')
      | _, _ => none) = some ie := h
    split at h'
    · rename_i ia ib e1 e2
      cases h'
      obtain ⟨k1, _, k3⟩ := ok a ia e1
      obtain ⟨l1, _, l3⟩ := ok b ib e2
      have hp : (backTo r (starEach [b] X.env)).any (·.1) = false := by
        rw [l3]
        rfl
      refine (pe_listRg G.calm h1 h2 (prg_2 g1 g2 k1 l1 (k3 _) (l3 _) hp) rfl).imp fun σ H Q ⟨α, env, st, re, rh, q⟩ => ?_
      have q' : PG' M E α H ((evE P C ia env st).bind fun x st => (evE P C ib env st).bind fun y st => match x, y with
        | .int i, .int j => if rngOk i j then .opt (some (new (.lst true (rngD i j)) st)) else .stuck
        | _, _ => .stuck) (KQ M Q) := PE'.iff.mp q
      refine TM.then re rh q' fun x st1 α1 H1 v p1 k1 re1 rh1 rx h1 => TM.then re1 rh1 h1 fun y st2 α2 H2 w p2 k2 re2 rh2 ry h2 => ?_
      obtain ⟨i, j, rfl, rfl, e3, e4⟩ := rng_wish rh2 (rx.keep p2 k2) ry h2
      exact ⟨i, j, rfl, rfl, e3, e4⟩
    · cases h'
end
end PyI
end
section
/-! PyI2k: targets, iterables, comprehensions in place. -/
set_option autoImplicit false
set_option linter.all false
set_option maxRecDepth 100000
set_option maxHeartbeats 4000000
namespace PyI
open PySem PySem.Spec PyProof.Rows L2
section
variable {M : Mdl} {T : CT} {P : Prog} {C : Str → List D → Sto → Res D} {kf : Nat} {X : Cx} {E : XK} {sc : Scope} {α : List Addr} {H : Hp} {st : Sto} {f : Expr → Option IE}

/-! ### targets -/
def tgIx : PyI.Tg → List Nat
  | .nm i => [i]
  | .tp is => is
/-- the reading of a target -/
def gTgt (K : PySem.W.Frag) : PyI.Tg → TG
  | .nm i => gName i
  | .tp is => gTup K is.length (gNms is)
theorem tgt_rd (hK : X.K = M.K) {t : PyI.Tg} {d : D} {v : V} {env env' : Env} {σ : L2.St} {Q : L2.St → Hp → Prop} (re : RE M α env σ H) (rd : RD M α H d v) (h : tgB t d env st = some env') (q : ∀ σ', RE M α env' σ' H → (∀ own : List Nat, (∀ i ∈ tgIx t, i ∈ own) → L2.wipe σ' own = L2.wipe σ own) → Q σ' H) : gTgt X.K t v σ H Q := by
  cases t with
  | nm i =>
    cases h
    exact q _ (re.set rd) fun own ho => wipe_set (ho i List.mem_cons_self)
  | tp is =>
    cases rd with
    | @tup ds a vs ht hs =>
      have h' : setAll is ds env = some env' := h
      exact ⟨a, vs, rfl, by rw [hK]; exact ht.sq, by rw [← hs.length]; exact setAll_len h', setAll_rd re hs h' q⟩
    | _ => cases h
theorem cTg_pg {s : Scope} (hc : X.calm = true) (hT : X.N = T.N) (hN : T.N.Nodup) (hst : ∀ x i, slotW T s x = some i → Loc X.env.scope x ∧ (X.fn x = true ∨ X.env.scope.names.lookup x = some .local)) {tg : Expr} {t : PyI.Tg} (h : cTg T s tg = some t) : PG X tg (gTgt X.K t) := by
  cases tg with
  | Name x p =>
    obtain ⟨i, e1, e2⟩ := Option.map_eq_some_iff.mp (show (slotW T s x).map PyI.Tg.nm = some t from h)
    subst e2
    obtain ⟨q1, q2⟩ := hst x i e1
    exact pg_name (by rw [hT]; exact hN) (by rw [hT]; exact (slotW_ok e1).1) q1 q2
  | Tuple es k p =>
    obtain ⟨is, e1, e2⟩ := Option.map_eq_some_iff.mp (show (cIds T s es).map PyI.Tg.tp = some t from h)
    subst e2
    obtain ⟨k1, k2, k3⟩ := pgs_names hT (by rw [hT]; exact hN) hst e1
    exact pg_tup hc k1 k2 k3
  | _ => cases h

/-! ### iterables -/
theorem set_ok {e : Expr} (h : noSet e = true) (x : Value) (env : PySem.Env) : foldedSetIterable e env x = pure x := by
  cases e with
  | Set => cases h
  | _ => rfl
/-- what a compiled iterable gives -/
structure IOk (M : Mdl) (P : Prog) (C : Str → List D → Sto → Res D) (X : Cx) (E : XK) (tg iter : Expr) (it : IT) : Prop where
  pi : PI X tg iter (TIM M E (evI P C it))
  fo : ∀ x, foldedSetIterable iter X.env x = pure x
  keys : ∀ ie, it = .e ie → PI X tg iter (iKeys (TM M E (evE P C ie)))
theorem iok_e (hK : X.K = M.K) {tg iter : Expr} {ie : IE} (he : PE X iter (TM M E (evE P C ie))) (fo : ∀ x, foldedSetIterable iter X.env x = pure x) : IOk M P C X E tg iter (.e ie) where
  pi := (pi_seq he).imp fun σ H R ⟨α, env, st, re, rh, q⟩ => by
    have q' : PG' M E α H ((evE P C ie env st).bind fun x st => .opt0 (itOf x st) st) (KI M R) := q
    refine TM.then re rh q' fun x st1 α1 H1 v p1 k1 re1 rh1 rx h1 => ?_
    obtain ⟨J, e, w⟩ := h1.opt0 rh1
    rw [hK]
    exact itOf_at rh1 rx e w
  fo := fo
  keys := fun ie' e => by
    cases e
    exact pi_keys he
theorem args2 {ia ib : IE} {σ : L2.St} {env : Env} {K : D × D → List Addr → Sto → Hp → Prop} {R : List V → Hp → Prop} (re : RE M α env σ H) (rh : RH M α st H) (h : PG' M E α H ((evE P C ia env st).bind fun x st => (evE P C ib env st).bind fun y st => .ok (x, y) st) K)
    (hR : ∀ x y v w α1 st1 H1, RH M α1 st1 H1 → RD M α1 H1 x v → RD M α1 H1 y w → K (x, y) α1 st1 H1 → R [v, w] H1) : tCons (TM M E (evE P C ia)) (tCons (TM M E (evE P C ib)) tNil) σ H R :=
  TM.then re rh h fun x st1 α1 H1 v p1 k1 re1 rh1 rx h1 => TM.then re1 rh1 h1 fun y st2 α2 H2 w p2 k2 re2 rh2 ry h2 => hR x y v w α2 st2 H2 rh2 (rx.keep p2 k2) ry (h2.here rh2)
theorem bind_ok2 {ra : Res D} {rb : Sto → Res D} {β : Type} {g : D → D → Sto → Res β} {K : β → List Addr → Sto → Hp → Prop} (h : PG' M E α H (ra.bind fun x st => (rb st).bind fun y st => g x y st) K) :
    PG' M E α H (ra.bind fun x st => (rb st).bind fun y st => .ok (x, y) st) (fun p α1 st1 H1 => PG' M E α1 H1 (g p.1 p.2 st1) K) := by
  cases ra with
  | ok x st =>
    have h' : PG' M E α H ((rb st).bind fun y st => g x y st) K := h
    show PG' M E α H ((rb st).bind fun y st => .ok (x, y) st) _
    cases hb : rb st with
    | ok y st2 =>
      rw [hb] at h'
      exact fun α1 H1 p k rh => PG'.later h' p k
    | err c d st2 =>
      rw [hb] at h'
      exact h'
    | stuck =>
      rw [hb] at h'
      exact h'
  | err c d st => exact h
  | stuck => exact h
theorem iok_rng2 (G : GX M T P C kf X E sc) {tg a b : Expr} {ia ib : IE} {p pos : Pos} (hb : blt T sc "range" = true) (ha : PE X a (TM M E (evE P C ia))) (hb' : PE X b (TM M E (evE P C ib))) (s1 : starEach [a, b] X.env = [(false, eval a X.env), (false, eval b X.env)]) (s2 : starEach [b] X.env = [(false, eval b X.env)]) :
    IOk M P C X E tg (.Call (.Name "range" p) [a, b] [] pos) (.rng ia ib) where
  pi := by
    obtain ⟨g1, g2⟩ := G.blt hb
    have hA : PA X [a, b] (tCons (TM M E (evE P C ia)) (tCons (TM M E (evE P C ib)) tNil)) := pa_cons ha (pa_cons hb' pa_nil (by rw [s2]; rfl)) (by rw [s1, s2])
    refine (pi_range2 g1 g2 hA s1 s2).imp fun σ H R ⟨α, env, st, re, rh, q⟩ => ?_
    have q' : PG' M E α H ((evE P C ia env st).bind fun x st => (evE P C ib env st).bind fun y st => match x, y with
      | .int i, .int j => if rngOk i j then .ok (.items (rngD i j)) st else .stuck
      | _, _ => .stuck) (KI M R) := q
    refine args2 re rh (bind_ok2 q') fun x y v w α1 st1 H1 rh1 rx ry h1 => ?_
    have h2 : PG' M E α1 H1 (match x, y with
      | .int i, .int j => if rngOk i j then .ok (PyI.Itr.items (rngD i j)) st1 else .stuck
      | _, _ => .stuck) (KI M R) := h1
    split at h2
    · rename_i i j
      split at h2
      · rename_i hr
        cases rx
        cases ry
        obtain ⟨k1, k2, k3, k4, k5⟩ := rgOk_ok hr
        exact ⟨i, j, rfl, ⟨by omega, by omega, by omega, by omega⟩, h2.here rh1 _ _ it_rng trivial⟩
      · exact False.elim h2
    · exact False.elim h2
  fo := fun x => rfl
  keys := fun ie e => by cases e
theorem iok_rng1 (G : GX M T P C kf X E sc) {tg a : Expr} {ia : IE} {p pos : Pos} (hb : blt T sc "range" = true) (ha : PE X a (TM M E (evE P C ia))) (s1 : starEach [a] X.env = [(false, eval a X.env)]) :
    IOk M P C X E tg (.Call (.Name "range" p) [a] [] pos) (.rng (.int 0) ia) where
  pi := by
    obtain ⟨g1, g2⟩ := G.blt hb
    have hA : PA X [a] (tCons (TM M E (evE P C ia)) tNil) := pa_cons ha pa_nil (by rw [s1]; rfl)
    refine (pi_range1 g1 g2 hA s1).imp fun σ H R ⟨α, env, st, re, rh, q⟩ => ?_
    have q' : PG' M E α H ((evE P C ia env st).bind fun y st => match D.int 0, y with
      | .int i, .int j => if rngOk i j then .ok (.items (rngD i j)) st else .stuck
      | _, _ => .stuck) (KI M R) := q
    refine TM.then re rh q' fun y st1 α1 H1 v p1 k1 re1 rh1 ry h1 => ?_
    split at h1
    · rename_i i j e
      cases e
      split at h1
      · rename_i hr
        cases ry
        obtain ⟨k1, k2, k3, k4, k5⟩ := rgOk_ok hr
        have w := h1.here rh1 _ _ it_rng trivial
        refine ⟨j, rfl, by omega, by omega, ?_⟩
        rw [Int.sub_zero] at w
        exact w
      · exact False.elim h1
    · exact False.elim h1
  fo := fun x => rfl
  keys := fun ie e => by cases e
theorem iok_zip (G : GX M T P C kf X E sc) {tg a b : Expr} {ia ib : IE} {p pos : Pos} (ht : isTup tg = true) (hb : blt T sc "zip" = true) (ha : PE X a (TM M E (evE P C ia))) (hb' : PE X b (TM M E (evE P C ib))) (s1 : starEach [a, b] X.env = (false, eval a X.env) :: starEach [b] X.env) (s2 : starEach [b] X.env = (false, eval b X.env) :: starEach [] X.env) :
    IOk M P C X E tg (.Call (.Name "zip" p) [a, b] [] pos) (.zip ia ib) where
  pi := by
    obtain ⟨g1, g2⟩ := G.blt hb
    have hA : PA X [a, b] (tCons (TM M E (evE P C ia)) (tCons (TM M E (evE P C ib)) tNil)) := pa_cons ha (pa_cons hb' pa_nil s2) s1
    cases tg with
    | Tuple es k q =>
      refine (RZ.pi_zipA g1 g2 hA s1 (by rw [s2]; rfl)).imp fun σ H R ⟨α, env, st, re, rh, q⟩ => ?_
      have q' : PG' M E α H ((evE P C ia env st).bind fun x st => (evE P C ib env st).bind fun y st => .opt0 (zipOf x y st) st) (KI M R) := q
      refine args2 re rh (bind_ok2 q') fun x y v w α1 st1 H1 rh1 rx ry h1 => ?_
      obtain ⟨J, e, w⟩ := PG'.opt0 h1 rh1
      rw [G.K]
      exact zipOf_at rh1 rx ry e w
    | _ => cases ht
  fo := fun x => rfl
  keys := fun ie e => by cases e
theorem cI_ok (G : GX M T P C kf X E sc) (ok : EOk M P C X E f) {tg iter : Expr} {it : IT} (h : cI f T sc tg iter = some it) : IOk M P C X E tg iter it := by
  unfold cI at h
  split at h
  · rename_i x p a pos
    split at h
    · rename_i ex
      subst ex
      split at h
      · rename_i hb
        obtain ⟨ia, e1, e2⟩ := Option.map_eq_some_iff.mp h
        subst e2
        obtain ⟨k1, _, k3⟩ := ok a ia e1
        exact iok_rng1 G hb k1 (by rw [k3]; rfl)
      · cases h
    · obtain ⟨ie, e1, e2⟩ := Option.map_eq_some_iff.mp h
      subst e2
      exact iok_e G.K (ok _ ie e1).1 fun x => rfl
  · rename_i x p a b pos
    split at h
    · rename_i ex
      subst ex
      split at h
      · rename_i hb
        split at h
        · rename_i ia ib e1 e2
          cases h
          obtain ⟨k1, _, k3⟩ := ok a ia e1
          obtain ⟨l1, _, l3⟩ := ok b ib e2
          exact iok_rng2 G hb k1 l1 (by rw [k3, l3]; rfl) (by rw [l3]; rfl)
        · cases h
      · cases h
    · split at h
      · rename_i ex
        subst ex
        split at h
        · rename_i hb
          obtain ⟨hb, ht⟩ := Bool.and_eq_true_iff.mp hb
          split at h
          · rename_i ia ib e1 e2
            cases h
            obtain ⟨k1, _, k3⟩ := ok a ia e1
            obtain ⟨l1, _, l3⟩ := ok b ib e2
            exact iok_zip G ht hb k1 l1 (k3 _) (l3 _)
          · cases h
        · cases h
      · obtain ⟨ie, e1, e2⟩ := Option.map_eq_some_iff.mp h
        subst e2
        exact iok_e G.K (ok _ ie e1).1 fun x => rfl
  · split at h
    · rename_i hs
      obtain ⟨ie, e1, e2⟩ := Option.map_eq_some_iff.mp h
      subst e2
      exact iok_e G.K (ok _ ie e1).1 fun x => set_ok hs x X.env
    · cases h
end
end PyI
end
section
/-! PyI2l: a comprehension in place. -/
set_option autoImplicit false
set_option linter.all false
set_option maxRecDepth 100000
set_option maxHeartbeats 4000000
namespace PyI
open PySem PySem.Spec PyProof.Rows L2
section
variable {M : Mdl} {T : CT} {P : Prog} {C : Str → List D → Sto → Res D} {kf : Nat} {X : Cx} {E : XK} {sc : Scope} {α : List Addr} {H : Hp} {st : Sto} {f : Expr → Option IE}
theorem GX.blk (G : GX M T P C kf X E sc) {s : Shared} {H : Hp} {scope : Scope} {cl : List (Str × Addr)} {Cc : Addr} {fp : List Addr} : GX M T P C kf (X.blk s H scope (compEnvC scope cl Cc X.env) fp) E0 (relS' scope sc) where
  K := G.K
  mg := G.mg
  N := G.N
  nd := G.nd
  calm := G.calm
  sc := by
    rw [← G.sc]
    rfl
  grd := G.grd
  room := G.room
  tk := fun u s' x => by
    obtain ⟨_, _, _, _, _, _, _, _, _, _, _, _, _, _, _, _, z⟩ := x
    exact False.elim z
  md := G.md
  fns := G.fns
  cst := G.cst
theorem look_map {g : Str → NameKind → NameKind} (x : Str) : ∀ l : List (Str × NameKind), (l.map fun p => (p.1, g p.1 p.2)).lookup x = (l.lookup x).map (g x)
  | [] => rfl
  | (y, k) :: r => by
    rw [List.map_cons, List.lookup_cons, List.lookup_cons]
    by_cases e : x = y
    · subst e
      simp
    · have e' : (x == y) = false := beq_eq_false_iff_ne.mpr e
      rw [e']
      exact look_map x r
def relG (sc : Scope) (n : Str) (k : NameKind) : NameKind := if (k == NameKind.free && sc.kind == .function && sc.names.lookup n == some .cell) then NameKind.cell else k
theorem rel_look {scope sc : Scope} {x : Str} {k : NameKind} (h : scope.names.lookup x = some k) (hk : k = .local ∨ k = .cell) : (relS' scope sc).names.lookup x = some k := by
  have e : (relS' scope sc).names = scope.names.map fun p => (p.1, relG sc p.1 p.2) := by
    unfold relS' relS
    refine List.map_congr_left fun p _ => ?_
    obtain ⟨n, k⟩ := p
    show (if _ then (n, NameKind.cell) else (n, k)) = (n, relG sc n k)
    unfold relG
    split <;> rfl
  rw [e, look_map (g := relG sc), h]
  rcases hk with rfl | rfl <;> rfl
theorem wipe_sub {σ : L2.St} {own : List Nat} : ∀ {vs : List Nat}, (∀ i ∈ vs, i ∈ own) → L2.wipe (L2.wipe σ vs) own = L2.wipe σ own
  | [], _ => rfl
  | v :: vs, h => by
    show L2.wipe ((L2.wipe σ vs).set v none) own = _
    rw [wipe_set (h v List.mem_cons_self), wipe_sub fun i hi => h i (List.mem_cons_of_mem _ hi)]
theorem wipe_wipe {σ : L2.St} {own : List Nat} : L2.wipe (L2.wipe σ own) own = L2.wipe σ own := wipe_sub fun _ h => h
theorem blk_st (G : GX M T P C kf X E sc) {s : Shared} {H : Hp} {scope : Scope} {cl : List (Str × Addr)} {Cc : Addr} {fp : List Addr} (x : Str) (i : Nat) (h : slotW T scope x = some i) :
    Loc (X.blk s H scope (compEnvC scope cl Cc X.env) fp).env.scope x ∧ ((X.blk s H scope (compEnvC scope cl Cc X.env) fp).fn x = true ∨ (X.blk s H scope (compEnvC scope cl Cc X.env) fp).env.scope.names.lookup x = some .local) := by
  have e := (G.blk (s := s) (H := H) (scope := scope) (cl := cl) (Cc := Cc) (fp := fp)).sc
  rw [e]
  rcases (slotW_ok h).2 with k | k
  · have q := rel_look (sc := sc) k (.inl rfl)
    exact ⟨.inl q, .inr q⟩
  · have q := rel_look (sc := sc) k (.inr rfl)
    refine ⟨.inr q, .inl ?_⟩
    show (scope.names.lookup x == some .cell) = true
    rw [k]
    rfl
theorem own_mem {scope : Scope} {x : Str} {i : Nat} (h : slotW T scope x = some i) : i ∈ (ownOf T scope).map (·.2) := by
  have go : ∀ k : NameKind, (k = .local ∨ k = .cell) → scope.names.lookup x = some k → idx x T.N 0 = some i → i ∈ (ownOf T scope).map (·.2) := fun k hk hl hi => by
    have hm : (x, k) ∈ scope.names := PySem.mem_of_lookup hl
    refine List.mem_map.mpr ⟨(x, i), List.mem_filterMap.mpr ⟨(x, k), hm, ?_⟩, rfl⟩
    rcases hk with rfl | rfl
    · show (idx x T.N 0).map (fun i => (x, i)) = some (x, i)
      rw [hi]
      rfl
    · show (idx x T.N 0).map (fun i => (x, i)) = some (x, i)
      rw [hi]
      rfl
  unfold slotW at h
  split at h
  · rename_i e
    exact go _ (.inl rfl) e h
  · rename_i e
    exact go _ (.inr rfl) e h
  · cases h
theorem ids_mem {scope : Scope} : ∀ {es : List Expr} {is : List Nat}, cIds T scope es = some is → ∀ i ∈ is, i ∈ (ownOf T scope).map (·.2)
  | [], is, h, i, hi => by
    cases h
    cases hi
  | .Name x p :: r, is, h, i, hi => by
    have h' : (match slotW T scope x, cIds T scope r with
      | some i, some is => some (i :: is)
      | _, _ => none) = some is := h
    split at h'
    · rename_i j js e1 e2
      cases h'
      rcases List.mem_cons.mp hi with e | e
      · rw [e]
        exact own_mem e1
      · exact ids_mem e2 i e
    · cases h'
theorem tg_mem {scope : Scope} {tg : Expr} {t : PyI.Tg} (h : cTg T scope tg = some t) : ∀ i ∈ tgIx t, i ∈ (ownOf T scope).map (·.2) := by
  cases tg with
  | Name x p =>
    obtain ⟨i, e1, e2⟩ := Option.map_eq_some_iff.mp (show (slotW T scope x).map PyI.Tg.nm = some t from h)
    subst e2
    intro j hj
    have ej : j = i := by simpa [tgIx] using hj
    rw [ej]
    exact own_mem e1
  | Tuple es k p =>
    obtain ⟨is, e1, e2⟩ := Option.map_eq_some_iff.mp (show (cIds T scope es).map PyI.Tg.tp = some t from h)
    subst e2
    exact ids_mem e1
  | _ => cases h
/-- the cell of a new list -/
theorem new_cell {D0 : Addr} (rh : RH M α st H) (hD : H D0 = none) : RH M (α ++ [D0]) (st ++ [.lst true []]) (upd H D0 (.lst [])) ∧ (α ++ [D0])[st.length]? = some D0 :=
  ⟨rh.new hD ⟨[], upd_same, .nil⟩, by rw [← rh.len, List.getElem?_append_right (Nat.le_refl _), Nat.sub_self]; rfl⟩
theorem bind_none {it : IT} {env : Env} (h : keysI it env st = none) {elt : IE} {t : PyI.Tg} {is : IEs} {own : List Nat} : evE P C (.lc elt t it is own) env st = (evI P C it env st).bind fun J st => lcLoop J (fun d st => tgB t d (PyI.wipe env own) st) (fun env st => evTs P C is env st) (fun env st => evE P C elt env st) st.length FUEL 0 (st ++ [.lst true []]) := by
  show (match keysI it env st with
    | some (n, kvs) => _
    | none => _) = _
  rw [h]
  rfl
theorem bind_some {it : IT} {env : Env} {n : Nat} {kvs : List (D × D)} (h : keysI it env st = some (n, kvs)) {elt : IE} {t : PyI.Tg} {is : IEs} {own : List Nat} : evE P C (.lc elt t it is own) env st = (lcLoop (.keys n kvs) (fun d st => tgB t d (PyI.wipe env own) st) (fun env st => evTs P C is env st) (fun env st => evE P C elt env st) st.length FUEL 0 (st.set n (.dct false kvs) ++ [.lst true []])).bind fun d st => .ok d (st.set n (.dct true kvs)) := by
  show (match keysI it env st with
    | some (n, kvs) => _
    | none => _) = _
  rw [h]
  rfl
theorem keysI_some {it : IT} {env : Env} {n : Nat} {kvs : List (D × D)} (h : keysI it env st = some (n, kvs)) : ∃ i, it = .e (.var i) ∧ env[i]? = some (some (.ref n)) ∧ st[n]? = some (.dct true kvs) := by
  unfold keysI at h
  split at h
  · rename_i i
    split at h
    · rename_i m e1
      split at h
      · rename_i ks e2
        cases h
        exact ⟨i, rfl, e1, e2⟩
      · cases h
    · cases h
  · cases h
/-- what a comprehension in place rests on -/
structure LcOk (M : Mdl) (T : CT) (P : Prog) (C : Str → List D → Sto → Res D) (X : Cx) (E : XK) (sc : Scope) (tg iter elt : Expr) (ifs : List Expr) (scope : Scope) (t : PyI.Tg) (it : IT) (is : IEs) (ie : IE) : Prop where
  hb : L2.blkC T.N sc scope (ownOf T scope) = true
  ht : cTg T scope tg = some t
  hi : IOk M P C X E tg iter it
  hf : ∀ (s : Shared) (H : Hp) (Cc : Addr) (cl : List (Str × Addr)) (fp : List Addr), PTs (X.blk s H scope (compEnvC scope cl Cc X.env) fp) ifs (TTM M E0 (evTs P C is))
  he : ∀ (s : Shared) (H : Hp) (Cc : Addr) (cl : List (Str × Addr)) (fp : List Addr), PE (X.blk s H scope (compEnvC scope cl Cc X.env) fp) elt (TM M E0 (evE P C ie))
variable {tg iter elt : Expr} {ifs : List Expr} {scope : Scope} {t : PyI.Tg} {it : IT} {is : IEs} {ie : IE}
theorem LcOk.ok (L : LcOk M T P C X E sc tg iter elt ifs scope t it is ie) (G : GX M T P C kf X E sc) : BlkOk X.N X.env.scope scope (ownOf T scope) := by
  rw [G.N, G.sc]
  exact blkOk_by L.hb
theorem LcOk.hg (L : LcOk M T P C X E sc tg iter elt ifs scope t it is ie) (G : GX M T P C kf X E sc) (s : Shared) (H : Hp) (Cc : Addr) (cl : List (Str × Addr)) (fp : List Addr) : PG (X.blk s H scope (compEnvC scope cl Cc X.env) fp) tg (gTgt X.K t) :=
  cTg_pg (T := T) (s := scope) (X := X.blk s H scope (compEnvC scope cl Cc X.env) fp) G.calm G.N G.nd (fun x i h => blk_st G x i h) L.ht
theorem GX.nod (G : GX M T P C kf X E sc) : X.N.Nodup := by
  rw [G.N]
  exact G.nd
/-- the reading of a comprehension, from what the interpreter makes of it -/
theorem lc_wish (G : GX M T P C kf X E sc) (L : LcOk M T P C X E sc tg iter elt ifs scope t it is ie) {σ : L2.St} {Q : VK} (w : TM M E (evE P C (.lc ie t it is ((ownOf T scope).map (·.2)))) σ H Q) :
    tLc (TIM M E (evI P C it)) (gTgt X.K t) (TTM M E0 (evTs P C is)) (TM M E0 (evE P C ie)) ((ownOf T scope).map (·.2)) σ H Q ∨
    ∃ i, it = .e (.var i) ∧ tLockE (tLc (iKeys (TM M E (evE P C (.var i)))) (gTgt X.K t) (TTM M E0 (evTs P C is)) (TM M E0 (evE P C ie)) ((ownOf T scope).map (·.2))) σ H Q := by
  obtain ⟨α, env, st, re, rh, h⟩ := w
  have bd : ∀ {σ : L2.St} {env : Env}, Binds' M (fun d st => tgB t d (PyI.wipe env ((ownOf T scope).map (·.2))) st) (gTgt X.K t) ((ownOf T scope).map (·.2)) σ (fun α H => RE M α env σ H) := fun {σ env} α st H d v env' Q re rh rd h q =>
    tgt_rd G.K (re.wipe _) rd h fun σ' re' hw => q σ' re' (by
      rw [hw _ (tg_mem L.ht)]
      exact wipe_wipe)
  cases hk : keysI it env st with
  | none =>
    rw [bind_none hk] at h
    refine .inl ⟨α, env, st, re, rh, (PE'.iff.mp h).bind.mono fun J α1 st1 H1 _ p k rh1 h1 K Pp iok hP D0 hD => ?_⟩
    obtain ⟨rh2, hn⟩ := new_cell rh1 hD
    have sm : Keep H1 (upd H1 D0 (.lst [])) := .of (same_new hD)
    have pr : α1 <+: α1 ++ [D0] := List.prefix_append _ _
    exact lc_turns iok (P0 := fun α H => RE M α env σ H) (fun α α' H H' p k r => r.keep p k) bd (iok.stable _ _ _ _ pr sm hP) ((re.keep p k).keep pr sm) rh2 hn (h1.later pr sm)
  | some nk =>
    obtain ⟨n, kvs⟩ := nk
    obtain ⟨i, rfl, ei, en⟩ := keysI_some hk
    rw [bind_some hk] at h
    obtain ⟨v0, ev0, rv0⟩ := re.at_ i _ ei
    cases rv0 with
    | @ref _ a ha =>
      obtain ⟨vs, h1, h2⟩ := rh.cell n _ a en ha
      refine .inr ⟨i, rfl, a, .dK vs, h1, True.intro, fun od => ?_⟩
      have kl : Keep H (upd H a (.frz od (.dK vs))) := keep_upd fun u e z => by
        rw [h1] at e
        cases e
        exact z
      have rhl : RH M α (st.set n (.dct false kvs)) (upd H a (.frz od (.dK vs))) := rh.put ha kl.v ⟨vs, od, upd_same, h2.keep (List.prefix_refl _) kl⟩
      have rel := re.keep (List.prefix_refl _) kl
      refine ⟨α, env, st.set n (.dct false kvs), rel, rhl, ?_⟩
      have q0 : evE P C (.var i) env (st.set n (.dct false kvs)) = .ok (.ref n) (st.set n (.dct false kvs)) := by
        show (match env[i]? with
          | some (some d) => _
          | _ => _) = _
        rw [ei]
      rw [q0]
      intro α1 x H1 pp kk rh1 rx
      have ha1 := pre_get pp ha
      have hf1 : H1 a = some (.frz od (.dK vs)) := kk _ _ upd_same trivial
      cases rx with
      | @ref _ b hb' =>
        rw [ha1] at hb'
        cases hb'
        refine ⟨a, od, rfl, .inl ⟨vs, hf1, fun D0 hD => ?_⟩⟩
        obtain ⟨rh2, hn⟩ := new_cell rh1 hD
        rw [List.length_set] at hn
        have sm : Keep H1 (upd H1 D0 (.lst [])) := .of (same_new hD)
        have pr : α1 <+: α1 ++ [D0] := List.prefix_append _ _
        have neD : a ≠ D0 := ne_of_none hf1 hD
        have kAll : Keep H (upd H1 D0 (.lst [])) := kl.trans (kk.trans sm)
        refine lc_turns (it_keys (kvs := kvs)) (P0 := fun α H => RE M α env σ H) (Q := fun v H' => H' a = some (.frz od (.dK vs)) ∧ Q v (upd H' a (.dK vs))) (E := E) (fun α α' H H' p k r => r.keep p k) bd ⟨pre_get pr ha1, sm _ _ hf1 trivial⟩ ((rel.keep pp kk).keep pr sm) rh2 hn (m0 := FUEL) ?_
        have h' := PE'.iff.mp h
        revert h'
        cases lcLoop (.keys n kvs) (fun d st => tgB t d (PyI.wipe env ((ownOf T scope).map (·.2))) st) (fun env st => evTs P C is env st) (fun env st => evE P C ie env st) st.length FUEL 0 (st.set n (.dct false kvs) ++ [.lst true []]) with
        | ok d st2 =>
          intro h' α2 H2 p2 k2 rh3 v rv
          have hf2 : H2 a = some (.frz od (.dK vs)) := k2 _ _ (sm _ _ hf1 trivial) trivial
          have ha2 : α2[n]? = some a := pre_get p2 (pre_get pr ha1)
          have kv : KeepV H2 (upd H2 a (.dK vs)) := fun b o e z => by
            by_cases eb : b = a
            · subst eb
              rw [hf2] at e
              cases e
              exact False.elim z
            · rw [upd_ne eb]
              exact e
          have kF : Keep H (upd H2 a (.dK vs)) := fun b o e z => by
            by_cases eb : b = a
            · subst eb
              rw [h1] at e
              cases e
              exact False.elim z
            · rw [upd_ne eb]
              exact k2 _ _ (kAll _ _ e z) z
          refine ⟨hf2, h' α2 (upd H2 a (.dK vs)) (pp.trans (pr.trans p2)) kF (rh3.put ha2 kv ⟨vs, upd_same, RKs.keepV (pp.trans (pr.trans p2)) kF.v h2⟩) v (RD.keepV (List.prefix_refl _) kv _ _ rv)⟩
        | err c d st2 => exact fun h' => PG'.later (K := KQ M fun v H' => H' a = some (.frz od (.dK vs)) ∧ Q v (upd H' a (.dK vs))) (r := .err c d st2) h' (pp.trans pr) kAll
        | stuck => exact fun h' => h'
theorem g_lc (G : GX M T P C kf X E sc) {pos : Pos} (L : LcOk M T P C X E sc tg iter elt ifs scope t it is ie) : PE X (.ListComp elt [⟨tg, iter, ifs, 0⟩] scope pos) (TM M E (evE P C (.lc ie t it is ((ownOf T scope).map (·.2))))) := by
  refine ⟨fun pins s σ H Q I w => ?_⟩
  rcases lc_wish G L w with h | ⟨i, rfl, h⟩
  · exact (pe_lc (pos := pos) G.calm G.nod L.hi.pi (L.ok G) (L.hg G) L.hf L.he L.hi.fo).run pins s σ H Q I h
  · exact (pe_lock (pe_lc (pos := pos) G.calm G.nod (L.hi.keys _ rfl) (L.ok G) (L.hg G) L.hf L.he L.hi.fo)).run pins s σ H Q I h
/-- name = [..], on one line with it -/
theorem g_setLc (G : GX M T P C kf X E sc) {pos spos py : Pos} {y : Str} {j : Nat} (hy : X.N[j]? = some y) (hyl : X.env.scope.names.lookup y = some .local) (hsw : swapsWith (.ListComp elt [⟨tg, iter, ifs, 0⟩] scope pos) (some (.Name y py)) spos.line X.env = pure true) (L : LcOk M T P C X E sc tg iter elt ifs scope t it is ie) :
    PS X (.Assign [.Name y py] (.ListComp elt [⟨tg, iter, ifs, 0⟩] scope pos) spos) (tAsg (TM M E (evE P C (.lc ie t it is ((ownOf T scope).map (·.2))))) (gName j)) := by
  refine ⟨fun pins s σ H D I w => ?_⟩
  rcases lc_wish G L w with h | ⟨i, rfl, h⟩
  · exact (ps_setLc (pos := pos) G.calm G.nod hy hyl hsw L.hi.pi (L.ok G) (L.hg G) L.hf L.he L.hi.fo).run pins s σ H D I h
  · refine (ps_lock (ps_setLc (pos := pos) G.calm G.nod hy hyl hsw (L.hi.keys _ rfl) (L.ok G) (L.hg G) L.hf L.he L.hi.fo)).run pins s σ H D I ?_
    obtain ⟨d, u, h1, h2, h3⟩ := h
    exact ⟨d, u, h1, h2, fun od => h3 od⟩
end
end PyI
end
section
/-! PyI2m: a compiled expression does what the interpreter does. -/
set_option autoImplicit false
set_option linter.all false
set_option maxRecDepth 100000
set_option maxHeartbeats 4000000
namespace PyI
open PySem PySem.Spec PyProof.Rows L2

/-- list(zip(a, b)) -/
def LzOk : Prop := ∀ (M : Mdl) (T : CT) (P : Prog) (C : Str → List D → Sto → Res D) (kf : Nat) (X : Cx) (E : XK) (sc : Scope) (f : Expr → Option IE), GX M T P C kf X E sc → EOk M P C X E f → ∀ (p q r pos : Pos) (es : List Expr) (ie : IE),
  blt T sc "list" = true → blt T sc "zip" = true → cListZip f es = some ie → PE X (.Call (.Name "list" p) [.Call (.Name "zip" q) es [] r] [] pos) (TM M E (evE P C ie))
/-- where a lambda may be made -/
structure Top (kf : Nat) (c : Addr) (q : Str) (bs : Heap) (X : Cx) : Prop where
  bs : X.base = bs
  code : X.env.code = .ref c
  qual : X.env.qual = q
  room : Room (kf + 2) X.A
def noA : Arguments := ⟨[], [], none, [], [], none, []⟩
/-- heard(lambda: e) -/
def HeardOk (M : Mdl) (T : CT) (P : Prog) (C : Str → List D → Sto → Res D) (kf : Nat) (c : Addr) (q : Str) (bs : Heap) : Prop := ∀ (X : Cx) (E : XK) (sc : Scope), GX M T P C kf X E sc → Top kf c q bs X → ∀ (p lpos pos : Pos) (lb : Expr) (lsc : Scope) (ie : IE), isDef T sc T.heard = true → LamX.lamSB sc lsc = true →
  (∀ (X' : Cx) (E' : XK), GX M T.inLam P C kf X' E' lsc → PE X' lb (TM M E' (evE P C ie))) → PE X (.Call (.Name T.heard p) [.Lambda noA lb lsc lpos] [] pos) (TM M E (evE P C (.heard T.hx ie)))
section
variable {M : Mdl} {T : CT} {P : Prog} {C : Str → List D → Sto → Res D} {kf : Nat} {X : Cx} {E : XK} {sc : Scope} {α : List Addr} {H : Hp} {st : Sto} {f : Expr → Option IE} {c : Addr} {q : Str} {bs : Heap}
theorem Top.blk (t : Top kf c q bs X) {s : Shared} {H : Hp} {scope : Scope} {cl : List (Str × Addr)} {Cc : Addr} {fp : List Addr} : Top kf c q bs (X.blk s H scope (compEnvC scope cl Cc X.env) fp) := ⟨t.bs, t.code, t.qual, t.room⟩
theorem mark_ok {b : Expr} (h : noSet b = true) (op : CmpOp) : behindInMarks op b = false := by
  cases b with
  | Set => cases h
  | _ => rfl
theorem last_ok {b e : Expr} (h : noSet e = true) (op op' : CmpOp) : lastMarks [op, op'] [b, e] = false := mark_ok h op'
theorem ix_plain {i : Expr} (h : noSlice i = true) : PlainIx i := fun o v => by
  cases i with
  | Slice => cases h
  | _ => rfl
theorem cBool_ok (ok : EOk M P C X E f) {op : BoolOp} {pos : Pos} : ∀ {vs : List Expr} {ie : IE}, cBool f op vs = some ie → PE X (.BoolOp op vs pos) (TM M E (evE P C ie)) ∧ PW X (.BoolOp op vs pos) (TTM M E (evT P C ie))
  | [], _, h => by cases h
  | [a], ie, h => by
    obtain ⟨h1, h2, _⟩ := ok a ie h
    refine ⟨pe_one h1, ?_⟩
    cases op with
    | And => exact pw_and1 h2
    | Or => exact pw_or1 h2
  | a :: b :: r, ie, h => by
    have h' : (match f a, cBool f op (b :: r) with
      | some a', some r' => some (cAO op a' r')
      | _, _ => none) = some ie := h
    split at h'
    · rename_i a' r' e1 e2
      cases h'
      obtain ⟨h1, h2, _⟩ := ok a a' e1
      obtain ⟨g1, g2⟩ := cBool_ok ok e2
      cases op with
      | And => exact ⟨g_andE h1 g1, g_andT h2 g2⟩
      | Or => exact ⟨g_orE h1 g1, g_orT h2 g2⟩
    · cases h'
theorem noA_ok {la : Arguments} (h : noArgs la = true) : la = noA := by
  unfold noArgs at h
  split at h
  · rfl
  · cases h
theorem cCallN_ok (lz : LzOk) (G : GX M T P C kf X E sc) (ok : EOk M P C X E f) {fl : Scope → Expr → Option IE} (hl : ∀ lsc lb ie, fl lsc lb = some ie → ∀ X' E', GX M T.inLam P C kf X' E' lsc → PE X' lb (TM M E' (evE P C ie)))
    (hh : T.heard ≠ "" → Top kf c q bs X ∧ HeardOk M T P C kf c q bs) {x : Str} {args : List Expr} {ie : IE} {p pos : Pos} (h : cCallN T sc f fl x args = some ie) : PE X (.Call (.Name x p) args [] pos) (TM M E (evE P C ie)) := by
  unfold cCallN at h
  split at h
  · split at h
    · rename_i la lb lsc lpos
      split at h
      · rename_i hc
        simp only [Bool.and_eq_true, decide_eq_true_eq, bne_iff_ne, ne_eq] at hc
        obtain ⟨⟨⟨⟨c1, c2⟩, c3⟩, c4⟩, c5⟩ := hc
        obtain ⟨ib, e1, e2⟩ := Option.map_eq_some_iff.mp h
        subst e2
        obtain ⟨t, hok⟩ := hh c2
        rw [noA_ok c4]
        subst c1
        exact hok X E sc G t p lpos pos lb lsc ib c3 c5 (hl lsc lb ib e1)
      · cases h
    · rename_i y q1 iargs q2
      split at h
      · rename_i hc
        simp only [Bool.and_eq_true, decide_eq_true_eq] at hc
        obtain ⟨⟨⟨c1, c2⟩, c3⟩, c4⟩ := hc
        subst c1 c3
        exact g_lrng G ok c2 c4 h
      · split at h
        · rename_i hc
          simp only [Bool.and_eq_true, decide_eq_true_eq] at hc
          obtain ⟨⟨⟨c1, c2⟩, c3⟩, c4⟩ := hc
          subst c1 c3
          exact lz M T P C kf X E sc f G ok p q1 q2 pos iargs ie c2 c4 h
        · exact g_plain G ok h
    · rename_i e y yp
      split at h
      · rename_i hc
        simp only [Bool.and_eq_true, decide_eq_true_eq] at hc
        obtain ⟨c1, c2⟩ := hc
        subst c1
        exact g_isi G ok c2 h
      · exact g_plain G ok h
    · exact g_plain G ok h
  · split at h
    · rename_i i as e1 e2
      cases h
      obtain ⟨a1, a2⟩ := cEp_no ok e2
      exact g_callV G e1 a1 a2
    · cases h
theorem isRev_ok {e : Expr} (h : isRev e = true) : ∃ k p1 p2 p3, e = .Slice none none (some (.UnaryOp .USub (.Constant (.int 1) k p1) p2)) p3 := by
  unfold isRev at h
  split at h
  · exact ⟨_, _, _, _, rfl⟩
  · cases h
theorem cPlain_of {x : Str} {args : List Expr} {ie : IE} (h : cPlain T sc f x args = some ie) : evT P C ie = fun env st => (evE P C ie env st).bind fun x st => .opt0 (truth x st) st := by
  unfold cPlain at h
  split at h
  · obtain ⟨ies, e1, e2⟩ := Option.map_eq_some_iff.mp h
    subst e2
    rfl
  · split at h
    · split at h
      · cases h
        rfl
      · cases h
    · cases h
theorem cCallN_of {fl : Scope → Expr → Option IE} {x : Str} {args : List Expr} {ie : IE} (h : cCallN T sc f fl x args = some ie) : evT P C ie = fun env st => (evE P C ie env st).bind fun x st => .opt0 (truth x st) st := by
  unfold cCallN at h
  split at h
  · split at h
    · split at h
      · obtain ⟨ib, e1, e2⟩ := Option.map_eq_some_iff.mp h
        subst e2
        rfl
      · cases h
    · split at h
      · unfold cListRg at h
        split at h
        · obtain ⟨ib, e1, e2⟩ := Option.map_eq_some_iff.mp h
          subst e2
          rfl
        · split at h
          · cases h
            rfl
          · cases h
        · cases h
      · split at h
        · unfold cListZip at h
          split at h
          · split at h
            · cases h
              rfl
            · cases h
          · cases h
        · exact cPlain_of h
    · split at h
      · unfold cIsi at h
        split at h
        · cases h
          rfl
        · cases h
      · exact cPlain_of h
    · exact cPlain_of h
  · split at h
    · cases h
      rfl
    · cases h
/-- most expressions: the value's truth is the test -/
theorem eok_of (hK : X.K = M.K) {e : Expr} {ie : IE} (h : PE X e (TM M E (evE P C ie))) (ht : evT P C ie = fun env st => (evE P C ie env st).bind fun x st => .opt0 (truth x st) st) (hi : ∀ whole, isTrue e X.env whole = (do let v ← whole; standAt e.pos; holding [v] (truthy v)))
    (hs : ∀ es, starEach (e :: es) X.env = (false, eval e X.env) :: starEach es X.env) : PE X e (TM M E (evE P C ie)) ∧ PT X e (TTM M E (evT P C ie)) ∧ ∀ es, starEach (e :: es) X.env = (false, eval e X.env) :: starEach es X.env :=
  ⟨h, by rw [ht]; exact g_truth hK h hi, hs⟩
theorem cLc_parts {n : Nat} {elt : Expr} {gs : List Comprehension} {scope : Scope} {pos : Pos} {ie : IE} (G : GX M T P C kf X E sc) (ok : EOk M P C X E (cE T n sc)) (okB : ∀ (s : Shared) (H : Hp) (Cc : Addr) (cl : List (Str × Addr)) (fp : List Addr), EOk M P C (X.blk s H scope (compEnvC scope cl Cc X.env) fp) E0 (cE T n (relS' scope sc)))
    (h : cE T (n + 1) sc (.ListComp elt gs scope pos) = some ie) : ∃ tg iter ifs t it is e', gs = [⟨tg, iter, ifs, 0⟩] ∧ ie = .lc e' t it is ((ownOf T scope).map (·.2)) ∧ LcOk M T P C X E sc tg iter elt ifs scope t it is e' := by
  match gs, h with
  | [⟨tg, iter, ifs, 0⟩], h =>
    have h' : (if L2.blkC T.N sc scope (ownOf T scope) then
      (match cTg T scope tg, cI (cE T n sc) T sc tg iter, cEp (cE T n (relS' scope sc)) ifs, cE T n (relS' scope sc) elt with
      | some t, some it, some is, some e' => if decide (ifs.length ≤ 1) then some (IE.lc e' t it is ((ownOf T scope).map (·.2))) else none
      | _, _, _, _ => none)
      else none) = some ie := h
    split at h'
    · rename_i hb
      split at h'
      · rename_i t it is e' e1 e2 e3 e4
        split at h'
        · rename_i hl
          cases h'
          refine ⟨tg, iter, ifs, t, it, is, e', rfl, rfl, hb, e1, cI_ok G ok e2, fun s H Cc cl fp => ?_, fun s H Cc cl fp => (okB s H Cc cl fp elt e' e4).1⟩
          match ifs, hl, e3 with
          | [], hl, e3 =>
            cases e3
            exact ⟨fun pins s σ H Q I ⟨α, env, st, re, rh, w⟩ => pts_nil.run pins s σ H Q I (w.here rh)⟩
          | [d], hl, e3 =>
            have e3' : (match cE T n (relS' scope sc) d, cEp (cE T n (relS' scope sc)) [] with
              | some e', some r' => some (IEs.cons false e' r')
              | _, _ => none) = some is := e3
            split at e3'
            · rename_i d' r' f1 f2
              cases e3'
              cases f2
              exact pts_one (okB s H Cc cl fp d d' f1).2.1
            · cases e3'
          | _ :: _ :: _, hl, e3 => simp at hl
        · cases h'
      · cases h'
    · cases h'
theorem cE_ok (lz : LzOk) : ∀ (n : Nat) (T : CT) (X : Cx) (E : XK) (sc : Scope), GX M T P C kf X E sc → (T.heard ≠ "" → Top kf c q bs X ∧ HeardOk M T P C kf c q bs) → EOk M P C X E (cE T n sc)
  | 0, T, X, E, sc, G, hh => fun e ie h => by cases h
  | n + 1, T, X, E, sc, G, hh => fun e ie h => by
    have ok := cE_ok lz n T X E sc G hh
    cases e with
    | Constant k j pos =>
      cases k with
      | none =>
        cases h
        exact eok_of G.K (g_const pe_non fun _ _ => .non) rfl (fun _ => rfl) (fun _ => rfl)
      | bool b =>
        cases h
        exact eok_of G.K (g_const pe_bl fun _ _ => .bl b) rfl (fun _ => rfl) (fun _ => rfl)
      | int i =>
        cases h
        exact eok_of G.K (g_const pe_int fun _ _ => .int i) rfl (fun _ => rfl) (fun _ => rfl)
      | str x =>
        cases h
        exact eok_of G.K (g_const pe_str fun _ _ => .str x) rfl (fun _ => rfl) (fun _ => rfl)
      | _ => cases h
    | Name x pos =>
      have h' : (match slot T sc x with
        | some i => some (IE.var i)
        | none => if isGl sc x && !decide (x = "__debug__") then (match T.glob x with
          | .data d => some (.con d)
          | .defn => some (.con (.fn x))
          | _ => none) else none) = some ie := h
      split at h'
      · rename_i i e1
        cases h'
        exact eok_of G.K (g_var G e1) rfl (fun _ => rfl) (fun _ => rfl)
      · split at h'
        · rename_i hc
          split at h'
          · rename_i d e2
            cases h'
            exact eok_of G.K (g_glob G (d := d) (by rw [if_pos hc, e2])) rfl (fun _ => rfl) (fun _ => rfl)
          · rename_i e2
            cases h'
            exact eok_of G.K (g_glob G (d := .fn x) (by rw [if_pos hc, e2])) rfl (fun _ => rfl) (fun _ => rfl)
          · cases h'
        · cases h'
    | Tuple es k pos =>
      obtain ⟨ies, e1, e2⟩ := Option.map_eq_some_iff.mp (show (cEs (cE T n sc) es).map IE.tup = some ie from h)
      subst e2
      exact eok_of G.K (g_tup (cEs_ok G.K ok e1)) rfl (fun _ => rfl) (fun _ => rfl)
    | List es pos =>
      obtain ⟨ies, e1, e2⟩ := Option.map_eq_some_iff.mp (show (cEs (cE T n sc) es).map IE.lst = some ie from h)
      subst e2
      exact eok_of G.K (g_lst (k := 0) (cEs_ok G.K ok e1)) rfl (fun _ => rfl) (fun _ => rfl)
    | Dict ks vs pos =>
      have h' : (if ks.isEmpty || decide (15 < ks.length) then none else (cDic (cE T n sc) ks vs).map IE.dic) = some ie := h
      split at h'
      · cases h'
      · rename_i hc
        simp only [Bool.or_eq_true, decide_eq_true_eq, List.isEmpty_iff, not_or, Nat.not_lt] at hc
        obtain ⟨ies, e1, e2⟩ := Option.map_eq_some_iff.mp h'
        subst e2
        exact eok_of G.K (g_dic ok e1 hc.1 hc.2) rfl (fun _ => rfl) (fun _ => rfl)
    | BinOp a op b pos =>
      have h' : (match cOp op, cE T n sc a, cE T n sc b with
        | some o, some a', some b' => some (IE.bin o a' b')
        | _, _, _ => none) = some ie := h
      split at h'
      · rename_i o a' b' e0 e1 e2
        cases h'
        exact eok_of G.K (g_bin (dyn_op G.K e0) (ok a a' e1).1 (ok b b' e2).1) rfl (fun _ => rfl) (fun _ => rfl)
      · cases h'
    | UnaryOp op a pos =>
      have h' : cUn op (cE T n sc a) = some ie := h
      unfold cUn at h'
      split at h'
      · rename_i a' e1
        cases h'
        exact ⟨g_notE G.K (ok a a' e1).1, g_notT (ok a a' e1).2.1, fun _ => rfl⟩
      · rename_i a' e1
        cases h'
        exact eok_of G.K (g_neg (ok a a' e1).1) rfl (fun _ => rfl) (fun _ => rfl)
      · cases h'
    | BoolOp op vs pos =>
      obtain ⟨h1, h2⟩ := cBool_ok ok (pos := pos) (show cBool (cE T n sc) op vs = some ie from h)
      exact ⟨h1, h2.pt, fun _ => rfl⟩
    | Compare a ops es pos =>
      match ops, es, h with
      | [op], [b], h =>
        have h' : (match cE T n sc a, cE T n sc b with
          | some a', some b' => if noSet b then some (IE.cmp (cCmp op) a' b') else none
          | _, _ => none) = some ie := h
        split at h'
        · rename_i a' b' e1 e2
          split at h'
          · rename_i hs
            cases h'
            have r := g_cmp (pos := pos) (dyn_cmp G.K (by have := G.un; omega) op) (mark_ok hs op) (ok a a' e1).1 (ok b b' e2).1
            exact ⟨r.1, r.2, fun _ => rfl⟩
          · cases h'
        · cases h'
      | [op, op'], [b, d], h =>
        have h' : (match cE T n sc a, cE T n sc b, cE T n sc d with
          | some a', some b', some c' => if noSet d then some (IE.chain (cCmp op) (cCmp op') a' b' c') else none
          | _, _, _ => none) = some ie := h
        split at h'
        · rename_i a' b' c' e1 e2 e3
          split at h'
          · rename_i hs
            cases h'
            have hu : X.A.units + 64 < cLine := by have := G.un; omega
            have r := g_chain (pos := pos) (dyn_cmp G.K hu op) (dyn_cmp G.K hu op') (last_ok hs op op') (ok a a' e1).1 (ok b b' e2).1 (ok d c' e3).1
            exact ⟨r.1, r.2, fun _ => rfl⟩
          · cases h'
        · cases h'
    | IfExp d a b pos =>
      have h' : (match cE T n sc d, cE T n sc a, cE T n sc b with
        | some c', some a', some b' => some (IE.ite c' a' b')
        | _, _, _ => none) = some ie := h
      split at h'
      · rename_i c' a' b' e0 e1 e2
        cases h'
        exact ⟨g_ite (ok d c' e0).2.1 (ok a a' e1).1 (ok b b' e2).1, g_iteT (ok d c' e0).2.1 (ok a a' e1).2.1 (ok b b' e2).2.1, fun _ => rfl⟩
      · cases h'
    | Call fn args kws pos =>
      match fn, kws, h with
      | .Name x p, [], h =>
        have h0 : cCallN T sc (cE T n sc) (cE T.inLam n) x args = some ie := h
        exact eok_of G.K (cCallN_ok (c := c) (q := q) (bs := bs) lz G ok (fun lsc lb ie e X' E' G' => (cE_ok lz n T.inLam X' E' lsc G' (fun z => absurd rfl z) lb ie e).1) hh h0) (cCallN_of h0) (fun _ => rfl) (fun _ => rfl)
      | .Attribute o m apos, [], h =>
        have h' : (match cMt m, cE T n sc o, cEp (cE T n sc) args with
          | some k, some o', some as => if apos.endLine == pos.line && decide (args.length < 20) && noSuper o && noKey args then some (IE.meth k o' as) else none
          | none, _, _ => some .bad
          | _, _, _ => none) = some ie := h
        split at h'
        · rename_i k o' as e0 e1 e2
          split at h'
          · rename_i hc
            cases h'
            simp only [Bool.and_eq_true, decide_eq_true_eq] at hc
            obtain ⟨⟨⟨c1, c2⟩, c3⟩, c4⟩ := hc
            obtain ⟨a1, a2⟩ := cEp_no ok e2
            cases args with
            | nil => cases c4
            | cons e es => exact eok_of G.K (g_meth G e0 (ok o o' e1).1 a1 a2 c3 c1 c2) rfl (fun _ => rfl) (fun _ => rfl)
          · cases h'
        · cases h'
          exact eok_of G.K ⟨fun pins s σ H Q I ⟨α, env, st, re, rh, w⟩ => False.elim w⟩ rfl (fun _ => rfl) (fun _ => rfl)
        · cases h'
    | Attribute o fd pos =>
      have h' : (if fd = "value" then (match o with
        | .Name .. => (cE T n sc o).map IE.fld
        | _ => none) else none) = some ie := h
      split at h'
      · rename_i ef
        subst ef
        split at h'
        · rename_i x p
          obtain ⟨io, e1, e2⟩ := Option.map_eq_some_iff.mp h'
          subst e2
          exact eok_of G.K (g_fld G (ok _ io e1).1 rfl) rfl (fun _ => rfl) (fun _ => rfl)
        · cases h'
      · cases h'
    | Subscript o i pos =>
      have h0 : cSub (cE T n sc) o i = some ie := h
      by_cases hsl : noSlice i = true
      · have h' : (match cE T n sc o, cE T n sc i with
          | some o', some i' => some (IE.ix o' i')
          | _, _ => none) = some ie := by
          cases i with
          | Slice => cases hsl
          | _ => exact h0
        split at h'
        · rename_i o' i' e1 e2
          cases h'
          exact eok_of G.K (g_ix (dyn_ix G.K) (ix_plain hsl) (ok o o' e1).1 (ok i i' e2).1) rfl (fun _ => rfl) (fun _ => rfl)
        · cases h'
      · cases i with
        | Slice lo hi stp ps =>
          cases stp with
          | none =>
            have h' : (match cE T n sc o, cO (cE T n sc) lo, cO (cE T n sc) hi with
              | some o', some l', some h' => some (IE.slc o' l' h')
              | _, _, _ => none) = some ie := h0
            split at h'
            · rename_i o' l' u' e1 e2 e3
              cases h'
              exact eok_of G.K (g_slc G (ok o o' e1).1 (cO_ok ok e2) (cO_ok ok e3)) rfl (fun _ => rfl) (fun _ => rfl)
            · cases h'
          | some st =>
            have h' : (if isRev (.Slice lo hi (some st) ps) then (cE T n sc o).map IE.rev else none) = some ie := h0
            split at h'
            · rename_i hr
              obtain ⟨k, p1, p2, p3, er⟩ := isRev_ok hr
              rw [er]
              obtain ⟨io, e1, e2⟩ := Option.map_eq_some_iff.mp h'
              subst e2
              exact eok_of G.K (g_rev G (ok o io e1).1) rfl (fun _ => rfl) (fun _ => rfl)
            · cases h'
        | _ => exact absurd rfl hsl
    | ListComp elt gs scope pos =>
      obtain ⟨tg, iter, ifs, t, it, is, e', rfl, rfl, L⟩ := cLc_parts G ok (fun s H Cc cl fp => cE_ok lz n T _ E0 _ G.blk fun z => ⟨(hh z).1.blk, (hh z).2⟩) h
      exact eok_of G.K (g_lc G L) rfl (fun _ => rfl) (fun _ => rfl)
    | _ => cases h
end
end PyI
end
section
/-! PyI2n: a compiled statement does what the interpreter does. -/
set_option autoImplicit false
set_option linter.all false
set_option maxRecDepth 100000
set_option maxHeartbeats 4000000
namespace PyI
open PySem PySem.Spec PyProof.Rows L2

/-! ### a, b = x, y -/
theorem sw_eq {ts vs : List Expr} {k k2 : Nat} {p p2 : Pos} {env : PySem.Env} (hb : env.blockKind = .function) : swappedStores [.Tuple ts k p] (.Tuple vs k2 p2) env =
   (if (!(ts.length == 2 || ts.length == 3) || vs.length != ts.length) = true then pure none else
    if vs.any isStarE = true then pure none else
    if ((swN env.scope ts).length != ts.length || (swN env.scope ts).eraseDups.length != (swN env.scope ts).length) = true then pure none else
    if vs.all (foldedForSure 8) = true then pure none else
    if vs.all (constantsAlone 8) = true then (do
      unsupported "assign.tuple-of-constant-expressions:order-of-the-stores"
      pure (some (swN env.scope ts))) else pure (some (swN env.scope ts))) := by
  unfold swappedStores
  have e : (ScopeKind.function != ScopeKind.function) = false := by decide
  simp only [hb, e, Bool.or_false]
  rfl
theorem sw_none {ts vs : List Expr} {k k2 : Nat} {p p2 : Pos} {env : PySem.Env} (hb : env.blockKind = .function) (h : swB env.scope ts vs = false) : swappedStores [.Tuple ts k p] (.Tuple vs k2 p2) env = pure none := by
  rw [sw_eq hb]
  unfold swB at h
  cases h1 : (ts.length == 2 || ts.length == 3) <;> cases h2 : (vs.length != ts.length) <;> cases h3 : vs.any isStarE <;> cases h4 : ((swN env.scope ts).length != ts.length) <;> cases h5 : ((swN env.scope ts).eraseDups.length != (swN env.scope ts).length) <;> cases h6 : vs.all (foldedForSure 8) <;> first
    | (rw [h1, h2, h3, h4, h5, h6] at h; cases h; done)
    | rfl
theorem sw_some {ts vs : List Expr} {k k2 : Nat} {p p2 : Pos} {env : PySem.Env} (hb : env.blockKind = .function) (h : swB env.scope ts vs = true) (hc : vs.all (constantsAlone 8) = false) : swappedStores [.Tuple ts k p] (.Tuple vs k2 p2) env = pure (some (swN env.scope ts)) := by
  rw [sw_eq hb]
  unfold swB at h
  simp only [Bool.and_eq_true, Bool.not_eq_true'] at h
  obtain ⟨⟨⟨⟨⟨h1, h2⟩, h3⟩, h4⟩, h5⟩, h6⟩ := h
  rw [h1, h2, h3, h4, h5, h6, hc]
  rfl
end PyI
end
section
/-! PyI2o: a compiled statement does what the interpreter does. -/
set_option autoImplicit false
set_option linter.all false
set_option maxRecDepth 100000
set_option maxHeartbeats 4000000
namespace PyI
open PySem PySem.Spec PyProof.Rows L2

/-- what __init__ of the own exceptions promises -/
def spInit (K : PySem.W.Frag) : Sp := fun vs H Q _ => ∃ (a C : Addr) (v : V), vs = [.ref a, v] ∧ OexC K C ∧ PySem.W.findIn K (.ref C) "value" = some none ∧ H a = some (exo a C none) ∧
  ∀ dx, H dx = none → dx ≠ a → Q .non (upd (upd H dx (exd dx [("value", v)])) a (exo a C (some dx)))
/-- an own exception's class, its making -/
structure MkF (P : Program) (w : World) (K : PySem.W.Frag) (mg : Str → Option Value) (base : Heap) (C : Addr) : Prop where
  ox : OexC K C
  va : PySem.W.findIn K (.ref C) "value" = some none
  mkI : ∃ (fI : Addr) (fd : FuncData) (ps : List Str), PySem.W.findIn K (.ref C) "__init__" = some (some (.ref fI)) ∧ PySem.W.typeIn K (.ref fI) = some (.type "function") ∧ FnOk P w K mg base (L2.CX P w) 1 fI fd ps (spInit K) ∧ L2.Binds K fd ps []
/-- the context of a def's body -/
structure GS (M : Mdl) (T : CT) (P : Prog) (C : Str → List D → Sto → Res D) (kf : Nat) (X : Cx) (E : XK) (sc : Scope) (c : Addr) (q : Str) (bs : Heap) : Prop where
  g : GX M T P C kf X E sc
  top : Top kf c q bs X
  hrd : T.heard ≠ "" → HeardOk M T P C kf c q bs
  pass : PassesOwn (model X.prog X.w) X.A X.env X.xe
  fn : ∀ x, X.fn x = true
  bk : X.env.blockKind = .function
  mkX : ∀ x, T.glob x = .exc → MkF X.prog X.w X.K X.mg X.base (M.cls x)
section
variable {M : Mdl} {T : CT} {P : Prog} {C : Str → List D → Sto → Res D} {kf : Nat} {X : Cx} {E : XK} {sc : Scope} {α : List Addr} {H : Hp} {st : Sto} {f : Expr → Option IE} {c : Addr} {q : Str} {bs : Heap}
theorem GS.sto (G : GS M T P C kf X E sc c q bs) (x : Str) (i : Nat) (h : slotW T sc x = some i) : Loc X.env.scope x ∧ (X.fn x = true ∨ X.env.scope.names.lookup x = some .local) := ⟨by rw [G.g.sc]; exact (slotW_ok h).2, .inl (G.fn x)⟩

/-! ### raise -/
theorem del_back {H1 : Hp} {a dx : Addr} {o1 o2 o3 o : HO} (ha : H1 a = none) (hd : dx ≠ a) : upd (L2.del (upd (upd (upd H1 a o1) dx o2) a o3) a) dx o = upd H1 dx o := by
  funext b
  by_cases e1 : b = dx
  · rw [e1, upd_same, upd_same]
  · rw [upd_ne e1, upd_ne e1]
    by_cases e2 : b = a
    · rw [e2, L2.del_same, ha]
    · rw [L2.del_ne e2, upd_ne e2, upd_ne e1, upd_ne e2]
theorem g_raise (G : GS M T P C kf X E sc c q bs) {x : Str} {e : Expr} {ie : IE} {p p2 pos : Pos} (hx : isExc T sc x = true) (he : PE X e (TM M E (evE P C ie))) (hs : ∀ es, starEach (e :: es) X.env = (false, eval e X.env) :: starEach es X.env) :
    PS X (.Raise (some (.Call (.Name x p) [e] [] p2)) none pos) (TSM M E (evS P C (.raise x ie))) := by
  obtain ⟨h1, h2, h3⟩ := G.g.isExc hx
  have hg : T.glob x = .exc := by
    obtain ⟨hx, _⟩ := Bool.and_eq_true_iff.mp hx
    obtain ⟨_, hx⟩ := Bool.and_eq_true_iff.mp hx
    split at hx
    · assumption
    · cases hx
  have F := G.mkX x hg
  obtain ⟨fI, fd, ps, i1, i2, i3, i4⟩ := F.mkI
  have hr : Room 2 X.A := G.top.room.mono (by omega)
  have px : L2.Passes (L2.CX X.prog X.w) X (fun _ _ _ => False) := passes_call (W := fun _ _ _ _ => False) LamX.takes0 (fun _ _ _ _ z => z)
  have mkp := pmk_oex (x := x) (p := p) (pos := p2) F.ox i1 i2 i3 hr i4 .nil px h1 (by rw [G.g.mg]; exact h2) (pa_cons he pa_nil (hs [])) h3 (hs []) rfl
  refine (ps_raise G.g.calm G.g.tk mkp).imp fun D σ H ⟨α, env, st, re, rh, w⟩ => ?_
  have w' : PG' M E α H ((evE P C ie env st).bind fun d st => Res.err x d st) (KF M D) := w
  refine TM.then re rh w' fun d st1 α1 H1 v p1 k1 re1 rh1 rd h1 => ⟨by show 1 ≤ 1000; decide, fun a ha => ?_⟩
  refine ⟨a, M.cls x, v, rfl, F.ox, F.va, upd_same, fun dx hdx hne => ⟨rfl, dx, [("value", v)], upd_same, ?_, ?_, ?_⟩⟩
  · rw [upd_ne hne, upd_same]
  · rw [upd_ne hne] at hdx
    exact hdx
  · have hd1 : H1 dx = none := by
      rw [upd_ne hne] at hdx
      exact hdx
    rw [del_back ha hne]
    have sm : Same H1 (upd H1 dx (.xd [("value", v)])) := same_new hd1
    exact h1 α1 dx v _ (List.prefix_refl _) (.of sm) (rh1.same sm) upd_same (rd.keep (List.prefix_refl _) (.of sm))

/-! ### stores -/
theorem asg_wish (hK : X.K = M.K) {t : PyI.Tg} {ie : IE} {D : Ends} {σ : L2.St} (w : TSM M E (evS P C (.asg t ie)) D σ H) : tAsg (TM M E (evE P C ie)) (gTgt X.K t) D σ H := by
  obtain ⟨α, env, st, re, rh, h⟩ := w
  have h' : PG' M E α H ((evE P C ie env st).bind fun d st => .opt0 ((tgB t d env st).map PyI.Flow.nx) st) (KF M D) := h
  refine TM.then re rh h' fun d st1 α1 H1 v p1 k1 re1 rh1 rd h1 => ?_
  obtain ⟨fl, e, w⟩ := h1.opt0 rh1
  obtain ⟨env', e1, e2⟩ := Option.map_eq_some_iff.mp e
  subst e2
  exact tgt_rd hK re1 rd e1 fun σ' re' _ => w σ' re'
theorem noLc_sw {e : Expr} (h : noLc e = true) (t : Option Expr) (l : Nat) (env : PySem.Env) : swapsWith e t l env = pure false := by
  cases e with
  | ListComp => cases h
  | SetComp => cases h
  | DictComp => cases h
  | _ => rfl
theorem g_asgN (G : GS M T P C kf X E sc c q bs) {x : Str} {e : Expr} {i : Nat} {ie : IE} {xp pos : Pos} (hi : slotW T sc x = some i) (he : PE X e (TM M E (evE P C ie))) (hs : swapsWith e (some (.Name x xp)) pos.line X.env = pure false) : PS X (.Assign [.Name x xp] e pos) (TSM M E (evS P C (.asg (.nm i) ie))) := by
  obtain ⟨q1, q2⟩ := G.sto x i hi
  exact (ps_set G.g.nod (by rw [G.g.N]; exact (slotW_ok hi).1) q1 he hs q2).imp fun D σ H w => asg_wish G.g.K w
theorem swLc {elt : Expr} {gs : List Comprehension} {scope : Scope} {pos xp : Pos} {x : Str} {l : Nat} {env : PySem.Env} (hb : env.blockKind = .function) :
    swapsWith (.ListComp elt gs scope pos) (some (.Name x xp)) l env = pure (env.scope.names.lookup x == some .local && xp.line == pos.line && !(scope.names.any fun p => p.1 == x && (p.2 == .local || p.2 == .cell))) := by
  unfold swapsWith
  have e : (ScopeKind.function == ScopeKind.function) = true := by decide
  simp only [hb, e, Bool.true_and]
  rfl
theorem g_asgT (G : GS M T P C kf X E sc c q bs) {ts : List Expr} {e : Expr} {is : List Nat} {ie : IE} {k : Nat} {tp pos : Pos} (hi : cIds T sc ts = some is) (he : PE X e (TM M E (evE P C ie))) (hs : swapsWithSole [.Tuple ts k tp] e pos.line X.env = pure false) (hw : swappedStores [.Tuple ts k tp] e X.env = pure none) :
    PS X (.Assign [.Tuple ts k tp] e pos) (TSM M E (evS P C (.asg (.tp is) ie))) := by
  have hg : PG X (.Tuple ts k tp) (gTgt X.K (.tp is)) := cTg_pg (T := T) (s := sc) G.g.calm G.g.N G.g.nd G.sto (by show (cIds T sc ts).map PyI.Tg.tp = _; rw [hi]; rfl)
  exact (ps_asg he hg hs hw rfl).imp fun D σ H w => asg_wish G.g.K w
theorem idx_inj {N : List Str} {x y : Str} {i j : Nat} (h : idx x N 0 = some i) (g : idx y N 0 = some j) (ne : x ≠ y) : i ≠ j := fun e => by
  subst e
  have a := idx0 h
  have b := idx0 g
  rw [a] at b
  exact ne (Option.some.inj b)
theorem slotW_idx {x : Str} {i : Nat} (h : slotW T sc x = some i) : idx x T.N 0 = some i := by
  unfold slotW at h
  split at h
  · exact h
  · exact h
  · cases h
theorem ids2 {x y : Str} {p r : Pos} {is : List Nat} (h : cIds T sc [.Name x p, .Name y r] = some is) : ∃ i j, is = [i, j] ∧ slotW T sc x = some i ∧ slotW T sc y = some j := by
  have h' : (match slotW T sc x, (match slotW T sc y, (some [] : Option (List Nat)) with
      | some i, some is => some (i :: is)
      | _, _ => none) with
    | some i, some is => some (i :: is)
    | _, _ => none) = some is := h
  cases e1 : slotW T sc x with
  | none =>
    rw [e1] at h'
    cases h'
  | some i =>
    cases e2 : slotW T sc y with
    | none =>
      rw [e1, e2] at h'
      cases h'
    | some j =>
      rw [e1, e2] at h'
      cases h'
      exact ⟨i, j, rfl, rfl, rfl⟩
theorem ids3 {x y z : Str} {p r s : Pos} {is : List Nat} (h : cIds T sc [.Name x p, .Name y r, .Name z s] = some is) : ∃ i j l, is = [i, j, l] ∧ slotW T sc x = some i ∧ slotW T sc y = some j ∧ slotW T sc z = some l := by
  have h' : (match slotW T sc x, cIds T sc [.Name y r, .Name z s] with
    | some i, some is => some (i :: is)
    | _, _ => none) = some is := h
  cases e1 : slotW T sc x with
  | none =>
    rw [e1] at h'
    cases h'
  | some i =>
    cases e2 : cIds T sc [.Name y r, .Name z s] with
    | none =>
      rw [e1, e2] at h'
      cases h'
    | some js =>
      rw [e1, e2] at h'
      cases h'
      obtain ⟨j, l, e3, e4, e5⟩ := ids2 e2
      exact ⟨i, j, l, by rw [e3], rfl, e4, e5⟩
theorem par_wish {is : List Nat} {ies : IEs} {D0 : Ends} {σ : L2.St} (w : TSM M E (evS P C (.par is ies)) D0 σ H) : TAM M E (evEs P C ies) σ H (fun vs H1 => ∃ (α : List Addr) (env env' : Env) (ds : List D), RE M α env σ H1 ∧ RDs M α H1 ds vs ∧ setAll is ds env = some env' ∧ ∀ σ', RE M α env' σ' H1 → D0.nx σ' H1) := by
  obtain ⟨α, env, st, re, rh, h⟩ := w
  have h' : PG' M E α H ((evEs P C ies env st).bind fun ds st => .opt0 ((setAll is ds env).map PyI.Flow.nx) st) (KF M D0) := h
  refine ⟨α, env, st, re, rh, h'.bind.mono fun ds α1 st1 H1 _ p k rh1 h1 vs rs => ?_⟩
  obtain ⟨fl, e, w⟩ := h1.opt0 rh1
  obtain ⟨env', e1, e2⟩ := Option.map_eq_some_iff.mp e
  subst e2
  exact ⟨α1, env, env', ds, re.keep p k, rs, e1, w⟩
theorem g_par (G : GS M T P C kf X E sc c q bs) (ok : EOk M P C X E f) {ts vs : List Expr} {is : List Nat} {ies : IEs} {k k2 : Nat} {tp vp pos : Pos} (hsw : swB sc ts vs = true) (hc : vs.all (constantsAlone 8) = false) (hp : parN sc ts = true) (hl : ts.length = vs.length) (hi : cIds T sc ts = some is) (he : cEp f vs = some ies) :
    PS X (.Assign [.Tuple ts k tp] (.Tuple vs k2 vp) pos) (TSM M E (evS P C (.par is ies))) := by
  have hsc := G.g.sc
  have hw := sw_some (k := k) (k2 := k2) (p := tp) (p2 := vp) (vs := vs) G.bk (by rw [hsc]; exact hsw) hc
  rw [hsc] at hw
  have ha := (cEp_no ok he).1
  have loc : ∀ {x : Str}, sc.names.lookup x = some .local → X.env.scope.names.lookup x = some .local := fun {x} h => by
    rw [hsc]
    exact h
  have at_ : ∀ {x : Str} {i : Nat}, slotW T sc x = some i → X.N[i]? = some x := fun {x i} h => by
    rw [G.g.N]
    exact (slotW_ok h).1
  unfold parN at hp
  split at hp
  · rename_i x p y r
    simp only [Bool.and_eq_true, decide_eq_true_eq] at hp
    obtain ⟨⟨⟨e0, ne⟩, l1⟩, l2⟩ := hp
    rw [e0] at hw
    obtain ⟨i, j, rfl, f1, f2⟩ := ids2 hi
    match vs, hl, ha, hw with
    | [a, b], hl, ha, hw =>
      refine (ps_par G.g.calm G.g.nod (at_ f1) (at_ f2) (idx_inj (slotW_idx f1) (slotW_idx f2) ne) (loc l1) (loc l2) ha hw rfl).imp fun D σ H w => ?_
      obtain ⟨α, env, st, re, rh, h⟩ := par_wish w
      refine ⟨α, env, st, re, rh, h.mono fun ds α1 st1 H1 _ p k rh1 h1 vs rs => ?_⟩
      obtain ⟨α2, env2, env', ds2, re2, rs2, es, q⟩ := h1 vs rs
      match ds2, rs2, es with
      | [d1, d2], rs2, es =>
        obtain ⟨v, w, rfl, r1, r2⟩ := rs2.two
        cases es
        exact ⟨v, w, rfl, q _ ((re2.set r1).set r2)⟩
      | [], rs2, es => cases es
      | [_], rs2, es => cases es
      | _ :: _ :: _ :: _, rs2, es => cases es
  · rename_i x p y r z s
    simp only [Bool.and_eq_true, decide_eq_true_eq] at hp
    obtain ⟨⟨⟨⟨⟨⟨e0, n1⟩, n2⟩, n3⟩, l1⟩, l2⟩, l3⟩ := hp
    rw [e0] at hw
    obtain ⟨i, j, l, rfl, f1, f2, f3⟩ := ids3 hi
    match vs, hl, ha, hw with
    | [a, b, d], hl, ha, hw =>
      refine (ps_par3 G.g.calm G.g.nod (at_ f1) (at_ f2) (at_ f3) (idx_inj (slotW_idx f1) (slotW_idx f2) n1) (idx_inj (slotW_idx f1) (slotW_idx f3) n2) (idx_inj (slotW_idx f2) (slotW_idx f3) n3) (loc l1) (loc l2) (loc l3) ha hw rfl).imp fun D σ H w => ?_
      obtain ⟨α, env, st, re, rh, h⟩ := par_wish w
      refine ⟨α, env, st, re, rh, h.mono fun ds α1 st1 H1 _ p k rh1 h1 vs rs => ?_⟩
      obtain ⟨α2, env2, env', ds2, re2, rs2, es, q⟩ := h1 vs rs
      match ds2, rs2, es with
      | [d1, d2, d3], rs2, es =>
        cases rs2 with
        | cons r1 rs3 =>
          obtain ⟨v, w, rfl, r2, r3⟩ := rs3.two
          cases es
          exact ⟨_, v, w, rfl, q _ (((re2.set r1).set r2).set r3)⟩
      | [], rs2, es => cases es
      | [_], rs2, es => cases es
      | [_, _], rs2, es => cases es
      | _ :: _ :: _ :: _ :: _, rs2, es => cases es
  · cases hp

/-! ### xs[i] = v -/
theorem set_at {d y w : D} {x i v : V} {st2 : Sto} {Q : Hp → Prop} (rh : RH M α st H) (rx : RD M α H d x) (ri : RD M α H y i) (rv : RD M α H w v) (h : setB d y w st = some st2) (q : ∀ H', Keep H H' → RH M α st2 H' → Q H') : rSetL x i v H Q := by
  cases rx with
  | @ref n a ha =>
    cases ri with
    | int k =>
      have h' : (match st[n]? with
        | some (.lst true xs) => if 0 ≤ k then (if k < xs.length then some (st.set n (.lst true (xs.set k.toNat w))) else none)
          else if 0 ≤ k + xs.length then some (st.set n (.lst true (xs.set (k + xs.length).toNat w))) else none
        | _ => none) = some st2 := h
      split at h'
      · rename_i xs e
        obtain ⟨vs, h1, h2⟩ := wr_cell rh ha e
        have hl := h2.length
        have fin : ∀ j : Nat, st.set n (.lst true (xs.set j w)) = st2 → Q (upd H a (.lst (vs.set j v))) := fun j ej => by
          subst ej
          have kk := rh.keepSet (o := .lst (vs.set j v)) ha e rfl
          exact q _ kk (rh.set (c := .lst true (xs.set j w)) ha e rfl ⟨_, upd_same, (h2.set rv).keep (List.prefix_refl _) kk⟩)
        split at h'
        · rename_i h0
          split at h'
          · rename_i hlt
            refine ⟨a, vs, k, k.toNat, rfl, rfl, h1, ?_, fin _ (Option.some.inj h')⟩
            unfold ixN
            rw [if_pos h0, if_pos (by omega)]
          · cases h'
        · rename_i h0
          split at h'
          · rename_i hlt
            refine ⟨a, vs, k, (k + vs.length).toNat, rfl, rfl, h1, ?_, ?_⟩
            · unfold ixN
              rw [if_neg h0, if_pos (by omega)]
            · rw [← hl]
              exact fin _ (Option.some.inj h')
          · cases h'
      · cases h'
    | _ => cases h
  | _ => cases h
theorem g_setIx (G : GS M T P C kf X E sc c q bs) {o i e : Expr} {io ii ie : IE} {p pos : Pos} (ho : PE X o (TM M E (evE P C io))) (hi : PE X i (TM M E (evE P C ii))) (he : PE X e (TM M E (evE P C ie))) (hl : noLc e = true) (hs : noSlice i = true) :
    PS X (.Assign [.Subscript o i p] e pos) (TSM M E (evS P C (.setIx io ii ie))) := by
  have hg : PG X (.Subscript o i p) (gSub (TM M E (evE P C io)) (TM M E (evE P C ii)) rSetL) := pg_sub ho hi set_list (fun v => by
    cases i with
    | Slice => cases hs
    | _ => rfl)
  have hw : swappedStores [.Subscript o i p] e X.env = pure none := by
    cases e <;> rfl
  refine (ps_asg he hg (by cases e <;> rfl) hw rfl).imp fun D σ H ⟨α, env, st, re, rh, h⟩ => ?_
  have h' : PG' M E α H ((evE P C ie env st).bind fun v st => (evE P C io env st).bind fun x st => (evE P C ii env st).bind fun y st =>
      match setB x y v st with
      | some st => .ok (.nx env) st
      | none => .stuck) (KF M D) := h
  refine TM.then re rh h' fun w st1 α1 H1 v p1 k1 re1 rh1 rw' h1 => TM.then re1 rh1 h1 fun x st2 α2 H2 u p2 k2 re2 rh2 rx h2 => TM.then re2 rh2 h2 fun y st3 α3 H3 z p3 k3 re3 rh3 ry h3 => ?_
  split at h3
  · rename_i st4 e4
    refine set_at rh3 (rx.keep p3 k3) ry ((rw'.keep p2 k2).keep p3 k3) e4 fun H' kk rh4 => ?_
    exact h3 α3 H' (List.prefix_refl _) kk rh4 σ (re3.keep (List.prefix_refl _) kk)
  · exact False.elim h3
end
end PyI
end
section
/-! PyI2p: a compiled body does what the interpreter does. -/
set_option autoImplicit false
set_option linter.all false
set_option maxRecDepth 100000
set_option maxHeartbeats 4000000
namespace PyI
open PySem PySem.Spec PyProof.Rows L2
section
variable {M : Mdl} {T : CT} {P : Prog} {C : Str → List D → Sto → Res D} {kf : Nat} {X : Cx} {E : XK} {sc : Scope} {α : List Addr} {H : Hp} {st : Sto} {c : Addr} {q : Str} {bs : Heap}
/-- each statement that f compiles keeps -/
def SOk (M : Mdl) (P : Prog) (C : Str → List D → Sto → Res D) (X : Cx) (E : XK) (f : Stmt → Option IS) : Prop := ∀ s is, f s = some is → PS X s (TSM M E (evS P C is))
theorem seq_wish {s : IS} {r : ISs} {D0 : Ends} {σ : L2.St} (w : TSM M E (evSs P C (.cons s r)) D0 σ H) : tSeq (TSM M E (evS P C s)) (TSM M E (evSs P C r)) D0 σ H := by
  obtain ⟨α, env, st, re, rh, h⟩ := w
  have h' : PG' M E α H ((evS P C s env st).bind fun f st => match f with
    | .nx env => evSs P C r env st
    | f => .ok f st) (KF M D0) := h
  refine ⟨α, env, st, re, rh, h'.bind.mono fun fl α1 st1 H1 _ p k rh1 h1 => ?_⟩
  cases fl with
  | nx env1 => exact fun σ1 re1 => ⟨α1, env1, st1, re1, rh1, h1⟩
  | ret d => exact h1.here rh1
  | brk env1 => exact h1.here rh1
  | cont env1 => exact h1.here rh1
theorem cSs_ok {f : Stmt → Option IS} (ok : SOk M P C X E f) : ∀ {l : List Stmt} {is : ISs}, cSs f l = some is → PSs X l (TSM M E (evSs P C is))
  | [], _, h => by
    cases h
    exact pss_nil.imp fun D σ H ⟨α, env, st, re, rh, h⟩ => h.here rh σ re
  | s :: r, is, h => by
    have h' : (match f s, cSs f r with
      | some s', some r' => some (ISs.cons s' r')
      | _, _ => none) = some is := h
    split at h'
    · rename_i s' r' e1 e2
      cases h'
      exact (pss_cons (ok s s' e1) (cSs_ok ok e2)).imp fun D σ H w => seq_wish w
    · cases h'
theorem cAsgU_ok (G : GS M T P C kf X E sc c q bs) {f : Expr → Option IE} (ok : EOk M P C X E f) {ts : List Expr} {e : Expr} {is : IS} {k : Nat} {tp pos : Pos} (h : cAsgU T sc f ts e = some is) (hs : swapsWithSole [.Tuple ts k tp] e pos.line X.env = pure false) (hw : swappedStores [.Tuple ts k tp] e X.env = pure none) :
    PS X (.Assign [.Tuple ts k tp] e pos) (TSM M E (evS P C is)) := by
  unfold cAsgU at h
  split at h
  · rename_i js e' e1 e2
    cases h
    exact g_asgT G e1 (ok e e' e2).1 hs hw
  · cases h
theorem cAsgT_ok (G : GS M T P C kf X E sc c q bs) {f : Expr → Option IE} (ok : EOk M P C X E f) {ts : List Expr} {e : Expr} {is : IS} {k : Nat} {tp pos : Pos} (h : cAsgT T sc f ts e = some is) : PS X (.Assign [.Tuple ts k tp] e pos) (TSM M E (evS P C is)) := by
  by_cases ht : ∃ vs k2 p2, e = .Tuple vs k2 p2
  · obtain ⟨vs, k2, p2, rfl⟩ := ht
    have h' : (if swB sc ts vs then (if vs.all (constantsAlone 8) || !parN sc ts || ts.length != vs.length then none else (match cIds T sc ts, cEp f vs with
        | some is, some es => some (IS.par is es)
        | _, _ => none))
      else cAsgU T sc f ts (.Tuple vs k2 p2)) = some is := h
    split at h'
    · rename_i hsw
      split at h'
      · cases h'
      · rename_i hc
        simp only [Bool.or_eq_true, not_or, Bool.not_eq_true, Bool.not_eq_false', bne_eq_false_iff_eq] at hc
        obtain ⟨⟨c1, c2⟩, c3⟩ := hc
        split at h'
        · rename_i js ies e1 e2
          cases h'
          exact g_par G ok hsw c1 c2 c3 e1 e2
        · cases h'
    · rename_i hsw
      exact cAsgU_ok G ok h' rfl (sw_none G.bk (by rw [G.g.sc]; simpa using hsw))
  · have h' : (if noLc e then cAsgU T sc f ts e else none) = some is := by
      cases e with
      | Tuple vs k2 p2 => exact absurd ⟨vs, k2, p2, rfl⟩ ht
      | _ => exact h
    split at h'
    · rename_i hl
      refine cAsgU_ok G ok h' (by unfold swapsWithSole; exact noLc_sw hl _ _ _) ?_
      cases e with
      | Tuple vs k2 p2 => exact absurd ⟨vs, k2, p2, rfl⟩ ht
      | _ => rfl
    · cases h'
theorem cS_ok (lz : LzOk) (G : GS M T P C kf X E sc c q bs) (F : Nat) : ∀ n : Nat, SOk M P C X E (cS T sc F n)
  | 0 => fun s is h => by cases h
  | n + 1 => fun s is h => by
    have ok : ∀ F : Nat, EOk M P C X E (cE T F sc) := fun F => cE_ok (c := c) (q := q) (bs := bs) lz F T X E sc G.g fun z => ⟨G.top, G.hrd z⟩
    have okS := cS_ok lz G F n
    cases s with
    | Expr e pos =>
      have h' : (if noLc e then (cE T F sc e).map IS.expr else none) = some is := h
      split at h'
      · rename_i hl
        obtain ⟨ie, e1, e2⟩ := Option.map_eq_some_iff.mp h'
        subst e2
        refine (ps_expr (ok F e ie e1).1 (noLc_sw hl _ _ _)).imp fun D σ H ⟨α, env, st, re, rh, w⟩ => ?_
        have w' : PG' M E α H ((evE P C ie env st).bind fun _ st => .ok (.nx env) st) (KF M D) := w
        exact TM.then re rh w' fun d st1 α1 H1 v p1 k1 re1 rh1 rd h1 => h1.here rh1 σ re1
      · cases h'
    | Return o pos =>
      cases o with
      | none =>
        cases h
        exact ps_retN.imp fun D σ H ⟨α, env, st, re, rh, w⟩ => w.here rh _ .non
      | some e =>
        obtain ⟨ie, e1, e2⟩ := Option.map_eq_some_iff.mp (show (cE T F sc e).map IS.ret = some is from h)
        subst e2
        refine (ps_ret (ok F e ie e1).1).imp fun D σ H ⟨α, env, st, re, rh, w⟩ => ?_
        have w' : PG' M E α H ((evE P C ie env st).bind fun d st => .ok (.ret d) st) (KF M D) := w
        exact TM.then re rh w' fun d st1 α1 H1 v p1 k1 re1 rh1 rd h1 => h1.here rh1 v rd
    | Pass pos =>
      cases h
      exact ps_pass.imp fun D σ H ⟨α, env, st, re, rh, w⟩ => w.here rh σ re
    | Break pos =>
      cases h
      exact ps_break.imp fun D σ H ⟨α, env, st, re, rh, w⟩ => w.here rh σ re
    | Continue pos =>
      cases h
      exact ps_continue.imp fun D σ H ⟨α, env, st, re, rh, w⟩ => w.here rh σ re
    | Assign ts e pos =>
      match ts, h with
      | [.Name x xp], h =>
        have h' : (match slotW T sc x, cE T F sc e with
          | some i, some e' => some (IS.asg (.nm i) e')
          | _, _ => none) = some is := h
        split at h'
        · rename_i i e' e1 e2
          cases h'
          by_cases hlc : noLc e = true
          · exact g_asgN G e1 (ok F e e' e2).1 (noLc_sw hlc _ _ _)
          · cases e with
            | ListComp elt gs scope lp =>
              cases F with
              | zero => cases e2
              | succ F =>
                obtain ⟨tg, iter, ifs, t, it, is', ie, rfl, rfl, L⟩ := cLc_parts G.g (ok F) (fun s H Cc cl fp => cE_ok (c := c) (q := q) (bs := bs) lz F T _ E0 _ G.g.blk fun z => ⟨G.top.blk, G.hrd z⟩) e2
                cases hb : (X.env.scope.names.lookup x == some .local && xp.line == lp.line && !(scope.names.any fun p => p.1 == x && (p.2 == .local || p.2 == .cell))) with
                | false => exact g_asgN G e1 (ok (F + 1) _ _ e2).1 (by rw [swLc G.bk, hb])
                | true =>
                  have hl : X.env.scope.names.lookup x = some .local := by
                    simp only [Bool.and_eq_true, beq_iff_eq] at hb
                    exact hb.1.1
                  exact (g_setLc G.g (by rw [G.g.N]; exact (slotW_ok e1).1) hl (by rw [swLc G.bk, hb]) L).imp fun D σ H w => asg_wish G.g.K w
            | SetComp => cases F <;> cases e2
            | DictComp => cases F <;> cases e2
            | _ => exact absurd rfl hlc
        · cases h'
      | [.Tuple ts k tp], h => exact cAsgT_ok G (ok F) (show cAsgT T sc (cE T F sc) ts e = some is from h)
      | [.Subscript o i p], h =>
        have h' : (match cE T F sc o, cE T F sc i, cE T F sc e with
          | some o', some i', some e' => if noLc e && noSlice i then some (IS.setIx o' i' e') else none
          | _, _, _ => none) = some is := h
        split at h'
        · rename_i o' i' e' e1 e2 e3
          split at h'
          · rename_i hc
            obtain ⟨c1, c2⟩ := Bool.and_eq_true_iff.mp hc
            cases h'
            exact g_setIx G (ok F o o' e1).1 (ok F i i' e2).1 (ok F e e' e3).1 c1 c2
          · cases h'
        · cases h'
    | If t a b pos =>
      have h' : (match cE T F sc t, cSs (cS T sc F n) a, cSs (cS T sc F n) b with
        | some c', some a', some b' => some (IS.iff c' a' b')
        | _, _, _ => none) = some is := h
      split at h'
      · rename_i c' a' b' e1 e2 e3
        cases h'
        refine (ps_if (ok F t c' e1).2.1 (cSs_ok okS e2) (cSs_ok okS e3)).imp fun D σ H ⟨α, env, st, re, rh, w⟩ => ?_
        have w' : PG' M E α H ((evT P C c' env st).bind fun t st => match t with
          | true => evSs P C a' env st
          | false => evSs P C b' env st) (KF M D) := w
        refine ⟨α, env, st, re, rh, w'.bind.mono fun b α1 st1 H1 _ p k rh1 h1 => ?_⟩
        show (if b = true then _ else _)
        cases b with
        | true => exact ⟨α1, env, st1, re.keep p k, rh1, h1⟩
        | false => exact ⟨α1, env, st1, re.keep p k, rh1, h1⟩
      · cases h'
    | While t b orelse pos =>
      match orelse, h with
      | [], h =>
        have h' : (match cE T F sc t, cSs (cS T sc F n) b with
          | some c', some b' => some (IS.whl c' b')
          | _, _ => none) = some is := h
        split at h'
        · rename_i c' b' e1 e2
          cases h'
          refine (ps_while G.pass (ok F t c' e1).2.1 (cSs_ok okS e2)).imp fun D σ H ⟨α, env, st, re, rh, w⟩ => ?_
          exact whl_turns (m0 := FUEL) re rh w
        · cases h'
    | For tg it b orelse pos =>
      match orelse, h with
      | [], h =>
        have h' : (match cTg T sc tg, cI (cE T F sc) T sc tg it, cSs (cS T sc F n) b with
          | some t, some it', some b' => some (IS.forr t it' b')
          | _, _, _ => none) = some is := h
        split at h'
        · rename_i t it' b' e1 e2 e3
          cases h'
          have I := cI_ok G.g (ok F) e2
          have hg := cTg_pg (T := T) (s := sc) G.g.calm G.g.N G.g.nd G.sto e1
          refine (ps_for G.pass G.g.calm I.pi hg (cSs_ok okS e3) I.fo).imp fun D σ H ⟨α, env, st, re, rh, w⟩ => ?_
          have w' : PG' M E α H ((evI P C it' env st).bind fun J st => PyI.forLoop J t (fun env st => evSs P C b' env st) FUEL 0 env st) (KF M D) := w
          refine ⟨α, env, st, re, rh, w'.bind.mono fun J α1 st1 H1 _ p k rh1 h1 K Pp iok hP => ?_⟩
          exact for_turns iok (fun α st H d v env env' σ Q rh re rd h q => tgt_rd G.g.K re rd h fun σ' re' _ => q σ' re') hP (re.keep p k) rh1 h1
        · cases h'
    | Raise o cs pos =>
      match o, cs, h with
      | some (.Call (.Name x p) [e] [] p2), none, h =>
        have h' : (if isExc T sc x then (cE T F sc e).map (IS.raise x) else none) = some is := h
        split at h'
        · rename_i hx
          obtain ⟨ie, e1, e2⟩ := Option.map_eq_some_iff.mp h'
          subst e2
          obtain ⟨k1, _, k3⟩ := ok F e ie e1
          exact g_raise G hx k1 k3
        · cases h'
    | _ => cases h
end
end PyI
end
section
/-! PyI2q: a def keeps what the interpreter promises. -/
set_option autoImplicit false
set_option linter.all false
set_option maxRecDepth 100000
set_option maxHeartbeats 4000000
namespace PyI
open PySem PySem.Spec PyProof.Rows L2
section
variable {M : Mdl} {T : CT} {P : Prog} {C : Str → List D → Sto → Res D} {kf : Nat}
/-- the body's context, from where it is entered -/
theorem gx_def {P' : Program} {w : World} {base : Heap} {qual : Str} {scope : Scope} {a : Addr} {cd : Value} {A : Around} {outer : List PySem.Env} {s : Shared} {H : Hp} {E : XK} {ps : List Str} (S : FnScope T.N ps scope) (hg : A.guards = some []) (hr : Room kf (A.deeper (envOfC qual scope s.heap.objs.size a cd)))
    (md : GMod M T.glob P) (fns : ∀ f a, M.mg f = some (.ref a) → (P.defs f).isSome = true → GFn P' w M base kf a (C f)) (cst : ∀ f ds st, (P.defs f).isSome = false → C f ds st = .stuck) :
    GX M T P C kf (cxOf (L2.CX P' w) P' w M.K M.mg base T.N qual scope a cd A outer s H E) E scope where
  K := rfl
  mg := rfl
  N := rfl
  nd := S.nd
  calm := rfl
  sc := rfl
  grd := hg
  room := hr
  tk := takes_of rfl rfl rfl rfl
  md := md
  fns := fns
  cst := cst
theorem gs_def {P' : Program} {w : World} {base : Heap} {qual : Str} {scope : Scope} {a c : Addr} {q : Str} {cd : Value} {A : Around} {outer : List PySem.Env} {s : Shared} {H : Hp} {E : XK} {ps : List Str} (S : FnScope T.N ps scope) (hg : A.guards = some []) (hr : Room (kf + 2) (A.deeper (envOfC qual scope s.heap.objs.size a cd)))
    (md : GMod M T.glob P) (fns : ∀ f a, M.mg f = some (.ref a) → (P.defs f).isSome = true → GFn P' w M base kf a (C f)) (cst : ∀ f ds st, (P.defs f).isSome = false → C f ds st = .stuck)
    (hc : cd = .ref c) (hq : (envOfC qual scope s.heap.objs.size a cd).qual = q) (hrd : T.heard ≠ "" → HeardOk M T P C kf c q base) (mk : ∀ x, T.glob x = .exc → MkF P' w M.K M.mg base (M.cls x)) :
    GS M T P C kf (cxOf (L2.CX P' w) P' w M.K M.mg base T.N qual scope a cd A outer s H E) E scope c q base where
  g := gx_def S hg (hr.mono (by omega)) md fns cst
  top := ⟨rfl, hc, hq, hr⟩
  hrd := hrd
  pass := passes_of rfl
  fn := fun _ => rfl
  bk := by
    show (if scope.kind.isAnnotationScope then ScopeKind.function else scope.kind) = .function
    rw [S.kind]
    rfl
  mkX := mk
/-- the names at the entry -/
theorem re_start {α : List Addr} {H : Hp} {N : List Str} {ns np : Nat} {ds : List D} {vs : List V} (rs : RDs M α H ds vs) (hn : ns = N.length) (hl : ds.length = np) : RE M α (ds.map some ++ List.replicate (ns - np) none) (L2.start N vs) H := by
  have e := rs.length
  unfold L2.start
  refine ⟨by simp only [List.length_append, List.length_map, List.length_replicate]; omega, fun i d h => ?_⟩
  by_cases l : i < ds.length
  · rw [List.getElem?_append_left (by rw [List.length_map]; exact l), List.getElem?_map] at h
    obtain ⟨d', e1, e2⟩ := Option.map_eq_some_iff.mp h
    cases e2
    obtain ⟨v, f1, f2⟩ := rs.get e1
    refine ⟨v, ?_, f2⟩
    rw [List.getElem?_append_left (by rw [List.length_map, ← e]; exact l), List.getElem?_map, f1]
    rfl
  · rw [List.getElem?_append_right (by rw [List.length_map]; omega), List.getElem?_replicate] at h
    split at h <;> cases h
/-- a def of the module, as the interpreter has it -/
structure DefF (M : Mdl) (P : Prog) (base : Heap) (glob : Str → Gk) (heard hx : Str) (f : Str) (a : Addr) (d : PDef) : Prop where
  it : ∃ (oc : Value) (od : Option Addr) (name qual : Str) (params : Arguments) (body : List Stmt) (scope : Scope) (dV kV doc pm ct : Value) (an : Option Addr) (osl : Array (Option Value)) (c : Addr) (N ps : List Str) (hd : Str) (F n : Nat) (is : ISs),
    M.K.lookup a = some ⟨oc, od, .func (PySem.W.fnOf name qual params body scope dV kV doc pm an (.ref c) ct), osl⟩ ∧ PySem.W.codeIn M.K (.ref c) qual = true ∧ FnScope N ps scope ∧
    L2.Binds M.K (PySem.W.fnOf name qual params body scope dV kV doc pm an (.ref c) ct) ps [] ∧ cSs (cS ⟨N, glob, hd, hx⟩ scope F n) body = some is ∧ d = ⟨ps.length, N.length, is⟩ ∧
    (hd ≠ "" → hd = heard ∧ ∃ P' : Addr, LamX.TabB base M.mg c P' ∧ (P', (envOfC qual scope 0 a (.ref c)).qual ++ "<lambda>") ∈ M.T ∧ ∀ p ∈ M.T, p.1 = P' → p.2 = (envOfC qual scope 0 a (.ref c)).qual ++ "<lambda>")
/-- what heard(lambda: e) rests on, for every def -/
def HeardAll (M : Mdl) (P : Prog) (base : Heap) (glob : Str → Gk) (heard hx : Str) : Prop := ∀ (C : Str → List D → Sto → Res D) (kf : Nat) (N : List Str) (c : Addr) (q : Str), (∃ P' : Addr, LamX.TabB base M.mg c P' ∧ (P', q ++ "<lambda>") ∈ M.T ∧ ∀ p ∈ M.T, p.1 = P' → p.2 = q ++ "<lambda>") → HeardOk M ⟨N, glob, heard, hx⟩ P C kf c q base
theorem gfn_of (lz : LzOk) {P' : Program} {w : World} {base : Heap} {glob : Str → Gk} {heard hx f : Str} {a : Addr} {d : PDef} (D0 : DefF M P base glob heard hx f a d) (md : GMod M glob P) (fns : ∀ f a, M.mg f = some (.ref a) → (P.defs f).isSome = true → GFn P' w M base kf a (C f)) (cst : ∀ f ds st, (P.defs f).isSome = false → C f ds st = .stuck)
    (hrd : ∀ (N : List Str) (c : Addr) (q : Str), (∃ P' : Addr, LamX.TabB base M.mg c P' ∧ (P', q ++ "<lambda>") ∈ M.T ∧ ∀ p ∈ M.T, p.1 = P' → p.2 = q ++ "<lambda>") → HeardOk M ⟨N, glob, heard, hx⟩ P C kf c q base) (mk : ∀ x, glob x = .exc → MkF P' w M.K M.mg base (M.cls x)) :
    GFn P' w M base (kf + 3) a (fun ds st => if ds.length = d.np then (evSs P C d.body (ds.map some ++ List.replicate (d.ns - d.np) none) st).bind retD else .stuck) := by
  obtain ⟨oc, od, name, qual, params, body, scope, dV, kV, doc, pm, ct, an, osl, c, N, ps, hd, F, n, is, lk, hcd, S, hb, hcs, ed, hh⟩ := D0.it
  subst ed
  intro A outer s H us vs α st ds Q E hg hr e0 r rh rs h
  by_cases hl : ds.length = ps.length
  · have h' : PE' M E α H ((evSs P C is (ds.map some ++ List.replicate (N.length - ps.length) none) st).bind retD) Q := by
      have e : (if ds.length = ps.length then (evSs P C is (ds.map some ++ List.replicate (N.length - ps.length) none) st).bind retD else .stuck) = (evSs P C is (ds.map some ++ List.replicate (N.length - ps.length) none) st).bind retD := if_pos hl
      rw [← e]
      exact h
    have hv : vs.length = ps.length := by rw [← rs.length]; exact hl
    have hu : us.length = ps.length := by rw [← r.length]; exact hv
    have b := hb s us (e0.mod.kin.keeps fun b o e => (e0.bs b o e).1) (by rw [List.append_nil]; exact hu)
    rw [List.append_nil] at b
    refine LamX.run_ofS (N := N) (ps := ps) lk hcd S hr e0 b r hv fun hr' => ⟨_, cSs_ok (cS_ok (T := ⟨N, glob, hd, hx⟩) (c := c) (q := (envOfC qual scope 0 a (.ref c)).qual) (bs := base) lz (gs_def S hg hr' md fns cst rfl rfl (fun z => ?_) mk) F n) hcs, ?_⟩
    · obtain ⟨z1, z2⟩ := hh z
      have z1 : hd = heard := z1
      subst z1
      exact hrd N c _ z2
    · refine ⟨α, _, st, re_start rs rfl hl, rh, (PE'.iff.mp h').bind.mono fun fl α1 st1 H1 _ p k rh1 h1 => ?_⟩
      cases fl with
      | ret d => exact h1.here rh1
      | nx env => exact fun σ' _ => h1.here rh1 _ .non
      | brk env => exact False.elim h1
      | cont env => exact False.elim h1
  · have e : (if ds.length = ps.length then (evSs P C is (ds.map some ++ List.replicate (N.length - ps.length) none) st).bind retD else .stuck) = .stuck := if_neg hl
    have h' : PE' M E α H (if ds.length = ps.length then (evSs P C is (ds.map some ++ List.replicate (N.length - ps.length) none) st).bind retD else .stuck) Q := h
    rw [e] at h'
    exact False.elim h'
/-- all the defs, to any depth of calls -/
theorem callN_ok (lz : LzOk) {P' : Program} {w : World} {base : Heap} {glob : Str → Gk} {heard hx : Str} (ha : HeardAll M P base glob heard hx) (md : GMod M glob P) (mk : ∀ x, glob x = .exc → MkF P' w M.K M.mg base (M.cls x))
    (dfs : ∀ f a d, M.mg f = some (.ref a) → P.defs f = some d → DefF M P base glob heard hx f a d) : ∀ (n : Nat) (f : Str) (a : Addr), M.mg f = some (.ref a) → (P.defs f).isSome = true → GFn P' w M base (3 * n) a (callN P n f)
  | 0, f, a, _, _ => fun A outer s H us vs α st ds Q E _ _ _ _ _ _ h => False.elim h
  | n + 1, f, a, hm, hd => by
    obtain ⟨d, ed⟩ := Option.isSome_iff_exists.mp hd
    have F := gfn_of (kf := 3 * n) (C := callN P n) lz (dfs f a d hm ed) md (callN_ok lz ha md mk dfs n) (fun f ds st z => by
      cases n with
      | zero => rfl
      | succ n =>
        show (match P.defs f with
          | none => Res.stuck
          | some d => _) = _
        cases e : P.defs f with
        | none => rfl
        | some d =>
          rw [e] at z
          cases z) (ha (callN P n) (3 * n)) mk
    have e : callN P (n + 1) f = fun ds st => if ds.length = d.np then (evSs P (callN P n) d.body (ds.map some ++ List.replicate (d.ns - d.np) none) st).bind retD else .stuck := by
      funext ds st
      show (match P.defs f with
        | none => Res.stuck
        | some d => _) = _
      rw [ed]
    rw [e]
    exact F
end
end PyI
end
section
/-! PyI2r: a caught exception, kept. -/
set_option autoImplicit false
set_option linter.all false
set_option maxRecDepth 100000
set_option maxHeartbeats 4000000
namespace PyI
open PySem PySem.Spec PyProof.Rows L2
section
variable {X : Cx} {pins : List (Addr × Obj)} {σ : L2.St} {H : Hp} {s : Shared}
/-- an object that stands, of ours, is tracked from now on -/
theorem track (J : Inv X pins σ H s) {a : Addr} {o : HO} (na : H a = none) (n0 : X.s_0.heap.get? a = none) (nL : a ≠ X.env.locals) (nC : ∀ y k, X.env.cells.lookup y = some k → k ≠ a) (nP : ∀ p ∈ X.pn ++ pins, p.1 ≠ a) (new : ObjOk X.prog X.w (upd H a o) s.heap a o) : Inv X pins σ (upd H a o) s := by
  have old : ∀ b u, H b = some u → upd H a o b = some u := fun b u e => (upd_ne (ne_of_none e na)).trans e
  refine ⟨J.ok, J.os, J.bare, ⟨J.base.keep, J.base.slot, fun b u e n hx => ?_, J.base.there, fun b xs e => old _ _ (J.base.tups b xs e), fun b u y e => old _ _ (J.base.frzs b u y e), fun b ps e => ?_⟩, J.loc, J.cell, ?_, fun y k e => ?_, fun p hp => ?_, fun b u e => ?_, J.len⟩
  · have ne : b ≠ a := fun z => by
      rw [z, n0] at e
      cases e
    exact (upd_ne ne).trans (J.base.free b u e n hx)
  · obtain ⟨more, z⟩ := J.base.tbls b ps e
    exact ⟨more, old _ _ z⟩
  · exact (upd_ne (Ne.symm nL)).trans J.free
  · exact (upd_ne (nC y k e)).trans (J.freeC y k e)
  · obtain ⟨z1, z2, z3, z4, z5⟩ := J.pin p hp
    exact ⟨z1, (upd_ne (nP p hp)).trans z2, z3, z4, z5⟩
  · by_cases eb : b = a
    · subst eb
      rw [upd_same] at e
      cases e
      exact new
    · rw [upd_ne eb] at e
      exact (J.hok b u e).stay (fun _ _ _ z => z) (fun k z => old _ _ z) fun k xs z => old _ _ z
theorem exT_ok {P : Program} {w : World} {G : Hp} {h : Heap} {a C d : Addr} {oe : Obj} {vs : Array Value} (e : h.get? a = some oe) (z : Zc (.ref C) (some d) oe) (hd : oe.data = .fields vs) : ObjOk P w G h a (exT a C d) :=
  ⟨⟨oe, vs, e, z.1, z.2, hd⟩, ⟨_, e⟩, fun h1 h2 ⟨ob, fv, q, q2⟩ k => ⟨ob, fv, k _ q, q2⟩⟩
/-- what the clause wishes of an exception that it keeps: the name nm's slot is i -/
def wKeep (K : PySem.W.Frag) (cv : Value) (i : Nat) (ts : Addr → Value → Option Addr → TS) (D : Ends) : WX := fun cls d σ H =>
  PySem.W.exmOne K cls cv = some true ∧ ∀ a, H a = none → ∃ C dd, cls = .ref C ∧ d = some dd ∧ ts a cls d { nx := fun σ' H' => D.nx (σ'.set i none) (upd H' a (exT a C dd)), rt := fun _ _ => False } (σ.set i (some (.ref a))) H
end
section
variable {X : Cx} {x nm : Str} {cv : Value} {i : Nat} {body suite : List Stmt} {st0 : Stmt} {np cp tp : Pos} {tb : WX → TS} {ts : Addr → Value → Option Addr → TS}
/-- try: body / except x as nm: suite; the exception's object is tracked behind the suite -/
theorem ps_try_keep (e1 : X.stack = X.env :: X.outer) (e2 : X.env.frame = some X.env.locals) (e3 : X.ex = []) (nd : X.N.Nodup) (hi : X.N[i]? = some nm) (hl : X.env.kindOf nm = some .local) (hx : Names X x cv)
    (hb : ∀ (W : WX) (pn : List (Addr × Obj)) (xe : Value → Shared → Prop), Takes (X.tr pn xe) W → PassesOwn (model X.prog X.w) X.A X.env xe → PSs (X.tr pn xe) body (tb W))
    (hsu : ∀ (a : Addr) (oe : Obj) (cls : Value) (d : Option Addr) (pn : List (Addr × Obj)), Zc cls d oe → (∃ vs, oe.data = .fields vs) → PSs (X.suite a ((a, oe) :: pn)) (st0 :: suite) (ts a cls d)) :
    PS X (.Try body [.ExceptHandler (some (.Name x np)) (some nm) (st0 :: suite) cp] [] [] tp) (fun D σ H => tb (wKeep X.K cv i ts D) D σ H) := by
  refine ⟨fun pins s σ H D J0 w0 => wpAny_Try_except ?_⟩
  have okX := J0.ok
  have frm : X.A.frames = some (X.env :: X.outer) := by rw [okX.frames, e1]
  refine wpAny_mono ((hb (wKeep X.K cv i ts D) (X.pn ++ pins) (fun u t₁ => wpAny (model X.prog X.w) X.A (noteFrame u X.env) (fun _ t₂ => wpAny (model X.prog X.w) X.A (setFlight u none) (fun _ t₃ =>
    wpAny (model X.prog X.w) X.A (handleBy u X.env [.ExceptHandler (some (.Name x np)) (some nm) (st0 :: suite) cp]) (SP X pins D) X.xe t₃) X.xe t₂) X.xe t₁) (fun u t air => ?_) PassesOwn.looking).run [] s σ H D (J0.toTry _) w0) (fun fl t sp => ?_) (fun _ _ z => z)
  · obtain ⟨a, B, tI, ps', σ1, H1, cls, d, rfl, J1, nb, up, sky, na, hos, hag, hm, wish⟩ := air
    have J : Inv X pins σ1 H1 tI := J1.ofTry okX
    have sky1 : Sky B (X.env :: X.outer) a (Zc cls d) X.env.locals t.heap := by rw [← e1]; exact sky
    show wpAny (model X.prog X.w) X.A (noteFrame (.ref a) X.env) _ _ _
    refine Sky.land Zc.steady frm e2 sky1 fun g3 fly3 up3 => ?_
    have K3 : Inv X pins σ1 H1 { t with heap := g3 } := J.landed nb fly3.1 (up.trans up3) hos hag
    obtain ⟨ob3, vs3, at3, z3, f3⟩ := fly3.there
    have nfr : a ∉ frs (X.env :: X.outer) := fun hm => by
      obtain ⟨_, o', e', hnf⟩ := fly3.2.2.1.mem hm
      rw [at3] at e'
      cases e'
      exact hnf _ f3
    have nL : a ≠ X.env.locals := fun z => nfr (List.mem_filterMap.mpr ⟨X.env, List.mem_cons_self, by rw [e2, z]⟩)
    have nF : a ∉ X.fs := fun hm => by
      obtain ⟨ev, he, q⟩ := List.mem_filterMap.mp hm
      exact nfr (List.mem_filterMap.mpr ⟨ev, List.mem_cons_of_mem _ he, q⟩)
    have inB : ∀ b o, tI.heap.get? b = some o → b ≠ a := fun b o e z => by
      subst z
      have := nb b o e (by rw [e1]; exact nfr)
      rw [fly3.2.1] at this
      cases this
    have n0 : X.s_0.heap.get? a = none := by
      cases q : X.s_0.heap.get? a with
      | none => rfl
      | some o =>
        obtain ⟨o', q2⟩ := J.base.there a o q (by rw [e3]; simp)
        exact absurd rfl (inB a o' q2)
    have S3 := K3.suite at3 f3 na nL nF
    refine wpAny_handleBy_cons (codeAny_handlers_test ?_) (by intro q; cases q)
    have ty : PySem.W.Looks (model X.prog X.w) g3 (typeOf (.ref a)) cls := fun A Q E s k q => wpAny_typeOf_ref (k _ _ at3) (by rw [z3.1]; exact q)
    have mt := PySem.W.exm_one (M := model X.prog X.w) (K3.kIn) ty hm
    have test : ∀ {Q : Value → Shared → Prop} {E : Value → Shared → Prop}, Q cv { t with heap := g3 } → wpAny (model X.prog X.w) (X.A.mark (some (.ref a))) (eval (.Name x np) X.env) Q E { t with heap := g3 } := fun {Q E} q => by
      obtain ⟨y1, y2, y3 | ⟨y3, y4, y5⟩⟩ := hx
      · exact ld_glob (X := X.suite a ((a, ob3) :: (X.pn ++ pins))) S3 y1 y3 q y2
      · exact ld_blt (X := X.suite a ((a, ob3) :: (X.pn ++ pins))) S3 y1 y3 y4 q y5 y2
    refine test (mt.here (codeAny_handlers_suite_as (HandSPX.lands_againZ fly3 fun g4 fly4 up4 => ?_)))
    have K4 : Inv X pins σ1 H1 { t with heap := g4 } := J.landed nb fly4.1 ((up.trans up3).trans up4) hos hag
    obtain ⟨ob4, vs4, at4, z4, f4⟩ := fly4.there
    have S4 := K4.suite at4 f4 na nL nF
    obtain ⟨C, dd, ec, ed, w4⟩ := wish a na
    refine store_ok (X := X.suite a ((a, ob4) :: (X.pn ++ pins))) (v := .ref a) S4 nd hi (.inl hl) rfl (fun t5 S5 => ?_) (.inr hl)
    refine wpAny_mono ((hsu a ob4 cls d (X.pn ++ pins) z4 ⟨_, f4⟩).run [] t5 _ H1 _ S5 w4) (fun fl t6 sp => ?_) (fun _ _ z => False.elim z)
    cases fl with
    | next =>
      obtain ⟨σ6, H6, S6, q6⟩ := sp
      obtain ⟨at6, n6, _, _, _⟩ := S6.pin (a, ob4) (List.mem_append_left _ List.mem_cons_self)
      have K6 : Inv X pins σ6 H6 t6 := S6.unsuite okX
      have nC : ∀ y k, X.env.cells.lookup y = some k → k ≠ a := fun y k e z => by
        obtain ⟨v, o, ho, hd⟩ := K6.cell y k e
        rw [z] at ho
        have at6' : t6.heap.get? a = some ob4 := at6
        rw [at6'] at ho
        cases ho
        rw [f4] at hd
        cases hd
      have nP : ∀ p ∈ X.pn ++ pins, p.1 ≠ a := fun p hp => inB p.1 p.2 (J.pin p hp).1
      subst ec ed
      exact gone_ok (track (o := exT a C dd) K6 n6 n0 nL nC nP (exT_ok at6 z4 f4)) nd hi hl fun t7 K7 => ⟨_, _, K7, q6⟩
    | brk =>
      obtain ⟨_, _, _, z⟩ := sp
      exact False.elim z
    | cont =>
      obtain ⟨_, _, _, z⟩ := sp
      exact False.elim z
    | ret u =>
      obtain ⟨_, _, _, _, _, z⟩ := sp
      exact False.elim z
  · cases fl with
    | next =>
      obtain ⟨σ', H', J', z⟩ := sp
      exact wpAny_execs_nil ⟨σ', H', J'.ofTry okX, z⟩
    | brk =>
      obtain ⟨σ', H', J', z⟩ := sp
      exact ⟨σ', H', J'.ofTry okX, z⟩
    | cont =>
      obtain ⟨σ', H', J', z⟩ := sp
      exact ⟨σ', H', J'.ofTry okX, z⟩
    | ret u =>
      obtain ⟨v, σ', H', J', r, z⟩ := sp
      exact ⟨v, σ', H', J'.ofTry okX, r, z⟩
end
end PyI
end
section
/-! PyI2s: heard(lambda: e). -/
set_option autoImplicit false
set_option linter.all false
set_option maxRecDepth 100000
set_option maxHeartbeats 4000000
namespace PyI
open PySem PySem.Spec PyProof.Rows L2
section
variable {X : Cx} {pins : List (Addr × Obj)} {σ : L2.St} {H : Hp} {s : Shared}
/-- the lambda is called in the def that got it -/
theorem act_ok {CXg : CXT} {Eg : XK} {Ng : List Str} {qg : Str} {sg : Scope} {g fl cc : Addr} {cdg pm ctv : Value} {lam : Arguments} {lb : Expr} {lsc : Scope} {k i : Nat} {nm : Str} {pn : List (Addr × Obj)} {xe : Value → Shared → Prop} {W : WX} {tb : XK → TE} {p1 p2 : Pos}
    (J : Inv X pins σ H s) (L : LamX.LamS X.env.scope lsc) (at_ : s.heap.get? fl = some (PySem.W.kla_obj "<lambda>" (X.env.qual ++ "<lambda>") lam lb lsc (cloFrom X.env.cells lsc.names []) pm cc ctv)) (fn0 : H fl = none) (fr0 : fl ∉ frs X.stack)
    (hbd : bindArgs (PySem.W.kla_fn "<lambda>" (X.env.qual ++ "<lambda>") lam lb lsc (cloFrom X.env.cells lsc.names []) pm (.ref cc) ctv) ⟨[], []⟩ = pure [])
    (tk : Takes ((cxOf CXg X.prog X.w X.K X.mg X.base Ng qg sg g cdg X.A X.stack s H Eg).tr pn xe) W) (hr : Room (k + 1) (X.A.deeper (envOfC qg sg s.heap.objs.size g cdg)))
    (hbody : ∀ (t : Shared) (G : Hp) (E : XK), Room k ((X.A.deeper (envOfC qg sg s.heap.objs.size g cdg)).deeper (LamX.lamEnv X lsc t.heap.objs.size fl cc)) → PE (LamX.lamCx X (X.A.deeper (envOfC qg sg s.heap.objs.size g cdg)) (envOfC qg sg s.heap.objs.size g cdg :: X.stack) t G E lsc fl cc) lb (tb E))
    (hN : Ng[i]? = some nm) (hv : Vis sg nm) (hd : (nm == ("__debug__" : Str)) = false) (hcd : (nm == ("__classdict__" : Str)) = false) :
    PE ((cxOf CXg X.prog X.w X.K X.mg X.base Ng qg sg g cdg X.A X.stack s H Eg).tr pn xe) (.Call (.Name nm p1) [] [] p2)
      (fun σZ HZ Q => σZ[i]? = some (some (.ref fl)) ∧ HZ cc = some (LamX.CodeO cc (X.env.qual ++ "<lambda>")) ∧ tb (WE W σZ) σ HZ Q) := by
  refine ⟨fun pinsZ sZ σZ HZ Q IZ ⟨w1, w2, w3⟩ => wpAny_Call_Name_kw (thn ((pe_var (pos := p1) (i := i) hN hv hd hcd).run pinsZ sZ σZ HZ (fun v G => v = .ref fl ∧ G = HZ) IZ ⟨.ref fl, w1, rfl, rfl⟩) fun u t1 ⟨v, G1, K1, r1, z1, z2⟩ => ?_)⟩
  subst z1 z2
  obtain rfl : u = Value.ref fl := r1
  have at1 : t1.heap.get? fl = some (PySem.W.kla_obj "<lambda>" (X.env.qual ++ "<lambda>") lam lb lsc (cloFrom X.env.cells lsc.names []) pm cc ctv) := K1.base.keep fl _ at_ fn0 fr0 (fun z => nomatch (show fl ∈ ([] : List Addr) from z))
  have un : Un (frs X.stack) [] H G1 s.heap t1.heap := K1.base
  obtain ⟨⟨oc, vs, t, b1, b2, b3⟩, _, _⟩ := K1.hok cc _ w2
  refine PySem.W.callWith_F0 ⟨_, _, _, _, at1⟩ ?_
  have rc : codeAny (model X.prog X.w) (X.A.deeper (envOfC qg sg s.heap.objs.size g cdg)) (.call (.ref fl) ⟨[], []⟩) (CR (L2.CX X.prog X.w) (envOfC qg sg s.heap.objs.size g cdg :: X.stack) X.prog X.w G1 t1 Q (WE W σZ)) t1 := by
    refine PySem.W.kla_callFunE hr.depth at1 rfl L.co L.gen rfl ⟨cc, oc, vs, t, rfl, b1, b2, b3⟩ ?_
    rw [hbd]
    refine wpAny_pure (wpAny_newFunctionEnv (fun y hy => (L.own y hy).2) (fun y hy => absurd hy (by simp)) (fun h₁ hns hsb => ⟨K1.nolimit.fresh _ hsb, ?_⟩) L.kind)
    show codeAny _ _ (.expr lb (LamX.lamEnv X lsc t1.heap.objs.size fl cc)) _ _
    have up : ∀ b o, t1.heap.get? b = some o → h₁.get? b = some o := fun b o e => hsb.extBut b o (Nat.ne_of_lt (Heap.lt_size e)) (Heap.get?_push_of_some _ e)
    have K2 : Inv (LamX.lamCx X (X.A.deeper (envOfC qg sg s.heap.objs.size g cdg)) (envOfC qg sg s.heap.objs.size g cdg :: X.stack) t1 G1 (WE W σZ) lsc fl cc) [] σ G1 { t1 with heap := h₁, toks := t1.toks + ([] : List (Str × Value)).length } :=
      LamX.lam_start2 J L K1.env0 hr.hd un hns up
    refine PySem.W.kla_codeExpr (wpAny_mono ((hbody t1 G1 (WE W σZ) (hr.deeper _)).run [] _ _ G1 Q K2 w3) (fun v t2 hq => ?_) fun e t2 hq => hq)
    obtain ⟨y, G2, K3, rv, q⟩ := hq
    exact ⟨y, G2, K3.os, K3.bare, K3.base, K3.hok, rv, q⟩
  refine wpAny_call (codeAny_mono rc fun r t2 hq => ?_)
  cases r with
  | error e => exact passAt tk σZ pinsZ G1 t1 e t2 K1 hq
  | ok f =>
    cases f with
    | ret u => exact K1.after hq
    | next => exact False.elim hq
    | brk => exact False.elim hq
    | cont => exact False.elim hq
end

/-- the def that hears: its text -/
def heardBody (ca ba cal fe er : Str) (a1 a2 a3 a4 a5 a6 a7 b1 b2 b3 b4 c1 c2 c3 c4 c5 d1 d2 d3 d4 d5 : Pos) (n1 n2 n3 n4 n5 : Nat) : List Stmt :=
  [.Assign [.Tuple [.Name ca a1, .Name ba a2] n1 a3] (.Tuple [.Constant .none n2 a4, .Constant .none n3 a5] n4 a6) a7,
   .Try [.Assign [.Name ba b1] (.Call (.Name cal b2) [] [] b3) b4] [.ExceptHandler (some (.Name fe c1)) (some er) [.Assign [.Name ca c2] (.Name er c3) c4] c5] [] [] d1,
   .Return (some (.Tuple [.Name ca d2, .Name ba d3] n5 d4)) d5]
/-- what it rests on -/
structure HeardF (M : Mdl) (P : Prog) (base : Heap) (glob : Str → Gk) (heard hx : Str) : Prop where
  it : ∃ (g : Addr) (pg : Arguments) (sg : Scope) (dV kV doc pm ct oc : Value) (cg : Addr) (an od : Option Addr) (osl : Array (Option Value)) (ca ba cal er : Str) (a1 a2 a3 a4 a5 a6 a7 b1 b2 b3 b4 c1 c2 c3 c4 c5 d1 d2 d3 d4 d5 : Pos) (n1 n2 n3 n4 n5 : Nat),
    M.mg heard = some (.ref g) ∧ PySem.W.keepIn M.K (.ref g) = true ∧ M.K.lookup g = some ⟨oc, od, .func (PySem.W.fnOf heard heard pg (heardBody ca ba cal hx er a1 a2 a3 a4 a5 a6 a7 b1 b2 b3 b4 c1 c2 c3 c4 c5 d1 d2 d3 d4 d5 n1 n2 n3 n4 n5) sg dV kV doc pm an (.ref cg) ct), osl⟩ ∧
    PySem.W.codeIn M.K (.ref cg) heard = true ∧ L2.Binds M.K (PySem.W.fnOf heard heard pg (heardBody ca ba cal hx er a1 a2 a3 a4 a5 a6 a7 b1 b2 b3 b4 c1 c2 c3 c4 c5 d1 d2 d3 d4 d5 n1 n2 n3 n4 n5) sg dV kV doc pm an (.ref cg) ct) [cal] [] ∧
    FnScope [cal, ca, ba, er] [cal] sg ∧ sg.names.lookup cal = some .local ∧ sg.names.lookup ca = some .local ∧ sg.names.lookup ba = some .local ∧ sg.names.lookup er = some .local ∧ sg.names.lookup hx = some .globalImplicit ∧
    (∀ y ∈ [cal, ca, ba, er, hx], (y == ("__debug__" : Str)) = false ∧ (y == ("__classdict__" : Str)) = false)
  exm : ∀ d, P.sub d hx = some true → PySem.W.exmOne M.K (.ref (M.cls d)) (.ref (M.cls hx)) = some true
  cls : M.mg hx = some (.ref (M.cls hx))
end PyI
end
section
/-! PyI2t: heard(lambda: e), proved. -/
set_option autoImplicit false
set_option linter.all false
set_option maxRecDepth 100000
set_option maxHeartbeats 4000000
namespace PyI
open PySem PySem.Spec PyProof.Rows L2
theorem keep_ext {H H1 : Hp} (e : LamX.ExtN H H1) : Keep H H1 := fun a o h p => e a o h fun ps z => by
  subst z
  exact p
theorem rh_ext {M : Mdl} {α : List Addr} {st : Sto} {H H1 : Hp} (rh : RH M α st H) (e : LamX.ExtN H H1) (t : LamX.Tabs M.T H1) : RH M α st H1 := by
  refine ⟨rh.len, rh.nd, fun n c a e1 e2 => ?_, t⟩
  have rc := rh.cell n c a e1 e2
  obtain ⟨o, z, _, nt⟩ := rc.at
  exact rc.keep (List.prefix_refl _) (keep_ext e) ((e a o z nt).trans z.symm)
section
variable {M : Mdl} {P : Prog} {C : Str → List D → Sto → Res D} {α : List Addr} {H : Hp} {st : Sto} {E : XK}
/-- a pair of two names -/
def pairIE : IE := .tup (.cons false (.var 1) (.cons false (.var 2) .nil))
theorem pair_ev {x y : D} {z w : Option D} : evE P C pairIE [z, some x, some y, w] st = .ok (.tup [x, y]) st := by
  show (if [x, y].length ≤ LIM then Res.ok (D.tup [x, y]) st else .stuck) = _
  exact if_pos (show 2 ≤ LIM by decide)
theorem swB_const {sc : Scope} {ts : List Expr} {n m : Nat} {a b : Pos} : swB sc ts [.Constant .none n a, .Constant .none m b] = false := by
  unfold swB
  have e : ([Expr.Constant .none n a, .Constant .none m b].all (foldedForSure 8)) = true := by
    simp [foldedForSure]
  rw [e]
  simp
theorem body_ok {X : Cx} {glob : Str → Gk} {heard hx : Str} {kf : Nat} {N : List Str} {sc sg lsc : Scope} {g cg fl cc : Addr} {s1 : Shared} {H1 : Hp} {pins : List (Addr × Obj)} {σ : L2.St} {env : Env} {Q : VK} {pm' ctv : Value} {lb : Expr} {ie : IE} {ca ba cal er : Str} {a1 a2 a3 a4 a5 a6 a7 b1 b2 b3 b4 c1 c2 c3 c4 c5 d1 d2 d3 d4 d5 : Pos} {n1 n2 n3 n4 n5 : Nat}
    (hK : X.K = M.K) (hmg : X.mg = M.mg) (G : GX M ⟨N, glob, heard, hx⟩ P C kf X E sc) (hr : Room (kf + 1) (X.A.deeper (envOfC heard sg s1.heap.objs.size g (.ref cg)))) (L : LamX.LamS X.env.scope lsc) (hc : X.mg hx = some (.ref (M.cls hx))) (hm : ∀ d, P.sub d hx = some true → PySem.W.exmOne M.K (.ref (M.cls d)) (.ref (M.cls hx)) = some true)
    (S : FnScope [cal, ca, ba, er] [cal] sg) (l0 : sg.names.lookup cal = some .local) (l1 : sg.names.lookup ca = some .local) (l2 : sg.names.lookup ba = some .local) (l3 : sg.names.lookup er = some .local) (lx : sg.names.lookup hx = some .globalImplicit)
    (nb : ∀ y ∈ [cal, ca, ba, er, hx], (y == ("__debug__" : Str)) = false ∧ (y == ("__classdict__" : Str)) = false) (ne : cal ≠ ca ∧ cal ≠ ba ∧ cal ≠ er ∧ ca ≠ ba ∧ ca ≠ er ∧ ba ≠ er)
    (I1 : Inv X pins σ H1 s1) (hf : s1.heap.get? fl = some (PySem.W.kla_obj "<lambda>" (X.env.qual ++ "<lambda>") noA lb lsc (cloFrom X.env.cells lsc.names []) pm' cc ctv)) (hfn : H1 fl = none) (hfr : fl ∉ frs X.stack) (hco : H1 cc = some (LamX.CodeO cc (X.env.qual ++ "<lambda>")))
    (re : RE M α env σ H1) (rh : RH M α st H1) (w : PE' M E α H1 (evE P C (.heard hx ie) env st) Q)
    (hbody : ∀ (X' : Cx) (E' : XK), GX M (CT.inLam ⟨N, glob, heard, hx⟩) P C kf X' E' lsc → PE X' lb (TM M E' (evE P C ie))) :
    ∃ t, PSs (cxOf (L2.CX X.prog X.w) X.prog X.w X.K X.mg X.base [cal, ca, ba, er] heard sg g (.ref cg) X.A X.stack s1 H1 E0) (heardBody ca ba cal hx er a1 a2 a3 a4 a5 a6 a7 b1 b2 b3 b4 c1 c2 c3 c4 c5 d1 d2 d3 d4 d5 n1 n2 n3 n4 n5) t ∧ t { nx := fun _ H' => Q .non H', rt := Q } (L2.start [cal, ca, ba, er] [.ref fl]) H1 := by
  obtain ⟨q01, q02, q03, q12, q13, q23⟩ := ne
  have GZ : GX M ⟨[cal, ca, ba, er], glob, "", hx⟩ P C kf (cxOf (L2.CX X.prog X.w) X.prog X.w X.K X.mg X.base [cal, ca, ba, er] heard sg g (.ref cg) X.A X.stack s1 H1 E0) E0 sg :=
    { K := hK, mg := hmg, N := rfl, nd := S.nd, calm := rfl, sc := rfl, grd := G.grd, room := hr.mono (by omega), tk := takes_of rfl rfl rfl rfl, md := G.md, fns := G.fns, cst := G.cst }
  have bkZ : (cxOf (L2.CX X.prog X.w) X.prog X.w X.K X.mg X.base [cal, ca, ba, er] heard sg g (.ref cg) X.A X.stack s1 H1 E0).env.blockKind = .function := by
    show (if sg.kind.isAnnotationScope then ScopeKind.function else sg.kind) = .function
    rw [S.kind]
    rfl
  have sl : ∀ {y : Str} {i : Nat}, y ∈ [cal, ca, ba, er, hx] → sg.names.lookup y = some .local → idx y [cal, ca, ba, er] 0 = some i → slot ⟨[cal, ca, ba, er], glob, "", hx⟩ sg y = some i := fun {y i} hy hl hi => by
    obtain ⟨z1, z2⟩ := nb y hy
    unfold slot
    rw [if_neg (fun z => by
      rcases z with z | z
      · subst z
        cases z1
      · subst z
        cases z2), hl]
    exact hi
  have i1 : idx ca [cal, ca, ba, er] 0 = some 1 := by simp [idx, q01]
  have i2 : idx ba [cal, ca, ba, er] 0 = some 2 := by simp [idx, q02, q12]
  have p1 : PE (cxOf (L2.CX X.prog X.w) X.prog X.w X.K X.mg X.base [cal, ca, ba, er] heard sg g (.ref cg) X.A X.stack s1 H1 E0) (.Tuple [.Constant .none n2 a4, .Constant .none n3 a5] n4 a6) (TM M E0 (evE P C (.tup (.cons false .non (.cons false .non .nil))))) :=
    g_tup (g_cons (g_const pe_non fun _ _ => .non) rfl (g_cons (g_const pe_non fun _ _ => .non) rfl g_nil))
  have t1 : PG (cxOf (L2.CX X.prog X.w) X.prog X.w X.K X.mg X.base [cal, ca, ba, er] heard sg g (.ref cg) X.A X.stack s1 H1 E0) (.Tuple [.Name ca a1, .Name ba a2] n1 a3) (gTup X.K 2 (gCons (gName 1) (gCons (gName 2) gNil))) :=
    pg_tup rfl (pgs_cons (pg_name S.nd rfl (.inl l1) (.inl rfl)) (pgs_cons (pg_name S.nd rfl (.inl l2) (.inl rfl)) pgs_nil))
  have st1 := ps_asg (pos := a7) p1 t1 rfl (sw_none bkZ swB_const) rfl
  have st3 := ps_ret (pos := d5) (g_tup (k := n5) (pos := d4) (g_cons (g_var (pos := d2) GZ (sl (by simp) l1 i1)) rfl (g_cons (g_var (pos := d3) GZ (sl (by simp) l2 i2)) rfl g_nil)))
  have st2 := ps_try_keep (X := cxOf (L2.CX X.prog X.w) X.prog X.w X.K X.mg X.base [cal, ca, ba, er] heard sg g (.ref cg) X.A X.stack s1 H1 E0) (i := 3) (x := hx) (nm := er) (np := c1) (cp := c5) (tp := d1) (cv := .ref (M.cls hx)) rfl rfl rfl S.nd rfl l3 ⟨lx, (nb hx (by simp)).1, .inl hc⟩
    (body := [.Assign [.Name ba b1] (.Call (.Name cal b2) [] [] b3) b4]) (tb := fun W D σZ HZ => σZ[0]? = some (some (V.ref fl)) ∧ HZ cc = some (LamX.CodeO cc (X.env.qual ++ "<lambda>")) ∧ TM M (WE W σZ) (evE P C ie) σ HZ (fun v G => D.nx (σZ.set 2 (some v)) G))
    (st0 := .Assign [.Name ca c2] (.Name er c3) c4) (suite := []) (ts := fun a cls d => tAsg (tVar 3) (gName 1))
    (fun W pn xe tk _ => (pss_one (ps_set (i := 2) S.nd rfl (.inl l2) (act_ok (i := 0) (W := W) I1 L hf hfn hfr rfl tk hr (tb := fun E => TM M E (evE P C ie)) (fun t G' E' hr2 => hbody _ E' { K := hK, mg := hmg, N := G.N, nd := G.nd, calm := rfl, sc := rfl, grd := G.grd, room := hr2, tk := takes_of rfl rfl rfl rfl, md := G.md, fns := G.fns, cst := G.cst }) rfl (.inl l0) (nb cal (by simp)).1 (nb cal (by simp)).2) rfl (.inl rfl))).imp fun D σZ HZ h => ⟨h.1, h.2.1, h.2.2⟩)
    (fun a oe cls d pn _ _ => pss_one (ps_set (i := 1) S.nd rfl (.inl l1) (pe_var (i := 3) rfl (.inl l3) (nb er (by simp)).1 (nb er (by simp)).2) rfl (.inl rfl)))
  refine ⟨_, pss_cons st1 (pss_cons st2 (pss_one st3)), ?_⟩
  refine ⟨α, [none, none, none, none], st, ⟨rfl, fun i d h => ?_⟩, rh, ?_⟩
  · match i, h with
    | 0, h => cases h
    | 1, h => cases h
    | 2, h => cases h
    | 3, h => cases h
    | n + 4, h => simp at h
  have e0 : evE P C (.tup (.cons false .non (.cons false .non .nil))) [none, none, none, none] st = .ok (.tup [.non, .non]) st := by
    show (if [D.non, D.non].length ≤ LIM then Res.ok (D.tup [.non, .non]) st else .stuck) = _
    exact if_pos (show 2 ≤ LIM by decide)
  rw [e0]
  intro α2 v2 H2 pp kk rh2 rv
  cases rv with
  | @tup _ a vs ht hs =>
    obtain ⟨x1, x2, rfl, r1, r2⟩ := hs.two
    cases r1
    cases r2
    refine ⟨a, _, rfl, by rw [hK]; exact ht.sq, rfl, .non, [.non], rfl, .non, [], rfl, rfl, ?_⟩
    refine ⟨rfl, kk _ _ hco trivial, α2, env, st, re.keep pp kk, rh2, ?_⟩
    have w2 := w.later pp kk
    have fin : ∀ {α3 : List Addr} {st3 : Sto} {G : Hp} {x y : D} {σ3 : L2.St}, RH M α3 st3 G → RE M α3 [none, some x, some y, none] σ3 G → PE' M E0 α3 G (.ok (.tup [x, y]) st3) Q → TM M E0 (evE P C pairIE) σ3 G Q := fun {α3 st3 G x y σ3} r1 r2 r3 => ⟨α3, _, st3, r2, r1, by rw [pair_ev]; exact r3⟩
    have res : ∀ {x y : D} {v u : V} {α3 : List Addr} {G : Hp} {z : Option V}, RD M α3 G x v → RD M α3 G y u → ∀ z0 : Option V, RE M α3 [none, some x, some y, none] [z0, some v, some u, z] G := fun {x y v u α3 G z} rx ry z0 => ⟨rfl, fun i d h => by
      match i, h with
      | 0, h => cases h
      | 1, h =>
        cases h
        exact ⟨v, rfl, rx⟩
      | 2, h =>
        cases h
        exact ⟨u, rfl, ry⟩
      | 3, h => cases h
      | n + 4, h => simp at h⟩
    have w3 : PE' M E α2 H2 (match evE P C ie env st with
      | .ok d st => .ok (.tup [.non, d]) st
      | .err c v st => if P.sub c hx = some true then .ok (.tup [.exc c v, .non]) st else .stuck
      | .stuck => .stuck) Q := w2
    revert w3
    cases evE P C ie env st with
    | ok d st2 => exact fun w3 α3 v G pp3 kk3 rh3 rd3 => fin (y := d) rh3 (res .non rd3 _) (PE'.later (E := E0) (r := .ok (.tup [.non, d]) st2) w3 pp3 kk3)
    | stuck => exact fun w3 => w3
    | err cn dv st2 =>
      intro w3
      have w4 : PE' M E α2 H2 (if P.sub cn hx = some true then .ok (.tup [.exc cn dv, .non]) st2 else .stuck) Q := w3
      split at w4
      · rename_i hsub
        intro α3 x wv G pp3 kk3 rh3 hxd rdv
        refine ⟨by rw [hK]; exact hm cn hsub, fun a ha => ⟨M.cls cn, x, rfl, rfl, .ref a, rfl, ?_⟩⟩
        have sm : Same G (upd G a (exT a (M.cls cn) x)) := same_new ha
        have nx : x ≠ a := ne_of_none hxd ha
        have rex : RD M α3 (upd G a (exT a (M.cls cn) x)) (.exc cn dv) (.ref a) := .exc upd_same (by rw [upd_ne nx]; exact hxd) (rdv.keep (List.prefix_refl _) (.of sm))
        exact fin (rh3.same sm) (res rex .non _) (PE'.later (E := E0) (r := .ok (.tup [.exc cn dv, .non]) st2) w4 pp3 (kk3.trans (.of sm)))
      · exact False.elim w4
theorem heard_ok {base : Heap} {glob : Str → Gk} {heard hx : Str} (HF : HeardF M P base glob heard hx) : HeardAll M P base glob heard hx := by
  intro C kf N c q hlam X E sc G top p lpos pos lb lsc ie hdef hls hbody
  obtain ⟨P', TB, hmT, huT⟩ := hlam
  obtain ⟨g, pg, sg, dV, kV, doc, pm, ct, oc, cg, an, od, osl, ca, ba, cal, er, a1, a2, a3, a4, a5, a6, a7, b1, b2, b3, b4, c1, c2, c3, c4, c5, d1, d2, d3, d4, d5, n1, n2, n3, n4, n5, f1, f2, f3, f4, f5, f6, f7, f8, f9, f10, f11, f12⟩ := HF.it
  obtain ⟨h1, ⟨g', h2, _⟩, h3⟩ := G.isDef hdef
  have eg : g' = g := by
    have z : M.mg heard = some (.ref g') := h2
    rw [f1] at z
    cases z
    rfl
  subst eg
  have hK := G.K
  rw [← hK] at f2 f3 f4 f5
  have L : LamX.LamS X.env.scope lsc := by
    rw [G.sc]
    exact LamX.lamS_by hls
  have nd4 := f6.nd
  have ne : cal ≠ ca ∧ cal ≠ ba ∧ cal ≠ er ∧ ca ≠ ba ∧ ca ≠ er ∧ ba ≠ er := by
    simp only [List.nodup_cons, List.mem_cons, List.not_mem_nil, or_false, not_or, List.nodup_nil, not_false_eq_true, and_true] at nd4
    obtain ⟨⟨x1, x2, x3⟩, ⟨x4, x5⟩, x6⟩ := nd4
    exact ⟨x1, x2, x3, x4, x5, x6⟩
  refine ⟨fun pins s σ H0 Q I ⟨α0, env, st, re, rh, w⟩ => wpAny_Call_Name_kw (ld_glob I h1 (by rw [G.mg]; exact f1) ?_ h3)⟩
  refine PySem.W.callWith_K (h₀ := X.base) I.ok.mod.kin f2 ?_ (by rfl) (by rfl)
  show wpAny _ _ (spliced ((false, eval (.Lambda noA lb lsc lpos) X.env) :: backTo pos (starEach [] X.env))) _ _ s
  have eq : X.env.qual ++ "<lambda>" = q ++ "<lambda>" := by rw [top.qual]
  refine Calls.spliced_cons (LamX.lam_make2 (T := M.T) (c := c) (P := P') I (by rw [top.bs, G.mg]; exact TB) top.code (by rw [eq]; exact hmT) (by rw [eq]; exact huT) rh.tabs rfl (L.has I.ok) fun fl cc pm' ctv H1 s1 I1 eN T1 hf hfn hfr hco => ?_)
  have rh1 := rh_ext rh eN T1
  have kp1 := keep_ext eN
  refine Calls.spliced_nil ⟨I1.kIn, ?_⟩
  have rc : codeAny (model X.prog X.w) X.A (.call (.ref g') ⟨[.ref fl], []⟩) (CR (L2.CX X.prog X.w) X.stack X.prog X.w H1 s1 Q E0) s1 := by
    refine LamX.run_ofS (N := [cal, ca, ba, er]) (ps := [cal]) (us := [.ref fl]) (vs := [.ref fl]) f3 f4 f6 (show Room (kf + 1 + 1) X.A from top.room) I1.env0 (f5 s1 [.ref fl] I1.kIn rfl) (.cons rfl .nil) rfl fun hr' => ?_
    exact body_ok hK G.mg G hr' L (by rw [G.mg, HF.cls]) HF.exm f6 f7 f8 f9 f10 f11 f12 ne I1 hf hfn hfr hco (re.keep (List.prefix_refl _) kp1) rh1 (w.later (List.prefix_refl _) kp1) hbody
  refine wpAny_call (codeAny_mono rc fun r s2 hq => ?_)
  cases r with
  | error e =>
    obtain ⟨_, _, _, _, _, _, _, _, _, _, _, _, z⟩ := hq
    exact False.elim z
  | ok f =>
    cases f with
    | ret u => exact I1.after hq
    | next => exact False.elim hq
    | brk => exact False.elim hq
    | cont => exact False.elim hq
end
end PyI
end
section
/-! PyI2z: list(zip(t, u)) of two tuples. -/
set_option autoImplicit false
set_option linter.all false
set_option maxRecDepth 100000
set_option maxHeartbeats 4000000
namespace PyI
open PySem PySem.Spec PyProof.Rows L2
section
variable {prog : Program} {w : World} {A : Around} {E : Value → Shared → Prop} {s : Shared}
/-- a turn of zip over two tuples while the last tuple is out -/
theorem held_item {zp TI TO Tp i1 i2 l1 l2 : Addr} {fg : Bool} {oT : Obj} {n1 n2 : Nat} {xs ys : Array Value} {x y : Value} {Q : Value → Shared → Prop} (D : ZipApart zp TI TO i1 i2 l1 l2)
    (zz : IsZipHeld s.heap zp TI TO Tp fg) (hT : s.heap.get? Tp = some oT) (pTI : IsPair s.heap TI (.ref i1) (.ref i2))
    (u1 : s.heap.IsTupleIter i1 l1 n1) (u2 : s.heap.IsTupleIter i2 l2 n2) (t1 : s.heap.IsTuple l1 xs) (t2 : s.heap.IsTuple l2 ys) (hx : xs[n1]? = some x) (hy : ys[n2]? = some y)
    (hQ : ∀ h', IsZipHeld h' zp TI TO Tp true → h'.IsTupleIter i1 l1 (n1 + 1) → h'.IsTupleIter i2 l2 (n2 + 1) → IsPair h' s.heap.objs.size x y → h'.objs.size = s.heap.objs.size + 1 →
      (∀ c o, c ≠ zp → c ≠ i1 → c ≠ i2 → s.heap.get? c = some o → h'.get? c = some o) → Q (.ref s.heap.objs.size) { s with heap := h' }) :
    wpAny (model prog w) A (Builtin.«zip.__next__» ⟨[.ref zp], []⟩) (fun fin s' => ∃ v, fin = .done (.ret v) ∧ Q v s') E s := by
  show wpAny _ _ (field (.ref zp) 2 >>= fun a => _) _ _ _
  refine wpAny_bind (wpAny_field zz rfl (x := .bool false) rfl ?_)
  show wpAny _ _ (field (.ref zp) 3 >>= fun a => _) _ _ _
  refine wpAny_bind (wpAny_field zz rfl (x := .ref TI) rfl (wpAny_bind (wpAny_seqItems pTI rfl ?_)))
  show wpAny _ _ (Builtin.SmallTypes.ownedTupleIsFree (.ref zp) >>= fun a => _) _ _ _
  refine wpAny_bind (wpAny_tupleHeld_zip zz hT fun g1 z1 k1 => ?_)
  simp only [if_false, Bool.false_eq_true]
  refine wpAny_bind ?_
  rw [← Array.forIn_toList]
  simp only [List.forIn_nil, List.forIn_cons]
  refine wpAny_bind (wpAny_bind (wpAny_holding ?_))
  show wpAny _ _ (Builtin.SmallTypes.nextOf (.ref i1) >>= fun a => _) _ _ _
  refine wpAny_bind (RZ.nextOf_tuple_item (s := { s with heap := g1 }) (u1.extBut k1.extBut D.i1z) (t1.extBut k1.extBut D.l1z) hx fun g2 v1 k2 => wpAny_pure (wpAny_pure ?_))
  refine wpAny_bind (wpAny_bind (wpAny_holding ?_))
  show wpAny _ _ (Builtin.SmallTypes.nextOf (.ref i2) >>= fun a => _) _ _ _
  refine wpAny_bind (RZ.nextOf_tuple_item (s := { s with heap := g2 }) ((u2.extBut k1.extBut D.i2z).extBut k2.extBut D.i12.symm) ((t2.extBut k1.extBut D.l2z).extBut k2.extBut D.l2i1) hy fun g3 v2 k3 => wpAny_pure (wpAny_pure (wpAny_pure ?_)))
  show wpAny _ _ (newTuple [x, y] >>= fun a => _) _ _ _
  refine wpAny_bind (wpAny_newTuple (wpAny_pure ⟨_, rfl, ?_⟩))
  have sz : g3.objs.size = s.heap.objs.size := by rw [k3.1, k2.1, k1.1]
  have all : ∀ c o, c ≠ zp → c ≠ i1 → c ≠ i2 → s.heap.get? c = some o → g3.get? c = some o := fun c o c1 c2 c3 e => k3.extBut _ _ c3 (k2.extBut _ _ c2 (k1.extBut _ _ c1 e))
  have zq : IsZipHeld g3 zp TI TO Tp true := k3.extBut _ _ D.i2z.symm (k2.extBut _ _ D.i1z.symm z1)
  have w1 : g3.IsTupleIter i1 l1 (n1 + 1) := v1.extBut k3.extBut D.i12
  have np : IsPair (g3.push { cls := .type "tuple", data := .seq #[x, y] }) g3.objs.size x y := Heap.get?_push_size _ rfl
  have sz4 : (g3.push { cls := .type "tuple", data := .seq #[x, y] }).objs.size = g3.objs.size + 1 := Heap.size_push ..
  show Q (.ref g3.objs.size) _
  rw [sz] at np sz4 ⊢
  exact hQ _ (Heap.get?_push_of_some _ zq) (w1.at fun o e => Heap.get?_push_of_some _ e) (v2.at fun o e => Heap.get?_push_of_some _ e) np sz4 fun c o c1 c2 c3 e => Heap.get?_push_of_some _ (all c o c1 c2 c3 e)
theorem held_end {zp TI TO Tp i1 i2 l1 l2 : Addr} {fg : Bool} {oT : Obj} {n1 n2 : Nat} {xs ys : Array Value} {Q : Fin → Shared → Prop} (hh : A.handled = none) (D : ZipApart zp TI TO i1 i2 l1 l2)
    (zz : IsZipHeld s.heap zp TI TO Tp fg) (hT : s.heap.get? Tp = some oT) (pTI : IsPair s.heap TI (.ref i1) (.ref i2))
    (u1 : s.heap.IsTupleIter i1 l1 n1) (u2 : s.heap.IsTupleIter i2 l2 n2) (t1 : s.heap.IsTuple l1 xs) (t2 : s.heap.IsTuple l2 ys) (hend : xs[n1]? = none ∨ ys[n2]? = none)
    (hE : ∀ h' e, (∀ c o, c ≠ zp → c ≠ i1 → c ≠ i2 → s.heap.get? c = some o → h'.get? c = some o) → (∃ o, h'.get? e = some o ∧ o.cls = .type "StopIteration") → E (.ref e) { s with heap := h' }) :
    wpAny (model prog w) A (Builtin.«zip.__next__» ⟨[.ref zp], []⟩) Q E s := by
  show wpAny _ _ (field (.ref zp) 2 >>= fun a => _) _ _ _
  refine wpAny_bind (wpAny_field zz rfl (x := .bool false) rfl ?_)
  show wpAny _ _ (field (.ref zp) 3 >>= fun a => _) _ _ _
  refine wpAny_bind (wpAny_field zz rfl (x := .ref TI) rfl (wpAny_bind (wpAny_seqItems pTI rfl ?_)))
  show wpAny _ _ (Builtin.SmallTypes.ownedTupleIsFree (.ref zp) >>= fun a => _) _ _ _
  refine wpAny_bind (wpAny_tupleHeld_zip zz hT fun g1 z1 k1 => ?_)
  simp only [if_false, Bool.false_eq_true]
  refine wpAny_bind ?_
  rw [← Array.forIn_toList]
  simp only [List.forIn_nil, List.forIn_cons]
  refine wpAny_bind (wpAny_bind (wpAny_holding ?_))
  show wpAny _ _ (Builtin.SmallTypes.nextOf (.ref i1) >>= fun a => _) _ _ _
  cases hx : xs[n1]? with
  | none =>
    refine wpAny_bind (RZ.nextOf_tuple_end (s := { s with heap := g1 }) hh (u1.extBut k1.extBut D.i1z) (t1.extBut k1.extBut D.l1z) hx fun g2 e k2 he => ?_)
    exact hE g2 e (fun c o c1 c2 _ z => k2 _ _ c2 (k1.extBut _ _ c1 z)) he
  | some x =>
    have hy : ys[n2]? = none := by
      rcases hend with h | h
      · rw [hx] at h
        cases h
      · exact h
    refine wpAny_bind (RZ.nextOf_tuple_item (s := { s with heap := g1 }) (u1.extBut k1.extBut D.i1z) (t1.extBut k1.extBut D.l1z) hx fun g2 v1 k2 => wpAny_pure (wpAny_pure ?_))
    refine wpAny_bind (wpAny_bind (wpAny_holding ?_))
    show wpAny _ _ (Builtin.SmallTypes.nextOf (.ref i2) >>= fun a => _) _ _ _
    refine wpAny_bind (RZ.nextOf_tuple_end (s := { s with heap := g2 }) hh ((u2.extBut k1.extBut D.i2z).extBut k2.extBut D.i12.symm) ((t2.extBut k1.extBut D.l2z).extBut k2.extBut D.l2i1) hy fun g3 e k3 he => ?_)
    exact hE g3 e (fun c o c1 c2 c3 z => k3 _ _ c3 (k2.extBut _ _ c2 (k1.extBut _ _ c1 z))) he
theorem next_item {zp TI TO Tp i1 i2 l1 l2 : Addr} {fg : Bool} {oT : Obj} {n1 n2 : Nat} {xs ys : Array Value} {x y : Value} {Q : Option Value → Shared → Prop} (D : ZipApart zp TI TO i1 i2 l1 l2)
    (zz : IsZipHeld s.heap zp TI TO Tp fg) (hT : s.heap.get? Tp = some oT) (pTI : IsPair s.heap TI (.ref i1) (.ref i2))
    (u1 : s.heap.IsTupleIter i1 l1 n1) (u2 : s.heap.IsTupleIter i2 l2 n2) (t1 : s.heap.IsTuple l1 xs) (t2 : s.heap.IsTuple l2 ys) (hx : xs[n1]? = some x) (hy : ys[n2]? = some y)
    (hQ : ∀ h', IsZipHeld h' zp TI TO Tp true → h'.IsTupleIter i1 l1 (n1 + 1) → h'.IsTupleIter i2 l2 (n2 + 1) → IsPair h' s.heap.objs.size x y → h'.objs.size = s.heap.objs.size + 1 →
      (∀ c o, c ≠ zp → c ≠ i1 → c ≠ i2 → s.heap.get? c = some o → h'.get? c = some o) → Q (some (.ref s.heap.objs.size)) { s with heap := h' }) :
    wpAny (model prog w) A (pyNext (.ref zp)) Q E s := by
  have ty : s.TypeIs (.ref zp) "zip" := ⟨_, zz, rfl⟩
  unfold pyNext
  exact wpAny_bind (wpAny_attempt (wpAny_callSpecial?_slot (T := "zip") (name := Str.ofString "__next__") ty F.slot_zip_next
    (wpAny_call_entry F.slot_zip_next ty F.entry_zip_next (held_item D zz hT pTI u1 u2 t1 t2 hx hy fun h' q1 q2 q3 q4 q5 q6 => wpAny_pure (hQ h' q1 q2 q3 q4 q5 q6)) (F.args_zip_next_1 _))))
theorem next_end {zp TI TO Tp i1 i2 l1 l2 : Addr} {fg : Bool} {oT : Obj} {n1 n2 : Nat} {xs ys : Array Value} {Q : Option Value → Shared → Prop} (hh : A.handled = none) (D : ZipApart zp TI TO i1 i2 l1 l2)
    (zz : IsZipHeld s.heap zp TI TO Tp fg) (hT : s.heap.get? Tp = some oT) (pTI : IsPair s.heap TI (.ref i1) (.ref i2))
    (u1 : s.heap.IsTupleIter i1 l1 n1) (u2 : s.heap.IsTupleIter i2 l2 n2) (t1 : s.heap.IsTuple l1 xs) (t2 : s.heap.IsTuple l2 ys) (hend : xs[n1]? = none ∨ ys[n2]? = none)
    (hQ : ∀ h', (∀ c o, c ≠ zp → c ≠ i1 → c ≠ i2 → s.heap.get? c = some o → h'.get? c = some o) → Q none { s with heap := h' }) : wpAny (model prog w) A (pyNext (.ref zp)) Q E s := by
  have ty : s.TypeIs (.ref zp) "zip" := ⟨_, zz, rfl⟩
  unfold pyNext
  refine wpAny_bind (wpAny_attempt (wpAny_callSpecial?_slot (T := "zip") (name := Str.ofString "__next__") ty F.slot_zip_next
    (wpAny_call_entry F.slot_zip_next ty F.entry_zip_next (held_end hh D zz hT pTI u1 u2 t1 t2 hend fun h' e all he => ?_) (F.args_zip_next_1 _))))
  obtain ⟨ob, e1, e2⟩ := he
  exact wpAny_bind (wpAny_isInstance (T := "StopIteration") (b := true) ⟨ob, e1, e2⟩ isSubtype_stop (wpAny_pure (hQ _ all)))
end

/-- the state of the collecting: Ts the pairs so far -/
structure ZS (zp TI TO i1 i2 l1 l2 S : Addr) (xs ys : Array Value) (old : Heap) (Ts : List Addr) (h : Heap) : Prop where
  at_ : ∃ c, h.get? S = some { cls := .type "list", data := .seq (Ts.map Value.ref).toArray c }
  prs : ∀ (j : Nat) (T : Addr), Ts[j]? = some T → ∃ x y, xs[j]? = some x ∧ ys[j]? = some y ∧ IsPair h T x y
  nd : Ts.Nodup
  lo : ∀ T ∈ Ts, S < T
  zz : (IsZip h zp TI TO .none ∧ ∃ a b, IsPair h TO a b) ∨ ∃ T fg oT, IsZipHeld h zp TI TO T fg ∧ h.get? T = some oT ∧ S < T
  ti : IsPair h TI (.ref i1) (.ref i2)
  u1 : h.IsTupleIter i1 l1 Ts.length
  u2 : h.IsTupleIter i2 l2 Ts.length
  t1 : h.IsTuple l1 xs
  t2 : h.IsTuple l2 ys
  keep : ∀ b o, b ≠ zp → b ≠ TO → b ≠ i1 → b ≠ i2 → b ≠ S → old.get? b = some o → h.get? b = some o
section
variable {prog : Program} {w : World} {A : Around} {zp TI TO i1 i2 l1 l2 S : Addr} {xs ys : Array Value} {old : Heap}
/-- a pair has come and is put into the list -/
theorem ZS.put {Ts : List Addr} {h h' : Heap} {x y : Value} (D : ZipApart zp TI TO i1 i2 l1 l2) (lt : zp < S ∧ TI < S ∧ TO < S ∧ i1 < S ∧ i2 < S ∧ l1 < S ∧ l2 < S) (Z : ZS zp TI TO i1 i2 l1 l2 S xs ys old Ts h) (hx : xs[Ts.length]? = some x) (hy : ys[Ts.length]? = some y)
    (zh : ∃ T fg oT, IsZipHeld h' zp TI TO T fg ∧ h'.get? T = some oT ∧ S < T) (v1 : h'.IsTupleIter i1 l1 (Ts.length + 1)) (v2 : h'.IsTupleIter i2 l2 (Ts.length + 1)) (np : IsPair h' h.objs.size x y) (all : ∀ c o, c ≠ zp → c ≠ TO → c ≠ i1 → c ≠ i2 → h.get? c = some o → h'.get? c = some o) :
    ZS zp TI TO i1 i2 l1 l2 S xs ys old (Ts ++ [h.objs.size]) (h'.update S (Obj.mapSeq (·.push (Value.ref h.objs.size)))) := by
  obtain ⟨c, hS⟩ := Z.at_
  obtain ⟨q1, q2, q3, q4, q5, q6, q7⟩ := lt
  have hSs : S < h.objs.size := Heap.lt_size hS
  have hS' : h'.get? S = some { cls := .type "list", data := .seq (Ts.map Value.ref).toArray c } := all _ _ (Nat.ne_of_gt q1) (Nat.ne_of_gt q3) (Nat.ne_of_gt q4) (Nat.ne_of_gt q5) hS
  have up : ∀ b o, b ≠ S → h'.get? b = some o → (h'.update S (Obj.mapSeq (·.push (Value.ref h.objs.size)))).get? b = some o := fun b o hb e => (Heap.get?_update_other _ _ (Ne.symm hb)).trans e
  have old1 : ∀ b o, b ≠ zp → b ≠ TO → b ≠ i1 → b ≠ i2 → b ≠ S → h.get? b = some o → (h'.update S (Obj.mapSeq (·.push (Value.ref h.objs.size)))).get? b = some o := fun b o c1 c2 c3 c4 c5 e => up b o c5 (all b o c1 c2 c3 c4 e)
  have ne : ∀ {b : Addr}, b < S → b ≠ S := fun {b} l => Nat.ne_of_lt l
  have nT : h.objs.size ≠ S := Nat.ne_of_gt hSs
  have keepP : ∀ (T : Addr), S < T → ∀ o, h.get? T = some o → (h'.update S (Obj.mapSeq (·.push (Value.ref h.objs.size)))).get? T = some o := fun T l o e =>
    old1 T o (Nat.ne_of_gt (Nat.lt_trans q1 l)) (Nat.ne_of_gt (Nat.lt_trans q3 l)) (Nat.ne_of_gt (Nat.lt_trans q4 l)) (Nat.ne_of_gt (Nat.lt_trans q5 l)) (Nat.ne_of_gt l) e
  have ex := PyProof.Rows.get?_update_seq (c := "list") hS' (·.push (Value.ref h.objs.size))
  refine ⟨⟨_, ex.trans (by rw [List.map_append, List.map_cons, List.map_nil, List.push_toArray])⟩, fun j T e => ?_, ?_, fun T hT => ?_, .inr ?_, ?_, ?_, ?_, ?_, ?_, fun b o c1 c2 c3 c4 c5 e => old1 b o c1 c2 c3 c4 c5 (Z.keep b o c1 c2 c3 c4 c5 e)⟩
  · by_cases l : j < Ts.length
    · rw [List.getElem?_append_left l] at e
      obtain ⟨x', y', e1, e2, e3⟩ := Z.prs j T e
      exact ⟨x', y', e1, e2, keepP T (Z.lo T (List.mem_of_getElem? e)) _ e3⟩
    · rw [List.getElem?_append_right (Nat.le_of_not_lt l)] at e
      have ej : j - Ts.length = 0 := by
        cases z : j - Ts.length with
        | zero => rfl
        | succ n =>
          rw [z] at e
          simp at e
      have ej2 : j = Ts.length := by omega
      rw [ej] at e
      cases e
      subst ej2
      exact ⟨x, y, hx, hy, up _ _ nT np⟩
  · rw [List.nodup_append]
    refine ⟨Z.nd, by simp, fun a ha b hb e => ?_⟩
    have eb : b = h.objs.size := by simpa using hb
    obtain ⟨j, hj, ej⟩ := List.mem_iff_getElem.mp ha
    obtain ⟨x', y', _, _, e3⟩ := Z.prs j a (by rw [List.getElem?_eq_getElem hj, ej])
    have := Heap.lt_size e3
    rw [e, eb] at this
    exact Nat.lt_irrefl _ this
  · rcases List.mem_append.mp hT with z | z
    · exact Z.lo T z
    · have eb : T = h.objs.size := by simpa using z
      rw [eb]
      exact hSs
  · obtain ⟨T, fg, oT, e1, e2, e3⟩ := zh
    exact ⟨T, fg, oT, up _ _ (ne q1) e1, up _ _ (Nat.ne_of_gt e3) e2, e3⟩
  · exact old1 _ _ D.TIz D.TITO D.TIi1 D.TIi2 (ne q2) Z.ti
  · rw [List.length_append]
    exact v1.at fun o e => up _ _ (ne q4) e
  · rw [List.length_append]
    exact v2.at fun o e => up _ _ (ne q5) e
  · obtain ⟨ob, e1, e2, e3⟩ := Z.t1
    exact ⟨ob, old1 _ _ D.l1z D.l1TO D.l1i1 D.l1i2 (ne q6) e1, e2, e3⟩
  · obtain ⟨ob, e1, e2, e3⟩ := Z.t2
    exact ⟨ob, old1 _ _ D.l2z D.l2TO D.l2i1 D.l2i2 (ne q7) e1, e2, e3⟩
/-- all the turns -/
theorem zip_loop {R : Result → Shared → Prop} {res : Value} (hh : A.handled = none) (D : ZipApart zp TI TO i1 i2 l1 l2) (lt : zp < S ∧ TI < S ∧ TO < S ∧ i1 < S ∧ i2 < S ∧ l1 < S ∧ l2 < S) (hz : xs.size ≤ sizeLine) (s0 : Shared)
    (fin : ∀ (Ts : List Addr) (h h' : Heap), (xs[Ts.length]? = none ∨ ys[Ts.length]? = none) → ZS zp TI TO i1 i2 l1 l2 S xs ys old Ts h → (∀ b o, b ≠ zp → b ≠ TO → b ≠ i1 → b ≠ i2 → h.get? b = some o → h'.get? b = some o) → R (.ok (.ret res)) { s0 with heap := h' }) :
    ∀ (r : Nat) (h : Heap) (Ts : List Addr), xs.size - Ts.length = r → ZS zp TI TO i1 i2 l1 l2 S xs ys old Ts h → codeAny (model prog w) A (.builtin "list.extend.loop" ⟨[.ref S, .ref zp, res], []⟩) R { s0 with heap := h } := by
  intro r
  induction r with
  | zero =>
    intro h Ts hr Z
    have hend : xs[Ts.length]? = none ∨ ys[Ts.length]? = none := .inl (Array.getElem?_eq_none_iff.mpr (by omega))
    refine codeAny_builtin F.entry_extend_loop ?_
    rw [Around.under_plainId F.plain_extend_loop _]
    show wpAny _ A.in1 (pyNext (.ref zp) >>= fun a => _) _ _ { s0 with heap := h }
    rcases Z.zz with ⟨z1, a, b, z2⟩ | ⟨T, fg, oT, z1, z2, z3⟩
    · exact wpAny_bind (RZ.pyNext_zipT_end hh D z1 Z.ti z2 Z.u1 Z.u2 Z.t1 Z.t2 hend fun h' all => wpAny_pure (fin Ts h _ hend Z all))
    · exact wpAny_bind (next_end hh D z1 z2 Z.ti Z.u1 Z.u2 Z.t1 Z.t2 hend fun h' all => wpAny_pure (fin Ts h _ hend Z fun b o c1 _ c3 c4 e => all b o c1 c3 c4 e))
  | succ r ih =>
    intro h Ts hr Z
    have hlx : Ts.length < xs.size := by omega
    refine codeAny_builtin F.entry_extend_loop ?_
    rw [Around.under_plainId F.plain_extend_loop _]
    show wpAny _ A.in1 (pyNext (.ref zp) >>= fun a => _) _ _ { s0 with heap := h }
    have hx : xs[Ts.length]? = some xs[Ts.length] := Array.getElem?_eq_getElem hlx
    cases hy : ys[Ts.length]? with
    | none =>
      have hend : xs[Ts.length]? = none ∨ ys[Ts.length]? = none := .inr hy
      rcases Z.zz with ⟨z1, a, b, z2⟩ | ⟨T, fg, oT, z1, z2, z3⟩
      · exact wpAny_bind (RZ.pyNext_zipT_end hh D z1 Z.ti z2 Z.u1 Z.u2 Z.t1 Z.t2 hend fun h' all => wpAny_pure (fin Ts h _ hend Z all))
      · exact wpAny_bind (next_end hh D z1 z2 Z.ti Z.u1 Z.u2 Z.t1 Z.t2 hend fun h' all => wpAny_pure (fin Ts h _ hend Z fun b o c1 _ c3 c4 e => all b o c1 c3 c4 e))
    | some y =>
      obtain ⟨c, hS⟩ := Z.at_
      obtain ⟨q1, q2, q3, q4, q5, q6, q7⟩ := id lt
      have hsz : (Ts.map Value.ref).toArray.size ≤ sizeLine := by
        rw [List.size_toArray, List.length_map]
        omega
      have hSs : S < h.objs.size := Heap.lt_size hS
      have more : ∀ (h' : Heap), (∃ T fg oT, IsZipHeld h' zp TI TO T fg ∧ h'.get? T = some oT ∧ S < T) → h'.IsTupleIter i1 l1 (Ts.length + 1) → h'.IsTupleIter i2 l2 (Ts.length + 1) → IsPair h' h.objs.size xs[Ts.length] y → (∀ c o, c ≠ zp → c ≠ TO → c ≠ i1 → c ≠ i2 → h.get? c = some o → h'.get? c = some o) →
          wpAny (model prog w) A.in1 (updateSeq S (·.push (Value.ref h.objs.size)) >>= fun _ => again (.builtin "list.extend.loop" ⟨[.ref S, .ref zp, res], []⟩)) (fun fin s' => match fin with
            | .done f => R (.ok f) s'
            | .again c' => c'.quiet = true ∧ codeAny (model prog w) A c' R s') (fun e s' => R (.error e) s') { s0 with heap := h' } := fun h' zh v1 v2 np all => by
        have hS' : h'.get? S = some { cls := .type "list", data := .seq (Ts.map Value.ref).toArray c } := all _ _ (Nat.ne_of_gt q1) (Nat.ne_of_gt q3) (Nat.ne_of_gt q4) (Nat.ne_of_gt q5) hS
        refine wpAny_bind (wpAny_updateSeq hS' rfl (wpAny_pure ⟨plainId_quiet F.plain_extend_loop _, ?_⟩) hsz (by
          show ((Ts.map Value.ref).toArray.push _).size ≤ sizeLine + 1
          rw [Array.size_push]
          omega))
        exact ih _ (Ts ++ [h.objs.size]) (by rw [List.length_append, List.length_singleton]; omega) (Z.put D lt hx hy zh v1 v2 np all)
      rcases Z.zz with ⟨z1, a, b, z2⟩ | ⟨T, fg, oT, z1, z2, z3⟩
      · refine wpAny_bind (RZ.pyNext_zipT_item D z1 Z.ti z2 Z.u1 Z.u2 Z.t1 Z.t2 hx hy fun h' e1 e2 e3 e4 e5 e6 all => ?_)
        exact more h' ⟨h.objs.size, false, _, e1, e5, hSs⟩ e3 e4 e5 all
      · refine wpAny_bind (next_item D z1 z2 Z.ti Z.u1 Z.u2 Z.t1 Z.t2 hx hy fun h' e1 e3 e4 e5 e6 all => ?_)
        have a' : ∀ c o, c ≠ zp → c ≠ TO → c ≠ i1 → c ≠ i2 → h.get? c = some o → h'.get? c = some o := fun c o c1 _ c3 c4 e => all c o c1 c3 c4 e
        exact more h' ⟨T, true, oT, e1, all _ _ (Nat.ne_of_gt (Nat.lt_trans q1 z3)) (Nat.ne_of_gt (Nat.lt_trans q4 z3)) (Nat.ne_of_gt (Nat.lt_trans q5 z3)) z2, z3⟩ e3 e4 e5 a'
end
theorem zip_len0 : typeLookup (.type "zip") "__len__" = pure none := by
  rw [typeLookup_type, builtinLookup_eq_fast]
  kernel_rfl
theorem zip_hint0 : typeLookup (.type "zip") "__length_hint__" = pure none := by
  rw [typeLookup_type, builtinLookup_eq_fast]
  kernel_rfl
section
variable {prog : Program} {w : World} {A : Around} {E : Value → Shared → Prop} {s : Shared} {zp TI TO i1 i2 l1 l2 : Addr} {xs ys : Array Value}
/-- list(z), z a new zip over two tuples -/
theorem call_list_zip {a b : Value} {Q : Value → Shared → Prop} (hh : A.handled = none) (D : ZipApart zp TI TO i1 i2 l1 l2) (zz : IsZip s.heap zp TI TO .none) (pTI : IsPair s.heap TI (.ref i1) (.ref i2)) (pTO : IsPair s.heap TO a b)
    (u1 : s.heap.IsTupleIter i1 l1 0) (u2 : s.heap.IsTupleIter i2 l2 0) (t1 : s.heap.IsTuple l1 xs) (t2 : s.heap.IsTuple l2 ys) (hz : xs.size ≤ sizeLine)
    (hQ : ∀ (Ts : List Addr) (h h' : Heap), (xs[Ts.length]? = none ∨ ys[Ts.length]? = none) → ZS zp TI TO i1 i2 l1 l2 s.heap.objs.size xs ys s.heap Ts h → (∀ b o, b ≠ zp → b ≠ TO → b ≠ i1 → b ≠ i2 → h.get? b = some o → h'.get? b = some o) → Q (.ref s.heap.objs.size) { s with heap := h' }) :
    wpAny (model prog w) A (call (.type "list") [.ref zp]) Q E s := by
  have lt : zp < s.heap.objs.size ∧ TI < s.heap.objs.size ∧ TO < s.heap.objs.size ∧ i1 < s.heap.objs.size ∧ i2 < s.heap.objs.size ∧ l1 < s.heap.objs.size ∧ l2 < s.heap.objs.size := by
    obtain ⟨_, v1, _⟩ := id u1
    obtain ⟨_, v2, _⟩ := id u2
    obtain ⟨_, v3, _⟩ := id t1
    obtain ⟨_, v4, _⟩ := id t2
    exact ⟨Heap.lt_size zz, Heap.lt_size pTI, Heap.lt_size pTO, Heap.lt_size v1, Heap.lt_size v2, Heap.lt_size v3, Heap.lt_size v4⟩
  have ty : ∀ {g : Heap}, (∀ b o, s.heap.get? b = some o → g.get? b = some o) → Shared.TypeIs { s with heap := g } (.ref zp) "zip" := fun q => ⟨_, q _ _ zz, rfl⟩
  have nS : s.heap.objs.size ≠ zp := Nat.ne_of_gt lt.1
  refine callType_codes (Q₁ := fun obj s₁ => obj = .ref s.heap.objs.size ∧ s₁ = { s with heap := s.heap.push { cls := .type "list", data := .seq #[] } }) F.called_list (F.typeCall_list_1 _) F.entry_list_init (code_list_new _ ⟨rfl, rfl⟩) fun obj s₁ e₁ => ?_
  obtain ⟨eo, es⟩ := e₁
  subst eo es
  have g1 : (s.heap.push { cls := .type "list", data := .seq #[] }).get? s.heap.objs.size = some { cls := .type "list", data := .seq #[] } := Heap.get?_push_size _ rfl
  have k1 : ∀ b o, s.heap.get? b = some o → (s.heap.push { cls := .type "list", data := .seq #[] }).get? b = some o := fun b o e => Heap.get?_push_of_some _ e
  have more : ∀ (g : Heap) (f : Obj → Obj), (∀ b o, s.heap.get? b = some o → g.get? b = some o) → ∀ b o, s.heap.get? b = some o → (g.update s.heap.objs.size f).get? b = some o := fun g f q b o e =>
    (Heap.get?_update_other _ _ (Nat.ne_of_gt (Heap.lt_size e))).trans (q b o e)
  refine ⟨⟨_, g1, rfl⟩, F.args_list_init_2 _ _, ?_⟩
  show wpAny _ A.in1.in1 (Builtin.List.listItems (.ref s.heap.objs.size) >>= fun old => Builtin.List.listUpdate (.ref s.heap.objs.size) (fun _ => #[]) >>= fun _ => letGo old.toList.reverse >>= fun _ => Builtin.List.listExtendWith (.ref s.heap.objs.size) (.ref zp) .none) _ _ _
  refine wpAny_bind ?_
  unfold Builtin.List.listItems
  refine wpAny_bind (wpAny_seqItems g1 rfl (wpAny_pure ?_))
  show wpAny _ A.in1.in1 (updateSeq s.heap.objs.size (fun _ => #[]) >>= fun _ => letGo (#[] : Array Value).toList.reverse >>= fun _ => Builtin.List.listExtendWith (.ref s.heap.objs.size) (.ref zp) .none) _ _ _
  refine wpAny_bind (wpAny_updateSeq g1 rfl ?_)
  have g2 := PyProof.Rows.get?_update_seq (c := "list") g1 (fun _ => (#[] : Array Value))
  have k2 := more _ (Obj.mapSeq (fun _ => (#[] : Array Value))) k1
  refine wpAny_bind (wpAny_letGo ?_)
  unfold Builtin.List.listExtendWith
  refine wpAny_bind (wpAny_typeOf (ty k2) ?_)
  have n1 : Builtin.List.listSameRef (.ref s.heap.objs.size) (.ref zp) = false := by simp [Builtin.List.listSameRef, nS]
  have n2 : (Value.type "zip" == Value.type "list") = false := by decide
  have n3 : (Value.type "zip" == Value.type "tuple") = false := by decide
  simp only [n1, n2, n3, Bool.or_false, Bool.false_eq_true, if_false]
  refine wpAny_bind (wpAny_pyIter_zip (s := { s with heap := _ }) (k2 _ _ zz) ?_)
  refine wpAny_bind (wpAny_holding ?_)
  unfold Builtin.List.listLengthHint
  refine wpAny_bind (wpAny_specialOf (ty k2) zip_len0 ?_)
  show wpAny _ A.in1.in1 (specialOf (Value.ref zp) (Str.ofString "__length_hint__") >>= fun x => _) _ _ _
  refine wpAny_bind (wpAny_specialOf (ty k2) zip_hint0 ?_)
  refine wpAny_pure ?_
  show wpAny _ A.in1.in1 (rule "list.extend.makes-room" >>= fun _ => Builtin.List.listTouch (.ref s.heap.objs.size) >>= fun _ => again (.builtin "list.extend.loop" ⟨[.ref s.heap.objs.size, .ref zp, .none], []⟩)) _ _ _
  refine wpAny_bind (wpAny_rule (wpAny_bind ?_))
  show wpAny _ A.in1.in1 (updateSeq s.heap.objs.size (fun u => u.push .none) >>= fun _ => updateSeq s.heap.objs.size (fun u => u.pop)) _ _ _
  refine wpAny_bind (wpAny_updateSeq g2 rfl ?_)
  have g3 := PyProof.Rows.get?_update_seq (c := "list") g2 (fun u => u.push Value.none)
  refine wpAny_updateSeq (hz := by seq_fits) g3 rfl ?_
  have g4 := PyProof.Rows.get?_update_seq (c := "list") g3 (fun u => u.pop)
  have k4 := more _ (Obj.mapSeq (fun u => u.pop)) (more _ (Obj.mapSeq (fun u => u.push Value.none)) k2)
  refine wpAny_pure ⟨plainId_quiet F.plain_extend_loop _, ?_⟩
  refine zip_loop (A := A.in1) (old := s.heap) hh D lt hz s (fun Ts h h' e1 e2 e3 => ⟨rfl, hQ Ts h h' e1 e2 e3⟩) xs.size _ [] (by simp) ?_
  refine ⟨⟨_, g4⟩, fun j T e => by simp at e, List.nodup_nil, fun T e => by simp at e, .inl ⟨k4 _ _ zz, a, b, k4 _ _ pTO⟩, k4 _ _ pTI, u1.at fun o e => k4 _ _ e, u2.at fun o e => k4 _ _ e, ?_, ?_, fun b o _ _ _ _ _ e => k4 b o e⟩
  · obtain ⟨ob, e1, e2⟩ := t1
    exact ⟨ob, k4 _ _ e1, e2⟩
  · obtain ⟨ob, e1, e2⟩ := t2
    exact ⟨ob, k4 _ _ e1, e2⟩
end
/-! ### the rule -/
theorem vals_refs : ∀ (l : List Addr), Vals (l.map V.ref) (l.map Value.ref)
  | [] => .nil
  | a :: r => .cons rfl (vals_refs r)
/-- the pairs are tracked -/
def zipUp : List (Addr × V × V) → Hp → Hp
  | [], H => H
  | t :: r, H => zipUp r (upd H t.1 (.tup [t.2.1, t.2.2]))
theorem zipUp_ne : ∀ {ts : List (Addr × V × V)} {H : Hp} {a : Addr}, a ∉ ts.map (·.1) → zipUp ts H a = H a
  | [], _, _, _ => rfl
  | t :: r, H, a, n => by
    simp only [List.map_cons, List.mem_cons, not_or] at n
    exact (zipUp_ne (ts := r) n.2).trans (upd_ne n.1)
theorem track_pairs {X : Cx} {pins : List (Addr × Obj)} {σ : L2.St} {s : Shared} : ∀ (ts : List (Addr × V × V)) (H : Hp), Inv X pins σ H s → (∀ t ∈ ts, X.s_0.heap.get? t.1 = none ∧ FpOk X pins H t.1) → (ts.map (·.1)).Nodup →
    (∀ t ∈ ts, ∃ u v, RelV t.2.1 u ∧ RelV t.2.2 v ∧ IsPair s.heap t.1 u v) → Inv X pins σ (zipUp ts H) s
  | [], _, I, _, _, _ => I
  | t :: r, H, I, f, nd, q => by
    simp only [List.map_cons, List.nodup_cons] at nd
    obtain ⟨u, v, r1, r2, e⟩ := q t (List.mem_cons_self ..)
    obtain ⟨z0, z1, z2, z3, z4, z5, z6⟩ := f t (List.mem_cons_self ..)
    refine track_pairs r _ (track I z1 z0 z2 z5 z6 (show ObjOk X.prog X.w _ _ _ (.tup [t.2.1, t.2.2]) from ⟨by show (2 : Nat) ≤ _; rw [sizeLine_eq]; omega, [u, v], .cons r1 (.cons r2 .nil), ⟨_, e, rfl, _, rfl⟩⟩)) (fun t' ht => ?_) nd.2 fun t' ht => q t' (List.mem_cons_of_mem _ ht)
    obtain ⟨y0, y1, y2⟩ := f t' (List.mem_cons_of_mem _ ht)
    refine ⟨y0, (upd_ne fun e => nd.1 ?_).trans y1, y2⟩
    rw [← e]
    exact List.mem_map_of_mem ht
def LzW (Q : VK) (H : Hp) (xs ys : List V) : Prop := ∀ (ts : List (Addr × V × V)) (S : Addr), ts.map (·.2) = xs.zip ys → (∀ t ∈ ts, H t.1 = none) → (ts.map (·.1)).Nodup → zipUp ts H S = none → Q (.ref S) (upd (zipUp ts H) S (.lst (ts.map fun t => .ref t.1)))
def tLz (K : PySem.W.Frag) (ta : TA) : TE := fun σ H Q => ta σ H fun vs H1 => ∃ a b xs ys, vs = [.ref a, .ref b] ∧ SqT K H1 a xs ∧ SqT K H1 b ys ∧ LzW Q H1 xs ys
theorem pe_lz {X : Cx} {e e2 : Expr} {ta : TA} {p q r pos : Pos} (hc : X.calm = true) (hg : Gl X "list") (hm : X.mg "list" = none) (hg2 : Gl X "zip") (hm2 : X.mg "zip" = none) (ha : PA X [e, e2] ta)
    (hs : starEach [e, e2] X.env = (false, eval e X.env) :: starEach [e2] X.env) (hpl : (backTo r (starEach [e2] X.env)).any (·.1) = false) :
    PE X (.Call (.Name "list" p) [.Call (.Name "zip" q) [e, e2] [] r] [] pos) (tLz X.K ta) := by
  refine ⟨fun pins s σ H Q I h => ?_⟩
  have one : starEach [.Call (.Name "zip" q) [e, e2] [] r] X.env = (false, eval (.Call (.Name "zip" q) [e, e2] [] r) X.env) :: starEach [] X.env := by rfl
  refine Call_ (ld_blt I hg hm boot_list (PyProof.Rows.callWith_type1 (args_cons ?_ one) one))
  refine Call_ (ld_blt I hg2 hm2 PyProof.Rows.boot_zip (PyProof.Rows.callWith_type1 (thn (ha.run r pins s σ H _ I h) fun us s1 ⟨vs, H1, I1, r1, q1⟩ => ?_) hs hpl))
  obtain ⟨a, b, xs, ys, ex, hqx, hqy, q1⟩ := q1
  subst ex
  obtain ⟨u1, us1, eu, ra, rr⟩ : ∃ u1 us1, us = u1 :: us1 ∧ RelV (.ref a) u1 ∧ Vals [.ref b] us1 := by
    cases r1 with
    | cons z zz => exact ⟨_, _, rfl, z, zz⟩
  subst eu
  obtain ⟨u2, eu, rb⟩ := vals1 rr
  subst eu
  obtain rfl : u1 = Value.ref a := ra
  obtain rfl : u2 = Value.ref b := rb
  obtain ⟨its, rv, p1, z1⟩ := I1.tuple hqx
  obtain ⟨its2, rv2, p2, z2⟩ := I1.tuple hqy
  obtain ⟨o1, ho1, _⟩ := id p1
  obtain ⟨o2, ho2, _⟩ := id p2
  refine RZ.call_zipT (show s1.heap.IsTuple a its.toArray from p1) (show s1.heap.IsTuple b its2.toArray from p2) fun h' hz hTI hTO h1 h2 hsz hk => args_nil ?_
  have len1 := rv.length
  have len2 := rv2.length
  have lift : ∀ {c : Addr} {us : Array Value}, s1.heap.IsTuple c us → h'.IsTuple c us := fun {c us} ⟨ob, w1, w2⟩ => ⟨ob, hk _ _ w1, w2⟩
  refine call_list_zip (s := { s1 with heap := h' }) (I1.ok.hd hc) (PySem.W.ktu_apart s1.heap.objs.size a b (Heap.lt_size ho1) (Heap.lt_size ho2)) hz hTI hTO h1 h2 (lift p1) (lift p2) (by rw [List.size_toArray]; omega) fun Ts g g' hend Z all => ?_
  have keep1 : ∀ c o, s1.heap.get? c = some o → g'.get? c = some o := fun c o e => by
    have l := Heap.lt_size e
    have ne : ∀ k, c ≠ s1.heap.objs.size + k := fun k => Nat.ne_of_lt (Nat.lt_of_lt_of_le l (Nat.le_add_right _ _))
    have nS : c ≠ h'.objs.size := by
      rw [hsz]
      exact ne 5
    exact all c o (ne 4) (ne 3) (ne 0) (ne 1) (Z.keep c o (ne 4) (ne 3) (ne 0) (ne 1) nS (hk c o e))
  have far : ∀ {c : Addr}, s1.heap.objs.size ≤ c → X.s_0.heap.get? c = none ∧ FpOk X pins H1 c := fun {c} l => by
    refine ⟨?_, I1.fpOk l (I1.hok.fresh l)⟩
    cases e : X.s_0.heap.get? c with
    | none => rfl
    | some ob => exact absurd (Heap.lt_size e) (Nat.not_lt.mpr (Nat.le_trans I1.sz l))
  have hS : s1.heap.objs.size ≤ h'.objs.size := by omega
  have up : ∀ {T : Addr}, T ∈ Ts → s1.heap.objs.size ≤ T := fun {T} ht => Nat.le_trans hS (Nat.le_of_lt (Z.lo T ht))
  have pos : ∀ {T : Addr}, T ∈ Ts → ∀ o, g.get? T = some o → g'.get? T = some o := fun {T} ht o e => by
    have l : s1.heap.objs.size + 5 < T := by
      have z := Z.lo T ht
      rw [← hsz]
      exact z
    have ne : ∀ (k : Nat), k < 5 → T ≠ s1.heap.objs.size + k := fun k hk => Nat.ne_of_gt (Nat.lt_trans (Nat.add_lt_add_left hk _) l)
    exact all T o (ne 4 (by decide)) (ne 3 (by decide)) (ne 0 (by decide)) (ne 1 (by decide)) e
  have lenT : Ts.length = (xs.zip ys).length := by
    rw [List.length_zip]
    have up1 : Ts.length ≤ xs.length ∧ Ts.length ≤ ys.length := by
      cases z : Ts.length with
      | zero => exact ⟨Nat.zero_le _, Nat.zero_le _⟩
      | succ n =>
        obtain ⟨x, y, w1, w2, _⟩ := Z.prs n _ (List.getElem?_eq_getElem (by omega : n < Ts.length))
        have w1' := (Array.getElem?_eq_some_iff.mp w1).1
        have w2' := (Array.getElem?_eq_some_iff.mp w2).1
        rw [List.size_toArray] at w1' w2'
        omega
    rcases hend with w | w
    · have := Array.getElem?_eq_none_iff.mp w
      rw [List.size_toArray] at this
      omega
    · have := Array.getElem?_eq_none_iff.mp w
      rw [List.size_toArray] at this
      omega
  have m1 : (Ts.zip (xs.zip ys)).map (·.1) = Ts := List.map_fst_zip (by omega)
  have m2 : (Ts.zip (xs.zip ys)).map (·.2) = xs.zip ys := List.map_snd_zip (by omega)
  have inT : ∀ t ∈ Ts.zip (xs.zip ys), t.1 ∈ Ts := fun t ht => by
    rw [← m1]
    exact List.mem_map_of_mem ht
  have I2 : Inv X pins σ H1 { s1 with heap := g' } := I1.kept (t' := s1.toks) keep1
  have I3 := track_pairs (Ts.zip (xs.zip ys)) H1 I2 (fun t ht => far (up (inT t ht))) (by rw [m1]; exact Z.nd) fun t ht => by
    obtain ⟨j, hj, ej⟩ := List.mem_iff_getElem.mp ht
    have ej' : (Ts.zip (xs.zip ys))[j]? = some t := by rw [List.getElem?_eq_getElem hj, ej]
    rw [List.getElem?_zip_eq_some] at ej'
    obtain ⟨w1, w2⟩ := ej'
    rw [List.getElem?_zip_eq_some] at w2
    obtain ⟨x, y, w3, w4, w5⟩ := Z.prs j _ w1
    obtain ⟨u, w6, ru⟩ := Vals.get rv w2.1
    obtain ⟨v, w7, rv'⟩ := Vals.get rv2 w2.2
    rw [List.getElem?_toArray, w6] at w3
    rw [List.getElem?_toArray, w7] at w4
    cases w3
    cases w4
    exact ⟨_, _, ru, rv', pos (List.mem_of_getElem? w1) _ w5⟩
  have nS : h'.objs.size ∉ (Ts.zip (xs.zip ys)).map (·.1) := fun z => by
    rw [m1] at z
    exact Nat.lt_irrefl _ (Z.lo _ z)
  have hn : zipUp (Ts.zip (xs.zip ys)) H1 h'.objs.size = none := (zipUp_ne nS).trans (far hS).2.1
  obtain ⟨c, gS⟩ := Z.at_
  obtain ⟨n0, f1, f2, f3, f4, f5, f6⟩ := far hS
  have I4 := track (o := .lst (Ts.map V.ref)) I3 hn n0 f2 f5 f6 (show ObjOk X.prog X.w _ _ _ (.lst (Ts.map V.ref)) from ⟨by rw [List.length_map, lenT, List.length_zip]; omega, Ts.map Value.ref, c, ?_, ?_⟩)
  · refine ⟨.ref h'.objs.size, _, I4, rfl, ?_⟩
    have := q1 (Ts.zip (xs.zip ys)) h'.objs.size m2 (fun t ht => (far (up (inT t ht))).2.1) (by rw [m1]; exact Z.nd) hn
    have em : ((Ts.zip (xs.zip ys)).map fun t => V.ref t.1) = Ts.map V.ref := by
      exact (List.map_map (f := fun t : Addr × V × V => t.1) (g := V.ref) (l := Ts.zip (xs.zip ys))).symm.trans (congrArg (List.map V.ref) m1)
    rw [em] at this
    exact this
  · exact vals_refs Ts
  · have ne : ∀ (k : Nat), k < 5 → h'.objs.size ≠ s1.heap.objs.size + k := fun k hk => by omega
    exact all _ _ (ne 4 (by decide)) (ne 3 (by decide)) (ne 0 (by decide)) (ne 1 (by decide)) gS
theorem zip_rds {M : Mdl} {α : List Addr} : ∀ {ds es : List D} {xs ys : List V} {H : Hp} {ts : List (Addr × V × V)}, RDs M α H ds xs → RDs M α H es ys → ts.map (·.2) = xs.zip ys → (∀ t ∈ ts, H t.1 = none) → (ts.map (·.1)).Nodup →
    Same H (zipUp ts H) ∧ RDs M α (zipUp ts H) (List.zipWith (fun x y => D.tup [x, y]) ds es) (ts.map fun t => .ref t.1)
  | [], _, _, _, _, ts, .nil, _, e, _, _ => by
    have e' : ts = [] := by simpa using e
    subst e'
    exact ⟨fun _ _ z => z, .nil⟩
  | d :: ds, [], _, _, _, ts, .cons _ _, .nil, e, _, _ => by
    have e' : ts = [] := by simpa using e
    subst e'
    exact ⟨fun _ _ z => z, .nil⟩
  | d :: ds, c :: es, x :: xs, y :: ys, H, [], .cons _ _, .cons _ _, e, _, _ => by simp at e
  | d :: ds, c :: es, x :: xs, y :: ys, H, t :: ts, .cons r1 s1, .cons r2 s2, e, hn, nd => by
    simp only [List.map_cons, List.zip_cons_cons, List.cons.injEq] at e
    simp only [List.map_cons, List.nodup_cons] at nd
    obtain ⟨e1, e2⟩ := e
    have n0 := hn t (List.mem_cons_self ..)
    have sm : Same H (upd H t.1 (.tup [t.2.1, t.2.2])) := same_new n0
    have hn' : ∀ t' ∈ ts, upd H t.1 (.tup [t.2.1, t.2.2]) t'.1 = none := fun t' ht => (upd_ne fun z => nd.1 (by rw [← z]; exact List.mem_map_of_mem ht)).trans (hn t' (List.mem_cons_of_mem _ ht))
    obtain ⟨q1, q2⟩ := zip_rds (H := upd H t.1 (.tup [t.2.1, t.2.2])) (s1.keep (List.prefix_refl _) (.of sm)) (s2.keep (List.prefix_refl _) (.of sm)) e2 hn' nd.2
    refine ⟨fun a o z => q1 a o (sm a o z), .cons (.tup (.inl ((zipUp_ne nd.1).trans upd_same)) ?_) q2⟩
    rw [e1]
    exact .cons (r1.keep (List.prefix_refl _) (.of fun a o z => q1 a o (sm a o z))) (.cons (r2.keep (List.prefix_refl _) (.of fun a o z => q1 a o (sm a o z))) .nil)
def gLz (ds : List D) (st : Sto) : Res D :=
  match ds with
  | [.tup xs, .tup ys] => .opt (some (new (.lst true (List.zipWith (fun x y => D.tup [x, y]) xs ys)) st))
  | _ => .stuck
theorem lz_bind (P : Prog) (C : Str → List D → Sto → Res D) (ia ib : IE) (env : Env) (st : Sto) : evE P C (.lzip ia ib) env st = (evEs P C (.cons false ia (.cons false ib .nil)) env st).bind gLz := by
  have e0 : evE P C (.lzip ia ib) env st = (evE P C ia env st).bind fun x st => (evE P C ib env st).bind fun y st => match x, y with
    | .tup xs, .tup ys => .opt (some (new (.lst true (List.zipWith (fun x y => D.tup [x, y]) xs ys)) st))
    | _, _ => .stuck := rfl
  have e1 : evEs P C (.cons false ia (.cons false ib .nil)) env st = (evE P C ia env st).bind fun x st => ((evE P C ib env st).bind fun y st => .ok [y] st).bind fun xs st => .ok (x :: xs) st := rfl
  rw [e0, e1]
  cases h1 : evE P C ia env st with
  | ok x st1 =>
    show ((evE P C ib env st1).bind _) = (((evE P C ib env st1).bind _).bind _).bind _
    cases h2 : evE P C ib env st1 with
    | ok y st2 =>
      cases x <;> first | (cases y <;> rfl) | rfl
    | err c d st2 => rfl
    | stuck => rfl
  | err c d st1 => rfl
  | stuck => rfl
theorem lzOk : LzOk := by
  intro M T P C kf X E sc f G ok p q r pos es ie hb hb2 h
  obtain ⟨h1, h2⟩ := G.blt hb
  obtain ⟨g1, g2⟩ := G.blt hb2
  match es, h with
  | [a, b], h =>
    have h' : (match f a, f b with
      | some a', some b' => some (IE.lzip a' b')
      | _, _ => none) = some ie := h
    split at h'
    · rename_i ia ib e1 e2
      cases h'
      obtain ⟨k1, _, k3⟩ := ok a ia e1
      obtain ⟨l1, _, l3⟩ := ok b ib e2
      have hp : (backTo r (starEach [b] X.env)).any (·.1) = false := by
        rw [l3]
        rfl
      refine (pe_lz G.calm h1 h2 g1 g2 (g_cons (P := P) (C := C) (ies := .cons false ib .nil) k1 (k3 _) (g_cons (ies := .nil) l1 (l3 _) g_nil)) (k3 _) hp).imp fun σ H Q ⟨α, env, st, re, rh, z⟩ => ?_
      rw [lz_bind] at z
      have z' : PG' M E α H ((evEs P C (.cons false ia (.cons false ib .nil)) env st).bind gLz) (KQ M Q) := PE'.iff.mp z
      refine ⟨α, env, st, re, rh, z'.bind.mono fun ds α1 st1 H1 _ p1 k1 rh1 w vs rs => ?_⟩
      unfold gLz at w
      split at w
      · rename_i xs ys _
        obtain ⟨v1, v2, ev, r1, r2⟩ := rs.two
        subst ev
        cases r1 with
        | tup t1 s1 =>
          cases r2 with
          | tup t2 s2 =>
            refine ⟨_, _, _, _, rfl, by rw [G.K]; exact t1.sq, by rw [G.K]; exact t2.sq, fun ts S m1 m2 m3 m4 => ?_⟩
            obtain ⟨sm, rz⟩ := zip_rds s1 s2 m1 m2 m3
            have q : Qk M α1 (zipUp ts H1) (.ref st1.length) (st1 ++ [.lst true (List.zipWith (fun x y => D.tup [x, y]) xs ys)]) Q := fun α' v H' p k r rd => w α' H' p ((Keep.of sm).trans k) r v rd
            exact q.lst (rh1.same sm) m4 rz
      · exact False.elim w
    · cases h'
end PyI
end
section
/-! PyI3a: the law's end. -/
set_option autoImplicit false
set_option linter.all false
set_option maxRecDepth 100000
set_option maxHeartbeats 4000000
namespace PyI
open PySem PySem.Spec PyProof.Rows L2
/-- the script's list, the defs' tables -/
def hp0 (a : Addr) (o : Obj) (xs : List V) (tb : List (Addr × Addr)) : Hp := fun b => if b = a then some (.frz o (.lst xs)) else if b ∈ tb.map (·.2) then some (.tbl #[]) else none
abbrev lstObj0 (vs : List Value) : Obj := { cls := .type "list", data := .seq vs.toArray }
theorem law_in {P : Program} {w : World} {K : PySem.W.Frag} {mg mb : Str → Option Value} {fa a : Addr} {tb : List (Addr × Addr)} {s : Shared} {vs : List Value} {ks : List Int}
    (KX : K.In s.heap) (g1 : s.heap.Ns mainGlobals mg) (g2 : s.heap.Ns builtinsNs mb) (g3 : ∀ x : Str, x ≠ "__name__" → mb x = bootBuiltins x) (g4 : s.heap.NoLimit) (gz : s.gens = #[])
    (te : ∀ p ∈ tb, s.heap.get? p.2 = some { cls := .none, data := .fields #[] }) (tn : ∀ p ∈ tb, K.lookup p.2 = none) (tc : ∀ p ∈ tb, PySem.W.CodeHd s.heap p.1 p.2)
    (bm : ∃ (m : Addr) (o : Obj), mg "__builtins__" = some (.ref m) ∧ m ≠ builtinsNs ∧ s.heap.get? m = some o ∧ o.cls = .type "module" ∧ o.dict = some builtinsNs ∧ o.data = .plain)
    (ha : s.heap.get? a = some (lstObj0 vs)) (an : K.lookup a = none) (hi : IntsAre vs ks) (len : ks.length ≤ sizeLine)
    (F : ∀ base : Heap, K.In base → base.Ns mainGlobals mg → (∀ p ∈ tb, LamX.TabB base mg p.1 p.2) → Env0 P w K mg base callerA [] s (hp0 a (lstObj0 vs) (ks.map .int) tb) →
      codeAny (model P w) callerA (.call (.ref fa) ⟨[.ref a], []⟩) (CR (L2.CX P w) [] P w (hp0 a (lstObj0 vs) (ks.map .int) tb) s (fun v _ => v = .bl true) fun _ _ _ => False) s) :
    codeAny (model P w) callerA (.call (.ref fa) ⟨[.ref a], []⟩) (fun r z => r = .ok (.ret (.bool true)) ∧ OldK s.heap z.heap ∧ z.os = s.os ∧ AllBare z.gens) s := by
  have lenV := hi.length
  have inT : ∀ {b : Addr}, b ∈ tb.map (·.2) → ∃ p ∈ tb, p.2 = b ∧ s.heap.get? b = some { cls := .none, data := .fields #[] } := fun {b} hb => by
    obtain ⟨p, h1, h2⟩ := List.mem_map.mp hb
    subst h2
    exact ⟨p, h1, rfl, te p h1⟩
  have toT : ∀ p ∈ tb, p.2 ∈ tb.map (·.2) := fun p hp => List.mem_map_of_mem hp
  have aT : a ∉ tb.map (·.2) := fun z => by
    obtain ⟨_, _, _, e⟩ := inT z
    rw [ha] at e
    cases e
  generalize eH : hp0 a (lstObj0 vs) (ks.map .int) tb = H at F
  have Ha : H a = some (.frz (lstObj0 vs) (.lst (ks.map .int))) := by
    rw [← eH]
    exact if_pos rfl
  have Ht : ∀ b, b ∈ tb.map (·.2) → H b = some (.tbl #[]) := fun b hb => by
    rw [← eH]
    exact (if_neg fun z => aT (by rw [← z]; exact hb)).trans (if_pos hb)
  have Hn : ∀ b, b ≠ a → b ∉ tb.map (·.2) → H b = none := fun b h1 h2 => by
    rw [← eH]
    exact (if_neg h1).trans (if_neg h2)
  have hid : ∀ {b : Addr} {o : Obj}, s.heap.get? b = some o → (∀ us n, o.data ≠ .seq us n) → o.data ≠ .fields #[] → H b = none := fun {b o} e h1 h2 => by
    refine Hn b (fun z => ?_) fun z => ?_
    · rw [z, ha] at e
      cases e
      exact h1 _ _ rfl
    · obtain ⟨_, _, _, q⟩ := inT z
      rw [q] at e
      cases e
      exact h2 rfl
  have low : ∀ {b : Addr} {o : Obj}, s.heap.get? b = some o → (∀ us n, o.data ≠ .seq us n) → o.data ≠ .fields #[] → (hidT s.heap H).get? b = some o := fun {b o} e h1 h2 => hidT_get e (hid e h1 h2)
  have nsL : ∀ {b : Addr} {m : Str → Option Value}, s.heap.Ns b m → (hidT s.heap H).Ns b m := fun {b m} ⟨o, es, ep, e, d, r⟩ =>
    ⟨o, es, ep, low e (fun us n z => by rw [d] at z; cases z) (fun z => by rw [d] at z; cases z), d, r⟩
  have KL : K.In (hidT s.heap H) := fun b o e => hidT_get (KX b o e) (Hn b (fun z => by
    rw [z, an] at e
    cases e) fun z => by
      obtain ⟨p, h1, h2, _⟩ := inT z
      rw [← h2, tn p h1] at e
      cases e)
  have ML : L2.Mod K mg (hidT s.heap H) := ⟨KL, nsL g1, ⟨mb, nsL g2, g3⟩, let ⟨mc, h1, h2⟩ := g4; ⟨mc, nsL h1, h2⟩⟩
  have TL : ∀ p ∈ tb, LamX.TabB (hidT s.heap H) mg p.1 p.2 := fun p hp => by
    have e0 := te p hp
    refine ⟨?_, ?_, fun z => ?_⟩
    · obtain ⟨o, us, q1, q2, q3, q4, q5, q6, q7, r1, r2, r3, r4, r5⟩ := tc p hp
      refine ⟨o, us, q1, q2, q3, q4, q5, q6, q7, low r1 (fun us n z => by rw [r3] at z; cases z) (fun z => ?_), r2, r3, r4, r5⟩
      rw [r3] at z
      cases z
      cases r4
    · obtain ⟨m, o, b1, b2, b3, b4, b5, b6⟩ := bm
      refine ⟨m, o, b1, b2, fun z => ?_, fun z => ?_, low b3 (fun us n z => by rw [b6] at z; cases z) (fun z => by rw [b6] at z; cases z), b4, b5, b6⟩
      · obtain ⟨o', es, ep, e, hd, _⟩ := g1
        rw [z, e] at b3
        cases b3
        rw [hd] at b6
        cases b6
      · rw [z, e0] at b3
        cases b3
        cases b6
    · obtain ⟨o', es, ep, e, hd, _⟩ := g1
      rw [z, e0] at e
      cases e
      cases hd
  have ok0 : HOk P w H s.heap := fun b u e => by
    by_cases h1 : b = a
    · subst h1
      rw [Ha] at e
      cases e
      exact ⟨ha, by rw [List.length_map]; exact len, vs, _, vals_ints hi, ha⟩
    · by_cases h2 : b ∈ tb.map (·.2)
      · rw [Ht b h2] at e
        cases e
        obtain ⟨_, _, _, q⟩ := inT h2
        exact q
      · rw [Hn b h1 h2] at e
        cases e
  have E0 : Env0 P w K mg (hidT s.heap H) callerA [] s H := ⟨rfl, ML, fun b o e => of_hidT e, Nat.le_of_eq (hidT_size _ _), trivial, (fun b hb => absurd hb (List.not_mem_nil)), ok0, AllBare.of_eq gz⟩
  refine codeAny_mono (F _ KL (nsL g1) TL E0) fun r z h => ?_
  cases r with
  | error e =>
    obtain ⟨_, _, _, _, _, _, _, _, _, _, _, _, q⟩ := h
    exact False.elim q
  | ok fl =>
    cases fl with
    | ret u =>
      obtain ⟨v, H', o1, o2, un, ok1, rv, q⟩ := h
      have q' : v = .bl true := q
      subst q'
      obtain rfl : u = Value.bool true := rv
      have old : ∀ b o, b ∉ tb.map (·.2) → s.heap.get? b = some o → z.heap.get? b = some o := fun b o nb e => by
        by_cases h1 : b = a
        · subst h1
          obtain ⟨e1, _⟩ := ok1 b _ (un.frzs b _ _ Ha)
          rw [ha] at e
          cases e
          exact e1
        · exact un.keep b o e (Hn b h1 nb) (by intro y; cases y) (by simp)
      have more : ∀ b, b ∈ tb.map (·.2) → ∃ ws : Array Value, z.heap.get? b = some { cls := .none, data := .fields ws } := fun b hb => by
        obtain ⟨ws, y⟩ := un.tbls b #[] (Ht b hb)
        exact ⟨_, ok1 b _ y⟩
      refine ⟨rfl, ⟨fun b o e => ?_, fun b o e => ?_⟩, o1, o2⟩
      · by_cases hb : b ∈ tb.map (·.2)
        · obtain ⟨ws, y⟩ := more b hb
          obtain ⟨p, h1, h2, e0⟩ := inT hb
          subst h2
          rw [e0] at e
          cases e
          exact .inr (.inl ⟨((tc p h1).tab (te p h1)).isCodeTable, rfl, #[], ws, rfl, by rw [Array.empty_append]; exact y⟩)
        · exact .inl (old b o hb e)
      · by_cases hb : b ∈ tb.map (·.2)
        · obtain ⟨ws, y⟩ := more b hb
          exact ⟨_, y⟩
        · exact ⟨o, old b o hb e⟩
    | _ => exact False.elim h
end PyI
end
section
/-! PyI3b: what the head is asked. -/
set_option autoImplicit false
set_option linter.all false
set_option maxRecDepth 100000
set_option maxHeartbeats 4000000
namespace PyI
open PySem PySem.Spec PyProof.Rows L2 He
/-! ### own exception classes -/
def oexB (K : PySem.W.Frag) (C : Addr) : Bool := (match K.lookup C with
  | some ⟨.type t, _, .cls cd, sl⟩ => (match cd.mro, sl.toList with
    | .ref c :: bm, [_, _, _, _, some (.builtin n), _] => decide (t = "type") && (decide (c = C) && (decide (n = "ValueError.__new__") && (!cd.hasDel && (cd.hasDict && PySem.HandSPX.refsVE bm))))
    | _, _ => false)
  | _ => false) && (eqO (PySem.W.findIn K (.ref C) "__setattr__") (some (some (.builtin "object.__setattr__"))) && (decide (PySem.W.subIn K (.ref C) (.type "BaseException") = some true) && (decide (PySem.W.typeIn K (.ref C) = some (.type "type")) && PySem.W.keepIn K (.ref C))))
theorem oexB_ok {K : PySem.W.Frag} {C : Addr} (h : oexB K C = true) : OexC K C := by
  obtain ⟨h1, h⟩ := ba h
  obtain ⟨h2, h⟩ := ba h
  obtain ⟨h3, h⟩ := ba h
  obtain ⟨h4, h5⟩ := ba h
  refine ⟨?_, eqO_ok h2, of_decide_eq_true h3, of_decide_eq_true h4, h5⟩
  split at h1
  · rename_i t dd cd sl ho
    split at h1
    · rename_i c bm k0 k1 k2 k3 n k5 hm hs
      simp only [Bool.and_eq_true, decide_eq_true_eq, Bool.not_eq_true'] at h1
      obtain ⟨e1, e2, e3, e4, e5, e6⟩ := h1
      obtain ⟨nm, bs, mro, ns, qn, hd, sn, sub, ab, col, del⟩ := cd
      dsimp only at hm e4 e5
      subst hm e4 e5 e1 e2 e3
      have es : sl = #[k0, k1, k2, k3, some (.builtin "ValueError.__new__"), k5] := by
        obtain ⟨l⟩ := sl
        simp only at hs
        rw [hs]
      subst es
      exact ⟨nm, qn, ns, bs, bm, sn, sub, ab, col, dd, k0, k1, k2, k3, k5, ho, e6⟩
    · cases h1
  · cases h1
def excfB (K : PySem.W.Frag) (C : Addr) : Bool := xfB K C && ((PySem.W.clsIn K C).isSome && (eqO (PySem.W.findIn K (.ref C) "__class__") (some (some (.builtin "object.__class__"))) &&
  (eqO (PySem.W.specialIn K (.builtin "object.__class__") "__get__") (some (some (.builtin "getset_descriptor.__get__"))) && (decide (PySem.W.takesIn K (.builtin "object.__class__") = some true) && (decide (PySem.W.mroIn K C (.type "object") = some true) &&
  (eqO (PySem.W.findIn K (.ref C) "value") (some none) && ((["NoneType", "bool", "int", "str", "tuple", "list", "dict"] : List String).all (fun k => decide (PySem.W.kitOne K (.type k) (.ref C) = some false)) &&
  (["tuple", "int", "bool", "str", "list"] : List String).all fun k => decide (PySem.W.kitOne K (.ref C) (.type k) = some false))))))))
theorem excfB_ok {K : PySem.W.Frag} {C : Addr} (h : excfB K C = true) : ExcF K C := by
  obtain ⟨h1, h⟩ := ba h
  obtain ⟨h2, h⟩ := ba h
  obtain ⟨h3, h⟩ := ba h
  obtain ⟨h4, h⟩ := ba h
  obtain ⟨h5, h⟩ := ba h
  obtain ⟨h6, h⟩ := ba h
  obtain ⟨h7, h⟩ := ba h
  obtain ⟨h8, h9⟩ := ba h
  exact ⟨xfB_ok h1, h2, eqO_ok h3, eqO_ok h4, of_decide_eq_true h5, of_decide_eq_true h6, eqO_ok h7, fun k hk => of_decide_eq_true (List.all_eq_true.mp h8 k hk), fun k hk => of_decide_eq_true (List.all_eq_true.mp h9 k hk)⟩
/-- its making, by the __init__ at fI -/
def mkB (K : PySem.W.Frag) (fI C : Addr) : Bool := oexB K C && (eqO (PySem.W.findIn K (.ref C) "value") (some none) && (eqO (PySem.W.findIn K (.ref C) "__init__") (some (some (.ref fI))) && decide (PySem.W.typeIn K (.ref fI) = some (.type "function"))))
theorem mkF_of {P : Program} {w : World} {K : PySem.W.Frag} {mg : Str → Option Value} {base : Heap} {fI C : Addr} {fd : FuncData} {ps : List Str} (h : mkB K fI C = true) (F : FnOk P w K mg base (L2.CX P w) 1 fI fd ps (spInit K)) (B : L2.Binds K fd ps []) : MkF P w K mg base C := by
  obtain ⟨h1, h⟩ := ba h
  obtain ⟨h2, h⟩ := ba h
  obtain ⟨h3, h4⟩ := ba h
  exact ⟨oexB_ok h1, eqO_ok h2, fI, fd, ps, eqO_ok h3, of_decide_eq_true h4, F, B⟩
/-! ### a module's constants -/
mutual
def datB (K : PySem.W.Frag) : D → Value → Bool
  | .non, .none => true
  | .bl b, .bool c => b == c
  | .int i, .int j _ => decide (i = j)
  | .str x, .str y _ => decide (x = y)
  | .tup ds, .ref a => (match K.lookup a with
    | some ⟨.type t, _, .seq its _, _⟩ => decide (t = "tuple") && (decide (its.size ≤ sizeLine) && datBs K ds its.toList)
    | _ => false)
  | _, _ => false
def datBs (K : PySem.W.Frag) : List D → List Value → Bool
  | [], [] => true
  | d :: ds, u :: us => datB K d u && datBs K ds us
  | _, _ => false
end
mutual
theorem datB_ok {M : Mdl} : ∀ (d : D) (u : Value), datB M.K d u = true → ∃ v, RelV v u ∧ ∀ α H, RD M α H d v
  | .non, u, h => by
    cases u with
    | none => exact ⟨.non, rfl, fun _ _ => .non⟩
    | _ => cases h
  | .bl b, u, h => by
    cases u with
    | bool c =>
      have e : b = c := eq_of_beq (show (b == c) = true from h)
      subst e
      exact ⟨.bl b, rfl, fun _ _ => .bl b⟩
    | _ => cases h
  | .int i, u, h => by
    cases u with
    | int j t =>
      have e : i = j := of_decide_eq_true h
      subst e
      exact ⟨.int i, ⟨t, rfl⟩, fun _ _ => .int i⟩
    | _ => cases h
  | .str x, u, h => by
    cases u with
    | str y t =>
      have e : x = y := of_decide_eq_true h
      subst e
      exact ⟨.str x, ⟨t, rfl⟩, fun _ _ => .str x⟩
    | _ => cases h
  | .tup ds, u, h => by
    cases u with
    | ref a =>
      have h' : (match M.K.lookup a with
        | some ⟨.type t, _, .seq its _, _⟩ => decide (t = "tuple") && (decide (its.size ≤ sizeLine) && datBs M.K ds its.toList)
        | _ => false) = true := h
      split at h'
      · rename_i t dd its n sl e
        obtain ⟨h1, h2⟩ := ba h'
        obtain ⟨h2, h3⟩ := ba h2
        have e1 := of_decide_eq_true h1
        subst e1
        obtain ⟨vs, r, rd⟩ := datBs_ok ds its.toList h3
        exact ⟨.ref a, rfl, fun α H => .tup (.inr ⟨_, its, n, e, rfl, rfl, of_decide_eq_true h2, r⟩) (rd α H)⟩
      · cases h'
    | _ => cases h
  | .ref _, u, h => by cases u <;> cases h
  | .exc _ _, u, h => by cases u <;> cases h
  | .fn _, u, h => by cases u <;> cases h
theorem datBs_ok {M : Mdl} : ∀ (ds : List D) (us : List Value), datBs M.K ds us = true → ∃ vs, Vals vs us ∧ ∀ α H, RDs M α H ds vs
  | [], [], _ => ⟨[], .nil, fun _ _ => .nil⟩
  | [], _ :: _, h => by cases h
  | _ :: _, [], h => by cases h
  | d :: ds, u :: us, h => by
    obtain ⟨h1, h2⟩ := ba (show (datB M.K d u && datBs M.K ds us) = true from h)
    obtain ⟨v, r, rd⟩ := datB_ok d u h1
    obtain ⟨vs, rs, rds⟩ := datBs_ok ds us h2
    exact ⟨v :: vs, .cons r rs, fun α H => .cons (rd α H) (rds α H)⟩
end
/-! ### the __init__ of the own exceptions' base -/
structure InitS (st : Stmt) : Prop where
  it : ∃ (sf va : Str) (p1 p2 p3 p4 p5 p6 p7 p8 p9 p10 : Pos),
    defBody st = [.Expr (.Call (.Attribute (.Name "ValueError" p1) "__init__" p2) [.Name sf p3, .Name va p4] [] p5) p6, .Assign [.Attribute (.Name sf p7) "value" p8] (.Name va p9) p10] ∧
    FnScope [sf, va] [sf, va] (defScope st) ∧ (defScope st).names.lookup sf = some .local ∧ (defScope st).names.lookup va = some .local ∧ (defScope st).names.lookup ("ValueError" : Str) = some .globalImplicit ∧
    (∀ y ∈ [sf, va], (y == ("__debug__" : Str)) = false ∧ (y == ("__classdict__" : Str)) = false) ∧
    (∀ env : PySem.Env, ∃ pl : Sem Bool, eval (.Call (.Attribute (.Name "ValueError" p1) "__init__" p2) [.Name sf p3, .Name va p4] [] p5) env = (do
      let ov ← eval (.Name "ValueError" p1) env
      standAt p2.atName
      let (f, first) ← holding [ov] (getMethod ov "__init__" pl)
      callWith p5 f first (backTo p5 (starEach [.Name sf p3, .Name va p4] env)) (backToKw p5 (keywordEach [] env)))) ∧
    (∀ env : PySem.Env, swapsWith (.Call (.Attribute (.Name "ValueError" p1) "__init__" p2) [.Name sf p3, .Name va p4] [] p5) none p6.line env = pure false) ∧ (∀ env : PySem.Env, swapsWith (.Name va p9) (some (.Attribute (.Name sf p7) "value" p8)) p10.line env = pure false) ∧
    (∀ (x q : Str) (body : List Stmt) (sc : Scope) (kV doc pm : Value) (an : Option Addr) (cdv ct : Value) (us : List Value), us.length = 2 → bindArgs (PySem.W.fnOf x q (defArgs st) body sc .none kV doc pm an cdv ct) ⟨us, []⟩ = pure ([sf, va].zip us))
theorem init_ok {P : Program} {w : World} {K : PySem.W.Frag} {mg : Str → Option Value} {base : Heap} {x q : Str} {st : Stmt} {f : Addr} {fd : FuncData} (I : InitS st) (hm : mg "ValueError" = none) (F : FunD K x q (defArgs st) (defBody st) (defScope st) [] [] f fd) :
    ∃ ps : List Str, FnOk P w K mg base (L2.CX P w) 1 f fd ps (spInit K) ∧ L2.Binds K fd ps [] := by
  obtain ⟨sf, va, p1, p2, p3, p4, p5, p6, p7, p8, p9, p10, hb, S, l0, l1, lv, nb, hc, sw1, sw2, bd⟩ := I.it
  refine ⟨[sf, va], F.ok S (fun vs H Q E h => ?_) (fun cdv A outer s H vs Q E hr h => ?_), F.bindsN fun kV doc pm an cdv ct us hl => bd x q _ _ kV doc pm an cdv ct us hl⟩
  · obtain ⟨a, C, v, e, _⟩ := h
    rw [e]
    rfl
  · rw [hb]
    refine ⟨tSeq (tDrop (tVeI K (tCons (tVar 0) (tCons (tVar 1) tNil)))) (tOst K "value" (tVar 0) (tVar 1)), ?_, ?_⟩
    · have v0 : ∀ p : Pos, PE (cxOf (L2.CX P w) P w K mg base [sf, va] q (defScope st) f cdv A outer s H E) (.Name sf p) (tVar 0) := fun p => pe_var (i := 0) rfl (.inl l0) (nb sf (by simp)).1 (nb sf (by simp)).2
      have v1 : ∀ p : Pos, PE (cxOf (L2.CX P w) P w K mg base [sf, va] q (defScope st) f cdv A outer s H E) (.Name va p) (tVar 1) := fun p => pe_var (i := 1) rfl (.inl l1) (nb va (by simp)).1 (nb va (by simp)).2
      obtain ⟨pl, hc'⟩ := hc (cxOf (L2.CX P w) P w K mg base [sf, va] q (defScope st) f cdv A outer s H E).env
      exact pss_cons (ps_expr (pe_veinit (pl := pl) lv hm (by kernel_rfl) (pa_cons (v0 p3) (pa_cons (v1 p4) pa_nil)) hc') (sw1 _)) (pss_one (ps_ost (v0 p7) (v1 p9) (sw2 _)))
    · obtain ⟨a, C, v, e, ox, va', ha, hq⟩ := h
      subst e
      exact ⟨_, rfl, _, rfl, a, C, [v], rfl, (by show (1 : Nat) ≤ 1000; decide), ox, ha, _, rfl, _, rfl, a, C, rfl, ox, va', .inl ⟨ha, fun dx n1 n2 => hq dx n1 n2⟩⟩
end PyI
end
section
/-! PyI3c: a law, from its data. -/
set_option autoImplicit false
set_option linter.all false
set_option maxRecDepth 100000
set_option maxHeartbeats 4000000
namespace PyI
open PySem PySem.Spec PyProof.Rows L2 He
/-- a def of the module's: its name, its place, its parameters, its names, the def that hears (none: "") -/
structure DR where
  name : Str
  idx : Nat
  ps : List Str
  N : List Str
  hd : Str
/-- a law's data -/
structure LR where
  top : Nat → Stmt
  globs : List (Str × Gk)
  defs : List DR
  iH : Nat
  base : Str
  init : Stmt
  subs : List ((Str × Str) × Bool)
  heard : Str
  hx : Str
  fuel : Nat
def LR.glob (L : LR) (x : Str) : Gk := (L.globs.lookup x).getD .no
def LR.sub (L : LR) (c d : Str) : Option Bool := L.subs.lookup (c, d)
def DR.dd (L : LR) (r : DR) : DefD := ⟨(r.name, none), r.name, r.name, defArgs (L.top r.idx), defBody (L.top r.idx), defScope (L.top r.idx), [], []⟩
def LR.ddH (L : LR) : DefD := ⟨(L.heard, none), L.heard, L.heard, defArgs (L.top L.iH), defBody (L.top L.iH), defScope (L.top L.iH), [], []⟩
def LR.atI (L : LR) : Str × Option Str := (L.base, some "__init__")
def LR.ddI (L : LR) : DefD := ⟨L.atI, "__init__", L.base ++ ".__init__", defArgs L.init, defBody L.init, defScope L.init, [], []⟩
def LR.fn (L : LR) : List DefD := L.ddI :: L.ddH :: L.defs.map (DR.dd L)
def faOf : Str × Gk → List Fa
  | (x, .free) => [.free x]
  | (x, .defn) => [.glo x, .keep x]
  | (x, .exc) => [.glo x]
  | _ => []
def LR.fa (L : LR) : List Fa := .glo L.heard :: .keep L.heard :: .glo L.hx :: .free "ValueError" :: L.defs.map (fun r => Fa.glo r.name) ++ L.globs.flatMap faOf
/-- the defs that make lambdas -/
def LR.tf (L : LR) : List Defn := (L.defs.filter fun r => !decide (r.hd = ("" : Str))).map fun r => (r.name, none)
def tabN (p : Defn) : Str := p.1 ++ ".<locals>." ++ "<lambda>"
def noLst (K : PySem.W.Frag) : Bool := K.all fun q => match q.2.cls with
  | .type t => !decide (t = "list")
  | _ => true
theorem noLst_ok {K : PySem.W.Frag} (h : noLst K = true) {a : Addr} {o : Obj} (e : K.lookup a = some o) : o.cls ≠ .type "list" := fun z => by
  have q := List.all_eq_true.mp h (a, o) (He.lookup_mem e)
  have q' : (match o.cls with
    | .type t => !decide (t = "list")
    | _ => true) = true := q
  rw [z] at q'
  cases q'
def LR.ex (L : LR) (K : PySem.W.Frag) : Bool := noLst K && ((L.globs.all fun g => match g.2 with
  | .data d => (match PySem.W.nsIn K mainGlobals g.1 with
    | some (some u) => datB K d u
    | _ => false)
  | .exc => mkB K (fAd K L.atI) (ga K g.1)
  | _ => true) && ((L.subs.all fun q => decide (PySem.W.kitOne K (.ref (ga K q.1.1)) (.ref (ga K q.1.2)) = some q.2) && ((!decide (q.1.1 = q.1.2) || excfB K (ga K q.1.1)) && (!decide (q.1.2 = L.hx) || (!q.2 || decide (PySem.W.exmOne K (.ref (ga K q.1.1)) (.ref (ga K L.hx)) = some true))))) &&
  (L.tf.all fun p => L.tf.all fun q => !decide ((cT K p).2 = (cT K q).2) || decide (p = q))))
/-- a def, as compiled -/
structure CD (L : LR) where
  r : DR
  body : ISs
  cmp : cSs (cS ⟨r.N, L.glob, r.hd, L.hx⟩ (defScope (L.top r.idx)) L.fuel L.fuel) (defBody (L.top r.idx)) = some body
  sc : FnScope r.N r.ps (defScope (L.top r.idx))
  bd : ∀ (x q : Str) (b : List Stmt) (sc : Scope) (kV doc pm : Value) (an : Option Addr) (cdv ct : Value) (us : List Value), us.length = r.ps.length → bindArgs (PySem.W.fnOf x q (defArgs (L.top r.idx)) b sc .none kV doc pm an cdv ct) ⟨us, []⟩ = pure (r.ps.zip us)
  hd : r.hd = ("" : Str) ∨ r.hd = L.heard
def CD.p {L : LR} (c : CD L) : Str × PDef := (c.r.name, ⟨c.r.ps.length, c.r.N.length, c.body⟩)
def LR.prog (L : LR) (cds : List (CD L)) : Prog := ⟨fun x => (cds.map CD.p).lookup x, L.sub⟩
theorem lookup_in {α β : Type} [BEq α] [LawfulBEq α] {a : α} {b : β} : ∀ {l : List (α × β)}, l.lookup a = some b → (a, b) ∈ l
  | [], h => by cases h
  | (c, d) :: r, h => by
    rw [List.lookup_cons] at h
    cases q : (a == c) with
    | true =>
      rw [q] at h
      cases h
      rw [eq_of_beq q]
      exact List.mem_cons_self ..
    | false =>
      rw [q] at h
      exact List.mem_cons_of_mem _ (lookup_in h)
theorem LR.glob_in {L : LR} {x : Str} {g : Gk} (h : L.glob x = g) (hg : g ≠ .no) : (x, g) ∈ L.globs := by
  unfold LR.glob at h
  cases e : L.globs.lookup x with
  | none =>
    rw [e] at h
    exact absurd h.symm hg
  | some u =>
    rw [e] at h
    have h' : u = g := h
    subst h'
    exact lookup_in e
def LR.mdl (L : LR) (K : PySem.W.Frag) (mg : Str → Option Value) : Mdl := ⟨K, mg, ga K, L.tf.map fun p => ((cT K p).2, tabN p)⟩
section
variable {L : LR} {K : PySem.W.Frag} {w : World} {h : Heap} {mg : Str → Option Value}
theorem LR.fact (c : SaysX L.fa L.fn [] L.tf L.ex w h K) {g : Str × Gk} (hg : g ∈ L.globs) {f : Fa} (hf : f ∈ faOf g) : f.ok K = true :=
  (SaysT.d c.t).facts (List.mem_append_right _ (List.mem_flatMap.mpr ⟨g, hg, hf⟩))
theorem LR.gmod (c : SaysX L.fa L.fn [] L.tf L.ex w h K) (X : K.In h) (G : h.Ns mainGlobals mg) (cds : List (CD L)) : GMod (L.mdl K mg) L.glob (L.prog cds) := by
  obtain ⟨_, x1⟩ := ba c.more
  obtain ⟨x2, x3⟩ := ba x1
  obtain ⟨x4, _⟩ := ba x3
  refine ⟨fun x e => free_ok X G (L.fact c (LR.glob_in e (fun z => by cases z)) (List.mem_singleton.mpr rfl)), fun x d e => ?_, fun x e => ⟨ga K x, glo_ok X G (L.fact c (LR.glob_in e (fun z => by cases z)) (List.mem_cons_self ..)), keep_ok (L.fact c (LR.glob_in e (fun z => by cases z)) (List.mem_cons_of_mem _ (List.mem_singleton.mpr rfl)))⟩,
    fun x e => glo_ok X G (L.fact c (LR.glob_in e (fun z => by cases z)) (List.mem_singleton.mpr rfl)), fun d e => ?_, fun d e b q => ?_⟩
  · have y := List.all_eq_true.mp x2 (x, .data d) (LR.glob_in e (fun z => by cases z))
    have y' : (match PySem.W.nsIn K mainGlobals x with
      | some (some u) => datB K d u
      | _ => false) = true := y
    split at y'
    · rename_i u eu
      obtain ⟨v, r, rd⟩ := datB_ok (M := L.mdl K mg) d u y'
      exact ⟨v, u, PySem.W.mg_of X G eu, r, rd⟩
    · cases y'
  · have y := List.all_eq_true.mp x4 ((d, d), true) (lookup_in (show L.subs.lookup (d, d) = some true from e))
    obtain ⟨_, y⟩ := ba y
    obtain ⟨y, _⟩ := ba y
    have y' : (!decide (d = d) || excfB K (ga K d)) = true := y
    rw [decide_eq_true rfl] at y'
    exact excfB_ok y'
  · have y := List.all_eq_true.mp x4 ((d, e), b) (lookup_in (show L.subs.lookup (d, e) = some b from q))
    obtain ⟨y, _⟩ := ba y
    exact of_decide_eq_true y
theorem LR.mkf {P : Program} {base : Heap} (c : SaysX L.fa L.fn [] L.tf L.ex w h K) (X : K.In h) (G : h.Ns mainGlobals mg) (I : InitS L.init) (x : Str) (e : L.glob x = .exc) : MkF P w K mg base (ga K x) := by
  obtain ⟨_, x1⟩ := ba c.more
  obtain ⟨x2, _⟩ := ba x1
  have y := List.all_eq_true.mp x2 (x, .exc) (LR.glob_in e (fun z => by cases z))
  obtain ⟨fd, F⟩ := (SaysT.d c.t).defs (d := L.ddI) (List.mem_cons_self ..)
  have hv : mg "ValueError" = none := free_ok X G ((SaysT.d c.t).facts (f := .free "ValueError") (List.mem_append_left _ (by simp)))
  obtain ⟨ps, F1, B⟩ := init_ok (P := P) (w := w) (mg := mg) (base := base) I hv F
  exact mkF_of y F1 B
/-- the def that hears, as written -/
structure HearS (hx : Str) (st : Stmt) : Prop where
  it : ∃ (ca ba cal er : Str) (a1 a2 a3 a4 a5 a6 a7 b1 b2 b3 b4 c1 c2 c3 c4 c5 d1 d2 d3 d4 d5 : Pos) (n1 n2 n3 n4 n5 : Nat),
    defBody st = heardBody ca ba cal hx er a1 a2 a3 a4 a5 a6 a7 b1 b2 b3 b4 c1 c2 c3 c4 c5 d1 d2 d3 d4 d5 n1 n2 n3 n4 n5 ∧
    FnScope [cal, ca, ba, er] [cal] (defScope st) ∧ (defScope st).names.lookup cal = some .local ∧ (defScope st).names.lookup ca = some .local ∧ (defScope st).names.lookup ba = some .local ∧ (defScope st).names.lookup er = some .local ∧ (defScope st).names.lookup hx = some .globalImplicit ∧
    (∀ y ∈ [cal, ca, ba, er, hx], (y == ("__debug__" : Str)) = false ∧ (y == ("__classdict__" : Str)) = false) ∧
    ∀ (x q : Str) (b : List Stmt) (sc : Scope) (kV doc pm : Value) (an : Option Addr) (cdv ct : Value) (us : List Value), us.length = 1 → bindArgs (PySem.W.fnOf x q (defArgs st) b sc .none kV doc pm an cdv ct) ⟨us, []⟩ = pure ([cal].zip us)
theorem LR.heardF (c : SaysX L.fa L.fn [] L.tf L.ex w h K) (X : K.In h) (G : h.Ns mainGlobals mg) (S : HearS L.hx (L.top L.iH)) (base : Heap) (cds : List (CD L)) : HeardF (L.mdl K mg) (L.prog cds) base L.glob L.heard L.hx := by
  obtain ⟨_, x1⟩ := ba c.more
  obtain ⟨_, x3⟩ := ba x1
  obtain ⟨x4, _⟩ := ba x3
  obtain ⟨fd, F⟩ := (SaysT.d c.t).defs (d := L.ddH) (List.mem_cons_of_mem _ (List.mem_cons_self ..))
  obtain ⟨ca, ba', cal, er, a1, a2, a3, a4, a5, a6, a7, b1, b2, b3, b4, c1, c2, c3, c4, c5, d1, d2, d3, d4, d5, n1, n2, n3, n4, n5, eb, sc, l1, l2, l3, l4, l5, nb, bd⟩ := S.it
  obtain ⟨oc, od, dV, kV, doc, pm, an, cdv, ct, osl, e1, lk, hcd, dfl, _⟩ := id F.ex
  obtain ⟨cg, ecg⟩ := codeIn_ref hcd
  have bs : L2.Binds K fd [cal] [] := F.bindsN fun kV doc pm an cdv ct us hl => bd _ _ _ _ kV doc pm an cdv ct us hl
  subst e1 ecg
  have eb' : L.ddH.body = heardBody ca ba' cal L.hx er a1 a2 a3 a4 a5 a6 a7 b1 b2 b3 b4 c1 c2 c3 c4 c5 d1 d2 d3 d4 d5 n1 n2 n3 n4 n5 := eb
  rw [eb'] at lk bs
  refine ⟨⟨ga K L.heard, _, _, dV, kV, doc, pm, ct, oc, cg, an, od, osl, ca, ba', cal, er, a1, a2, a3, a4, a5, a6, a7, b1, b2, b3, b4, c1, c2, c3, c4, c5, d1, d2, d3, d4, d5, n1, n2, n3, n4, n5,
    glo_ok X G ((SaysT.d c.t).facts (List.mem_append_left _ (List.mem_cons_self ..))), keep_ok ((SaysT.d c.t).facts (f := .keep L.heard) (List.mem_append_left _ (List.mem_cons_of_mem _ (List.mem_cons_self ..)))), lk, hcd, bs, sc, l1, l2, l3, l4, l5, nb⟩, fun d q => ?_,
    glo_ok X G ((SaysT.d c.t).facts (f := .glo L.hx) (List.mem_append_left _ (List.mem_cons_of_mem _ (List.mem_cons_of_mem _ (List.mem_cons_self ..)))))⟩
  have y := List.all_eq_true.mp x4 ((d, L.hx), true) (lookup_in (show L.subs.lookup (d, L.hx) = some true from q))
  obtain ⟨_, y⟩ := ba y
  obtain ⟨_, y⟩ := ba y
  have y' : (!decide (L.hx = L.hx) || (!true || decide (PySem.W.exmOne K (.ref (ga K d)) (.ref (ga K L.hx)) = some true))) = true := y
  rw [decide_eq_true rfl] at y'
  exact of_decide_eq_true y'
theorem LR.defF (c : SaysX L.fa L.fn [] L.tf L.ex w h K) (X : K.In h) (G : h.Ns mainGlobals mg) (base : Heap) (cds : List (CD L)) (ih : ∀ z ∈ cds, z.r ∈ L.defs) (TB : ∀ p ∈ L.tf.map (cT K), LamX.TabB base mg p.1 p.2) (f : Str) (a : Addr) (d : PDef) (em : mg f = some (.ref a)) (ed : (L.prog cds).defs f = some d) :
    DefF (L.mdl K mg) (L.prog cds) base L.glob L.heard L.hx f a d := by
  have hin := lookup_in (show (cds.map CD.p).lookup f = some d from ed)
  obtain ⟨z, hz, ez⟩ := List.mem_map.mp hin
  have e1 : f = z.r.name := (congrArg (·.1) ez).symm
  have e2 : d = ⟨z.r.ps.length, z.r.N.length, z.body⟩ := (congrArg (·.2) ez).symm
  subst e1 e2
  have hr := ih z hz
  have eg : mg z.r.name = some (.ref (ga K z.r.name)) := glo_ok X G ((SaysT.d c.t).facts (f := .glo z.r.name) (List.mem_append_left _ (by
    simp only [List.mem_append, List.mem_cons, List.mem_map]
    exact .inr (.inr (.inr (.inr ⟨z.r, hr, rfl⟩))))))
  rw [eg] at em
  cases em
  obtain ⟨fd, F⟩ := (SaysT.d c.t).defs (d := z.r.dd L) (List.mem_cons_of_mem _ (List.mem_cons_of_mem _ (List.mem_map_of_mem hr)))
  obtain ⟨oc, od, dV, kV, doc, pm, an, cdv, ct, osl, e1, lk, hcd, dfl, _⟩ := id F.ex
  obtain ⟨cg, ecg⟩ := codeIn_ref hcd
  have bs : L2.Binds K fd z.r.ps [] := F.bindsN fun kV doc pm an cdv ct us hl => z.bd _ _ _ _ kV doc pm an cdv ct us hl
  subst e1 ecg
  refine ⟨⟨oc, od, z.r.name, z.r.name, _, _, _, dV, kV, doc, pm, ct, an, osl, cg, z.r.N, z.r.ps, z.r.hd, L.fuel, L.fuel, z.body, lk, hcd, z.sc, bs, z.cmp, rfl, fun hd => ?_⟩⟩
  have hh : z.r.hd = L.heard := z.hd.resolve_left hd
  have ht : (z.r.name, none) ∈ L.tf := List.mem_map.mpr ⟨z.r, List.mem_filter.mpr ⟨hr, by
    rw [Bool.not_eq_true', decide_eq_false_iff_not]
    exact hd⟩, rfl⟩
  have ec : codeOf K (z.r.name, none) = cg := codeOf_eq (p := (z.r.name, none)) lk rfl
  have tb := TB (cT K (z.r.name, none)) (List.mem_map_of_mem ht)
  have tb' : LamX.TabB base mg cg (cT K (z.r.name, none)).2 := by
    have y : LamX.TabB base mg (codeOf K (z.r.name, none)) (cT K (z.r.name, none)).2 := tb
    rw [ec] at y
    exact y
  refine ⟨hh, _, tb', List.mem_map.mpr ⟨_, ht, rfl⟩, fun p hp ep => ?_⟩
  obtain ⟨p', hp', e'⟩ := List.mem_map.mp hp
  subst e'
  obtain ⟨_, x1⟩ := ba c.more
  obtain ⟨_, x3⟩ := ba x1
  obtain ⟨_, x5⟩ := ba x3
  have y := List.all_eq_true.mp (List.all_eq_true.mp x5 p' hp') (z.r.name, none) ht
  have y' : (!decide ((cT K p').2 = (cT K (z.r.name, none)).2) || decide (p' = (z.r.name, none))) = true := y
  rw [decide_eq_true (show (cT K p').2 = (cT K (z.r.name, none)).2 from ep)] at y'
  have e3 : p' = (z.r.name, none) := of_decide_eq_true y'
  subst e3
  rfl
theorem rds_int {M : Mdl} {α : List Addr} {H : Hp} : ∀ (ks : List Int), RDs M α H (ks.map .int) (ks.map .int)
  | [] => .nil
  | k :: r => .cons (.int k) (rds_int r)
/-- the law keeps what the interpreter says of it -/
theorem LR.walk {l : PySem.W.OpenLaw} {n m : Nat} {q : Program} {loose : List Str} {XP : (Str → Option Value) → Heap → Prop} {d : DefRec} (L : LR) (cds : List (CD L)) (ih : ∀ z ∈ cds, z.r ∈ L.defs) (I : InitS L.init) (S : HearS L.hx (L.top L.iH))
    (hn : l.most = some n) (hn2 : n ≤ sizeLine) (hdf : d.params.defaults = []) (hr : Room (3 * m) callerA) (hdef : ((L.prog cds).defs d.name).isSome = true)
    (pure : ∀ ks : List Int, ks.length ≤ n → (∀ z ∈ ks, Builtin.Int.intBits z ≤ 1048576) → ∃ st, callN (L.prog cds) m d.name [.ref 0] [.lst false (ks.map .int)] = .ok (.bl true) st) :
    PySem.W.WalkO q loose XP (hookX 4 L.fa L.fn [] L.tf L.ex).says l.row.toRowW d [] (fun f vs => PySem.call f vs) := by
  refine Att.attach_callB hn hdf fun w s0 s mg mb fa o pm cd doc a vs ks G Y ho hd hcd hmg hobj hints hlen hbits hg => ?_
  obtain ⟨K, KX, c⟩ := Y
  have an : K.lookup a = none := by
    cases e : K.lookup a with
    | none => rfl
    | some ob =>
      have z := KX a ob e
      rw [hobj] at z
      cases z
      exact absurd rfl (noLst_ok (ba c.more).1 e)
  refine law_in (tb := L.tf.map (cT K)) KX G.T.g G.T.b G.T.builtins G.T.nolimit hg (fun p hp => ?_) (fun p hp => ?_) (fun p hp => ?_) G.T.bmain hobj an hints (Nat.le_trans hlen hn2) fun base KB NB TB E0 => ?_
  · obtain ⟨p', h1, h2⟩ := List.mem_map.mp hp
    subst h2
    exact c.empty p' h1
  · obtain ⟨p', h1, h2⟩ := List.mem_map.mp hp
    subst h2
    exact c.out p' h1
  · obtain ⟨p', h1, h2⟩ := List.mem_map.mp hp
    subst h2
    exact PySem.W.codeHd_of_K KX (c.hd p' h1)
  · obtain ⟨st, hp⟩ := pure ks hlen hbits
    have go := callN_ok (w := w) (P' := l.prog) (base := base) lzOk (heard_ok (L.heardF c KX G.T.g S base cds)) (L.gmod c KX G.T.g cds) (fun x e => L.mkf c KX G.T.g I x e) (fun f a d e1 e2 => L.defF c KX G.T.g base cds ih TB f a d e1 e2) m d.name fa hmg hdef
    refine go callerA [] s _ [.ref a] [.ref a] [a] [.lst false (ks.map .int)] [.ref 0] _ _ rfl hr E0 (.cons rfl .nil) ⟨rfl, (by simp), fun i cl b e1 e2 => ?_, fun p hp => ?_⟩ (.cons (.ref rfl) .nil) ?_
    · cases i with
      | zero =>
        cases e1
        cases e2
        exact ⟨_, _, if_pos rfl, rds_int ks⟩
      | succ i => cases e1
    · obtain ⟨p', h1, h2⟩ := List.mem_map.mp hp
      subst h2
      have e : hp0 a (lstObj0 vs) (ks.map .int) (L.tf.map (cT K)) (cT K p').2 = some (.tbl #[]) := by
        refine (if_neg fun z => ?_).trans (if_pos (List.mem_map_of_mem (List.mem_map_of_mem h1)))
        have y := c.empty p' h1
        rw [z, hobj] at y
        cases y
      exact ⟨#[], e, trivial, fun _ _ z => by cases z⟩
    · rw [hp]
      intro α' v H' _ _ _ rd
      cases rd
      rfl
end
end PyI
end
section
set_option Elab.async false
set_option linter.all false
set_option maxRecDepth 100000
set_option maxHeartbeats 4000000
open PySem PySem.Spec PyProof.Rows L2 PyI
namespace K01
def top (i : Nat) : Stmt := PySem.Challenge.pw_neverbeyond_k01_whole_sets_of_bytes.main.body.getD i (.Pass ⟨0, 0, 0, 0⟩)
def globs : List (Str × Gk) :=
  [(("is_tuple" : Str), Gk.defn),
   (("is_whole" : Str), Gk.defn),
   (("is_integer" : Str), Gk.defn),
   (("FormatError" : Str), Gk.exc),
   (("BadSet" : Str), Gk.exc),
   (("MOST_BYTE" : Str), Gk.data (.int 255)),
   (("MOST_SETS" : Str), Gk.data (.int 300)),
   (("PAIR" : Str), Gk.data (.int 2)),
   (("is_set" : Str), Gk.defn),
   (("check_set" : Str), Gk.defn),
   (("has" : Str), Gk.defn),
   (("numbers" : Str), Gk.defn),
   (("merged" : Str), Gk.defn),
   (("met" : Str), Gk.defn),
   (("rest_of" : Str), Gk.defn),
   (("either" : Str), Gk.defn),
   (("both" : Str), Gk.defn),
   (("others" : Str), Gk.defn),
   (("without" : Str), Gk.defn),
   (("begins_of" : Str), Gk.defn),
   (("classes" : Str), Gk.defn),
   (("_law_pot" : Str), Gk.defn),
   (("_law_take" : Str), Gk.defn),
   (("_law_of" : Str), Gk.defn),
   (("_law_places" : Str), Gk.defn),
   (("_law_heard" : Str), Gk.defn),
   (("_law_odd" : Str), Gk.defn),
   (("_law_is_int" : Str), Gk.defn),
   (("_law_bent" : Str), Gk.defn),
   (("_law_ranges" : Str), Gk.defn),
   (("_law_bytes" : Str), Gk.defn),
   (("_law_drawn" : Str), Gk.defn),
   (("_law_is_set" : Str), Gk.defn),
   (("_law_are_refused" : Str), Gk.defn),
   (("_law_right" : Str), Gk.defn),
   (("law" : Str), Gk.defn),
   (("len" : Str), Gk.free),
   (("all" : Str), Gk.free),
   (("any" : Str), Gk.free),
   (("tuple" : Str), Gk.free),
   (("list" : Str), Gk.free),
   (("sorted" : Str), Gk.free),
   (("int" : Str), Gk.free),
   (("str" : Str), Gk.free),
   (("abs" : Str), Gk.free),
   (("max" : Str), Gk.free),
   (("min" : Str), Gk.free),
   (("sum" : Str), Gk.free),
   (("repr" : Str), Gk.free),
   (("range" : Str), Gk.free),
   (("zip" : Str), Gk.free),
   (("isinstance" : Str), Gk.free),
   (("bool" : Str), Gk.free),
   (("ValueError" : Str), Gk.free)]
def r_is_tuple : DR := ⟨"is_tuple", 1, ["value", "least", "most"], ["value", "least", "most"], ""⟩
def r_is_whole : DR := ⟨"is_whole", 2, ["value"], ["value"], ""⟩
def r_is_integer : DR := ⟨"is_integer", 3, ["value", "low", "high"], ["value", "low", "high"], ""⟩
def r_is_set : DR := ⟨"is_set", 11, ["value"], ["value", "one", "low", "high", "other"], ""⟩
def r_check_set : DR := ⟨"check_set", 12, ["value"], ["value"], ""⟩
def r_has : DR := ⟨"has", 13, ["ranges", "byte"], ["ranges", "byte", "low", "high"], ""⟩
def r_numbers : DR := ⟨"numbers", 14, ["ranges"], ["ranges", "found", "low", "high"], ""⟩
def r_merged : DR := ⟨"merged", 15, ["rows"], ["rows", "found", "low", "high"], ""⟩
def r_met : DR := ⟨"met", 16, ["one", "other"], ["one", "other", "found", "low", "high", "its_low", "its_high"], ""⟩
def r_rest_of : DR := ⟨"rest_of", 17, ["ranges"], ["ranges", "found", "begin", "low", "high"], ""⟩
def r_either : DR := ⟨"either", 18, ["one", "other"], ["one", "other"], ""⟩
def r_both : DR := ⟨"both", 19, ["one", "other"], ["one", "other"], ""⟩
def r_others : DR := ⟨"others", 20, ["ranges"], ["ranges"], ""⟩
def r_without : DR := ⟨"without", 21, ["one", "other"], ["one", "other"], ""⟩
def r_begins_of : DR := ⟨"begins_of", 22, ["rows"], ["rows", "one", "found", "ranges", "low", "high"], ""⟩
def r_classes : DR := ⟨"classes", 23, ["rows"], ["rows", "ranges", "begins", "found", "low", "end"], ""⟩
def r_l_pot : DR := ⟨"_law_pot", 25, ["script", "place"], ["script", "place", "cell", "own", "small"], ""⟩
def r_l_take : DR := ⟨"_law_take", 26, ["pot", "upto"], ["pot", "upto", "digit", "prime", "blend"], ""⟩
def r_l_of : DR := ⟨"_law_of", 27, ["pot", "some"], ["pot", "some"], ""⟩
def r_l_places : DR := ⟨"_law_places", 28, ["script", "most"], ["script", "most"], ""⟩
def r_l_odd : DR := ⟨"_law_odd", 30, ["pot"], ["pot", "some"], ""⟩
def r_l_is_int : DR := ⟨"_law_is_int", 31, ["value", "low", "high"], ["value", "low", "high"], ""⟩
def r_l_bent : DR := ⟨"_law_bent", 32, ["pot", "value"], ["pot", "value", "at", "some"], ""⟩
def r_l_ranges : DR := ⟨"_law_ranges", 33, ["some"], ["some", "found", "byte"], ""⟩
def r_l_bytes : DR := ⟨"_law_bytes", 34, ["ranges"], ["ranges", "found", "low", "high"], ""⟩
def r_l_drawn : DR := ⟨"_law_drawn", 35, ["pot"], ["pot", "some", "lap", "low"], ""⟩
def r_l_is_set : DR := ⟨"_law_is_set", 36, ["value"], ["value", "its", "one", "other"], ""⟩
def r_l_are_refused : DR := ⟨"_law_are_refused", 37, ["pot", "ranges"], ["pot", "ranges", "caught", "its", "due", "bad", "call", "value"], "_law_heard"⟩
def r_l_right : DR := ⟨"_law_right", 38, ["pot"], ["pot", "lap", "byte", "ranges", "lot", "low", "high", "key", "rows", "one", "other", "mine", "its", "some", "value", "lots", "found"], ""⟩
def r_law : DR := ⟨"law", 39, ["script"], ["script", "lap", "place", "pot"], ""⟩
def clsDef (s : Stmt) : Stmt := match s with
  | .ClassDef _ _ _ (b :: _) _ _ _ _ _ _ _ => b
  | s => s
def law : LR :=
  { top := top, globs := globs, defs := [r_is_tuple, r_is_whole, r_is_integer, r_is_set, r_check_set, r_has, r_numbers, r_merged, r_met, r_rest_of, r_either, r_both, r_others, r_without, r_begins_of, r_classes, r_l_pot, r_l_take, r_l_of, r_l_places, r_l_odd, r_l_is_int, r_l_bent, r_l_ranges, r_l_bytes, r_l_drawn, r_l_is_set, r_l_are_refused, r_l_right, r_law],
    iH := 29, base := "FormatError", init := clsDef (top 5), subs := [((("FormatError" : Str), ("FormatError" : Str)), true), ((("FormatError" : Str), ("BadSet" : Str)), false), ((("BadSet" : Str), ("FormatError" : Str)), true), ((("BadSet" : Str), ("BadSet" : Str)), true)], heard := "_law_heard", hx := "FormatError", fuel := 40 }
def b_is_tuple : ISs := .cons (.ret (.and (.isi .tuple (.var 0)) (.chain .le .le (.var 1) (.bi .len (.cons false (.var 0) .nil)) (.var 2)))) .nil
def b_is_whole : ISs := .cons (.ret (.and (.isi .int (.var 0)) (.not (.isi .bool (.var 0))))) .nil
def b_is_integer : ISs := .cons (.ret (.and (.call "is_whole" (.cons false (.var 0) .nil)) (.chain .le .le (.var 1) (.var 0) (.var 2)))) .nil
def b_is_set : ISs := .cons (.iff (.or (.not (.isi .tuple (.var 0))) (.not (.bi .all (.cons false (.lc (.call "is_tuple" (.cons false (.var 1) (.cons false (.con (.int 2)) (.cons false (.con (.int 2)) .nil)))) (.nm 1) (.e (.var 0)) .nil [1]) .nil)))) (.cons (.ret (.bl false)) .nil) .nil) (.cons (.iff (.not (.bi .all (.cons false (.lc (.and (.call "is_integer" (.cons false (.var 2) (.cons false (.int 0) (.cons false (.con (.int 255)) .nil)))) (.call "is_integer" (.cons false (.var 3) (.cons false (.var 2) (.cons false (.con (.int 255)) .nil))))) (.tp [2, 3]) (.e (.var 0)) .nil [2, 3]) .nil))) (.cons (.ret (.bl false)) .nil) .nil) (.cons (.ret (.bi .all (.cons false (.lc (.cmp .lt (.bin .add (.ix (.var 1) (.int 1)) (.int 1)) (.ix (.var 4) (.int 0))) (.tp [1, 4]) (.zip (.var 0) (.slc (.var 0) (.some (.int 1)) .none)) .nil [1, 4]) .nil))) .nil))
def b_check_set : ISs := .cons (.iff (.not (.call "is_set" (.cons false (.var 0) .nil))) (.cons (.raise "BadSet" (.var 0)) .nil) .nil) .nil
def b_has : ISs := .cons (.ret (.bi .any (.cons false (.lc (.chain .le .le (.var 2) (.var 1) (.var 3)) (.tp [2, 3]) (.e (.var 0)) .nil [2, 3]) .nil))) .nil
def b_numbers : ISs := .cons (.expr (.call "check_set" (.cons false (.var 0) .nil))) (.cons (.asg (.nm 1) (.lst .nil)) (.cons (.forr (.tp [2, 3]) (.e (.var 0)) (.cons (.expr (.meth .extend (.var 1) (.cons false (.lrng (.var 2) (.bin .add (.var 3) (.int 1))) .nil))) .nil)) (.cons (.ret (.bi .tuple (.cons false (.var 1) .nil))) .nil)))
def b_merged : ISs := .cons (.asg (.nm 1) (.lst .nil)) (.cons (.forr (.tp [2, 3]) (.e (.bi .sorted (.cons false (.var 0) .nil))) (.cons (.iff (.and (.cmp .ne (.var 1) (.lst .nil)) (.cmp .le (.var 2) (.bin .add (.ix (.ix (.var 1) (.neg (.int 1))) (.int 1)) (.int 1)))) (.cons (.setIx (.var 1) (.neg (.int 1)) (.tup (.cons false (.ix (.ix (.var 1) (.neg (.int 1))) (.int 0)) (.cons false (.bi .max (.cons false (.ix (.ix (.var 1) (.neg (.int 1))) (.int 1)) (.cons false (.var 3) .nil))) .nil)))) .nil) (.cons (.expr (.meth .append (.var 1) (.cons false (.tup (.cons false (.var 2) (.cons false (.var 3) .nil))) .nil))) .nil)) .nil)) (.cons (.ret (.bi .tuple (.cons false (.var 1) .nil))) .nil))
def b_met : ISs := .cons (.asg (.nm 2) (.lst .nil)) (.cons (.forr (.tp [3, 4]) (.e (.var 0)) (.cons (.forr (.tp [5, 6]) (.e (.var 1)) (.cons (.iff (.cmp .le (.bi .max (.cons false (.var 3) (.cons false (.var 5) .nil))) (.bi .min (.cons false (.var 4) (.cons false (.var 6) .nil)))) (.cons (.expr (.meth .append (.var 2) (.cons false (.tup (.cons false (.bi .max (.cons false (.var 3) (.cons false (.var 5) .nil))) (.cons false (.bi .min (.cons false (.var 4) (.cons false (.var 6) .nil))) .nil))) .nil))) .nil) .nil) .nil)) .nil)) (.cons (.ret (.bi .tuple (.cons false (.var 2) .nil))) .nil))
def b_rest_of : ISs := .cons (.par [1, 2] (.cons false (.lst .nil) (.cons false (.int 0) .nil))) (.cons (.forr (.tp [3, 4]) (.e (.var 0)) (.cons (.iff (.cmp .lt (.var 2) (.var 3)) (.cons (.expr (.meth .append (.var 1) (.cons false (.tup (.cons false (.var 2) (.cons false (.bin .sub (.var 3) (.int 1)) .nil))) .nil))) .nil) .nil) (.cons (.asg (.nm 2) (.bin .add (.var 4) (.int 1))) .nil))) (.cons (.iff (.cmp .le (.var 2) (.con (.int 255))) (.cons (.expr (.meth .append (.var 1) (.cons false (.tup (.cons false (.var 2) (.cons false (.con (.int 255)) .nil))) .nil))) .nil) .nil) (.cons (.ret (.bi .tuple (.cons false (.var 1) .nil))) .nil)))
def b_either : ISs := .cons (.expr (.call "check_set" (.cons false (.var 0) .nil))) (.cons (.expr (.call "check_set" (.cons false (.var 1) .nil))) (.cons (.ret (.call "merged" (.cons false (.tup (.cons true (.var 0) (.cons true (.var 1) .nil))) .nil))) .nil))
def b_both : ISs := .cons (.expr (.call "check_set" (.cons false (.var 0) .nil))) (.cons (.expr (.call "check_set" (.cons false (.var 1) .nil))) (.cons (.ret (.call "met" (.cons false (.var 0) (.cons false (.var 1) .nil)))) .nil))
def b_others : ISs := .cons (.expr (.call "check_set" (.cons false (.var 0) .nil))) (.cons (.ret (.call "rest_of" (.cons false (.var 0) .nil))) .nil)
def b_without : ISs := .cons (.expr (.call "check_set" (.cons false (.var 0) .nil))) (.cons (.expr (.call "check_set" (.cons false (.var 1) .nil))) (.cons (.ret (.call "met" (.cons false (.var 0) (.cons false (.call "rest_of" (.cons false (.var 1) .nil)) .nil)))) .nil))
def b_begins_of : ISs := .cons (.asg (.nm 2) (.dic (.cons false (.int 0) (.cons false (.bl true) .nil)))) (.cons (.forr (.nm 3) (.e (.var 0)) (.cons (.forr (.tp [4, 5]) (.e (.var 3)) (.cons (.expr (.meth .update (.var 2) (.cons false (.dic (.cons false (.var 4) (.cons false (.bl true) (.cons false (.bin .add (.var 5) (.int 1)) (.cons false (.bl true) .nil))))) .nil))) .nil)) .nil)) (.cons (.ret (.bi .sorted (.cons false (.lc (.var 1) (.nm 1) (.e (.var 2)) (.cons false (.cmp .le (.var 1) (.con (.int 255))) .nil) [1]) .nil))) .nil))
def b_classes : ISs := .cons (.iff (.not (.call "is_tuple" (.cons false (.var 0) (.cons false (.int 0) (.cons false (.con (.int 300)) .nil))))) (.cons (.raise "BadSet" (.var 0)) .nil) .nil) (.cons (.forr (.nm 1) (.e (.var 0)) (.cons (.expr (.call "check_set" (.cons false (.var 1) .nil))) .nil)) (.cons (.asg (.nm 2) (.lst (.cons true (.call "begins_of" (.cons false (.var 0) .nil)) (.cons false (.bin .add (.con (.int 255)) (.int 1)) .nil)))) (.cons (.asg (.nm 3) (.lst .nil)) (.cons (.forr (.tp [4, 5]) (.zip (.var 2) (.slc (.var 2) (.some (.int 1)) .none)) (.cons (.iff (.and (.cmp .ne (.var 3) (.lst .nil)) (.bi .all (.cons false (.lc (.cmp .eq (.call "has" (.cons false (.var 1) (.cons false (.var 4) .nil))) (.call "has" (.cons false (.var 1) (.cons false (.ix (.ix (.var 3) (.neg (.int 1))) (.int 0)) .nil)))) (.nm 1) (.e (.var 0)) .nil [1]) .nil))) (.cons (.setIx (.var 3) (.neg (.int 1)) (.tup (.cons false (.ix (.ix (.var 3) (.neg (.int 1))) (.int 0)) (.cons false (.bin .sub (.var 5) (.int 1)) .nil)))) .nil) (.cons (.expr (.meth .append (.var 3) (.cons false (.tup (.cons false (.var 4) (.cons false (.bin .sub (.var 5) (.int 1)) .nil))) .nil))) .nil)) .nil)) (.cons (.ret (.bi .tuple (.cons false (.var 3) .nil))) .nil)))))
def b_l_pot : ISs := .cons (.asg (.nm 2) (.ite (.cmp .lt (.var 1) (.bi .len (.cons false (.var 0) .nil))) (.ix (.var 0) (.var 1)) (.bin .add (.bin .add (.bin .mod (.bi .sum (.cons false (.slc (.var 0) .none (.some (.int 1))) .nil)) (.int 1000003)) (.bin .mul (.int 4561) (.var 1))) (.int 587)))) (.cons (.asg (.nm 3) (.bin .mul (.bin .mod (.bi .int (.cons false (.bi .abs (.cons false (.var 2) .nil)) .nil)) (.bin .pow (.bin .pow (.int 10) (.int 60)) (.int 5))) (.bi .int (.cons false (.cmp .ge (.bi .abs (.cons false (.var 2) .nil)) (.bin .pow (.int 10) (.int 18))) .nil)))) (.cons (.asg (.nm 4) (.bin .mod (.bi .int (.cons false (.var 2) .nil)) (.int 2305843009213693951))) (.cons (.ret (.lst (.cons false (.var 3) (.cons false (.bin .mod (.bi .int (.cons false (.bin .add (.bin .add (.bin .mul (.var 4) (.int 60331)) (.bin .mul (.bin .mul (.int 8807) (.var 1)) (.var 1))) (.int 409)) .nil)) (.int 2305843009213693921)) (.cons false (.int 0) .nil))))) .nil)))
def b_l_take : ISs := .cons (.iff (.cmp .gt (.ix (.var 0) (.int 0)) (.int 0)) (.cons (.asg (.nm 2) (.bin .mod (.bi .int (.cons false (.ix (.var 0) (.int 0)) .nil)) (.var 1))) (.cons (.setIx (.var 0) (.int 0) (.bin .fdiv (.ix (.var 0) (.int 0)) (.var 1))) (.cons (.ret (.var 2)) .nil))) .nil) (.cons (.setIx (.var 0) (.int 2) (.bin .add (.ix (.var 0) (.int 2)) (.int 1))) (.cons (.asg (.nm 3) (.ix (.lst (.cons false (.int 2147483647) (.cons false (.int 2147483629) (.cons false (.int 2147483587) (.cons false (.int 2147483579) (.cons false (.int 2147483563) .nil)))))) (.bin .mod (.bi .int (.cons false (.ix (.var 0) (.int 2)) .nil)) (.int 5)))) (.cons (.asg (.nm 4) (.bin .mod (.bi .int (.cons false (.bin .pow (.bi .int (.cons false (.bin .add (.bin .add (.ix (.var 0) (.int 1)) (.bin .mul (.bin .mul (.int 68209) (.ix (.var 0) (.int 2))) (.ix (.var 0) (.int 2)))) (.int 331)) .nil)) (.int 3)) .nil)) (.var 3))) (.cons (.asg (.nm 4) (.bin .mod (.bi .int (.cons false (.bin .mul (.var 4) (.bin .add (.bin .mod (.bi .int (.cons false (.var 4) .nil)) (.int 11027)) (.bin .mul (.int 211) (.ix (.var 0) (.int 2))))) .nil)) (.int 2305843009213693907))) (.cons (.ret (.bin .mod (.bi .int (.cons false (.bin .fdiv (.var 4) (.int 167)) .nil)) (.var 1))) .nil)))))
def b_l_of : ISs := .cons (.ret (.ix (.var 1) (.call "_law_take" (.cons false (.var 0) (.cons false (.bi .len (.cons false (.var 1) .nil)) .nil))))) .nil
def b_l_places : ISs := .cons (.ret (.lrng (.int 0) (.bi .max (.cons false (.int 1) (.cons false (.bi .min (.cons false (.var 1) (.cons false (.bi .len (.cons false (.var 0) .nil)) .nil))) .nil))))) .nil
def b_l_odd : ISs := .cons (.asg (.nm 1) (.lst (.cons false .non (.cons false (.bl true) (.cons false (.bl false) (.cons false (.int 0) (.cons false (.int 1) (.cons false (.neg (.int 1)) (.cons false (.int 2) (.cons false (.int 256) (.cons false (.str "") (.cons false (.str "a") (.cons false (.str "byte") (.cons false (.str "same") (.cons false (.tup .nil) (.cons false (.lst .nil) (.cons false (.tup (.cons false (.int 0) .nil)) (.cons false (.tup (.cons false (.tup .nil) .nil)) (.cons false (.lst (.cons false (.int 1) .nil)) (.cons false (.tup (.cons false (.bl true) .nil)) (.cons false (.tup (.cons false .non .nil)) .nil))))))))))))))))))))) (.cons (.asg (.nm 1) (.bin .add (.var 1) (.lst (.cons false (.tup (.cons false (.str "a") .nil)) (.cons false (.tup (.cons false (.tup (.cons false (.int 0) .nil)) (.cons false (.tup .nil) .nil))) (.cons false (.tup (.cons false (.int 7) .nil)) (.cons false (.tup (.cons false (.int 0) (.cons false (.lst (.cons false (.int 0) .nil)) .nil))) (.cons false (.tup (.cons false (.tup (.cons false (.int 0) .nil)) (.cons false (.tup (.cons false (.tup (.cons false (.int 0) (.cons false (.int 1) .nil))) .nil)) .nil))) (.cons false (.lst (.cons false (.tup (.cons false (.int 0) .nil)) (.cons false (.tup (.cons false (.tup (.cons false (.int 0) (.cons false (.int 0) .nil))) .nil)) .nil))) (.cons false (.str "a = byte 0") (.cons false (.bin .pow (.int 10) (.int 20)) .nil))))))))))) (.cons (.ret (.call "_law_of" (.cons false (.var 0) (.cons false (.var 1) .nil)))) .nil))
def b_l_is_int : ISs := .cons (.ret (.and (.isi .int (.var 0)) (.and (.not (.isi .bool (.var 0))) (.chain .le .le (.var 1) (.var 0) (.var 2))))) .nil
def b_l_bent : ISs := .cons (.iff (.and (.isi .tuple (.var 1)) (.and (.cmp .ne (.var 1) (.tup .nil)) (.cmp .gt (.call "_law_take" (.cons false (.var 0) (.cons false (.int 5) .nil))) (.int 0)))) (.cons (.asg (.nm 2) (.call "_law_take" (.cons false (.var 0) (.cons false (.bi .len (.cons false (.var 1) .nil)) .nil)))) (.cons (.ret (.bin .add (.bin .add (.slc (.var 1) .none (.some (.var 2))) (.tup (.cons false (.call "_law_bent" (.cons false (.var 0) (.cons false (.ix (.var 1) (.var 2)) .nil))) .nil))) (.slc (.var 1) (.some (.bin .add (.var 2) (.int 1))) .none))) .nil)) .nil) (.cons (.iff (.isi .tuple (.var 1)) (.cons (.ret (.call "_law_of" (.cons false (.var 0) (.cons false (.lst (.cons false (.bi .list (.cons false (.var 1) .nil)) (.cons false (.slc (.var 1) (.some (.int 1)) .none) (.cons false (.slc (.var 1) .none (.some (.neg (.int 1)))) (.cons false (.bin .add (.var 1) (.slc (.var 1) (.some (.neg (.int 1))) .none)) (.cons false (.rev (.var 1)) (.cons false (.tup .nil) (.cons false .non .nil)))))))) .nil)))) .nil) .nil) (.cons (.iff (.isi .bool (.var 1)) (.cons (.ret (.call "_law_of" (.cons false (.var 0) (.cons false (.lst (.cons false (.not (.var 1)) (.cons false (.bi .int (.cons false (.var 1) .nil)) (.cons false .non .nil)))) .nil)))) .nil) .nil) (.cons (.iff (.isi .int (.var 1)) (.cons (.ret (.call "_law_of" (.cons false (.var 0) (.cons false (.lst (.cons false (.bin .add (.var 1) (.int 1)) (.cons false (.bin .sub (.var 1) (.int 1)) (.cons false (.neg (.var 1)) (.cons false (.bi .str (.cons false (.var 1) .nil)) (.cons false .non (.cons false (.cmp .eq (.var 1) (.int 1)) (.cons false (.tup (.cons false (.var 1) .nil)) .nil)))))))) .nil)))) .nil) .nil) (.cons (.iff (.isi .str (.var 1)) (.cons (.asg (.nm 3) (.lst (.cons false (.bin .add (.var 1) (.str "a")) (.cons false (.slc (.var 1) .none (.some (.neg (.int 1)))) (.cons false .bad (.cons false (.lst (.cons false (.var 1) .nil)) (.cons false (.str "a") (.cons false .non (.cons false (.int 0) (.cons false (.str "") (.cons false (.bin .add (.str "b") (.var 1)) (.cons false (.bin .add (.var 1) (.str "/")) .nil)))))))))))) (.cons (.ret (.call "_law_of" (.cons false (.var 0) (.cons false (.var 3) .nil)))) .nil)) .nil) (.cons (.ret (.call "_law_odd" (.cons false (.var 0) .nil))) .nil)))))
def b_l_ranges : ISs := .cons (.asg (.nm 1) (.lst .nil)) (.cons (.forr (.nm 2) (.rng (.int 0) (.int 256)) (.cons (.iff (.cmp .isin (.var 2) (.var 0)) (.cons (.iff (.and (.cmp .ne (.var 1) (.lst .nil)) (.cmp .eq (.ix (.ix (.var 1) (.neg (.int 1))) (.int 1)) (.bin .sub (.var 2) (.int 1)))) (.cons (.setIx (.var 1) (.neg (.int 1)) (.tup (.cons false (.ix (.ix (.var 1) (.neg (.int 1))) (.int 0)) (.cons false (.var 2) .nil)))) .nil) (.cons (.expr (.meth .append (.var 1) (.cons false (.tup (.cons false (.var 2) (.cons false (.var 2) .nil))) .nil))) .nil)) .nil) .nil) .nil)) (.cons (.ret (.bi .tuple (.cons false (.var 1) .nil))) .nil))
def b_l_bytes : ISs := .cons (.asg (.nm 1) (.lst .nil)) (.cons (.forr (.tp [2, 3]) (.e (.var 0)) (.cons (.expr (.meth .extend (.var 1) (.cons false (.lrng (.var 2) (.bin .add (.var 3) (.int 1))) .nil))) .nil)) (.cons (.ret (.var 1)) .nil))
def b_l_drawn : ISs := .cons (.asg (.nm 1) (.lst .nil)) (.cons (.forr (.nm 2) (.rng (.int 0) (.call "_law_take" (.cons false (.var 0) (.cons false (.int 5) .nil)))) (.cons (.asg (.nm 3) (.call "_law_of" (.cons false (.var 0) (.cons false (.lst (.cons false (.int 0) (.cons false (.int 1) (.cons false (.int 3) (.cons false (.int 7) (.cons false (.int 100) (.cons false (.int 200) (.cons false (.int 250) (.cons false (.int 254) (.cons false (.int 255) .nil)))))))))) .nil)))) (.cons (.expr (.meth .extend (.var 1) (.cons false (.lrng (.var 3) (.bin .add (.bi .min (.cons false (.int 255) (.cons false (.bin .add (.var 3) (.call "_law_of" (.cons false (.var 0) (.cons false (.lst (.cons false (.int 0) (.cons false (.int 0) (.cons false (.int 1) (.cons false (.int 2) (.cons false (.int 5) (.cons false (.int 60) .nil))))))) .nil)))) .nil))) (.int 1))) .nil))) .nil))) (.cons (.ret (.call "_law_ranges" (.cons false (.var 1) .nil))) .nil))
def b_l_is_set : ISs := .cons (.iff (.not (.isi .tuple (.var 0))) (.cons (.ret (.bl false)) .nil) .nil) (.cons (.forr (.nm 2) (.e (.var 0)) (.cons (.iff (.or (.not (.isi .tuple (.var 2))) (.or (.cmp .ne (.bi .len (.cons false (.var 2) .nil)) (.int 2)) (.not (.bi .all (.cons false (.lc (.call "_law_is_int" (.cons false (.var 1) (.cons false (.int 0) (.cons false (.int 255) .nil)))) (.nm 1) (.e (.var 2)) .nil [1]) .nil))))) (.cons (.ret (.bl false)) .nil) .nil) (.cons (.iff (.cmp .gt (.ix (.var 2) (.int 0)) (.ix (.var 2) (.int 1))) (.cons (.ret (.bl false)) .nil) .nil) .nil))) (.cons (.ret (.not (.bi .any (.cons false (.lc (.cmp .gt (.bin .add (.ix (.var 2) (.int 1)) (.int 2)) (.ix (.var 3) (.int 0))) (.tp [2, 3]) (.e (.lzip (.var 0) (.slc (.var 0) (.some (.int 1)) .none))) .nil [2, 3]) .nil)))) .nil))
def b_l_are_refused : ISs := .cons (.asg (.nm 5) (.lst (.cons false .non (.cons false (.tup (.cons false (.tup (.cons false (.int 1) (.cons false (.int 0) .nil))) .nil)) (.cons false (.tup (.cons false (.tup (.cons false (.int 0) (.cons false (.int 256) .nil))) .nil)) (.cons false (.tup (.cons false (.tup (.cons false (.int 0) (.cons false (.int 1) .nil))) (.cons false (.tup (.cons false (.int 2) (.cons false (.int 3) .nil))) .nil))) (.cons false (.lst (.cons false (.tup (.cons false (.int 0) (.cons false (.int 1) .nil))) .nil)) (.cons false (.tup (.cons false (.tup (.cons false (.int 0) .nil)) .nil)) (.cons false (.tup (.cons false (.tup (.cons false (.bl true) (.cons false (.int 1) .nil))) .nil)) (.cons false (.tup (.cons false (.tup (.cons false (.int 5) (.cons false (.int 6) .nil))) (.cons false (.tup (.cons false (.int 0) (.cons false (.int 1) .nil))) .nil))) .nil)))))))))) (.cons (.asg (.nm 5) (.call "_law_of" (.cons false (.var 0) (.cons false (.var 5) .nil)))) (.cons (.forr (.nm 6) (.e (.tup (.cons false (.con (.fn "numbers")) (.cons false (.con (.fn "others")) .nil)))) (.cons (.asg (.nm 2) (.ix (.heard "FormatError" (.callV 6 (.cons false (.var 5) .nil))) (.int 0))) (.cons (.iff (.or (.not (.isi (.cls "BadSet") (.var 2))) (.cmp .ne (.bi .repr (.cons false (.fld (.var 2)) .nil)) (.bi .repr (.cons false (.var 5) .nil)))) (.cons (.ret (.bl false)) .nil) .nil) .nil))) (.cons (.forr (.nm 6) (.e (.tup (.cons false (.con (.fn "either")) (.cons false (.con (.fn "both")) (.cons false (.con (.fn "without")) .nil))))) (.cons (.asg (.nm 2) (.ix (.heard "FormatError" (.callV 6 (.cons false (.var 5) (.cons false (.int 7) .nil)))) (.int 0))) (.cons (.asg (.nm 3) (.ix (.heard "FormatError" (.callV 6 (.cons false (.var 1) (.cons false (.var 5) .nil)))) (.int 0))) (.cons (.iff (.or (.not (.isi (.cls "BadSet") (.var 2))) (.not (.isi (.cls "BadSet") (.var 3)))) (.cons (.ret (.bl false)) .nil) .nil) (.cons (.iff (.cmp .ne (.bi .repr (.cons false (.tup (.cons false (.fld (.var 2)) (.cons false (.fld (.var 3)) .nil))) .nil)) (.bi .repr (.cons false (.tup (.cons false (.var 5) (.cons false (.var 5) .nil))) .nil))) (.cons (.ret (.bl false)) .nil) .nil) .nil))))) (.cons (.forr (.tp [7, 4]) (.e (.tup (.cons false (.tup (.cons false (.lst (.cons false (.var 1) .nil)) (.cons false (.lst (.cons false (.var 1) .nil)) .nil))) (.cons false (.tup (.cons false (.tup (.cons false (.var 1) (.cons false (.var 5) .nil))) (.cons false (.var 5) .nil))) (.cons false (.tup (.cons false (.bin .mul (.tup (.cons false (.var 1) .nil)) (.int 301)) (.cons false (.bin .mul (.tup (.cons false (.var 1) .nil)) (.int 301)) .nil))) .nil))))) (.cons (.asg (.nm 2) (.ix (.heard "FormatError" (.call "classes" (.cons false (.var 7) .nil))) (.int 0))) (.cons (.iff (.or (.not (.isi (.cls "BadSet") (.var 2))) (.cmp .ne (.bi .repr (.cons false (.fld (.var 2)) .nil)) (.bi .repr (.cons false (.var 4) .nil)))) (.cons (.ret (.bl false)) .nil) .nil) .nil))) (.cons (.ret (.cmp .eq (.call "classes" (.cons false (.bin .mul (.tup (.cons false (.var 1) .nil)) (.int 300)) .nil)) (.call "classes" (.cons false (.tup (.cons false (.var 1) .nil)) .nil)))) .nil)))))
def b_l_right : ISs := .cons (.asg (.nm 8) (.bi .tuple (.cons false (.lc (.call "_law_drawn" (.cons false (.var 0) .nil)) (.nm 1) (.rng (.int 0) (.bin .add (.int 1) (.call "_law_take" (.cons false (.var 0) (.cons false (.int 6) .nil))))) .nil [1]) .nil))) (.cons (.asg (.tp [9, 10]) (.tup (.cons false (.ix (.var 8) (.int 0)) (.cons false (.call "_law_of" (.cons false (.var 0) (.cons false (.bi .list (.cons false (.var 8) .nil)) .nil))) .nil)))) (.cons (.asg (.tp [11, 12]) (.tup (.cons false (.call "_law_bytes" (.cons false (.var 9) .nil)) (.cons false (.call "_law_bytes" (.cons false (.var 10) .nil)) .nil)))) (.cons (.asg (.nm 13) (.lst (.cons false (.var 9) (.cons false (.var 10) (.cons false (.bi .list (.cons false (.var 9) .nil)) (.cons false (.rev (.var 9)) (.cons false (.bin .add (.var 9) (.tup (.cons false (.tup (.cons false (.int 255) (.cons false (.int 255) .nil))) .nil))) (.cons false (.bin .add (.var 9) (.var 10)) (.cons false (.tup .nil) (.cons false .non (.cons false (.call "_law_odd" (.cons false (.var 0) .nil)) .nil))))))))))) (.cons (.forr (.nm 14) (.e (.bin .add (.var 13) (.lc (.call "_law_bent" (.cons false (.var 0) (.cons false (.var 9) .nil))) (.nm 1) (.rng (.int 0) (.int 8)) .nil [1]))) (.cons (.iff (.cmp .ne (.bi .repr (.cons false (.call "is_set" (.cons false (.var 14) .nil)) .nil)) (.bi .repr (.cons false (.call "_law_is_set" (.cons false (.var 14) .nil)) .nil))) (.cons (.ret (.bl false)) .nil) .nil) .nil)) (.cons (.iff (.cmp .ne (.bi .repr (.cons false (.call "numbers" (.cons false (.var 9) .nil)) .nil)) (.bi .repr (.cons false (.bi .tuple (.cons false (.var 11) .nil)) .nil))) (.cons (.ret (.bl false)) .nil) .nil) (.cons (.iff (.cmp .ne (.bi .repr (.cons false (.call "others" (.cons false (.var 9) .nil)) .nil)) (.bi .repr (.cons false (.call "_law_ranges" (.cons false (.lc (.var 2) (.nm 2) (.rng (.int 0) (.int 256)) (.cons false (.cmp .notin (.var 2) (.var 11)) .nil) [2]) .nil)) .nil))) (.cons (.ret (.bl false)) .nil) .nil) (.cons (.iff (.cmp .ne (.bi .repr (.cons false (.call "either" (.cons false (.var 9) (.cons false (.var 10) .nil))) .nil)) (.bi .repr (.cons false (.call "_law_ranges" (.cons false (.bin .add (.var 11) (.var 12)) .nil)) .nil))) (.cons (.ret (.bl false)) .nil) .nil) (.cons (.iff (.cmp .ne (.bi .repr (.cons false (.call "both" (.cons false (.var 9) (.cons false (.var 10) .nil))) .nil)) (.bi .repr (.cons false (.call "_law_ranges" (.cons false (.lc (.var 2) (.nm 2) (.e (.var 11)) (.cons false (.cmp .isin (.var 2) (.var 12)) .nil) [2]) .nil)) .nil))) (.cons (.ret (.bl false)) .nil) .nil) (.cons (.iff (.cmp .ne (.bi .repr (.cons false (.call "without" (.cons false (.var 9) (.cons false (.var 10) .nil))) .nil)) (.bi .repr (.cons false (.call "_law_ranges" (.cons false (.lc (.var 2) (.nm 2) (.e (.var 11)) (.cons false (.cmp .notin (.var 2) (.var 12)) .nil) [2]) .nil)) .nil))) (.cons (.ret (.bl false)) .nil) .nil) (.cons (.par [15, 16] (.cons false (.lc (.call "_law_bytes" (.cons false (.var 3) .nil)) (.nm 3) (.e (.var 8)) .nil [3]) (.cons false (.lst .nil) .nil))) (.cons (.forr (.nm 2) (.rng (.int 0) (.int 256)) (.cons (.asg (.nm 7) (.lc (.cmp .isin (.var 2) (.var 4)) (.nm 4) (.e (.var 15)) .nil [4])) (.cons (.iff (.and (.cmp .ne (.var 16) (.lst .nil)) (.cmp .eq (.ix (.ix (.var 16) (.neg (.int 1))) (.int 2)) (.var 7))) (.cons (.setIx (.var 16) (.neg (.int 1)) (.tup (.cons false (.ix (.ix (.var 16) (.neg (.int 1))) (.int 0)) (.cons false (.var 2) (.cons false (.var 7) .nil))))) .nil) (.cons (.expr (.meth .append (.var 16) (.cons false (.tup (.cons false (.var 2) (.cons false (.var 2) (.cons false (.var 7) .nil)))) .nil))) .nil)) .nil))) (.cons (.iff (.cmp .ne (.bi .repr (.cons false (.call "classes" (.cons false (.var 8) .nil)) .nil)) (.bi .repr (.cons false (.bi .tuple (.cons false (.lc (.tup (.cons false (.var 5) (.cons false (.var 6) .nil))) (.tp [5, 6, 7]) (.e (.var 16)) .nil [5, 6, 7]) .nil)) .nil))) (.cons (.ret (.bl false)) .nil) .nil) (.cons (.ret (.call "_law_are_refused" (.cons false (.var 0) (.cons false (.var 9) .nil)))) .nil)))))))))))))
def b_law : ISs := .cons (.iff (.or (.cmp .ne (.call "classes" (.cons false (.tup .nil) .nil)) (.tup (.cons false (.tup (.cons false (.int 0) (.cons false (.int 255) .nil))) .nil))) (.or (.cmp .ne (.call "others" (.cons false (.tup .nil) .nil)) (.tup (.cons false (.tup (.cons false (.int 0) (.cons false (.int 255) .nil))) .nil))) (.cmp .ne (.call "others" (.cons false (.tup (.cons false (.tup (.cons false (.int 0) (.cons false (.int 255) .nil))) .nil)) .nil)) (.tup .nil)))) (.cons (.ret (.bl false)) .nil) .nil) (.cons (.forr (.nm 2) (.e (.call "_law_places" (.cons false (.var 0) (.cons false (.int 4) .nil)))) (.cons (.asg (.nm 3) (.call "_law_pot" (.cons false (.var 0) (.cons false (.var 2) .nil)))) (.cons (.iff (.not (.bi .all (.cons false (.lc (.call "_law_right" (.cons false (.var 3) .nil)) (.nm 1) (.rng (.int 0) (.int 2)) .nil [1]) .nil))) (.cons (.ret (.bl false)) .nil) .nil) .nil))) (.cons (.ret (.bl true)) .nil))
def c_is_tuple : CD law := ⟨r_is_tuple, b_is_tuple, by kernel_rfl, ⟨by kernel_rfl, by kernel_rfl, by kernel_rfl, by decide +kernel, by decide +kernel, by decide +kernel, by decide +kernel⟩, fun _ _ _ _ _ _ _ _ _ _ us hl => match us, hl with | [_, _, _], _ => rfl, by decide +kernel⟩
def c_is_whole : CD law := ⟨r_is_whole, b_is_whole, by kernel_rfl, ⟨by kernel_rfl, by kernel_rfl, by kernel_rfl, by decide +kernel, by decide +kernel, by decide +kernel, by decide +kernel⟩, fun _ _ _ _ _ _ _ _ _ _ us hl => match us, hl with | [_], _ => rfl, by decide +kernel⟩
def c_is_integer : CD law := ⟨r_is_integer, b_is_integer, by kernel_rfl, ⟨by kernel_rfl, by kernel_rfl, by kernel_rfl, by decide +kernel, by decide +kernel, by decide +kernel, by decide +kernel⟩, fun _ _ _ _ _ _ _ _ _ _ us hl => match us, hl with | [_, _, _], _ => rfl, by decide +kernel⟩
def c_is_set : CD law := ⟨r_is_set, b_is_set, by kernel_rfl, ⟨by kernel_rfl, by kernel_rfl, by kernel_rfl, by decide +kernel, by decide +kernel, by decide +kernel, by decide +kernel⟩, fun _ _ _ _ _ _ _ _ _ _ us hl => match us, hl with | [_], _ => rfl, by decide +kernel⟩
def c_check_set : CD law := ⟨r_check_set, b_check_set, by kernel_rfl, ⟨by kernel_rfl, by kernel_rfl, by kernel_rfl, by decide +kernel, by decide +kernel, by decide +kernel, by decide +kernel⟩, fun _ _ _ _ _ _ _ _ _ _ us hl => match us, hl with | [_], _ => rfl, by decide +kernel⟩
def c_has : CD law := ⟨r_has, b_has, by kernel_rfl, ⟨by kernel_rfl, by kernel_rfl, by kernel_rfl, by decide +kernel, by decide +kernel, by decide +kernel, by decide +kernel⟩, fun _ _ _ _ _ _ _ _ _ _ us hl => match us, hl with | [_, _], _ => rfl, by decide +kernel⟩
def c_numbers : CD law := ⟨r_numbers, b_numbers, by kernel_rfl, ⟨by kernel_rfl, by kernel_rfl, by kernel_rfl, by decide +kernel, by decide +kernel, by decide +kernel, by decide +kernel⟩, fun _ _ _ _ _ _ _ _ _ _ us hl => match us, hl with | [_], _ => rfl, by decide +kernel⟩
def c_merged : CD law := ⟨r_merged, b_merged, by kernel_rfl, ⟨by kernel_rfl, by kernel_rfl, by kernel_rfl, by decide +kernel, by decide +kernel, by decide +kernel, by decide +kernel⟩, fun _ _ _ _ _ _ _ _ _ _ us hl => match us, hl with | [_], _ => rfl, by decide +kernel⟩
def c_met : CD law := ⟨r_met, b_met, by kernel_rfl, ⟨by kernel_rfl, by kernel_rfl, by kernel_rfl, by decide +kernel, by decide +kernel, by decide +kernel, by decide +kernel⟩, fun _ _ _ _ _ _ _ _ _ _ us hl => match us, hl with | [_, _], _ => rfl, by decide +kernel⟩
def c_rest_of : CD law := ⟨r_rest_of, b_rest_of, by kernel_rfl, ⟨by kernel_rfl, by kernel_rfl, by kernel_rfl, by decide +kernel, by decide +kernel, by decide +kernel, by decide +kernel⟩, fun _ _ _ _ _ _ _ _ _ _ us hl => match us, hl with | [_], _ => rfl, by decide +kernel⟩
def c_either : CD law := ⟨r_either, b_either, by kernel_rfl, ⟨by kernel_rfl, by kernel_rfl, by kernel_rfl, by decide +kernel, by decide +kernel, by decide +kernel, by decide +kernel⟩, fun _ _ _ _ _ _ _ _ _ _ us hl => match us, hl with | [_, _], _ => rfl, by decide +kernel⟩
def c_both : CD law := ⟨r_both, b_both, by kernel_rfl, ⟨by kernel_rfl, by kernel_rfl, by kernel_rfl, by decide +kernel, by decide +kernel, by decide +kernel, by decide +kernel⟩, fun _ _ _ _ _ _ _ _ _ _ us hl => match us, hl with | [_, _], _ => rfl, by decide +kernel⟩
def c_others : CD law := ⟨r_others, b_others, by kernel_rfl, ⟨by kernel_rfl, by kernel_rfl, by kernel_rfl, by decide +kernel, by decide +kernel, by decide +kernel, by decide +kernel⟩, fun _ _ _ _ _ _ _ _ _ _ us hl => match us, hl with | [_], _ => rfl, by decide +kernel⟩
def c_without : CD law := ⟨r_without, b_without, by kernel_rfl, ⟨by kernel_rfl, by kernel_rfl, by kernel_rfl, by decide +kernel, by decide +kernel, by decide +kernel, by decide +kernel⟩, fun _ _ _ _ _ _ _ _ _ _ us hl => match us, hl with | [_, _], _ => rfl, by decide +kernel⟩
def c_begins_of : CD law := ⟨r_begins_of, b_begins_of, by kernel_rfl, ⟨by kernel_rfl, by kernel_rfl, by kernel_rfl, by decide +kernel, by decide +kernel, by decide +kernel, by decide +kernel⟩, fun _ _ _ _ _ _ _ _ _ _ us hl => match us, hl with | [_], _ => rfl, by decide +kernel⟩
def c_classes : CD law := ⟨r_classes, b_classes, by kernel_rfl, ⟨by kernel_rfl, by kernel_rfl, by kernel_rfl, by decide +kernel, by decide +kernel, by decide +kernel, by decide +kernel⟩, fun _ _ _ _ _ _ _ _ _ _ us hl => match us, hl with | [_], _ => rfl, by decide +kernel⟩
def c_l_pot : CD law := ⟨r_l_pot, b_l_pot, by kernel_rfl, ⟨by kernel_rfl, by kernel_rfl, by kernel_rfl, by decide +kernel, by decide +kernel, by decide +kernel, by decide +kernel⟩, fun _ _ _ _ _ _ _ _ _ _ us hl => match us, hl with | [_, _], _ => rfl, by decide +kernel⟩
def c_l_take : CD law := ⟨r_l_take, b_l_take, by kernel_rfl, ⟨by kernel_rfl, by kernel_rfl, by kernel_rfl, by decide +kernel, by decide +kernel, by decide +kernel, by decide +kernel⟩, fun _ _ _ _ _ _ _ _ _ _ us hl => match us, hl with | [_, _], _ => rfl, by decide +kernel⟩
def c_l_of : CD law := ⟨r_l_of, b_l_of, by kernel_rfl, ⟨by kernel_rfl, by kernel_rfl, by kernel_rfl, by decide +kernel, by decide +kernel, by decide +kernel, by decide +kernel⟩, fun _ _ _ _ _ _ _ _ _ _ us hl => match us, hl with | [_, _], _ => rfl, by decide +kernel⟩
def c_l_places : CD law := ⟨r_l_places, b_l_places, by kernel_rfl, ⟨by kernel_rfl, by kernel_rfl, by kernel_rfl, by decide +kernel, by decide +kernel, by decide +kernel, by decide +kernel⟩, fun _ _ _ _ _ _ _ _ _ _ us hl => match us, hl with | [_, _], _ => rfl, by decide +kernel⟩
def c_l_odd : CD law := ⟨r_l_odd, b_l_odd, by kernel_rfl, ⟨by kernel_rfl, by kernel_rfl, by kernel_rfl, by decide +kernel, by decide +kernel, by decide +kernel, by decide +kernel⟩, fun _ _ _ _ _ _ _ _ _ _ us hl => match us, hl with | [_], _ => rfl, by decide +kernel⟩
def c_l_is_int : CD law := ⟨r_l_is_int, b_l_is_int, by kernel_rfl, ⟨by kernel_rfl, by kernel_rfl, by kernel_rfl, by decide +kernel, by decide +kernel, by decide +kernel, by decide +kernel⟩, fun _ _ _ _ _ _ _ _ _ _ us hl => match us, hl with | [_, _, _], _ => rfl, by decide +kernel⟩
def c_l_bent : CD law := ⟨r_l_bent, b_l_bent, by kernel_rfl, ⟨by kernel_rfl, by kernel_rfl, by kernel_rfl, by decide +kernel, by decide +kernel, by decide +kernel, by decide +kernel⟩, fun _ _ _ _ _ _ _ _ _ _ us hl => match us, hl with | [_, _], _ => rfl, by decide +kernel⟩
def c_l_ranges : CD law := ⟨r_l_ranges, b_l_ranges, by kernel_rfl, ⟨by kernel_rfl, by kernel_rfl, by kernel_rfl, by decide +kernel, by decide +kernel, by decide +kernel, by decide +kernel⟩, fun _ _ _ _ _ _ _ _ _ _ us hl => match us, hl with | [_], _ => rfl, by decide +kernel⟩
def c_l_bytes : CD law := ⟨r_l_bytes, b_l_bytes, by kernel_rfl, ⟨by kernel_rfl, by kernel_rfl, by kernel_rfl, by decide +kernel, by decide +kernel, by decide +kernel, by decide +kernel⟩, fun _ _ _ _ _ _ _ _ _ _ us hl => match us, hl with | [_], _ => rfl, by decide +kernel⟩
def c_l_drawn : CD law := ⟨r_l_drawn, b_l_drawn, by kernel_rfl, ⟨by kernel_rfl, by kernel_rfl, by kernel_rfl, by decide +kernel, by decide +kernel, by decide +kernel, by decide +kernel⟩, fun _ _ _ _ _ _ _ _ _ _ us hl => match us, hl with | [_], _ => rfl, by decide +kernel⟩
def c_l_is_set : CD law := ⟨r_l_is_set, b_l_is_set, by kernel_rfl, ⟨by kernel_rfl, by kernel_rfl, by kernel_rfl, by decide +kernel, by decide +kernel, by decide +kernel, by decide +kernel⟩, fun _ _ _ _ _ _ _ _ _ _ us hl => match us, hl with | [_], _ => rfl, by decide +kernel⟩
def c_l_are_refused : CD law := ⟨r_l_are_refused, b_l_are_refused, by kernel_rfl, ⟨by kernel_rfl, by kernel_rfl, by kernel_rfl, by decide +kernel, by decide +kernel, by decide +kernel, by decide +kernel⟩, fun _ _ _ _ _ _ _ _ _ _ us hl => match us, hl with | [_, _], _ => rfl, by decide +kernel⟩
def c_l_right : CD law := ⟨r_l_right, b_l_right, by kernel_rfl, ⟨by kernel_rfl, by kernel_rfl, by kernel_rfl, by decide +kernel, by decide +kernel, by decide +kernel, by decide +kernel⟩, fun _ _ _ _ _ _ _ _ _ _ us hl => match us, hl with | [_], _ => rfl, by decide +kernel⟩
def c_law : CD law := ⟨r_law, b_law, by kernel_rfl, ⟨by kernel_rfl, by kernel_rfl, by kernel_rfl, by decide +kernel, by decide +kernel, by decide +kernel, by decide +kernel⟩, fun _ _ _ _ _ _ _ _ _ _ us hl => match us, hl with | [_], _ => rfl, by decide +kernel⟩
def cds : List (CD law) := [c_is_tuple, c_is_whole, c_is_integer, c_is_set, c_check_set, c_has, c_numbers, c_merged, c_met, c_rest_of, c_either, c_both, c_others, c_without, c_begins_of, c_classes, c_l_pot, c_l_take, c_l_of, c_l_places, c_l_odd, c_l_is_int, c_l_bent, c_l_ranges, c_l_bytes, c_l_drawn, c_l_is_set, c_l_are_refused, c_l_right, c_law]
end K01
end
section
set_option Elab.async false
set_option linter.all false
set_option maxRecDepth 100000
set_option maxHeartbeats 4000000
open PySem PySem.Spec PyProof.Rows L2 PyI
namespace K01
abbrev R : PySem.W.OpenRow := PySem.W.OpenLaw.row PySem.Challenge.rw_neverbeyond_k01_whole_sets_of_bytes
abbrev hk : PySem.W.Hook := He.hookX 4 law.fa law.fn [] law.tf law.ex
def ob (s : PySem.W.SharedT) : He.AlX := He.obsX 4 law.fa law.fn [] law.tf law.ex (HandSHeadRun.getT s)
theorem ob_eq (s : PySem.W.SharedT) : ob s = hk.obs s.abs := He.obsX_eq (HandSHeadRun.getT_eq s)
def loose0 : List Str := [("is_tuple" : Str), ("is_whole" : Str), ("is_integer" : Str), ("FormatError" : Str), ("BadSet" : Str), ("MOST_BYTE" : Str), ("MOST_SETS" : Str), ("PAIR" : Str), ("is_set" : Str), ("check_set" : Str), ("has" : Str), ("numbers" : Str)]
def loose1 : List Str := [("merged" : Str), ("met" : Str), ("rest_of" : Str), ("either" : Str), ("both" : Str), ("others" : Str), ("without" : Str), ("begins_of" : Str), ("classes" : Str), ("_law_pot" : Str), ("_law_take" : Str), ("_law_of" : Str)]
def loose2 : List Str := [("_law_places" : Str), ("_law_heard" : Str), ("_law_odd" : Str), ("_law_is_int" : Str), ("_law_bent" : Str), ("_law_ranges" : Str), ("_law_bytes" : Str), ("_law_drawn" : Str), ("_law_is_set" : Str), ("_law_are_refused" : Str), ("_law_right" : Str)]
def loose : List Str := loose0 ++ loose1 ++ loose2
theorem run (w : World) : HandSHeadRun.RunEq R (PySem.W.view R.prog [39]) hk ob 4000 loose w := by
  intro os
  kernel_rfl
end K01
end
section
set_option Elab.async false
set_option linter.all false
set_option maxRecDepth 100000
set_option maxHeartbeats 4000000
open PySem PySem.Spec PyProof.Rows L2 PyI
namespace K01
theorem initS : InitS law.init := ⟨⟨"self", "value", _, _, _, _, _, _, _, _, _, _, rfl, ⟨rfl, rfl, rfl, by decide +kernel, rfl, by decide +kernel, by decide +kernel⟩, rfl, rfl, rfl, by decide +kernel, fun _ => ⟨_, by rfl⟩, fun _ => by rfl, fun _ => by rfl, fun _ _ _ _ _ _ _ _ _ _ us hl => match us, hl with | [_, _], _ => rfl⟩⟩
theorem hearS : HearS law.hx (law.top law.iH) := ⟨⟨"caught", "back", "call", "error", _, _, _, _, _, _, _, _, _, _, _, _, _, _, _, _, _, _, _, _, _, _, _, _, _, _, rfl, ⟨rfl, rfl, rfl, by decide +kernel, rfl, by decide +kernel, by decide +kernel⟩, rfl, rfl, rfl, rfl, rfl, by decide +kernel, fun _ _ _ _ _ _ _ _ _ _ us hl => match us, hl with | [_], _ => rfl⟩⟩
theorem mem : ∀ z ∈ cds, z.r ∈ law.defs := by
  intro z hz
  have e : law.defs = cds.map CD.r := rfl
  rw [e]
  exact List.mem_map_of_mem hz
abbrev P0 : Prog := law.prog cds
end K01
open PySem PySem.W PySem.Calls PyProof.Rows
theorem K01.fin (pure : ∀ ks : List Int, ks.length ≤ 63 → (∀ z ∈ ks, Builtin.Int.intBits z ≤ 1048576) → ∃ st, callN K01.P0 30 "law" [.ref 0] [.lst false (ks.map .int)] = .ok (.bl true) st) : PySem.Challenge.rw_neverbeyond_k01_whole_sets_of_bytes.Holds := by
  w_on; o_law
  refine HandSHeadRun.head_any (r := OpenLaw.row PySem.Challenge.rw_neverbeyond_k01_whole_sets_of_bytes) (q := view (OpenLaw.row PySem.Challenge.rw_neverbeyond_k01_whole_sets_of_bytes).prog [39]) (H := K01.hk) (ob := K01.ob) (M := 4000) (loose := K01.loose) (d := HandSHeadRun.topDef (OpenLaw.row PySem.Challenge.rw_neverbeyond_k01_whole_sets_of_bytes).prog 39) (kwd := []) K01.ob_eq
    (by kernel_rfl) (fun s => by kernel_rfl) K01.run (by kernel_rfl) (by kernel_rfl) (by kernel_rfl) (by rfl) (by first | assumption | decide +kernel) (by decide +kernel) ⟨rfl, rfl, rfl, rfl, rfl, by decide +kernel⟩ ?hw ?hc
  case hw => w_witness2
  case hc => exact LR.walk (l := PySem.Challenge.rw_neverbeyond_k01_whole_sets_of_bytes) (n := 63) (m := 30) K01.law K01.cds K01.mem K01.initS K01.hearS rfl (by decide) (by kernel_rfl) ⟨rfl, by decide, by decide⟩ (by kernel_rfl) pure
end
section
/-! PyI4a: what is wanted of a run of the interpreter. -/
set_option autoImplicit false
set_option linter.all false
set_option maxRecDepth 100000
set_option maxHeartbeats 4000000
namespace PyI
open PySem
/-- an equation that is not to be unfolded -/
theorem nr {α : Sort _} {a b : α} (h : a = b) : a = b := h
/-- Q of what is given, E of what is raised -/
def W {α : Type} (r : Res α) (Q : α → Sto → Prop) (E : Str → D → Sto → Prop) : Prop :=
  match r with
  | .ok a st => Q a st
  | .err c v st => E c v st
  | .stuck => False
def NE : Str → D → Sto → Prop := fun _ _ _ => False
/-- Q of what is there -/
def oQ {α : Type} (o : Option α) (Q : α → Prop) : Prop :=
  match o with
  | some a => Q a
  | none => False
theorem oQ_some {α : Type} {a : α} {Q : α → Prop} : oQ (some a) Q = Q a := nr rfl
theorem oQ_none {α : Type} {Q : α → Prop} : oQ none Q = False := nr rfl
theorem oQ_map {α β : Type} {o : Option α} {f : α → β} {Q : β → Prop} : oQ (o.map f) Q = oQ o (fun a => Q (f a)) := by cases o <;> rfl
section
variable {α β : Type} {r : Res α} {f : α → Sto → Res β} {Q Q' : α → Sto → Prop} {R : β → Sto → Prop} {E E' : Str → D → Sto → Prop} {a : α} {st : Sto}
theorem w_bind : W (r.bind f) R E = W r (fun a st => W (f a st) R E) E := by cases r <;> rfl
theorem w_ok : W (.ok a st) Q E = Q a st := nr rfl
theorem w_err {c : Str} {v : D} : W (.err c v st : Res α) Q E = E c v st := nr rfl
theorem w_stuck : W (.stuck : Res α) Q E = False := nr rfl
theorem w_opt {o : Option (α × Sto)} : W (.opt o) Q E = oQ (o) fun p => Q p.1 p.2 := by cases o <;> rfl
theorem w_opt0 {o : Option α} : W (.opt0 o st) Q E = oQ (o) fun a => Q a st := by cases o <;> rfl
theorem W.mono (h : W r Q E) (hq : ∀ a st, Q a st → Q' a st) (he : ∀ c v st, E c v st → E' c v st) : W r Q' E' := by
  cases r with
  | ok a st => exact hq _ _ h
  | err c v st => exact he _ _ _ h
  | stuck => exact h
theorem W.imp (h : W r Q E) (hq : ∀ a st, Q a st → Q' a st) : W r Q' E := h.mono hq fun _ _ _ z => z
/-- no exception: any E -/
theorem W.ne (h : W r Q NE) (hq : ∀ a st, Q a st → Q' a st) : W r Q' E := h.mono hq fun _ _ _ z => False.elim z
theorem w_noErr (h : W r Q NE) : W (noErr r) Q E := by
  cases r with
  | ok a st => exact h
  | err c v st => exact h
  | stuck => exact h
theorem W.ok (h : W r Q NE) : ∃ a st, r = .ok a st ∧ Q a st := by
  cases r with
  | ok a st => exact ⟨a, st, rfl, h⟩
  | err c v st => exact False.elim h
  | stuck => exact False.elim h
end
/-! ### the terms -/
section
variable {P : Prog} {C : Str → List D → Sto → Res D} {env : Env} {st : Sto} {Q : D → Sto → Prop} {QT : Bool → Sto → Prop} {QL : List D → Sto → Prop} {QF : Flow → Sto → Prop} {QO : Option Int → Sto → Prop} {QI : Itr → Sto → Prop} {E : Str → D → Sto → Prop} {a b c o i e : IE} {es : IEs} {r : IEs} {x : Str}
theorem w_non : W (evE P C .non env st) Q E = Q .non st := nr rfl
theorem w_bl {b : Bool} : W (evE P C (.bl b) env st) Q E = Q (.bl b) st := nr rfl
theorem w_int {i : Int} : W (evE P C (.int i) env st) Q E = Q (.int i) st := nr rfl
theorem w_str : W (evE P C (.str x) env st) Q E = Q (.str x) st := nr rfl
theorem w_con {d : D} : W (evE P C (.con d) env st) Q E = Q d st := nr rfl
theorem w_var {i : Nat} : W (evE P C (.var i) env st) Q E = match env[i]? with
  | some (some d) => Q d st
  | _ => False := by
  show W (match env[i]? with
    | some (some d) => .ok d st
    | _ => .stuck) Q E = _
  cases env[i]? with
  | none => rfl
  | some o => cases o <;> rfl
theorem w_tup : W (evE P C (.tup es) env st) Q E = W (evEs P C es env st) (fun ds st => if ds.length ≤ LIM then Q (.tup ds) st else False) E := by
  show W ((evEs P C es env st).bind _) Q E = _
  rw [w_bind]
  congr 1
  funext ds st
  split <;> rfl
theorem w_lst : W (evE P C (.lst es) env st) Q E = W (evEs P C es env st) (fun ds st => if ds.length ≤ LIM then Q (.ref st.length) (st ++ [.lst true ds]) else False) E := by
  show W ((evEs P C es env st).bind _) Q E = _
  rw [w_bind]
  congr 1
  funext ds st
  split <;> rfl
theorem w_bin {op : BOp} : W (evE P C (.bin op a b) env st) Q E = W (evE P C a env st) (fun x st => W (evE P C b env st) (fun y st => oQ (opB op x y st) fun p => Q p.1 p.2) E) E := by
  show W ((evE P C a env st).bind fun x st => (evE P C b env st).bind fun y st => .opt (opB op x y st)) Q E = _
  simp only [w_bind, w_opt]
theorem w_neg : W (evE P C (.neg a) env st) Q E = W (evE P C a env st) (fun x st => match x with
  | .int i => Q (.int (-i)) st
  | _ => False) E := by
  show W ((evE P C a env st).bind _) Q E = _
  rw [w_bind]
  congr 1
  funext x st
  cases x <;> rfl
theorem w_not : W (evE P C (.not a) env st) Q E = W (evE P C a env st) (fun x st => oQ (truth x st) fun b => Q (.bl (!b)) st) E := by
  show W ((evE P C a env st).bind _) Q E = _
  rw [w_bind]
  congr 1
  funext x st
  rw [w_opt0]
  cases truth x st <;> rfl
theorem w_and : W (evE P C (.and a b) env st) Q E = W (evE P C a env st) (fun x st => match x with
  | .bl true => W (evE P C b env st) Q E
  | .bl false => Q (.bl false) st
  | _ => False) E := by
  show W ((evE P C a env st).bind _) Q E = _
  rw [w_bind]
  congr 1
  funext x st
  cases x with
  | bl b => cases b <;> rfl
  | _ => rfl
theorem w_or : W (evE P C (.or a b) env st) Q E = W (evE P C a env st) (fun x st => match x with
  | .bl true => Q (.bl true) st
  | .bl false => W (evE P C b env st) Q E
  | _ => False) E := by
  show W ((evE P C a env st).bind _) Q E = _
  rw [w_bind]
  congr 1
  funext x st
  cases x with
  | bl b => cases b <;> rfl
  | _ => rfl
theorem w_cmp {op : COp} : W (evE P C (.cmp op a b) env st) Q E = W (evE P C a env st) (fun x st => W (evE P C b env st) (fun y st => oQ (cmpB op x y st) fun b => Q (.bl b) st) E) E := by
  show W ((evE P C a env st).bind fun x st => (evE P C b env st).bind fun y st => .opt0 ((cmpB op x y st).map D.bl) st) Q E = _
  simp only [w_bind, w_opt0]
  congr 1
  funext x st
  congr 1
  funext y st
  cases cmpB op x y st <;> rfl
theorem w_chain {op op' : COp} : W (evE P C (.chain op op' a b c) env st) Q E = W (evE P C a env st) (fun x st => W (evE P C b env st) (fun y st => match cmpB op x y st with
  | none => False
  | some false => Q (.bl false) st
  | some true => W (evE P C c env st) (fun z st => oQ (cmpB op' y z st) fun b => Q (.bl b) st) E) E) E := by
  show W ((evE P C a env st).bind fun x st => (evE P C b env st).bind fun y st => match cmpB op x y st with
      | none => .stuck
      | some false => .ok (.bl false) st
      | some true => (evE P C c env st).bind fun z st => .opt0 ((cmpB op' y z st).map D.bl) st) Q E = _
  simp only [w_bind]
  congr 1
  funext x st
  congr 1
  funext y st
  cases cmpB op x y st with
  | none => rfl
  | some t =>
    cases t with
    | false => rfl
    | true =>
      show W ((evE P C c env st).bind fun z st => .opt0 ((cmpB op' y z st).map D.bl) st) Q E = _
      simp only [w_bind, w_opt0]
      congr 1
      funext z st
      cases cmpB op' y z st <;> rfl
theorem w_ite : W (evE P C (.ite c a b) env st) Q E = W (evT P C c env st) (fun t st => match t with
  | true => W (evE P C a env st) Q E
  | false => W (evE P C b env st) Q E) E := by
  show W ((evT P C c env st).bind _) Q E = _
  rw [w_bind]
  congr 1
  funext t st
  cases t <;> rfl
theorem w_call {f : Str} : W (evE P C (.call f es) env st) Q E = W (evEs P C es env st) (fun ds st => W (C f ds st) Q E) E := w_bind
theorem w_callV {i : Nat} : W (evE P C (.callV i es) env st) Q E = match env[i]? with
  | some (some (.fn f)) => W (evEs P C es env st) (fun ds st => W (C f ds st) Q E) E
  | _ => False := by
  show W (match env[i]? with
    | some (some (.fn f)) => (evEs P C es env st).bind fun ds st => C f ds st
    | _ => .stuck) Q E = _
  split
  · exact w_bind
  · rfl
theorem w_bi {k : BI} : W (evE P C (.bi k es) env st) Q E = W (evEs P C es env st) (fun ds st => oQ (evB k ds st) fun p => Q p.1 p.2) E := by
  show W ((evEs P C es env st).bind _) Q E = _
  simp only [w_bind, w_opt]
theorem w_isi {t : Ty} : W (evE P C (.isi t a) env st) Q E = W (evE P C a env st) (fun x st => oQ (isiB t P.sub x st) fun b => Q (.bl b) st) E := by
  show W ((evE P C a env st).bind _) Q E = _
  rw [w_bind]
  congr 1
  funext x st
  rw [w_opt0]
  cases isiB t P.sub x st <;> rfl
theorem w_meth {m : MT} : W (evE P C (.meth m o es) env st) Q E = W (evE P C o env st) (fun x st => if kindB x st = some m.name then W (evEs P C es env st) (fun ds st => oQ (methB m x ds st) fun p => Q p.1 p.2) E else False) E := by
  show W ((evE P C o env st).bind _) Q E = _
  rw [w_bind]
  congr 1
  funext x st
  split
  · simp only [w_bind, w_opt]
  · rfl
theorem w_ix : W (evE P C (.ix o i) env st) Q E = W (evE P C o env st) (fun x st => W (evE P C i env st) (fun y st => oQ (ixB x y st) fun d => Q d st) E) E := by
  show W ((evE P C o env st).bind fun x st => (evE P C i env st).bind fun y st => .opt0 (ixB x y st) st) Q E = _
  simp only [w_bind, w_opt0]
theorem w_slc {lo hi : PyI.IO} : W (evE P C (.slc o lo hi) env st) Q E = W (evE P C o env st) (fun x st => W (evO P C lo env st) (fun l st => W (evO P C hi env st) (fun h st => oQ (slcB x l h st) fun p => Q p.1 p.2) E) E) E := by
  show W ((evE P C o env st).bind fun x st => (evO P C lo env st).bind fun l st => (evO P C hi env st).bind fun h st => .opt (slcB x l h st)) Q E = _
  simp only [w_bind, w_opt]
theorem w_rev : W (evE P C (.rev o) env st) Q E = W (evE P C o env st) (fun x st => oQ (revB x st) fun p => Q p.1 p.2) E := by
  show W ((evE P C o env st).bind fun x st => .opt (revB x st)) Q E = _
  simp only [w_bind, w_opt]
theorem w_lrng : W (evE P C (.lrng a b) env st) Q E = W (evE P C a env st) (fun x st => W (evE P C b env st) (fun y st => match x, y with
  | .int i, .int j => if rngOk i j then Q (.ref st.length) (st ++ [.lst true (rngD i j)]) else False
  | _, _ => False) E) E := by
  show W ((evE P C a env st).bind fun x st => (evE P C b env st).bind fun y st => match x, y with
    | .int i, .int j => if rngOk i j then .opt (some (new (.lst true (rngD i j)) st)) else .stuck
    | _, _ => .stuck) Q E = _
  simp only [w_bind]
  congr 1
  funext x st
  congr 1
  funext y st
  cases x <;> cases y <;> first | rfl | (dsimp only; split <;> rfl)
theorem w_lzip : W (evE P C (.lzip a b) env st) Q E = W (evE P C a env st) (fun x st => W (evE P C b env st) (fun y st => match x, y with
  | .tup xs, .tup ys => Q (.ref st.length) (st ++ [.lst true (List.zipWith (fun x y => D.tup [x, y]) xs ys)])
  | _, _ => False) E) E := by
  show W ((evE P C a env st).bind fun x st => (evE P C b env st).bind fun y st => match x, y with
    | .tup xs, .tup ys => .opt (some (new (.lst true (List.zipWith (fun x y => D.tup [x, y]) xs ys)) st))
    | _, _ => .stuck) Q E = _
  simp only [w_bind]
  congr 1
  funext x st
  congr 1
  funext y st
  cases x <;> cases y <;> rfl
theorem w_fld : W (evE P C (.fld o) env st) Q E = W (evE P C o env st) (fun x st => match x with
  | .exc c v => if P.sub c c = some true then Q v st else False
  | _ => False) E := by
  show W ((evE P C o env st).bind _) Q E = _
  rw [w_bind]
  congr 1
  funext x st
  cases x <;> first | rfl | (dsimp only; split <;> rfl)
theorem w_heard (h : W (evE P C e env st) (fun d st => Q (.tup [.non, d]) st) (fun c v st => P.sub c x = some true ∧ Q (.tup [.exc c v, .non]) st)) : W (evE P C (.heard x e) env st) Q E := by
  show W (match evE P C e env st with
    | .ok d st => .ok (.tup [.non, d]) st
    | .err c v st => if P.sub c x = some true then .ok (.tup [.exc c v, .non]) st else .stuck
    | .stuck => .stuck) Q E
  cases q : evE P C e env st with
  | ok d st =>
    rw [q] at h
    exact h
  | err c v st =>
    rw [q] at h
    obtain ⟨h1, h2⟩ := h
    show W (if P.sub c x = some true then .ok (.tup [.exc c v, .non]) st else .stuck) Q E
    rw [if_pos h1]
    exact h2
  | stuck =>
    rw [q] at h
    exact h
/-! truths -/
theorem t_not : W (evT P C (.not a) env st) QT E = W (evT P C a env st) (fun b st => QT (!b) st) E := w_bind
theorem t_and : W (evT P C (.and a b) env st) QT E = W (evT P C a env st) (fun x st => match x with
  | true => W (evT P C b env st) QT E
  | false => QT false st) E := by
  show W ((evT P C a env st).bind _) QT E = _
  rw [w_bind]
  congr 1
  funext x st
  cases x <;> rfl
theorem t_or : W (evT P C (.or a b) env st) QT E = W (evT P C a env st) (fun x st => match x with
  | true => QT true st
  | false => W (evT P C b env st) QT E) E := by
  show W ((evT P C a env st).bind _) QT E = _
  rw [w_bind]
  congr 1
  funext x st
  cases x <;> rfl
theorem t_cmp {op : COp} : W (evT P C (.cmp op a b) env st) QT E = W (evE P C a env st) (fun x st => W (evE P C b env st) (fun y st => oQ (cmpB op x y st) fun b => QT b st) E) E := by
  show W ((evE P C a env st).bind fun x st => (evE P C b env st).bind fun y st => .opt0 (cmpB op x y st) st) QT E = _
  simp only [w_bind, w_opt0]
/-- .. of a term whose truth is its value's -/
theorem t_of (h : evT P C a = fun env st => (evE P C a env st).bind fun x st => .opt0 (truth x st) st) : W (evT P C a env st) QT E = W (evE P C a env st) (fun x st => oQ (truth x st) fun b => QT b st) E := by
  rw [h]
  simp only [w_bind, w_opt0]
theorem t_var {i : Nat} : W (evT P C (.var i) env st) QT E = W (evE P C (.var i) env st) (fun x st => oQ (truth x st) fun b => QT b st) E := t_of rfl
theorem t_call {f : Str} : W (evT P C (.call f es) env st) QT E = W (evE P C (.call f es) env st) (fun x st => oQ (truth x st) fun b => QT b st) E := t_of rfl
theorem t_bi {k : BI} : W (evT P C (.bi k es) env st) QT E = W (evE P C (.bi k es) env st) (fun x st => oQ (truth x st) fun b => QT b st) E := t_of rfl
theorem t_isi {t : Ty} : W (evT P C (.isi t a) env st) QT E = W (evE P C (.isi t a) env st) (fun x st => oQ (truth x st) fun b => QT b st) E := t_of rfl
theorem t_ix : W (evT P C (.ix o i) env st) QT E = W (evE P C (.ix o i) env st) (fun x st => oQ (truth x st) fun b => QT b st) E := t_of rfl
theorem t_bl {b : Bool} : W (evT P C (.bl b) env st) QT E = QT b st := nr rfl
theorem t_chain {op op' : COp} : W (evT P C (.chain op op' a b c) env st) QT E = W (evE P C a env st) (fun x st => W (evE P C b env st) (fun y st => match cmpB op x y st with
  | none => False
  | some false => QT false st
  | some true => W (evE P C c env st) (fun z st => oQ (cmpB op' y z st) fun b => QT b st) E) E) E := by
  show W ((evE P C a env st).bind fun x st => (evE P C b env st).bind fun y st => match cmpB op x y st with
      | none => .stuck
      | some false => .ok false st
      | some true => (evE P C c env st).bind fun z st => .opt0 (cmpB op' y z st) st) QT E = _
  simp only [w_bind]
  congr 1
  funext x st
  congr 1
  funext y st
  cases cmpB op x y st with
  | none => rfl
  | some t =>
    cases t with
    | false => rfl
    | true =>
      show W ((evE P C c env st).bind fun z st => .opt0 (cmpB op' y z st) st) QT E = _
      simp only [w_bind, w_opt0]
/-! lists of terms -/
theorem s_nil : W (evEs P C .nil env st) QL E = QL [] st := nr rfl
theorem s_cons : W (evEs P C (.cons false e r) env st) QL E = W (evE P C e env st) (fun x st => W (evEs P C r env st) (fun xs st => QL (x :: xs) st) E) E := by
  show W ((evE P C e env st).bind fun x st => (evEs P C r env st).bind fun xs st => .ok (x :: xs) st) QL E = _
  simp only [w_bind, w_ok]
theorem s_star : W (evEs P C (.cons true e r) env st) QL E = W (evE P C e env st) (fun x st => oQ (seqOf x st) fun ys => W (evEs P C r env st) (fun xs st => QL (ys ++ xs) st) E) E := by
  show W ((evE P C e env st).bind fun x st => match seqOf x st with
    | some ys => (evEs P C r env st).bind fun xs st => .ok (ys ++ xs) st
    | none => .stuck) QL E = _
  rw [w_bind]
  congr 1
  funext x st
  cases seqOf x st with
  | none => rfl
  | some ys => exact w_bind
theorem o_none : W (evO P C .none env st) QO E = QO none st := nr rfl
theorem o_some : W (evO P C (.some e) env st) QO E = W (evE P C e env st) (fun x st => match x with
  | .int i => QO (some i) st
  | _ => False) E := by
  show W ((evE P C e env st).bind _) QO E = _
  rw [w_bind]
  congr 1
  funext x st
  cases x <;> rfl
theorem i_e : W (evI P C (.e e) env st) QI E = W (evE P C e env st) (fun x st => oQ (itOf x st) fun J => QI J st) E := by
  show W ((evE P C e env st).bind fun x st => .opt0 (itOf x st) st) QI E = _
  simp only [w_bind, w_opt0]
theorem i_rng : W (evI P C (.rng a b) env st) QI E = W (evE P C a env st) (fun x st => W (evE P C b env st) (fun y st => match x, y with
  | .int i, .int j => if rngOk i j then QI (.items (rngD i j)) st else False
  | _, _ => False) E) E := by
  show W ((evE P C a env st).bind fun x st => (evE P C b env st).bind fun y st => match x, y with
    | .int i, .int j => if rngOk i j then .ok (.items (rngD i j)) st else .stuck
    | _, _ => .stuck) QI E = _
  simp only [w_bind]
  congr 1
  funext x st
  congr 1
  funext y st
  cases x <;> cases y <;> first | rfl | (dsimp only; split <;> rfl)
theorem i_zip : W (evI P C (.zip a b) env st) QI E = W (evE P C a env st) (fun x st => W (evE P C b env st) (fun y st => oQ (zipOf x y st) fun J => QI J st) E) E := by
  show W ((evE P C a env st).bind fun x st => (evE P C b env st).bind fun y st => .opt0 (zipOf x y st) st) QI E = _
  simp only [w_bind, w_opt0]
/-! statements -/
theorem ss_nil : W (evSs P C .nil env st) QF E = QF (.nx env) st := nr rfl
theorem ss_cons {s : IS} {r : ISs} : W (evSs P C (.cons s r) env st) QF E = W (evS P C s env st) (fun f st => match f with
  | .nx env => W (evSs P C r env st) QF E
  | f => QF f st) E := by
  show W ((evS P C s env st).bind fun f st => match f with
    | .nx env => evSs P C r env st
    | f => .ok f st) QF E = _
  rw [w_bind]
  congr 1
  funext f st
  cases f <;> rfl
theorem st_expr : W (evS P C (.expr e) env st) QF E = W (evE P C e env st) (fun _ st => QF (.nx env) st) E := by
  show W ((evE P C e env st).bind fun _ st => .ok (.nx env) st) QF E = _
  simp only [w_bind, w_ok]
theorem st_ret : W (evS P C (.ret e) env st) QF E = W (evE P C e env st) (fun d st => QF (.ret d) st) E := by
  show W ((evE P C e env st).bind fun d st => .ok (.ret d) st) QF E = _
  simp only [w_bind, w_ok]
theorem st_retN : W (evS P C .retN env st) QF E = QF (.ret .non) st := nr rfl
theorem st_pass : W (evS P C .pass env st) QF E = QF (.nx env) st := nr rfl
theorem st_brk : W (evS P C .brk env st) QF E = QF (.brk env) st := nr rfl
theorem st_cont : W (evS P C .cont env st) QF E = QF (.cont env) st := nr rfl
theorem st_asg {tg : Tg} : W (evS P C (.asg tg e) env st) QF E = W (evE P C e env st) (fun d st => oQ (tgB tg d env st) fun env => QF (.nx env) st) E := by
  show W ((evE P C e env st).bind fun d st => .opt0 ((tgB tg d env st).map Flow.nx) st) QF E = _
  rw [w_bind]
  congr 1
  funext d st
  rw [w_opt0]
  cases tgB tg d env st <;> rfl
theorem st_par {is : List Nat} : W (evS P C (.par is es) env st) QF E = W (evEs P C es env st) (fun ds st => oQ (setAll is ds env) fun env => QF (.nx env) st) E := by
  show W ((evEs P C es env st).bind fun ds st => .opt0 ((setAll is ds env).map Flow.nx) st) QF E = _
  rw [w_bind]
  congr 1
  funext d st
  rw [w_opt0]
  cases setAll is d env <;> rfl
theorem st_setIx : W (evS P C (.setIx o i e) env st) QF E = W (evE P C e env st) (fun v st => W (evE P C o env st) (fun x st => W (evE P C i env st) (fun y st => oQ (setB x y v st) fun st => QF (.nx env) st) E) E) E := by
  show W ((evE P C e env st).bind fun v st => (evE P C o env st).bind fun x st => (evE P C i env st).bind fun y st => match setB x y v st with
      | some st => .ok (.nx env) st
      | none => .stuck) QF E = _
  simp only [w_bind]
  congr 1
  funext v st
  congr 1
  funext x st
  congr 1
  funext y st
  cases setB x y v st <;> rfl
theorem st_iff {p q : ISs} : W (evS P C (.iff c p q) env st) QF E = W (evT P C c env st) (fun t st => match t with
  | true => W (evSs P C p env st) QF E
  | false => W (evSs P C q env st) QF E) E := by
  show W ((evT P C c env st).bind fun t st => match t with
    | true => evSs P C p env st
    | false => evSs P C q env st) QF E = _
  rw [w_bind]
  congr 1
  funext t st
  cases t <;> rfl
theorem st_for {tg : Tg} {it : IT} {b : ISs} : W (evS P C (.forr tg it b) env st) QF E = W (evI P C it env st) (fun J st => W (forLoop J tg (fun env st => evSs P C b env st) FUEL 0 env st) QF E) E := by
  show W ((evI P C it env st).bind _) QF E = _
  rw [w_bind]
theorem st_raise {c : Str} : W (evS P C (.raise c e) env st) QF E = W (evE P C e env st) (fun d st => E c d st) E := by
  show W ((evE P C e env st).bind fun d st => .err c d st) QF E = _
  rw [w_bind]
  rfl
end
/-- a def called -/
def RQ (Q : D → Sto → Prop) (fl : Flow) (st : Sto) : Prop :=
  match fl with
  | .ret v => Q v st
  | .nx _ => Q .non st
  | _ => False
theorem rq_ret {Q : D → Sto → Prop} {v : D} {st : Sto} : RQ Q (.ret v) st = Q v st := nr rfl
theorem rq_nx {Q : D → Sto → Prop} {env : Env} {st : Sto} : RQ Q (.nx env) st = Q .non st := nr rfl
theorem w_def {P : Prog} {n : Nat} {f : Str} {np ns : Nat} {body : ISs} {ds : List D} {st : Sto} {Q : D → Sto → Prop} {E : Str → D → Sto → Prop} (hd : P.defs f = some ⟨np, ns, body⟩) {env : Env} (he : ds.map some ++ List.replicate (ns - np) none = env) (hl : ds.length = np)
    (h : W (evSs P (callN P n) body env st) (RQ Q) E) : W (callN P (n + 1) f ds st) Q E := by
  subst he
  show W (match P.defs f with
    | none => .stuck
    | some d => if ds.length = d.np then (evSs P (callN P n) d.body (ds.map some ++ List.replicate (d.ns - d.np) none) st).bind retD else .stuck) Q E
  rw [hd]
  show W (if ds.length = np then (evSs P (callN P n) body (ds.map some ++ List.replicate (ns - np) none) st).bind retD else .stuck) Q E
  rw [if_pos hl, w_bind]
  refine h.imp fun fl st q => ?_
  cases fl <;> exact q
end PyI
end
section
/-! PyI4b: frames, loops, comprehensions. -/
set_option autoImplicit false
set_option linter.all false
set_option maxRecDepth 100000
set_option maxHeartbeats 4000000
namespace PyI
open PySem
/-- all cells but those of ps are kept -/
def Fr (ps : List Nat) (s t : Sto) : Prop := s.length ≤ t.length ∧ ∀ i c, i ∉ ps → s[i]? = some c → t[i]? = some c
section
variable {ps qs : List Nat} {s t u : Sto} {n : Nat} {c c' : Cell}
theorem Fr.refl (ps : List Nat) (s : Sto) : Fr ps s s := ⟨Nat.le_refl _, fun _ _ _ h => h⟩
theorem Fr.trans (a : Fr ps s t) (b : Fr ps t u) : Fr ps s u := ⟨Nat.le_trans a.1 b.1, fun i c h e => b.2 i c h (a.2 i c h e)⟩
theorem Fr.sub (a : Fr ps s t) (h : ∀ i ∈ ps, i ∈ qs) : Fr qs s t := ⟨a.1, fun i c n e => a.2 i c (fun z => n (h i z)) e⟩
theorem Fr.all (a : Fr [] s t) : Fr ps s t := a.sub fun i h => by cases h
theorem Fr.app (ps : List Nat) (s r : Sto) : Fr ps s (s ++ r) := ⟨by rw [List.length_append]; exact Nat.le_add_right _ _, fun i c _ e => by
  have l : i < s.length := (List.getElem?_eq_some_iff.mp e).1
  rw [List.getElem?_append_left l]
  exact e⟩
theorem Fr.get (a : Fr ps s t) (e : s[n]? = some c) (h : n ∉ ps := by simp) : t[n]? = some c := a.2 n c h e
theorem lt_of_get (e : s[n]? = some c) : n < s.length := (List.getElem?_eq_some_iff.mp e).1
/-- a cell of ps, or one that is new, is written -/
theorem Fr.set (a : Fr ps s t) (h : n ∈ ps ∨ s.length ≤ n) : Fr ps s (t.set n c) := ⟨by rw [List.length_set]; exact a.1, fun i d hi e => by
  have l := lt_of_get e
  have ne : n ≠ i := fun z => by
    rcases h with h | h
    · exact hi (z ▸ h)
    · omega
  rw [List.getElem?_set_ne ne]
  exact a.2 i d hi e⟩
theorem get_set (e : s[n]? = some c) : (s.set n c')[n]? = some c' := by
  rw [List.getElem?_set_self (lt_of_get e)]
theorem get_set_ne {m : Nat} (h : n ≠ m) : (s.set n c)[m]? = s[m]? := List.getElem?_set_ne h
theorem get_last : (s ++ [c])[s.length]? = some c := by rw [List.getElem?_append_right (Nat.le_refl _), Nat.sub_self]; rfl
/-- what was behind a new cell -/
theorem Fr.new (a : Fr ps (s ++ [c]) t) (h : s.length ∉ ps) : t[s.length]? = some c := a.get get_last h
theorem Fr.of_app {r : Sto} (a : Fr ps (s ++ r) t) : Fr ps s t := (Fr.app ps s r).trans a
end
/-! ### walked items -/
/-- J gives ds, whenever I holds -/
def Gives (J : Itr) (ds : List D) (st : Sto) : Prop :=
  match J with
  | .items xs => xs = ds
  | .live n => ∃ w, st[n]? = some (.lst w ds)
  | .zipL n m => ∃ v w xs ys, st[n]? = some (.lst v xs) ∧ st[m]? = some (.lst w ys) ∧ ds = List.zipWith (fun x y => D.tup [x, y]) xs ys
  | .zipT xs ys => ds = List.zipWith (fun x y => D.tup [x, y]) xs ys
  | .keys n kvs => st[n]? = some (.dct false kvs) ∧ ds = kvs.map Prod.fst
theorem zip_at {xs ys : List D} {i : Nat} : (List.zipWith (fun x y => D.tup [x, y]) xs ys)[i]? = (match xs[i]?, ys[i]? with
  | some x, some y => some (D.tup [x, y])
  | _, _ => none) := by
  rw [List.getElem?_zipWith]
  cases xs[i]? <;> cases ys[i]? <;> rfl
theorem gives_at {J : Itr} {ds : List D} {st : Sto} (h : Gives J ds st) (i : Nat) : J.at i st = some ds[i]? := by
  cases J with
  | items xs =>
    have h' : xs = ds := h
    rw [h']
    rfl
  | live n =>
    obtain ⟨w, e⟩ := h
    show (match st[n]? with
      | some (.lst _ xs) => some xs[i]?
      | _ => none) = _
    rw [e]
  | zipL n m =>
    obtain ⟨v, w, xs, ys, e1, e2, e3⟩ := h
    show (match st[n]?, st[m]? with
      | some (.lst _ xs), some (.lst _ ys) => some (match xs[i]?, ys[i]? with
        | some x, some y => some (D.tup [x, y])
        | _, _ => none)
      | _, _ => none) = _
    rw [e1, e2, e3, zip_at]
  | zipT xs ys =>
    have h' : ds = List.zipWith (fun x y => D.tup [x, y]) xs ys := h
    rw [h', zip_at]
    rfl
  | keys n kvs =>
    obtain ⟨e1, e2⟩ := h
    show (match st[n]? with
      | some (.dct false kvs) => some (kvs[i]?.map Prod.fst)
      | _ => none) = _
    rw [e1, e2, List.getElem?_map]
theorem Gives.fr {J : Itr} {ds : List D} {s t : Sto} {ps : List Nat} (h : Gives J ds s) (a : Fr ps s t) (hJ : ∀ i, (J = .live i ∨ (∃ m, J = .zipL i m ∨ J = .zipL m i) ∨ ∃ k, J = .keys i k) → i ∉ ps) : Gives J ds t := by
  cases J with
  | items xs => exact h
  | live n =>
    obtain ⟨w, e⟩ := h
    exact ⟨w, a.get e (hJ n (.inl rfl))⟩
  | zipL n m =>
    obtain ⟨v, w, xs, ys, e1, e2, e3⟩ := h
    exact ⟨v, w, xs, ys, a.get e1 (hJ n (.inr (.inl ⟨m, .inl rfl⟩))), a.get e2 (hJ m (.inr (.inl ⟨n, .inr rfl⟩))), e3⟩
  | zipT xs ys => exact h
  | keys n kvs => exact ⟨a.get h.1 (hJ n (.inr (.inr ⟨kvs, rfl⟩))), h.2⟩
/-! ### for -/
/-- behind a turn's body -/
def FQ (I : Env → Sto → Prop) (Q : Flow → Sto → Prop) (f : Flow) (st : Sto) : Prop :=
  match f with
  | .nx env => I env st
  | .cont env => I env st
  | .brk env => Q (.nx env) st
  | .ret d => Q (.ret d) st
theorem fq_nx {I : Env → Sto → Prop} {Q : Flow → Sto → Prop} {env : Env} {st : Sto} : FQ I Q (.nx env) st = I env st := nr rfl
theorem fq_cont {I : Env → Sto → Prop} {Q : Flow → Sto → Prop} {env : Env} {st : Sto} : FQ I Q (.cont env) st = I env st := nr rfl
theorem fq_brk {I : Env → Sto → Prop} {Q : Flow → Sto → Prop} {env : Env} {st : Sto} : FQ I Q (.brk env) st = Q (.nx env) st := nr rfl
theorem fq_ret {I : Env → Sto → Prop} {Q : Flow → Sto → Prop} {d : D} {st : Sto} : FQ I Q (.ret d) st = Q (.ret d) st := nr rfl
section
variable {J : Itr} {ds : List D} {tg : Tg} {body : Env → Sto → Res Flow} {env : Env} {st : Sto} {Q : Flow → Sto → Prop} {E : Str → D → Sto → Prop}
theorem w_loopA (I : List D → Env → Sto → Prop) (hg : ∀ rest env st, I rest env st → Gives J ds st)
    (step : ∀ d rest env st, I (d :: rest) env st → oQ (tgB tg d env st) fun env1 => W (body env1 st) (FQ (I rest) Q) E) (fin : ∀ env st, I [] env st → Q (.nx env) st) :
    ∀ (m i : Nat) (rest : List D) (env : Env) (st : Sto), ds.drop i = rest → rest.length < m → I rest env st → W (forLoop J tg body m i env st) Q E := by
  intro m
  induction m with
  | zero => exact fun i rest env st _ h => absurd h (Nat.not_lt_zero _)
  | succ m ih =>
    intro i rest env st hd hl hI
    have ha := gives_at (hg rest env st hI) i
    have hh : ds[i]? = rest.head? := by rw [← hd, List.head?_drop]
    show W (match J.at i st with
      | none => .stuck
      | some none => .ok (.nx env) st
      | some (some d) => match tgB tg d env st with
        | none => .stuck
        | some env1 => (body env1 st).bind fun f st1 => match f with
          | .nx env2 => forLoop J tg body m (i + 1) env2 st1
          | .cont env2 => forLoop J tg body m (i + 1) env2 st1
          | .brk env2 => .ok (.nx env2) st1
          | .ret d => .ok (.ret d) st1) Q E
    rw [ha, hh]
    cases rest with
    | nil => exact fin env st hI
    | cons d rest =>
      have q := step d rest env st hI
      show W (match tgB tg d env st with
        | none => .stuck
        | some env1 => (body env1 st).bind fun f st1 => match f with
          | .nx env2 => forLoop J tg body m (i + 1) env2 st1
          | .cont env2 => forLoop J tg body m (i + 1) env2 st1
          | .brk env2 => .ok (.nx env2) st1
          | .ret d => .ok (.ret d) st1) Q E
      cases e : tgB tg d env st with
      | none =>
        rw [e] at q
        exact False.elim q
      | some env1 =>
        rw [e] at q
        have hd' : ds.drop (i + 1) = rest := by
          rw [← List.drop_drop, hd]
          rfl
        show W ((body env1 st).bind _) Q E
        rw [w_bind]
        refine W.imp (show W (body env1 st) (FQ (I rest) Q) E from q) fun f st1 z => ?_
        cases f with
        | nx env2 => exact ih (i + 1) rest env2 st1 hd' (by simp only [List.length_cons] at hl; omega) z
        | cont env2 => exact ih (i + 1) rest env2 st1 hd' (by simp only [List.length_cons] at hl; omega) z
        | brk env2 => exact z
        | ret d => exact z
/-- a loop: I of what is left -/
theorem w_loop (I : List D → Env → Sto → Prop) (hl : ds.length < FUEL) (hg : ∀ rest env st, I rest env st → Gives J ds st) (h0 : I ds env st)
    (step : ∀ d rest env st, I (d :: rest) env st → oQ (tgB tg d env st) fun env1 => W (body env1 st) (FQ (I rest) Q) E) (fin : ∀ env st, I [] env st → Q (.nx env) st) : W (forLoop J tg body FUEL 0 env st) Q E :=
  w_loopA I hg step fin FUEL 0 ds env st rfl hl h0
end
/-! ### comprehensions -/
section
variable {J : Itr} {ds : List D} {bind : D → Sto → Option Env} {test : Env → Sto → Res Bool} {elt : Env → Sto → Res D} {n : Nat} {st : Sto} {Q : D → Sto → Prop} {E : Str → D → Sto → Prop}
theorem w_lcA (I : List D → List D → Sto → Prop) (hg : ∀ rest acc st, I rest acc st → Gives J ds st)
    (step : ∀ d rest acc st, I (d :: rest) acc st → oQ (bind d st) fun env1 => W (test env1 st) (fun b st1 => match b with
      | false => I rest acc st1
      | true => W (elt env1 st1) (fun y st2 => st2[n]? = some (.lst true acc) ∧ acc.length < LIM ∧ I rest (acc ++ [y]) (st2.set n (.lst true (acc ++ [y])))) NE) NE)
    (fin : ∀ acc st, I [] acc st → Q (.ref n) st) :
    ∀ (m i : Nat) (rest acc : List D) (st : Sto), ds.drop i = rest → rest.length < m → I rest acc st → W (lcLoop J bind test elt n m i st) Q E := by
  intro m
  induction m with
  | zero => exact fun i rest acc st _ h => absurd h (Nat.not_lt_zero _)
  | succ m ih =>
    intro i rest acc st hd hl hI
    have ha := gives_at (hg rest acc st hI) i
    have hh : ds[i]? = rest.head? := by rw [← hd, List.head?_drop]
    show W (match J.at i st with
      | none => .stuck
      | some none => .ok (.ref n) st
      | some (some d) => match bind d st with
        | none => .stuck
        | some env => (noErr (test env st)).bind fun b st1 => match b with
          | false => lcLoop J bind test elt n m (i + 1) st1
          | true => (noErr (elt env st1)).bind fun y st2 => match st2[n]? with
            | some (.lst true xs) => if xs.length < LIM then lcLoop J bind test elt n m (i + 1) (st2.set n (.lst true (xs ++ [y]))) else .stuck
            | _ => .stuck) Q E
    rw [ha, hh]
    cases rest with
    | nil => exact fin acc st hI
    | cons d rest =>
      have q := step d rest acc st hI
      have hd' : ds.drop (i + 1) = rest := by
        rw [← List.drop_drop, hd]
        rfl
      have hl' : rest.length < m := by
        simp only [List.length_cons] at hl
        omega
      show W (match bind d st with
        | none => .stuck
        | some env => (noErr (test env st)).bind fun b st1 => match b with
          | false => lcLoop J bind test elt n m (i + 1) st1
          | true => (noErr (elt env st1)).bind fun y st2 => match st2[n]? with
            | some (.lst true xs) => if xs.length < LIM then lcLoop J bind test elt n m (i + 1) (st2.set n (.lst true (xs ++ [y]))) else .stuck
            | _ => .stuck) Q E
      cases e : bind d st with
      | none =>
        rw [e] at q
        exact False.elim q
      | some env1 =>
        rw [e] at q
        show W ((noErr (test env1 st)).bind _) Q E
        rw [w_bind]
        refine w_noErr (W.imp q fun b st1 z => ?_)
        cases b with
        | false => exact ih (i + 1) rest acc st1 hd' hl' z
        | true =>
          show W ((noErr (elt env1 st1)).bind _) Q _
          rw [w_bind]
          refine w_noErr (W.imp z fun y st2 z2 => ?_)
          obtain ⟨e1, e2, e3⟩ := z2
          rw [e1]
          show W (if acc.length < LIM then _ else _) Q _
          rw [if_pos e2]
          exact (ih (i + 1) rest (acc ++ [y]) _ hd' hl' e3)
end
end PyI
end
section
/-! PyI4c: comprehensions of quiet terms, built-ins. -/
set_option autoImplicit false
set_option linter.all false
set_option maxRecDepth 100000
set_option maxHeartbeats 4000000
namespace PyI
open PySem
section
variable {P : Prog} {C : Str → List D → Sto → Res D} {env : Env} {st : Sto} {Q : D → Sto → Prop} {E : Str → D → Sto → Prop}
theorem w_lc {elt : IE} {tg : Tg} {it : IT} {ifs : IEs} {own : List Nat} (hk : keysI it env st = none) : W (evE P C (.lc elt tg it ifs own) env st) Q E = W (evI P C it env st) (fun J s => W (lcLoop J (fun d st => tgB tg d (wipe env own) st) (fun env st => evTs P C ifs env st) (fun env st => evE P C elt env st) s.length FUEL 0 (s ++ [.lst true []])) Q E) E := by
  show W (match keysI it env st with
    | some (n, kvs) => (lcLoop (.keys n kvs) (fun d st => tgB tg d (wipe env own) st) (fun env st => evTs P C ifs env st) (fun env st => evE P C elt env st) st.length FUEL 0 (st.set n (.dct false kvs) ++ [.lst true []])).bind fun d st => .ok d (st.set n (.dct true kvs))
    | none => (evI P C it env st).bind fun J st => lcLoop J (fun d st => tgB tg d (wipe env own) st) (fun env st => evTs P C ifs env st) (fun env st => evE P C elt env st) st.length FUEL 0 (st ++ [.lst true []])) Q E = _
  rw [hk]
  exact w_bind
/-- over a dict's keys -/
theorem w_lcK {elt : IE} {tg : Tg} {it : IT} {ifs : IEs} {own : List Nat} {n : Nat} {kvs : List (D × D)} (hk : keysI it env st = some (n, kvs)) : W (evE P C (.lc elt tg it ifs own) env st) Q E = W (lcLoop (.keys n kvs) (fun d st => tgB tg d (wipe env own) st) (fun env st => evTs P C ifs env st) (fun env st => evE P C elt env st) st.length FUEL 0 (st.set n (.dct false kvs) ++ [.lst true []])) (fun d s => Q d (s.set n (.dct true kvs))) E := by
  show W (match keysI it env st with
    | some (n, kvs) => (lcLoop (.keys n kvs) (fun d st => tgB tg d (wipe env own) st) (fun env st => evTs P C ifs env st) (fun env st => evE P C elt env st) st.length FUEL 0 (st.set n (.dct false kvs) ++ [.lst true []])).bind fun d st => .ok d (st.set n (.dct true kvs))
    | none => (evI P C it env st).bind fun J st => lcLoop J (fun d st => tgB tg d (wipe env own) st) (fun env st => evTs P C ifs env st) (fun env st => evE P C elt env st) st.length FUEL 0 (st ++ [.lst true []])) Q E = _
  rw [hk]
  exact w_bind
theorem ts_nil {QT : Bool → Sto → Prop} : W (evTs P C .nil env st) QT E = QT true st := nr rfl
theorem ts_one {QT : Bool → Sto → Prop} {s : Bool} {e : IE} : W (evTs P C (.cons s e .nil) env st) QT E = W (evT P C e env st) QT E := nr rfl
end
section
variable {J : Itr} {ds : List D} {bind : D → Sto → Option Env} {test : Env → Sto → Res Bool} {elt : Env → Sto → Res D} {st : Sto} {Q : D → Sto → Prop} {E : Str → D → Sto → Prop}
theorem lim_fuel {n : Nat} (h : n < LIM) : n < FUEL := Nat.lt_of_lt_of_le h (by decide)
/-- what is kept, mapped -/
theorem lc_fm (p : D → Bool) (g : D → D) (hJ : Gives J ds st) (hl : ds.length < LIM)
    (el : ∀ d ∈ ds, ∀ s, Fr [] st s → oQ (bind d s) fun env1 => W (test env1 s) (fun b s1 => Fr [] s s1 ∧ b = p d ∧ (b = true → W (elt env1 s1) (fun y s2 => Fr [] s1 s2 ∧ y = g d) NE)) NE)
    (fin : ∀ s, Fr [] st s → s[st.length]? = some (.lst true ((ds.filter p).map g)) → Q (.ref st.length) s) : W (lcLoop J bind test elt st.length FUEL 0 (st ++ [.lst true []])) Q E := by
  refine w_lcA (ds := ds) (fun rest acc s => ∃ pre, ds = pre ++ rest ∧ acc = (pre.filter p).map g ∧ Fr [] st s ∧ s[st.length]? = some (.lst true acc)) (fun rest acc s ⟨pre, _, _, fr, _⟩ => hJ.fr fr fun i _ h => by cases h) (fun d rest acc s ⟨pre, e1, e2, fr, e3⟩ => ?_) (fun acc s ⟨pre, e1, e2, fr, e3⟩ => ?_) FUEL 0 ds [] _ rfl (lim_fuel hl) ⟨[], rfl, rfl, Fr.app [] _ _, get_last⟩
  · have hd : d ∈ ds := by rw [e1]; simp
    have z := el d hd s fr
    cases hb : bind d s with
    | none =>
      rw [hb] at z
      exact False.elim z
    | some env1 =>
      rw [hb] at z
      refine W.imp z fun b s1 ⟨f1, eb, h1⟩ => ?_
      cases b with
      | false => exact ⟨pre ++ [d], by rw [e1]; simp, by rw [List.filter_append, List.filter_cons_of_neg (by rw [← eb]; simp)]; simpa using e2, fr.trans f1, f1.get e3⟩
      | true =>
        refine W.imp (h1 rfl) fun y s2 ⟨f2, ey⟩ => ⟨f2.get (f1.get e3), ?_, pre ++ [d], by rw [e1]; simp, ?_, ((fr.trans f1).trans f2).set (.inr (Nat.le_refl _)), get_set (f2.get (f1.get e3))⟩
        · have l1 : acc.length ≤ pre.length := by
            rw [e2, List.length_map]
            exact List.length_filter_le _ _
          have l2 : pre.length < ds.length := by
            rw [e1, List.length_append, List.length_cons]
            omega
          omega
        · rw [List.filter_append, List.filter_cons_of_pos (by rw [← eb]), List.map_append, e2, ey]
          rfl
  · rw [List.append_nil] at e1
    subst e1
    exact fin s fr (by rw [e3, e2])
end
section
variable {P : Prog} {C : Str → List D → Sto → Res D} {J : Itr} {ds : List D} {bind : D → Sto → Option Env} {elt : Env → Sto → Res D} {st : Sto} {Q : D → Sto → Prop} {E : Str → D → Sto → Prop}
theorem lc_map (g : D → D) (hJ : Gives J ds st) (hl : ds.length < LIM) (el : ∀ d ∈ ds, ∀ s, Fr [] st s → oQ (bind d s) fun env1 => W (elt env1 s) (fun y s2 => Fr [] s s2 ∧ y = g d) NE)
    (fin : ∀ s, Fr [] st s → s[st.length]? = some (.lst true (ds.map g)) → Q (.ref st.length) s) : W (lcLoop J bind (fun env st => evTs P C .nil env st) elt st.length FUEL 0 (st ++ [.lst true []])) Q E := by
  refine lc_fm (fun _ => true) g hJ hl (fun d hd s fr => ?_) fun s fr e => fin s fr (by rw [e, List.filter_eq_self.mpr fun _ _ => rfl])
  have z := el d hd s fr
  cases hb : bind d s with
  | none =>
    rw [hb] at z
    exact False.elim z
  | some env1 =>
    rw [hb] at z
    exact ⟨Fr.refl _ _, rfl, fun _ => z⟩
end
/-! ### built-ins -/
theorem bls_map {α : Type} (q : α → Bool) : ∀ ds : List α, bls (ds.map fun d => D.bl (q d)) = some (ds.map q)
  | [] => rfl
  | d :: r => by
    show (bls (r.map fun d => D.bl (q d))).map (q d :: ·) = _
    rw [bls_map q r]
    rfl
theorem evB_all {st : Sto} {n : Nat} {w : Bool} {α : Type} {ds : List α} {q : α → Bool} (e : st[n]? = some (.lst w (ds.map fun d => D.bl (q d)))) : evB .all [.ref n] st = some (.bl (ds.all q), st) := by
  show (match (match st[n]? with
    | some (.lst _ xs) => some xs
    | _ => none).bind bls with
    | some bs => some (D.bl (bs.all id), st)
    | none => none) = _
  rw [e]
  show (match bls (ds.map fun d => D.bl (q d)) with
    | some bs => some (D.bl (bs.all id), st)
    | none => none) = _
  rw [bls_map]
  show some (D.bl ((ds.map q).all id), st) = _
  rw [List.all_map]
  rfl
theorem evB_any {st : Sto} {n : Nat} {w : Bool} {α : Type} {ds : List α} {q : α → Bool} (e : st[n]? = some (.lst w (ds.map fun d => D.bl (q d)))) : evB .any [.ref n] st = some (.bl (ds.any q), st) := by
  show (match (match st[n]? with
    | some (.lst _ xs) => some xs
    | _ => none).bind bls with
    | some bs => some (D.bl (bs.any id), st)
    | none => none) = _
  rw [e]
  show (match bls (ds.map fun d => D.bl (q d)) with
    | some bs => some (D.bl (bs.any id), st)
    | none => none) = _
  rw [bls_map]
  show some (D.bl ((ds.map q).any id), st) = _
  rw [List.any_map]
  rfl
theorem seqOf_lst {st : Sto} {n : Nat} {w : Bool} {xs : List D} (e : st[n]? = some (.lst w xs)) : seqOf (.ref n) st = some xs := by
  show (match st[n]? with
    | some (.lst _ xs) => some xs
    | _ => none) = _
  rw [e]
theorem evB_tuple {st : Sto} {n : Nat} {w : Bool} {xs : List D} (e : st[n]? = some (.lst w xs)) : evB .tuple [.ref n] st = some (.tup xs, st) := by
  show (seqOf (.ref n) st).map (fun xs => (D.tup xs, st)) = _
  rw [seqOf_lst e]
  rfl
theorem itOf_lst {st : Sto} {n : Nat} {w : Bool} {xs : List D} (e : st[n]? = some (.lst w xs)) : itOf (.ref n) st = some (.live n) := by
  show (match st[n]? with
    | some (.lst _ _) => some (Itr.live n)
    | _ => none) = _
  rw [e]
theorem kindB_lst {st : Sto} {n : Nat} {w : Bool} {xs : List D} (e : st[n]? = some (.lst w xs)) : kindB (.ref n) st = some "list" := by
  show (match st[n]? with
    | some (.lst _ _) => some "list"
    | some (.dct true _) => some "dict"
    | _ => none) = _
  rw [e]
theorem append_lst {st : Sto} {n : Nat} {xs : List D} {y : D} (e : st[n]? = some (.lst true xs)) (hl : xs.length < LIM) : methB .append (.ref n) [y] st = some (.non, st.set n (.lst true (xs ++ [y]))) := by
  show (match st[n]? with
    | some (.lst true xs) => if xs.length < LIM then some (D.non, st.set n (.lst true (xs ++ [y]))) else none
    | _ => none) = _
  rw [e]
  exact if_pos hl
theorem extend_lst {st : Sto} {n m : Nat} {xs ys : List D} (e : st[n]? = some (.lst true xs)) (e2 : st[m]? = some (.lst true ys)) (hl : xs.length + ys.length ≤ LIM) : methB .extend (.ref n) [.ref m] st = some (.non, st.set n (.lst true (xs ++ ys))) := by
  show (match st[n]?, st[m]? with
    | some (.lst true xs), some (.lst true ys) => if xs.length + ys.length ≤ LIM then some (D.non, st.set n (.lst true (xs ++ ys))) else none
    | _, _ => none) = _
  rw [e, e2]
  exact if_pos hl
theorem ix_lst {st : Sto} {n : Nat} {w : Bool} {xs : List D} {i : Int} (e : st[n]? = some (.lst w xs)) : ixB (.ref n) (.int i) st = atD xs i := by
  show (match st[n]? with
    | some (.lst _ xs) => atD xs i
    | _ => none) = _
  rw [e]
theorem truth_bl {b : Bool} {st : Sto} : truth (.bl b) st = some b := nr rfl
theorem truth_tup {xs : List D} {st : Sto} : truth (.tup xs) st = some (!xs.isEmpty) := nr rfl
/-! ### numbers -/
theorem log_lt {i : Int} {k : Nat} (h0 : 0 ≤ i) (h : i < 2 ^ k) : i.natAbs.log2 ≤ k := by
  by_cases z : i.natAbs = 0
  · rw [z]
    exact Nat.zero_le _
  · have h2 : i.natAbs < 2 ^ k := by
      have e : ((2 : Int) ^ k) = ((2 ^ k : Nat) : Int) := by norm_cast
      omega
    exact Nat.le_of_lt ((Nat.log2_lt z).mpr h2)
theorem mul_ok {i j : Int} {st : Sto} (a b : Nat) (h1 : 0 ≤ i ∧ i < 2 ^ a) (h2 : 0 ≤ j ∧ j < 2 ^ b) (h : a + b < 1000000 := by decide) : opB .mul (.int i) (.int j) st = some (.int (i * j), st) := by
  have l1 := log_lt h1.1 h1.2
  have l2 := log_lt h2.1 h2.2
  show (if i.natAbs.log2 + j.natAbs.log2 < 1000000 then some (D.int (i * j), st) else none) = _
  exact if_pos (by omega)
theorem mod_ok {i j : Int} {st : Sto} (h : 0 < j := by decide) : opB .mod (.int i) (.int j) st = some (.int (i % j), st) := if_pos h
theorem fdiv_ok {i j : Int} {st : Sto} (a : Nat) (h : 0 < j ∧ j < 2 ^ a) (ha : a < 9000 := by decide) : opB .fdiv (.int i) (.int j) st = some (.int (i / j), st) := by
  have l := log_lt (Int.le_of_lt h.1) h.2
  exact if_pos ⟨h.1, by omega⟩
theorem pow_ok {i j : Int} {st : Sto} (a : Nat) (h1 : 0 ≤ i ∧ i < 2 ^ a) (h0 : 0 ≤ j) (h : ((a + 1 : Nat) : Int) * j ≤ 134217728) : opB .pow (.int i) (.int j) st = some (.int (i ^ j.toNat), st) := by
  have l := log_lt h1.1 h1.2
  have h2 : ((i.natAbs.log2 + 1 : Nat) : Int) * j ≤ ((a + 1 : Nat) : Int) * j := Int.mul_le_mul_of_nonneg_right (by omega) h0
  show (if 0 ≤ j ∧ ((i.natAbs.log2 + 1 : Nat) : Int) * j ≤ 134217728 then some (D.int (i ^ j.toNat), st) else none) = _
  exact if_pos ⟨h0, Int.le_trans h2 h⟩
theorem ixL {st : Sto} {n : Nat} {w : Bool} {xs : List D} {i : Int} {d : D} (e : st[n]? = some (.lst w xs)) (h : atD xs i = some d) : ixB (.ref n) (.int i) st = some d := (ix_lst e).trans h
theorem setL {st : Sto} {n : Nat} {xs : List D} {i : Int} {v : D} (e : st[n]? = some (.lst true xs)) (h0 : 0 ≤ i) (h : i < xs.length) : setB (.ref n) (.int i) v st = some (st.set n (.lst true (xs.set i.toNat v))) := by
  show (match st[n]? with
    | some (.lst true xs) => if 0 ≤ i then (if i < xs.length then some (st.set n (.lst true (xs.set i.toNat v))) else none)
      else if 0 ≤ i + xs.length then some (st.set n (.lst true (xs.set (i + xs.length).toNat v))) else none
    | _ => none) = _
  rw [e]
  show (if 0 ≤ i then (if i < xs.length then some (st.set n (.lst true (xs.set i.toNat v))) else none)
      else if 0 ≤ i + xs.length then some (st.set n (.lst true (xs.set (i + xs.length).toNat v))) else none) = _
  rw [if_pos h0, if_pos h]
/-- the last place -/
theorem setL1 {st : Sto} {n : Nat} {xs : List D} {y v : D} (e : st[n]? = some (.lst true (xs ++ [y]))) : setB (.ref n) (.int (-1)) v st = some (st.set n (.lst true (xs ++ [v]))) := by
  show (match st[n]? with
    | some (.lst true xs) => if 0 ≤ (-1 : Int) then (if (-1 : Int) < xs.length then some (st.set n (.lst true (xs.set (-1 : Int).toNat v))) else none)
      else if 0 ≤ (-1 : Int) + xs.length then some (st.set n (.lst true (xs.set ((-1 : Int) + xs.length).toNat v))) else none
    | _ => none) = _
  rw [e]
  show (if 0 ≤ (-1 : Int) then (if (-1 : Int) < (xs ++ [y]).length then some (st.set n (.lst true ((xs ++ [y]).set (-1 : Int).toNat v))) else none)
      else if 0 ≤ (-1 : Int) + (xs ++ [y]).length then some (st.set n (.lst true ((xs ++ [y]).set ((-1 : Int) + (xs ++ [y]).length).toNat v))) else none) = _
  rw [if_neg (by decide), List.length_append, List.length_singleton, if_pos (by omega)]
  have e2 : ((-1 : Int) + ((xs.length + 1 : Nat) : Int)).toNat = xs.length := by omega
  rw [e2, List.set_append_right _ _ (Nat.le_refl _), Nat.sub_self]
  rfl
theorem at_last {xs : List D} {y : D} : atD (xs ++ [y]) (-1) = some y := by
  unfold atD
  rw [if_neg (by decide), List.length_append, List.length_singleton, if_pos (by omega)]
  have e2 : ((-1 : Int) + ((xs.length + 1 : Nat) : Int)).toNat = xs.length := by omega
  rw [e2, List.getElem?_append_right (Nat.le_refl _), Nat.sub_self]
  rfl
theorem at_nat {xs : List D} {i : Int} (h : 0 ≤ i) : atD xs i = xs[i.toNat]? := if_pos h
end PyI
end
section
set_option autoImplicit false
set_option linter.all false
set_option maxHeartbeats 4000000
/-! K01n: rows of ranges, in plain numbers. -/
namespace K01
abbrev Rg := List (Int × Int)
/-- x lies in a range of ps -/
def Mem (x : Int) (ps : Rg) : Prop := ∃ p ∈ ps, p.1 ≤ x ∧ x ≤ p.2
/-- ascending, apart, from b on to 255 -/
def Can : Int → Rg → Prop
  | _, [] => True
  | b, p :: r => b ≤ p.1 ∧ p.1 ≤ p.2 ∧ p.2 ≤ 255 ∧ Can (p.2 + 2) r
theorem mem_nil {x : Int} : ¬ Mem x [] := fun ⟨_, h, _⟩ => by cases h
theorem mem_cons {x : Int} {p : Int × Int} {r : Rg} : Mem x (p :: r) ↔ (p.1 ≤ x ∧ x ≤ p.2) ∨ Mem x r := by
  constructor
  · rintro ⟨q, h, e⟩
    rcases List.mem_cons.mp h with z | z
    · subst z
      exact .inl e
    · exact .inr ⟨q, z, e⟩
  · rintro (e | ⟨q, z, e⟩)
    · exact ⟨p, List.mem_cons_self .., e⟩
    · exact ⟨q, List.mem_cons_of_mem _ z, e⟩
theorem mem_app {x : Int} {ps qs : Rg} : Mem x (ps ++ qs) ↔ Mem x ps ∨ Mem x qs := by
  constructor
  · rintro ⟨q, h, e⟩
    rcases List.mem_append.mp h with z | z
    · exact .inl ⟨q, z, e⟩
    · exact .inr ⟨q, z, e⟩
  · rintro (⟨q, z, e⟩ | ⟨q, z, e⟩)
    · exact ⟨q, List.mem_append_left _ z, e⟩
    · exact ⟨q, List.mem_append_right _ z, e⟩
theorem mem_one {x : Int} {p : Int × Int} : Mem x [p] ↔ p.1 ≤ x ∧ x ≤ p.2 := by
  rw [mem_cons]
  exact ⟨fun h => h.resolve_right mem_nil, .inl⟩
theorem Can.mono {b c : Int} {ps : Rg} (h : Can b ps) (l : c ≤ b) : Can c ps := by
  cases ps with
  | nil => trivial
  | cons p r => exact ⟨Int.le_trans l h.1, h.2⟩
theorem Can.ge : ∀ {ps : Rg} {b x : Int}, Can b ps → Mem x ps → b ≤ x ∧ x ≤ 255
  | [], _, _, _, h => absurd h mem_nil
  | p :: r, b, x, c, h => by
    obtain ⟨c1, c2, c3, c4⟩ := c
    rcases mem_cons.mp h with z | z
    · omega
    · have := Can.ge c4 z
      omega
theorem can_ext : ∀ {ps qs : Rg} {b : Int}, Can b ps → Can b qs → (∀ x, Mem x ps ↔ Mem x qs) → ps = qs
  | [], [], _, _, _, _ => rfl
  | [], q :: r, _, _, c, h => absurd ((h q.1).mpr (mem_cons.mpr (.inl ⟨Int.le_refl _, c.2.1⟩))) mem_nil
  | p :: r, [], _, c, _, h => absurd ((h p.1).mp (mem_cons.mpr (.inl ⟨Int.le_refl _, c.2.1⟩))) mem_nil
  | p :: r, q :: s, b, c, d, h => by
    obtain ⟨c1, c2, c3, c4⟩ := c
    obtain ⟨d1, d2, d3, d4⟩ := d
    have l1 : q.1 ≤ p.1 := by
      rcases mem_cons.mp ((h p.1).mp (mem_cons.mpr (.inl ⟨Int.le_refl _, c2⟩))) with z | z
      · exact z.1
      · have := Can.ge d4 z
        omega
    have l2 : p.1 ≤ q.1 := by
      rcases mem_cons.mp ((h q.1).mpr (mem_cons.mpr (.inl ⟨Int.le_refl _, d2⟩))) with z | z
      · exact z.1
      · have := Can.ge c4 z
        omega
    have h1 : p.2 ≤ q.2 := by
      apply Int.not_lt.mp
      intro lt
      rcases mem_cons.mp ((h (q.2 + 1)).mp (mem_cons.mpr (.inl ⟨by omega, by omega⟩))) with z | z
      · omega
      · have := Can.ge d4 z
        omega
    have h2 : q.2 ≤ p.2 := by
      apply Int.not_lt.mp
      intro lt
      rcases mem_cons.mp ((h (p.2 + 1)).mpr (mem_cons.mpr (.inl ⟨by omega, by omega⟩))) with z | z
      · omega
      · have := Can.ge c4 z
        omega
    have e : p = q := Prod.ext (Int.le_antisymm l2 l1) (Int.le_antisymm h1 h2)
    subst e
    refine congrArg (p :: ·) (can_ext c4 d4 fun x => ⟨fun z => ?_, fun z => ?_⟩)
    · have g := Can.ge c4 z
      rcases mem_cons.mp ((h x).mp (mem_cons.mpr (.inr z))) with y | y
      · omega
      · exact y
    · have g := Can.ge d4 z
      rcases mem_cons.mp ((h x).mpr (mem_cons.mpr (.inr z))) with y | y
      · omega
      · exact y
/-- one range more -/
theorem can_snoc : ∀ {ps : Rg} {b l h : Int}, Can b ps → (∀ p ∈ ps, p.2 + 1 < l) → b ≤ l → l ≤ h → h ≤ 255 → Can b (ps ++ [(l, h)])
  | [], b, l, h, _, _, h1, h2, h3 => ⟨h1, h2, h3, trivial⟩
  | p :: r, b, l, h, c, a, h1, h2, h3 => ⟨c.1, c.2.1, c.2.2.1, can_snoc c.2.2.2 (fun q hq => a q (List.mem_cons_of_mem _ hq)) (by
      have := a p (List.mem_cons_self ..)
      omega) h2 h3⟩
/-- the last range made longer -/
theorem can_last : ∀ {ps : Rg} {b l h h' : Int}, Can b (ps ++ [(l, h)]) → h ≤ h' → h' ≤ 255 → Can b (ps ++ [(l, h')])
  | [], b, l, h, h', c, h1, h2 => ⟨c.1, Int.le_trans c.2.1 h1, h2, trivial⟩
  | p :: r, b, l, h, h', c, h1, h2 => ⟨c.1, c.2.1, c.2.2.1, can_last c.2.2.2 h1 h2⟩
theorem can_pre : ∀ {ps qs : Rg} {b : Int}, Can b (ps ++ qs) → Can b ps
  | [], _, _, _ => trivial
  | p :: r, qs, b, c => ⟨c.1, c.2.1, c.2.2.1, can_pre c.2.2.2⟩
/-- ahead of the last range -/
theorem can_before : ∀ {ps : Rg} {b l h : Int}, Can b (ps ++ [(l, h)]) → (∀ p ∈ ps, p.2 + 1 < l) ∧ b ≤ l ∧ l ≤ h ∧ h ≤ 255
  | [], b, l, h, c => ⟨(fun p hp => by cases hp), c.1, c.2.1, c.2.2.1⟩
  | q :: r, b, l, h, c => by
    obtain ⟨c1, c2, c3, c4⟩ := c
    obtain ⟨d1, d2, d3, d4⟩ := can_before c4
    refine ⟨fun p hp => ?_, by omega, d3, d4⟩
    rcases List.mem_cons.mp hp with z | z
    · subst z
      omega
    · exact d1 p z
theorem can_item : ∀ {ps : Rg} {b : Int}, Can b ps → ∀ p ∈ ps, b ≤ p.1 ∧ p.1 ≤ p.2 ∧ p.2 ≤ 255
  | [], _, _, p, hp => by cases hp
  | q :: r, b, c, p, hp => by
    obtain ⟨c1, c2, c3, c4⟩ := c
    rcases List.mem_cons.mp hp with z | z
    · subst z
      exact ⟨c1, c2, c3⟩
    · have := can_item c4 p z
      omega
end K01
end
section
set_option autoImplicit false
set_option linter.all false
set_option maxRecDepth 100000
set_option maxHeartbeats 4000000
namespace K01
open PySem PyI
theorem d_is_tuple : P0.defs "is_tuple" = some ⟨3, 3, b_is_tuple⟩ := by kernel_rfl
theorem d_is_whole : P0.defs "is_whole" = some ⟨1, 1, b_is_whole⟩ := by kernel_rfl
theorem d_is_integer : P0.defs "is_integer" = some ⟨3, 3, b_is_integer⟩ := by kernel_rfl
theorem d_is_set : P0.defs "is_set" = some ⟨1, 5, b_is_set⟩ := by kernel_rfl
/-- a value whose kind is known -/
inductive Kd : D → Sto → Prop
  | non {st : Sto} : Kd .non st
  | bl {st : Sto} (b : Bool) : Kd (.bl b) st
  | int {st : Sto} (i : Int) : Kd (.int i) st
  | str {st : Sto} (x : Str) : Kd (.str x) st
  | tup {st : Sto} (xs : List D) : Kd (.tup xs) st
  | ref {st : Sto} {n : Nat} {w : Bool} {xs : List D} (e : st[n]? = some (.lst w xs)) : Kd (.ref n) st
def isTup (d : D) : Bool := match d with
  | .tup _ => true
  | _ => false
def isInt (d : D) : Bool := match d with
  | .int _ => true
  | _ => false
def isBl (d : D) : Bool := match d with
  | .bl _ => true
  | _ => false
theorem isi_tuple {d : D} {st : Sto} (h : Kd d st) : isiB .tuple P0.sub d st = some (isTup d) := by
  cases h with
  | ref e =>
    show (kindB (.ref _) st).map _ = _
    rw [kindB_lst e]
    rfl
  | _ => rfl
theorem isi_int {d : D} {st : Sto} (h : Kd d st) : isiB .int P0.sub d st = some (isInt d || isBl d) := by
  cases h with
  | ref e =>
    show (kindB (.ref _) st).map _ = _
    rw [kindB_lst e]
    rfl
  | _ => rfl
theorem isi_bool {d : D} {st : Sto} (h : Kd d st) : isiB .bool P0.sub d st = some (isBl d) := by
  cases h with
  | ref e =>
    show (kindB (.ref _) st).map _ = _
    rw [kindB_lst e]
    rfl
  | _ => rfl
def tup2 (d : D) : Bool := match d with
  | .tup xs => decide (xs.length = 2)
  | _ => false
theorem is_tuple_ok {n : Nat} {st : Sto} {d : D} (h : Kd d st) : W (callN P0 (n + 1) "is_tuple" [d, .int 2, .int 2] st) (fun v s => s = st ∧ v = .bl (tup2 d)) NE := by
  refine w_def d_is_tuple rfl rfl ?_
  simp only [b_is_tuple, w_ok, w_err, w_non, w_bl, w_int, w_str, w_con, w_var, w_tup, w_lst, w_bin, w_neg, w_not, w_and, w_or, w_cmp, w_chain, w_ite, w_call, w_callV, w_bi, w_isi, w_meth, w_ix, w_slc, w_rev, w_lrng, w_lzip, w_fld, t_not, t_and, t_or, t_cmp, t_var, t_call, t_bi, t_isi, t_ix, t_bl, t_chain, s_nil, s_cons, s_star, o_none, o_some, i_e, i_rng, i_zip, ss_nil, ss_cons, st_expr, st_ret, st_retN, st_pass, st_brk, st_cont, st_asg, st_par, st_setIx, st_iff, st_for, st_raise, ts_nil, ts_one, oQ_some, oQ_none, rq_ret, rq_nx, fq_nx, fq_cont, fq_brk, fq_ret, tgB, setAll, wipe, List.getElem?_cons_zero, List.getElem?_cons_succ, List.set_cons_zero, List.set_cons_succ, List.map_cons, List.map_nil, List.length_cons, List.length_nil, List.cons_append, List.nil_append, List.append_nil, List.replicate_succ, List.replicate_zero, Nat.reduceSub, Nat.sub_self, isi_tuple h]
  cases h with
  | tup xs =>
    simp [isTup, tup2, oQ, evB, seqOf, cmpB, intCmp]
    by_cases h2 : (2 : Int) ≤ (xs.length : Int)
    · simp [h2]
      omega
    · simp [h2]
      omega
  | _ => simp [isTup, tup2, oQ, evB, seqOf, cmpB, intCmp]
theorem is_whole_ok {n : Nat} {st : Sto} {d : D} (h : Kd d st) : W (callN P0 (n + 1) "is_whole" [d] st) (fun v s => s = st ∧ v = .bl (isInt d)) NE := by
  refine w_def d_is_whole rfl rfl ?_
  simp only [b_is_whole, w_ok, w_err, w_non, w_bl, w_int, w_str, w_con, w_var, w_tup, w_lst, w_bin, w_neg, w_not, w_and, w_or, w_cmp, w_chain, w_ite, w_call, w_callV, w_bi, w_isi, w_meth, w_ix, w_slc, w_rev, w_lrng, w_lzip, w_fld, t_not, t_and, t_or, t_cmp, t_var, t_call, t_bi, t_isi, t_ix, t_bl, t_chain, s_nil, s_cons, s_star, o_none, o_some, i_e, i_rng, i_zip, ss_nil, ss_cons, st_expr, st_ret, st_retN, st_pass, st_brk, st_cont, st_asg, st_par, st_setIx, st_iff, st_for, st_raise, ts_nil, ts_one, oQ_some, oQ_none, rq_ret, rq_nx, fq_nx, fq_cont, fq_brk, fq_ret, tgB, setAll, wipe, List.getElem?_cons_zero, List.getElem?_cons_succ, List.set_cons_zero, List.set_cons_succ, List.map_cons, List.map_nil, List.length_cons, List.length_nil, List.cons_append, List.nil_append, List.append_nil, List.replicate_succ, List.replicate_zero, Nat.reduceSub, Nat.sub_self, isi_int h, isi_bool h]
  cases h <;> simp [isInt, isBl, truth_bl, oQ]
def intIn (d : D) (lo hi : Int) : Bool := match d with
  | .int i => decide (lo ≤ i) && decide (i ≤ hi)
  | _ => false
theorem is_integer_ok {n : Nat} {st : Sto} {d : D} {lo hi : Int} (h : Kd d st) : W (callN P0 (n + 2) "is_integer" [d, .int lo, .int hi] st) (fun v s => s = st ∧ v = .bl (intIn d lo hi)) NE := by
  refine w_def d_is_integer rfl rfl ?_
  simp only [b_is_integer, w_ok, w_err, w_non, w_bl, w_int, w_str, w_con, w_var, w_tup, w_lst, w_bin, w_neg, w_not, w_and, w_or, w_cmp, w_chain, w_ite, w_call, w_callV, w_bi, w_isi, w_meth, w_ix, w_slc, w_rev, w_lrng, w_lzip, w_fld, t_not, t_and, t_or, t_cmp, t_var, t_call, t_bi, t_isi, t_ix, t_bl, t_chain, s_nil, s_cons, s_star, o_none, o_some, i_e, i_rng, i_zip, ss_nil, ss_cons, st_expr, st_ret, st_retN, st_pass, st_brk, st_cont, st_asg, st_par, st_setIx, st_iff, st_for, st_raise, ts_nil, ts_one, oQ_some, oQ_none, rq_ret, rq_nx, fq_nx, fq_cont, fq_brk, fq_ret, tgB, setAll, wipe, List.getElem?_cons_zero, List.getElem?_cons_succ, List.set_cons_zero, List.set_cons_succ, List.map_cons, List.map_nil, List.length_cons, List.length_nil, List.cons_append, List.nil_append, List.append_nil, List.replicate_succ, List.replicate_zero, Nat.reduceSub, Nat.sub_self]
  refine (is_whole_ok h).imp fun v s ⟨e1, e2⟩ => ?_
  subst e1 e2
  cases h with
  | int i =>
    simp [isInt, intIn, oQ, cmpB, intCmp]
    by_cases h2 : lo ≤ i <;> simp [h2]
  | _ => simp [isInt, intIn, oQ, cmpB, intCmp]

/-- .. and its parts' kinds -/
def Kn : Nat → D → Sto → Prop
  | 0, d, st => Kd d st
  | n + 1, d, st => Kd d st ∧ ∀ xs, d = .tup xs → ∀ x ∈ xs, Kn n x st
theorem Kn.kd {n : Nat} {d : D} {st : Sto} (h : Kn n d st) : Kd d st := by
  cases n with
  | zero => exact h
  | succ n => exact h.1
theorem Kd.fr {d : D} {s t : Sto} (h : Kd d s) (f : Fr [] s t) : Kd d t := by
  cases h with
  | non => exact .non
  | bl b => exact .bl b
  | int i => exact .int i
  | str x => exact .str x
  | tup xs => exact .tup xs
  | ref e => exact .ref (f.get e)
theorem Kn.fr : ∀ {n : Nat} {d : D} {s t : Sto}, Kn n d s → Fr [] s t → Kn n d t
  | 0, _, _, _, h, f => Kd.fr h f
  | n + 1, _, _, _, h, f => ⟨h.1.fr f, fun xs e x hx => (h.2 xs e x hx).fr f⟩
def okPair (d : D) : Bool := match d with
  | .tup [a, b] => (match a with
    | .int i => intIn a 0 255 && intIn b i 255
    | _ => false)
  | _ => false
def gapD (a b : D) : Bool := match a, b with
  | .tup [_, .int h], .tup [.int l, _] => decide (h + 1 < l)
  | _, _ => false
def isSet (d : D) : Bool := match d with
  | .tup xs => xs.all okPair && (List.zipWith gapD xs (xs.drop 1)).all id
  | _ => false
theorem okPair_int {d : D} (h : okPair d = true) : ∃ i j : Int, d = .tup [.int i, .int j] ∧ 0 ≤ i ∧ i ≤ j ∧ j ≤ 255 := by
  unfold okPair at h
  split at h
  · rename_i a b
    split at h
    · rename_i i
      obtain ⟨h1, h2⟩ := Bool.and_eq_true_iff.mp h
      cases b with
      | int j =>
        simp only [intIn, Bool.and_eq_true, decide_eq_true_eq] at h1 h2
        exact ⟨i, j, rfl, h1.1, h2.1, h2.2⟩
      | _ => cases h2
    · cases h
  · cases h
theorem mem_zip {α β γ : Type} {f : α → β → γ} {xs : List α} {ys : List β} {d : γ} (h : d ∈ List.zipWith f xs ys) : ∃ x ∈ xs, ∃ y ∈ ys, d = f x y := by
  obtain ⟨i, hi, e⟩ := List.mem_iff_getElem.mp h
  rw [List.getElem_zipWith] at e
  exact ⟨_, List.getElem_mem _, _, List.getElem_mem _, e.symm⟩
theorem all_zip {q : D → Bool} {g : D → D → Bool} (h : ∀ a b, q (.tup [a, b]) = g a b) : ∀ xs ys : List D, (List.zipWith (fun x y => D.tup [x, y]) xs ys).all q = (List.zipWith g xs ys).all id
  | [], ys => by simp
  | x :: xs, [] => by simp
  | x :: xs, y :: ys => by simp only [List.zipWith_cons_cons, List.all_cons, h, all_zip h xs ys, id]
theorem cut1 {α : Type} (xs : List α) : cut xs (some 1) none = xs.drop 1 := by
  unfold cut clip
  cases xs with
  | nil => rfl
  | cons x r => simp
theorem is_set_ok {n : Nat} {st : Sto} {d : D} (h : Kn 2 d st) (hl : ∀ xs, d = .tup xs → xs.length < LIM) : W (callN P0 (n + 4) "is_set" [d] st) (fun v s => Fr [] st s ∧ v = .bl (isSet d)) NE := by
  refine w_def d_is_set rfl rfl ?_
  simp only [b_is_set, w_ok, w_err, w_non, w_bl, w_int, w_str, w_con, w_var, w_tup, w_lst, w_bin, w_neg, w_not, w_and, w_or, w_cmp, w_chain, w_ite, w_call, w_callV, w_bi, w_isi, w_meth, w_ix, w_slc, w_rev, w_lrng, w_lzip, w_fld, t_not, t_and, t_or, t_cmp, t_var, t_call, t_bi, t_isi, t_ix, t_bl, t_chain, s_nil, s_cons, s_star, o_none, o_some, i_e, i_rng, i_zip, ss_nil, ss_cons, st_expr, st_ret, st_retN, st_pass, st_brk, st_cont, st_asg, st_par, st_setIx, st_iff, st_for, st_raise, ts_nil, ts_one, oQ_some, oQ_none, rq_ret, rq_nx, fq_nx, fq_cont, fq_brk, fq_ret, tgB, setAll, wipe, List.getElem?_cons_zero, List.getElem?_cons_succ, List.set_cons_zero, List.set_cons_succ, List.map_cons, List.map_nil, List.length_cons, List.length_nil, List.cons_append, List.nil_append, List.append_nil, List.replicate_succ, List.replicate_zero, Nat.reduceSub, Nat.sub_self, isi_tuple h.1]
  cases hk : h.1 with
  | tup xs =>
    simp only [isTup, truth_bl, oQ_some, Bool.not_true]
    rw [w_lc rfl]
    simp only [w_ok, w_err, w_non, w_bl, w_int, w_str, w_con, w_var, w_tup, w_lst, w_bin, w_neg, w_not, w_and, w_or, w_cmp, w_chain, w_ite, w_call, w_callV, w_bi, w_isi, w_meth, w_ix, w_slc, w_rev, w_lrng, w_lzip, w_fld, t_not, t_and, t_or, t_cmp, t_var, t_call, t_bi, t_isi, t_ix, t_bl, t_chain, s_nil, s_cons, s_star, o_none, o_some, i_e, i_rng, i_zip, ss_nil, ss_cons, st_expr, st_ret, st_retN, st_pass, st_brk, st_cont, st_asg, st_par, st_setIx, st_iff, st_for, st_raise, ts_nil, ts_one, oQ_some, oQ_none, rq_ret, rq_nx, fq_nx, fq_cont, fq_brk, fq_ret, tgB, setAll, wipe, List.getElem?_cons_zero, List.getElem?_cons_succ, List.set_cons_zero, List.set_cons_succ, List.map_cons, List.map_nil, List.length_cons, List.length_nil, List.cons_append, List.nil_append, List.append_nil, List.replicate_succ, List.replicate_zero, Nat.reduceSub, Nat.sub_self, itOf]
    refine lc_map (fun d => .bl (tup2 d)) rfl (hl xs rfl) (fun d hd s fr => ?_) fun s fr e => ?_
    · simp only [w_ok, w_err, w_non, w_bl, w_int, w_str, w_con, w_var, w_tup, w_lst, w_bin, w_neg, w_not, w_and, w_or, w_cmp, w_chain, w_ite, w_call, w_callV, w_bi, w_isi, w_meth, w_ix, w_slc, w_rev, w_lrng, w_lzip, w_fld, t_not, t_and, t_or, t_cmp, t_var, t_call, t_bi, t_isi, t_ix, t_bl, t_chain, s_nil, s_cons, s_star, o_none, o_some, i_e, i_rng, i_zip, ss_nil, ss_cons, st_expr, st_ret, st_retN, st_pass, st_brk, st_cont, st_asg, st_par, st_setIx, st_iff, st_for, st_raise, ts_nil, ts_one, oQ_some, oQ_none, rq_ret, rq_nx, fq_nx, fq_cont, fq_brk, fq_ret, tgB, setAll, wipe, List.getElem?_cons_zero, List.getElem?_cons_succ, List.set_cons_zero, List.set_cons_succ, List.map_cons, List.map_nil, List.length_cons, List.length_nil, List.cons_append, List.nil_append, List.append_nil, List.replicate_succ, List.replicate_zero, Nat.reduceSub, Nat.sub_self]
      refine (is_tuple_ok (n := n + 2) ((h.2 xs rfl d hd).kd.fr fr)).imp fun v t ⟨e1, e2⟩ => ?_
      subst e1 e2
      exact ⟨Fr.refl _ _, rfl⟩
    simp only [evB_all e, oQ_some, truth_bl]
    cases h1 : xs.all tup2 with
    | false =>
      refine ⟨fr, ?_⟩
      have e1 : xs.all okPair = false := by
        rw [Bool.eq_false_iff] at h1 ⊢
        intro z
        refine h1 (List.all_eq_true.mpr fun x hx => ?_)
        have y := List.all_eq_true.mp z x hx
        unfold okPair at y
        split at y
        · rfl
        · cases y
      simp [isSet, e1]
    | true =>
      simp only [Bool.not_true, Bool.not_false]
      rw [w_lc rfl]
      simp only [w_ok, w_err, w_non, w_bl, w_int, w_str, w_con, w_var, w_tup, w_lst, w_bin, w_neg, w_not, w_and, w_or, w_cmp, w_chain, w_ite, w_call, w_callV, w_bi, w_isi, w_meth, w_ix, w_slc, w_rev, w_lrng, w_lzip, w_fld, t_not, t_and, t_or, t_cmp, t_var, t_call, t_bi, t_isi, t_ix, t_bl, t_chain, s_nil, s_cons, s_star, o_none, o_some, i_e, i_rng, i_zip, ss_nil, ss_cons, st_expr, st_ret, st_retN, st_pass, st_brk, st_cont, st_asg, st_par, st_setIx, st_iff, st_for, st_raise, ts_nil, ts_one, oQ_some, oQ_none, rq_ret, rq_nx, fq_nx, fq_cont, fq_brk, fq_ret, tgB, setAll, wipe, List.getElem?_cons_zero, List.getElem?_cons_succ, List.set_cons_zero, List.set_cons_succ, List.map_cons, List.map_nil, List.length_cons, List.length_nil, List.cons_append, List.nil_append, List.append_nil, List.replicate_succ, List.replicate_zero, Nat.reduceSub, Nat.sub_self, itOf]
      refine lc_map (fun d => .bl (okPair d)) rfl (hl xs rfl) (fun d hd t ft => ?_) fun t ft e2 => ?_
      · have y := List.all_eq_true.mp h1 d hd
        have kn := (h.2 xs rfl d hd).fr (fr.trans ft)
        obtain ⟨a, b, ed⟩ : ∃ a b, d = .tup [a, b] := by
          unfold tup2 at y
          split at y
          · rename_i zs
            match zs, of_decide_eq_true y with
            | [a, b], _ => exact ⟨a, b, rfl⟩
          · cases y
        subst ed
        have ka := (kn.2 _ rfl a (by simp)).kd
        have kb := (kn.2 _ rfl b (by simp)).kd
        simp only [w_ok, w_err, w_non, w_bl, w_int, w_str, w_con, w_var, w_tup, w_lst, w_bin, w_neg, w_not, w_and, w_or, w_cmp, w_chain, w_ite, w_call, w_callV, w_bi, w_isi, w_meth, w_ix, w_slc, w_rev, w_lrng, w_lzip, w_fld, t_not, t_and, t_or, t_cmp, t_var, t_call, t_bi, t_isi, t_ix, t_bl, t_chain, s_nil, s_cons, s_star, o_none, o_some, i_e, i_rng, i_zip, ss_nil, ss_cons, st_expr, st_ret, st_retN, st_pass, st_brk, st_cont, st_asg, st_par, st_setIx, st_iff, st_for, st_raise, ts_nil, ts_one, oQ_some, oQ_none, rq_ret, rq_nx, fq_nx, fq_cont, fq_brk, fq_ret, tgB, setAll, wipe, List.getElem?_cons_zero, List.getElem?_cons_succ, List.set_cons_zero, List.set_cons_succ, List.map_cons, List.map_nil, List.length_cons, List.length_nil, List.cons_append, List.nil_append, List.append_nil, List.replicate_succ, List.replicate_zero, Nat.reduceSub, Nat.sub_self]
        refine (is_integer_ok (n := n + 1) ka).imp fun v u ⟨e3, e4⟩ => ?_
        subst e3 e4
        cases h3 : intIn a 0 255 with
        | false => exact ⟨Fr.refl _ _, by
            unfold okPair
            cases a with
            | int i => simp [h3]
            | _ => rfl⟩
        | true =>
          obtain ⟨i, ei⟩ : ∃ i, a = .int i := by
            cases a with
            | int i => exact ⟨i, rfl⟩
            | _ => cases h3
          subst ei
          simp only [w_ok, w_err, w_non, w_bl, w_int, w_str, w_con, w_var, w_tup, w_lst, w_bin, w_neg, w_not, w_and, w_or, w_cmp, w_chain, w_ite, w_call, w_callV, w_bi, w_isi, w_meth, w_ix, w_slc, w_rev, w_lrng, w_lzip, w_fld, t_not, t_and, t_or, t_cmp, t_var, t_call, t_bi, t_isi, t_ix, t_bl, t_chain, s_nil, s_cons, s_star, o_none, o_some, i_e, i_rng, i_zip, ss_nil, ss_cons, st_expr, st_ret, st_retN, st_pass, st_brk, st_cont, st_asg, st_par, st_setIx, st_iff, st_for, st_raise, ts_nil, ts_one, oQ_some, oQ_none, rq_ret, rq_nx, fq_nx, fq_cont, fq_brk, fq_ret, tgB, setAll, wipe, List.getElem?_cons_zero, List.getElem?_cons_succ, List.set_cons_zero, List.set_cons_succ, List.map_cons, List.map_nil, List.length_cons, List.length_nil, List.cons_append, List.nil_append, List.append_nil, List.replicate_succ, List.replicate_zero, Nat.reduceSub, Nat.sub_self]
          refine (is_integer_ok (n := n + 1) kb).imp fun v u ⟨e3, e4⟩ => ?_
          subst e3 e4
          exact ⟨Fr.refl _ _, by simp [okPair, h3]⟩
      · simp only [evB_all e2, oQ_some, truth_bl]
        cases h2 : xs.all okPair with
        | false => exact ⟨fr.trans ft, by simp [isSet, h2]⟩
        | true =>
          simp only [Bool.not_true, Bool.not_false]
          rw [w_lc rfl]
          simp only [w_ok, w_err, w_non, w_bl, w_int, w_str, w_con, w_var, w_tup, w_lst, w_bin, w_neg, w_not, w_and, w_or, w_cmp, w_chain, w_ite, w_call, w_callV, w_bi, w_isi, w_meth, w_ix, w_slc, w_rev, w_lrng, w_lzip, w_fld, t_not, t_and, t_or, t_cmp, t_var, t_call, t_bi, t_isi, t_ix, t_bl, t_chain, s_nil, s_cons, s_star, o_none, o_some, i_e, i_rng, i_zip, ss_nil, ss_cons, st_expr, st_ret, st_retN, st_pass, st_brk, st_cont, st_asg, st_par, st_setIx, st_iff, st_for, st_raise, ts_nil, ts_one, oQ_some, oQ_none, rq_ret, rq_nx, fq_nx, fq_cont, fq_brk, fq_ret, tgB, setAll, wipe, List.getElem?_cons_zero, List.getElem?_cons_succ, List.set_cons_zero, List.set_cons_succ, List.map_cons, List.map_nil, List.length_cons, List.length_nil, List.cons_append, List.nil_append, List.append_nil, List.replicate_succ, List.replicate_zero, Nat.reduceSub, Nat.sub_self, slcB, cut1, zipOf]
          refine lc_map (ds := List.zipWith (fun x y => D.tup [x, y]) xs (xs.drop 1)) (fun d => .bl (match d with
            | .tup [a, b] => gapD a b
            | _ => false)) rfl ?_ (fun d hd u fu => ?_) fun u fu e3 => ?_
          · rw [List.length_zipWith]
            have := hl xs rfl
            omega
          · obtain ⟨a, ha, b, hb, ed⟩ := mem_zip hd
            obtain ⟨i1, j1, ea, _⟩ := okPair_int (List.all_eq_true.mp h2 a ha)
            obtain ⟨i2, j2, eb, _⟩ := okPair_int (List.all_eq_true.mp h2 b (List.mem_of_mem_drop hb))
            subst ed ea eb
            simp [w_ok, w_err, w_non, w_bl, w_int, w_str, w_con, w_var, w_tup, w_lst, w_bin, w_neg, w_not, w_and, w_or, w_cmp, w_chain, w_ite, w_call, w_callV, w_bi, w_isi, w_meth, w_ix, w_slc, w_rev, w_lrng, w_lzip, w_fld, t_not, t_and, t_or, t_cmp, t_var, t_call, t_bi, t_isi, t_ix, t_bl, t_chain, s_nil, s_cons, s_star, o_none, o_some, i_e, i_rng, i_zip, ss_nil, ss_cons, st_expr, st_ret, st_retN, st_pass, st_brk, st_cont, st_asg, st_par, st_setIx, st_iff, st_for, st_raise, ts_nil, ts_one, oQ_some, oQ_none, rq_ret, rq_nx, fq_nx, fq_cont, fq_brk, fq_ret, tgB, setAll, wipe, List.getElem?_cons_zero, List.getElem?_cons_succ, List.set_cons_zero, List.set_cons_succ, List.map_cons, List.map_nil, List.length_cons, List.length_nil, List.cons_append, List.nil_append, List.append_nil, List.replicate_succ, List.replicate_zero, Nat.reduceSub, Nat.sub_self, ixB, atD, opB, cmpB, intCmp, gapD, Fr.refl]
          · simp only [evB_all e3, oQ_some]
            refine ⟨(fr.trans ft).trans fu, ?_⟩
            simp only [isSet, h2, Bool.true_and]
            congr 1
            exact all_zip (fun a b => rfl) xs _
  | _ => 
    simp [isTup, truth, oQ, isSet, w_ok, w_err, w_non, w_bl, w_int, w_str, w_con, w_var, w_tup, w_lst, w_bin, w_neg, w_not, w_and, w_or, w_cmp, w_chain, w_ite, w_call, w_callV, w_bi, w_isi, w_meth, w_ix, w_slc, w_rev, w_lrng, w_lzip, w_fld, t_not, t_and, t_or, t_cmp, t_var, t_call, t_bi, t_isi, t_ix, t_bl, t_chain, s_nil, s_cons, s_star, o_none, o_some, i_e, i_rng, i_zip, ss_nil, ss_cons, st_expr, st_ret, st_retN, st_pass, st_brk, st_cont, st_asg, st_par, st_setIx, st_iff, st_for, st_raise, ts_nil, ts_one, oQ_some, oQ_none, rq_ret, rq_nx, fq_nx, fq_cont, fq_brk, fq_ret, tgB, setAll, wipe, List.getElem?_cons_zero, List.getElem?_cons_succ, List.set_cons_zero, List.set_cons_succ, List.map_cons, List.map_nil, List.length_cons, List.length_nil, List.cons_append, List.nil_append, List.append_nil, List.replicate_succ, List.replicate_zero, Nat.reduceSub, Nat.sub_self]
    exact Fr.refl _ _

/-! ### rows of ranges as values -/
def rgD (ps : Rg) : D := .tup (ps.map prD)
theorem okPair_of {p : Int × Int} (h : 0 ≤ p.1 ∧ p.1 ≤ p.2 ∧ p.2 ≤ 255) : okPair (prD p) = true := by
  obtain ⟨h1, h2, h3⟩ := h
  have h4 : p.1 ≤ 255 := Int.le_trans h2 h3
  simp [okPair, prD, intIn, h1, h2, h3, h4]
theorem gaps_of : ∀ {ps : Rg} {b : Int}, Can b ps → (List.zipWith gapD (ps.map prD) ((ps.map prD).drop 1)).all id = true
  | [], _, _ => rfl
  | [p], _, _ => rfl
  | p :: q :: r, b, c => by
    obtain ⟨c1, c2, c3, c4⟩ := c
    have ih := gaps_of c4
    have g : gapD (prD p) (prD q) = true := by
      have := c4.1
      simp only [gapD, prD, decide_eq_true_eq]
      omega
    simp only [List.map_cons, List.drop_succ_cons, List.drop_zero, List.zipWith_cons_cons, List.all_cons, g, id, Bool.true_and]
    simpa using ih
theorem isSet_rg {ps : Rg} (c : Can 0 ps) : isSet (rgD ps) = true := by
  show ((ps.map prD).all okPair && _) = true
  rw [Bool.and_eq_true]
  refine ⟨List.all_eq_true.mpr fun x hx => ?_, gaps_of c⟩
  obtain ⟨p, hp, e⟩ := List.mem_map.mp hx
  subst e
  exact okPair_of (can_item c p hp)
theorem rg_of : ∀ {xs : List D}, xs.all okPair = true → (List.zipWith gapD xs (xs.drop 1)).all id = true → ∃ ps : Rg, xs = ps.map prD ∧ ∀ b, (∀ p, ps.head? = some p → b ≤ p.1) → Can b ps
  | [], _, _ => ⟨[], rfl, fun _ _ => trivial⟩
  | x :: r, h1, h2 => by
    simp only [List.all_cons, Bool.and_eq_true] at h1
    obtain ⟨i, j, e, a1, a2, a3⟩ := okPair_int h1.1
    subst e
    have h3 : (List.zipWith gapD r (r.drop 1)).all id = true := by
      cases r with
      | nil => rfl
      | cons y s =>
        simp only [List.drop_succ_cons, List.drop_zero, List.zipWith_cons_cons, List.all_cons, Bool.and_eq_true] at h2
        simpa using h2.2
    obtain ⟨ps, e, c⟩ := rg_of h1.2 h3
    subst e
    refine ⟨(i, j) :: ps, rfl, fun b hb => ⟨hb (i, j) rfl, a2, a3, c _ fun p hp => ?_⟩⟩
    cases ps with
    | nil => cases hp
    | cons q s =>
      cases hp
      simp only [List.map_cons, List.drop_succ_cons, List.drop_zero, List.zipWith_cons_cons, List.all_cons, Bool.and_eq_true, id, gapD, prD, decide_eq_true_eq] at h2
      have := h2.1
      show j + 2 ≤ p.1
      omega
theorem isSet_iff {d : D} : isSet d = true ↔ ∃ ps, d = rgD ps ∧ Can 0 ps := by
  constructor
  · intro h
    cases d with
    | tup xs =>
      obtain ⟨h1, h2⟩ := Bool.and_eq_true_iff.mp (show (xs.all okPair && (List.zipWith gapD xs (xs.drop 1)).all id) = true from h)
      obtain ⟨ps, e, c⟩ := rg_of h1 h2
      refine ⟨ps, by rw [e]; rfl, c 0 fun p hp => ?_⟩
      have hm : p ∈ ps := List.mem_of_mem_head? hp
      obtain ⟨i, j, e2, a1, _⟩ := okPair_int (List.all_eq_true.mp h1 (prD p) (by rw [e]; exact List.mem_map_of_mem hm))
      simp only [prD, D.tup.injEq, List.cons.injEq, D.int.injEq] at e2
      omega
    | _ => cases h
  · rintro ⟨ps, e, c⟩
    rw [e]
    exact isSet_rg c
end K01
end
section
/-! PyI4d: values without cells, as data: ==, repr. -/
set_option autoImplicit false
set_option linter.all false
set_option maxRecDepth 100000
set_option maxHeartbeats 4000000
namespace PyI
open PySem
mutual
def pd : D → PyData
  | .non => .none
  | .bl b => .bool b
  | .int i => .int i
  | .str x => .str x
  | .tup xs => .tuple (pds xs)
  | _ => .none
def pds : List D → List PyData
  | [] => []
  | x :: r => pd x :: pds r
end
mutual
/-- no cell, no exception, no function -/
def pureD : D → Bool
  | .non | .bl _ | .int _ => true
  | .str x => PyData.strOk x
  | .tup xs => pureDs xs
  | _ => false
def pureDs : List D → Bool
  | [] => true
  | x :: r => pureD x && pureDs r
end
mutual
def depD : D → Nat
  | .tup xs => depDs xs + 1
  | _ => 0
def depDs : List D → Nat
  | [] => 0
  | x :: r => max (depD x) (depDs r)
end
mutual
theorem deepN_pure {st : Sto} : ∀ (n : Nat) (d : D), pureD d = true → depD d ≤ n → deepN n st d = some (pd d)
  | n, .non, _, _ => by cases n <;> rfl
  | n, .bl b, _, _ => by cases n <;> rfl
  | n, .int i, _, _ => by cases n <;> rfl
  | n, .str x, _, _ => by cases n <;> rfl
  | 0, .tup xs, _, h => absurd h (by simp [depD])
  | n + 1, .tup xs, hp, h => by
    have := deepN_pures (st := st) n xs (show pureDs xs = true from hp) (by simp only [depD] at h; omega)
    show (xs.mapM (deepN n st)).map PyData.tuple = _
    rw [this]
    rfl
  | n, .ref _, hp, _ => by cases hp
  | n, .exc _ _, hp, _ => by cases hp
  | n, .fn _, hp, _ => by cases hp
theorem deepN_pures {st : Sto} : ∀ (n : Nat) (xs : List D), pureDs xs = true → depDs xs ≤ n → xs.mapM (deepN n st) = some (pds xs)
  | n, [], _, _ => by simp [pds]
  | n, x :: r, hp, h => by
    obtain ⟨h1, h2⟩ := Bool.and_eq_true_iff.mp (show (pureD x && pureDs r) = true from hp)
    have h' : max (depD x) (depDs r) ≤ n := h
    rw [List.mapM_cons, deepN_pure n x h1 (by omega), deepN_pures n r h2 (by omega)]
    rfl
end
mutual
theorem canLay_pd : ∀ d : D, pureD d = true → (pd d).canLay0 = true
  | .non, _ => by simp [pd, PyData.canLay0]
  | .bl b, _ => by simp [pd, PyData.canLay0]
  | .int i, _ => by simp [pd, PyData.canLay0]
  | .str x, h => by
    simp only [pd, PyData.canLay0]
    exact h
  | .tup xs, h => by
    simp only [pd, PyData.canLay0]
    exact canLay_pds xs h
  | .ref _, h => by cases h
  | .exc _ _, h => by cases h
  | .fn _, h => by cases h
theorem canLay_pds : ∀ xs : List D, pureDs xs = true → PyData.canLayAll0 (pds xs) = true
  | [], _ => by simp [pds, PyData.canLayAll0]
  | x :: r, h => by
    obtain ⟨h1, h2⟩ := Bool.and_eq_true_iff.mp (show (pureD x && pureDs r) = true from h)
    simp only [pds, PyData.canLayAll0, canLay_pd x h1, canLay_pds r h2, Bool.and_self]
end
mutual
theorem depth_pd : ∀ d : D, (pd d).depth = depD d
  | .non | .bl _ | .int _ | .str _ | .ref _ | .exc _ _ | .fn _ => by simp [pd, depD, PyData.depth]
  | .tup xs => by simp only [pd, depD, PyData.depth, depth_pds xs]
theorem depth_pds : ∀ xs : List D, PyData.depthAll (pds xs) = depDs xs
  | [] => by simp [pds, depDs, PyData.depthAll]
  | x :: r => by simp only [pds, depDs, PyData.depthAll, depth_pd x, depth_pds r]
end
/-- a value, its data: pure, or a list of pure values -/
def DatOf (st : Sto) (d : D) (p : PyData) : Prop := (pureD d = true ∧ depD d ≤ 60 ∧ p = pd d) ∨ ∃ n w xs, d = .ref n ∧ st[n]? = some (.lst w xs) ∧ pureDs xs = true ∧ depDs xs ≤ 60 ∧ p = .list (pds xs)
theorem DatOf.deep {st : Sto} {d : D} {p : PyData} (h : DatOf st d p) : PyI.deep st d = some p := by
  rcases h with ⟨h1, h2, h3⟩ | ⟨n, w, xs, e, h0, h1, h2, h3⟩
  · subst h3
    exact deepN_pure 66 d h1 (by omega)
  · subst e h3
    show (match st[n]? with
      | some (.lst _ ds) => (ds.mapM (deepN 65 st)).map PyData.list
      | _ => none) = _
    rw [h0]
    show (xs.mapM (deepN 65 st)).map PyData.list = _
    rw [deepN_pures 65 xs h1 (by omega)]
    rfl
theorem DatOf.shaped {st : Sto} {d : D} {p : PyData} (h : DatOf st d p) : SeqAt.shaped p = true := by
  unfold SeqAt.shaped
  rcases h with ⟨h1, h2, h3⟩ | ⟨n, w, xs, e, h0, h1, h2, h3⟩
  · subst h3
    rw [canLay_pd d h1, depth_pd, decide_eq_true (by omega : depD d ≤ 64)]
    rfl
  · subst e h3
    simp only [PyData.canLay0, PyData.depth, canLay_pds xs h1, depth_pds, Bool.true_and, decide_eq_true_eq]
    omega
theorem eqD_dat {st : Sto} {d e : D} {p q : PyData} (h1 : DatOf st d p) (h2 : DatOf st e q) : eqD d e st = some (PyData.eqv p q) := by
  unfold eqD
  rw [h1.deep, h2.deep]
  show (if SeqAt.shaped p && SeqAt.shaped q then some (PyData.eqv p q) else none) = _
  rw [h1.shaped, h2.shaped]
  rfl
theorem dat_pure {st : Sto} {d : D} (h : pureD d = true) (h2 : depD d ≤ 60) : DatOf st d (pd d) := .inl ⟨h, h2, rfl⟩
theorem dat_lst {st : Sto} {n : Nat} {w : Bool} {xs : List D} (e : st[n]? = some (.lst w xs)) (h : pureDs xs = true) (h2 : depDs xs ≤ 60) : DatOf st (.ref n) (.list (pds xs)) := .inr ⟨n, w, xs, rfl, e, h, h2, rfl⟩
/-! ### equal -/
mutual
/-- .. and no truth value -/
def plainD : D → Bool
  | .non | .int _ | .str _ => true
  | .tup xs => plainDs xs
  | _ => false
def plainDs : List D → Bool
  | [] => true
  | x :: r => plainD x && plainDs r
end
mutual
theorem eqv_plain : ∀ d e : D, plainD d = true → plainD e = true → (PyData.eqv (pd d) (pd e) = true ↔ d = e)
  | .non, e, _, he => by cases e <;> simp [pd, PyData.eqv] <;> cases he
  | .int i, e, _, he => by cases e <;> simp [pd, PyData.eqv] <;> cases he
  | .str i, e, _, he => by cases e <;> simp [pd, PyData.eqv] <;> cases he
  | .tup xs, e, hd, he => by
    cases e with
    | tup ys =>
      simp only [pd, PyData.eqv, D.tup.injEq]
      exact eqv_plains xs ys hd he
    | _ => simp [pd, PyData.eqv] <;> cases he
  | .bl _, _, hd, _ => by cases hd
  | .ref _, _, hd, _ => by cases hd
  | .exc _ _, _, hd, _ => by cases hd
  | .fn _, _, hd, _ => by cases hd
theorem eqv_plains : ∀ xs ys : List D, plainDs xs = true → plainDs ys = true → (PyData.eqvAll (pds xs) (pds ys) = true ↔ xs = ys)
  | [], [], _, _ => by simp [pds, PyData.eqvAll]
  | [], y :: s, _, _ => by simp [pds, PyData.eqvAll]
  | x :: r, [], _, _ => by simp [pds, PyData.eqvAll]
  | x :: r, y :: s, hx, hy => by
    obtain ⟨h1, h2⟩ := Bool.and_eq_true_iff.mp (show (plainD x && plainDs r) = true from hx)
    obtain ⟨h3, h4⟩ := Bool.and_eq_true_iff.mp (show (plainD y && plainDs s) = true from hy)
    simp only [pds, PyData.eqvAll, Bool.and_eq_true, eqv_plain x y h1 h3, eqv_plains r s h2 h4, List.cons.injEq]
end
theorem eqD_int {st : Sto} {i j : Int} : eqD (.int i) (.int j) st = some (decide (i = j)) := by
  rw [eqD_dat (dat_pure (d := .int i) rfl (Nat.zero_le _)) (dat_pure (d := .int j) rfl (Nat.zero_le _))]
  simp only [pd, PyData.eqv, Option.some.injEq]
  exact (by rfl : (i == j) = decide (i = j))
theorem eqD_bl {st : Sto} {i j : Bool} : eqD (.bl i) (.bl j) st = some (i == j) := by
  rw [eqD_dat (dat_pure (d := .bl i) rfl (Nat.zero_le _)) (dat_pure (d := .bl j) rfl (Nat.zero_le _))]
  simp only [pd, PyData.eqv]
theorem eqD_str {st : Sto} {x y : Str} (h1 : PyData.strOk x = true) (h2 : PyData.strOk y = true) : eqD (.str x) (.str y) st = some (x == y) := by
  rw [eqD_dat (dat_pure (d := .str x) h1 (Nat.zero_le _)) (dat_pure (d := .str y) h2 (Nat.zero_le _))]
  simp only [pd, PyData.eqv]
/-! ### repr -/
mutual
/-- .. whose whole numbers are small, with no text -/
def smD : D → Bool
  | .non | .bl _ => true
  | .int i => decide (0 ≤ i) && decide (i < 1000)
  | .tup xs => smDs xs
  | _ => false
def smDs : List D → Bool
  | [] => true
  | x :: r => smD x && smDs r
end
mutual
/-- a bound of its text's length -/
def wtD : D → Nat
  | .tup xs => wtDs xs + 3
  | _ => 5
def wtDs : List D → Nat
  | [] => 0
  | x :: r => wtD x + 2 + wtDs r
end
mutual
theorem pure_of_sm : ∀ d : D, smD d = true → pureD d = true
  | .non, _ => rfl
  | .bl _, _ => rfl
  | .int _, _ => rfl
  | .tup xs, h => pures_of_sm xs h
  | .str _, h => by cases h
  | .ref _, h => by cases h
  | .exc _ _, h => by cases h
  | .fn _, h => by cases h
theorem pures_of_sm : ∀ xs : List D, smDs xs = true → pureDs xs = true
  | [], _ => rfl
  | x :: r, h => by
    obtain ⟨h1, h2⟩ := Bool.and_eq_true_iff.mp (show (smD x && smDs r) = true from h)
    exact Bool.and_eq_true_iff.mpr ⟨pure_of_sm x h1, pures_of_sm r h2⟩
end
theorem small_text : ∀ i : Int, 0 ≤ i → i < 1000 → ((toString i : String) : Str).length ≤ 4 := by
  intro i h1 h2
  have key : ∀ k : Fin 1000, ((toString ((k.val : Nat) : Int) : String) : Str).length ≤ 4 := by decide +kernel
  have := key ⟨i.toNat, by omega⟩
  have e : ((i.toNat : Nat) : Int) = i := by omega
  rw [e] at this
  exact this
theorem str_len (x y : Str) : (x ++ y).length = x.length + y.length := by
  show (x.cps ++ y.cps).size = _
  rw [Array.size_append]
  rfl
theorem join_len : ∀ ts : List Str, (Str.join ", " ts).length ≤ (ts.map fun t => t.length + 2).sum
  | [] => Nat.le_refl _
  | [x] => by
    show x.length ≤ _
    simp
  | x :: y :: r => by
    have ih := join_len (y :: r)
    show (x ++ ", " ++ Str.join ", " (y :: r)).length ≤ _
    have e2 : ((", " : String) : Str).length = 2 := rfl
    rw [str_len, str_len, e2, List.map_cons, List.sum_cons]
    omega
mutual
theorem shown_len : ∀ d : D, smD d = true → (pd d).shown.length ≤ wtD d
  | .non, _ => by
    simp only [pd, PyData.shown, wtD]
    decide
  | .bl b, _ => by
    simp only [pd, PyData.shown, wtD]
    cases b <;> decide
  | .int i, h => by
    obtain ⟨h1, h2⟩ := Bool.and_eq_true_iff.mp (show (decide (0 ≤ i) && decide (i < 1000)) = true from h)
    simp only [pd, PyData.shown, wtD]
    have := small_text i (of_decide_eq_true h1) (of_decide_eq_true h2)
    omega
  | .tup xs, h => by
    have ih := shown_lens xs h
    simp only [pd, PyData.shown, wtD, tupleText]
    have e1 : ((("(" : String) : Str)).length = 1 := rfl
    have e3 : (((if (PyData.shownAll (pds xs)).length == 1 then ",)" else ")" : String) : Str)).length ≤ 2 := by split <;> decide
    rw [str_len, str_len, e1]
    have := join_len (PyData.shownAll (pds xs))
    omega
  | .str _, h => by cases h
  | .ref _, h => by cases h
  | .exc _ _, h => by cases h
  | .fn _, h => by cases h
theorem shown_lens : ∀ xs : List D, smDs xs = true → ((PyData.shownAll (pds xs)).map fun t => t.length + 2).sum ≤ wtDs xs
  | [], _ => by simp [pds, PyData.shownAll, wtDs]
  | x :: r, h => by
    obtain ⟨h1, h2⟩ := Bool.and_eq_true_iff.mp (show (smD x && smDs r) = true from h)
    have i1 := shown_len x h1
    have i2 := shown_lens r h2
    simp only [pds, PyData.shownAll, wtDs, List.map_cons, List.sum_cons]
    omega
end
mutual
theorem showable_sm : ∀ d : D, smD d = true → (pd d).showable = true
  | .non, _ => by simp [pd, PyData.showable]
  | .bl b, _ => by simp [pd, PyData.showable]
  | .int i, h => by
    obtain ⟨h1, h2⟩ := Bool.and_eq_true_iff.mp (show (decide (0 ≤ i) && decide (i < 1000)) = true from h)
    have h1 := of_decide_eq_true h1
    have h2 := of_decide_eq_true h2
    simp only [pd, PyData.showable, decide_eq_true_eq]
    have h3 : i.natAbs < 2 ^ 10 := by omega
    by_cases z : i.natAbs = 0
    · rw [z]
      decide
    · have := (Nat.log2_lt z).mpr h3
      omega
  | .tup xs, h => by
    simp only [pd, PyData.showable]
    exact showable_sms xs h
  | .str _, h => by cases h
  | .ref _, h => by cases h
  | .exc _ _, h => by cases h
  | .fn _, h => by cases h
theorem showable_sms : ∀ xs : List D, smDs xs = true → PyData.showableAll (pds xs) = true
  | [], _ => by simp [pds, PyData.showableAll]
  | x :: r, h => by
    obtain ⟨h1, h2⟩ := Bool.and_eq_true_iff.mp (show (smD x && smDs r) = true from h)
    simp only [pds, PyData.showableAll, showable_sm x h1, showable_sms r h2, Bool.and_self]
end
theorem sok_of (s : String) : PyData.strOk (Str.ofString s) = true := by
  rw [Str.ofString_eq_toList]
  unfold PyData.strOk
  rw [Array.all_eq_true']
  intro k hk
  simp only [List.mem_toArray, List.mem_map] at hk
  obtain ⟨c, _, e⟩ := hk
  have h := c.valid
  simp only [UInt32.isValidChar, Nat.isValidChar] at h
  rw [← e, decide_eq_true_eq]
  have e2 : c.toNat = c.val.toNat := rfl
  rw [e2]
  omega
theorem sok_app {x y : Str} (h1 : PyData.strOk x = true) (h2 : PyData.strOk y = true) : PyData.strOk (x ++ y) = true := by
  show (x.cps ++ y.cps).all (fun c => decide (c < 0x110000)) = true
  rw [Array.all_append]
  exact Bool.and_eq_true_iff.mpr ⟨h1, h2⟩
theorem sok_join : ∀ ts : List Str, (∀ t ∈ ts, PyData.strOk t = true) → PyData.strOk (Str.join ", " ts) = true
  | [], _ => by decide +kernel
  | [x], h => h x (List.mem_cons_self ..)
  | x :: y :: r, h => sok_app (sok_app (h x (List.mem_cons_self ..)) (sok_of _)) (sok_join (y :: r) fun t ht => h t (List.mem_cons_of_mem _ ht))
theorem sok_from : ∀ (ts : List Str) (k : Nat) (acc : Str), PyData.strOk acc = true → (∀ t ∈ ts, PyData.strOk t = true) → PyData.strOk (textFrom k acc ts) = true
  | [], _, _, h, _ => h
  | t :: r, k, acc, h, ht => sok_from r (k + 1) _ (sok_app (sok_app h (sok_of _)) (ht t (List.mem_cons_self ..))) fun u hu => ht u (List.mem_cons_of_mem _ hu)
theorem from_len : ∀ (ts : List Str) (k : Nat) (acc : Str), (textFrom k acc ts).length ≤ acc.length + (ts.map fun t => t.length + 2).sum
  | [], _, _ => Nat.le_add_right _ _
  | t :: r, k, acc => by
    have ih := from_len r (k + 1) (acc ++ (if k > 0 then ", " else "" : String) ++ t)
    have e : ((if k > 0 then ", " else "" : String) : Str).length ≤ 2 := by split <;> decide
    rw [str_len, str_len] at ih
    show (textFrom (k + 1) (acc ++ (if k > 0 then ", " else "" : String) ++ t) r).length ≤ _
    rw [List.map_cons, List.sum_cons]
    omega
mutual
theorem sok_sm : ∀ d : D, smD d = true → PyData.strOk (pd d).shown = true
  | .non, _ => by
    simp only [pd, PyData.shown]
    exact sok_of _
  | .bl b, _ => by
    simp only [pd, PyData.shown]
    cases b <;> exact sok_of _
  | .int i, h => by
    simp only [pd, PyData.shown]
    exact sok_of _
  | .tup xs, h => by
    simp only [pd, PyData.shown, tupleText]
    exact sok_app (sok_app (sok_of _) (sok_join _ (sok_sms xs h))) (sok_of _)
  | .str _, h => by cases h
  | .ref _, h => by cases h
  | .exc _ _, h => by cases h
  | .fn _, h => by cases h
theorem sok_sms : ∀ xs : List D, smDs xs = true → ∀ t ∈ PyData.shownAll (pds xs), PyData.strOk t = true
  | [], _, t, ht => by simp [pds, PyData.shownAll] at ht
  | x :: r, h, t, ht => by
    obtain ⟨h1, h2⟩ := Bool.and_eq_true_iff.mp (show (smD x && smDs r) = true from h)
    simp only [pds, PyData.shownAll, List.mem_cons] at ht
    rcases ht with z | z
    · rw [z]
      exact sok_sm x h1
    · exact sok_sms r h2 t z
end
/-- a small value, or a list of such, of no long text -/
def SmOf (st : Sto) (d : D) (p : PyData) : Prop := (smD d = true ∧ depD d ≤ 60 ∧ wtD d ≤ LIM ∧ p = pd d) ∨ ∃ n w xs, d = .ref n ∧ st[n]? = some (.lst w xs) ∧ smDs xs = true ∧ depDs xs ≤ 60 ∧ wtDs xs + 3 ≤ LIM ∧ p = .list (pds xs)
theorem SmOf.dat {st : Sto} {d : D} {p : PyData} (h : SmOf st d p) : DatOf st d p := by
  rcases h with ⟨h1, h2, h3, h4⟩ | ⟨n, w, xs, e, h0, h1, h2, h3, h4⟩
  · exact .inl ⟨pure_of_sm d h1, h2, h4⟩
  · exact .inr ⟨n, w, xs, e, h0, pures_of_sm xs h1, h2, h4⟩
theorem repr_sm {st : Sto} {d : D} {p : PyData} (h : SmOf st d p) : evB .repr [d] st = some (.str p.shown, st) ∧ PyData.strOk p.shown = true := by
  have h0 : (p.showable = true ∧ p.shown.length ≤ LIM ∧ p.depth ≤ 64) ∧ PyData.strOk p.shown = true := by
    rcases h with ⟨h1, h2, h3, h4⟩ | ⟨n, w, xs, e, h0, h1, h2, h3, h4⟩
    · subst h4
      exact ⟨⟨showable_sm d h1, Nat.le_trans (shown_len d h1) h3, by rw [depth_pd]; omega⟩, sok_sm d h1⟩
    · subst h4
      refine ⟨⟨?_, ?_, ?_⟩, ?_⟩
      · simp only [PyData.showable]
        exact showable_sms xs h1
      · simp only [PyData.shown, listText]
        have z1 := from_len (PyData.shownAll (pds xs)) 0 "["
        have z2 := shown_lens xs h1
        have e1 : (("[" : String) : Str).length = 1 := rfl
        have e2 : (("]" : String) : Str).length = 1 := rfl
        rw [e1] at z1
        rw [str_len, e2]
        omega
      · simp only [PyData.depth, depth_pds]
        omega
      · simp only [PyData.shown, listText]
        exact sok_app (sok_from _ _ _ (sok_of _) (sok_sms xs h1)) (sok_of _)
  obtain ⟨⟨z1, z2, z3⟩, z4⟩ := h0
  refine ⟨?_, z4⟩
  show (match PyI.deep st d with
    | some p => if p.showable && decide (p.shown.length ≤ LIM) && decide (p.depth ≤ 64) then some (D.str p.shown, st) else none
    | none => none) = _
  rw [h.dat.deep]
  show (if p.showable && decide (p.shown.length ≤ LIM) && decide (p.depth ≤ 64) then some (D.str p.shown, st) else none) = _
  rw [z1, decide_eq_true z2, decide_eq_true z3]
  rfl
theorem ne_same {st : Sto} {x : Str} (h : PyData.strOk x = true) : cmpB .ne (.str x) (.str x) st = some false := by
  show (eqD (.str x) (.str x) st).map (!·) = _
  rw [eqD_str h h]
  simp
/-! ### steps that are known -/
section
variable {st : Sto} {i j : Int} {x : Str} {xs ys : List D} {d e : D} {b : Bool}
theorem add_int : opB .add (.int i) (.int j) st = some (.int (i + j), st) := nr rfl
theorem sub_int : opB .sub (.int i) (.int j) st = some (.int (i - j), st) := nr rfl
theorem add_tup (h : xs.length + ys.length ≤ LIM) : opB .add (.tup xs) (.tup ys) st = some (.tup (xs ++ ys), st) := if_pos h
theorem int_int : evB .int [.int i] st = some (.int i, st) := nr rfl
theorem int_bl : evB .int [.bl b] st = some (.int (if b then 1 else 0), st) := nr rfl
theorem abs_int : evB .abs [.int i] st = some (.int (if i < 0 then -i else i), st) := nr rfl
theorem max_int : evB .max [.int i, .int j] st = some (.int (max i j), st) := by
  show some (D.int (if j > i then j else i), st) = _
  have e : (if j > i then j else i) = max i j := by
    split <;> omega
  rw [e]
theorem min_int : evB .min [.int i, .int j] st = some (.int (min i j), st) := by
  show some (D.int (if j < i then j else i), st) = _
  have e : (if j < i then j else i) = min i j := by
    split <;> omega
  rw [e]
theorem len_tup : evB .len [.tup xs] st = some (.int xs.length, st) := nr rfl
theorem len_lst {n : Nat} {w : Bool} (e : st[n]? = some (.lst w xs)) : evB .len [.ref n] st = some (.int xs.length, st) := by
  show (seqOf (.ref n) st).map (fun xs => (D.int xs.length, st)) = _
  rw [seqOf_lst e]
  rfl
theorem lt_int : cmpB .lt (.int i) (.int j) st = some (decide (i < j)) := nr rfl
theorem le_int : cmpB .le (.int i) (.int j) st = some (decide (i ≤ j)) := nr rfl
theorem gt_int : cmpB .gt (.int i) (.int j) st = some (decide (j < i)) := nr rfl
theorem ge_int : cmpB .ge (.int i) (.int j) st = some (decide (j ≤ i)) := nr rfl
theorem eq_int : cmpB .eq (.int i) (.int j) st = some (decide (i = j)) := eqD_int (st := st)
theorem ne_int : cmpB .ne (.int i) (.int j) st = some (!decide (i = j)) := by
  show (eqD (.int i) (.int j) st).map (!·) = _
  rw [eqD_int]
  rfl
theorem eq_bl {c : Bool} : cmpB .eq (.bl b) (.bl c) st = some (b == c) := eqD_bl (st := st)
theorem ix_tup : ixB (.tup xs) (.int i) st = atD xs i := nr rfl
theorem at0 {y : D} : atD (y :: xs) 0 = some y := nr rfl
theorem at1 {y z : D} : atD (y :: z :: xs) 1 = some z := nr rfl
theorem at2 {y z u : D} : atD (y :: z :: u :: xs) 2 = some u := nr rfl
theorem ito_tup : itOf (.tup xs) st = some (.items xs) := nr rfl
theorem seq_tup : seqOf (.tup xs) st = some xs := nr rfl
end
end PyI
end
section
set_option autoImplicit false
set_option linter.all false
set_option maxRecDepth 100000
set_option maxHeartbeats 4000000
namespace K01
open PySem PyI
theorem d_check_set : P0.defs "check_set" = some ⟨1, 1, b_check_set⟩ := by kernel_rfl
theorem d_has : P0.defs "has" = some ⟨2, 4, b_has⟩ := by kernel_rfl
theorem d_numbers : P0.defs "numbers" = some ⟨1, 4, b_numbers⟩ := by kernel_rfl
theorem d_l_bytes : P0.defs "_law_bytes" = some ⟨1, 4, b_l_bytes⟩ := by kernel_rfl
theorem kn_pr {p : Int × Int} {st : Sto} {n : Nat} : Kn (n + 1) (prD p) st := ⟨.tup _, fun xs e x hx => by
  cases e
  have hx' : x = .int p.1 ∨ x = .int p.2 := by simpa using hx
  rcases hx' with z | z
  · subst z
    cases n with
    | zero => exact .int _
    | succ n => exact ⟨.int _, fun _ z => by cases z⟩
  · subst z
    cases n with
    | zero => exact .int _
    | succ n => exact ⟨.int _, fun _ z => by cases z⟩⟩
theorem kn_rg {ps : Rg} {st : Sto} : Kn 2 (rgD ps) st := ⟨.tup _, fun xs e x hx => by
  cases e
  obtain ⟨p, _, z⟩ := List.mem_map.mp hx
  subst z
  exact kn_pr⟩
/-- at most 128 ranges -/
theorem can_len : ∀ {ps : Rg} {b : Int}, Can b ps → 2 * (ps.length : Int) + b ≤ 257 ∨ ps = []
  | [], _, _ => .inr rfl
  | p :: r, b, c => by
    obtain ⟨c1, c2, c3, c4⟩ := c
    rcases can_len c4 with z | z
    · refine .inl ?_
      simp only [List.length_cons]
      omega
    · subst z
      refine .inl ?_
      simp only [List.length_cons, List.length_nil]
      omega
theorem can_len0 {ps : Rg} (c : Can 0 ps) : ps.length ≤ 128 := by
  rcases can_len c with z | z
  · omega
  · subst z
    exact Nat.zero_le _
theorem rg_lim {ps : Rg} (c : Can 0 ps) : ∀ xs, rgD ps = .tup xs → xs.length < LIM := fun xs e => by
  cases e
  rw [List.length_map]
  have := can_len0 c
  unfold LIM
  omega
theorem check_set_ok {n : Nat} {st : Sto} {ps : Rg} (c : Can 0 ps) : W (callN P0 (n + 5) "check_set" [rgD ps] st) (fun v s => Fr [] st s ∧ v = .non) NE := by
  refine w_def d_check_set rfl rfl ?_
  simp only [b_check_set, w_ok, w_err, w_non, w_bl, w_int, w_str, w_con, w_var, w_tup, w_lst, w_bin, w_neg, w_not, w_and, w_or, w_cmp, w_chain, w_ite, w_call, w_callV, w_bi, w_isi, w_meth, w_ix, w_slc, w_rev, w_lrng, w_lzip, w_fld, t_not, t_and, t_or, t_cmp, t_var, t_call, t_bi, t_isi, t_ix, t_bl, t_chain, s_nil, s_cons, s_star, o_none, o_some, i_e, i_rng, i_zip, ss_nil, ss_cons, st_expr, st_ret, st_retN, st_pass, st_brk, st_cont, st_asg, st_par, st_setIx, st_iff, st_for, st_raise, ts_nil, ts_one, oQ_some, oQ_none, rq_ret, rq_nx, fq_nx, fq_cont, fq_brk, fq_ret, tgB, setAll, wipe, List.getElem?_cons_zero, List.getElem?_cons_succ, List.set_cons_zero, List.set_cons_succ, List.map_cons, List.map_nil, List.length_cons, List.length_nil, List.cons_append, List.nil_append, List.append_nil, List.replicate_succ, List.replicate_zero, Nat.reduceSub, Nat.sub_self]
  refine (is_set_ok (n := n) kn_rg (rg_lim c)).imp fun v s ⟨f, e⟩ => ?_
  subst e
  rw [isSet_rg c]
  simp [truth_bl, oQ, f, rq_nx]
theorem check_set_bad {n : Nat} {st : Sto} {d : D} (h : Kn 2 d st) (hl : ∀ xs, d = .tup xs → xs.length < LIM) (hs : isSet d = false) : W (callN P0 (n + 5) "check_set" [d] st) (fun _ _ => False) (fun c v s => c = "BadSet" ∧ v = d ∧ Fr [] st s) := by
  refine w_def d_check_set rfl rfl ?_
  simp only [b_check_set, w_ok, w_err, w_non, w_bl, w_int, w_str, w_con, w_var, w_tup, w_lst, w_bin, w_neg, w_not, w_and, w_or, w_cmp, w_chain, w_ite, w_call, w_callV, w_bi, w_isi, w_meth, w_ix, w_slc, w_rev, w_lrng, w_lzip, w_fld, t_not, t_and, t_or, t_cmp, t_var, t_call, t_bi, t_isi, t_ix, t_bl, t_chain, s_nil, s_cons, s_star, o_none, o_some, i_e, i_rng, i_zip, ss_nil, ss_cons, st_expr, st_ret, st_retN, st_pass, st_brk, st_cont, st_asg, st_par, st_setIx, st_iff, st_for, st_raise, ts_nil, ts_one, oQ_some, oQ_none, rq_ret, rq_nx, fq_nx, fq_cont, fq_brk, fq_ret, tgB, setAll, wipe, List.getElem?_cons_zero, List.getElem?_cons_succ, List.set_cons_zero, List.set_cons_succ, List.map_cons, List.map_nil, List.length_cons, List.length_nil, List.cons_append, List.nil_append, List.append_nil, List.replicate_succ, List.replicate_zero, Nat.reduceSub, Nat.sub_self]
  refine (is_set_ok (n := n) h hl).ne fun v s ⟨f, e⟩ => ?_
  subst e
  rw [hs]
  simp [truth_bl, oQ, f]
def memB (x : Int) (ps : Rg) : Bool := ps.any fun p => decide (p.1 ≤ x) && decide (x ≤ p.2)
theorem memB_iff {x : Int} {ps : Rg} : memB x ps = true ↔ Mem x ps := by
  unfold memB Mem
  simp [List.any_eq_true]
theorem has_ok {n : Nat} {st : Sto} {ps : Rg} {b : Int} (c : Can 0 ps) : W (callN P0 (n + 1) "has" [rgD ps, .int b] st) (fun v s => Fr [] st s ∧ v = .bl (memB b ps)) NE := by
  refine w_def d_has rfl rfl ?_
  simp only [b_has, w_ok, w_err, w_non, w_bl, w_int, w_str, w_con, w_var, w_tup, w_lst, w_bin, w_neg, w_not, w_and, w_or, w_cmp, w_chain, w_ite, w_call, w_callV, w_bi, w_isi, w_meth, w_ix, w_slc, w_rev, w_lrng, w_lzip, w_fld, t_not, t_and, t_or, t_cmp, t_var, t_call, t_bi, t_isi, t_ix, t_bl, t_chain, s_nil, s_cons, s_star, o_none, o_some, i_e, i_rng, i_zip, ss_nil, ss_cons, st_expr, st_ret, st_retN, st_pass, st_brk, st_cont, st_asg, st_par, st_setIx, st_iff, st_for, st_raise, ts_nil, ts_one, oQ_some, oQ_none, rq_ret, rq_nx, fq_nx, fq_cont, fq_brk, fq_ret, tgB, setAll, wipe, List.getElem?_cons_zero, List.getElem?_cons_succ, List.set_cons_zero, List.set_cons_succ, List.map_cons, List.map_nil, List.length_cons, List.length_nil, List.cons_append, List.nil_append, List.append_nil, List.replicate_succ, List.replicate_zero, Nat.reduceSub, Nat.sub_self]
  rw [w_lc rfl]
  simp only [w_ok, w_err, w_non, w_bl, w_int, w_str, w_con, w_var, w_tup, w_lst, w_bin, w_neg, w_not, w_and, w_or, w_cmp, w_chain, w_ite, w_call, w_callV, w_bi, w_isi, w_meth, w_ix, w_slc, w_rev, w_lrng, w_lzip, w_fld, t_not, t_and, t_or, t_cmp, t_var, t_call, t_bi, t_isi, t_ix, t_bl, t_chain, s_nil, s_cons, s_star, o_none, o_some, i_e, i_rng, i_zip, ss_nil, ss_cons, st_expr, st_ret, st_retN, st_pass, st_brk, st_cont, st_asg, st_par, st_setIx, st_iff, st_for, st_raise, ts_nil, ts_one, oQ_some, oQ_none, rq_ret, rq_nx, fq_nx, fq_cont, fq_brk, fq_ret, tgB, setAll, wipe, List.getElem?_cons_zero, List.getElem?_cons_succ, List.set_cons_zero, List.set_cons_succ, List.map_cons, List.map_nil, List.length_cons, List.length_nil, List.cons_append, List.nil_append, List.append_nil, List.replicate_succ, List.replicate_zero, Nat.reduceSub, Nat.sub_self, rgD, itOf]
  refine lc_map (ds := ps.map prD) (fun d => .bl (match d with
    | .tup [.int l, .int h] => decide (l ≤ b) && decide (b ≤ h)
    | _ => false)) rfl (rg_lim c _ rfl) (fun d hd s fr => ?_) fun s fr e => ?_
  · obtain ⟨p, hp, e⟩ := List.mem_map.mp hd
    subst e
    simp only [prD, w_ok, w_err, w_non, w_bl, w_int, w_str, w_con, w_var, w_tup, w_lst, w_bin, w_neg, w_not, w_and, w_or, w_cmp, w_chain, w_ite, w_call, w_callV, w_bi, w_isi, w_meth, w_ix, w_slc, w_rev, w_lrng, w_lzip, w_fld, t_not, t_and, t_or, t_cmp, t_var, t_call, t_bi, t_isi, t_ix, t_bl, t_chain, s_nil, s_cons, s_star, o_none, o_some, i_e, i_rng, i_zip, ss_nil, ss_cons, st_expr, st_ret, st_retN, st_pass, st_brk, st_cont, st_asg, st_par, st_setIx, st_iff, st_for, st_raise, ts_nil, ts_one, oQ_some, oQ_none, rq_ret, rq_nx, fq_nx, fq_cont, fq_brk, fq_ret, tgB, setAll, wipe, List.getElem?_cons_zero, List.getElem?_cons_succ, List.set_cons_zero, List.set_cons_succ, List.map_cons, List.map_nil, List.length_cons, List.length_nil, List.cons_append, List.nil_append, List.append_nil, List.replicate_succ, List.replicate_zero, Nat.reduceSub, Nat.sub_self, cmpB, intCmp]
    by_cases h1 : p.1 ≤ b
    · simp [h1, Fr.refl, oQ]
    · simp [h1, Fr.refl, oQ]
  · simp only [evB_any e, oQ_some]
    refine ⟨fr, ?_⟩
    rw [List.any_map]
    rfl
def bytesOf (ps : Rg) : List D := ps.flatMap fun p => rngD p.1 (p.2 + 1)
theorem rng_len (a b : Int) : (rngD a b).length = (b - a).toNat := by
  unfold rngD
  rw [List.length_map, List.length_range]
theorem bytes_len : ∀ {ps : Rg} {b : Int}, Can b ps → 0 ≤ b → ((bytesOf ps).length : Int) + b ≤ 256 ∨ ps = []
  | [], _, _, _ => .inr rfl
  | p :: r, b, c, hb => by
    obtain ⟨c1, c2, c3, c4⟩ := c
    have e : (bytesOf (p :: r)).length = (p.2 + 1 - p.1).toNat + (bytesOf r).length := by
      unfold bytesOf
      rw [List.flatMap_cons, List.length_append, rng_len]
    refine .inl ?_
    rcases bytes_len c4 (by omega) with z | z
    · omega
    · subst z
      have e2 : (bytesOf []).length = 0 := rfl
      omega
theorem rng_ok {p : Int × Int} (h : 0 ≤ p.1 ∧ p.1 ≤ p.2 ∧ p.2 ≤ 255) : rngOk p.1 (p.2 + 1) = true := by
  obtain ⟨h1, h2, h3⟩ := h
  unfold rngOk LIM
  simp only [Bool.and_eq_true, decide_eq_true_eq]
  omega
theorem numbers_ok {n : Nat} {st : Sto} {ps : Rg} (c : Can 0 ps) : W (callN P0 (n + 6) "numbers" [rgD ps] st) (fun v s => Fr [] st s ∧ v = .tup (bytesOf ps)) NE := by
  refine w_def d_numbers rfl rfl ?_
  simp only [b_numbers, w_ok, w_err, w_non, w_bl, w_int, w_str, w_con, w_var, w_tup, w_lst, w_bin, w_neg, w_not, w_and, w_or, w_cmp, w_chain, w_ite, w_call, w_callV, w_bi, w_isi, w_meth, w_ix, w_slc, w_rev, w_lrng, w_lzip, w_fld, t_not, t_and, t_or, t_cmp, t_var, t_call, t_bi, t_isi, t_ix, t_bl, t_chain, s_nil, s_cons, s_star, o_none, o_some, i_e, i_rng, i_zip, ss_nil, ss_cons, st_expr, st_ret, st_retN, st_pass, st_brk, st_cont, st_asg, st_par, st_setIx, st_iff, st_for, st_raise, ts_nil, ts_one, oQ_some, oQ_none, rq_ret, rq_nx, fq_nx, fq_cont, fq_brk, fq_ret, tgB, setAll, wipe, List.getElem?_cons_zero, List.getElem?_cons_succ, List.set_cons_zero, List.set_cons_succ, List.map_cons, List.map_nil, List.length_cons, List.length_nil, List.cons_append, List.nil_append, List.append_nil, List.replicate_succ, List.replicate_zero, Nat.reduceSub, Nat.sub_self]
  refine (check_set_ok (n := n) c).imp fun v s ⟨f, e⟩ => ?_
  simp only [w_ok, w_err, w_non, w_bl, w_int, w_str, w_con, w_var, w_tup, w_lst, w_bin, w_neg, w_not, w_and, w_or, w_cmp, w_chain, w_ite, w_call, w_callV, w_bi, w_isi, w_meth, w_ix, w_slc, w_rev, w_lrng, w_lzip, w_fld, t_not, t_and, t_or, t_cmp, t_var, t_call, t_bi, t_isi, t_ix, t_bl, t_chain, s_nil, s_cons, s_star, o_none, o_some, i_e, i_rng, i_zip, ss_nil, ss_cons, st_expr, st_ret, st_retN, st_pass, st_brk, st_cont, st_asg, st_par, st_setIx, st_iff, st_for, st_raise, ts_nil, ts_one, oQ_some, oQ_none, rq_ret, rq_nx, fq_nx, fq_cont, fq_brk, fq_ret, tgB, setAll, wipe, List.getElem?_cons_zero, List.getElem?_cons_succ, List.set_cons_zero, List.set_cons_succ, List.map_cons, List.map_nil, List.length_cons, List.length_nil, List.cons_append, List.nil_append, List.append_nil, List.replicate_succ, List.replicate_zero, Nat.reduceSub, Nat.sub_self, List.length_nil, Nat.zero_le, if_true, rgD, itOf]
  refine w_loop (ds := ps.map prD) (fun rest env t => ∃ pre q v2 v3, ps = pre ++ q ∧ rest = q.map prD ∧ env = [some (.tup (ps.map prD)), some (.ref s.length), v2, v3] ∧ t[s.length]? = some (.lst true (bytesOf pre)) ∧ Fr [] s t) (Nat.lt_trans (rg_lim c _ rfl) (by decide)) (fun _ _ _ _ => rfl) ⟨[], ps, _, _, rfl, rfl, rfl, get_last, Fr.app _ _ _⟩ ?_ ?_
  · rintro d rest env t ⟨pre, q, v2, v3, e1, e2, e3, e5, e6⟩
    subst e3
    match q, e2, e1 with
    | p :: q, e2, e1 =>
      simp only [List.map_cons, List.cons.injEq] at e2
      obtain ⟨e2, e7⟩ := e2
      subst e2 e7
      have ok := can_item c p (by rw [e1]; simp)
      simp only [prD, w_ok, w_err, w_non, w_bl, w_int, w_str, w_con, w_var, w_tup, w_lst, w_bin, w_neg, w_not, w_and, w_or, w_cmp, w_chain, w_ite, w_call, w_callV, w_bi, w_isi, w_meth, w_ix, w_slc, w_rev, w_lrng, w_lzip, w_fld, t_not, t_and, t_or, t_cmp, t_var, t_call, t_bi, t_isi, t_ix, t_bl, t_chain, s_nil, s_cons, s_star, o_none, o_some, i_e, i_rng, i_zip, ss_nil, ss_cons, st_expr, st_ret, st_retN, st_pass, st_brk, st_cont, st_asg, st_par, st_setIx, st_iff, st_for, st_raise, ts_nil, ts_one, oQ_some, oQ_none, rq_ret, rq_nx, fq_nx, fq_cont, fq_brk, fq_ret, tgB, setAll, wipe, List.getElem?_cons_zero, List.getElem?_cons_succ, List.set_cons_zero, List.set_cons_succ, List.map_cons, List.map_nil, List.length_cons, List.length_nil, List.cons_append, List.nil_append, List.append_nil, List.replicate_succ, List.replicate_zero, Nat.reduceSub, Nat.sub_self, kindB_lst e5, MT.name, if_true, opB, rng_ok ok]
      have hl : (bytesOf (pre ++ [p])).length ≤ 256 := by
        rcases bytes_len (ps := pre ++ [p]) (can_pre (qs := q) (by rw [List.append_assoc]; rw [e1] at c; exact c)) (Int.le_refl 0) with z | z
        · omega
        · simp at z
      have e8 : bytesOf (pre ++ [p]) = bytesOf pre ++ rngD p.1 (p.2 + 1) := by simp [bytesOf]
      rw [e8, List.length_append] at hl
      have ext := extend_lst (st := t ++ [.lst true (rngD p.1 (p.2 + 1))]) (n := s.length) (m := t.length) ((Fr.app [] _ _).get e5) get_last (by unfold LIM; omega)
      rw [ext]
      refine ⟨pre ++ [p], q, _, _, by rw [e1]; simp, rfl, rfl, ?_, ?_⟩
      · rw [e8]
        exact get_set ((Fr.app [] _ _).get e5)
      · exact (e6.trans (Fr.app [] _ _)).set (.inr (Nat.le_refl _))
  · rintro env t ⟨pre, q, v2, v3, e1, e2, e3, e5, e6⟩
    subst e3
    have eq : q = [] := by simpa using e2.symm
    subst eq
    rw [List.append_nil] at e1
    subst e1
    simp only [w_ok, w_err, w_non, w_bl, w_int, w_str, w_con, w_var, w_tup, w_lst, w_bin, w_neg, w_not, w_and, w_or, w_cmp, w_chain, w_ite, w_call, w_callV, w_bi, w_isi, w_meth, w_ix, w_slc, w_rev, w_lrng, w_lzip, w_fld, t_not, t_and, t_or, t_cmp, t_var, t_call, t_bi, t_isi, t_ix, t_bl, t_chain, s_nil, s_cons, s_star, o_none, o_some, i_e, i_rng, i_zip, ss_nil, ss_cons, st_expr, st_ret, st_retN, st_pass, st_brk, st_cont, st_asg, st_par, st_setIx, st_iff, st_for, st_raise, ts_nil, ts_one, oQ_some, oQ_none, rq_ret, rq_nx, fq_nx, fq_cont, fq_brk, fq_ret, tgB, setAll, wipe, List.getElem?_cons_zero, List.getElem?_cons_succ, List.set_cons_zero, List.set_cons_succ, List.map_cons, List.map_nil, List.length_cons, List.length_nil, List.cons_append, List.nil_append, List.append_nil, List.replicate_succ, List.replicate_zero, Nat.reduceSub, Nat.sub_self, evB_tuple e5]
    exact ⟨f.trans e6, trivial⟩
end K01
end
section
set_option autoImplicit false
set_option linter.all false
set_option maxRecDepth 100000
set_option maxHeartbeats 4000000
namespace K01
open PySem PyI
theorem d_l_take : P0.defs "_law_take" = some ⟨2, 5, b_l_take⟩ := by kernel_rfl
theorem d_l_of : P0.defs "_law_of" = some ⟨2, 2, b_l_of⟩ := by kernel_rfl
/-- the numbers that are drawn from: B bounds the draws -/
def Pot (p B : Nat) (st : Sto) : Prop := ∃ a b k : Int, st[p]? = some (.lst true [.int a, .int b, .int k]) ∧ 0 ≤ a ∧ 0 ≤ b ∧ b < 2 ^ 61 ∧ 0 ≤ k ∧ k ≤ B
theorem Pot.mono {p B B' : Nat} {st : Sto} (h : Pot p B st) (l : B ≤ B') : Pot p B' st := by
  obtain ⟨a, b, k, e, h1, h2, h3, h4, h5⟩ := h
  exact ⟨a, b, k, e, h1, h2, h3, h4, by omega⟩
theorem Pot.fr {p B : Nat} {s t : Sto} {ps : List Nat} (h : Pot p B s) (f : Fr ps s t) (hp : p ∉ ps := by simp) : Pot p B t := by
  obtain ⟨a, b, k, e, h1, h2, h3, h4, h5⟩ := h
  exact ⟨a, b, k, f.get e hp, h1, h2, h3, h4, h5⟩
theorem prime_at (k : Int) (h : 0 ≤ k) : ∃ P : Int, atD [D.int 2147483647, D.int 2147483629, D.int 2147483587, D.int 2147483579, D.int 2147483563] (k % 5) = some (.int P) ∧ 0 < P ∧ P < 2 ^ 31 := by
  have h1 := Int.emod_nonneg k (show (5 : Int) ≠ 0 by decide)
  have h2 := Int.emod_lt_of_pos k (show (0 : Int) < 5 by decide)
  generalize k % 5 = j at h1 h2
  have : j = 0 ∨ j = 1 ∨ j = 2 ∨ j = 3 ∨ j = 4 := by omega
  rcases this with z | z | z | z | z <;> subst z
  · exact ⟨2147483647, rfl, by decide, by decide⟩
  · exact ⟨2147483629, rfl, by decide, by decide⟩
  · exact ⟨2147483587, rfl, by decide, by decide⟩
  · exact ⟨2147483579, rfl, by decide, by decide⟩
  · exact ⟨2147483563, rfl, by decide, by decide⟩
theorem mul_lt {i j : Int} {a b : Nat} (h1 : 0 ≤ i ∧ i < 2 ^ a) (h2 : 0 ≤ j ∧ j < 2 ^ b) : 0 ≤ i * j ∧ i * j < 2 ^ (a + b) := by
  refine ⟨Int.mul_nonneg h1.1 h2.1, ?_⟩
  rw [Int.pow_add]
  by_cases z : j = 0
  · subst z
    rw [Int.mul_zero]
    exact Int.mul_pos (Int.pow_pos (by decide)) (Int.pow_pos (by decide))
  · exact Int.lt_of_lt_of_le (Int.mul_lt_mul_of_pos_right h1.2 (by omega)) (Int.mul_le_mul_of_nonneg_left (Int.le_of_lt h2.2) (Int.le_of_lt (Int.pow_pos (by decide))))
theorem take_ok {n p B : Nat} {st : Sto} {u : Int} (hu : 0 < u) (hu2 : u < 2 ^ 60) (hp : Pot p B st) (hB : B < 2 ^ 40) : W (callN P0 (n + 1) "_law_take" [.ref p, .int u] st) (fun v s => ∃ d, v = .int d ∧ 0 ≤ d ∧ d < u ∧ Pot p (B + 1) s ∧ Fr [p] st s) NE := by
  obtain ⟨a, b, k, e, h1, h2, h3, h4, h5⟩ := hp
  have hk : k < 2 ^ 40 := by omega
  refine w_def d_l_take rfl rfl ?_
  simp only [b_l_take, w_ok, w_err, w_non, w_bl, w_int, w_str, w_con, w_var, w_tup, w_lst, w_bin, w_neg, w_not, w_and, w_or, w_cmp, w_chain, w_ite, w_call, w_callV, w_bi, w_isi, w_meth, w_ix, w_slc, w_rev, w_lrng, w_lzip, w_fld, t_not, t_and, t_or, t_cmp, t_var, t_call, t_bi, t_isi, t_ix, t_bl, t_chain, s_nil, s_cons, s_star, o_none, o_some, i_e, i_rng, i_zip, ss_nil, ss_cons, st_expr, st_ret, st_retN, st_pass, st_brk, st_cont, st_asg, st_par, st_setIx, st_iff, st_for, st_raise, ts_nil, ts_one, oQ_some, oQ_none, rq_ret, rq_nx, fq_nx, fq_cont, fq_brk, fq_ret, tgB, setAll, wipe, List.getElem?_cons_zero, List.getElem?_cons_succ, List.set_cons_zero, List.set_cons_succ, List.map_cons, List.map_nil, List.length_cons, List.length_nil, List.cons_append, List.nil_append, List.append_nil, List.replicate_succ, List.replicate_zero, Nat.reduceSub, Nat.sub_self, add_int, sub_int, int_int, int_bl, abs_int, max_int, min_int, len_tup, lt_int, le_int, gt_int, ge_int, eq_int, ne_int, eq_bl, ix_tup, at0, at1, at2, ito_tup, seq_tup, truth_bl, truth_tup, ixL (i := 0) e rfl]
  by_cases ha : 0 < a
  · simp only [ha, decide_true, w_ok, w_err, w_non, w_bl, w_int, w_str, w_con, w_var, w_tup, w_lst, w_bin, w_neg, w_not, w_and, w_or, w_cmp, w_chain, w_ite, w_call, w_callV, w_bi, w_isi, w_meth, w_ix, w_slc, w_rev, w_lrng, w_lzip, w_fld, t_not, t_and, t_or, t_cmp, t_var, t_call, t_bi, t_isi, t_ix, t_bl, t_chain, s_nil, s_cons, s_star, o_none, o_some, i_e, i_rng, i_zip, ss_nil, ss_cons, st_expr, st_ret, st_retN, st_pass, st_brk, st_cont, st_asg, st_par, st_setIx, st_iff, st_for, st_raise, ts_nil, ts_one, oQ_some, oQ_none, rq_ret, rq_nx, fq_nx, fq_cont, fq_brk, fq_ret, tgB, setAll, wipe, List.getElem?_cons_zero, List.getElem?_cons_succ, List.set_cons_zero, List.set_cons_succ, List.map_cons, List.map_nil, List.length_cons, List.length_nil, List.cons_append, List.nil_append, List.append_nil, List.replicate_succ, List.replicate_zero, Nat.reduceSub, Nat.sub_self, add_int, sub_int, int_int, int_bl, abs_int, max_int, min_int, len_tup, lt_int, le_int, gt_int, ge_int, eq_int, ne_int, eq_bl, ix_tup, at0, at1, at2, ito_tup, seq_tup, truth_bl, truth_tup, ixL (i := 0) e rfl, mod_ok hu, fdiv_ok 60 ⟨hu, hu2⟩, setL (i := 0) e (Int.le_refl 0) (show (0 : Int) < 3 by decide)]
    refine ⟨_, rfl, Int.emod_nonneg _ (by omega), Int.emod_lt_of_pos _ hu, ⟨a / u, b, k, get_set e, Int.ediv_nonneg h1 (by omega), h2, h3, h4, by omega⟩, (Fr.refl _ _).set (.inl (by simp))⟩
  · simp only [ha, decide_false, w_ok, w_err, w_non, w_bl, w_int, w_str, w_con, w_var, w_tup, w_lst, w_bin, w_neg, w_not, w_and, w_or, w_cmp, w_chain, w_ite, w_call, w_callV, w_bi, w_isi, w_meth, w_ix, w_slc, w_rev, w_lrng, w_lzip, w_fld, t_not, t_and, t_or, t_cmp, t_var, t_call, t_bi, t_isi, t_ix, t_bl, t_chain, s_nil, s_cons, s_star, o_none, o_some, i_e, i_rng, i_zip, ss_nil, ss_cons, st_expr, st_ret, st_retN, st_pass, st_brk, st_cont, st_asg, st_par, st_setIx, st_iff, st_for, st_raise, ts_nil, ts_one, oQ_some, oQ_none, rq_ret, rq_nx, fq_nx, fq_cont, fq_brk, fq_ret, tgB, setAll, wipe, List.getElem?_cons_zero, List.getElem?_cons_succ, List.set_cons_zero, List.set_cons_succ, List.map_cons, List.map_nil, List.length_cons, List.length_nil, List.cons_append, List.nil_append, List.append_nil, List.replicate_succ, List.replicate_zero, Nat.reduceSub, Nat.sub_self, add_int, sub_int, int_int, int_bl, abs_int, max_int, min_int, len_tup, lt_int, le_int, gt_int, ge_int, eq_int, ne_int, eq_bl, ix_tup, at0, at1, at2, ito_tup, seq_tup, truth_bl, truth_tup, ixL (i := 2) e rfl, setL (i := 2) (v := .int (k + 1)) e (by decide) (show (2 : Int) < 3 by decide)]
    have e1 : (st.set p (.lst true ([D.int a, D.int b, D.int k].set (2 : Int).toNat (.int (k + 1)))))[p]? = some (.lst true [D.int a, D.int b, D.int (k + 1)]) := get_set e
    generalize hst1 : st.set p (.lst true ([D.int a, D.int b, D.int k].set (2 : Int).toNat (.int (k + 1)))) = st1 at e1
    have f1 : Fr [p] st st1 := by
      rw [← hst1]
      exact (Fr.refl _ _).set (.inl (by simp))
    obtain ⟨P, ep, hP, hP2⟩ := prime_at (k + 1) (by omega)
    have e2 := (Fr.app [] st1 [.lst true [D.int 2147483647, D.int 2147483629, D.int 2147483587, D.int 2147483579, D.int 2147483563]]).get e1
    have e3 : (st1 ++ [Cell.lst true [D.int 2147483647, D.int 2147483629, D.int 2147483587, D.int 2147483579, D.int 2147483563]])[st1.length]? = some (.lst true [D.int 2147483647, D.int 2147483629, D.int 2147483587, D.int 2147483579, D.int 2147483563]) := get_last
    have f2 := f1.trans (Fr.app [p] st1 [.lst true [D.int 2147483647, D.int 2147483629, D.int 2147483587, D.int 2147483579, D.int 2147483563]])
    generalize st1 ++ [Cell.lst true [D.int 2147483647, D.int 2147483629, D.int 2147483587, D.int 2147483579, D.int 2147483563]] = st2 at e2 e3 f2
    have k1 : 0 ≤ k + 1 ∧ k + 1 < 2 ^ 41 := by omega
    have k2 : 0 ≤ 68209 * (k + 1) ∧ 68209 * (k + 1) < 2 ^ 58 := by omega
    have k3 := mul_lt k2 k1
    have k4 : 0 ≤ b + 68209 * (k + 1) * (k + 1) + 331 ∧ b + 68209 * (k + 1) * (k + 1) + 331 < 2 ^ 102 := by omega
    generalize hx : b + 68209 * (k + 1) * (k + 1) + 331 = x at k4
    simp only [show (0 + 1 + 1 + 1 + 1 + 1 ≤ LIM) from by decide, if_true, w_ok, w_err, w_non, w_bl, w_int, w_str, w_con, w_var, w_tup, w_lst, w_bin, w_neg, w_not, w_and, w_or, w_cmp, w_chain, w_ite, w_call, w_callV, w_bi, w_isi, w_meth, w_ix, w_slc, w_rev, w_lrng, w_lzip, w_fld, t_not, t_and, t_or, t_cmp, t_var, t_call, t_bi, t_isi, t_ix, t_bl, t_chain, s_nil, s_cons, s_star, o_none, o_some, i_e, i_rng, i_zip, ss_nil, ss_cons, st_expr, st_ret, st_retN, st_pass, st_brk, st_cont, st_asg, st_par, st_setIx, st_iff, st_for, st_raise, ts_nil, ts_one, oQ_some, oQ_none, rq_ret, rq_nx, fq_nx, fq_cont, fq_brk, fq_ret, tgB, setAll, wipe, List.getElem?_cons_zero, List.getElem?_cons_succ, List.set_cons_zero, List.set_cons_succ, List.map_cons, List.map_nil, List.length_cons, List.length_nil, List.cons_append, List.nil_append, List.append_nil, List.replicate_succ, List.replicate_zero, Nat.reduceSub, Nat.sub_self, add_int, sub_int, int_int, int_bl, abs_int, max_int, min_int, len_tup, lt_int, le_int, gt_int, ge_int, eq_int, ne_int, eq_bl, ix_tup, at0, at1, at2, ito_tup, seq_tup, truth_bl, truth_tup, ixL (i := 2) e2 rfl, ixL (i := 1) e2 rfl, mod_ok (show (0 : Int) < 5 by decide), ixL e3 ep, mul_ok (i := 68209) 17 41 (by decide) k1, mul_ok 58 41 k2 k1, hx, pow_ok (j := 3) 102 k4 (by decide) (by decide), mod_ok hP, mod_ok (show (0 : Int) < 11027 by decide), mul_ok (i := 211) 8 41 (by decide) k1]
    have k5 := Int.emod_nonneg (x ^ (3 : Int).toNat) (show P ≠ 0 by omega)
    have k6 := Int.emod_lt_of_pos (x ^ (3 : Int).toNat) hP
    generalize x ^ (3 : Int).toNat % P = y at k5 k6
    have k7 := Int.emod_nonneg y (show (11027 : Int) ≠ 0 by decide)
    have k8 := Int.emod_lt_of_pos y (show (0 : Int) < 11027 by decide)
    generalize y % 11027 = z at k7 k8
    have k9 : 0 ≤ z + 211 * (k + 1) ∧ z + 211 * (k + 1) < 2 ^ 60 := by omega
    simp only [w_ok, w_err, w_non, w_bl, w_int, w_str, w_con, w_var, w_tup, w_lst, w_bin, w_neg, w_not, w_and, w_or, w_cmp, w_chain, w_ite, w_call, w_callV, w_bi, w_isi, w_meth, w_ix, w_slc, w_rev, w_lrng, w_lzip, w_fld, t_not, t_and, t_or, t_cmp, t_var, t_call, t_bi, t_isi, t_ix, t_bl, t_chain, s_nil, s_cons, s_star, o_none, o_some, i_e, i_rng, i_zip, ss_nil, ss_cons, st_expr, st_ret, st_retN, st_pass, st_brk, st_cont, st_asg, st_par, st_setIx, st_iff, st_for, st_raise, ts_nil, ts_one, oQ_some, oQ_none, rq_ret, rq_nx, fq_nx, fq_cont, fq_brk, fq_ret, tgB, setAll, wipe, List.getElem?_cons_zero, List.getElem?_cons_succ, List.set_cons_zero, List.set_cons_succ, List.map_cons, List.map_nil, List.length_cons, List.length_nil, List.cons_append, List.nil_append, List.append_nil, List.replicate_succ, List.replicate_zero, Nat.reduceSub, Nat.sub_self, add_int, sub_int, int_int, int_bl, abs_int, max_int, min_int, len_tup, lt_int, le_int, gt_int, ge_int, eq_int, ne_int, eq_bl, ix_tup, at0, at1, at2, ito_tup, seq_tup, truth_bl, truth_tup, mul_ok 31 60 ⟨k5, Int.lt_trans k6 hP2⟩ k9, mod_ok (show (0 : Int) < 2305843009213693907 by decide), fdiv_ok (j := 167) 8 (by decide), mod_ok hu]
    exact ⟨_, rfl, Int.emod_nonneg _ (by omega), Int.emod_lt_of_pos _ hu, ⟨a, b, k + 1, e2, h1, h2, h3, by omega, by omega⟩, f2⟩
theorem of_ok {n p m B : Nat} {w : Bool} {st : Sto} {xs : List D} (hm : st[m]? = some (.lst w xs)) (hpm : m ≠ p) (h0 : xs ≠ []) (hl : xs.length < 1000000) (hp : Pot p B st) (hB : B < 2 ^ 40) : W (callN P0 (n + 2) "_law_of" [.ref p, .ref m] st) (fun v s => v ∈ xs ∧ Pot p (B + 1) s ∧ Fr [p] st s) NE := by
  refine w_def d_l_of rfl rfl ?_
  simp only [b_l_of, w_ok, w_err, w_non, w_bl, w_int, w_str, w_con, w_var, w_tup, w_lst, w_bin, w_neg, w_not, w_and, w_or, w_cmp, w_chain, w_ite, w_call, w_callV, w_bi, w_isi, w_meth, w_ix, w_slc, w_rev, w_lrng, w_lzip, w_fld, t_not, t_and, t_or, t_cmp, t_var, t_call, t_bi, t_isi, t_ix, t_bl, t_chain, s_nil, s_cons, s_star, o_none, o_some, i_e, i_rng, i_zip, ss_nil, ss_cons, st_expr, st_ret, st_retN, st_pass, st_brk, st_cont, st_asg, st_par, st_setIx, st_iff, st_for, st_raise, ts_nil, ts_one, oQ_some, oQ_none, rq_ret, rq_nx, fq_nx, fq_cont, fq_brk, fq_ret, tgB, setAll, wipe, List.getElem?_cons_zero, List.getElem?_cons_succ, List.set_cons_zero, List.set_cons_succ, List.map_cons, List.map_nil, List.length_cons, List.length_nil, List.cons_append, List.nil_append, List.append_nil, List.replicate_succ, List.replicate_zero, Nat.reduceSub, Nat.sub_self, add_int, sub_int, int_int, int_bl, abs_int, max_int, min_int, len_tup, lt_int, le_int, gt_int, ge_int, eq_int, ne_int, eq_bl, ix_tup, at0, at1, at2, ito_tup, seq_tup, truth_bl, truth_tup, len_lst hm]
  have h1 : 0 < xs.length := List.length_pos_iff.mpr h0
  refine (take_ok (n := n) (by omega) (by omega) hp hB).imp fun v s ⟨d, e, h2, h3, h4, h5⟩ => ?_
  subst e
  have e2 := h5.get hm (by simpa using hpm)
  have h6 : d.toNat < xs.length := by omega
  simp only [ixL e2 ((at_nat h2).trans (List.getElem?_eq_getElem h6)), w_ok, w_err, w_non, w_bl, w_int, w_str, w_con, w_var, w_tup, w_lst, w_bin, w_neg, w_not, w_and, w_or, w_cmp, w_chain, w_ite, w_call, w_callV, w_bi, w_isi, w_meth, w_ix, w_slc, w_rev, w_lrng, w_lzip, w_fld, t_not, t_and, t_or, t_cmp, t_var, t_call, t_bi, t_isi, t_ix, t_bl, t_chain, s_nil, s_cons, s_star, o_none, o_some, i_e, i_rng, i_zip, ss_nil, ss_cons, st_expr, st_ret, st_retN, st_pass, st_brk, st_cont, st_asg, st_par, st_setIx, st_iff, st_for, st_raise, ts_nil, ts_one, oQ_some, oQ_none, rq_ret, rq_nx, fq_nx, fq_cont, fq_brk, fq_ret, tgB, setAll, wipe, List.getElem?_cons_zero, List.getElem?_cons_succ, List.set_cons_zero, List.set_cons_succ, List.map_cons, List.map_nil, List.length_cons, List.length_nil, List.cons_append, List.nil_append, List.append_nil, List.replicate_succ, List.replicate_zero, Nat.reduceSub, Nat.sub_self, add_int, sub_int, int_int, int_bl, abs_int, max_int, min_int, len_tup, lt_int, le_int, gt_int, ge_int, eq_int, ne_int, eq_bl, ix_tup, at0, at1, at2, ito_tup, seq_tup, truth_bl, truth_tup]
  exact ⟨List.getElem_mem h6, h4, h5⟩
end K01
end
section
set_option autoImplicit false
set_option linter.all false
set_option maxRecDepth 100000
set_option maxHeartbeats 4000000
namespace K01
open PySem PyI
theorem d_merged : P0.defs "merged" = some ⟨1, 4, b_merged⟩ := by kernel_rfl
theorem d_met : P0.defs "met" = some ⟨2, 7, b_met⟩ := by kernel_rfl
theorem d_rest_of : P0.defs "rest_of" = some ⟨1, 5, b_rest_of⟩ := by kernel_rfl
theorem l_bytes_ok {n : Nat} {st : Sto} {ps : Rg} (c : Can 0 ps) : W (callN P0 (n + 1) "_law_bytes" [rgD ps] st) (fun v s => Fr [] st s ∧ v = .ref st.length ∧ s[st.length]? = some (.lst true (bytesOf ps))) NE := by
  refine w_def d_l_bytes rfl rfl ?_
  simp only [b_l_bytes, w_ok, w_err, w_non, w_bl, w_int, w_str, w_con, w_var, w_tup, w_lst, w_bin, w_neg, w_not, w_and, w_or, w_cmp, w_chain, w_ite, w_call, w_callV, w_bi, w_isi, w_meth, w_ix, w_slc, w_rev, w_lrng, w_lzip, w_fld, t_not, t_and, t_or, t_cmp, t_var, t_call, t_bi, t_isi, t_ix, t_bl, t_chain, s_nil, s_cons, s_star, o_none, o_some, i_e, i_rng, i_zip, ss_nil, ss_cons, st_expr, st_ret, st_retN, st_pass, st_brk, st_cont, st_asg, st_par, st_setIx, st_iff, st_for, st_raise, ts_nil, ts_one, oQ_some, oQ_none, rq_ret, rq_nx, fq_nx, fq_cont, fq_brk, fq_ret, tgB, setAll, wipe, List.getElem?_cons_zero, List.getElem?_cons_succ, List.set_cons_zero, List.set_cons_succ, List.map_cons, List.map_nil, List.length_cons, List.length_nil, List.cons_append, List.nil_append, List.append_nil, List.replicate_succ, List.replicate_zero, Nat.reduceSub, Nat.sub_self, add_int, sub_int, int_int, int_bl, abs_int, max_int, min_int, len_tup, lt_int, le_int, gt_int, ge_int, eq_int, ne_int, eq_bl, ix_tup, at0, at1, at2, ito_tup, seq_tup, truth_bl, truth_tup, List.length_nil, Nat.zero_le, if_true, rgD]
  refine w_loop (ds := ps.map prD) (fun rest env t => ∃ pre q v2 v3, ps = pre ++ q ∧ rest = q.map prD ∧ env = [some (.tup (ps.map prD)), some (.ref st.length), v2, v3] ∧ t[st.length]? = some (.lst true (bytesOf pre)) ∧ Fr [] st t) (Nat.lt_trans (rg_lim c _ rfl) (by decide)) (fun _ _ _ _ => rfl) ⟨[], ps, _, _, rfl, rfl, rfl, get_last, Fr.app _ _ _⟩ ?_ ?_
  · rintro d rest env t ⟨pre, q, v2, v3, e1, e2, e3, e5, e6⟩
    subst e3
    match q, e2, e1 with
    | p :: q, e2, e1 =>
      simp only [List.map_cons, List.cons.injEq] at e2
      obtain ⟨e2, e7⟩ := e2
      subst e2 e7
      have ok := can_item c p (by rw [e1]; simp)
      simp only [prD, w_ok, w_err, w_non, w_bl, w_int, w_str, w_con, w_var, w_tup, w_lst, w_bin, w_neg, w_not, w_and, w_or, w_cmp, w_chain, w_ite, w_call, w_callV, w_bi, w_isi, w_meth, w_ix, w_slc, w_rev, w_lrng, w_lzip, w_fld, t_not, t_and, t_or, t_cmp, t_var, t_call, t_bi, t_isi, t_ix, t_bl, t_chain, s_nil, s_cons, s_star, o_none, o_some, i_e, i_rng, i_zip, ss_nil, ss_cons, st_expr, st_ret, st_retN, st_pass, st_brk, st_cont, st_asg, st_par, st_setIx, st_iff, st_for, st_raise, ts_nil, ts_one, oQ_some, oQ_none, rq_ret, rq_nx, fq_nx, fq_cont, fq_brk, fq_ret, tgB, setAll, wipe, List.getElem?_cons_zero, List.getElem?_cons_succ, List.set_cons_zero, List.set_cons_succ, List.map_cons, List.map_nil, List.length_cons, List.length_nil, List.cons_append, List.nil_append, List.append_nil, List.replicate_succ, List.replicate_zero, Nat.reduceSub, Nat.sub_self, add_int, sub_int, int_int, int_bl, abs_int, max_int, min_int, len_tup, lt_int, le_int, gt_int, ge_int, eq_int, ne_int, eq_bl, ix_tup, at0, at1, at2, ito_tup, seq_tup, truth_bl, truth_tup, kindB_lst e5, MT.name, if_true, rng_ok ok]
      have hl : (bytesOf (pre ++ [p])).length ≤ 256 := by
        rcases bytes_len (ps := pre ++ [p]) (can_pre (qs := q) (by rw [List.append_assoc]; rw [e1] at c; exact c)) (Int.le_refl 0) with z | z
        · omega
        · simp at z
      have e8 : bytesOf (pre ++ [p]) = bytesOf pre ++ rngD p.1 (p.2 + 1) := by simp [bytesOf]
      rw [e8, List.length_append] at hl
      have ext := extend_lst (st := t ++ [.lst true (rngD p.1 (p.2 + 1))]) (n := st.length) (m := t.length) ((Fr.app [] _ _).get e5) get_last (by unfold LIM; omega)
      rw [ext]
      refine ⟨pre ++ [p], q, _, _, by rw [e1]; simp, rfl, rfl, ?_, ?_⟩
      · rw [e8]
        exact get_set ((Fr.app [] _ _).get e5)
      · exact (e6.trans (Fr.app [] _ _)).set (.inr (Nat.le_refl _))
  · rintro env t ⟨pre, q, v2, v3, e1, e2, e3, e5, e6⟩
    subst e3
    have eq : q = [] := by simpa using e2.symm
    subst eq
    rw [List.append_nil] at e1
    subst e1
    simp only [w_ok, w_err, w_non, w_bl, w_int, w_str, w_con, w_var, w_tup, w_lst, w_bin, w_neg, w_not, w_and, w_or, w_cmp, w_chain, w_ite, w_call, w_callV, w_bi, w_isi, w_meth, w_ix, w_slc, w_rev, w_lrng, w_lzip, w_fld, t_not, t_and, t_or, t_cmp, t_var, t_call, t_bi, t_isi, t_ix, t_bl, t_chain, s_nil, s_cons, s_star, o_none, o_some, i_e, i_rng, i_zip, ss_nil, ss_cons, st_expr, st_ret, st_retN, st_pass, st_brk, st_cont, st_asg, st_par, st_setIx, st_iff, st_for, st_raise, ts_nil, ts_one, oQ_some, oQ_none, rq_ret, rq_nx, fq_nx, fq_cont, fq_brk, fq_ret, tgB, setAll, wipe, List.getElem?_cons_zero, List.getElem?_cons_succ, List.set_cons_zero, List.set_cons_succ, List.map_cons, List.map_nil, List.length_cons, List.length_nil, List.cons_append, List.nil_append, List.append_nil, List.replicate_succ, List.replicate_zero, Nat.reduceSub, Nat.sub_self, add_int, sub_int, int_int, int_bl, abs_int, max_int, min_int, len_tup, lt_int, le_int, gt_int, ge_int, eq_int, ne_int, eq_bl, ix_tup, at0, at1, at2, ito_tup, seq_tup, truth_bl, truth_tup]
    exact ⟨e6, trivial, e5⟩
/-! ### the rows' operations -/
theorem rg_snoc {ps : Rg} {p : Int × Int} : (ps ++ [p]).map prD = ps.map prD ++ [prD p] := by simp
def RestI (ps : Rg) (st : Sto) (rest : List D) (env : PyI.Env) (t : Sto) : Prop :=
  ∃ pre q v3 v4 rs, ∃ b : Int, ps = pre ++ q ∧ rest = q.map prD ∧ env = [some (.tup (ps.map prD)), some (.ref st.length), some (.int b), v3, v4] ∧ t[st.length]? = some (.lst true (rs.map prD)) ∧ Fr [] st t ∧
      Can 0 rs ∧ 0 ≤ b ∧ (∀ p ∈ rs, p.2 + 1 < b) ∧ (∀ x, Mem x rs ↔ 0 ≤ x ∧ x < b ∧ ¬ Mem x pre) ∧ (∀ x, Mem x pre → x < b) ∧ Can b q ∧ b ≤ 256
theorem rest_ok {n : Nat} {st : Sto} {ps : Rg} (c : Can 0 ps) : W (callN P0 (n + 1) "rest_of" [rgD ps] st) (fun v s => Fr [] st s ∧ ∃ rs, v = rgD rs ∧ Can 0 rs ∧ ∀ x, Mem x rs ↔ 0 ≤ x ∧ x ≤ 255 ∧ ¬ Mem x ps) NE := by
  refine w_def d_rest_of rfl rfl ?_
  simp only [b_rest_of, w_ok, w_err, w_non, w_bl, w_int, w_str, w_con, w_var, w_tup, w_lst, w_bin, w_neg, w_not, w_and, w_or, w_cmp, w_chain, w_ite, w_call, w_callV, w_bi, w_isi, w_meth, w_ix, w_slc, w_rev, w_lrng, w_lzip, w_fld, t_not, t_and, t_or, t_cmp, t_var, t_call, t_bi, t_isi, t_ix, t_bl, t_chain, s_nil, s_cons, s_star, o_none, o_some, i_e, i_rng, i_zip, ss_nil, ss_cons, st_expr, st_ret, st_retN, st_pass, st_brk, st_cont, st_asg, st_par, st_setIx, st_iff, st_for, st_raise, ts_nil, ts_one, oQ_some, oQ_none, rq_ret, rq_nx, fq_nx, fq_cont, fq_brk, fq_ret, tgB, setAll, wipe, List.getElem?_cons_zero, List.getElem?_cons_succ, List.set_cons_zero, List.set_cons_succ, List.map_cons, List.map_nil, List.length_cons, List.length_nil, List.cons_append, List.nil_append, List.append_nil, List.replicate_succ, List.replicate_zero, Nat.reduceSub, Nat.sub_self, add_int, sub_int, int_int, int_bl, abs_int, max_int, min_int, len_tup, lt_int, le_int, gt_int, ge_int, eq_int, ne_int, eq_bl, ix_tup, at0, at1, at2, ito_tup, seq_tup, truth_bl, truth_tup, List.length_nil, Nat.zero_le, if_true, rgD]
  refine w_loop (ds := ps.map prD) (RestI ps st)
    (Nat.lt_trans (rg_lim c _ rfl) (by decide)) (fun _ _ _ _ => rfl) ⟨[], ps, _, _, [], 0, rfl, rfl, rfl, get_last, Fr.app _ _ _, trivial, Int.le_refl _, (fun p hp => by cases hp), (fun x => ⟨fun h => absurd h mem_nil, fun h => by omega⟩), (fun x h => absurd h mem_nil), c, by decide⟩ ?_ ?_
  · rintro d rest env t ⟨pre, q, v3, v4, rs, b, e1, e2, e3, e5, e6, h1, h2, h3, h4, h5, h6, h7⟩
    subst e3
    match q, e2, e1, h6 with
    | p :: q, e2, e1, h6 =>
      simp only [List.map_cons, List.cons.injEq] at e2
      obtain ⟨e2, e7⟩ := e2
      subst e2 e7
      obtain ⟨g1, g2, g3, g4⟩ := h6
      simp only [prD, w_ok, w_err, w_non, w_bl, w_int, w_str, w_con, w_var, w_tup, w_lst, w_bin, w_neg, w_not, w_and, w_or, w_cmp, w_chain, w_ite, w_call, w_callV, w_bi, w_isi, w_meth, w_ix, w_slc, w_rev, w_lrng, w_lzip, w_fld, t_not, t_and, t_or, t_cmp, t_var, t_call, t_bi, t_isi, t_ix, t_bl, t_chain, s_nil, s_cons, s_star, o_none, o_some, i_e, i_rng, i_zip, ss_nil, ss_cons, st_expr, st_ret, st_retN, st_pass, st_brk, st_cont, st_asg, st_par, st_setIx, st_iff, st_for, st_raise, ts_nil, ts_one, oQ_some, oQ_none, rq_ret, rq_nx, fq_nx, fq_cont, fq_brk, fq_ret, tgB, setAll, wipe, List.getElem?_cons_zero, List.getElem?_cons_succ, List.set_cons_zero, List.set_cons_succ, List.map_cons, List.map_nil, List.length_cons, List.length_nil, List.cons_append, List.nil_append, List.append_nil, List.replicate_succ, List.replicate_zero, Nat.reduceSub, Nat.sub_self, add_int, sub_int, int_int, int_bl, abs_int, max_int, min_int, len_tup, lt_int, le_int, gt_int, ge_int, eq_int, ne_int, eq_bl, ix_tup, at0, at1, at2, ito_tup, seq_tup, truth_bl, truth_tup]
      have hlen : rs.length < LIM := by
        have := can_len0 h1
        unfold LIM
        omega
      have next : ∀ (rs' : Rg) (t' : Sto), t'[st.length]? = some (.lst true (rs'.map prD)) → Fr [] st t' → Can 0 rs' → (∀ p' ∈ rs', p'.2 + 1 < p.2 + 1) → (∀ x, Mem x rs' ↔ Mem x rs ∨ (b ≤ x ∧ x ≤ p.1 - 1)) →
          RestI ps st (q.map prD) [some (.tup (ps.map prD)), some (.ref st.length), some (.int (p.2 + 1)), some (.int p.1), some (.int p.2)] t' := fun rs' t' z1 z2 z3 z4 z5 => by
        refine ⟨pre ++ [p], q, _, _, rs', _, by rw [e1]; simp, rfl, rfl, z1, z2, z3, by omega, z4, fun x => ?_, fun x hx => ?_, g4.mono (by omega), by omega⟩
        · rw [z5, h4, mem_app, mem_one]
          have hx := h5 x
          by_cases hA : Mem x pre
          · have := hx hA
            simp only [hA, not_true_eq_false, and_false, false_or, true_or, iff_false]
            omega
          · simp only [hA, not_false_eq_true, and_true, false_or]
            omega
        · rcases mem_app.mp hx with y | y
          · have := h5 x y
            omega
          · have := mem_one.mp y
            omega
      by_cases hb : b < p.1
      · simp only [hb, decide_true, w_ok, w_err, w_non, w_bl, w_int, w_str, w_con, w_var, w_tup, w_lst, w_bin, w_neg, w_not, w_and, w_or, w_cmp, w_chain, w_ite, w_call, w_callV, w_bi, w_isi, w_meth, w_ix, w_slc, w_rev, w_lrng, w_lzip, w_fld, t_not, t_and, t_or, t_cmp, t_var, t_call, t_bi, t_isi, t_ix, t_bl, t_chain, s_nil, s_cons, s_star, o_none, o_some, i_e, i_rng, i_zip, ss_nil, ss_cons, st_expr, st_ret, st_retN, st_pass, st_brk, st_cont, st_asg, st_par, st_setIx, st_iff, st_for, st_raise, ts_nil, ts_one, oQ_some, oQ_none, rq_ret, rq_nx, fq_nx, fq_cont, fq_brk, fq_ret, tgB, setAll, wipe, List.getElem?_cons_zero, List.getElem?_cons_succ, List.set_cons_zero, List.set_cons_succ, List.map_cons, List.map_nil, List.length_cons, List.length_nil, List.cons_append, List.nil_append, List.append_nil, List.replicate_succ, List.replicate_zero, Nat.reduceSub, Nat.sub_self, add_int, sub_int, int_int, int_bl, abs_int, max_int, min_int, len_tup, lt_int, le_int, gt_int, ge_int, eq_int, ne_int, eq_bl, ix_tup, at0, at1, at2, ito_tup, seq_tup, truth_bl, truth_tup, kindB_lst e5, MT.name, if_true, show (0 + 1 + 1 ≤ LIM) from by decide, append_lst e5 (by rw [List.length_map]; exact hlen)]
        refine next (rs ++ [(b, p.1 - 1)]) _ ?_ (e6.set (.inr (Nat.le_refl _))) (can_snoc h1 h3 h2 (by omega) (by omega)) (fun p' hp' => ?_) fun x => ?_
        · rw [rg_snoc]
          exact get_set e5
        · rcases List.mem_append.mp hp' with y | y
          · have := h3 p' y
            omega
          · rw [List.mem_singleton.mp y]
            show p.1 - 1 + 1 < p.2 + 1
            omega
        · rw [mem_app, mem_one]
      · simp only [hb, decide_false, w_ok, w_err, w_non, w_bl, w_int, w_str, w_con, w_var, w_tup, w_lst, w_bin, w_neg, w_not, w_and, w_or, w_cmp, w_chain, w_ite, w_call, w_callV, w_bi, w_isi, w_meth, w_ix, w_slc, w_rev, w_lrng, w_lzip, w_fld, t_not, t_and, t_or, t_cmp, t_var, t_call, t_bi, t_isi, t_ix, t_bl, t_chain, s_nil, s_cons, s_star, o_none, o_some, i_e, i_rng, i_zip, ss_nil, ss_cons, st_expr, st_ret, st_retN, st_pass, st_brk, st_cont, st_asg, st_par, st_setIx, st_iff, st_for, st_raise, ts_nil, ts_one, oQ_some, oQ_none, rq_ret, rq_nx, fq_nx, fq_cont, fq_brk, fq_ret, tgB, setAll, wipe, List.getElem?_cons_zero, List.getElem?_cons_succ, List.set_cons_zero, List.set_cons_succ, List.map_cons, List.map_nil, List.length_cons, List.length_nil, List.cons_append, List.nil_append, List.append_nil, List.replicate_succ, List.replicate_zero, Nat.reduceSub, Nat.sub_self, add_int, sub_int, int_int, int_bl, abs_int, max_int, min_int, len_tup, lt_int, le_int, gt_int, ge_int, eq_int, ne_int, eq_bl, ix_tup, at0, at1, at2, ito_tup, seq_tup, truth_bl, truth_tup]
        refine next rs _ e5 e6 h1 (fun p' hp' => ?_) fun x => ?_
        · have := h3 p' hp'
          omega
        · constructor
          · exact .inl
          · rintro (y | y)
            · exact y
            · omega
  · rintro env t ⟨pre, q, v3, v4, rs, b, e1, e2, e3, e5, e6, h1, h2, h3, h4, h5, h6, h7⟩
    subst e3
    have eq : q = [] := by simpa using e2.symm
    subst eq
    rw [List.append_nil] at e1
    subst e1
    simp only [w_ok, w_err, w_non, w_bl, w_int, w_str, w_con, w_var, w_tup, w_lst, w_bin, w_neg, w_not, w_and, w_or, w_cmp, w_chain, w_ite, w_call, w_callV, w_bi, w_isi, w_meth, w_ix, w_slc, w_rev, w_lrng, w_lzip, w_fld, t_not, t_and, t_or, t_cmp, t_var, t_call, t_bi, t_isi, t_ix, t_bl, t_chain, s_nil, s_cons, s_star, o_none, o_some, i_e, i_rng, i_zip, ss_nil, ss_cons, st_expr, st_ret, st_retN, st_pass, st_brk, st_cont, st_asg, st_par, st_setIx, st_iff, st_for, st_raise, ts_nil, ts_one, oQ_some, oQ_none, rq_ret, rq_nx, fq_nx, fq_cont, fq_brk, fq_ret, tgB, setAll, wipe, List.getElem?_cons_zero, List.getElem?_cons_succ, List.set_cons_zero, List.set_cons_succ, List.map_cons, List.map_nil, List.length_cons, List.length_nil, List.cons_append, List.nil_append, List.append_nil, List.replicate_succ, List.replicate_zero, Nat.reduceSub, Nat.sub_self, add_int, sub_int, int_int, int_bl, abs_int, max_int, min_int, len_tup, lt_int, le_int, gt_int, ge_int, eq_int, ne_int, eq_bl, ix_tup, at0, at1, at2, ito_tup, seq_tup, truth_bl, truth_tup]
    have hlen : rs.length < LIM := by
      have := can_len0 h1
      unfold LIM
      omega
    by_cases hb : b ≤ 255
    · simp only [hb, decide_true, w_ok, w_err, w_non, w_bl, w_int, w_str, w_con, w_var, w_tup, w_lst, w_bin, w_neg, w_not, w_and, w_or, w_cmp, w_chain, w_ite, w_call, w_callV, w_bi, w_isi, w_meth, w_ix, w_slc, w_rev, w_lrng, w_lzip, w_fld, t_not, t_and, t_or, t_cmp, t_var, t_call, t_bi, t_isi, t_ix, t_bl, t_chain, s_nil, s_cons, s_star, o_none, o_some, i_e, i_rng, i_zip, ss_nil, ss_cons, st_expr, st_ret, st_retN, st_pass, st_brk, st_cont, st_asg, st_par, st_setIx, st_iff, st_for, st_raise, ts_nil, ts_one, oQ_some, oQ_none, rq_ret, rq_nx, fq_nx, fq_cont, fq_brk, fq_ret, tgB, setAll, wipe, List.getElem?_cons_zero, List.getElem?_cons_succ, List.set_cons_zero, List.set_cons_succ, List.map_cons, List.map_nil, List.length_cons, List.length_nil, List.cons_append, List.nil_append, List.append_nil, List.replicate_succ, List.replicate_zero, Nat.reduceSub, Nat.sub_self, add_int, sub_int, int_int, int_bl, abs_int, max_int, min_int, len_tup, lt_int, le_int, gt_int, ge_int, eq_int, ne_int, eq_bl, ix_tup, at0, at1, at2, ito_tup, seq_tup, truth_bl, truth_tup, kindB_lst e5, MT.name, if_true, show (0 + 1 + 1 ≤ LIM) from by decide, append_lst e5 (by rw [List.length_map]; exact hlen), evB_tuple (get_set e5)]
      refine ⟨e6.set (.inr (Nat.le_refl _)), rs ++ [(b, 255)], by rw [rg_snoc]; rfl, can_snoc h1 h3 h2 hb (by decide), fun x => ?_⟩
      rw [mem_app, mem_one, h4]
      have hx := h5 x
      by_cases hA : Mem x ps
      · have := hx hA
        simp only [hA, not_true_eq_false, and_false, false_or, iff_false]
        omega
      · simp only [hA, not_false_eq_true, and_true]
        omega
    · simp only [hb, decide_false, w_ok, w_err, w_non, w_bl, w_int, w_str, w_con, w_var, w_tup, w_lst, w_bin, w_neg, w_not, w_and, w_or, w_cmp, w_chain, w_ite, w_call, w_callV, w_bi, w_isi, w_meth, w_ix, w_slc, w_rev, w_lrng, w_lzip, w_fld, t_not, t_and, t_or, t_cmp, t_var, t_call, t_bi, t_isi, t_ix, t_bl, t_chain, s_nil, s_cons, s_star, o_none, o_some, i_e, i_rng, i_zip, ss_nil, ss_cons, st_expr, st_ret, st_retN, st_pass, st_brk, st_cont, st_asg, st_par, st_setIx, st_iff, st_for, st_raise, ts_nil, ts_one, oQ_some, oQ_none, rq_ret, rq_nx, fq_nx, fq_cont, fq_brk, fq_ret, tgB, setAll, wipe, List.getElem?_cons_zero, List.getElem?_cons_succ, List.set_cons_zero, List.set_cons_succ, List.map_cons, List.map_nil, List.length_cons, List.length_nil, List.cons_append, List.nil_append, List.append_nil, List.replicate_succ, List.replicate_zero, Nat.reduceSub, Nat.sub_self, add_int, sub_int, int_int, int_bl, abs_int, max_int, min_int, len_tup, lt_int, le_int, gt_int, ge_int, eq_int, ne_int, eq_bl, ix_tup, at0, at1, at2, ito_tup, seq_tup, truth_bl, truth_tup, evB_tuple e5]
      refine ⟨e6, rs, rfl, h1, fun x => ?_⟩
      rw [h4]
      have : b = 256 := by omega
      subst this
      constructor
      · rintro ⟨y1, y2, y3⟩
        exact ⟨y1, by omega, y3⟩
      · rintro ⟨y1, y2, y3⟩
        exact ⟨y1, by omega, y3⟩
end K01
end
section
set_option autoImplicit false
set_option linter.all false
set_option maxRecDepth 100000
set_option maxHeartbeats 4000000
namespace K01
open PySem PyI
/-- met: behind whole ranges of one -/
def MetO (ps qs : Rg) (st : Sto) (rest : List D) (env : PyI.Env) (t : Sto) : Prop :=
  ∃ pre q v3 v4 v5 v6 rs, ∃ b : Int, ps = pre ++ q ∧ rest = q.map prD ∧ env = [some (.tup (ps.map prD)), some (.tup (qs.map prD)), some (.ref st.length), v3, v4, v5, v6] ∧ t[st.length]? = some (.lst true (rs.map prD)) ∧ Fr [] st t ∧
    Can 0 rs ∧ 0 ≤ b ∧ (∀ p ∈ rs, p.2 + 1 < b) ∧ (∀ x, Mem x rs ↔ Mem x pre ∧ Mem x qs) ∧ Can b q
/-- .. and behind ranges of other -/
def MetI (ps qs : Rg) (st : Sto) (pre : Rg) (l h : Int) (rest : List D) (env : PyI.Env) (t : Sto) : Prop :=
  ∃ pre2 q v5 v6 rs, ∃ b : Int, qs = pre2 ++ q ∧ rest = q.map prD ∧ env = [some (.tup (ps.map prD)), some (.tup (qs.map prD)), some (.ref st.length), some (.int l), some (.int h), v5, v6] ∧ t[st.length]? = some (.lst true (rs.map prD)) ∧ Fr [] st t ∧
    Can 0 rs ∧ (∀ p ∈ rs, (p.2 + 1 < l ∨ p.2 + 1 < b) ∧ p.2 ≤ h) ∧ (∀ x, Mem x rs ↔ (Mem x pre ∧ Mem x qs) ∨ (l ≤ x ∧ x ≤ h ∧ Mem x pre2)) ∧ Can b q
theorem met_ok {n : Nat} {st : Sto} {ps qs : Rg} (c : Can 0 ps) (d : Can 0 qs) : W (callN P0 (n + 1) "met" [rgD ps, rgD qs] st) (fun v s => Fr [] st s ∧ ∃ rs, v = rgD rs ∧ Can 0 rs ∧ ∀ x, Mem x rs ↔ Mem x ps ∧ Mem x qs) NE := by
  refine w_def d_met rfl rfl ?_
  simp only [b_met, w_ok, w_err, w_non, w_bl, w_int, w_str, w_con, w_var, w_tup, w_lst, w_bin, w_neg, w_not, w_and, w_or, w_cmp, w_chain, w_ite, w_call, w_callV, w_bi, w_isi, w_meth, w_ix, w_slc, w_rev, w_lrng, w_lzip, w_fld, t_not, t_and, t_or, t_cmp, t_var, t_call, t_bi, t_isi, t_ix, t_bl, t_chain, s_nil, s_cons, s_star, o_none, o_some, i_e, i_rng, i_zip, ss_nil, ss_cons, st_expr, st_ret, st_retN, st_pass, st_brk, st_cont, st_asg, st_par, st_setIx, st_iff, st_for, st_raise, ts_nil, ts_one, oQ_some, oQ_none, rq_ret, rq_nx, fq_nx, fq_cont, fq_brk, fq_ret, tgB, setAll, wipe, List.getElem?_cons_zero, List.getElem?_cons_succ, List.set_cons_zero, List.set_cons_succ, List.map_cons, List.map_nil, List.length_cons, List.length_nil, List.cons_append, List.nil_append, List.append_nil, List.replicate_succ, List.replicate_zero, Nat.reduceSub, Nat.sub_self, add_int, sub_int, int_int, int_bl, abs_int, max_int, min_int, len_tup, lt_int, le_int, gt_int, ge_int, eq_int, ne_int, eq_bl, ix_tup, at0, at1, at2, ito_tup, seq_tup, truth_bl, truth_tup, List.length_nil, Nat.zero_le, if_true, rgD]
  refine w_loop (ds := ps.map prD) (MetO ps qs st) (Nat.lt_trans (rg_lim c _ rfl) (by decide)) (fun _ _ _ _ => rfl) ⟨[], ps, _, _, _, _, [], 0, rfl, rfl, rfl, get_last, Fr.app _ _ _, trivial, Int.le_refl _, (fun p hp => by cases hp), (fun x => ⟨fun h => absurd h mem_nil, fun h => absurd h.1 mem_nil⟩), c⟩ ?_ ?_
  · rintro d0 rest env t ⟨pre, q, v3, v4, v5, v6, rs, b, e1, e2, e3, e5, e6, h1, h2, h3, h4, h6⟩
    subst e3
    match q, e2, e1, h6 with
    | p :: q, e2, e1, h6 =>
      simp only [List.map_cons, List.cons.injEq] at e2
      obtain ⟨e2, e7⟩ := e2
      subst e2 e7
      obtain ⟨g1, g2, g3, g4⟩ := h6
      simp only [prD, w_ok, w_err, w_non, w_bl, w_int, w_str, w_con, w_var, w_tup, w_lst, w_bin, w_neg, w_not, w_and, w_or, w_cmp, w_chain, w_ite, w_call, w_callV, w_bi, w_isi, w_meth, w_ix, w_slc, w_rev, w_lrng, w_lzip, w_fld, t_not, t_and, t_or, t_cmp, t_var, t_call, t_bi, t_isi, t_ix, t_bl, t_chain, s_nil, s_cons, s_star, o_none, o_some, i_e, i_rng, i_zip, ss_nil, ss_cons, st_expr, st_ret, st_retN, st_pass, st_brk, st_cont, st_asg, st_par, st_setIx, st_iff, st_for, st_raise, ts_nil, ts_one, oQ_some, oQ_none, rq_ret, rq_nx, fq_nx, fq_cont, fq_brk, fq_ret, tgB, setAll, wipe, List.getElem?_cons_zero, List.getElem?_cons_succ, List.set_cons_zero, List.set_cons_succ, List.map_cons, List.map_nil, List.length_cons, List.length_nil, List.cons_append, List.nil_append, List.append_nil, List.replicate_succ, List.replicate_zero, Nat.reduceSub, Nat.sub_self, add_int, sub_int, int_int, int_bl, abs_int, max_int, min_int, len_tup, lt_int, le_int, gt_int, ge_int, eq_int, ne_int, eq_bl, ix_tup, at0, at1, at2, ito_tup, seq_tup, truth_bl, truth_tup]
      refine w_loop (ds := qs.map prD) (MetI ps qs st pre p.1 p.2) (Nat.lt_trans (rg_lim d _ rfl) (by decide)) (fun _ _ _ _ => rfl) ⟨[], qs, _, _, rs, 0, rfl, rfl, rfl, e5, e6, h1, (fun p' hp' => by have := h3 p' hp'; omega), (fun x => by rw [h4]; exact ⟨.inl, fun z => z.resolve_right fun y => mem_nil y.2.2⟩), d⟩ ?_ ?_
      · rintro d1 rest env u ⟨pre2, q2, w5, w6, rs, b2, a1, a2, a3, a5, a6, k1, k3, k4, k6⟩
        subst a3
        match q2, a2, a1, k6 with
        | p2 :: q2, a2, a1, k6 =>
          simp only [List.map_cons, List.cons.injEq] at a2
          obtain ⟨a2, a7⟩ := a2
          subst a2 a7
          obtain ⟨j1, j2, j3, j4⟩ := k6
          have hlen : rs.length < LIM := by
            have := can_len0 k1
            unfold LIM
            omega
          have okp := can_item c p (by rw [e1]; simp)
          simp only [prD, w_ok, w_err, w_non, w_bl, w_int, w_str, w_con, w_var, w_tup, w_lst, w_bin, w_neg, w_not, w_and, w_or, w_cmp, w_chain, w_ite, w_call, w_callV, w_bi, w_isi, w_meth, w_ix, w_slc, w_rev, w_lrng, w_lzip, w_fld, t_not, t_and, t_or, t_cmp, t_var, t_call, t_bi, t_isi, t_ix, t_bl, t_chain, s_nil, s_cons, s_star, o_none, o_some, i_e, i_rng, i_zip, ss_nil, ss_cons, st_expr, st_ret, st_retN, st_pass, st_brk, st_cont, st_asg, st_par, st_setIx, st_iff, st_for, st_raise, ts_nil, ts_one, oQ_some, oQ_none, rq_ret, rq_nx, fq_nx, fq_cont, fq_brk, fq_ret, tgB, setAll, wipe, List.getElem?_cons_zero, List.getElem?_cons_succ, List.set_cons_zero, List.set_cons_succ, List.map_cons, List.map_nil, List.length_cons, List.length_nil, List.cons_append, List.nil_append, List.append_nil, List.replicate_succ, List.replicate_zero, Nat.reduceSub, Nat.sub_self, add_int, sub_int, int_int, int_bl, abs_int, max_int, min_int, len_tup, lt_int, le_int, gt_int, ge_int, eq_int, ne_int, eq_bl, ix_tup, at0, at1, at2, ito_tup, seq_tup, truth_bl, truth_tup]
          by_cases hb : max p.1 p2.1 ≤ min p.2 p2.2
          · simp only [hb, decide_true, w_ok, w_err, w_non, w_bl, w_int, w_str, w_con, w_var, w_tup, w_lst, w_bin, w_neg, w_not, w_and, w_or, w_cmp, w_chain, w_ite, w_call, w_callV, w_bi, w_isi, w_meth, w_ix, w_slc, w_rev, w_lrng, w_lzip, w_fld, t_not, t_and, t_or, t_cmp, t_var, t_call, t_bi, t_isi, t_ix, t_bl, t_chain, s_nil, s_cons, s_star, o_none, o_some, i_e, i_rng, i_zip, ss_nil, ss_cons, st_expr, st_ret, st_retN, st_pass, st_brk, st_cont, st_asg, st_par, st_setIx, st_iff, st_for, st_raise, ts_nil, ts_one, oQ_some, oQ_none, rq_ret, rq_nx, fq_nx, fq_cont, fq_brk, fq_ret, tgB, setAll, wipe, List.getElem?_cons_zero, List.getElem?_cons_succ, List.set_cons_zero, List.set_cons_succ, List.map_cons, List.map_nil, List.length_cons, List.length_nil, List.cons_append, List.nil_append, List.append_nil, List.replicate_succ, List.replicate_zero, Nat.reduceSub, Nat.sub_self, add_int, sub_int, int_int, int_bl, abs_int, max_int, min_int, len_tup, lt_int, le_int, gt_int, ge_int, eq_int, ne_int, eq_bl, ix_tup, at0, at1, at2, ito_tup, seq_tup, truth_bl, truth_tup, kindB_lst a5, MT.name, if_true, show (0 + 1 + 1 ≤ LIM) from by decide, append_lst a5 (by rw [List.length_map]; exact hlen)]
            refine ⟨pre2 ++ [p2], q2, _, _, rs ++ [(max p.1 p2.1, min p.2 p2.2)], p2.2 + 2, by rw [a1]; simp, rfl, rfl, ?_, a6.set (.inr (Nat.le_refl _)), can_snoc k1 (fun p' hp' => ?_) (by omega) hb (by omega), fun p' hp' => ?_, fun x => ?_, j4⟩
            · rw [rg_snoc]
              exact get_set a5
            · have := k3 p' hp'
              omega
            · rcases List.mem_append.mp hp' with y | y
              · have := k3 p' y
                omega
              · rw [List.mem_singleton.mp y]
                show (min p.2 p2.2 + 1 < p.1 ∨ min p.2 p2.2 + 1 < p2.2 + 2) ∧ min p.2 p2.2 ≤ p.2
                omega
            · rw [mem_app, mem_one, k4, mem_app, mem_one]
              show ((Mem x pre ∧ Mem x qs) ∨ (p.1 ≤ x ∧ x ≤ p.2 ∧ Mem x pre2)) ∨ (max p.1 p2.1 ≤ x ∧ x ≤ min p.2 p2.2) ↔ _
              by_cases hA : Mem x pre2
              · simp only [hA, and_true, true_or]
                constructor
                · rintro ((y | y) | y)
                  · exact .inl y
                  · exact .inr y
                  · exact .inr (by omega)
                · rintro (y | y)
                  · exact .inl (.inl y)
                  · exact .inl (.inr y)
              · simp only [hA, and_false, false_or, or_false]
                constructor
                · rintro (y | y)
                  · exact .inl y
                  · exact .inr (by omega)
                · rintro (y | y)
                  · exact .inl y
                  · exact .inr (by omega)
          · simp only [hb, decide_false, w_ok, w_err, w_non, w_bl, w_int, w_str, w_con, w_var, w_tup, w_lst, w_bin, w_neg, w_not, w_and, w_or, w_cmp, w_chain, w_ite, w_call, w_callV, w_bi, w_isi, w_meth, w_ix, w_slc, w_rev, w_lrng, w_lzip, w_fld, t_not, t_and, t_or, t_cmp, t_var, t_call, t_bi, t_isi, t_ix, t_bl, t_chain, s_nil, s_cons, s_star, o_none, o_some, i_e, i_rng, i_zip, ss_nil, ss_cons, st_expr, st_ret, st_retN, st_pass, st_brk, st_cont, st_asg, st_par, st_setIx, st_iff, st_for, st_raise, ts_nil, ts_one, oQ_some, oQ_none, rq_ret, rq_nx, fq_nx, fq_cont, fq_brk, fq_ret, tgB, setAll, wipe, List.getElem?_cons_zero, List.getElem?_cons_succ, List.set_cons_zero, List.set_cons_succ, List.map_cons, List.map_nil, List.length_cons, List.length_nil, List.cons_append, List.nil_append, List.append_nil, List.replicate_succ, List.replicate_zero, Nat.reduceSub, Nat.sub_self, add_int, sub_int, int_int, int_bl, abs_int, max_int, min_int, len_tup, lt_int, le_int, gt_int, ge_int, eq_int, ne_int, eq_bl, ix_tup, at0, at1, at2, ito_tup, seq_tup, truth_bl, truth_tup]
            refine ⟨pre2 ++ [p2], q2, _, _, rs, p2.2 + 2, by rw [a1]; simp, rfl, rfl, a5, a6, k1, fun p' hp' => ?_, fun x => ?_, j4⟩
            · have := k3 p' hp'
              omega
            · rw [k4, mem_app, mem_one]
              constructor
              · rintro (y | y)
                · exact .inl y
                · exact .inr ⟨y.1, y.2.1, .inl y.2.2⟩
              · rintro (y | ⟨y1, y2, y3 | y3⟩)
                · exact .inl y
                · exact .inr ⟨y1, y2, y3⟩
                · omega
      · rintro env u ⟨pre2, q2, w5, w6, rs, b2, a1, a2, a3, a5, a6, k1, k3, k4, k6⟩
        subst a3
        have eq : q2 = [] := by simpa using a2.symm
        subst eq
        rw [List.append_nil] at a1
        subst a1
        simp only [w_ok, w_err, w_non, w_bl, w_int, w_str, w_con, w_var, w_tup, w_lst, w_bin, w_neg, w_not, w_and, w_or, w_cmp, w_chain, w_ite, w_call, w_callV, w_bi, w_isi, w_meth, w_ix, w_slc, w_rev, w_lrng, w_lzip, w_fld, t_not, t_and, t_or, t_cmp, t_var, t_call, t_bi, t_isi, t_ix, t_bl, t_chain, s_nil, s_cons, s_star, o_none, o_some, i_e, i_rng, i_zip, ss_nil, ss_cons, st_expr, st_ret, st_retN, st_pass, st_brk, st_cont, st_asg, st_par, st_setIx, st_iff, st_for, st_raise, ts_nil, ts_one, oQ_some, oQ_none, rq_ret, rq_nx, fq_nx, fq_cont, fq_brk, fq_ret, tgB, setAll, wipe, List.getElem?_cons_zero, List.getElem?_cons_succ, List.set_cons_zero, List.set_cons_succ, List.map_cons, List.map_nil, List.length_cons, List.length_nil, List.cons_append, List.nil_append, List.append_nil, List.replicate_succ, List.replicate_zero, Nat.reduceSub, Nat.sub_self, add_int, sub_int, int_int, int_bl, abs_int, max_int, min_int, len_tup, lt_int, le_int, gt_int, ge_int, eq_int, ne_int, eq_bl, ix_tup, at0, at1, at2, ito_tup, seq_tup, truth_bl, truth_tup]
        refine ⟨pre ++ [p], q, _, _, _, _, rs, p.2 + 2, by rw [e1]; simp, rfl, rfl, a5, a6, k1, by omega, fun p' hp' => by have := k3 p' hp'; omega, fun x => ?_, g4⟩
        rw [k4, mem_app, mem_one]
        constructor
        · rintro (y | y)
          · exact ⟨.inl y.1, y.2⟩
          · exact ⟨.inr ⟨y.1, y.2.1⟩, y.2.2⟩
        · rintro ⟨y | y, z⟩
          · exact .inl ⟨y, z⟩
          · exact .inr ⟨y.1, y.2, z⟩
  · rintro env t ⟨pre, q, v3, v4, v5, v6, rs, b, e1, e2, e3, e5, e6, h1, h2, h3, h4, h6⟩
    subst e3
    have eq : q = [] := by simpa using e2.symm
    subst eq
    rw [List.append_nil] at e1
    subst e1
    simp only [w_ok, w_err, w_non, w_bl, w_int, w_str, w_con, w_var, w_tup, w_lst, w_bin, w_neg, w_not, w_and, w_or, w_cmp, w_chain, w_ite, w_call, w_callV, w_bi, w_isi, w_meth, w_ix, w_slc, w_rev, w_lrng, w_lzip, w_fld, t_not, t_and, t_or, t_cmp, t_var, t_call, t_bi, t_isi, t_ix, t_bl, t_chain, s_nil, s_cons, s_star, o_none, o_some, i_e, i_rng, i_zip, ss_nil, ss_cons, st_expr, st_ret, st_retN, st_pass, st_brk, st_cont, st_asg, st_par, st_setIx, st_iff, st_for, st_raise, ts_nil, ts_one, oQ_some, oQ_none, rq_ret, rq_nx, fq_nx, fq_cont, fq_brk, fq_ret, tgB, setAll, wipe, List.getElem?_cons_zero, List.getElem?_cons_succ, List.set_cons_zero, List.set_cons_succ, List.map_cons, List.map_nil, List.length_cons, List.length_nil, List.cons_append, List.nil_append, List.append_nil, List.replicate_succ, List.replicate_zero, Nat.reduceSub, Nat.sub_self, add_int, sub_int, int_int, int_bl, abs_int, max_int, min_int, len_tup, lt_int, le_int, gt_int, ge_int, eq_int, ne_int, eq_bl, ix_tup, at0, at1, at2, ito_tup, seq_tup, truth_bl, truth_tup, evB_tuple e5]
    exact ⟨e6, rs, rfl, h1, h4⟩
end K01
end
section
set_option autoImplicit false
set_option linter.all false
set_option maxRecDepth 100000
set_option maxHeartbeats 4000000
namespace K01
open PySem PyI
theorem dep_rg : ∀ ps : Rg, depDs (ps.map prD) ≤ 1
  | [] => by decide
  | p :: r => by
    have := dep_rg r
    show max (depD (prD p)) (depDs (r.map prD)) ≤ 1
    have e : depD (prD p) = 1 := by simp [prD, depD, depDs]
    omega
theorem pure_rg : ∀ ps : Rg, pureDs (ps.map prD) = true
  | [] => rfl
  | p :: r => by
    show (pureD (prD p) && pureDs (r.map prD)) = true
    rw [pure_rg r]
    rfl
theorem ne_nil {st : Sto} {n : Nat} {w : Bool} {xs : List D} (e : st[n]? = some (.lst w xs)) (h : pureDs xs = true) (h2 : depDs xs ≤ 60) : cmpB .ne (.ref n) (.ref st.length) (st ++ [.lst true []]) = some (!xs.isEmpty) := by
  show (eqD (.ref n) (.ref st.length) (st ++ [.lst true []])).map (!·) = _
  rw [eqD_dat (dat_lst ((Fr.app [] _ _).get e) h h2) (dat_lst (w := true) (xs := []) get_last rfl (by decide))]
  cases xs with
  | nil => simp [pds, PyData.eqv, PyData.eqvAll]
  | cons x r => simp [pds, PyData.eqv, PyData.eqvAll]
theorem prs_rg : ∀ ps : Rg, prs (ps.map prD) = some ps
  | [] => rfl
  | p :: r => by
    show (prs (r.map prD)).map ((p.1, p.2) :: ·) = _
    rw [prs_rg r]
    rfl
theorem sort_rg (ps : Rg) : ∃ qs : Rg, sortD (ps.map prD) = some (qs.map prD) ∧ List.Perm qs ps ∧ qs.Pairwise (fun a b => a.1 ≤ b.1) := by
  cases ps with
  | nil => exact ⟨[], by simp [sortD, intsD], .nil, .nil⟩
  | cons p r =>
    refine ⟨(p :: r).mergeSort prLe, ?_, List.mergeSort_perm _ _, ?_⟩
    · unfold sortD
      have e : intsD ((p :: r).map prD) = none := rfl
      rw [e]
      show (match prs ((p :: r).map prD) with
        | some ps => some ((ps.mergeSort prLe).map prD)
        | none => none) = _
      rw [prs_rg]
    · have tr : ∀ a b c : Int × Int, prLe a b = true → prLe b c = true → prLe a c = true := fun a b c h1 h2 => by
        simp only [prLe, Bool.or_eq_true, Bool.and_eq_true, decide_eq_true_eq] at h1 h2 ⊢
        omega
      have tot : ∀ a b : Int × Int, (prLe a b || prLe b a) = true := fun a b => by
        simp only [prLe, Bool.or_eq_true, Bool.and_eq_true, decide_eq_true_eq]
        omega
      refine (List.pairwise_mergeSort tr tot (p :: r)).imp fun {a b} h => ?_
      simp only [prLe, Bool.or_eq_true, Bool.and_eq_true, decide_eq_true_eq] at h
      omega
theorem sorted_tup {st : Sto} {xs ys : List D} (h : sortD xs = some ys) : evB .sorted [.tup xs] st = some (.ref st.length, st ++ [.lst true ys]) := by
  show (match (some xs).bind sortD with
    | some ys => some (new (.lst true ys) st)
    | none => none) = _
  show (match sortD xs with
    | some ys => some (new (.lst true ys) st)
    | none => none) = _
  rw [h]
  rfl
def MrgI (rows ss : Rg) (st : Sto) (rest : List D) (env : PyI.Env) (t : Sto) : Prop :=
  ∃ pre q v2 v3, ∃ out : Rg, ss = pre ++ q ∧ rest = q.map prD ∧ env = [some (.tup (rows.map prD)), some (.ref st.length), v2, v3] ∧ t[st.length]? = some (.lst true (out.map prD)) ∧ t[st.length + 1]? = some (.lst true (ss.map prD)) ∧ Fr [] st t ∧
    Can 0 out ∧ (∀ x, Mem x out ↔ Mem x pre) ∧ (∀ p ∈ out, ∀ r ∈ q, p.1 ≤ r.1)
theorem merged_ok {n : Nat} {st : Sto} {rows : Rg} (c : ∀ p ∈ rows, 0 ≤ p.1 ∧ p.1 ≤ p.2 ∧ p.2 ≤ 255) (hl : rows.length < LIM) : W (callN P0 (n + 1) "merged" [.tup (rows.map prD)] st) (fun v s => Fr [] st s ∧ ∃ rs, v = rgD rs ∧ Can 0 rs ∧ ∀ x, Mem x rs ↔ Mem x rows) NE := by
  obtain ⟨ss, es, pm, so⟩ := sort_rg rows
  refine w_def d_merged rfl rfl ?_
  simp only [b_merged, w_ok, w_err, w_non, w_bl, w_int, w_str, w_con, w_var, w_tup, w_lst, w_bin, w_neg, w_not, w_and, w_or, w_cmp, w_chain, w_ite, w_call, w_callV, w_bi, w_isi, w_meth, w_ix, w_slc, w_rev, w_lrng, w_lzip, w_fld, t_not, t_and, t_or, t_cmp, t_var, t_call, t_bi, t_isi, t_ix, t_bl, t_chain, s_nil, s_cons, s_star, o_none, o_some, i_e, i_rng, i_zip, ss_nil, ss_cons, st_expr, st_ret, st_retN, st_pass, st_brk, st_cont, st_asg, st_par, st_setIx, st_iff, st_for, st_raise, ts_nil, ts_one, oQ_some, oQ_none, rq_ret, rq_nx, fq_nx, fq_cont, fq_brk, fq_ret, tgB, setAll, wipe, List.getElem?_cons_zero, List.getElem?_cons_succ, List.set_cons_zero, List.set_cons_succ, List.map_cons, List.map_nil, List.length_cons, List.length_nil, List.cons_append, List.nil_append, List.append_nil, List.replicate_succ, List.replicate_zero, Nat.reduceSub, Nat.sub_self, add_int, sub_int, int_int, int_bl, abs_int, max_int, min_int, len_tup, lt_int, le_int, gt_int, ge_int, eq_int, ne_int, eq_bl, ix_tup, at0, at1, at2, ito_tup, seq_tup, truth_bl, truth_tup, List.length_nil, Nat.zero_le, if_true, sorted_tup es, itOf_lst get_last]
  have lss : ss.length = rows.length := pm.length_eq
  have css : ∀ p ∈ ss, 0 ≤ p.1 ∧ p.1 ≤ p.2 ∧ p.2 ≤ 255 := fun p hp => c p (pm.mem_iff.mp hp)
  have e1' : (st ++ [Cell.lst true []]).length = st.length + 1 := by simp
  refine w_loop (ds := ss.map prD) (MrgI rows ss st) (by rw [List.length_map, lss]; exact lim_fuel hl) (fun rest env t ⟨_, _, _, _, _, _, _, _, _, z, _⟩ => by rw [e1']; exact ⟨true, z⟩) ⟨[], ss, _, _, [], rfl, rfl, rfl, (Fr.app [] _ _).get get_last, by rw [← e1']; exact get_last, (Fr.app [] _ _).trans (Fr.app [] _ _), trivial, (fun x => Iff.rfl), (fun p hp => by cases hp)⟩ ?_ ?_
  · rintro d0 rest env t ⟨pre, q, v2, v3, out, e1, e2, e3, e5, e5', e6, h1, h2, h3⟩
    subst e3
    match q, e2, e1, h3 with
    | p :: q, e2, e1, h3 =>
      simp only [List.map_cons, List.cons.injEq] at e2
      obtain ⟨e2, e7⟩ := e2
      subst e2 e7
      have ok := css p (by rw [e1]; simp)
      have hso : ∀ r ∈ q, p.1 ≤ r.1 := by
        rw [e1, List.pairwise_append] at so
        exact (List.pairwise_cons.mp so.2.1).1
      have hlen : out.length < LIM := by
        have := can_len0 h1
        unfold LIM
        omega
      have dp := dep_rg out
      have nn := ne_nil e5 (pure_rg out) (by omega)
      have e8 := (Fr.app [] t [.lst true []]).get e5
      have e8' := (Fr.app [] t [.lst true []]).get e5'
      have f8 := e6.trans (Fr.app [] t [.lst true []])
      simp only [prD, w_ok, w_err, w_non, w_bl, w_int, w_str, w_con, w_var, w_tup, w_lst, w_bin, w_neg, w_not, w_and, w_or, w_cmp, w_chain, w_ite, w_call, w_callV, w_bi, w_isi, w_meth, w_ix, w_slc, w_rev, w_lrng, w_lzip, w_fld, t_not, t_and, t_or, t_cmp, t_var, t_call, t_bi, t_isi, t_ix, t_bl, t_chain, s_nil, s_cons, s_star, o_none, o_some, i_e, i_rng, i_zip, ss_nil, ss_cons, st_expr, st_ret, st_retN, st_pass, st_brk, st_cont, st_asg, st_par, st_setIx, st_iff, st_for, st_raise, ts_nil, ts_one, oQ_some, oQ_none, rq_ret, rq_nx, fq_nx, fq_cont, fq_brk, fq_ret, tgB, setAll, wipe, List.getElem?_cons_zero, List.getElem?_cons_succ, List.set_cons_zero, List.set_cons_succ, List.map_cons, List.map_nil, List.length_cons, List.length_nil, List.cons_append, List.nil_append, List.append_nil, List.replicate_succ, List.replicate_zero, Nat.reduceSub, Nat.sub_self, add_int, sub_int, int_int, int_bl, abs_int, max_int, min_int, len_tup, lt_int, le_int, gt_int, ge_int, eq_int, ne_int, eq_bl, ix_tup, at0, at1, at2, ito_tup, seq_tup, truth_bl, truth_tup, List.length_nil, Nat.zero_le, if_true, nn]
      generalize t ++ [Cell.lst true []] = u at e8 e8' f8
      have push : ∀ (u' : Sto), u'[st.length]? = some (.lst true (out.map prD)) → u'[st.length + 1]? = some (.lst true (ss.map prD)) → Fr [] st u' → (∀ r ∈ out, r.2 + 1 < p.1) →
          MrgI rows ss st (q.map prD) [some (.tup (rows.map prD)), some (.ref st.length), some (.int p.1), some (.int p.2)] (u'.set st.length (.lst true (out.map prD ++ [prD p]))) := fun u' z1 z1' z2 z3 => by
        refine ⟨pre ++ [p], q, _, _, out ++ [p], by rw [e1]; simp, rfl, rfl, ?_, ?_, z2.set (.inr (Nat.le_refl _)), can_snoc h1 z3 ok.1 ok.2.1 ok.2.2, fun x => ?_, fun r hr r' hr' => ?_⟩
        · rw [rg_snoc]
          exact get_set z1
        · rw [get_set_ne (by omega)]
          exact z1'
        · rw [mem_app, mem_app, h2]
        · rcases List.mem_append.mp hr with y | y
          · exact h3 r y r' (List.mem_cons_of_mem _ hr')
          · rw [List.mem_singleton.mp y]
            exact hso r' hr'
      rcases List.eq_nil_or_concat out with eo | ⟨o2, lst, eo⟩
      · subst eo
        simp only [List.map_nil, List.isEmpty_nil, Bool.not_true, w_ok, w_err, w_non, w_bl, w_int, w_str, w_con, w_var, w_tup, w_lst, w_bin, w_neg, w_not, w_and, w_or, w_cmp, w_chain, w_ite, w_call, w_callV, w_bi, w_isi, w_meth, w_ix, w_slc, w_rev, w_lrng, w_lzip, w_fld, t_not, t_and, t_or, t_cmp, t_var, t_call, t_bi, t_isi, t_ix, t_bl, t_chain, s_nil, s_cons, s_star, o_none, o_some, i_e, i_rng, i_zip, ss_nil, ss_cons, st_expr, st_ret, st_retN, st_pass, st_brk, st_cont, st_asg, st_par, st_setIx, st_iff, st_for, st_raise, ts_nil, ts_one, oQ_some, oQ_none, rq_ret, rq_nx, fq_nx, fq_cont, fq_brk, fq_ret, tgB, setAll, wipe, List.getElem?_cons_zero, List.getElem?_cons_succ, List.set_cons_zero, List.set_cons_succ, List.map_cons, List.map_nil, List.length_cons, List.length_nil, List.cons_append, List.nil_append, List.append_nil, List.replicate_succ, List.replicate_zero, Nat.reduceSub, Nat.sub_self, add_int, sub_int, int_int, int_bl, abs_int, max_int, min_int, len_tup, lt_int, le_int, gt_int, ge_int, eq_int, ne_int, eq_bl, ix_tup, at0, at1, at2, ito_tup, seq_tup, truth_bl, truth_tup, kindB_lst e8, MT.name, if_true, show (0 + 1 + 1 ≤ LIM) from by decide, append_lst e8 (show (0 : Nat) < LIM by decide)]
        exact push u e8 e8' f8 (fun r hr => by cases hr)
      · have eo : out = o2 ++ [lst] := by rw [eo, List.concat_eq_append]
        subst eo
        rw [rg_snoc] at e8
        have ne : ((o2 ++ [lst]).map prD).isEmpty = false := by rw [rg_snoc]; simp
        have il : ixB (.ref st.length) (.int (-1)) u = some (prD lst) := ixL e8 at_last
        simp only [ne, Bool.not_false, w_ok, w_err, w_non, w_bl, w_int, w_str, w_con, w_var, w_tup, w_lst, w_bin, w_neg, w_not, w_and, w_or, w_cmp, w_chain, w_ite, w_call, w_callV, w_bi, w_isi, w_meth, w_ix, w_slc, w_rev, w_lrng, w_lzip, w_fld, t_not, t_and, t_or, t_cmp, t_var, t_call, t_bi, t_isi, t_ix, t_bl, t_chain, s_nil, s_cons, s_star, o_none, o_some, i_e, i_rng, i_zip, ss_nil, ss_cons, st_expr, st_ret, st_retN, st_pass, st_brk, st_cont, st_asg, st_par, st_setIx, st_iff, st_for, st_raise, ts_nil, ts_one, oQ_some, oQ_none, rq_ret, rq_nx, fq_nx, fq_cont, fq_brk, fq_ret, tgB, setAll, wipe, List.getElem?_cons_zero, List.getElem?_cons_succ, List.set_cons_zero, List.set_cons_succ, List.map_cons, List.map_nil, List.length_cons, List.length_nil, List.cons_append, List.nil_append, List.append_nil, List.replicate_succ, List.replicate_zero, Nat.reduceSub, Nat.sub_self, add_int, sub_int, int_int, int_bl, abs_int, max_int, min_int, len_tup, lt_int, le_int, gt_int, ge_int, eq_int, ne_int, eq_bl, ix_tup, at0, at1, at2, ito_tup, seq_tup, truth_bl, truth_tup, il, prD]
        have hb := can_before h1
        have hlp : lst.1 ≤ p.1 := h3 lst (by simp) p (List.mem_cons_self ..)
        by_cases hg : p.1 ≤ lst.2 + 1
        · simp only [hg, decide_true, show (0 + 1 + 1 ≤ LIM) from by decide, if_true, setL1 e8, w_ok, w_err, w_non, w_bl, w_int, w_str, w_con, w_var, w_tup, w_lst, w_bin, w_neg, w_not, w_and, w_or, w_cmp, w_chain, w_ite, w_call, w_callV, w_bi, w_isi, w_meth, w_ix, w_slc, w_rev, w_lrng, w_lzip, w_fld, t_not, t_and, t_or, t_cmp, t_var, t_call, t_bi, t_isi, t_ix, t_bl, t_chain, s_nil, s_cons, s_star, o_none, o_some, i_e, i_rng, i_zip, ss_nil, ss_cons, st_expr, st_ret, st_retN, st_pass, st_brk, st_cont, st_asg, st_par, st_setIx, st_iff, st_for, st_raise, ts_nil, ts_one, oQ_some, oQ_none, rq_ret, rq_nx, fq_nx, fq_cont, fq_brk, fq_ret, tgB, setAll, wipe, List.getElem?_cons_zero, List.getElem?_cons_succ, List.set_cons_zero, List.set_cons_succ, List.map_cons, List.map_nil, List.length_cons, List.length_nil, List.cons_append, List.nil_append, List.append_nil, List.replicate_succ, List.replicate_zero, Nat.reduceSub, Nat.sub_self, add_int, sub_int, int_int, int_bl, abs_int, max_int, min_int, len_tup, lt_int, le_int, gt_int, ge_int, eq_int, ne_int, eq_bl, ix_tup, at0, at1, at2, ito_tup, seq_tup, truth_bl, truth_tup]
          refine ⟨pre ++ [p], q, _, _, o2 ++ [(lst.1, max lst.2 p.2)], by rw [e1]; simp, rfl, rfl, ?_, ?_, f8.set (.inr (Nat.le_refl _)), can_last h1 (by omega) (by have := hb.2.2.2; omega), fun x => ?_, fun r hr r' hr' => ?_⟩
          · rw [rg_snoc]
            exact get_set e8
          · rw [get_set_ne (by omega)]
            exact e8'
          · have z := h2 x
            rw [mem_app, mem_one] at z
            rw [mem_app, mem_one, mem_app, mem_one, ← z]
            show Mem x o2 ∨ (lst.1 ≤ x ∧ x ≤ max lst.2 p.2) ↔ _
            constructor
            · rintro (y | y)
              · exact .inl (.inl y)
              · by_cases w : x ≤ lst.2
                · exact .inl (.inr ⟨y.1, w⟩)
                · exact .inr (by omega)
            · rintro ((y | y) | y)
              · exact .inl y
              · exact .inr (by omega)
              · exact .inr (by omega)
          · rcases List.mem_append.mp hr with y | y
            · exact h3 r (List.mem_append_left _ y) r' (List.mem_cons_of_mem _ hr')
            · rw [List.mem_singleton.mp y]
              exact h3 lst (by simp) r' (List.mem_cons_of_mem _ hr')
        · rw [rg_snoc] at push
          simp only [hg, decide_false, kindB_lst e8, MT.name, show (0 + 1 + 1 ≤ LIM) from by decide, if_true, append_lst e8 (show (o2.map prD ++ [prD lst]).length < LIM by rw [← rg_snoc, List.length_map]; exact hlen), w_ok, w_err, w_non, w_bl, w_int, w_str, w_con, w_var, w_tup, w_lst, w_bin, w_neg, w_not, w_and, w_or, w_cmp, w_chain, w_ite, w_call, w_callV, w_bi, w_isi, w_meth, w_ix, w_slc, w_rev, w_lrng, w_lzip, w_fld, t_not, t_and, t_or, t_cmp, t_var, t_call, t_bi, t_isi, t_ix, t_bl, t_chain, s_nil, s_cons, s_star, o_none, o_some, i_e, i_rng, i_zip, ss_nil, ss_cons, st_expr, st_ret, st_retN, st_pass, st_brk, st_cont, st_asg, st_par, st_setIx, st_iff, st_for, st_raise, ts_nil, ts_one, oQ_some, oQ_none, rq_ret, rq_nx, fq_nx, fq_cont, fq_brk, fq_ret, tgB, setAll, wipe, List.getElem?_cons_zero, List.getElem?_cons_succ, List.set_cons_zero, List.set_cons_succ, List.map_cons, List.map_nil, List.length_cons, List.length_nil, List.cons_append, List.nil_append, List.append_nil, List.replicate_succ, List.replicate_zero, Nat.reduceSub, Nat.sub_self, add_int, sub_int, int_int, int_bl, abs_int, max_int, min_int, len_tup, lt_int, le_int, gt_int, ge_int, eq_int, ne_int, eq_bl, ix_tup, at0, at1, at2, ito_tup, seq_tup, truth_bl, truth_tup]
          refine push u e8 e8' f8 fun r hr => ?_
          rcases List.mem_append.mp hr with y | y
          · have := hb.1 r y
            have := hb.2.2.1
            omega
          · rw [List.mem_singleton.mp y]
            omega
  · rintro env t ⟨pre, q, v2, v3, out, e1, e2, e3, e5, e5', e6, h1, h2, h3⟩
    subst e3
    have eq : q = [] := by simpa using e2.symm
    subst eq
    rw [List.append_nil] at e1
    subst e1
    simp only [w_ok, w_err, w_non, w_bl, w_int, w_str, w_con, w_var, w_tup, w_lst, w_bin, w_neg, w_not, w_and, w_or, w_cmp, w_chain, w_ite, w_call, w_callV, w_bi, w_isi, w_meth, w_ix, w_slc, w_rev, w_lrng, w_lzip, w_fld, t_not, t_and, t_or, t_cmp, t_var, t_call, t_bi, t_isi, t_ix, t_bl, t_chain, s_nil, s_cons, s_star, o_none, o_some, i_e, i_rng, i_zip, ss_nil, ss_cons, st_expr, st_ret, st_retN, st_pass, st_brk, st_cont, st_asg, st_par, st_setIx, st_iff, st_for, st_raise, ts_nil, ts_one, oQ_some, oQ_none, rq_ret, rq_nx, fq_nx, fq_cont, fq_brk, fq_ret, tgB, setAll, wipe, List.getElem?_cons_zero, List.getElem?_cons_succ, List.set_cons_zero, List.set_cons_succ, List.map_cons, List.map_nil, List.length_cons, List.length_nil, List.cons_append, List.nil_append, List.append_nil, List.replicate_succ, List.replicate_zero, Nat.reduceSub, Nat.sub_self, add_int, sub_int, int_int, int_bl, abs_int, max_int, min_int, len_tup, lt_int, le_int, gt_int, ge_int, eq_int, ne_int, eq_bl, ix_tup, at0, at1, at2, ito_tup, seq_tup, truth_bl, truth_tup, evB_tuple e5]
    refine ⟨e6, out, rfl, h1, fun x => ?_⟩
    rw [h2]
    exact ⟨fun ⟨p, hp, z⟩ => ⟨p, pm.mem_iff.mp hp, z⟩, fun ⟨p, hp, z⟩ => ⟨p, pm.mem_iff.mpr hp, z⟩⟩
end K01
end
section
set_option autoImplicit false
set_option linter.all false
set_option maxRecDepth 100000
set_option maxHeartbeats 4000000
namespace K01
open PySem PyI
theorem d_either : P0.defs "either" = some ⟨2, 2, b_either⟩ := by kernel_rfl
theorem d_both : P0.defs "both" = some ⟨2, 2, b_both⟩ := by kernel_rfl
theorem d_others : P0.defs "others" = some ⟨1, 1, b_others⟩ := by kernel_rfl
theorem d_without : P0.defs "without" = some ⟨2, 2, b_without⟩ := by kernel_rfl
theorem either_ok {n : Nat} {st : Sto} {ps qs : Rg} (c : Can 0 ps) (d : Can 0 qs) : W (callN P0 (n + 6) "either" [rgD ps, rgD qs] st) (fun v s => Fr [] st s ∧ ∃ rs, v = rgD rs ∧ Can 0 rs ∧ ∀ x, Mem x rs ↔ Mem x ps ∨ Mem x qs) NE := by
  refine w_def d_either rfl rfl ?_
  simp only [b_either, w_ok, w_err, w_non, w_bl, w_int, w_str, w_con, w_var, w_tup, w_lst, w_bin, w_neg, w_not, w_and, w_or, w_cmp, w_chain, w_ite, w_call, w_callV, w_bi, w_isi, w_meth, w_ix, w_slc, w_rev, w_lrng, w_lzip, w_fld, t_not, t_and, t_or, t_cmp, t_var, t_call, t_bi, t_isi, t_ix, t_bl, t_chain, s_nil, s_cons, s_star, o_none, o_some, i_e, i_rng, i_zip, ss_nil, ss_cons, st_expr, st_ret, st_retN, st_pass, st_brk, st_cont, st_asg, st_par, st_setIx, st_iff, st_for, st_raise, ts_nil, ts_one, oQ_some, oQ_none, rq_ret, rq_nx, fq_nx, fq_cont, fq_brk, fq_ret, tgB, setAll, wipe, List.getElem?_cons_zero, List.getElem?_cons_succ, List.set_cons_zero, List.set_cons_succ, List.map_cons, List.map_nil, List.length_cons, List.length_nil, List.cons_append, List.nil_append, List.append_nil, List.replicate_succ, List.replicate_zero, Nat.reduceSub, Nat.sub_self, add_int, sub_int, int_int, int_bl, abs_int, max_int, min_int, len_tup, lt_int, le_int, gt_int, ge_int, eq_int, ne_int, eq_bl, ix_tup, at0, at1, at2, ito_tup, seq_tup, truth_bl, truth_tup]
  refine (check_set_ok (n := n) c).imp fun v s ⟨f, e⟩ => ?_
  refine (check_set_ok (n := n) d).imp fun v t ⟨f2, e2⟩ => ?_
  have l1 := can_len0 c
  have l2 := can_len0 d
  have hl : ((ps ++ qs).map prD).length ≤ LIM := by
    rw [List.length_map, List.length_append]
    unfold LIM
    omega
  simp only [rgD, w_ok, w_err, w_non, w_bl, w_int, w_str, w_con, w_var, w_tup, w_lst, w_bin, w_neg, w_not, w_and, w_or, w_cmp, w_chain, w_ite, w_call, w_callV, w_bi, w_isi, w_meth, w_ix, w_slc, w_rev, w_lrng, w_lzip, w_fld, t_not, t_and, t_or, t_cmp, t_var, t_call, t_bi, t_isi, t_ix, t_bl, t_chain, s_nil, s_cons, s_star, o_none, o_some, i_e, i_rng, i_zip, ss_nil, ss_cons, st_expr, st_ret, st_retN, st_pass, st_brk, st_cont, st_asg, st_par, st_setIx, st_iff, st_for, st_raise, ts_nil, ts_one, oQ_some, oQ_none, rq_ret, rq_nx, fq_nx, fq_cont, fq_brk, fq_ret, tgB, setAll, wipe, List.getElem?_cons_zero, List.getElem?_cons_succ, List.set_cons_zero, List.set_cons_succ, List.map_cons, List.map_nil, List.length_cons, List.length_nil, List.cons_append, List.nil_append, List.append_nil, List.replicate_succ, List.replicate_zero, Nat.reduceSub, Nat.sub_self, add_int, sub_int, int_int, int_bl, abs_int, max_int, min_int, len_tup, lt_int, le_int, gt_int, ge_int, eq_int, ne_int, eq_bl, ix_tup, at0, at1, at2, ito_tup, seq_tup, truth_bl, truth_tup, ← List.map_append]
  rw [if_pos hl]
  refine (merged_ok (n := n + 4) (rows := ps ++ qs) (fun p hp => ?_) (by rw [List.length_append]; unfold LIM; omega)).imp fun v u ⟨f3, rs, e3, h1, h2⟩ => ⟨(f.trans f2).trans f3, rs, e3, h1, fun x => by rw [h2, mem_app]⟩
  rcases List.mem_append.mp hp with y | y
  · exact can_item c p y
  · exact can_item d p y
theorem both_ok {n : Nat} {st : Sto} {ps qs : Rg} (c : Can 0 ps) (d : Can 0 qs) : W (callN P0 (n + 6) "both" [rgD ps, rgD qs] st) (fun v s => Fr [] st s ∧ ∃ rs, v = rgD rs ∧ Can 0 rs ∧ ∀ x, Mem x rs ↔ Mem x ps ∧ Mem x qs) NE := by
  refine w_def d_both rfl rfl ?_
  simp only [b_both, w_ok, w_err, w_non, w_bl, w_int, w_str, w_con, w_var, w_tup, w_lst, w_bin, w_neg, w_not, w_and, w_or, w_cmp, w_chain, w_ite, w_call, w_callV, w_bi, w_isi, w_meth, w_ix, w_slc, w_rev, w_lrng, w_lzip, w_fld, t_not, t_and, t_or, t_cmp, t_var, t_call, t_bi, t_isi, t_ix, t_bl, t_chain, s_nil, s_cons, s_star, o_none, o_some, i_e, i_rng, i_zip, ss_nil, ss_cons, st_expr, st_ret, st_retN, st_pass, st_brk, st_cont, st_asg, st_par, st_setIx, st_iff, st_for, st_raise, ts_nil, ts_one, oQ_some, oQ_none, rq_ret, rq_nx, fq_nx, fq_cont, fq_brk, fq_ret, tgB, setAll, wipe, List.getElem?_cons_zero, List.getElem?_cons_succ, List.set_cons_zero, List.set_cons_succ, List.map_cons, List.map_nil, List.length_cons, List.length_nil, List.cons_append, List.nil_append, List.append_nil, List.replicate_succ, List.replicate_zero, Nat.reduceSub, Nat.sub_self, add_int, sub_int, int_int, int_bl, abs_int, max_int, min_int, len_tup, lt_int, le_int, gt_int, ge_int, eq_int, ne_int, eq_bl, ix_tup, at0, at1, at2, ito_tup, seq_tup, truth_bl, truth_tup]
  refine (check_set_ok (n := n) c).imp fun v s ⟨f, e⟩ => ?_
  refine (check_set_ok (n := n) d).imp fun v t ⟨f2, e2⟩ => ?_
  exact (met_ok (n := n + 4) c d).imp fun v u ⟨f3, r⟩ => ⟨(f.trans f2).trans f3, r⟩
theorem others_ok {n : Nat} {st : Sto} {ps : Rg} (c : Can 0 ps) : W (callN P0 (n + 6) "others" [rgD ps] st) (fun v s => Fr [] st s ∧ ∃ rs, v = rgD rs ∧ Can 0 rs ∧ ∀ x, Mem x rs ↔ 0 ≤ x ∧ x ≤ 255 ∧ ¬ Mem x ps) NE := by
  refine w_def d_others rfl rfl ?_
  simp only [b_others, w_ok, w_err, w_non, w_bl, w_int, w_str, w_con, w_var, w_tup, w_lst, w_bin, w_neg, w_not, w_and, w_or, w_cmp, w_chain, w_ite, w_call, w_callV, w_bi, w_isi, w_meth, w_ix, w_slc, w_rev, w_lrng, w_lzip, w_fld, t_not, t_and, t_or, t_cmp, t_var, t_call, t_bi, t_isi, t_ix, t_bl, t_chain, s_nil, s_cons, s_star, o_none, o_some, i_e, i_rng, i_zip, ss_nil, ss_cons, st_expr, st_ret, st_retN, st_pass, st_brk, st_cont, st_asg, st_par, st_setIx, st_iff, st_for, st_raise, ts_nil, ts_one, oQ_some, oQ_none, rq_ret, rq_nx, fq_nx, fq_cont, fq_brk, fq_ret, tgB, setAll, wipe, List.getElem?_cons_zero, List.getElem?_cons_succ, List.set_cons_zero, List.set_cons_succ, List.map_cons, List.map_nil, List.length_cons, List.length_nil, List.cons_append, List.nil_append, List.append_nil, List.replicate_succ, List.replicate_zero, Nat.reduceSub, Nat.sub_self, add_int, sub_int, int_int, int_bl, abs_int, max_int, min_int, len_tup, lt_int, le_int, gt_int, ge_int, eq_int, ne_int, eq_bl, ix_tup, at0, at1, at2, ito_tup, seq_tup, truth_bl, truth_tup]
  refine (check_set_ok (n := n) c).imp fun v s ⟨f, e⟩ => ?_
  exact (rest_ok (n := n + 4) c).imp fun v u ⟨f3, r⟩ => ⟨f.trans f3, r⟩
theorem without_ok {n : Nat} {st : Sto} {ps qs : Rg} (c : Can 0 ps) (d : Can 0 qs) : W (callN P0 (n + 6) "without" [rgD ps, rgD qs] st) (fun v s => Fr [] st s ∧ ∃ rs, v = rgD rs ∧ Can 0 rs ∧ ∀ x, Mem x rs ↔ Mem x ps ∧ ¬ Mem x qs) NE := by
  refine w_def d_without rfl rfl ?_
  simp only [b_without, w_ok, w_err, w_non, w_bl, w_int, w_str, w_con, w_var, w_tup, w_lst, w_bin, w_neg, w_not, w_and, w_or, w_cmp, w_chain, w_ite, w_call, w_callV, w_bi, w_isi, w_meth, w_ix, w_slc, w_rev, w_lrng, w_lzip, w_fld, t_not, t_and, t_or, t_cmp, t_var, t_call, t_bi, t_isi, t_ix, t_bl, t_chain, s_nil, s_cons, s_star, o_none, o_some, i_e, i_rng, i_zip, ss_nil, ss_cons, st_expr, st_ret, st_retN, st_pass, st_brk, st_cont, st_asg, st_par, st_setIx, st_iff, st_for, st_raise, ts_nil, ts_one, oQ_some, oQ_none, rq_ret, rq_nx, fq_nx, fq_cont, fq_brk, fq_ret, tgB, setAll, wipe, List.getElem?_cons_zero, List.getElem?_cons_succ, List.set_cons_zero, List.set_cons_succ, List.map_cons, List.map_nil, List.length_cons, List.length_nil, List.cons_append, List.nil_append, List.append_nil, List.replicate_succ, List.replicate_zero, Nat.reduceSub, Nat.sub_self, add_int, sub_int, int_int, int_bl, abs_int, max_int, min_int, len_tup, lt_int, le_int, gt_int, ge_int, eq_int, ne_int, eq_bl, ix_tup, at0, at1, at2, ito_tup, seq_tup, truth_bl, truth_tup]
  refine (check_set_ok (n := n) c).imp fun v s ⟨f, e⟩ => ?_
  refine (check_set_ok (n := n) d).imp fun v t ⟨f2, e2⟩ => ?_
  refine (rest_ok (n := n + 4) d).imp fun v u ⟨f3, rs, e3, h1, h2⟩ => ?_
  subst e3
  refine (met_ok (n := n + 4) c h1).imp fun v w ⟨f4, rs2, e4, h3, h4⟩ => ⟨((f.trans f2).trans f3).trans f4, rs2, e4, h3, fun x => ?_⟩
  rw [h4, h2]
  constructor
  · rintro ⟨y1, y2, y3, y4⟩
    exact ⟨y1, y4⟩
  · rintro ⟨y1, y2⟩
    have := Can.ge c y1
    exact ⟨y1, this.1, this.2, y2⟩
end K01
end
section
set_option autoImplicit false
set_option linter.all false
set_option maxHeartbeats 4000000
/-! K01o: 0 to 255 cut into ranges of one kind each. -/
namespace K01
section
variable {κ : Type} (key : Int → κ)
/-- from b on to 255: ranges of one kind each, no two beside each other of the same kind; k: the kind ahead -/
def Cut : Option κ → Int → Rg → Prop
  | _, b, [] => b = 256
  | k, b, p :: r => p.1 = b ∧ p.1 ≤ p.2 ∧ p.2 ≤ 255 ∧ (∀ x, p.1 ≤ x → x ≤ p.2 → key x = key p.1) ∧ k ≠ some (key p.1) ∧ Cut (some (key p.1)) (p.2 + 1) r
theorem cut_ext : ∀ {ps qs : Rg} {k : Option κ} {b : Int}, Cut key k b ps → Cut key k b qs → ps = qs
  | [], [], _, _, _, _ => rfl
  | [], q :: r, _, b, c, d => by
    have c' : b = 256 := c
    have := d.1
    have := d.2.1
    have := d.2.2.1
    omega
  | p :: r, [], _, b, c, d => by
    have d' : b = 256 := d
    have := c.1
    have := c.2.1
    have := c.2.2.1
    omega
  | p :: r, q :: s, k, b, c, d => by
    obtain ⟨c1, c2, c3, c4, c5, c6⟩ := c
    obtain ⟨d1, d2, d3, d4, d5, d6⟩ := d
    have e1 : p.1 = q.1 := by omega
    have h1 : p.2 ≤ q.2 := by
      apply Int.not_lt.mp
      intro lt
      cases s with
      | nil =>
        have d6' : q.2 + 1 = 256 := d6
        omega
      | cons q' s =>
        obtain ⟨f1, f2, f3, f4, f5, f6⟩ := d6
        have := c4 (q.2 + 1) (by omega) (by omega)
        rw [f1] at f5
        exact f5 (congrArg some (by rw [this, e1]))
    have h2 : q.2 ≤ p.2 := by
      apply Int.not_lt.mp
      intro lt
      cases r with
      | nil =>
        have c6' : p.2 + 1 = 256 := c6
        omega
      | cons p' r =>
        obtain ⟨f1, f2, f3, f4, f5, f6⟩ := c6
        have := d4 (p.2 + 1) (by omega) (by omega)
        rw [f1] at f5
        exact f5 (congrArg some (by rw [this, e1]))
    have e : p = q := Prod.ext e1 (Int.le_antisymm h1 h2)
    subst e
    exact congrArg (p :: ·) (cut_ext c6 d6)
/-- .. up to b only -/
def CutTo : Option κ → Int → Int → Rg → Prop
  | _, a, b, [] => a = b
  | k, a, b, p :: r => p.1 = a ∧ p.1 ≤ p.2 ∧ p.2 < b ∧ (∀ x, p.1 ≤ x → x ≤ p.2 → key x = key p.1) ∧ k ≠ some (key p.1) ∧ CutTo (some (key p.1)) (p.2 + 1) b r
theorem cutTo_done : ∀ {ps : Rg} {k : Option κ} {a : Int}, CutTo key k a 256 ps → Cut key k a ps
  | [], _, _, c => c
  | p :: r, _, _, c => ⟨c.1, c.2.1, by have := c.2.2.1; omega, c.2.2.2.1, c.2.2.2.2.1, cutTo_done c.2.2.2.2.2⟩
theorem cutTo_le : ∀ {ps : Rg} {k : Option κ} {a b : Int}, CutTo key k a b ps → a ≤ b
  | [], _, _, _, c => Int.le_of_eq c
  | p :: r, _, _, _, c => by
    have := c.1
    have := c.2.1
    have := c.2.2.1
    omega
/-- the first range -/
theorem cutTo_one {a h : Int} (hl : a ≤ h) (hc : ∀ x, a ≤ x → x ≤ h → key x = key a) : CutTo key none a (h + 1) [(a, h)] := ⟨rfl, hl, by show h < h + 1; omega, hc, by simp, rfl⟩
/-- the last range, longer -/
theorem cutTo_grow : ∀ {ps : Rg} {k : Option κ} {a b l h h' : Int}, CutTo key k a b (ps ++ [(l, h)]) → h < h' → (∀ x, h < x → x ≤ h' → key x = key l) → CutTo key k a (h' + 1) (ps ++ [(l, h')])
  | [], k, a, b, l, h, h', c, h1, h2 => by
    obtain ⟨c1, c2, c3, c4, c5, c6⟩ := c
    refine ⟨c1, by show l ≤ h'; have : l ≤ h := c2; omega, by show h' < h' + 1; omega, fun x hx hx2 => ?_, c5, rfl⟩
    by_cases z : x ≤ h
    · exact c4 x hx z
    · exact h2 x (by omega) hx2
  | p :: r, k, a, b, l, h, h', c, h1, h2 => by
    obtain ⟨c1, c2, c3, c4, c5, c6⟩ := c
    have ih := cutTo_grow c6 h1 h2
    have := cutTo_le key ih
    exact ⟨c1, c2, by omega, c4, c5, ih⟩
/-- one range more -/
theorem cutTo_push : ∀ {ps : Rg} {k : Option κ} {a b l h h' : Int}, CutTo key k a b (ps ++ [(l, h)]) → b ≤ h' → (∀ x, b ≤ x → x ≤ h' → key x = key b) → key l ≠ key b → CutTo key k a (h' + 1) (ps ++ [(l, h)] ++ [(b, h')])
  | [], k, a, b, l, h, h', c, h1, h2, h3 => by
    obtain ⟨c1, c2, c3, c4, c5, c6⟩ := c
    have c6' : h + 1 = b := c6
    exact ⟨c1, c2, by show h < h' + 1; omega, c4, c5, c6'.symm, h1, by show h' < h' + 1; omega, h2, fun z => h3 (Option.some.inj z), rfl⟩
  | p :: r, k, a, b, l, h, h', c, h1, h2, h3 => by
    obtain ⟨c1, c2, c3, c4, c5, c6⟩ := c
    have ih := cutTo_push c6 h1 h2 h3
    have := cutTo_le key ih
    exact ⟨c1, c2, by omega, c4, c5, ih⟩
end
end K01
namespace K01
theorem cutTo_last {κ : Type} {key : Int → κ} : ∀ {ps : Rg} {k : Option κ} {a b l h : Int}, CutTo key k a b (ps ++ [(l, h)]) → h + 1 = b ∧ l ≤ h
  | [], _, _, _, _, _, c => ⟨c.2.2.2.2.2, c.2.1⟩
  | p :: r, _, _, _, _, _, c => cutTo_last c.2.2.2.2.2
theorem cutTo_item {κ : Type} {key : Int → κ} : ∀ {ps : Rg} {k : Option κ} {a b : Int}, 0 ≤ a → b ≤ 256 → CutTo key k a b ps → ∀ p ∈ ps, p.1 ≤ p.2 ∧ 0 ≤ p.1 ∧ p.2 ≤ 255
  | [], _, _, _, _, _, _, p, hp => by cases hp
  | q :: r, _, _, _, h1, h2, c, p, hp => by
    obtain ⟨c1, c2, c3, c4, c5, c6⟩ := c
    rcases List.mem_cons.mp hp with z | z
    · subst z
      omega
    · exact cutTo_item (by omega) h2 c6 p z
theorem cutTo_len {κ : Type} {key : Int → κ} : ∀ {ps : Rg} {k : Option κ} {a b : Int}, CutTo key k a b ps → (ps.length : Int) ≤ b - a
  | [], _, _, _, c => by
    have c' : _ = _ := c
    simp only [List.length_nil]
    omega
  | q :: r, _, _, _, c => by
    obtain ⟨c1, c2, c3, c4, c5, c6⟩ := c
    have := cutTo_len c6
    simp only [List.length_cons]
    omega
end K01
end
section
/-! PyI4e: dicts of whole numbers. -/
set_option autoImplicit false
set_option linter.all false
set_option maxRecDepth 100000
set_option maxHeartbeats 4000000
namespace PyI
open PySem
section
variable {P : Prog} {C : Str → List D → Sto → Res D} {env : Env} {st : Sto} {Q : D → Sto → Prop} {E : Str → D → Sto → Prop}
theorem w_dic {es : IEs} : W (evE P C (.dic es) env st) Q E = W (evEs P C es env (st ++ [.dct true []])) (fun ds st' => oQ (pairs ds) fun kvs => st'[st.length]? = some (.dct true []) ∧ kvs.length ≤ 15 ∧ Q (.ref st.length) (st'.set st.length (.dct true (putAll [] kvs)))) E := by
  show W ((evEs P C es env (st ++ [.dct true []])).bind fun ds st' => match pairs ds, st'[st.length]? with
    | some kvs, some (.dct true []) => if kvs.length ≤ 15 then .opt (some (.ref st.length, st'.set st.length (.dct true (putAll [] kvs)))) else .stuck
    | _, _ => .stuck) Q E = _
  rw [w_bind]
  congr 1
  funext ds st'
  cases pairs ds with
  | none =>
    cases st'[st.length]? <;> rfl
  | some kvs =>
    rw [oQ_some]
    cases h : st'[st.length]? with
    | none => simp [W]
    | some c =>
      cases c with
      | lst w xs => simp [W]
      | dct w ks =>
        cases w with
        | false => simp [W]
        | true =>
          cases ks with
          | cons a b => simp [W]
          | nil =>
            show W (if kvs.length ≤ 15 then Res.opt (some (D.ref st.length, st'.set st.length (.dct true (putAll [] kvs)))) else .stuck) Q E = _
            by_cases hl : kvs.length ≤ 15
            · rw [if_pos hl]
              simp [hl, Res.opt, W]
            · rw [if_neg hl]
              simp [hl, W]
end
/-- a dict of whole numbers, each with True -/
def setD (ks : List Int) : List (D × D) := ks.map fun k => (D.int k, D.bl true)
def addK (k : Int) (ks : List Int) : List Int := if ks.contains k then ks else ks ++ [k]
theorem put_setD (k : Int) (ks : List Int) : put (.int k) (.bl true) (setD ks) = setD (addK k ks) := by
  unfold put addK
  have e : (setD ks).any (fun p => flatEq p.1 (.int k)) = ks.contains k := by
    unfold setD
    rw [List.any_map]
    induction ks with
    | nil => rfl
    | cons a r ih =>
      rw [List.any_cons, List.contains_cons, ih]
      congr 1
      show (a == k) = (k == a)
      exact Bool.beq_comm
  rw [e]
  cases h : ks.contains k with
  | false => simp [setD]
  | true =>
    simp only [if_true]
    unfold setD
    rw [List.map_map]
    apply List.map_congr_left
    intro a _
    show (if flatEq (D.int a) (.int k) = true then _ else _) = _
    split <;> rfl
theorem mem_addK {x k : Int} {ks : List Int} : x ∈ addK k ks ↔ x = k ∨ x ∈ ks := by
  unfold addK
  split
  · rename_i h
    have := List.contains_iff_mem.mp h
    constructor
    · exact .inr
    · rintro (y | y)
      · rw [y]
        exact this
      · exact y
  · rw [List.mem_append, List.mem_singleton]
    exact Or.comm
theorem len_addK {k : Int} {ks : List Int} : (addK k ks).length ≤ ks.length + 1 := by
  unfold addK
  split
  · omega
  · simp
theorem nd_addK {k : Int} {ks : List Int} (h : ks.Nodup) : (addK k ks).Nodup := by
  unfold addK
  split
  · exact h
  · rename_i z
    rw [List.nodup_append]
    refine ⟨h, by simp, fun a ha b hb e => z ?_⟩
    have : b = k := by simpa using hb
    rw [List.contains_iff_mem, ← this, ← e]
    exact ha
end PyI
end
section
set_option autoImplicit false
set_option linter.all false
set_option maxRecDepth 100000
set_option maxHeartbeats 4000000
namespace K01
open PySem PyI
theorem d_begins_of : P0.defs "begins_of" = some ⟨1, 6, b_begins_of⟩ := by kernel_rfl
theorem update_setD {st : Sto} {n m : Nat} {ks : List Int} {a b : Int} (e : st[n]? = some (.dct true (setD ks))) (e2 : st[m]? = some (.dct true (setD [a, b]))) (hl : ks.length + 2 ≤ LIM) (ne : n ≠ m) : methB .update (.ref n) [.ref m] st = some (.non, st.set n (.dct true (setD (addK b (addK a ks))))) := by
  show (match st[n]?, st[m]? with
    | some (.dct true xs), some (.dct true ys) => if xs.length + ys.length ≤ LIM && decide (n ≠ m) then some (D.non, st.set n (.dct true (putAll xs ys))) else none
    | _, _ => none) = _
  rw [e, e2]
  have h1 : (decide ((setD ks).length + (setD [a, b]).length ≤ LIM) && decide (n ≠ m)) = true := by
    simp only [setD, List.length_map, List.length_cons, List.length_nil, Bool.and_eq_true, decide_eq_true_eq]
    exact ⟨by omega, ne⟩
  show (if (decide ((setD ks).length + (setD [a, b]).length ≤ LIM) && decide (n ≠ m)) = true then some (D.non, st.set n (.dct true (putAll (setD ks) (setD [a, b])))) else none) = _
  rw [if_pos h1]
  have e3 : putAll (setD ks) (setD [a, b]) = put (.int b) (.bl true) (put (.int a) (.bl true) (setD ks)) := rfl
  rw [e3, put_setD, put_setD]
theorem kindB_dct {st : Sto} {n : Nat} {xs : List (D × D)} (e : st[n]? = some (.dct true xs)) : kindB (.ref n) st = some "dict" := by
  show (match st[n]? with
    | some (.lst _ _) => some "list"
    | some (.dct true _) => some "dict"
    | _ => none) = _
  rw [e]
/-- where a row's range begins, where it has ended -/
def Edge (x : Int) (ps : Rg) : Prop := ∃ p ∈ ps, x = p.1 ∨ x = p.2 + 1
def BegO (rows : List Rg) (st : Sto) (rest : List D) (env : PyI.Env) (t : Sto) : Prop :=
  ∃ pre q v3 v4 v5 ks, rows = pre ++ q ∧ rest = q.map rgD ∧ env = [some (.tup (rows.map rgD)), none, some (.ref st.length), v3, v4, v5] ∧ t[st.length]? = some (.dct true (setD ks)) ∧ Fr [] st t ∧
    ks.Nodup ∧ ks.length ≤ 1 + 256 * pre.length ∧ ∀ x, x ∈ ks ↔ x = 0 ∨ ∃ ps ∈ pre, Edge x ps
def BegI (rows : List Rg) (st : Sto) (pre : List Rg) (ps : Rg) (rest : List D) (env : PyI.Env) (t : Sto) : Prop :=
  ∃ pre2 q v4 v5 ks, ps = pre2 ++ q ∧ rest = q.map prD ∧ env = [some (.tup (rows.map rgD)), none, some (.ref st.length), some (rgD ps), v4, v5] ∧ t[st.length]? = some (.dct true (setD ks)) ∧ Fr [] st t ∧
    ks.Nodup ∧ ks.length ≤ 1 + 256 * pre.length + 2 * pre2.length ∧ ∀ x, x ∈ ks ↔ x = 0 ∨ (∃ ps ∈ pre, Edge x ps) ∨ Edge x pre2
theorem begins_ok {n : Nat} {st : Sto} {rows : List Rg} (c : ∀ ps ∈ rows, Can 0 ps) (hl : rows.length ≤ 300) : W (callN P0 (n + 1) "begins_of" [.tup (rows.map rgD)] st) (fun v s => Fr [] st s ∧ ∃ (m : Nat) (bs : List Int), v = .ref m ∧ st.length ≤ m ∧ s[m]? = some (.lst true (bs.map D.int)) ∧ bs.Pairwise (· < ·) ∧ bs.length ≤ 80000 ∧ ∀ x, x ∈ bs ↔ x ≤ 255 ∧ (x = 0 ∨ ∃ ps ∈ rows, Edge x ps)) NE := by
  refine w_def d_begins_of rfl rfl ?_
  have p1 : pairs [D.int 0, D.bl true] = some [(.int 0, .bl true)] := rfl
  simp only [b_begins_of, w_ok, w_err, w_non, w_bl, w_int, w_str, w_con, w_var, w_tup, w_lst, w_bin, w_neg, w_not, w_and, w_or, w_cmp, w_chain, w_ite, w_call, w_callV, w_bi, w_isi, w_meth, w_ix, w_slc, w_rev, w_lrng, w_lzip, w_fld, t_not, t_and, t_or, t_cmp, t_var, t_call, t_bi, t_isi, t_ix, t_bl, t_chain, s_nil, s_cons, s_star, o_none, o_some, i_e, i_rng, i_zip, ss_nil, ss_cons, st_expr, st_ret, st_retN, st_pass, st_brk, st_cont, st_asg, st_par, st_setIx, st_iff, st_for, st_raise, ts_nil, ts_one, oQ_some, oQ_none, rq_ret, rq_nx, fq_nx, fq_cont, fq_brk, fq_ret, tgB, setAll, wipe, List.getElem?_cons_zero, List.getElem?_cons_succ, List.set_cons_zero, List.set_cons_succ, List.map_cons, List.map_nil, List.length_cons, List.length_nil, List.cons_append, List.nil_append, List.append_nil, List.replicate_succ, List.replicate_zero, Nat.reduceSub, Nat.sub_self, add_int, sub_int, int_int, int_bl, abs_int, max_int, min_int, len_tup, lt_int, le_int, gt_int, ge_int, eq_int, ne_int, eq_bl, ix_tup, at0, at1, at2, ito_tup, seq_tup, truth_bl, truth_tup, w_dic, p1]
  refine ⟨get_last, by decide, ?_⟩
  have e0 : (List.set (st ++ [Cell.dct true []]) st.length (.dct true (putAll [] [(.int 0, .bl true)])))[st.length]? = some (.dct true (setD [0])) := get_set get_last
  have f0 : Fr [] st (List.set (st ++ [Cell.dct true []]) st.length (.dct true (putAll [] [(.int 0, .bl true)]))) := (Fr.app [] _ _).set (.inr (Nat.le_refl _))
  generalize List.set (st ++ [Cell.dct true []]) st.length (.dct true (putAll [] [(.int 0, .bl true)])) = s0 at e0 f0
  have hF : (rows.map rgD).length < FUEL := by
    rw [List.length_map]
    unfold FUEL
    omega
  refine w_loop (ds := rows.map rgD) (BegO rows st) hF (fun _ _ _ _ => rfl) ⟨[], rows, _, _, _, [0], rfl, rfl, rfl, e0, f0, by simp, by simp, fun x => by simp⟩ ?_ ?_
  · rintro d0 rest env t ⟨pre, q, v3, v4, v5, ks, e1, e2, e3, e5, e6, h1, h2, h3⟩
    subst e3
    match q, e2, e1 with
    | ps :: q, e2, e1 =>
      simp only [List.map_cons, List.cons.injEq] at e2
      obtain ⟨e2, e7⟩ := e2
      subst e2 e7
      have cp := c ps (by rw [e1]; simp)
      have lp := can_len0 cp
      have lr : pre.length < 300 := by
        rw [e1, List.length_append, List.length_cons] at hl
        omega
      simp only [w_ok, w_err, w_non, w_bl, w_int, w_str, w_con, w_var, w_tup, w_lst, w_bin, w_neg, w_not, w_and, w_or, w_cmp, w_chain, w_ite, w_call, w_callV, w_bi, w_isi, w_meth, w_ix, w_slc, w_rev, w_lrng, w_lzip, w_fld, t_not, t_and, t_or, t_cmp, t_var, t_call, t_bi, t_isi, t_ix, t_bl, t_chain, s_nil, s_cons, s_star, o_none, o_some, i_e, i_rng, i_zip, ss_nil, ss_cons, st_expr, st_ret, st_retN, st_pass, st_brk, st_cont, st_asg, st_par, st_setIx, st_iff, st_for, st_raise, ts_nil, ts_one, oQ_some, oQ_none, rq_ret, rq_nx, fq_nx, fq_cont, fq_brk, fq_ret, tgB, setAll, wipe, List.getElem?_cons_zero, List.getElem?_cons_succ, List.set_cons_zero, List.set_cons_succ, List.map_cons, List.map_nil, List.length_cons, List.length_nil, List.cons_append, List.nil_append, List.append_nil, List.replicate_succ, List.replicate_zero, Nat.reduceSub, Nat.sub_self, add_int, sub_int, int_int, int_bl, abs_int, max_int, min_int, len_tup, lt_int, le_int, gt_int, ge_int, eq_int, ne_int, eq_bl, ix_tup, at0, at1, at2, ito_tup, seq_tup, truth_bl, truth_tup]
      have it : itOf (rgD ps) t = some (.items (ps.map prD)) := rfl
      rw [it, oQ_some]
      refine w_loop (ds := ps.map prD) (BegI rows st pre ps) (Nat.lt_trans (rg_lim cp _ rfl) (by decide)) (fun _ _ _ _ => rfl) ⟨[], ps, _, _, ks, rfl, rfl, rfl, e5, e6, h1, by simpa using h2, fun x => by rw [h3]; simp [Edge]⟩ ?_ ?_
      · rintro d1 rest env u ⟨pre2, q2, w4, w5, ks, a1, a2, a3, a5, a6, k1, k2, k3⟩
        subst a3
        match q2, a2, a1 with
        | p :: q2, a2, a1 =>
          simp only [List.map_cons, List.cons.injEq] at a2
          obtain ⟨a2, a7⟩ := a2
          subst a2 a7
          have lq : pre2.length < 128 := by
            have : ps.length = pre2.length + (q2.length + 1) := by rw [a1, List.length_append, List.length_cons]
            omega
          have ok := can_item cp p (by rw [a1]; simp)
          have p2 : pairs [D.int p.1, D.bl true, D.int (p.2 + 1), D.bl true] = some [(.int p.1, .bl true), (.int (p.2 + 1), .bl true)] := rfl
          have p3 : putAll [] [(D.int p.1, D.bl true), (D.int (p.2 + 1), D.bl true)] = setD [p.1, p.2 + 1] := by
            have e : putAll [] [(D.int p.1, D.bl true), (D.int (p.2 + 1), D.bl true)] = put (.int (p.2 + 1)) (.bl true) (put (.int p.1) (.bl true) (setD [])) := rfl
            rw [e, put_setD, put_setD]
            have e1 : addK p.1 [] = [p.1] := rfl
            have e2 : addK (p.2 + 1) [p.1] = [p.1, p.2 + 1] := by
              unfold addK
              have z : ([p.1] : List Int).contains (p.2 + 1) = false := by
                simp
                omega
              rw [z]
              rfl
            rw [e1, e2]
          simp only [prD, w_ok, w_err, w_non, w_bl, w_int, w_str, w_con, w_var, w_tup, w_lst, w_bin, w_neg, w_not, w_and, w_or, w_cmp, w_chain, w_ite, w_call, w_callV, w_bi, w_isi, w_meth, w_ix, w_slc, w_rev, w_lrng, w_lzip, w_fld, t_not, t_and, t_or, t_cmp, t_var, t_call, t_bi, t_isi, t_ix, t_bl, t_chain, s_nil, s_cons, s_star, o_none, o_some, i_e, i_rng, i_zip, ss_nil, ss_cons, st_expr, st_ret, st_retN, st_pass, st_brk, st_cont, st_asg, st_par, st_setIx, st_iff, st_for, st_raise, ts_nil, ts_one, oQ_some, oQ_none, rq_ret, rq_nx, fq_nx, fq_cont, fq_brk, fq_ret, tgB, setAll, wipe, List.getElem?_cons_zero, List.getElem?_cons_succ, List.set_cons_zero, List.set_cons_succ, List.map_cons, List.map_nil, List.length_cons, List.length_nil, List.cons_append, List.nil_append, List.append_nil, List.replicate_succ, List.replicate_zero, Nat.reduceSub, Nat.sub_self, add_int, sub_int, int_int, int_bl, abs_int, max_int, min_int, len_tup, lt_int, le_int, gt_int, ge_int, eq_int, ne_int, eq_bl, ix_tup, at0, at1, at2, ito_tup, seq_tup, truth_bl, truth_tup, w_dic, kindB_dct a5, MT.name, if_true, p2, p3]
          refine ⟨get_last, by decide, ?_⟩
          have ne : st.length ≠ u.length := Nat.ne_of_lt (lt_of_get a5)
          have b1 : (List.set (u ++ [Cell.dct true []]) u.length (.dct true (setD [p.1, p.2 + 1])))[st.length]? = some (.dct true (setD ks)) := by
            rw [get_set_ne (Ne.symm ne)]
            exact (Fr.app [] _ _).get a5
          have b2 : (List.set (u ++ [Cell.dct true []]) u.length (.dct true (setD [p.1, p.2 + 1])))[u.length]? = some (.dct true (setD [p.1, p.2 + 1])) := get_set get_last
          have b3 : Fr [] st (List.set (u ++ [Cell.dct true []]) u.length (.dct true (setD [p.1, p.2 + 1]))) := (a6.trans (Fr.app [] _ _)).set (.inr (Nat.le_of_lt (lt_of_get a5)))
          rw [update_setD b1 b2 (by unfold LIM; omega) ne]
          refine ⟨pre2 ++ [p], q2, _, _, addK (p.2 + 1) (addK p.1 ks), by rw [a1]; simp, rfl, rfl, get_set b1, b3.set (.inr (Nat.le_refl _)), nd_addK (nd_addK k1), ?_, fun x => ?_⟩
          · have z1 := len_addK (k := p.2 + 1) (ks := addK p.1 ks)
            have z2 := len_addK (k := p.1) (ks := ks)
            rw [List.length_append, List.length_singleton]
            omega
          · rw [mem_addK, mem_addK, k3]
            have e : Edge x (pre2 ++ [p]) ↔ Edge x pre2 ∨ x = p.1 ∨ x = p.2 + 1 := by
              unfold Edge
              constructor
              · rintro ⟨r, hr, z⟩
                rcases List.mem_append.mp hr with y | y
                · exact .inl ⟨r, y, z⟩
                · rw [List.mem_singleton.mp y] at z
                  exact .inr z
              · rintro (⟨r, hr, z⟩ | z)
                · exact ⟨r, List.mem_append_left _ hr, z⟩
                · exact ⟨p, by simp, z⟩
            rw [e]
            constructor
            · rintro (y | y | y | y | y)
              · exact .inr (.inr (.inr (.inr y)))
              · exact .inr (.inr (.inr (.inl y)))
              · exact .inl y
              · exact .inr (.inl y)
              · exact .inr (.inr (.inl y))
            · rintro (y | y | y | y | y)
              · exact .inr (.inr (.inl y))
              · exact .inr (.inr (.inr (.inl y)))
              · exact .inr (.inr (.inr (.inr y)))
              · exact .inr (.inl y)
              · exact .inl y
      · rintro env u ⟨pre2, q2, w4, w5, ks, a1, a2, a3, a5, a6, k1, k2, k3⟩
        subst a3
        have eq : q2 = [] := by simpa using a2.symm
        subst eq
        rw [List.append_nil] at a1
        subst a1
        simp only [w_ok, w_err, w_non, w_bl, w_int, w_str, w_con, w_var, w_tup, w_lst, w_bin, w_neg, w_not, w_and, w_or, w_cmp, w_chain, w_ite, w_call, w_callV, w_bi, w_isi, w_meth, w_ix, w_slc, w_rev, w_lrng, w_lzip, w_fld, t_not, t_and, t_or, t_cmp, t_var, t_call, t_bi, t_isi, t_ix, t_bl, t_chain, s_nil, s_cons, s_star, o_none, o_some, i_e, i_rng, i_zip, ss_nil, ss_cons, st_expr, st_ret, st_retN, st_pass, st_brk, st_cont, st_asg, st_par, st_setIx, st_iff, st_for, st_raise, ts_nil, ts_one, oQ_some, oQ_none, rq_ret, rq_nx, fq_nx, fq_cont, fq_brk, fq_ret, tgB, setAll, wipe, List.getElem?_cons_zero, List.getElem?_cons_succ, List.set_cons_zero, List.set_cons_succ, List.map_cons, List.map_nil, List.length_cons, List.length_nil, List.cons_append, List.nil_append, List.append_nil, List.replicate_succ, List.replicate_zero, Nat.reduceSub, Nat.sub_self, add_int, sub_int, int_int, int_bl, abs_int, max_int, min_int, len_tup, lt_int, le_int, gt_int, ge_int, eq_int, ne_int, eq_bl, ix_tup, at0, at1, at2, ito_tup, seq_tup, truth_bl, truth_tup]
        refine ⟨pre ++ [ps], q, _, _, _, ks, by rw [e1]; simp, rfl, rfl, a5, a6, k1, by rw [List.length_append, List.length_singleton]; omega, fun x => ?_⟩
        rw [k3]
        constructor
        · rintro (y | ⟨r, hr, z⟩ | y)
          · exact .inl y
          · exact .inr ⟨r, List.mem_append_left _ hr, z⟩
          · exact .inr ⟨ps, by simp, y⟩
        · rintro (y | ⟨r, hr, z⟩)
          · exact .inl y
          · rcases List.mem_append.mp hr with y | y
            · exact .inr (.inl ⟨r, y, z⟩)
            · rw [List.mem_singleton.mp y] at z
              exact .inr (.inr z)
  · rintro env t ⟨pre, q, v3, v4, v5, ks, e1, e2, e3, e5, e6, h1, h2, h3⟩
    subst e3
    have eq : q = [] := by simpa using e2.symm
    subst eq
    rw [List.append_nil] at e1
    subst e1
    simp only [w_ok, w_err, w_non, w_bl, w_int, w_str, w_con, w_var, w_tup, w_lst, w_bin, w_neg, w_not, w_and, w_or, w_cmp, w_chain, w_ite, w_call, w_callV, w_bi, w_isi, w_meth, w_ix, w_slc, w_rev, w_lrng, w_lzip, w_fld, t_not, t_and, t_or, t_cmp, t_var, t_call, t_bi, t_isi, t_ix, t_bl, t_chain, s_nil, s_cons, s_star, o_none, o_some, i_e, i_rng, i_zip, ss_nil, ss_cons, st_expr, st_ret, st_retN, st_pass, st_brk, st_cont, st_asg, st_par, st_setIx, st_iff, st_for, st_raise, ts_nil, ts_one, oQ_some, oQ_none, rq_ret, rq_nx, fq_nx, fq_cont, fq_brk, fq_ret, tgB, setAll, wipe, List.getElem?_cons_zero, List.getElem?_cons_succ, List.set_cons_zero, List.set_cons_succ, List.map_cons, List.map_nil, List.length_cons, List.length_nil, List.cons_append, List.nil_append, List.append_nil, List.replicate_succ, List.replicate_zero, Nat.reduceSub, Nat.sub_self, add_int, sub_int, int_int, int_bl, abs_int, max_int, min_int, len_tup, lt_int, le_int, gt_int, ge_int, eq_int, ne_int, eq_bl, ix_tup, at0, at1, at2, ito_tup, seq_tup, truth_bl, truth_tup]
    have hk : keysI (.e (.var 2)) [some (D.tup (rows.map rgD)), none, some (.ref st.length), v3, v4, v5] t = some (st.length, setD ks) := by
      show (match t[st.length]? with
        | some (.dct true kvs) => some (st.length, kvs)
        | _ => none) = _
      rw [e5]
    rw [w_lcK hk]
    have el : t.length = (t.set st.length (.dct false (setD ks))).length := (List.length_set ..).symm
    rw [el]
    have lt0 := lt_of_get e5
    refine lc_fm (ds := ks.map D.int) (fun d => match d with
      | .int i => decide (i ≤ 255)
      | _ => false) id ⟨get_set e5, by unfold setD; rw [List.map_map]; rfl⟩ (by rw [List.length_map]; unfold LIM; omega) (fun d hd s fr => ?_) fun s fr es => ?_
    · obtain ⟨k, _, e⟩ := List.mem_map.mp hd
      subst e
      simp only [w_ok, w_err, w_non, w_bl, w_int, w_str, w_con, w_var, w_tup, w_lst, w_bin, w_neg, w_not, w_and, w_or, w_cmp, w_chain, w_ite, w_call, w_callV, w_bi, w_isi, w_meth, w_ix, w_slc, w_rev, w_lrng, w_lzip, w_fld, t_not, t_and, t_or, t_cmp, t_var, t_call, t_bi, t_isi, t_ix, t_bl, t_chain, s_nil, s_cons, s_star, o_none, o_some, i_e, i_rng, i_zip, ss_nil, ss_cons, st_expr, st_ret, st_retN, st_pass, st_brk, st_cont, st_asg, st_par, st_setIx, st_iff, st_for, st_raise, ts_nil, ts_one, oQ_some, oQ_none, rq_ret, rq_nx, fq_nx, fq_cont, fq_brk, fq_ret, tgB, setAll, wipe, List.getElem?_cons_zero, List.getElem?_cons_succ, List.set_cons_zero, List.set_cons_succ, List.map_cons, List.map_nil, List.length_cons, List.length_nil, List.cons_append, List.nil_append, List.append_nil, List.replicate_succ, List.replicate_zero, Nat.reduceSub, Nat.sub_self, add_int, sub_int, int_int, int_bl, abs_int, max_int, min_int, len_tup, lt_int, le_int, gt_int, ge_int, eq_int, ne_int, eq_bl, ix_tup, at0, at1, at2, ito_tup, seq_tup, truth_bl, truth_tup]
      exact ⟨Fr.refl _ _, trivial, fun _ => ⟨Fr.refl _ _, rfl⟩⟩
    · rw [← el] at es ⊢
      have es2 : (s.set st.length (.dct true (setD ks)))[t.length]? = some (.lst true (((ks.filter fun i => decide (i ≤ 255))).map D.int)) := by
        rw [get_set_ne (by omega), es, List.map_id, List.filter_map]
        rfl
      have iD : ∀ l : List Int, intsD (l.map D.int) = some l := fun l => by
        induction l with
        | nil => rfl
        | cons a r ih =>
          show (intsD (r.map D.int)).map (a :: ·) = _
          rw [ih]
          rfl
      have so : evB .sorted [.ref t.length] (s.set st.length (.dct true (setD ks))) = some (.ref (s.set st.length (.dct true (setD ks))).length, s.set st.length (.dct true (setD ks)) ++ [.lst true (((ks.filter fun i => decide (i ≤ 255)).mergeSort fun a b => decide (a ≤ b)).map D.int)]) := by
        show (match (seqOf (.ref t.length) (s.set st.length (.dct true (setD ks)))).bind sortD with
          | some ys => some (new (.lst true ys) (s.set st.length (.dct true (setD ks))))
          | none => none) = _
        rw [seqOf_lst es2]
        show (match sortD ((ks.filter fun i => decide (i ≤ 255)).map D.int) with
          | some ys => some (new (.lst true ys) (s.set st.length (.dct true (setD ks))))
          | none => none) = _
        unfold sortD
        rw [iD]
        rfl
      rw [so, oQ_some]
      have pm := List.mergeSort_perm (ks.filter fun i => decide (i ≤ 255)) fun a b => decide (a ≤ b)
      have fs : Fr [] st (s.set st.length (.dct true (setD ks))) := by
        refine Fr.set ?_ (.inr (Nat.le_refl _))
        refine (Fr.set e6 (.inr (Nat.le_refl _)) : Fr [] st (t.set st.length (.dct false (setD ks)))).trans ?_
        exact fr
      refine ⟨fs.trans (Fr.app [] _ _), _, _, rfl, ?_, get_last, ?_, ?_, fun x => ?_⟩
      · exact fs.1
      · have nd : ((ks.filter fun i => decide (i ≤ 255)).mergeSort fun a b => decide (a ≤ b)).Nodup := pm.nodup_iff.mpr (h1.filter _)
        have so := List.pairwise_mergeSort (le := fun a b : Int => decide (a ≤ b)) (fun a b c h1 h2 => by simp only [decide_eq_true_eq] at h1 h2 ⊢; omega) (fun a b => by simp only [Bool.or_eq_true, decide_eq_true_eq]; omega) (ks.filter fun i => decide (i ≤ 255))
        exact (so.and nd).imp fun {a b} ⟨y1, y2⟩ => by
          have := of_decide_eq_true y1
          omega
      · rw [pm.length_eq]
        have := List.length_filter_le (fun i : Int => decide (i ≤ 255)) ks
        omega
      · rw [pm.mem_iff, List.mem_filter, h3, decide_eq_true_eq]
        exact And.comm
end K01
end
section
set_option autoImplicit false
set_option linter.all false
set_option maxRecDepth 100000
set_option maxHeartbeats 4000000
namespace K01
open PySem PyI
theorem d_classes : P0.defs "classes" = some ⟨1, 6, b_classes⟩ := by kernel_rfl
theorem is_tuple_gen {n : Nat} {st : Sto} {xs : List D} {lo hi : Int} : W (callN P0 (n + 1) "is_tuple" [.tup xs, .int lo, .int hi] st) (fun v s => s = st ∧ v = .bl (decide (lo ≤ xs.length) && decide ((xs.length : Int) ≤ hi))) NE := by
  refine w_def d_is_tuple rfl rfl ?_
  simp only [b_is_tuple, w_ok, w_err, w_non, w_bl, w_int, w_str, w_con, w_var, w_tup, w_lst, w_bin, w_neg, w_not, w_and, w_or, w_cmp, w_chain, w_ite, w_call, w_callV, w_bi, w_isi, w_meth, w_ix, w_slc, w_rev, w_lrng, w_lzip, w_fld, t_not, t_and, t_or, t_cmp, t_var, t_call, t_bi, t_isi, t_ix, t_bl, t_chain, s_nil, s_cons, s_star, o_none, o_some, i_e, i_rng, i_zip, ss_nil, ss_cons, st_expr, st_ret, st_retN, st_pass, st_brk, st_cont, st_asg, st_par, st_setIx, st_iff, st_for, st_raise, ts_nil, ts_one, oQ_some, oQ_none, rq_ret, rq_nx, fq_nx, fq_cont, fq_brk, fq_ret, tgB, setAll, wipe, List.getElem?_cons_zero, List.getElem?_cons_succ, List.set_cons_zero, List.set_cons_succ, List.map_cons, List.map_nil, List.length_cons, List.length_nil, List.cons_append, List.nil_append, List.append_nil, List.replicate_succ, List.replicate_zero, Nat.reduceSub, Nat.sub_self, add_int, sub_int, int_int, int_bl, abs_int, max_int, min_int, len_tup, lt_int, le_int, gt_int, ge_int, eq_int, ne_int, eq_bl, ix_tup, at0, at1, at2, ito_tup, seq_tup, truth_bl, truth_tup, isi_tuple (.tup xs), isTup]
  by_cases h : lo ≤ (xs.length : Int)
  · simp [h]
  · simp [h]
/-- which of the rows have x -/
def keyOf (rows : List Rg) (x : Int) : List Bool := rows.map (memB x)
theorem key_eq {rows : List Rg} {x y : Int} : keyOf rows x = keyOf rows y ↔ ∀ ps ∈ rows, memB x ps = memB y ps := by
  unfold keyOf
  rw [List.map_inj_left]
/-- no edge between: the same rows -/
theorem key_const {rows : List Rg} {a b : Int} (hab : a ≤ b) (h : ∀ x, a < x → x ≤ b → ¬ ∃ ps ∈ rows, Edge x ps) : keyOf rows b = keyOf rows a := by
  rw [key_eq]
  intro ps hp
  have e : ∀ p ∈ ps, (p.1 ≤ b ∧ b ≤ p.2) ↔ (p.1 ≤ a ∧ a ≤ p.2) := fun p hpp => by
    constructor
    · rintro ⟨y1, y2⟩
      refine ⟨?_, by omega⟩
      apply Int.not_lt.mp
      intro lt
      exact h p.1 lt y1 ⟨ps, hp, p, hpp, .inl rfl⟩
    · rintro ⟨y1, y2⟩
      refine ⟨by omega, ?_⟩
      apply Int.not_lt.mp
      intro lt
      exact h (p.2 + 1) (by omega) (by omega) ⟨ps, hp, p, hpp, .inr rfl⟩
  rw [Bool.eq_iff_iff, memB_iff, memB_iff]
  exact ⟨fun ⟨p, hpp, z⟩ => ⟨p, hpp, (e p hpp).mp z⟩, fun ⟨p, hpp, z⟩ => ⟨p, hpp, (e p hpp).mpr z⟩⟩
theorem has_kn {rows : List Rg} {st : Sto} : ∀ xs, D.tup (rows.map rgD) = .tup xs → ∀ x ∈ xs, ∃ ps ∈ rows, x = rgD ps := fun xs e x hx => by
  cases e
  obtain ⟨ps, hp, z⟩ := List.mem_map.mp hx
  exact ⟨ps, hp, z.symm⟩
/-- the pairs of neighbours -/
def nbs (q : List Int) : List D := List.zipWith (fun x y => D.tup [x, y]) (q.map D.int) ((q.map D.int).drop 1)
theorem nbs_cons {a b : Int} {r : List Int} : nbs (a :: b :: r) = .tup [.int a, .int b] :: nbs (b :: r) := by
  simp [nbs]
/-- all that is the same of two bytes -/
theorem same_ok {n m : Nat} {st : Sto} {rows : List Rg} {a l h : Int} {o2 : Rg} {v1 v2 v5 : Option D} {Q : D → Sto → Prop} (c : ∀ ps ∈ rows, Can 0 ps) (hl : rows.length ≤ 300) (hm : st[m]? = some (.lst true (o2.map prD ++ [prD (l, h)])))
    (fin : ∀ s, Fr [] st s → Q (.bl (decide (keyOf rows a = keyOf rows l))) s) :
    W (evE P0 (callN P0 (n + 1)) (.bi .all (.cons false (.lc (.cmp .eq (.call "has" (.cons false (.var 1) (.cons false (.var 4) .nil))) (.call "has" (.cons false (.var 1) (.cons false (.ix (.ix (.var 3) (.neg (.int 1))) (.int 0)) .nil)))) (.nm 1) (.e (.var 0)) .nil [1]) .nil)) [some (.tup (rows.map rgD)), v1, v2, some (.ref m), some (.int a), v5] st) Q NE := by
  simp only [w_ok, w_err, w_non, w_bl, w_int, w_str, w_con, w_var, w_tup, w_lst, w_bin, w_neg, w_not, w_and, w_or, w_cmp, w_chain, w_ite, w_call, w_callV, w_bi, w_isi, w_meth, w_ix, w_slc, w_rev, w_lrng, w_lzip, w_fld, t_not, t_and, t_or, t_cmp, t_var, t_call, t_bi, t_isi, t_ix, t_bl, t_chain, s_nil, s_cons, s_star, o_none, o_some, i_e, i_rng, i_zip, ss_nil, ss_cons, st_expr, st_ret, st_retN, st_pass, st_brk, st_cont, st_asg, st_par, st_setIx, st_iff, st_for, st_raise, ts_nil, ts_one, oQ_some, oQ_none, rq_ret, rq_nx, fq_nx, fq_cont, fq_brk, fq_ret, tgB, setAll, wipe, List.getElem?_cons_zero, List.getElem?_cons_succ, List.set_cons_zero, List.set_cons_succ, List.map_cons, List.map_nil, List.length_cons, List.length_nil, List.cons_append, List.nil_append, List.append_nil, List.replicate_succ, List.replicate_zero, Nat.reduceSub, Nat.sub_self, add_int, sub_int, int_int, int_bl, abs_int, max_int, min_int, len_tup, lt_int, le_int, gt_int, ge_int, eq_int, ne_int, eq_bl, ix_tup, at0, at1, at2, ito_tup, seq_tup, truth_bl, truth_tup]
  rw [w_lc rfl]
  simp only [w_ok, w_err, w_non, w_bl, w_int, w_str, w_con, w_var, w_tup, w_lst, w_bin, w_neg, w_not, w_and, w_or, w_cmp, w_chain, w_ite, w_call, w_callV, w_bi, w_isi, w_meth, w_ix, w_slc, w_rev, w_lrng, w_lzip, w_fld, t_not, t_and, t_or, t_cmp, t_var, t_call, t_bi, t_isi, t_ix, t_bl, t_chain, s_nil, s_cons, s_star, o_none, o_some, i_e, i_rng, i_zip, ss_nil, ss_cons, st_expr, st_ret, st_retN, st_pass, st_brk, st_cont, st_asg, st_par, st_setIx, st_iff, st_for, st_raise, ts_nil, ts_one, oQ_some, oQ_none, rq_ret, rq_nx, fq_nx, fq_cont, fq_brk, fq_ret, tgB, setAll, wipe, List.getElem?_cons_zero, List.getElem?_cons_succ, List.set_cons_zero, List.set_cons_succ, List.map_cons, List.map_nil, List.length_cons, List.length_nil, List.cons_append, List.nil_append, List.append_nil, List.replicate_succ, List.replicate_zero, Nat.reduceSub, Nat.sub_self, add_int, sub_int, int_int, int_bl, abs_int, max_int, min_int, len_tup, lt_int, le_int, gt_int, ge_int, eq_int, ne_int, eq_bl, ix_tup, at0, at1, at2, ito_tup, seq_tup, truth_bl, truth_tup]
  refine lc_map (ds := rows.map rgD) (fun d => .bl (match d with
    | .tup xs => (match prs xs with
      | some ps => memB a ps == memB l ps
      | none => false)
    | _ => false)) rfl (by rw [List.length_map]; unfold LIM; omega) (fun d hd s fr => ?_) fun s fr e => ?_
  · obtain ⟨ps, hp, z⟩ := List.mem_map.mp hd
    subst z
    simp only [w_ok, w_err, w_non, w_bl, w_int, w_str, w_con, w_var, w_tup, w_lst, w_bin, w_neg, w_not, w_and, w_or, w_cmp, w_chain, w_ite, w_call, w_callV, w_bi, w_isi, w_meth, w_ix, w_slc, w_rev, w_lrng, w_lzip, w_fld, t_not, t_and, t_or, t_cmp, t_var, t_call, t_bi, t_isi, t_ix, t_bl, t_chain, s_nil, s_cons, s_star, o_none, o_some, i_e, i_rng, i_zip, ss_nil, ss_cons, st_expr, st_ret, st_retN, st_pass, st_brk, st_cont, st_asg, st_par, st_setIx, st_iff, st_for, st_raise, ts_nil, ts_one, oQ_some, oQ_none, rq_ret, rq_nx, fq_nx, fq_cont, fq_brk, fq_ret, tgB, setAll, wipe, List.getElem?_cons_zero, List.getElem?_cons_succ, List.set_cons_zero, List.set_cons_succ, List.map_cons, List.map_nil, List.length_cons, List.length_nil, List.cons_append, List.nil_append, List.append_nil, List.replicate_succ, List.replicate_zero, Nat.reduceSub, Nat.sub_self, add_int, sub_int, int_int, int_bl, abs_int, max_int, min_int, len_tup, lt_int, le_int, gt_int, ge_int, eq_int, ne_int, eq_bl, ix_tup, at0, at1, at2, ito_tup, seq_tup, truth_bl, truth_tup]
    refine (has_ok (n := n) (c ps hp)).imp fun v t ⟨f1, e1⟩ => ?_
    subst e1
    have il : ixB (.ref m) (.int (-1)) t = some (prD (l, h)) := ixL ((fr.trans f1).get hm) at_last
    simp only [il, prD, w_ok, w_err, w_non, w_bl, w_int, w_str, w_con, w_var, w_tup, w_lst, w_bin, w_neg, w_not, w_and, w_or, w_cmp, w_chain, w_ite, w_call, w_callV, w_bi, w_isi, w_meth, w_ix, w_slc, w_rev, w_lrng, w_lzip, w_fld, t_not, t_and, t_or, t_cmp, t_var, t_call, t_bi, t_isi, t_ix, t_bl, t_chain, s_nil, s_cons, s_star, o_none, o_some, i_e, i_rng, i_zip, ss_nil, ss_cons, st_expr, st_ret, st_retN, st_pass, st_brk, st_cont, st_asg, st_par, st_setIx, st_iff, st_for, st_raise, ts_nil, ts_one, oQ_some, oQ_none, rq_ret, rq_nx, fq_nx, fq_cont, fq_brk, fq_ret, tgB, setAll, wipe, List.getElem?_cons_zero, List.getElem?_cons_succ, List.set_cons_zero, List.set_cons_succ, List.map_cons, List.map_nil, List.length_cons, List.length_nil, List.cons_append, List.nil_append, List.append_nil, List.replicate_succ, List.replicate_zero, Nat.reduceSub, Nat.sub_self, add_int, sub_int, int_int, int_bl, abs_int, max_int, min_int, len_tup, lt_int, le_int, gt_int, ge_int, eq_int, ne_int, eq_bl, ix_tup, at0, at1, at2, ito_tup, seq_tup, truth_bl, truth_tup]
    refine (has_ok (n := n) (c ps hp)).imp fun v u ⟨f2, e2⟩ => ?_
    subst e2
    simp only [w_ok, w_err, w_non, w_bl, w_int, w_str, w_con, w_var, w_tup, w_lst, w_bin, w_neg, w_not, w_and, w_or, w_cmp, w_chain, w_ite, w_call, w_callV, w_bi, w_isi, w_meth, w_ix, w_slc, w_rev, w_lrng, w_lzip, w_fld, t_not, t_and, t_or, t_cmp, t_var, t_call, t_bi, t_isi, t_ix, t_bl, t_chain, s_nil, s_cons, s_star, o_none, o_some, i_e, i_rng, i_zip, ss_nil, ss_cons, st_expr, st_ret, st_retN, st_pass, st_brk, st_cont, st_asg, st_par, st_setIx, st_iff, st_for, st_raise, ts_nil, ts_one, oQ_some, oQ_none, rq_ret, rq_nx, fq_nx, fq_cont, fq_brk, fq_ret, tgB, setAll, wipe, List.getElem?_cons_zero, List.getElem?_cons_succ, List.set_cons_zero, List.set_cons_succ, List.map_cons, List.map_nil, List.length_cons, List.length_nil, List.cons_append, List.nil_append, List.append_nil, List.replicate_succ, List.replicate_zero, Nat.reduceSub, Nat.sub_self, add_int, sub_int, int_int, int_bl, abs_int, max_int, min_int, len_tup, lt_int, le_int, gt_int, ge_int, eq_int, ne_int, eq_bl, ix_tup, at0, at1, at2, ito_tup, seq_tup, truth_bl, truth_tup]
    refine ⟨f1.trans f2, ?_⟩
    simp only [rgD, prs_rg]
  · rw [List.map_map] at e
    have e' : s[st.length]? = some (.lst true (rows.map fun ps => D.bl (memB a ps == memB l ps))) := by
      rw [e]
      congr 2
      apply List.map_congr_left
      intro ps _
      simp only [Function.comp, rgD, prs_rg]
    simp only [evB_all e', oQ_some]
    have z : (rows.all fun ps => memB a ps == memB l ps) = decide (keyOf rows a = keyOf rows l) := by
      rw [Bool.eq_iff_iff, decide_eq_true_eq, key_eq, List.all_eq_true]
      simp only [beq_iff_eq]
    rw [z]
    exact fin s fr
theorem slc_lst {st : Sto} {n : Nat} {w : Bool} {xs : List D} (e : st[n]? = some (.lst w xs)) : slcB (.ref n) (some 1) none st = some (.ref st.length, st ++ [.lst true (xs.drop 1)]) := by
  show (match st[n]? with
    | some (.lst _ xs) => some (new (.lst true (cut xs (some 1) none)) st)
    | _ => none) = _
  rw [e, ← cut1]
  rfl
theorem zip_lst {st : Sto} {n m : Nat} {w v : Bool} {xs ys : List D} (e : st[n]? = some (.lst w xs)) (e2 : st[m]? = some (.lst v ys)) : zipOf (.ref n) (.ref m) st = some (.zipL n m) := by
  show (match st[n]?, st[m]? with
    | some (.lst _ _), some (.lst _ _) => some (Itr.zipL n m)
    | _, _ => none) = _
  rw [e, e2]
/-- in a row that ascends nothing lies between neighbours -/
theorem between {BB pre r : List Int} {a b x : Int} (so : BB.Pairwise (· < ·)) (e : BB = pre ++ a :: b :: r) (h : x ∈ BB) (h1 : a < x) (h2 : x < b) : False := by
  subst e
  rw [List.pairwise_append] at so
  obtain ⟨_, s2, s3⟩ := so
  obtain ⟨s4, s5⟩ := List.pairwise_cons.mp s2
  obtain ⟨s6, s7⟩ := List.pairwise_cons.mp s5
  rcases List.mem_append.mp h with y | y
  · have := s3 x y a (List.mem_cons_self ..)
    omega
  · rcases List.mem_cons.mp y with z | z
    · omega
    · rcases List.mem_cons.mp z with z2 | z2
      · omega
      · have := s6 x z2
        omega
/-- the classes so far -/
def ClI (rows : List Rg) (BB : List Int) (st : Sto) (B m1 m2 : Nat) (rest : List D) (env : PyI.Env) (t : Sto) : Prop :=
  ∃ pre a q v1 v4 v5, ∃ out : Rg, BB = pre ++ a :: q ∧ rest = nbs (a :: q) ∧ env = [some (.tup (rows.map rgD)), v1, some (.ref B), some (.ref m1), v4, v5] ∧ t[m1]? = some (.lst true (out.map prD)) ∧ t[B]? = some (.lst true (BB.map D.int)) ∧ t[m2]? = some (.lst true ((BB.map D.int).drop 1)) ∧ Fr [] st t ∧
    CutTo (keyOf rows) none 0 a out ∧ (out = [] → a = 0)
theorem classes_ok {n : Nat} {st : Sto} {rows : List Rg} (c : ∀ ps ∈ rows, Can 0 ps) (hl : rows.length ≤ 300) : W (callN P0 (n + 6) "classes" [.tup (rows.map rgD)] st) (fun v s => Fr [] st s ∧ ∃ rs, v = rgD rs ∧ Cut (keyOf rows) none 0 rs) NE := by
  refine w_def d_classes rfl rfl ?_
  simp only [b_classes, w_ok, w_err, w_non, w_bl, w_int, w_str, w_con, w_var, w_tup, w_lst, w_bin, w_neg, w_not, w_and, w_or, w_cmp, w_chain, w_ite, w_call, w_callV, w_bi, w_isi, w_meth, w_ix, w_slc, w_rev, w_lrng, w_lzip, w_fld, t_not, t_and, t_or, t_cmp, t_var, t_call, t_bi, t_isi, t_ix, t_bl, t_chain, s_nil, s_cons, s_star, o_none, o_some, i_e, i_rng, i_zip, ss_nil, ss_cons, st_expr, st_ret, st_retN, st_pass, st_brk, st_cont, st_asg, st_par, st_setIx, st_iff, st_for, st_raise, ts_nil, ts_one, oQ_some, oQ_none, rq_ret, rq_nx, fq_nx, fq_cont, fq_brk, fq_ret, tgB, setAll, wipe, List.getElem?_cons_zero, List.getElem?_cons_succ, List.set_cons_zero, List.set_cons_succ, List.map_cons, List.map_nil, List.length_cons, List.length_nil, List.cons_append, List.nil_append, List.append_nil, List.replicate_succ, List.replicate_zero, Nat.reduceSub, Nat.sub_self, add_int, sub_int, int_int, int_bl, abs_int, max_int, min_int, len_tup, lt_int, le_int, gt_int, ge_int, eq_int, ne_int, eq_bl, ix_tup, at0, at1, at2, ito_tup, seq_tup, truth_bl, truth_tup]
  refine (is_tuple_gen (n := n + 4)).imp fun v s ⟨e1, e2⟩ => ?_
  subst e1 e2
  have hl2 : (decide ((0 : Int) ≤ ((rows.map rgD).length : Int)) && decide (((rows.map rgD).length : Int) ≤ 300)) = true := by
    rw [List.length_map]
    simp
    omega
  rw [hl2]
  simp only [w_ok, w_err, w_non, w_bl, w_int, w_str, w_con, w_var, w_tup, w_lst, w_bin, w_neg, w_not, w_and, w_or, w_cmp, w_chain, w_ite, w_call, w_callV, w_bi, w_isi, w_meth, w_ix, w_slc, w_rev, w_lrng, w_lzip, w_fld, t_not, t_and, t_or, t_cmp, t_var, t_call, t_bi, t_isi, t_ix, t_bl, t_chain, s_nil, s_cons, s_star, o_none, o_some, i_e, i_rng, i_zip, ss_nil, ss_cons, st_expr, st_ret, st_retN, st_pass, st_brk, st_cont, st_asg, st_par, st_setIx, st_iff, st_for, st_raise, ts_nil, ts_one, oQ_some, oQ_none, rq_ret, rq_nx, fq_nx, fq_cont, fq_brk, fq_ret, tgB, setAll, wipe, List.getElem?_cons_zero, List.getElem?_cons_succ, List.set_cons_zero, List.set_cons_succ, List.map_cons, List.map_nil, List.length_cons, List.length_nil, List.cons_append, List.nil_append, List.append_nil, List.replicate_succ, List.replicate_zero, Nat.reduceSub, Nat.sub_self, add_int, sub_int, int_int, int_bl, abs_int, max_int, min_int, len_tup, lt_int, le_int, gt_int, ge_int, eq_int, ne_int, eq_bl, ix_tup, at0, at1, at2, ito_tup, seq_tup, truth_bl, truth_tup, Bool.not_true]
  have hF : (rows.map rgD).length < FUEL := by
    rw [List.length_map]
    unfold FUEL
    omega
  refine w_loop (ds := rows.map rgD) (fun rest env t => ∃ q v1, rest = q.map rgD ∧ (∀ ps ∈ q, ps ∈ rows) ∧ env = [some (.tup (rows.map rgD)), v1, none, none, none, none] ∧ Fr [] s t) hF (fun _ _ _ _ => rfl) ⟨rows, _, rfl, fun _ h => h, rfl, Fr.refl _ _⟩ ?_ ?_
  · rintro d0 rest env t ⟨q, v1, e1, e2, e3, f⟩
    subst e3
    match q, e1, e2 with
    | ps :: q, e1, e2 =>
      simp only [List.map_cons, List.cons.injEq] at e1
      obtain ⟨e1, e4⟩ := e1
      subst e1 e4
      simp only [w_ok, w_err, w_non, w_bl, w_int, w_str, w_con, w_var, w_tup, w_lst, w_bin, w_neg, w_not, w_and, w_or, w_cmp, w_chain, w_ite, w_call, w_callV, w_bi, w_isi, w_meth, w_ix, w_slc, w_rev, w_lrng, w_lzip, w_fld, t_not, t_and, t_or, t_cmp, t_var, t_call, t_bi, t_isi, t_ix, t_bl, t_chain, s_nil, s_cons, s_star, o_none, o_some, i_e, i_rng, i_zip, ss_nil, ss_cons, st_expr, st_ret, st_retN, st_pass, st_brk, st_cont, st_asg, st_par, st_setIx, st_iff, st_for, st_raise, ts_nil, ts_one, oQ_some, oQ_none, rq_ret, rq_nx, fq_nx, fq_cont, fq_brk, fq_ret, tgB, setAll, wipe, List.getElem?_cons_zero, List.getElem?_cons_succ, List.set_cons_zero, List.set_cons_succ, List.map_cons, List.map_nil, List.length_cons, List.length_nil, List.cons_append, List.nil_append, List.append_nil, List.replicate_succ, List.replicate_zero, Nat.reduceSub, Nat.sub_self, add_int, sub_int, int_int, int_bl, abs_int, max_int, min_int, len_tup, lt_int, le_int, gt_int, ge_int, eq_int, ne_int, eq_bl, ix_tup, at0, at1, at2, ito_tup, seq_tup, truth_bl, truth_tup]
      refine (check_set_ok (n := n) (c ps (e2 ps (List.mem_cons_self ..)))).imp fun v u ⟨f2, e5⟩ => ?_
      exact ⟨q, _, rfl, fun p hp => e2 p (List.mem_cons_of_mem _ hp), rfl, f.trans f2⟩
  · rintro env t ⟨q, v1, e1, e2, e3, f⟩
    subst e3
    simp only [w_ok, w_err, w_non, w_bl, w_int, w_str, w_con, w_var, w_tup, w_lst, w_bin, w_neg, w_not, w_and, w_or, w_cmp, w_chain, w_ite, w_call, w_callV, w_bi, w_isi, w_meth, w_ix, w_slc, w_rev, w_lrng, w_lzip, w_fld, t_not, t_and, t_or, t_cmp, t_var, t_call, t_bi, t_isi, t_ix, t_bl, t_chain, s_nil, s_cons, s_star, o_none, o_some, i_e, i_rng, i_zip, ss_nil, ss_cons, st_expr, st_ret, st_retN, st_pass, st_brk, st_cont, st_asg, st_par, st_setIx, st_iff, st_for, st_raise, ts_nil, ts_one, oQ_some, oQ_none, rq_ret, rq_nx, fq_nx, fq_cont, fq_brk, fq_ret, tgB, setAll, wipe, List.getElem?_cons_zero, List.getElem?_cons_succ, List.set_cons_zero, List.set_cons_succ, List.map_cons, List.map_nil, List.length_cons, List.length_nil, List.cons_append, List.nil_append, List.append_nil, List.replicate_succ, List.replicate_zero, Nat.reduceSub, Nat.sub_self, add_int, sub_int, int_int, int_bl, abs_int, max_int, min_int, len_tup, lt_int, le_int, gt_int, ge_int, eq_int, ne_int, eq_bl, ix_tup, at0, at1, at2, ito_tup, seq_tup, truth_bl, truth_tup]
    refine (begins_ok (n := n + 4) c hl).imp fun v u ⟨f2, mB, bs, e4, h1, h2, h3, h4, h5⟩ => ?_
    subst e4
    have hlen : (bs.map D.int ++ [D.int (255 + 1)]).length ≤ LIM := by
      rw [List.length_append, List.length_map, List.length_singleton]
      unfold LIM
      omega
    simp only [seqOf_lst h2, w_ok, w_err, w_non, w_bl, w_int, w_str, w_con, w_var, w_tup, w_lst, w_bin, w_neg, w_not, w_and, w_or, w_cmp, w_chain, w_ite, w_call, w_callV, w_bi, w_isi, w_meth, w_ix, w_slc, w_rev, w_lrng, w_lzip, w_fld, t_not, t_and, t_or, t_cmp, t_var, t_call, t_bi, t_isi, t_ix, t_bl, t_chain, s_nil, s_cons, s_star, o_none, o_some, i_e, i_rng, i_zip, ss_nil, ss_cons, st_expr, st_ret, st_retN, st_pass, st_brk, st_cont, st_asg, st_par, st_setIx, st_iff, st_for, st_raise, ts_nil, ts_one, oQ_some, oQ_none, rq_ret, rq_nx, fq_nx, fq_cont, fq_brk, fq_ret, tgB, setAll, wipe, List.getElem?_cons_zero, List.getElem?_cons_succ, List.set_cons_zero, List.set_cons_succ, List.map_cons, List.map_nil, List.length_cons, List.length_nil, List.cons_append, List.nil_append, List.append_nil, List.replicate_succ, List.replicate_zero, Nat.reduceSub, Nat.sub_self, add_int, sub_int, int_int, int_bl, abs_int, max_int, min_int, len_tup, lt_int, le_int, gt_int, ge_int, eq_int, ne_int, eq_bl, ix_tup, at0, at1, at2, ito_tup, seq_tup, truth_bl, truth_tup, hlen, if_true, List.length_nil, Nat.zero_le]
    have eBB : bs.map D.int ++ [D.int (255 + 1)] = (bs ++ [256]).map D.int := by
      rw [List.map_append]
      rfl
    rw [eBB]
    have hge : ∀ x ∈ bs, 0 ≤ x := fun x hx => by
      obtain ⟨_, z | ⟨ps, hp, p, hpp, w⟩⟩ := (h5 x).mp hx
      · omega
      · have := can_item (c ps hp) p hpp
        omega
    have so : (bs ++ [256]).Pairwise (· < ·) := by
      rw [List.pairwise_append]
      refine ⟨h3, by simp, fun x hx y hy => ?_⟩
      have : y = 256 := by simpa using hy
      have := ((h5 x).mp hx).1
      omega
    have h0 : (0 : Int) ∈ bs := (h5 0).mpr ⟨by decide, .inl rfl⟩
    obtain ⟨q0, eq0⟩ : ∃ q0, bs ++ [256] = 0 :: q0 := by
      cases bs with
      | nil => cases h0
      | cons a r =>
        have ha : a = 0 := by
          have g := hge a (List.mem_cons_self ..)
          rcases List.mem_cons.mp h0 with z | z
          · exact z.symm
          · have := (List.pairwise_cons.mp h3).1 0 z
            omega
        subst ha
        exact ⟨_, rfl⟩
    have lenBB : (bs ++ [256]).length ≤ 80001 := by
      rw [List.length_append, List.length_singleton]
      omega
    have edge_in : ∀ x, 0 < x → x ≤ 255 → (∃ ps ∈ rows, Edge x ps) → x ∈ bs ++ [256] := fun x _ hx he => List.mem_append_left _ ((h5 x).mpr ⟨hx, .inr he⟩)
    have le256 : ∀ x ∈ bs ++ [256], x ≤ 256 ∧ 0 ≤ x := fun x hx => by
      rcases List.mem_append.mp hx with y | y
      · have := ((h5 x).mp y).1
        have := hge x y
        omega
      · have : x = 256 := by simpa using y
        omega
    have last : ∀ pre a, bs ++ [256] = pre ++ [a] → a = 256 := fun pre a e => (List.append_inj_right' e rfl |> fun z => by simpa using z.symm)
    generalize bs ++ [256] = BB at so eq0 lenBB edge_in le256 last
    have c1 : (u ++ [Cell.lst true (BB.map D.int)] ++ [Cell.lst true []])[u.length]? = some (.lst true (BB.map D.int)) := (Fr.app [] _ _).get get_last
    rw [slc_lst c1, oQ_some]
    have c2 := (Fr.app [] _ [Cell.lst true ((BB.map D.int).drop 1)]).get c1
    rw [zip_lst c2 get_last, oQ_some]
    have c3 : (u ++ [Cell.lst true (BB.map D.int)] ++ [Cell.lst true []] ++ [Cell.lst true ((BB.map D.int).drop 1)])[(u ++ [Cell.lst true (BB.map D.int)]).length]? = some (.lst true []) := (Fr.app [] _ _).get get_last
    have hds : (nbs BB).length < FUEL := by
      unfold nbs
      rw [List.length_zipWith, List.length_map]
      unfold FUEL
      omega
    refine w_loop (ds := nbs BB) (ClI rows BB s u.length (u ++ [Cell.lst true (BB.map D.int)]).length (u ++ [Cell.lst true (BB.map D.int)] ++ [Cell.lst true []]).length) hds (fun rest env t ⟨_, _, _, _, _, _, _, _, _, _, _, z1, z2, _⟩ => ⟨true, true, _, _, z1, z2, rfl⟩)
      ⟨[], 0, q0, _, _, _, [], eq0, by rw [eq0], rfl, c3, c2, get_last, (f.trans f2).trans (((Fr.app [] _ _).trans (Fr.app [] _ _)).trans (Fr.app [] _ _)), rfl, fun _ => rfl⟩ ?_ ?_
    · rintro d0 rest env t ⟨pre, a, q, w1, w4, w5, out, a1, a2, a3, a4, a5, a6, a7, a8, a9⟩
      subst a3
      match q, a2, a1 with
      | [], a2, a1 => cases a2
      | b :: r, a2, a1 =>
        rw [nbs_cons] at a2
        simp only [List.cons.injEq] at a2
        obtain ⟨a2, a10⟩ := a2
        subst a2 a10
        have hab : a < b := by
          rw [a1, List.pairwise_append] at so
          exact (List.pairwise_cons.mp so.2.1).1 b (List.mem_cons_self ..)
        have hb := le256 b (by rw [a1]; simp)
        have ha := le256 a (by rw [a1]; simp)
        have const : ∀ x, a ≤ x → x ≤ b - 1 → keyOf rows x = keyOf rows a := fun x hx1 hx2 => key_const hx1 fun y hy1 hy2 he => between so a1 (edge_in y (by omega) (by omega) he) hy1 (by omega)
        have dp := dep_rg out
        have nn := ne_nil a4 (pure_rg out) (by omega)
        have b1 := (Fr.app [] t [.lst true []]).get a4
        have b2 := (Fr.app [] t [.lst true []]).get a5
        have b3 := (Fr.app [] t [.lst true []]).get a6
        have f8 := a7.trans (Fr.app [] t [.lst true []])
        have hm1 : (u ++ [Cell.lst true (BB.map D.int)]).length = u.length + 1 := by simp
        have hm2 : (u ++ [Cell.lst true (BB.map D.int)] ++ [Cell.lst true []]).length = u.length + 2 := by simp
        have lus : s.length ≤ u.length := Nat.le_trans f.1 f2.1
        have hout : ∀ p ∈ out, p.1 ≤ p.2 ∧ 0 ≤ p.1 ∧ p.2 ≤ 255 := fun p hp => cutTo_item (Int.le_refl 0) (by omega) a8 p hp
        have lout : out.length < LIM := by
          have := cutTo_len a8
          unfold LIM
          omega
        simp only [w_ok, w_err, w_non, w_bl, w_int, w_str, w_con, w_var, w_tup, w_lst, w_bin, w_neg, w_not, w_and, w_or, w_cmp, w_chain, w_ite, w_call, w_callV, w_isi, w_meth, w_ix, w_slc, w_rev, w_lrng, w_lzip, w_fld, t_not, t_and, t_or, t_cmp, t_var, t_call, t_bi, t_isi, t_ix, t_bl, t_chain, s_nil, s_cons, s_star, o_none, o_some, i_e, i_rng, i_zip, ss_nil, ss_cons, st_expr, st_ret, st_retN, st_pass, st_brk, st_cont, st_asg, st_par, st_setIx, st_iff, st_for, st_raise, ts_nil, ts_one, oQ_some, oQ_none, rq_ret, rq_nx, fq_nx, fq_cont, fq_brk, fq_ret, tgB, setAll, wipe, List.getElem?_cons_zero, List.getElem?_cons_succ, List.set_cons_zero, List.set_cons_succ, List.map_cons, List.map_nil, List.length_cons, List.length_nil, List.cons_append, List.nil_append, List.append_nil, List.replicate_succ, List.replicate_zero, Nat.reduceSub, Nat.sub_self, add_int, sub_int, int_int, int_bl, abs_int, max_int, min_int, len_tup, lt_int, le_int, gt_int, ge_int, eq_int, ne_int, eq_bl, ix_tup, at0, at1, at2, ito_tup, seq_tup, truth_bl, truth_tup, List.length_nil, Nat.zero_le, if_true, nn]
        generalize (u ++ [Cell.lst true (BB.map D.int)] ++ [Cell.lst true []]).length = m2 at hm2 b3
        generalize (u ++ [Cell.lst true (BB.map D.int)]).length = m1 at hm1 b1
        generalize t ++ [Cell.lst true []] = z at b1 b2 b3 f8
        have step : ∀ (z' : Sto) (out' : Rg) (xs : List D), Fr [] z z' → CutTo (keyOf rows) none 0 b out' → out' ≠ [] → z'[m1]? = some (.lst true xs) →
            ClI rows BB s u.length m1 m2 (nbs (b :: r)) [some (.tup (rows.map rgD)), w1, some (.ref u.length), some (.ref m1), some (.int a), some (.int b)] (z'.set m1 (.lst true (out'.map prD))) := fun z' out' xs y1 y2 y3 y4 => by
          refine ⟨pre ++ [a], b, r, _, _, _, out', by rw [a1]; simp, rfl, rfl, get_set y4, ?_, ?_, (f8.trans y1).set (.inr (by omega)), y2, fun y => absurd y y3⟩
          · rw [get_set_ne (by omega)]
            exact y1.get b2
          · rw [get_set_ne (by omega)]
            exact y1.get b3
        rcases List.eq_nil_or_concat out with eo | ⟨o2, lst, eo⟩
        · subst eo
          have a0 := a9 rfl
          subst a0
          simp only [List.map_nil, List.isEmpty_nil, Bool.not_true, w_ok, w_err, w_non, w_bl, w_int, w_str, w_con, w_var, w_tup, w_lst, w_bin, w_neg, w_not, w_and, w_or, w_cmp, w_chain, w_ite, w_call, w_callV, w_bi, w_isi, w_meth, w_ix, w_slc, w_rev, w_lrng, w_lzip, w_fld, t_not, t_and, t_or, t_cmp, t_var, t_call, t_bi, t_isi, t_ix, t_bl, t_chain, s_nil, s_cons, s_star, o_none, o_some, i_e, i_rng, i_zip, ss_nil, ss_cons, st_expr, st_ret, st_retN, st_pass, st_brk, st_cont, st_asg, st_par, st_setIx, st_iff, st_for, st_raise, ts_nil, ts_one, oQ_some, oQ_none, rq_ret, rq_nx, fq_nx, fq_cont, fq_brk, fq_ret, tgB, setAll, wipe, List.getElem?_cons_zero, List.getElem?_cons_succ, List.set_cons_zero, List.set_cons_succ, List.map_cons, List.map_nil, List.length_cons, List.length_nil, List.cons_append, List.nil_append, List.append_nil, List.replicate_succ, List.replicate_zero, Nat.reduceSub, Nat.sub_self, add_int, sub_int, int_int, int_bl, abs_int, max_int, min_int, len_tup, lt_int, le_int, gt_int, ge_int, eq_int, ne_int, eq_bl, ix_tup, at0, at1, at2, ito_tup, seq_tup, truth_bl, truth_tup, kindB_lst b1, MT.name, if_true, show (0 + 1 + 1 ≤ LIM) from by decide, append_lst b1 (show (0 : Nat) < LIM by decide)]
          have y := step z [(0, b - 1)] _ (Fr.refl _ _) (by
            have := cutTo_one (keyOf rows) (a := 0) (h := b - 1) (by omega) const
            have e : b - 1 + 1 = b := by omega
            rw [e] at this
            exact this) (by simp) b1
          exact y
        · have eo : out = o2 ++ [lst] := by rw [eo, List.concat_eq_append]
          subst eo
          obtain ⟨l, h⟩ := lst
          rw [rg_snoc] at b1
          have ne : ((o2 ++ [(l, h)]).map prD).isEmpty = false := by rw [rg_snoc]; simp
          obtain ⟨cl1, cl2⟩ := cutTo_last a8
          simp only [ne, Bool.not_false]
          refine same_ok (n := n + 4) c hl b1 fun z' fz => ?_
          have b1' := fz.get b1
          simp only [w_ok, w_err, w_non, w_bl, w_int, w_str, w_con, w_var, w_tup, w_lst, w_bin, w_neg, w_not, w_and, w_or, w_cmp, w_chain, w_ite, w_call, w_callV, w_bi, w_isi, w_meth, w_ix, w_slc, w_rev, w_lrng, w_lzip, w_fld, t_not, t_and, t_or, t_cmp, t_var, t_call, t_bi, t_isi, t_ix, t_bl, t_chain, s_nil, s_cons, s_star, o_none, o_some, i_e, i_rng, i_zip, ss_nil, ss_cons, st_expr, st_ret, st_retN, st_pass, st_brk, st_cont, st_asg, st_par, st_setIx, st_iff, st_for, st_raise, ts_nil, ts_one, oQ_some, oQ_none, rq_ret, rq_nx, fq_nx, fq_cont, fq_brk, fq_ret, tgB, setAll, wipe, List.getElem?_cons_zero, List.getElem?_cons_succ, List.set_cons_zero, List.set_cons_succ, List.map_cons, List.map_nil, List.length_cons, List.length_nil, List.cons_append, List.nil_append, List.append_nil, List.replicate_succ, List.replicate_zero, Nat.reduceSub, Nat.sub_self, add_int, sub_int, int_int, int_bl, abs_int, max_int, min_int, len_tup, lt_int, le_int, gt_int, ge_int, eq_int, ne_int, eq_bl, ix_tup, at0, at1, at2, ito_tup, seq_tup, truth_bl, truth_tup]
          by_cases hk : keyOf rows a = keyOf rows l
          · have il : ixB (.ref m1) (.int (-1)) z' = some (prD (l, h)) := ixL b1' at_last
            simp only [hk, decide_true, il, prD, w_ok, w_err, w_non, w_bl, w_int, w_str, w_con, w_var, w_tup, w_lst, w_bin, w_neg, w_not, w_and, w_or, w_cmp, w_chain, w_ite, w_call, w_callV, w_bi, w_isi, w_meth, w_ix, w_slc, w_rev, w_lrng, w_lzip, w_fld, t_not, t_and, t_or, t_cmp, t_var, t_call, t_bi, t_isi, t_ix, t_bl, t_chain, s_nil, s_cons, s_star, o_none, o_some, i_e, i_rng, i_zip, ss_nil, ss_cons, st_expr, st_ret, st_retN, st_pass, st_brk, st_cont, st_asg, st_par, st_setIx, st_iff, st_for, st_raise, ts_nil, ts_one, oQ_some, oQ_none, rq_ret, rq_nx, fq_nx, fq_cont, fq_brk, fq_ret, tgB, setAll, wipe, List.getElem?_cons_zero, List.getElem?_cons_succ, List.set_cons_zero, List.set_cons_succ, List.map_cons, List.map_nil, List.length_cons, List.length_nil, List.cons_append, List.nil_append, List.append_nil, List.replicate_succ, List.replicate_zero, Nat.reduceSub, Nat.sub_self, add_int, sub_int, int_int, int_bl, abs_int, max_int, min_int, len_tup, lt_int, le_int, gt_int, ge_int, eq_int, ne_int, eq_bl, ix_tup, at0, at1, at2, ito_tup, seq_tup, truth_bl, truth_tup, show (0 + 1 + 1 ≤ LIM) from by decide, if_true, setL1 b1']
            have y := step z' (o2 ++ [(l, b - 1)]) _ fz (by
              have := cutTo_grow (keyOf rows) a8 (h' := b - 1) (by omega) fun x hx1 hx2 => by rw [const x (by omega) hx2, hk]
              have e : b - 1 + 1 = b := by omega
              rw [e] at this
              exact this) (by simp) b1'
            rw [rg_snoc] at y
            exact y
          · simp only [hk, decide_false, kindB_lst b1', MT.name, w_ok, w_err, w_non, w_bl, w_int, w_str, w_con, w_var, w_tup, w_lst, w_bin, w_neg, w_not, w_and, w_or, w_cmp, w_chain, w_ite, w_call, w_callV, w_bi, w_isi, w_meth, w_ix, w_slc, w_rev, w_lrng, w_lzip, w_fld, t_not, t_and, t_or, t_cmp, t_var, t_call, t_bi, t_isi, t_ix, t_bl, t_chain, s_nil, s_cons, s_star, o_none, o_some, i_e, i_rng, i_zip, ss_nil, ss_cons, st_expr, st_ret, st_retN, st_pass, st_brk, st_cont, st_asg, st_par, st_setIx, st_iff, st_for, st_raise, ts_nil, ts_one, oQ_some, oQ_none, rq_ret, rq_nx, fq_nx, fq_cont, fq_brk, fq_ret, tgB, setAll, wipe, List.getElem?_cons_zero, List.getElem?_cons_succ, List.set_cons_zero, List.set_cons_succ, List.map_cons, List.map_nil, List.length_cons, List.length_nil, List.cons_append, List.nil_append, List.append_nil, List.replicate_succ, List.replicate_zero, Nat.reduceSub, Nat.sub_self, add_int, sub_int, int_int, int_bl, abs_int, max_int, min_int, len_tup, lt_int, le_int, gt_int, ge_int, eq_int, ne_int, eq_bl, ix_tup, at0, at1, at2, ito_tup, seq_tup, truth_bl, truth_tup, show (0 + 1 + 1 ≤ LIM) from by decide, if_true, append_lst b1' (show (o2.map prD ++ [prD (l, h)]).length < LIM by rw [← rg_snoc, List.length_map]; exact lout)]
            have y := step z' (o2 ++ [(l, h)] ++ [(a, b - 1)]) _ fz (by
              have := cutTo_push (keyOf rows) a8 (h' := b - 1) (by omega) const (fun w => hk w.symm)
              have e : b - 1 + 1 = b := by omega
              rw [e] at this
              exact this) (by simp) b1'
            rw [rg_snoc, rg_snoc] at y
            exact y
    · rintro env t ⟨pre, a, q, w1, w4, w5, out, a1, a2, a3, a4, a5, a6, a7, a8, a9⟩
      subst a3
      have eq : q = [] := by
        cases q with
        | nil => rfl
        | cons b r =>
          rw [nbs_cons] at a2
          cases a2
      subst eq
      have ea := last pre a a1
      subst ea
      simp only [w_ok, w_err, w_non, w_bl, w_int, w_str, w_con, w_var, w_tup, w_lst, w_bin, w_neg, w_not, w_and, w_or, w_cmp, w_chain, w_ite, w_call, w_callV, w_bi, w_isi, w_meth, w_ix, w_slc, w_rev, w_lrng, w_lzip, w_fld, t_not, t_and, t_or, t_cmp, t_var, t_call, t_bi, t_isi, t_ix, t_bl, t_chain, s_nil, s_cons, s_star, o_none, o_some, i_e, i_rng, i_zip, ss_nil, ss_cons, st_expr, st_ret, st_retN, st_pass, st_brk, st_cont, st_asg, st_par, st_setIx, st_iff, st_for, st_raise, ts_nil, ts_one, oQ_some, oQ_none, rq_ret, rq_nx, fq_nx, fq_cont, fq_brk, fq_ret, tgB, setAll, wipe, List.getElem?_cons_zero, List.getElem?_cons_succ, List.set_cons_zero, List.set_cons_succ, List.map_cons, List.map_nil, List.length_cons, List.length_nil, List.cons_append, List.nil_append, List.append_nil, List.replicate_succ, List.replicate_zero, Nat.reduceSub, Nat.sub_self, add_int, sub_int, int_int, int_bl, abs_int, max_int, min_int, len_tup, lt_int, le_int, gt_int, ge_int, eq_int, ne_int, eq_bl, ix_tup, at0, at1, at2, ito_tup, seq_tup, truth_bl, truth_tup, evB_tuple a4]
      exact ⟨a7, out, rfl, cutTo_done _ a8⟩
end K01
end
section
set_option autoImplicit false
set_option linter.all false
set_option maxRecDepth 100000
set_option maxHeartbeats 4000000
namespace K01
open PySem PyI
theorem d_l_pot : P0.defs "_law_pot" = some ⟨2, 5, b_l_pot⟩ := by kernel_rfl
theorem d_l_places : P0.defs "_law_places" = some ⟨2, 2, b_l_places⟩ := by kernel_rfl
theorem d_l_is_int : P0.defs "_law_is_int" = some ⟨3, 3, b_l_is_int⟩ := by kernel_rfl
theorem d_l_ranges : P0.defs "_law_ranges" = some ⟨1, 3, b_l_ranges⟩ := by kernel_rfl
theorem d_l_is_set : P0.defs "_law_is_set" = some ⟨1, 4, b_l_is_set⟩ := by kernel_rfl
theorem l_is_int_ok {n : Nat} {st : Sto} {d : D} {lo hi : Int} (h : Kd d st) : W (callN P0 (n + 1) "_law_is_int" [d, .int lo, .int hi] st) (fun v s => s = st ∧ v = .bl (intIn d lo hi)) NE := by
  refine w_def d_l_is_int rfl rfl ?_
  simp only [b_l_is_int, w_ok, w_err, w_non, w_bl, w_int, w_str, w_con, w_var, w_tup, w_lst, w_bin, w_neg, w_not, w_and, w_or, w_cmp, w_chain, w_ite, w_call, w_callV, w_bi, w_isi, w_meth, w_ix, w_slc, w_rev, w_lrng, w_lzip, w_fld, t_not, t_and, t_or, t_cmp, t_var, t_call, t_bi, t_isi, t_ix, t_bl, t_chain, s_nil, s_cons, s_star, o_none, o_some, i_e, i_rng, i_zip, ss_nil, ss_cons, st_expr, st_ret, st_retN, st_pass, st_brk, st_cont, st_asg, st_par, st_setIx, st_iff, st_for, st_raise, ts_nil, ts_one, oQ_some, oQ_none, rq_ret, rq_nx, fq_nx, fq_cont, fq_brk, fq_ret, tgB, setAll, wipe, List.getElem?_cons_zero, List.getElem?_cons_succ, List.set_cons_zero, List.set_cons_succ, List.map_cons, List.map_nil, List.length_cons, List.length_nil, List.cons_append, List.nil_append, List.append_nil, List.replicate_succ, List.replicate_zero, Nat.reduceSub, Nat.sub_self, isi_int h, isi_bool h]
  cases h with
  | int i =>
    simp [isInt, isBl, intIn, oQ, cmpB, intCmp, truth_bl]
    by_cases h2 : lo ≤ i <;> simp [h2]
  | _ => simp [isInt, isBl, intIn, oQ, cmpB, intCmp, truth_bl]
theorem l_places_ok {n : Nat} {st : Sto} {m : Nat} {w : Bool} {xs : List D} (e : st[m]? = some (.lst w xs)) : W (callN P0 (n + 1) "_law_places" [.ref m, .int 4] st) (fun v s => v = .ref st.length ∧ s = st ++ [.lst true (rngD 0 (max 1 (min 4 xs.length)))]) NE := by
  refine w_def d_l_places rfl rfl ?_
  simp only [b_l_places, w_ok, w_err, w_non, w_bl, w_int, w_str, w_con, w_var, w_tup, w_lst, w_bin, w_neg, w_not, w_and, w_or, w_cmp, w_chain, w_ite, w_call, w_callV, w_bi, w_isi, w_meth, w_ix, w_slc, w_rev, w_lrng, w_lzip, w_fld, t_not, t_and, t_or, t_cmp, t_var, t_call, t_bi, t_isi, t_ix, t_bl, t_chain, s_nil, s_cons, s_star, o_none, o_some, i_e, i_rng, i_zip, ss_nil, ss_cons, st_expr, st_ret, st_retN, st_pass, st_brk, st_cont, st_asg, st_par, st_setIx, st_iff, st_for, st_raise, ts_nil, ts_one, oQ_some, oQ_none, rq_ret, rq_nx, fq_nx, fq_cont, fq_brk, fq_ret, tgB, setAll, wipe, List.getElem?_cons_zero, List.getElem?_cons_succ, List.set_cons_zero, List.set_cons_succ, List.map_cons, List.map_nil, List.length_cons, List.length_nil, List.cons_append, List.nil_append, List.append_nil, List.replicate_succ, List.replicate_zero, Nat.reduceSub, Nat.sub_self, add_int, sub_int, int_int, int_bl, abs_int, max_int, min_int, len_tup, lt_int, le_int, gt_int, ge_int, eq_int, ne_int, eq_bl, ix_tup, at0, at1, at2, ito_tup, seq_tup, truth_bl, truth_tup, len_lst e]
  have h1 : rngOk 0 (max 1 (min 4 (xs.length : Int))) = true := by
    unfold rngOk LIM
    simp only [Bool.and_eq_true, decide_eq_true_eq]
    omega
  simp only [h1, if_true]
  exact ⟨trivial, trivial⟩
theorem sum_slc {st : Sto} {m : Nat} {w : Bool} {ks : List Int} (e : st[m]? = some (.lst w (ks.map .int))) : slcB (.ref m) none (some 1) st = some (.ref st.length, st ++ [.lst true ((ks.take 1).map .int)]) := by
  show (match st[m]? with
    | some (.lst _ xs) => some (new (.lst true (cut xs none (some 1))) st)
    | _ => none) = _
  rw [e]
  have h1 : cut (ks.map D.int) none (some 1) = (ks.take 1).map .int := by
    unfold cut clip
    cases ks with
    | nil => rfl
    | cons k r => simp
  show some (new (.lst true (cut (ks.map D.int) none (some 1))) st) = _
  rw [h1]
  rfl
theorem ints_map : ∀ ks : List Int, intsD (ks.map .int) = some ks
  | [] => rfl
  | k :: r => by
    show (intsD (r.map .int)).map (k :: ·) = _
    rw [ints_map r]
    rfl
theorem sum_lst {st : Sto} {m : Nat} {w : Bool} {ks : List Int} (e : st[m]? = some (.lst w (ks.map .int))) : evB .sum [.ref m] st = some (.int ks.sum, st) := by
  show (match (match st[m]? with
    | some (.lst _ xs) => some xs
    | _ => none).bind intsD with
    | some ns => some (D.int ns.sum, st)
    | none => none) = _
  rw [e]
  show (match intsD (ks.map D.int) with
    | some ns => some (D.int ns.sum, st)
    | none => none) = _
  rw [ints_map]
theorem pot_tail {n : Nat} {st s : Sto} {c p : Int} {r : ISs} (hp : 0 ≤ p ∧ p < 4) (f : Fr [] st s) (hb : ∃ x, b_l_pot = .cons x r) : W (evSs P0 (callN P0 n) r [some (.ref 0), some (.int p), some (.int c), none, none] s) (RQ fun v s => Fr [] st s ∧ ∃ m, v = .ref m ∧ st.length ≤ m ∧ Pot m 0 s) NE := by
  obtain ⟨x, hb⟩ := hb
  unfold b_l_pot at hb
  injection hb with hb1 hb2
  subst hb2
  simp only [w_ok, w_err, w_non, w_bl, w_int, w_str, w_con, w_var, w_tup, w_lst, w_bin, w_neg, w_not, w_and, w_or, w_cmp, w_chain, w_ite, w_call, w_callV, w_bi, w_isi, w_meth, w_ix, w_slc, w_rev, w_lrng, w_lzip, w_fld, t_not, t_and, t_or, t_cmp, t_var, t_call, t_bi, t_isi, t_ix, t_bl, t_chain, s_nil, s_cons, s_star, o_none, o_some, i_e, i_rng, i_zip, ss_nil, ss_cons, st_expr, st_ret, st_retN, st_pass, st_brk, st_cont, st_asg, st_par, st_setIx, st_iff, st_for, st_raise, ts_nil, ts_one, oQ_some, oQ_none, rq_ret, rq_nx, fq_nx, fq_cont, fq_brk, fq_ret, tgB, setAll, wipe, List.getElem?_cons_zero, List.getElem?_cons_succ, List.set_cons_zero, List.set_cons_succ, List.map_cons, List.map_nil, List.length_cons, List.length_nil, List.cons_append, List.nil_append, List.append_nil, List.replicate_succ, List.replicate_zero, Nat.reduceSub, Nat.sub_self, add_int, sub_int, int_int, int_bl, abs_int, max_int, min_int, len_tup, lt_int, le_int, gt_int, ge_int, eq_int, ne_int, eq_bl, ix_tup, at0, at1, at2, ito_tup, seq_tup, truth_bl, truth_tup]
  have ha : 0 ≤ (if c < 0 then -c else c) := by split <;> omega
  generalize (if c < 0 then -c else c) = a at ha
  simp only [pow_ok (i := 10) (j := 60) 4 (by decide) (by decide) (by decide), w_ok, w_err, w_non, w_bl, w_int, w_str, w_con, w_var, w_tup, w_lst, w_bin, w_neg, w_not, w_and, w_or, w_cmp, w_chain, w_ite, w_call, w_callV, w_bi, w_isi, w_meth, w_ix, w_slc, w_rev, w_lrng, w_lzip, w_fld, t_not, t_and, t_or, t_cmp, t_var, t_call, t_bi, t_isi, t_ix, t_bl, t_chain, s_nil, s_cons, s_star, o_none, o_some, i_e, i_rng, i_zip, ss_nil, ss_cons, st_expr, st_ret, st_retN, st_pass, st_brk, st_cont, st_asg, st_par, st_setIx, st_iff, st_for, st_raise, ts_nil, ts_one, oQ_some, oQ_none, rq_ret, rq_nx, fq_nx, fq_cont, fq_brk, fq_ret, tgB, setAll, wipe, List.getElem?_cons_zero, List.getElem?_cons_succ, List.set_cons_zero, List.set_cons_succ, List.map_cons, List.map_nil, List.length_cons, List.length_nil, List.cons_append, List.nil_append, List.append_nil, List.replicate_succ, List.replicate_zero, Nat.reduceSub, Nat.sub_self, add_int, sub_int, int_int, int_bl, abs_int, max_int, min_int, len_tup, lt_int, le_int, gt_int, ge_int, eq_int, ne_int, eq_bl, ix_tup, at0, at1, at2, ito_tup, seq_tup, truth_bl, truth_tup]
  have hA : 0 ≤ (10 : Int) ^ (60 : Int).toNat ∧ (10 : Int) ^ (60 : Int).toNat < 2 ^ 200 := by decide
  have hA2 : 0 < (10 : Int) ^ (60 : Int).toNat := by decide
  generalize (10 : Int) ^ (60 : Int).toNat = A at hA hA2
  simp only [pow_ok (i := A) (j := 5) 200 hA (by decide) (by decide), w_ok, w_err, w_non, w_bl, w_int, w_str, w_con, w_var, w_tup, w_lst, w_bin, w_neg, w_not, w_and, w_or, w_cmp, w_chain, w_ite, w_call, w_callV, w_bi, w_isi, w_meth, w_ix, w_slc, w_rev, w_lrng, w_lzip, w_fld, t_not, t_and, t_or, t_cmp, t_var, t_call, t_bi, t_isi, t_ix, t_bl, t_chain, s_nil, s_cons, s_star, o_none, o_some, i_e, i_rng, i_zip, ss_nil, ss_cons, st_expr, st_ret, st_retN, st_pass, st_brk, st_cont, st_asg, st_par, st_setIx, st_iff, st_for, st_raise, ts_nil, ts_one, oQ_some, oQ_none, rq_ret, rq_nx, fq_nx, fq_cont, fq_brk, fq_ret, tgB, setAll, wipe, List.getElem?_cons_zero, List.getElem?_cons_succ, List.set_cons_zero, List.set_cons_succ, List.map_cons, List.map_nil, List.length_cons, List.length_nil, List.cons_append, List.nil_append, List.append_nil, List.replicate_succ, List.replicate_zero, Nat.reduceSub, Nat.sub_self, add_int, sub_int, int_int, int_bl, abs_int, max_int, min_int, len_tup, lt_int, le_int, gt_int, ge_int, eq_int, ne_int, eq_bl, ix_tup, at0, at1, at2, ito_tup, seq_tup, truth_bl, truth_tup]
  have hM : 0 < A ^ (5 : Int).toNat := Int.pow_pos hA2
  have hM2 : A ^ (5 : Int).toNat < 2 ^ 1000 := by
    have e1 : (5 : Int).toNat = 5 := rfl
    have e2 : ((2 : Int) ^ 1000) = (2 ^ 200) ^ 5 := by rw [← Int.pow_mul]
    rw [e1, e2]
    have g1 : A ≤ 2 ^ 200 - 1 := by omega
    have g2 : A ^ 5 ≤ (2 ^ 200 - 1) ^ 5 := by
      have p1 : ∀ k : Nat, A ^ k ≤ (2 ^ 200 - 1) ^ k := by
        intro k
        induction k with
        | zero => simp
        | succ k ih =>
          rw [Int.pow_succ, Int.pow_succ]
          exact Int.mul_le_mul ih g1 hA.1 (Int.le_trans (Int.le_of_lt (Int.pow_pos hA2)) ih)
      exact p1 5
    exact Int.lt_of_le_of_lt g2 (by decide)
  generalize A ^ (5 : Int).toNat = M at hM hM2
  simp only [mod_ok hM, pow_ok (i := 10) (j := 18) 4 (by decide) (by decide) (by decide), w_ok, w_err, w_non, w_bl, w_int, w_str, w_con, w_var, w_tup, w_lst, w_bin, w_neg, w_not, w_and, w_or, w_cmp, w_chain, w_ite, w_call, w_callV, w_bi, w_isi, w_meth, w_ix, w_slc, w_rev, w_lrng, w_lzip, w_fld, t_not, t_and, t_or, t_cmp, t_var, t_call, t_bi, t_isi, t_ix, t_bl, t_chain, s_nil, s_cons, s_star, o_none, o_some, i_e, i_rng, i_zip, ss_nil, ss_cons, st_expr, st_ret, st_retN, st_pass, st_brk, st_cont, st_asg, st_par, st_setIx, st_iff, st_for, st_raise, ts_nil, ts_one, oQ_some, oQ_none, rq_ret, rq_nx, fq_nx, fq_cont, fq_brk, fq_ret, tgB, setAll, wipe, List.getElem?_cons_zero, List.getElem?_cons_succ, List.set_cons_zero, List.set_cons_succ, List.map_cons, List.map_nil, List.length_cons, List.length_nil, List.cons_append, List.nil_append, List.append_nil, List.replicate_succ, List.replicate_zero, Nat.reduceSub, Nat.sub_self, add_int, sub_int, int_int, int_bl, abs_int, max_int, min_int, len_tup, lt_int, le_int, gt_int, ge_int, eq_int, ne_int, eq_bl, ix_tup, at0, at1, at2, ito_tup, seq_tup, truth_bl, truth_tup]
  generalize (10 : Int) ^ (18 : Int).toNat = T
  have hx0 := Int.emod_nonneg a (show M ≠ 0 by omega)
  have hx1 := Int.lt_trans (Int.emod_lt_of_pos a hM) hM2
  generalize a % M = x at hx0 hx1
  have hy : 0 ≤ (if decide (T ≤ a) = true then (1 : Int) else 0) ∧ (if decide (T ≤ a) = true then (1 : Int) else 0) < 2 ^ 1 := by split <;> decide
  generalize (if decide (T ≤ a) = true then (1 : Int) else 0) = y at hy
  have hs0 := Int.emod_nonneg c (show (2305843009213693951 : Int) ≠ 0 by decide)
  have hs1 := Int.emod_lt_of_pos c (show (0 : Int) < 2305843009213693951 by decide)
  simp only [mul_ok 1000 1 ⟨hx0, hx1⟩ hy, mod_ok (show (0 : Int) < 2305843009213693951 by decide), w_ok, w_err, w_non, w_bl, w_int, w_str, w_con, w_var, w_tup, w_lst, w_bin, w_neg, w_not, w_and, w_or, w_cmp, w_chain, w_ite, w_call, w_callV, w_bi, w_isi, w_meth, w_ix, w_slc, w_rev, w_lrng, w_lzip, w_fld, t_not, t_and, t_or, t_cmp, t_var, t_call, t_bi, t_isi, t_ix, t_bl, t_chain, s_nil, s_cons, s_star, o_none, o_some, i_e, i_rng, i_zip, ss_nil, ss_cons, st_expr, st_ret, st_retN, st_pass, st_brk, st_cont, st_asg, st_par, st_setIx, st_iff, st_for, st_raise, ts_nil, ts_one, oQ_some, oQ_none, rq_ret, rq_nx, fq_nx, fq_cont, fq_brk, fq_ret, tgB, setAll, wipe, List.getElem?_cons_zero, List.getElem?_cons_succ, List.set_cons_zero, List.set_cons_succ, List.map_cons, List.map_nil, List.length_cons, List.length_nil, List.cons_append, List.nil_append, List.append_nil, List.replicate_succ, List.replicate_zero, Nat.reduceSub, Nat.sub_self, add_int, sub_int, int_int, int_bl, abs_int, max_int, min_int, len_tup, lt_int, le_int, gt_int, ge_int, eq_int, ne_int, eq_bl, ix_tup, at0, at1, at2, ito_tup, seq_tup, truth_bl, truth_tup]
  generalize c % 2305843009213693951 = z at hs0 hs1
  simp only [mul_ok (j := 60331) 61 16 ⟨hs0, by omega⟩ (by decide), mul_ok (i := 8807) (j := p) 14 2 (by decide) (by omega), w_ok, w_err, w_non, w_bl, w_int, w_str, w_con, w_var, w_tup, w_lst, w_bin, w_neg, w_not, w_and, w_or, w_cmp, w_chain, w_ite, w_call, w_callV, w_bi, w_isi, w_meth, w_ix, w_slc, w_rev, w_lrng, w_lzip, w_fld, t_not, t_and, t_or, t_cmp, t_var, t_call, t_bi, t_isi, t_ix, t_bl, t_chain, s_nil, s_cons, s_star, o_none, o_some, i_e, i_rng, i_zip, ss_nil, ss_cons, st_expr, st_ret, st_retN, st_pass, st_brk, st_cont, st_asg, st_par, st_setIx, st_iff, st_for, st_raise, ts_nil, ts_one, oQ_some, oQ_none, rq_ret, rq_nx, fq_nx, fq_cont, fq_brk, fq_ret, tgB, setAll, wipe, List.getElem?_cons_zero, List.getElem?_cons_succ, List.set_cons_zero, List.set_cons_succ, List.map_cons, List.map_nil, List.length_cons, List.length_nil, List.cons_append, List.nil_append, List.append_nil, List.replicate_succ, List.replicate_zero, Nat.reduceSub, Nat.sub_self, add_int, sub_int, int_int, int_bl, abs_int, max_int, min_int, len_tup, lt_int, le_int, gt_int, ge_int, eq_int, ne_int, eq_bl, ix_tup, at0, at1, at2, ito_tup, seq_tup, truth_bl, truth_tup]
  simp only [mul_ok (i := 8807 * p) (j := p) 16 2 (by omega) (by omega), mod_ok (show (0 : Int) < 2305843009213693921 by decide), w_ok, w_err, w_non, w_bl, w_int, w_str, w_con, w_var, w_tup, w_lst, w_bin, w_neg, w_not, w_and, w_or, w_cmp, w_chain, w_ite, w_call, w_callV, w_bi, w_isi, w_meth, w_ix, w_slc, w_rev, w_lrng, w_lzip, w_fld, t_not, t_and, t_or, t_cmp, t_var, t_call, t_bi, t_isi, t_ix, t_bl, t_chain, s_nil, s_cons, s_star, o_none, o_some, i_e, i_rng, i_zip, ss_nil, ss_cons, st_expr, st_ret, st_retN, st_pass, st_brk, st_cont, st_asg, st_par, st_setIx, st_iff, st_for, st_raise, ts_nil, ts_one, oQ_some, oQ_none, rq_ret, rq_nx, fq_nx, fq_cont, fq_brk, fq_ret, tgB, setAll, wipe, List.getElem?_cons_zero, List.getElem?_cons_succ, List.set_cons_zero, List.set_cons_succ, List.map_cons, List.map_nil, List.length_cons, List.length_nil, List.cons_append, List.nil_append, List.append_nil, List.replicate_succ, List.replicate_zero, Nat.reduceSub, Nat.sub_self, add_int, sub_int, int_int, int_bl, abs_int, max_int, min_int, len_tup, lt_int, le_int, gt_int, ge_int, eq_int, ne_int, eq_bl, ix_tup, at0, at1, at2, ito_tup, seq_tup, truth_bl, truth_tup]
  have hw0 := Int.emod_nonneg (z * 60331 + 8807 * p * p + 409) (show (2305843009213693921 : Int) ≠ 0 by decide)
  have hw1 := Int.emod_lt_of_pos (z * 60331 + 8807 * p * p + 409) (show (0 : Int) < 2305843009213693921 by decide)
  simp only [show (0 + 1 + 1 + 1 ≤ LIM) from by decide, if_true]
  exact ⟨f.trans (Fr.app [] _ _), _, rfl, f.1, _, _, _, get_last, Int.mul_nonneg hx0 hy.1, hw0, by omega, Int.le_refl _, Int.le_refl _⟩
theorem l_pot_ok {n : Nat} {st : Sto} {w : Bool} {ks : List Int} {p : Int} (e : st[0]? = some (.lst w (ks.map .int))) (hp : 0 ≤ p ∧ p < 4) : W (callN P0 (n + 1) "_law_pot" [.ref 0, .int p] st) (fun v s => Fr [] st s ∧ ∃ m, v = .ref m ∧ st.length ≤ m ∧ Pot m 0 s) NE := by
  refine w_def d_l_pot rfl rfl ?_
  obtain ⟨r, hr⟩ : ∃ r, b_l_pot = .cons (.asg (.nm 2) (.ite (.cmp .lt (.var 1) (.bi .len (.cons false (.var 0) .nil))) (.ix (.var 0) (.var 1)) (.bin .add (.bin .add (.bin .mod (.bi .sum (.cons false (.slc (.var 0) .none (.some (.int 1))) .nil)) (.int 1000003)) (.bin .mul (.int 4561) (.var 1))) (.int 587)))) r := ⟨_, rfl⟩
  rw [hr]
  simp only [w_ok, w_err, w_non, w_bl, w_int, w_str, w_con, w_var, w_tup, w_lst, w_bin, w_neg, w_not, w_and, w_or, w_cmp, w_chain, w_ite, w_call, w_callV, w_bi, w_isi, w_meth, w_ix, w_slc, w_rev, w_lrng, w_lzip, w_fld, t_not, t_and, t_or, t_cmp, t_var, t_call, t_bi, t_isi, t_ix, t_bl, t_chain, s_nil, s_cons, s_star, o_none, o_some, i_e, i_rng, i_zip, ss_nil, ss_cons, st_expr, st_ret, st_retN, st_pass, st_brk, st_cont, st_asg, st_par, st_setIx, st_iff, st_for, st_raise, ts_nil, ts_one, oQ_some, oQ_none, rq_ret, rq_nx, fq_nx, fq_cont, fq_brk, fq_ret, tgB, setAll, wipe, List.getElem?_cons_zero, List.getElem?_cons_succ, List.set_cons_zero, List.set_cons_succ, List.map_cons, List.map_nil, List.length_cons, List.length_nil, List.cons_append, List.nil_append, List.append_nil, List.replicate_succ, List.replicate_zero, Nat.reduceSub, Nat.sub_self, add_int, sub_int, int_int, int_bl, abs_int, max_int, min_int, len_tup, lt_int, le_int, gt_int, ge_int, eq_int, ne_int, eq_bl, ix_tup, at0, at1, at2, ito_tup, seq_tup, truth_bl, truth_tup, len_lst e]
  by_cases h : p < ((ks.map D.int).length : Int)
  · have h2 : p.toNat < ks.length := by
      rw [List.length_map] at h
      omega
    have e3 : ixB (.ref 0) (.int p) st = some (.int ks[p.toNat]) := by
      rw [ix_lst e, at_nat hp.1, List.getElem?_map, List.getElem?_eq_getElem h2]
      rfl
    simp only [h, decide_true, e3, w_ok, w_err, w_non, w_bl, w_int, w_str, w_con, w_var, w_tup, w_lst, w_bin, w_neg, w_not, w_and, w_or, w_cmp, w_chain, w_ite, w_call, w_callV, w_bi, w_isi, w_meth, w_ix, w_slc, w_rev, w_lrng, w_lzip, w_fld, t_not, t_and, t_or, t_cmp, t_var, t_call, t_bi, t_isi, t_ix, t_bl, t_chain, s_nil, s_cons, s_star, o_none, o_some, i_e, i_rng, i_zip, ss_nil, ss_cons, st_expr, st_ret, st_retN, st_pass, st_brk, st_cont, st_asg, st_par, st_setIx, st_iff, st_for, st_raise, ts_nil, ts_one, oQ_some, oQ_none, rq_ret, rq_nx, fq_nx, fq_cont, fq_brk, fq_ret, tgB, setAll, wipe, List.getElem?_cons_zero, List.getElem?_cons_succ, List.set_cons_zero, List.set_cons_succ, List.map_cons, List.map_nil, List.length_cons, List.length_nil, List.cons_append, List.nil_append, List.append_nil, List.replicate_succ, List.replicate_zero, Nat.reduceSub, Nat.sub_self, add_int, sub_int, int_int, int_bl, abs_int, max_int, min_int, len_tup, lt_int, le_int, gt_int, ge_int, eq_int, ne_int, eq_bl, ix_tup, at0, at1, at2, ito_tup, seq_tup, truth_bl, truth_tup]
    exact pot_tail hp (Fr.refl _ _) ⟨_, hr⟩
  · simp only [h, decide_false, w_ok, w_err, w_non, w_bl, w_int, w_str, w_con, w_var, w_tup, w_lst, w_bin, w_neg, w_not, w_and, w_or, w_cmp, w_chain, w_ite, w_call, w_callV, w_bi, w_isi, w_meth, w_ix, w_slc, w_rev, w_lrng, w_lzip, w_fld, t_not, t_and, t_or, t_cmp, t_var, t_call, t_bi, t_isi, t_ix, t_bl, t_chain, s_nil, s_cons, s_star, o_none, o_some, i_e, i_rng, i_zip, ss_nil, ss_cons, st_expr, st_ret, st_retN, st_pass, st_brk, st_cont, st_asg, st_par, st_setIx, st_iff, st_for, st_raise, ts_nil, ts_one, oQ_some, oQ_none, rq_ret, rq_nx, fq_nx, fq_cont, fq_brk, fq_ret, tgB, setAll, wipe, List.getElem?_cons_zero, List.getElem?_cons_succ, List.set_cons_zero, List.set_cons_succ, List.map_cons, List.map_nil, List.length_cons, List.length_nil, List.cons_append, List.nil_append, List.append_nil, List.replicate_succ, List.replicate_zero, Nat.reduceSub, Nat.sub_self, add_int, sub_int, int_int, int_bl, abs_int, max_int, min_int, len_tup, lt_int, le_int, gt_int, ge_int, eq_int, ne_int, eq_bl, ix_tup, at0, at1, at2, ito_tup, seq_tup, truth_bl, truth_tup, sum_slc e, sum_lst get_last, mod_ok (show (0 : Int) < 1000003 by decide), mul_ok (i := 4561) (j := p) 13 2 (by decide) (by omega)]
    exact pot_tail hp (Fr.app [] _ _) ⟨_, hr⟩
end K01
end
section
set_option autoImplicit false
set_option linter.all false
set_option maxRecDepth 100000
set_option maxHeartbeats 4000000
namespace K01
open PySem PyI
theorem rngD_nil {a b : Int} (h : b ≤ a) : rngD a b = [] := by
  have e : (b - a).toNat = 0 := by omega
  unfold rngD
  rw [e]
  rfl
theorem rngD_cons {a b : Int} (h : a < b) : rngD a b = .int a :: rngD (a + 1) b := by
  unfold rngD
  have e : (b - a).toNat = (b - (a + 1)).toNat + 1 := by omega
  rw [e, List.range_succ_eq_map, List.map_cons, List.map_map]
  congr 1
  · show D.int (a + ((0 : Nat) : Int)) = _
    rw [Int.natCast_zero, Int.add_zero]
  · apply List.map_congr_left
    intro i _
    show D.int (a + ((i + 1 : Nat) : Int)) = _
    congr 1
    omega
theorem in_ints {st : Sto} {m : Nat} {w : Bool} {ks : List Int} {b : Int} (e : st[m]? = some (.lst w (ks.map .int))) : inD (.int b) (.ref m) st = some (decide (b ∈ ks)) := by
  show (match seqOf (.ref m) st with
    | some ys => if flat (.int b) && ys.all flat then some (ys.any fun z => flatEq z (.int b)) else none
    | none => none) = _
  rw [seqOf_lst e]
  have h1 : (ks.map D.int).all flat = true := by
    rw [List.all_map, List.all_eq_true]
    intro x _
    rfl
  show (if flat (.int b) && (ks.map D.int).all flat then some ((ks.map D.int).any fun z => flatEq z (.int b)) else none) = _
  rw [h1]
  show some ((ks.map D.int).any fun z => flatEq z (.int b)) = _
  rw [List.any_map]
  congr 1
  rw [Bool.eq_iff_iff, List.any_eq_true, decide_eq_true_eq]
  constructor
  · rintro ⟨x, hx, h⟩
    have : x = b := by simpa [flatEq] using h
    rw [← this]
    exact hx
  · intro h
    exact ⟨b, h, by simp [flatEq]⟩
theorem isin_ints {st : Sto} {m : Nat} {w : Bool} {ks : List Int} {b : Int} (e : st[m]? = some (.lst w (ks.map .int))) : cmpB .isin (.int b) (.ref m) st = some (decide (b ∈ ks)) := in_ints e
theorem notin_ints {st : Sto} {m : Nat} {w : Bool} {ks : List Int} {b : Int} (e : st[m]? = some (.lst w (ks.map .int))) : cmpB .notin (.int b) (.ref m) st = some (!decide (b ∈ ks)) := by
  show (inD (.int b) (.ref m) st).map (!·) = _
  rw [in_ints e]
  rfl
def LrI (m : Nat) (ks : List Int) (st : Sto) (rest : List D) (env : PyI.Env) (t : Sto) : Prop :=
  ∃ b v2, ∃ out : Rg, rest = rngD b 256 ∧ 0 ≤ b ∧ b ≤ 256 ∧ env = [some (.ref m), some (.ref st.length), v2] ∧ t[st.length]? = some (.lst true (out.map prD)) ∧ Fr [] st t ∧
    Can 0 out ∧ (∀ p ∈ out, p.2 < b) ∧ ∀ x, Mem x out ↔ 0 ≤ x ∧ x < b ∧ x ∈ ks
theorem l_ranges_ok {n m : Nat} {w : Bool} {st : Sto} {ks : List Int} (e : st[m]? = some (.lst w (ks.map .int))) : W (callN P0 (n + 1) "_law_ranges" [.ref m] st) (fun v s => Fr [] st s ∧ ∃ rs, v = rgD rs ∧ Can 0 rs ∧ ∀ x, Mem x rs ↔ 0 ≤ x ∧ x ≤ 255 ∧ x ∈ ks) NE := by
  refine w_def d_l_ranges rfl rfl ?_
  simp only [b_l_ranges, w_ok, w_err, w_non, w_bl, w_int, w_str, w_con, w_var, w_tup, w_lst, w_bin, w_neg, w_not, w_and, w_or, w_cmp, w_chain, w_ite, w_call, w_callV, w_bi, w_isi, w_meth, w_ix, w_slc, w_rev, w_lrng, w_lzip, w_fld, t_not, t_and, t_or, t_cmp, t_var, t_call, t_bi, t_isi, t_ix, t_bl, t_chain, s_nil, s_cons, s_star, o_none, o_some, i_e, i_rng, i_zip, ss_nil, ss_cons, st_expr, st_ret, st_retN, st_pass, st_brk, st_cont, st_asg, st_par, st_setIx, st_iff, st_for, st_raise, ts_nil, ts_one, oQ_some, oQ_none, rq_ret, rq_nx, fq_nx, fq_cont, fq_brk, fq_ret, tgB, setAll, wipe, List.getElem?_cons_zero, List.getElem?_cons_succ, List.set_cons_zero, List.set_cons_succ, List.map_cons, List.map_nil, List.length_cons, List.length_nil, List.cons_append, List.nil_append, List.append_nil, List.replicate_succ, List.replicate_zero, Nat.reduceSub, Nat.sub_self, add_int, sub_int, int_int, int_bl, abs_int, max_int, min_int, len_tup, lt_int, le_int, gt_int, ge_int, eq_int, ne_int, eq_bl, ix_tup, at0, at1, at2, ito_tup, seq_tup, truth_bl, truth_tup, List.length_nil, Nat.zero_le, if_true, show rngOk 0 256 = true from by decide]
  refine w_loop (ds := rngD 0 256) (LrI m ks st) (by rw [rng_len]; decide) (fun _ _ _ _ => rfl) ⟨0, _, [], rfl, Int.le_refl _, by decide, rfl, get_last, Fr.app _ _ _, trivial, (fun p hp => by cases hp), (fun x => ⟨fun h => absurd h mem_nil, fun h => by omega⟩)⟩ ?_ ?_
  · rintro d0 rest env t ⟨b, v2, out, e1, b0, b1, e3, e5, e6, h1, h2, h3⟩
    subst e3
    have hb : b < 256 := by
      apply Int.not_le.mp
      intro z
      rw [rngD_nil z] at e1
      cases e1
    rw [rngD_cons hb] at e1
    simp only [List.cons.injEq] at e1
    obtain ⟨e1, e2⟩ := e1
    subst e1 e2
    have em := e6.get e
    have hlen : out.length < LIM := by
      have := can_len0 h1
      unfold LIM
      omega
    simp only [w_ok, w_err, w_non, w_bl, w_int, w_str, w_con, w_var, w_tup, w_lst, w_bin, w_neg, w_not, w_and, w_or, w_cmp, w_chain, w_ite, w_call, w_callV, w_bi, w_isi, w_meth, w_ix, w_slc, w_rev, w_lrng, w_lzip, w_fld, t_not, t_and, t_or, t_cmp, t_var, t_call, t_bi, t_isi, t_ix, t_bl, t_chain, s_nil, s_cons, s_star, o_none, o_some, i_e, i_rng, i_zip, ss_nil, ss_cons, st_expr, st_ret, st_retN, st_pass, st_brk, st_cont, st_asg, st_par, st_setIx, st_iff, st_for, st_raise, ts_nil, ts_one, oQ_some, oQ_none, rq_ret, rq_nx, fq_nx, fq_cont, fq_brk, fq_ret, tgB, setAll, wipe, List.getElem?_cons_zero, List.getElem?_cons_succ, List.set_cons_zero, List.set_cons_succ, List.map_cons, List.map_nil, List.length_cons, List.length_nil, List.cons_append, List.nil_append, List.append_nil, List.replicate_succ, List.replicate_zero, Nat.reduceSub, Nat.sub_self, add_int, sub_int, int_int, int_bl, abs_int, max_int, min_int, len_tup, lt_int, le_int, gt_int, ge_int, eq_int, ne_int, eq_bl, ix_tup, at0, at1, at2, ito_tup, seq_tup, truth_bl, truth_tup, isin_ints em]
    by_cases hk : b ∈ ks
    · have dp := dep_rg out
      have nn := ne_nil e5 (pure_rg out) (by omega)
      have e8 := (Fr.app [] t [.lst true []]).get e5
      have f8 := e6.trans (Fr.app [] t [.lst true []])
      simp only [hk, decide_true, w_ok, w_err, w_non, w_bl, w_int, w_str, w_con, w_var, w_tup, w_lst, w_bin, w_neg, w_not, w_and, w_or, w_cmp, w_chain, w_ite, w_call, w_callV, w_bi, w_isi, w_meth, w_ix, w_slc, w_rev, w_lrng, w_lzip, w_fld, t_not, t_and, t_or, t_cmp, t_var, t_call, t_bi, t_isi, t_ix, t_bl, t_chain, s_nil, s_cons, s_star, o_none, o_some, i_e, i_rng, i_zip, ss_nil, ss_cons, st_expr, st_ret, st_retN, st_pass, st_brk, st_cont, st_asg, st_par, st_setIx, st_iff, st_for, st_raise, ts_nil, ts_one, oQ_some, oQ_none, rq_ret, rq_nx, fq_nx, fq_cont, fq_brk, fq_ret, tgB, setAll, wipe, List.getElem?_cons_zero, List.getElem?_cons_succ, List.set_cons_zero, List.set_cons_succ, List.map_cons, List.map_nil, List.length_cons, List.length_nil, List.cons_append, List.nil_append, List.append_nil, List.replicate_succ, List.replicate_zero, Nat.reduceSub, Nat.sub_self, add_int, sub_int, int_int, int_bl, abs_int, max_int, min_int, len_tup, lt_int, le_int, gt_int, ge_int, eq_int, ne_int, eq_bl, ix_tup, at0, at1, at2, ito_tup, seq_tup, truth_bl, truth_tup, List.length_nil, Nat.zero_le, if_true, nn]
      generalize t ++ [Cell.lst true []] = u at e8 f8
      have push : ∀ (u' : Sto), u'[st.length]? = some (.lst true (out.map prD)) → Fr [] st u' → (∀ r ∈ out, r.2 + 1 < b) →
          LrI m ks st (rngD (b + 1) 256) [some (.ref m), some (.ref st.length), some (.int b)] (u'.set st.length (.lst true (out.map prD ++ [prD (b, b)]))) := fun u' z1 z2 z3 => by
        refine ⟨b + 1, _, out ++ [(b, b)], rfl, by omega, by omega, rfl, ?_, z2.set (.inr (Nat.le_refl _)), can_snoc h1 z3 b0 (Int.le_refl _) (by omega), fun r hr => ?_, fun x => ?_⟩
        · rw [rg_snoc]
          exact get_set z1
        · rcases List.mem_append.mp hr with y | y
          · have := h2 r y
            omega
          · rw [List.mem_singleton.mp y]
            show b < b + 1
            omega
        · rw [mem_app, mem_one, h3]
          show _ ∨ (b ≤ x ∧ x ≤ b) ↔ _
          constructor
          · rintro (⟨y1, y2, y3⟩ | y)
            · exact ⟨y1, by omega, y3⟩
            · have : x = b := by omega
              rw [this]
              exact ⟨b0, by omega, hk⟩
          · rintro ⟨y1, y2, y3⟩
            by_cases z : x < b
            · exact .inl ⟨y1, z, y3⟩
            · exact .inr (by omega)
      rcases List.eq_nil_or_concat out with eo | ⟨o2, lst, eo⟩
      · subst eo
        simp only [List.map_nil, List.isEmpty_nil, Bool.not_true, w_ok, w_err, w_non, w_bl, w_int, w_str, w_con, w_var, w_tup, w_lst, w_bin, w_neg, w_not, w_and, w_or, w_cmp, w_chain, w_ite, w_call, w_callV, w_bi, w_isi, w_meth, w_ix, w_slc, w_rev, w_lrng, w_lzip, w_fld, t_not, t_and, t_or, t_cmp, t_var, t_call, t_bi, t_isi, t_ix, t_bl, t_chain, s_nil, s_cons, s_star, o_none, o_some, i_e, i_rng, i_zip, ss_nil, ss_cons, st_expr, st_ret, st_retN, st_pass, st_brk, st_cont, st_asg, st_par, st_setIx, st_iff, st_for, st_raise, ts_nil, ts_one, oQ_some, oQ_none, rq_ret, rq_nx, fq_nx, fq_cont, fq_brk, fq_ret, tgB, setAll, wipe, List.getElem?_cons_zero, List.getElem?_cons_succ, List.set_cons_zero, List.set_cons_succ, List.map_cons, List.map_nil, List.length_cons, List.length_nil, List.cons_append, List.nil_append, List.append_nil, List.replicate_succ, List.replicate_zero, Nat.reduceSub, Nat.sub_self, add_int, sub_int, int_int, int_bl, abs_int, max_int, min_int, len_tup, lt_int, le_int, gt_int, ge_int, eq_int, ne_int, eq_bl, ix_tup, at0, at1, at2, ito_tup, seq_tup, truth_bl, truth_tup, kindB_lst e8, MT.name, if_true, show (0 + 1 + 1 ≤ LIM) from by decide, append_lst e8 (show (0 : Nat) < LIM by decide)]
        exact push u e8 f8 (fun r hr => by cases hr)
      · have eo : out = o2 ++ [lst] := by rw [eo, List.concat_eq_append]
        subst eo
        rw [rg_snoc] at e8
        have ne : ((o2 ++ [lst]).map prD).isEmpty = false := by rw [rg_snoc]; simp
        have il : ixB (.ref st.length) (.int (-1)) u = some (prD lst) := ixL e8 at_last
        have hbf := can_before h1
        have hl2 := h2 lst (by simp)
        simp only [ne, Bool.not_false, w_ok, w_err, w_non, w_bl, w_int, w_str, w_con, w_var, w_tup, w_lst, w_bin, w_neg, w_not, w_and, w_or, w_cmp, w_chain, w_ite, w_call, w_callV, w_bi, w_isi, w_meth, w_ix, w_slc, w_rev, w_lrng, w_lzip, w_fld, t_not, t_and, t_or, t_cmp, t_var, t_call, t_bi, t_isi, t_ix, t_bl, t_chain, s_nil, s_cons, s_star, o_none, o_some, i_e, i_rng, i_zip, ss_nil, ss_cons, st_expr, st_ret, st_retN, st_pass, st_brk, st_cont, st_asg, st_par, st_setIx, st_iff, st_for, st_raise, ts_nil, ts_one, oQ_some, oQ_none, rq_ret, rq_nx, fq_nx, fq_cont, fq_brk, fq_ret, tgB, setAll, wipe, List.getElem?_cons_zero, List.getElem?_cons_succ, List.set_cons_zero, List.set_cons_succ, List.map_cons, List.map_nil, List.length_cons, List.length_nil, List.cons_append, List.nil_append, List.append_nil, List.replicate_succ, List.replicate_zero, Nat.reduceSub, Nat.sub_self, add_int, sub_int, int_int, int_bl, abs_int, max_int, min_int, len_tup, lt_int, le_int, gt_int, ge_int, eq_int, ne_int, eq_bl, ix_tup, at0, at1, at2, ito_tup, seq_tup, truth_bl, truth_tup, il, prD]
        by_cases hg : lst.2 = b - 1
        · simp only [hg, decide_true, show (0 + 1 + 1 ≤ LIM) from by decide, if_true, setL1 e8, w_ok, w_err, w_non, w_bl, w_int, w_str, w_con, w_var, w_tup, w_lst, w_bin, w_neg, w_not, w_and, w_or, w_cmp, w_chain, w_ite, w_call, w_callV, w_bi, w_isi, w_meth, w_ix, w_slc, w_rev, w_lrng, w_lzip, w_fld, t_not, t_and, t_or, t_cmp, t_var, t_call, t_bi, t_isi, t_ix, t_bl, t_chain, s_nil, s_cons, s_star, o_none, o_some, i_e, i_rng, i_zip, ss_nil, ss_cons, st_expr, st_ret, st_retN, st_pass, st_brk, st_cont, st_asg, st_par, st_setIx, st_iff, st_for, st_raise, ts_nil, ts_one, oQ_some, oQ_none, rq_ret, rq_nx, fq_nx, fq_cont, fq_brk, fq_ret, tgB, setAll, wipe, List.getElem?_cons_zero, List.getElem?_cons_succ, List.set_cons_zero, List.set_cons_succ, List.map_cons, List.map_nil, List.length_cons, List.length_nil, List.cons_append, List.nil_append, List.append_nil, List.replicate_succ, List.replicate_zero, Nat.reduceSub, Nat.sub_self, add_int, sub_int, int_int, int_bl, abs_int, max_int, min_int, len_tup, lt_int, le_int, gt_int, ge_int, eq_int, ne_int, eq_bl, ix_tup, at0, at1, at2, ito_tup, seq_tup, truth_bl, truth_tup]
          refine ⟨b + 1, _, o2 ++ [(lst.1, b)], rfl, by omega, by omega, rfl, ?_, f8.set (.inr (Nat.le_refl _)), can_last h1 (by omega) (by omega), fun r hr => ?_, fun x => ?_⟩
          · rw [rg_snoc]
            exact get_set e8
          · rcases List.mem_append.mp hr with y | y
            · have := h2 r (List.mem_append_left _ y)
              omega
            · rw [List.mem_singleton.mp y]
              show b < b + 1
              omega
          · have z := h3 x
            rw [mem_app, mem_one] at z
            rw [mem_app, mem_one]
            show Mem x o2 ∨ (lst.1 ≤ x ∧ x ≤ b) ↔ _
            constructor
            · rintro (y | y)
              · obtain ⟨y1, y2, y3⟩ := z.mp (.inl y)
                exact ⟨y1, by omega, y3⟩
              · by_cases hx : x = b
                · rw [hx]
                  exact ⟨b0, by omega, hk⟩
                · obtain ⟨y1, y2, y3⟩ := z.mp (.inr (by omega))
                  exact ⟨y1, by omega, y3⟩
            · rintro ⟨y1, y2, y3⟩
              by_cases hx : x < b
              · rcases z.mpr ⟨y1, hx, y3⟩ with y | y
                · exact .inl y
                · exact .inr (by omega)
              · have := hbf.2.2.1
                exact .inr (by omega)
        · rw [rg_snoc] at push
          simp only [hg, decide_false, kindB_lst e8, MT.name, show (0 + 1 + 1 ≤ LIM) from by decide, if_true, append_lst e8 (show (o2.map prD ++ [prD lst]).length < LIM by rw [← rg_snoc, List.length_map]; exact hlen), w_ok, w_err, w_non, w_bl, w_int, w_str, w_con, w_var, w_tup, w_lst, w_bin, w_neg, w_not, w_and, w_or, w_cmp, w_chain, w_ite, w_call, w_callV, w_bi, w_isi, w_meth, w_ix, w_slc, w_rev, w_lrng, w_lzip, w_fld, t_not, t_and, t_or, t_cmp, t_var, t_call, t_bi, t_isi, t_ix, t_bl, t_chain, s_nil, s_cons, s_star, o_none, o_some, i_e, i_rng, i_zip, ss_nil, ss_cons, st_expr, st_ret, st_retN, st_pass, st_brk, st_cont, st_asg, st_par, st_setIx, st_iff, st_for, st_raise, ts_nil, ts_one, oQ_some, oQ_none, rq_ret, rq_nx, fq_nx, fq_cont, fq_brk, fq_ret, tgB, setAll, wipe, List.getElem?_cons_zero, List.getElem?_cons_succ, List.set_cons_zero, List.set_cons_succ, List.map_cons, List.map_nil, List.length_cons, List.length_nil, List.cons_append, List.nil_append, List.append_nil, List.replicate_succ, List.replicate_zero, Nat.reduceSub, Nat.sub_self, add_int, sub_int, int_int, int_bl, abs_int, max_int, min_int, len_tup, lt_int, le_int, gt_int, ge_int, eq_int, ne_int, eq_bl, ix_tup, at0, at1, at2, ito_tup, seq_tup, truth_bl, truth_tup]
          refine push u e8 f8 fun r hr => ?_
          rcases List.mem_append.mp hr with y | y
          · have := hbf.1 r y
            have := hbf.2.2.1
            omega
          · rw [List.mem_singleton.mp y]
            omega
    · simp only [hk, decide_false, w_ok, w_err, w_non, w_bl, w_int, w_str, w_con, w_var, w_tup, w_lst, w_bin, w_neg, w_not, w_and, w_or, w_cmp, w_chain, w_ite, w_call, w_callV, w_bi, w_isi, w_meth, w_ix, w_slc, w_rev, w_lrng, w_lzip, w_fld, t_not, t_and, t_or, t_cmp, t_var, t_call, t_bi, t_isi, t_ix, t_bl, t_chain, s_nil, s_cons, s_star, o_none, o_some, i_e, i_rng, i_zip, ss_nil, ss_cons, st_expr, st_ret, st_retN, st_pass, st_brk, st_cont, st_asg, st_par, st_setIx, st_iff, st_for, st_raise, ts_nil, ts_one, oQ_some, oQ_none, rq_ret, rq_nx, fq_nx, fq_cont, fq_brk, fq_ret, tgB, setAll, wipe, List.getElem?_cons_zero, List.getElem?_cons_succ, List.set_cons_zero, List.set_cons_succ, List.map_cons, List.map_nil, List.length_cons, List.length_nil, List.cons_append, List.nil_append, List.append_nil, List.replicate_succ, List.replicate_zero, Nat.reduceSub, Nat.sub_self, add_int, sub_int, int_int, int_bl, abs_int, max_int, min_int, len_tup, lt_int, le_int, gt_int, ge_int, eq_int, ne_int, eq_bl, ix_tup, at0, at1, at2, ito_tup, seq_tup, truth_bl, truth_tup]
      refine ⟨b + 1, _, out, rfl, by omega, by omega, rfl, e5, e6, h1, fun r hr => ?_, fun x => ?_⟩
      · have := h2 r hr
        omega
      · rw [h3]
        constructor
        · rintro ⟨y1, y2, y3⟩
          exact ⟨y1, by omega, y3⟩
        · rintro ⟨y1, y2, y3⟩
          have : x ≠ b := fun z => hk (z ▸ y3)
          exact ⟨y1, by omega, y3⟩
  · rintro env t ⟨b, v2, out, e1, b0, b1, e3, e5, e6, h1, h2, h3⟩
    subst e3
    have hb : b = 256 := by
      apply Int.le_antisymm b1
      apply Int.not_lt.mp
      intro z
      rw [rngD_cons z] at e1
      cases e1
    subst hb
    simp only [w_ok, w_err, w_non, w_bl, w_int, w_str, w_con, w_var, w_tup, w_lst, w_bin, w_neg, w_not, w_and, w_or, w_cmp, w_chain, w_ite, w_call, w_callV, w_bi, w_isi, w_meth, w_ix, w_slc, w_rev, w_lrng, w_lzip, w_fld, t_not, t_and, t_or, t_cmp, t_var, t_call, t_bi, t_isi, t_ix, t_bl, t_chain, s_nil, s_cons, s_star, o_none, o_some, i_e, i_rng, i_zip, ss_nil, ss_cons, st_expr, st_ret, st_retN, st_pass, st_brk, st_cont, st_asg, st_par, st_setIx, st_iff, st_for, st_raise, ts_nil, ts_one, oQ_some, oQ_none, rq_ret, rq_nx, fq_nx, fq_cont, fq_brk, fq_ret, tgB, setAll, wipe, List.getElem?_cons_zero, List.getElem?_cons_succ, List.set_cons_zero, List.set_cons_succ, List.map_cons, List.map_nil, List.length_cons, List.length_nil, List.cons_append, List.nil_append, List.append_nil, List.replicate_succ, List.replicate_zero, Nat.reduceSub, Nat.sub_self, add_int, sub_int, int_int, int_bl, abs_int, max_int, min_int, len_tup, lt_int, le_int, gt_int, ge_int, eq_int, ne_int, eq_bl, ix_tup, at0, at1, at2, ito_tup, seq_tup, truth_bl, truth_tup, evB_tuple e5]
    refine ⟨e6, out, rfl, h1, fun x => ?_⟩
    rw [h3]
    constructor
    · rintro ⟨y1, y2, y3⟩
      exact ⟨y1, by omega, y3⟩
    · rintro ⟨y1, y2, y3⟩
      exact ⟨y1, by omega, y3⟩
/-! ### the law's own is_set -/
def ownPair (d : D) : Bool := match d with
  | .tup [.int i, .int j] => decide (0 ≤ i) && decide (i ≤ 255) && (decide (0 ≤ j) && decide (j ≤ 255)) && decide (i ≤ j)
  | _ => false
theorem ownPair_eq (d : D) : ownPair d = okPair d := by
  unfold ownPair okPair
  split
  · rename_i i j
    show _ = (intIn (.int i) 0 255 && intIn (.int j) i 255)
    rw [Bool.eq_iff_iff]
    simp only [intIn, Bool.and_eq_true, decide_eq_true_eq]
    omega
  · rename_i h
    split
    · rename_i a b
      split
      · rename_i i
        cases b with
        | int j => exact absurd rfl (h i j)
        | _ => simp [intIn]
      · rfl
    · rfl
theorem zip_slc {xs : List D} {st : Sto} : slcB (.tup xs) (some 1) none st = some (.tup (xs.drop 1), st) := by
  show some (D.tup (cut xs (some 1) none), st) = _
  rw [cut1]
theorem l_is_set_ok {n : Nat} {st : Sto} {d : D} (h : Kn 2 d st) (hl : ∀ xs, d = .tup xs → xs.length < LIM) (hl2 : ∀ xs, d = .tup xs → ∀ ys, .tup ys ∈ xs → ys.length < LIM) : W (callN P0 (n + 2) "_law_is_set" [d] st) (fun v s => Fr [] st s ∧ v = .bl (isSet d)) NE := by
  refine w_def d_l_is_set rfl rfl ?_
  simp only [b_l_is_set, w_ok, w_err, w_non, w_bl, w_int, w_str, w_con, w_var, w_tup, w_lst, w_bin, w_neg, w_not, w_and, w_or, w_cmp, w_chain, w_ite, w_call, w_callV, w_bi, w_isi, w_meth, w_ix, w_slc, w_rev, w_lrng, w_lzip, w_fld, t_not, t_and, t_or, t_cmp, t_var, t_call, t_bi, t_isi, t_ix, t_bl, t_chain, s_nil, s_cons, s_star, o_none, o_some, i_e, i_rng, i_zip, ss_nil, ss_cons, st_expr, st_ret, st_retN, st_pass, st_brk, st_cont, st_asg, st_par, st_setIx, st_iff, st_for, st_raise, ts_nil, ts_one, oQ_some, oQ_none, rq_ret, rq_nx, fq_nx, fq_cont, fq_brk, fq_ret, tgB, setAll, wipe, List.getElem?_cons_zero, List.getElem?_cons_succ, List.set_cons_zero, List.set_cons_succ, List.map_cons, List.map_nil, List.length_cons, List.length_nil, List.cons_append, List.nil_append, List.append_nil, List.replicate_succ, List.replicate_zero, Nat.reduceSub, Nat.sub_self, isi_tuple h.1]
  cases hk : h.1 with
  | tup xs =>
    simp only [isTup, truth_bl, oQ_some, Bool.not_true, w_ok, w_err, w_non, w_bl, w_int, w_str, w_con, w_var, w_tup, w_lst, w_bin, w_neg, w_not, w_and, w_or, w_cmp, w_chain, w_ite, w_call, w_callV, w_bi, w_isi, w_meth, w_ix, w_slc, w_rev, w_lrng, w_lzip, w_fld, t_not, t_and, t_or, t_cmp, t_var, t_call, t_bi, t_isi, t_ix, t_bl, t_chain, s_nil, s_cons, s_star, o_none, o_some, i_e, i_rng, i_zip, ss_nil, ss_cons, st_expr, st_ret, st_retN, st_pass, st_brk, st_cont, st_asg, st_par, st_setIx, st_iff, st_for, st_raise, ts_nil, ts_one, oQ_some, oQ_none, rq_ret, rq_nx, fq_nx, fq_cont, fq_brk, fq_ret, tgB, setAll, wipe, List.getElem?_cons_zero, List.getElem?_cons_succ, List.set_cons_zero, List.set_cons_succ, List.map_cons, List.map_nil, List.length_cons, List.length_nil, List.cons_append, List.nil_append, List.append_nil, List.replicate_succ, List.replicate_zero, Nat.reduceSub, Nat.sub_self, add_int, sub_int, int_int, int_bl, abs_int, max_int, min_int, len_tup, lt_int, le_int, gt_int, ge_int, eq_int, ne_int, eq_bl, ix_tup, at0, at1, at2, ito_tup, seq_tup, truth_bl, truth_tup]
    refine w_loop (ds := xs) (fun rest env t => ∃ pre v1 v2 v3, xs = pre ++ rest ∧ pre.all okPair = true ∧ env = [some (.tup xs), v1, v2, v3] ∧ Fr [] st t) (lim_fuel (hl xs rfl)) (fun _ _ _ _ => rfl) ⟨[], _, _, _, rfl, rfl, rfl, Fr.refl _ _⟩ ?_ ?_
    · rintro d0 rest env t ⟨pre, v1, v2, v3, e1, e2, e3, f⟩
      subst e3
      have hd : d0 ∈ xs := by rw [e1]; simp
      have kn := (h.2 xs rfl d0 hd).fr f
      have bad : okPair d0 = false → isSet (.tup xs) = false := fun z => by
        have : xs.all okPair = false := by
          rw [Bool.eq_false_iff]
          intro y
          rw [List.all_eq_true.mp y d0 hd] at z
          cases z
        simp [isSet, this]
      simp only [w_ok, w_err, w_non, w_bl, w_int, w_str, w_con, w_var, w_tup, w_lst, w_bin, w_neg, w_not, w_and, w_or, w_cmp, w_chain, w_ite, w_call, w_callV, w_bi, w_isi, w_meth, w_ix, w_slc, w_rev, w_lrng, w_lzip, w_fld, t_not, t_and, t_or, t_cmp, t_var, t_call, t_bi, t_isi, t_ix, t_bl, t_chain, s_nil, s_cons, s_star, o_none, o_some, i_e, i_rng, i_zip, ss_nil, ss_cons, st_expr, st_ret, st_retN, st_pass, st_brk, st_cont, st_asg, st_par, st_setIx, st_iff, st_for, st_raise, ts_nil, ts_one, oQ_some, oQ_none, rq_ret, rq_nx, fq_nx, fq_cont, fq_brk, fq_ret, tgB, setAll, wipe, List.getElem?_cons_zero, List.getElem?_cons_succ, List.set_cons_zero, List.set_cons_succ, List.map_cons, List.map_nil, List.length_cons, List.length_nil, List.cons_append, List.nil_append, List.append_nil, List.replicate_succ, List.replicate_zero, Nat.reduceSub, Nat.sub_self, add_int, sub_int, int_int, int_bl, abs_int, max_int, min_int, len_tup, lt_int, le_int, gt_int, ge_int, eq_int, ne_int, eq_bl, ix_tup, at0, at1, at2, ito_tup, seq_tup, truth_bl, truth_tup, isi_tuple kn.kd]
      cases hk2 : kn.kd with
      | tup ys =>
        simp only [isTup, Bool.not_true, w_ok, w_err, w_non, w_bl, w_int, w_str, w_con, w_var, w_tup, w_lst, w_bin, w_neg, w_not, w_and, w_or, w_cmp, w_chain, w_ite, w_call, w_callV, w_bi, w_isi, w_meth, w_ix, w_slc, w_rev, w_lrng, w_lzip, w_fld, t_not, t_and, t_or, t_cmp, t_var, t_call, t_bi, t_isi, t_ix, t_bl, t_chain, s_nil, s_cons, s_star, o_none, o_some, i_e, i_rng, i_zip, ss_nil, ss_cons, st_expr, st_ret, st_retN, st_pass, st_brk, st_cont, st_asg, st_par, st_setIx, st_iff, st_for, st_raise, ts_nil, ts_one, oQ_some, oQ_none, rq_ret, rq_nx, fq_nx, fq_cont, fq_brk, fq_ret, tgB, setAll, wipe, List.getElem?_cons_zero, List.getElem?_cons_succ, List.set_cons_zero, List.set_cons_succ, List.map_cons, List.map_nil, List.length_cons, List.length_nil, List.cons_append, List.nil_append, List.append_nil, List.replicate_succ, List.replicate_zero, Nat.reduceSub, Nat.sub_self, add_int, sub_int, int_int, int_bl, abs_int, max_int, min_int, len_tup, lt_int, le_int, gt_int, ge_int, eq_int, ne_int, eq_bl, ix_tup, at0, at1, at2, ito_tup, seq_tup, truth_bl, truth_tup]
        by_cases h2 : (ys.length : Int) = 2
        · simp only [h2, decide_true, Bool.not_true, w_ok, w_err, w_non, w_bl, w_int, w_str, w_con, w_var, w_tup, w_lst, w_bin, w_neg, w_not, w_and, w_or, w_cmp, w_chain, w_ite, w_call, w_callV, w_bi, w_isi, w_meth, w_ix, w_slc, w_rev, w_lrng, w_lzip, w_fld, t_not, t_and, t_or, t_cmp, t_var, t_call, t_bi, t_isi, t_ix, t_bl, t_chain, s_nil, s_cons, s_star, o_none, o_some, i_e, i_rng, i_zip, ss_nil, ss_cons, st_expr, st_ret, st_retN, st_pass, st_brk, st_cont, st_asg, st_par, st_setIx, st_iff, st_for, st_raise, ts_nil, ts_one, oQ_some, oQ_none, rq_ret, rq_nx, fq_nx, fq_cont, fq_brk, fq_ret, tgB, setAll, wipe, List.getElem?_cons_zero, List.getElem?_cons_succ, List.set_cons_zero, List.set_cons_succ, List.map_cons, List.map_nil, List.length_cons, List.length_nil, List.cons_append, List.nil_append, List.append_nil, List.replicate_succ, List.replicate_zero, Nat.reduceSub, Nat.sub_self, add_int, sub_int, int_int, int_bl, abs_int, max_int, min_int, len_tup, lt_int, le_int, gt_int, ge_int, eq_int, ne_int, eq_bl, ix_tup, at0, at1, at2, ito_tup, seq_tup, truth_bl, truth_tup]
          rw [w_lc rfl]
          simp only [w_ok, w_err, w_non, w_bl, w_int, w_str, w_con, w_var, w_tup, w_lst, w_bin, w_neg, w_not, w_and, w_or, w_cmp, w_chain, w_ite, w_call, w_callV, w_bi, w_isi, w_meth, w_ix, w_slc, w_rev, w_lrng, w_lzip, w_fld, t_not, t_and, t_or, t_cmp, t_var, t_call, t_bi, t_isi, t_ix, t_bl, t_chain, s_nil, s_cons, s_star, o_none, o_some, i_e, i_rng, i_zip, ss_nil, ss_cons, st_expr, st_ret, st_retN, st_pass, st_brk, st_cont, st_asg, st_par, st_setIx, st_iff, st_for, st_raise, ts_nil, ts_one, oQ_some, oQ_none, rq_ret, rq_nx, fq_nx, fq_cont, fq_brk, fq_ret, tgB, setAll, wipe, List.getElem?_cons_zero, List.getElem?_cons_succ, List.set_cons_zero, List.set_cons_succ, List.map_cons, List.map_nil, List.length_cons, List.length_nil, List.cons_append, List.nil_append, List.append_nil, List.replicate_succ, List.replicate_zero, Nat.reduceSub, Nat.sub_self, add_int, sub_int, int_int, int_bl, abs_int, max_int, min_int, len_tup, lt_int, le_int, gt_int, ge_int, eq_int, ne_int, eq_bl, ix_tup, at0, at1, at2, ito_tup, seq_tup, truth_bl, truth_tup]
          refine lc_map (ds := ys) (fun d => .bl (intIn d 0 255)) rfl (hl2 xs rfl ys hd) (fun d hd3 s fr => ?_) fun s fr e => ?_
          · simp only [w_ok, w_err, w_non, w_bl, w_int, w_str, w_con, w_var, w_tup, w_lst, w_bin, w_neg, w_not, w_and, w_or, w_cmp, w_chain, w_ite, w_call, w_callV, w_bi, w_isi, w_meth, w_ix, w_slc, w_rev, w_lrng, w_lzip, w_fld, t_not, t_and, t_or, t_cmp, t_var, t_call, t_bi, t_isi, t_ix, t_bl, t_chain, s_nil, s_cons, s_star, o_none, o_some, i_e, i_rng, i_zip, ss_nil, ss_cons, st_expr, st_ret, st_retN, st_pass, st_brk, st_cont, st_asg, st_par, st_setIx, st_iff, st_for, st_raise, ts_nil, ts_one, oQ_some, oQ_none, rq_ret, rq_nx, fq_nx, fq_cont, fq_brk, fq_ret, tgB, setAll, wipe, List.getElem?_cons_zero, List.getElem?_cons_succ, List.set_cons_zero, List.set_cons_succ, List.map_cons, List.map_nil, List.length_cons, List.length_nil, List.cons_append, List.nil_append, List.append_nil, List.replicate_succ, List.replicate_zero, Nat.reduceSub, Nat.sub_self, add_int, sub_int, int_int, int_bl, abs_int, max_int, min_int, len_tup, lt_int, le_int, gt_int, ge_int, eq_int, ne_int, eq_bl, ix_tup, at0, at1, at2, ito_tup, seq_tup, truth_bl, truth_tup]
            refine (l_is_int_ok (n := n) ((kn.2 ys rfl d hd3).kd.fr fr)).imp fun v u ⟨e3, e4⟩ => ?_
            subst e3 e4
            exact ⟨Fr.refl _ _, rfl⟩
          · simp only [evB_all e, w_ok, w_err, w_non, w_bl, w_int, w_str, w_con, w_var, w_tup, w_lst, w_bin, w_neg, w_not, w_and, w_or, w_cmp, w_chain, w_ite, w_call, w_callV, w_bi, w_isi, w_meth, w_ix, w_slc, w_rev, w_lrng, w_lzip, w_fld, t_not, t_and, t_or, t_cmp, t_var, t_call, t_bi, t_isi, t_ix, t_bl, t_chain, s_nil, s_cons, s_star, o_none, o_some, i_e, i_rng, i_zip, ss_nil, ss_cons, st_expr, st_ret, st_retN, st_pass, st_brk, st_cont, st_asg, st_par, st_setIx, st_iff, st_for, st_raise, ts_nil, ts_one, oQ_some, oQ_none, rq_ret, rq_nx, fq_nx, fq_cont, fq_brk, fq_ret, tgB, setAll, wipe, List.getElem?_cons_zero, List.getElem?_cons_succ, List.set_cons_zero, List.set_cons_succ, List.map_cons, List.map_nil, List.length_cons, List.length_nil, List.cons_append, List.nil_append, List.append_nil, List.replicate_succ, List.replicate_zero, Nat.reduceSub, Nat.sub_self, add_int, sub_int, int_int, int_bl, abs_int, max_int, min_int, len_tup, lt_int, le_int, gt_int, ge_int, eq_int, ne_int, eq_bl, ix_tup, at0, at1, at2, ito_tup, seq_tup, truth_bl, truth_tup]
            obtain ⟨a, b, ey⟩ : ∃ a b, ys = [a, b] := by
              match ys, h2 with
              | [a, b], _ => exact ⟨a, b, rfl⟩
              | [], h2 => simp at h2
              | [a], h2 => simp at h2
              | a :: b :: c :: r, h2 => simp at h2; omega
            subst ey
            simp only [List.all_cons, List.all_nil, Bool.and_true]
            cases ha : intIn a 0 255 with
            | false =>
              simp only [Bool.false_and, Bool.not_false, w_ok, w_err, w_non, w_bl, w_int, w_str, w_con, w_var, w_tup, w_lst, w_bin, w_neg, w_not, w_and, w_or, w_cmp, w_chain, w_ite, w_call, w_callV, w_bi, w_isi, w_meth, w_ix, w_slc, w_rev, w_lrng, w_lzip, w_fld, t_not, t_and, t_or, t_cmp, t_var, t_call, t_bi, t_isi, t_ix, t_bl, t_chain, s_nil, s_cons, s_star, o_none, o_some, i_e, i_rng, i_zip, ss_nil, ss_cons, st_expr, st_ret, st_retN, st_pass, st_brk, st_cont, st_asg, st_par, st_setIx, st_iff, st_for, st_raise, ts_nil, ts_one, oQ_some, oQ_none, rq_ret, rq_nx, fq_nx, fq_cont, fq_brk, fq_ret, tgB, setAll, wipe, List.getElem?_cons_zero, List.getElem?_cons_succ, List.set_cons_zero, List.set_cons_succ, List.map_cons, List.map_nil, List.length_cons, List.length_nil, List.cons_append, List.nil_append, List.append_nil, List.replicate_succ, List.replicate_zero, Nat.reduceSub, Nat.sub_self, add_int, sub_int, int_int, int_bl, abs_int, max_int, min_int, len_tup, lt_int, le_int, gt_int, ge_int, eq_int, ne_int, eq_bl, ix_tup, at0, at1, at2, ito_tup, seq_tup, truth_bl, truth_tup]
              refine ⟨f.trans fr, ?_⟩
              rw [bad]
              rw [← ownPair_eq]
              unfold ownPair
              split
              · rename_i i j z
                cases z
                simp only [intIn] at ha
                simp [ha]
              · rfl
            | true =>
              cases hb : intIn b 0 255 with
              | false =>
                simp only [Bool.and_false, Bool.not_false, w_ok, w_err, w_non, w_bl, w_int, w_str, w_con, w_var, w_tup, w_lst, w_bin, w_neg, w_not, w_and, w_or, w_cmp, w_chain, w_ite, w_call, w_callV, w_bi, w_isi, w_meth, w_ix, w_slc, w_rev, w_lrng, w_lzip, w_fld, t_not, t_and, t_or, t_cmp, t_var, t_call, t_bi, t_isi, t_ix, t_bl, t_chain, s_nil, s_cons, s_star, o_none, o_some, i_e, i_rng, i_zip, ss_nil, ss_cons, st_expr, st_ret, st_retN, st_pass, st_brk, st_cont, st_asg, st_par, st_setIx, st_iff, st_for, st_raise, ts_nil, ts_one, oQ_some, oQ_none, rq_ret, rq_nx, fq_nx, fq_cont, fq_brk, fq_ret, tgB, setAll, wipe, List.getElem?_cons_zero, List.getElem?_cons_succ, List.set_cons_zero, List.set_cons_succ, List.map_cons, List.map_nil, List.length_cons, List.length_nil, List.cons_append, List.nil_append, List.append_nil, List.replicate_succ, List.replicate_zero, Nat.reduceSub, Nat.sub_self, add_int, sub_int, int_int, int_bl, abs_int, max_int, min_int, len_tup, lt_int, le_int, gt_int, ge_int, eq_int, ne_int, eq_bl, ix_tup, at0, at1, at2, ito_tup, seq_tup, truth_bl, truth_tup]
                refine ⟨f.trans fr, ?_⟩
                rw [bad]
                rw [← ownPair_eq]
                unfold ownPair
                split
                · rename_i i j z
                  cases z
                  simp only [intIn] at hb
                  simp [hb]
                · rfl
              | true =>
                obtain ⟨i, ei⟩ : ∃ i, a = .int i := by
                  cases a with
                  | int i => exact ⟨i, rfl⟩
                  | _ => cases ha
                obtain ⟨j, ej⟩ : ∃ j, b = .int j := by
                  cases b with
                  | int j => exact ⟨j, rfl⟩
                  | _ => cases hb
                subst ei ej
                have eo : okPair (.tup [.int i, .int j]) = decide (i ≤ j) := by
                  rw [← ownPair_eq]
                  simp only [intIn] at ha hb
                  show (decide (0 ≤ i) && decide (i ≤ 255) && (decide (0 ≤ j) && decide (j ≤ 255)) && decide (i ≤ j)) = _
                  rw [ha, hb]
                  rfl
                simp only [Bool.and_self, Bool.not_true, w_ok, w_err, w_non, w_bl, w_int, w_str, w_con, w_var, w_tup, w_lst, w_bin, w_neg, w_not, w_and, w_or, w_cmp, w_chain, w_ite, w_call, w_callV, w_bi, w_isi, w_meth, w_ix, w_slc, w_rev, w_lrng, w_lzip, w_fld, t_not, t_and, t_or, t_cmp, t_var, t_call, t_bi, t_isi, t_ix, t_bl, t_chain, s_nil, s_cons, s_star, o_none, o_some, i_e, i_rng, i_zip, ss_nil, ss_cons, st_expr, st_ret, st_retN, st_pass, st_brk, st_cont, st_asg, st_par, st_setIx, st_iff, st_for, st_raise, ts_nil, ts_one, oQ_some, oQ_none, rq_ret, rq_nx, fq_nx, fq_cont, fq_brk, fq_ret, tgB, setAll, wipe, List.getElem?_cons_zero, List.getElem?_cons_succ, List.set_cons_zero, List.set_cons_succ, List.map_cons, List.map_nil, List.length_cons, List.length_nil, List.cons_append, List.nil_append, List.append_nil, List.replicate_succ, List.replicate_zero, Nat.reduceSub, Nat.sub_self, add_int, sub_int, int_int, int_bl, abs_int, max_int, min_int, len_tup, lt_int, le_int, gt_int, ge_int, eq_int, ne_int, eq_bl, ix_tup, at0, at1, at2, ito_tup, seq_tup, truth_bl, truth_tup]
                by_cases hg : j < i
                · simp only [hg, decide_true, w_ok, w_err, w_non, w_bl, w_int, w_str, w_con, w_var, w_tup, w_lst, w_bin, w_neg, w_not, w_and, w_or, w_cmp, w_chain, w_ite, w_call, w_callV, w_bi, w_isi, w_meth, w_ix, w_slc, w_rev, w_lrng, w_lzip, w_fld, t_not, t_and, t_or, t_cmp, t_var, t_call, t_bi, t_isi, t_ix, t_bl, t_chain, s_nil, s_cons, s_star, o_none, o_some, i_e, i_rng, i_zip, ss_nil, ss_cons, st_expr, st_ret, st_retN, st_pass, st_brk, st_cont, st_asg, st_par, st_setIx, st_iff, st_for, st_raise, ts_nil, ts_one, oQ_some, oQ_none, rq_ret, rq_nx, fq_nx, fq_cont, fq_brk, fq_ret, tgB, setAll, wipe, List.getElem?_cons_zero, List.getElem?_cons_succ, List.set_cons_zero, List.set_cons_succ, List.map_cons, List.map_nil, List.length_cons, List.length_nil, List.cons_append, List.nil_append, List.append_nil, List.replicate_succ, List.replicate_zero, Nat.reduceSub, Nat.sub_self, add_int, sub_int, int_int, int_bl, abs_int, max_int, min_int, len_tup, lt_int, le_int, gt_int, ge_int, eq_int, ne_int, eq_bl, ix_tup, at0, at1, at2, ito_tup, seq_tup, truth_bl, truth_tup]
                  refine ⟨f.trans fr, ?_⟩
                  rw [bad]
                  rw [eo]
                  simp
                  omega
                · simp only [hg, decide_false, w_ok, w_err, w_non, w_bl, w_int, w_str, w_con, w_var, w_tup, w_lst, w_bin, w_neg, w_not, w_and, w_or, w_cmp, w_chain, w_ite, w_call, w_callV, w_bi, w_isi, w_meth, w_ix, w_slc, w_rev, w_lrng, w_lzip, w_fld, t_not, t_and, t_or, t_cmp, t_var, t_call, t_bi, t_isi, t_ix, t_bl, t_chain, s_nil, s_cons, s_star, o_none, o_some, i_e, i_rng, i_zip, ss_nil, ss_cons, st_expr, st_ret, st_retN, st_pass, st_brk, st_cont, st_asg, st_par, st_setIx, st_iff, st_for, st_raise, ts_nil, ts_one, oQ_some, oQ_none, rq_ret, rq_nx, fq_nx, fq_cont, fq_brk, fq_ret, tgB, setAll, wipe, List.getElem?_cons_zero, List.getElem?_cons_succ, List.set_cons_zero, List.set_cons_succ, List.map_cons, List.map_nil, List.length_cons, List.length_nil, List.cons_append, List.nil_append, List.append_nil, List.replicate_succ, List.replicate_zero, Nat.reduceSub, Nat.sub_self, add_int, sub_int, int_int, int_bl, abs_int, max_int, min_int, len_tup, lt_int, le_int, gt_int, ge_int, eq_int, ne_int, eq_bl, ix_tup, at0, at1, at2, ito_tup, seq_tup, truth_bl, truth_tup]
                  refine ⟨pre ++ [.tup [.int i, .int j]], _, _, _, by rw [e1]; simp, ?_, rfl, f.trans fr⟩
                  rw [List.all_append, e2, List.all_cons, eo]
                  simp
                  omega
        · simp only [h2, decide_false, Bool.not_false, w_ok, w_err, w_non, w_bl, w_int, w_str, w_con, w_var, w_tup, w_lst, w_bin, w_neg, w_not, w_and, w_or, w_cmp, w_chain, w_ite, w_call, w_callV, w_bi, w_isi, w_meth, w_ix, w_slc, w_rev, w_lrng, w_lzip, w_fld, t_not, t_and, t_or, t_cmp, t_var, t_call, t_bi, t_isi, t_ix, t_bl, t_chain, s_nil, s_cons, s_star, o_none, o_some, i_e, i_rng, i_zip, ss_nil, ss_cons, st_expr, st_ret, st_retN, st_pass, st_brk, st_cont, st_asg, st_par, st_setIx, st_iff, st_for, st_raise, ts_nil, ts_one, oQ_some, oQ_none, rq_ret, rq_nx, fq_nx, fq_cont, fq_brk, fq_ret, tgB, setAll, wipe, List.getElem?_cons_zero, List.getElem?_cons_succ, List.set_cons_zero, List.set_cons_succ, List.map_cons, List.map_nil, List.length_cons, List.length_nil, List.cons_append, List.nil_append, List.append_nil, List.replicate_succ, List.replicate_zero, Nat.reduceSub, Nat.sub_self, add_int, sub_int, int_int, int_bl, abs_int, max_int, min_int, len_tup, lt_int, le_int, gt_int, ge_int, eq_int, ne_int, eq_bl, ix_tup, at0, at1, at2, ito_tup, seq_tup, truth_bl, truth_tup]
          refine ⟨f, ?_⟩
          rw [bad]
          unfold okPair
          split
          · rename_i z
            cases z
            simp at h2
          · rfl
      | _ =>
        simp only [isTup, Bool.not_false, w_ok, w_err, w_non, w_bl, w_int, w_str, w_con, w_var, w_tup, w_lst, w_bin, w_neg, w_not, w_and, w_or, w_cmp, w_chain, w_ite, w_call, w_callV, w_bi, w_isi, w_meth, w_ix, w_slc, w_rev, w_lrng, w_lzip, w_fld, t_not, t_and, t_or, t_cmp, t_var, t_call, t_bi, t_isi, t_ix, t_bl, t_chain, s_nil, s_cons, s_star, o_none, o_some, i_e, i_rng, i_zip, ss_nil, ss_cons, st_expr, st_ret, st_retN, st_pass, st_brk, st_cont, st_asg, st_par, st_setIx, st_iff, st_for, st_raise, ts_nil, ts_one, oQ_some, oQ_none, rq_ret, rq_nx, fq_nx, fq_cont, fq_brk, fq_ret, tgB, setAll, wipe, List.getElem?_cons_zero, List.getElem?_cons_succ, List.set_cons_zero, List.set_cons_succ, List.map_cons, List.map_nil, List.length_cons, List.length_nil, List.cons_append, List.nil_append, List.append_nil, List.replicate_succ, List.replicate_zero, Nat.reduceSub, Nat.sub_self, add_int, sub_int, int_int, int_bl, abs_int, max_int, min_int, len_tup, lt_int, le_int, gt_int, ge_int, eq_int, ne_int, eq_bl, ix_tup, at0, at1, at2, ito_tup, seq_tup, truth_bl, truth_tup]
        exact ⟨f, by rw [bad rfl]⟩
    · rintro env t ⟨pre, v1, v2, v3, e1, e2, e3, f⟩
      subst e3
      rw [List.append_nil] at e1
      subst e1
      simp only [w_ok, w_err, w_non, w_bl, w_int, w_str, w_con, w_var, w_tup, w_lst, w_bin, w_neg, w_not, w_and, w_or, w_cmp, w_chain, w_ite, w_call, w_callV, w_bi, w_isi, w_meth, w_ix, w_slc, w_rev, w_lrng, w_lzip, w_fld, t_not, t_and, t_or, t_cmp, t_var, t_call, t_bi, t_isi, t_ix, t_bl, t_chain, s_nil, s_cons, s_star, o_none, o_some, i_e, i_rng, i_zip, ss_nil, ss_cons, st_expr, st_ret, st_retN, st_pass, st_brk, st_cont, st_asg, st_par, st_setIx, st_iff, st_for, st_raise, ts_nil, ts_one, oQ_some, oQ_none, rq_ret, rq_nx, fq_nx, fq_cont, fq_brk, fq_ret, tgB, setAll, wipe, List.getElem?_cons_zero, List.getElem?_cons_succ, List.set_cons_zero, List.set_cons_succ, List.map_cons, List.map_nil, List.length_cons, List.length_nil, List.cons_append, List.nil_append, List.append_nil, List.replicate_succ, List.replicate_zero, Nat.reduceSub, Nat.sub_self, add_int, sub_int, int_int, int_bl, abs_int, max_int, min_int, len_tup, lt_int, le_int, gt_int, ge_int, eq_int, ne_int, eq_bl, ix_tup, at0, at1, at2, ito_tup, seq_tup, truth_bl, truth_tup]
      rw [w_lc rfl]
      simp only [w_ok, w_err, w_non, w_bl, w_int, w_str, w_con, w_var, w_tup, w_lst, w_bin, w_neg, w_not, w_and, w_or, w_cmp, w_chain, w_ite, w_call, w_callV, w_bi, w_isi, w_meth, w_ix, w_slc, w_rev, w_lrng, w_lzip, w_fld, t_not, t_and, t_or, t_cmp, t_var, t_call, t_bi, t_isi, t_ix, t_bl, t_chain, s_nil, s_cons, s_star, o_none, o_some, i_e, i_rng, i_zip, ss_nil, ss_cons, st_expr, st_ret, st_retN, st_pass, st_brk, st_cont, st_asg, st_par, st_setIx, st_iff, st_for, st_raise, ts_nil, ts_one, oQ_some, oQ_none, rq_ret, rq_nx, fq_nx, fq_cont, fq_brk, fq_ret, tgB, setAll, wipe, List.getElem?_cons_zero, List.getElem?_cons_succ, List.set_cons_zero, List.set_cons_succ, List.map_cons, List.map_nil, List.length_cons, List.length_nil, List.cons_append, List.nil_append, List.append_nil, List.replicate_succ, List.replicate_zero, Nat.reduceSub, Nat.sub_self, add_int, sub_int, int_int, int_bl, abs_int, max_int, min_int, len_tup, lt_int, le_int, gt_int, ge_int, eq_int, ne_int, eq_bl, ix_tup, at0, at1, at2, ito_tup, seq_tup, truth_bl, truth_tup, zip_slc, itOf_lst get_last]
      have hz : ((List.zipWith (fun x y => D.tup [x, y]) xs (xs.drop 1))).length < LIM := by
        rw [List.length_zipWith]
        have := hl xs rfl
        omega
      refine lc_map (ds := List.zipWith (fun x y => D.tup [x, y]) xs (xs.drop 1)) (fun d => .bl (match d with
            | .tup [a, b] => !gapD a b
            | _ => false)) ⟨true, get_last⟩ hz (fun d hd u fu => ?_) fun u fu e3 => ?_
      · obtain ⟨a, ha, b, hb, ed⟩ := mem_zip hd
        obtain ⟨i1, j1, ea, _⟩ := okPair_int (List.all_eq_true.mp e2 a ha)
        obtain ⟨i2, j2, eb, _⟩ := okPair_int (List.all_eq_true.mp e2 b (List.mem_of_mem_drop hb))
        subst ed ea eb
        simp only [w_ok, w_err, w_non, w_bl, w_int, w_str, w_con, w_var, w_tup, w_lst, w_bin, w_neg, w_not, w_and, w_or, w_cmp, w_chain, w_ite, w_call, w_callV, w_bi, w_isi, w_meth, w_ix, w_slc, w_rev, w_lrng, w_lzip, w_fld, t_not, t_and, t_or, t_cmp, t_var, t_call, t_bi, t_isi, t_ix, t_bl, t_chain, s_nil, s_cons, s_star, o_none, o_some, i_e, i_rng, i_zip, ss_nil, ss_cons, st_expr, st_ret, st_retN, st_pass, st_brk, st_cont, st_asg, st_par, st_setIx, st_iff, st_for, st_raise, ts_nil, ts_one, oQ_some, oQ_none, rq_ret, rq_nx, fq_nx, fq_cont, fq_brk, fq_ret, tgB, setAll, wipe, List.getElem?_cons_zero, List.getElem?_cons_succ, List.set_cons_zero, List.set_cons_succ, List.map_cons, List.map_nil, List.length_cons, List.length_nil, List.cons_append, List.nil_append, List.append_nil, List.replicate_succ, List.replicate_zero, Nat.reduceSub, Nat.sub_self, add_int, sub_int, int_int, int_bl, abs_int, max_int, min_int, len_tup, lt_int, le_int, gt_int, ge_int, eq_int, ne_int, eq_bl, ix_tup, at0, at1, at2, ito_tup, seq_tup, truth_bl, truth_tup]
        refine ⟨Fr.refl _ _, ?_⟩
        congr 1
        simp only [gapD]
        rw [Bool.eq_iff_iff]
        simp
        omega
      · simp only [evB_any e3, w_ok, w_err, w_non, w_bl, w_int, w_str, w_con, w_var, w_tup, w_lst, w_bin, w_neg, w_not, w_and, w_or, w_cmp, w_chain, w_ite, w_call, w_callV, w_bi, w_isi, w_meth, w_ix, w_slc, w_rev, w_lrng, w_lzip, w_fld, t_not, t_and, t_or, t_cmp, t_var, t_call, t_bi, t_isi, t_ix, t_bl, t_chain, s_nil, s_cons, s_star, o_none, o_some, i_e, i_rng, i_zip, ss_nil, ss_cons, st_expr, st_ret, st_retN, st_pass, st_brk, st_cont, st_asg, st_par, st_setIx, st_iff, st_for, st_raise, ts_nil, ts_one, oQ_some, oQ_none, rq_ret, rq_nx, fq_nx, fq_cont, fq_brk, fq_ret, tgB, setAll, wipe, List.getElem?_cons_zero, List.getElem?_cons_succ, List.set_cons_zero, List.set_cons_succ, List.map_cons, List.map_nil, List.length_cons, List.length_nil, List.cons_append, List.nil_append, List.append_nil, List.replicate_succ, List.replicate_zero, Nat.reduceSub, Nat.sub_self, add_int, sub_int, int_int, int_bl, abs_int, max_int, min_int, len_tup, lt_int, le_int, gt_int, ge_int, eq_int, ne_int, eq_bl, ix_tup, at0, at1, at2, ito_tup, seq_tup, truth_bl, truth_tup]
        refine ⟨f.trans ((Fr.app [] _ _).trans fu), ?_⟩
        have ez : isSet (.tup xs) = (List.zipWith gapD xs (xs.drop 1)).all id := by simp only [isSet, e2, Bool.true_and]
        rw [ez]
        congr 1
        rw [← all_zip (q := fun d => match d with
            | .tup [a, b] => gapD a b
            | _ => false) (fun a b => rfl)]
        rw [List.not_any_eq_all_not]
        rw [Bool.eq_iff_iff, List.all_eq_true, List.all_eq_true]
        constructor
        · intro z x hx
          have := z x hx
          obtain ⟨a, ha, b, hb, ed⟩ := mem_zip hx
          subst ed
          simpa using this
        · intro z x hx
          have := z x hx
          obtain ⟨a, ha, b, hb, ed⟩ := mem_zip hx
          subst ed
          simpa using this
  | _ =>
    simp [isTup, truth, oQ, isSet, w_ok, w_err, w_non, w_bl, w_int, w_str, w_con, w_var, w_tup, w_lst, w_bin, w_neg, w_not, w_and, w_or, w_cmp, w_chain, w_ite, w_call, w_callV, w_bi, w_isi, w_meth, w_ix, w_slc, w_rev, w_lrng, w_lzip, w_fld, t_not, t_and, t_or, t_cmp, t_var, t_call, t_bi, t_isi, t_ix, t_bl, t_chain, s_nil, s_cons, s_star, o_none, o_some, i_e, i_rng, i_zip, ss_nil, ss_cons, st_expr, st_ret, st_retN, st_pass, st_brk, st_cont, st_asg, st_par, st_setIx, st_iff, st_for, st_raise, ts_nil, ts_one, oQ_some, oQ_none, rq_ret, rq_nx, fq_nx, fq_cont, fq_brk, fq_ret, tgB, setAll, wipe, List.getElem?_cons_zero, List.getElem?_cons_succ, List.set_cons_zero, List.set_cons_succ, List.map_cons, List.map_nil, List.length_cons, List.length_nil, List.cons_append, List.nil_append, List.append_nil, List.replicate_succ, List.replicate_zero, Nat.reduceSub, Nat.sub_self]
    exact Fr.refl _ _
end K01
end
section
set_option autoImplicit false
set_option linter.all false
set_option maxRecDepth 100000
set_option maxHeartbeats 4000000
namespace K01
open PySem PyI
theorem d_l_drawn : P0.defs "_law_drawn" = some ⟨1, 4, b_l_drawn⟩ := by kernel_rfl
theorem d_l_odd : P0.defs "_law_odd" = some ⟨1, 2, b_l_odd⟩ := by kernel_rfl
theorem d_l_bent : P0.defs "_law_bent" = some ⟨2, 4, b_l_bent⟩ := by kernel_rfl
theorem Pot.lt {p B : Nat} {st : Sto} (h : Pot p B st) : p < st.length := by
  obtain ⟨a, b, k, e, _⟩ := h
  exact lt_of_get e
def rngI (a b : Int) : List Int := (List.range (b - a).toNat).map fun (i : Nat) => a + (i : Int)
theorem rngD_map (a b : Int) : rngD a b = (rngI a b).map .int := by
  unfold rngD rngI
  rw [List.map_map]
  rfl
theorem l_drawn_ok {n p B : Nat} {st : Sto} (hp : Pot p B st) (hB : B < 2 ^ 30) : W (callN P0 (n + 4) "_law_drawn" [.ref p] st) (fun v s => (∃ rs, v = rgD rs ∧ Can 0 rs) ∧ Pot p (B + 11) s ∧ Fr [p] st s) NE := by
  refine w_def d_l_drawn rfl rfl ?_
  have lp := hp.lt
  have hp1 : Pot p B (st ++ [.lst true []]) := hp.fr (Fr.app [] _ _)
  simp only [b_l_drawn, w_ok, w_err, w_non, w_bl, w_int, w_str, w_con, w_var, w_tup, w_lst, w_bin, w_neg, w_not, w_and, w_or, w_cmp, w_chain, w_ite, w_call, w_callV, w_bi, w_isi, w_meth, w_ix, w_slc, w_rev, w_lrng, w_lzip, w_fld, t_not, t_and, t_or, t_cmp, t_var, t_call, t_bi, t_isi, t_ix, t_bl, t_chain, s_nil, s_cons, s_star, o_none, o_some, i_e, i_rng, i_zip, ss_nil, ss_cons, st_expr, st_ret, st_retN, st_pass, st_brk, st_cont, st_asg, st_par, st_setIx, st_iff, st_for, st_raise, ts_nil, ts_one, oQ_some, oQ_none, rq_ret, rq_nx, fq_nx, fq_cont, fq_brk, fq_ret, tgB, setAll, wipe, List.getElem?_cons_zero, List.getElem?_cons_succ, List.set_cons_zero, List.set_cons_succ, List.map_cons, List.map_nil, List.length_cons, List.length_nil, List.cons_append, List.nil_append, List.append_nil, List.replicate_succ, List.replicate_zero, Nat.reduceSub, Nat.sub_self, add_int, sub_int, int_int, int_bl, abs_int, max_int, min_int, len_tup, lt_int, le_int, gt_int, ge_int, eq_int, ne_int, eq_bl, ix_tup, at0, at1, at2, ito_tup, seq_tup, truth_bl, truth_tup, List.length_nil, Nat.zero_le, if_true]
  refine (take_ok (n := n + 2) (u := 5) (by decide) (by decide) hp1 (by omega)).imp fun v s ⟨d, e, h2, h3, h4, h5⟩ => ?_
  subst e
  have h1 : rngOk 0 d = true := by
    unfold rngOk LIM
    simp only [Bool.and_eq_true, decide_eq_true_eq]
    omega
  have g0 : s[st.length]? = some (.lst true (([] : List Int).map D.int)) := h5.get get_last (by simp; omega)
  simp only [h1, w_ok, w_err, w_non, w_bl, w_int, w_str, w_con, w_var, w_tup, w_lst, w_bin, w_neg, w_not, w_and, w_or, w_cmp, w_chain, w_ite, w_call, w_callV, w_bi, w_isi, w_meth, w_ix, w_slc, w_rev, w_lrng, w_lzip, w_fld, t_not, t_and, t_or, t_cmp, t_var, t_call, t_bi, t_isi, t_ix, t_bl, t_chain, s_nil, s_cons, s_star, o_none, o_some, i_e, i_rng, i_zip, ss_nil, ss_cons, st_expr, st_ret, st_retN, st_pass, st_brk, st_cont, st_asg, st_par, st_setIx, st_iff, st_for, st_raise, ts_nil, ts_one, oQ_some, oQ_none, rq_ret, rq_nx, fq_nx, fq_cont, fq_brk, fq_ret, tgB, setAll, wipe, List.getElem?_cons_zero, List.getElem?_cons_succ, List.set_cons_zero, List.set_cons_succ, List.map_cons, List.map_nil, List.length_cons, List.length_nil, List.cons_append, List.nil_append, List.append_nil, List.replicate_succ, List.replicate_zero, Nat.reduceSub, Nat.sub_self, add_int, sub_int, int_int, int_bl, abs_int, max_int, min_int, len_tup, lt_int, le_int, gt_int, ge_int, eq_int, ne_int, eq_bl, ix_tup, at0, at1, at2, ito_tup, seq_tup, truth_bl, truth_tup, if_true]
  have hl : (rngD 0 d).length ≤ 4 := by
    rw [rng_len]
    omega
  refine w_loop (ds := rngD 0 d) (fun rest env t => ∃ ks v2 v3, ∃ B' : Nat, env = [some (.ref p), some (.ref st.length), v2, v3] ∧ t[st.length]? = some (.lst true ((ks : List Int).map D.int)) ∧ Fr [p] st t ∧ Pot p B' t ∧ B' + 2 * rest.length ≤ B + 11 ∧ ks.length + 300 * rest.length ≤ 1200) (by unfold FUEL; omega) (fun _ _ _ _ => rfl)
    ⟨[], _, _, B + 1, rfl, g0, ((Fr.app [] _ _).all).trans h5, h4, by omega, by simp only [List.length_nil]; omega⟩ ?_ ?_
  · rintro d0 rest env t ⟨ks, v2, v3, B', e3, e5, e6, q1, q2, q3⟩
    subst e3
    simp only [List.length_cons] at q2 q3
    simp only [w_ok, w_err, w_non, w_bl, w_int, w_str, w_con, w_var, w_tup, w_lst, w_bin, w_neg, w_not, w_and, w_or, w_cmp, w_chain, w_ite, w_call, w_callV, w_bi, w_isi, w_meth, w_ix, w_slc, w_rev, w_lrng, w_lzip, w_fld, t_not, t_and, t_or, t_cmp, t_var, t_call, t_bi, t_isi, t_ix, t_bl, t_chain, s_nil, s_cons, s_star, o_none, o_some, i_e, i_rng, i_zip, ss_nil, ss_cons, st_expr, st_ret, st_retN, st_pass, st_brk, st_cont, st_asg, st_par, st_setIx, st_iff, st_for, st_raise, ts_nil, ts_one, oQ_some, oQ_none, rq_ret, rq_nx, fq_nx, fq_cont, fq_brk, fq_ret, tgB, setAll, wipe, List.getElem?_cons_zero, List.getElem?_cons_succ, List.set_cons_zero, List.set_cons_succ, List.map_cons, List.map_nil, List.length_cons, List.length_nil, List.cons_append, List.nil_append, List.append_nil, List.replicate_succ, List.replicate_zero, Nat.reduceSub, Nat.sub_self, add_int, sub_int, int_int, int_bl, abs_int, max_int, min_int, len_tup, lt_int, le_int, gt_int, ge_int, eq_int, ne_int, eq_bl, ix_tup, at0, at1, at2, ito_tup, seq_tup, truth_bl, truth_tup, show (0 + 1 + 1 + 1 + 1 + 1 + 1 + 1 + 1 + 1 ≤ LIM) from by decide, if_true]
    have lt := q1.lt
    refine (of_ok (n := n + 1) (p := p) (B := B') get_last (by omega) (by simp) (by decide) (q1.fr (Fr.app [] _ _)) (by omega)).imp fun v u ⟨hv, q4, f1⟩ => ?_
    obtain ⟨x, ex, hx⟩ : ∃ x, v = .int x ∧ 0 ≤ x ∧ x ≤ 255 := by
      simp only [List.mem_cons, List.not_mem_nil, or_false] at hv
      rcases hv with z | z | z | z | z | z | z | z | z <;> exact ⟨_, z, by decide, by decide⟩
    subst ex
    have f2 := (e6.trans ((Fr.app [] t _).all)).trans f1
    have e7 := f1.get ((Fr.app [] t _).get e5) (by simp; omega)
    simp only [w_ok, w_err, w_non, w_bl, w_int, w_str, w_con, w_var, w_tup, w_lst, w_bin, w_neg, w_not, w_and, w_or, w_cmp, w_chain, w_ite, w_call, w_callV, w_bi, w_isi, w_meth, w_ix, w_slc, w_rev, w_lrng, w_lzip, w_fld, t_not, t_and, t_or, t_cmp, t_var, t_call, t_bi, t_isi, t_ix, t_bl, t_chain, s_nil, s_cons, s_star, o_none, o_some, i_e, i_rng, i_zip, ss_nil, ss_cons, st_expr, st_ret, st_retN, st_pass, st_brk, st_cont, st_asg, st_par, st_setIx, st_iff, st_for, st_raise, ts_nil, ts_one, oQ_some, oQ_none, rq_ret, rq_nx, fq_nx, fq_cont, fq_brk, fq_ret, tgB, setAll, wipe, List.getElem?_cons_zero, List.getElem?_cons_succ, List.set_cons_zero, List.set_cons_succ, List.map_cons, List.map_nil, List.length_cons, List.length_nil, List.cons_append, List.nil_append, List.append_nil, List.replicate_succ, List.replicate_zero, Nat.reduceSub, Nat.sub_self, add_int, sub_int, int_int, int_bl, abs_int, max_int, min_int, len_tup, lt_int, le_int, gt_int, ge_int, eq_int, ne_int, eq_bl, ix_tup, at0, at1, at2, ito_tup, seq_tup, truth_bl, truth_tup, kindB_lst e7, MT.name, show (0 + 1 + 1 + 1 + 1 + 1 + 1 ≤ LIM) from by decide, if_true]
    have lu := q4.lt
    refine (of_ok (n := n + 1) (p := p) (B := B' + 1) get_last (by omega) (by simp) (by decide) (q4.fr (Fr.app [] _ _)) (by omega)).imp fun v w ⟨hv, q5, f3⟩ => ?_
    obtain ⟨y, ey, hy⟩ : ∃ x, v = .int x ∧ 0 ≤ x ∧ x ≤ 60 := by
      simp only [List.mem_cons, List.not_mem_nil, or_false] at hv
      rcases hv with z | z | z | z | z | z <;> exact ⟨_, z, by decide, by decide⟩
    subst ey
    have hr : rngOk x (min 255 (x + y) + 1) = true := by
      unfold rngOk LIM
      simp only [Bool.and_eq_true, decide_eq_true_eq]
      omega
    have e8 := f3.get ((Fr.app [] u _).get e7) (by simp; omega)
    have e9 := (Fr.app [] w [.lst true (rngD x (min 255 (x + y) + 1))]).get e8
    have hlr : (rngD x (min 255 (x + y) + 1)).length ≤ 300 := by
      rw [rng_len]
      omega
    have ext := extend_lst e9 (get_last (s := w) (c := .lst true (rngD x (min 255 (x + y) + 1)))) (by rw [List.length_map]; unfold LIM; omega)
    simp only [w_ok, w_err, w_non, w_bl, w_int, w_str, w_con, w_var, w_tup, w_lst, w_bin, w_neg, w_not, w_and, w_or, w_cmp, w_chain, w_ite, w_call, w_callV, w_bi, w_isi, w_meth, w_ix, w_slc, w_rev, w_lrng, w_lzip, w_fld, t_not, t_and, t_or, t_cmp, t_var, t_call, t_bi, t_isi, t_ix, t_bl, t_chain, s_nil, s_cons, s_star, o_none, o_some, i_e, i_rng, i_zip, ss_nil, ss_cons, st_expr, st_ret, st_retN, st_pass, st_brk, st_cont, st_asg, st_par, st_setIx, st_iff, st_for, st_raise, ts_nil, ts_one, oQ_some, oQ_none, rq_ret, rq_nx, fq_nx, fq_cont, fq_brk, fq_ret, tgB, setAll, wipe, List.getElem?_cons_zero, List.getElem?_cons_succ, List.set_cons_zero, List.set_cons_succ, List.map_cons, List.map_nil, List.length_cons, List.length_nil, List.cons_append, List.nil_append, List.append_nil, List.replicate_succ, List.replicate_zero, Nat.reduceSub, Nat.sub_self, add_int, sub_int, int_int, int_bl, abs_int, max_int, min_int, len_tup, lt_int, le_int, gt_int, ge_int, eq_int, ne_int, eq_bl, ix_tup, at0, at1, at2, ito_tup, seq_tup, truth_bl, truth_tup, hr, if_true, ext]
    have f4 := ((f2.trans ((Fr.app [] u _).all)).trans f3).trans ((Fr.app [] w [.lst true (rngD x (min 255 (x + y) + 1))]).all)
    refine ⟨ks ++ rngI x (min 255 (x + y) + 1), _, _, B' + 2, rfl, ?_, f4.set (.inr (Nat.le_refl _)), ?_, by omega, ?_⟩
    · rw [List.map_append, ← rngD_map]
      exact get_set e9
    · exact (q5.fr (Fr.app [] _ _)).fr (ps := [st.length]) ((Fr.refl _ _).set (.inl (by simp))) (by simp; omega)
    · have : (rngI x (min 255 (x + y) + 1)).length = (rngD x (min 255 (x + y) + 1)).length := by rw [rngD_map, List.length_map]
      rw [List.length_append]
      omega
  · rintro env t ⟨ks, v2, v3, B', e3, e5, e6, q1, q2, q3⟩
    subst e3
    simp only [w_ok, w_err, w_non, w_bl, w_int, w_str, w_con, w_var, w_tup, w_lst, w_bin, w_neg, w_not, w_and, w_or, w_cmp, w_chain, w_ite, w_call, w_callV, w_bi, w_isi, w_meth, w_ix, w_slc, w_rev, w_lrng, w_lzip, w_fld, t_not, t_and, t_or, t_cmp, t_var, t_call, t_bi, t_isi, t_ix, t_bl, t_chain, s_nil, s_cons, s_star, o_none, o_some, i_e, i_rng, i_zip, ss_nil, ss_cons, st_expr, st_ret, st_retN, st_pass, st_brk, st_cont, st_asg, st_par, st_setIx, st_iff, st_for, st_raise, ts_nil, ts_one, oQ_some, oQ_none, rq_ret, rq_nx, fq_nx, fq_cont, fq_brk, fq_ret, tgB, setAll, wipe, List.getElem?_cons_zero, List.getElem?_cons_succ, List.set_cons_zero, List.set_cons_succ, List.map_cons, List.map_nil, List.length_cons, List.length_nil, List.cons_append, List.nil_append, List.append_nil, List.replicate_succ, List.replicate_zero, Nat.reduceSub, Nat.sub_self, add_int, sub_int, int_int, int_bl, abs_int, max_int, min_int, len_tup, lt_int, le_int, gt_int, ge_int, eq_int, ne_int, eq_bl, ix_tup, at0, at1, at2, ito_tup, seq_tup, truth_bl, truth_tup]
    refine (l_ranges_ok (n := n + 2) e5).imp fun v u ⟨f, rs, ev, c, _⟩ => ?_
    simp only [List.length_nil] at q2
    exact ⟨⟨rs, ev, c⟩, (q1.fr f).mono (by omega), e6.trans f.all⟩
/-! ### values of any kind -/
/-- .. with cells from p on only -/
inductive KV (p : Nat) (st : Sto) : D → Prop
  | non : KV p st .non
  | bl (b : Bool) : KV p st (.bl b)
  | int (i : Int) : KV p st (.int i)
  | str (x : Str) : KV p st (.str x)
  | tup {xs : List D} (h : ∀ x, x ∈ xs → KV p st x) (l : xs.length ≤ 5000) : KV p st (.tup xs)
  | ref {n : Nat} {w : Bool} {xs : List D} (h : p ≤ n) (e : st[n]? = some (.lst w xs)) : KV p st (.ref n)
theorem KV.kd {p : Nat} {st : Sto} {d : D} (h : KV p st d) : Kd d st := by
  cases h with
  | non => exact .non
  | bl b => exact .bl b
  | int i => exact .int i
  | str x => exact .str x
  | tup h l => exact .tup _
  | ref h e => exact .ref e
theorem KV.kn {p : Nat} {st : Sto} : ∀ (n : Nat) {d : D}, KV p st d → Kn n d st
  | 0, _, h => h.kd
  | n + 1, _, h => ⟨h.kd, fun xs e x hx => by
    subst e
    cases h with
    | tup h l => exact KV.kn n (h x hx)⟩
theorem KV.len {p : Nat} {st : Sto} {d : D} (h : KV p st d) : ∀ xs, d = .tup xs → xs.length < LIM := fun xs e => by
  subst e
  cases h with
  | tup h l =>
    unfold LIM
    omega
theorem KV.len2 {p : Nat} {st : Sto} {d : D} (h : KV p st d) : ∀ xs, d = .tup xs → ∀ ys, .tup ys ∈ xs → ys.length < LIM := fun xs e ys hy => by
  subst e
  cases h with
  | tup h l => exact (h _ hy).len ys rfl
theorem KV.fr {p : Nat} {ps : List Nat} {s t : Sto} (hps : ∀ i ∈ ps, i < p) (f : Fr ps s t) {d : D} (h : KV p s d) : KV p t d := by
  induction h with
  | non => exact .non
  | bl b => exact .bl b
  | int i => exact .int i
  | str x => exact .str x
  | tup h l ih => exact .tup ih l
  | ref h e => exact .ref h (f.get e fun z => by
    have := hps _ z
    omega)
theorem KV.mono {p q : Nat} {s : Sto} {d : D} (h : KV p s d) (l : q ≤ p) : KV q s d := by
  induction h with
  | non => exact .non
  | bl b => exact .bl b
  | int i => exact .int i
  | str x => exact .str x
  | tup h l ih => exact .tup ih l
  | ref h e => exact .ref (Nat.le_trans l h) e
theorem kv_nil {p : Nat} {st : Sto} : KV p st (.tup []) := .tup (fun x hx => by cases hx) (by decide)
theorem kv_one {p : Nat} {st : Sto} {d : D} (h : KV p st d) : KV p st (.tup [d]) := .tup (fun x hx => by
  rw [List.mem_singleton.mp hx]
  exact h) (by simp)
theorem kv_two {p : Nat} {st : Sto} {d e : D} (h : KV p st d) (h2 : KV p st e) : KV p st (.tup [d, e]) := .tup (fun x hx => by
  rcases List.mem_cons.mp hx with z | z
  · rw [z]
    exact h
  · rw [List.mem_singleton.mp z]
    exact h2) (by simp)
theorem add_lst {st : Sto} {n m : Nat} {xs ys : List D} (e : st[n]? = some (.lst true xs)) (e2 : st[m]? = some (.lst true ys)) (hl : xs.length + ys.length ≤ LIM) : opB .add (.ref n) (.ref m) st = some (.ref st.length, st ++ [.lst true (xs ++ ys)]) := by
  show (match st[n]?, st[m]? with
    | some (.lst true xs), some (.lst true ys) => if xs.length + ys.length ≤ LIM then some (new (.lst true (xs ++ ys)) st) else none
    | _, _ => none) = _
  rw [e, e2]
  exact if_pos hl
theorem l_odd_ok {n p B : Nat} {st : Sto} (hp : Pot p B st) (hB : B < 2 ^ 30) : W (callN P0 (n + 3) "_law_odd" [.ref p] st) (fun v s => KV st.length s v ∧ Pot p (B + 1) s ∧ Fr [p] st s) NE := by
  refine w_def d_l_odd rfl rfl ?_
  have lp := hp.lt
  simp only [b_l_odd, w_ok, w_err, w_non, w_bl, w_int, w_str, w_con, w_var, w_tup, w_lst, w_bin, w_neg, w_not, w_and, w_or, w_cmp, w_chain, w_ite, w_call, w_callV, w_bi, w_isi, w_meth, w_ix, w_slc, w_rev, w_lrng, w_lzip, w_fld, t_not, t_and, t_or, t_cmp, t_var, t_call, t_bi, t_isi, t_ix, t_bl, t_chain, s_nil, s_cons, s_star, o_none, o_some, i_e, i_rng, i_zip, ss_nil, ss_cons, st_expr, st_ret, st_retN, st_pass, st_brk, st_cont, st_asg, st_par, st_setIx, st_iff, st_for, st_raise, ts_nil, ts_one, oQ_some, oQ_none, rq_ret, rq_nx, fq_nx, fq_cont, fq_brk, fq_ret, tgB, setAll, wipe, List.getElem?_cons_zero, List.getElem?_cons_succ, List.set_cons_zero, List.set_cons_succ, List.map_cons, List.map_nil, List.length_cons, List.length_nil, List.cons_append, List.nil_append, List.append_nil, List.replicate_succ, List.replicate_zero, Nat.reduceSub, Nat.sub_self, add_int, sub_int, int_int, int_bl, abs_int, max_int, min_int, len_tup, lt_int, le_int, gt_int, ge_int, eq_int, ne_int, eq_bl, ix_tup, at0, at1, at2, ito_tup, seq_tup, truth_bl, truth_tup, List.length_nil, Nat.zero_le, if_true, show (0 + 1 + 1 + 1 + 1 + 1 + 1 + 1 + 1 + 1 + 1 + 1 + 1 + 1 + 1 + 1 + 1 + 1 + 1 + 1 ≤ LIM) from by decide, show (0 + 1 ≤ LIM) from by decide, show (0 + 1 + 1 ≤ LIM) from by decide]
  have a1 : (st ++ [Cell.lst true []])[st.length]? = some (.lst true []) := get_last
  have a0 : Fr [] st (st ++ [Cell.lst true []]) := Fr.app _ _ _
  generalize hn1 : st.length = n1 at a1
  generalize st ++ [Cell.lst true []] = s1 at a1 a0
  have l1 : st.length < s1.length := by rw [hn1]; exact lt_of_get a1
  have b1 := (Fr.app [] s1 [Cell.lst true [D.int 1]]).get a1
  have b2 : (s1 ++ [Cell.lst true [D.int 1]])[s1.length]? = some (.lst true [D.int 1]) := get_last
  have b0 := a0.trans (Fr.app [] s1 [Cell.lst true [D.int 1]])
  generalize hn2 : s1.length = n2 at b2
  generalize s1 ++ [Cell.lst true [D.int 1]] = s2 at b1 b2 b0
  have l2 : n2 < s2.length := lt_of_get b2
  generalize hL1 : [D.non, D.bl true, D.bl false, D.int 0, D.int 1, D.int (-1), D.int 2, D.int 256, D.str "", D.str "a", D.str "byte", D.str "same", D.tup [], D.ref n1, D.tup [D.int 0], D.tup [D.tup []], D.ref n2, D.tup [D.bl true], D.tup [D.non]] = L1
  have c1 := (Fr.app [] s2 [Cell.lst true L1]).get b1
  have c2 := (Fr.app [] s2 [Cell.lst true L1]).get b2
  have c3 : (s2 ++ [Cell.lst true L1])[s2.length]? = some (.lst true L1) := get_last
  have c0 := b0.trans (Fr.app [] s2 [Cell.lst true L1])
  generalize hn3 : s2.length = n3 at c3
  generalize s2 ++ [Cell.lst true L1] = s3 at c1 c2 c3 c0
  have l3 : n3 < s3.length := lt_of_get c3
  have d1 := (Fr.app [] s3 [Cell.lst true [D.int 0]]).get c1
  have d2 := (Fr.app [] s3 [Cell.lst true [D.int 0]]).get c2
  have d3 := (Fr.app [] s3 [Cell.lst true [D.int 0]]).get c3
  have d4 : (s3 ++ [Cell.lst true [D.int 0]])[s3.length]? = some (.lst true [D.int 0]) := get_last
  have d0 := c0.trans (Fr.app [] s3 [Cell.lst true [D.int 0]])
  generalize hn4 : s3.length = n4 at d4
  generalize s3 ++ [Cell.lst true [D.int 0]] = s4 at d1 d2 d3 d4 d0
  have l4 : n4 < s4.length := lt_of_get d4
  generalize hL2 : [D.tup [D.int 0], D.tup [D.tup [D.int 0, D.int 0]]] = L2
  have e1 := (Fr.app [] s4 [Cell.lst true L2]).get d1
  have e2 := (Fr.app [] s4 [Cell.lst true L2]).get d2
  have e3 := (Fr.app [] s4 [Cell.lst true L2]).get d3
  have e4 := (Fr.app [] s4 [Cell.lst true L2]).get d4
  have e5 : (s4 ++ [Cell.lst true L2])[s4.length]? = some (.lst true L2) := get_last
  have e0 := d0.trans (Fr.app [] s4 [Cell.lst true L2])
  generalize hn5 : s4.length = n5 at e5
  generalize s4 ++ [Cell.lst true L2] = s5 at e1 e2 e3 e4 e5 e0
  have l5 : n5 < s5.length := lt_of_get e5
  simp only [pow_ok (i := 10) (j := 20) 4 (by decide) (by decide) (by decide), w_ok, w_err, w_non, w_bl, w_int, w_str, w_con, w_var, w_tup, w_lst, w_bin, w_neg, w_not, w_and, w_or, w_cmp, w_chain, w_ite, w_call, w_callV, w_bi, w_isi, w_meth, w_ix, w_slc, w_rev, w_lrng, w_lzip, w_fld, t_not, t_and, t_or, t_cmp, t_var, t_call, t_bi, t_isi, t_ix, t_bl, t_chain, s_nil, s_cons, s_star, o_none, o_some, i_e, i_rng, i_zip, ss_nil, ss_cons, st_expr, st_ret, st_retN, st_pass, st_brk, st_cont, st_asg, st_par, st_setIx, st_iff, st_for, st_raise, ts_nil, ts_one, oQ_some, oQ_none, rq_ret, rq_nx, fq_nx, fq_cont, fq_brk, fq_ret, tgB, setAll, wipe, List.getElem?_cons_zero, List.getElem?_cons_succ, List.set_cons_zero, List.set_cons_succ, List.map_cons, List.map_nil, List.length_cons, List.length_nil, List.cons_append, List.nil_append, List.append_nil, List.replicate_succ, List.replicate_zero, Nat.reduceSub, Nat.sub_self, add_int, sub_int, int_int, int_bl, abs_int, max_int, min_int, len_tup, lt_int, le_int, gt_int, ge_int, eq_int, ne_int, eq_bl, ix_tup, at0, at1, at2, ito_tup, seq_tup, truth_bl, truth_tup, if_true, show (0 + 1 + 1 + 1 + 1 + 1 + 1 + 1 + 1 ≤ LIM) from by decide]
  generalize (10 : Int) ^ (20 : Int).toNat = T
  generalize hL3 : [D.tup [D.str "a"], D.tup [D.tup [D.int 0], D.tup []], D.tup [D.int 7], D.tup [D.int 0, D.ref n4], D.tup [D.tup [D.int 0], D.tup [D.tup [D.int 0, D.int 1]]], D.ref n5, D.str "a = byte 0", D.int T] = L3
  have f1 := (Fr.app [] s5 [Cell.lst true L3]).get e1
  have f2 := (Fr.app [] s5 [Cell.lst true L3]).get e2
  have f3 := (Fr.app [] s5 [Cell.lst true L3]).get e3
  have f4 := (Fr.app [] s5 [Cell.lst true L3]).get e4
  have f5 := (Fr.app [] s5 [Cell.lst true L3]).get e5
  have f6 : (s5 ++ [Cell.lst true L3])[s5.length]? = some (.lst true L3) := get_last
  have f0 := e0.trans (Fr.app [] s5 [Cell.lst true L3])
  generalize s5.length = n6 at f6
  generalize s5 ++ [Cell.lst true L3] = s6 at f1 f2 f3 f4 f5 f6 f0
  have hl1 : L1.length = 19 := by rw [← hL1]; rfl
  have hl3 : L3.length = 8 := by rw [← hL3]; rfl
  rw [add_lst f3 f6 (by rw [hl1, hl3]; decide)]
  simp only [w_ok, w_err, w_non, w_bl, w_int, w_str, w_con, w_var, w_tup, w_lst, w_bin, w_neg, w_not, w_and, w_or, w_cmp, w_chain, w_ite, w_call, w_callV, w_bi, w_isi, w_meth, w_ix, w_slc, w_rev, w_lrng, w_lzip, w_fld, t_not, t_and, t_or, t_cmp, t_var, t_call, t_bi, t_isi, t_ix, t_bl, t_chain, s_nil, s_cons, s_star, o_none, o_some, i_e, i_rng, i_zip, ss_nil, ss_cons, st_expr, st_ret, st_retN, st_pass, st_brk, st_cont, st_asg, st_par, st_setIx, st_iff, st_for, st_raise, ts_nil, ts_one, oQ_some, oQ_none, rq_ret, rq_nx, fq_nx, fq_cont, fq_brk, fq_ret, tgB, setAll, wipe, List.getElem?_cons_zero, List.getElem?_cons_succ, List.set_cons_zero, List.set_cons_succ, List.map_cons, List.map_nil, List.length_cons, List.length_nil, List.cons_append, List.nil_append, List.append_nil, List.replicate_succ, List.replicate_zero, Nat.reduceSub, Nat.sub_self, add_int, sub_int, int_int, int_bl, abs_int, max_int, min_int, len_tup, lt_int, le_int, gt_int, ge_int, eq_int, ne_int, eq_bl, ix_tup, at0, at1, at2, ito_tup, seq_tup, truth_bl, truth_tup]
  have hp6 := (hp.fr f0).fr (Fr.app [] s6 [Cell.lst true (L1 ++ L3)])
  have lp6 := (hp.fr f0).lt
  refine (of_ok (n := n) (p := p) (B := B) get_last (by omega) (by rw [← hL1]; simp) (by rw [List.length_append, hl1, hl3]; decide) hp6 (by omega)).imp fun v u ⟨hv, q4, fr⟩ => ?_
  have ff := (f0.trans (Fr.app [] s6 [Cell.lst true (L1 ++ L3)])).all (ps := [p]) |>.trans fr
  refine ⟨KV.fr (ps := [p]) (by simp; omega) (((Fr.app [] s6 [Cell.lst true (L1 ++ L3)]).all).trans fr) ?_, q4, ff⟩
  have z0 : n1 ≤ n1 := by omega
  have z2 : n1 ≤ n2 := by omega
  have z4 : n1 ≤ n4 := by omega
  have z5 : n1 ≤ n5 := by omega
  rcases List.mem_append.mp hv with hv | hv
  · rw [← hL1] at hv
    simp only [List.mem_cons, List.not_mem_nil, or_false] at hv
    rcases hv with z | z | z | z | z | z | z | z | z | z | z | z | z | z | z | z | z | z | z <;> rw [z] <;> first | exact kv_nil | exact kv_one kv_nil | exact kv_one .non | exact kv_one (.bl _) | exact kv_one (.int _) | exact .ref z0 f1 | exact .ref z2 f2 | exact .non | exact .bl _ | exact .int _ | exact .str _
  · rw [← hL3] at hv
    simp only [List.mem_cons, List.not_mem_nil, or_false] at hv
    rcases hv with z | z | z | z | z | z | z | z <;> rw [z]
    · exact kv_one (.str _)
    · exact kv_two (kv_one (.int _)) kv_nil
    · exact kv_one (.int _)
    · exact kv_two (.int _) (.ref z4 f4)
    · exact kv_two (kv_one (.int _)) (kv_one (kv_two (.int _) (.int _)))
    · exact .ref z5 f5
    · exact .str _
    · exact .int _
end K01
end
section
set_option autoImplicit false
set_option linter.all false
set_option maxRecDepth 100000
set_option maxHeartbeats 4000000
namespace K01
open PySem PyI
/-- rows of rows of .. of small whole numbers -/
def itD : Nat → D → Prop
  | 0, d => ∃ i : Int, d = .int i ∧ 0 ≤ i ∧ i < 1000
  | k + 1, d => ∃ xs, d = .tup xs ∧ xs.length ≤ 1000 ∧ ∀ x ∈ xs, itD k x
theorem itD.kv {p : Nat} {st : Sto} : ∀ {k : Nat} {d : D}, itD k d → KV p st d
  | 0, _, ⟨i, e, _⟩ => by
    subst e
    exact .int i
  | k + 1, _, ⟨xs, e, l, h⟩ => by
    subst e
    exact .tup (fun x hx => (h x hx).kv) (by omega)
theorem itD.pure : ∀ {k : Nat} {d : D}, itD k d → pureD d = true
  | 0, _, ⟨i, e, _⟩ => by
    subst e
    rfl
  | k + 1, _, ⟨xs, e, l, h⟩ => by
    subst e
    show pureDs xs = true
    clear l
    induction xs with
    | nil => rfl
    | cons x r ih =>
      show (pureD x && pureDs r) = true
      rw [(h x (List.mem_cons_self ..)).pure, ih fun y hy => h y (List.mem_cons_of_mem _ hy)]
      rfl
theorem itD.dep : ∀ {k : Nat} {d : D}, itD k d → depD d ≤ k
  | 0, _, ⟨i, e, _⟩ => by
    subst e
    exact Nat.le_refl _
  | k + 1, _, ⟨xs, e, l, h⟩ => by
    subst e
    show depDs xs + 1 ≤ k + 1
    clear l
    have : depDs xs ≤ k := by
      induction xs with
      | nil => exact Nat.zero_le _
      | cons x r ih =>
        show max (depD x) (depDs r) ≤ k
        have h1 := (h x (List.mem_cons_self ..)).dep
        have h2 := ih fun y hy => h y (List.mem_cons_of_mem _ hy)
        omega
    omega
theorem ne_tnil {st : Sto} {xs : List D} (h : pureD (.tup xs) = true) (h2 : depD (.tup xs) ≤ 60) : cmpB .ne (.tup xs) (.tup []) st = some (!xs.isEmpty) := by
  show (eqD (.tup xs) (.tup []) st).map (!·) = _
  rw [eqD_dat (dat_pure h h2) (dat_pure (d := .tup []) rfl (by decide))]
  cases xs with
  | nil => simp [pd, pds, PyData.eqv, PyData.eqvAll]
  | cons x r => simp [pd, pds, PyData.eqv, PyData.eqvAll]
theorem mem_cut {α : Type} {xs : List α} {lo hi : Option Int} {x : α} (h : x ∈ cut xs lo hi) : x ∈ xs := List.mem_of_mem_drop (List.mem_of_mem_take h)
theorem len_cut {α : Type} {xs : List α} {lo hi : Option Int} : (cut xs lo hi).length ≤ xs.length := by
  unfold cut
  rw [List.length_take, List.length_drop]
  omega
theorem slc_tup {xs : List D} {lo hi : Option Int} {st : Sto} : slcB (.tup xs) lo hi st = some (.tup (cut xs lo hi), st) := nr rfl
theorem rev_tup {xs : List D} {st : Sto} : revB (.tup xs) st = some (.tup xs.reverse, st) := nr rfl
theorem list_tup {xs : List D} {st : Sto} : evB .list [.tup xs] st = some (.ref st.length, st ++ [.lst true xs]) := nr rfl
theorem str_int {i : Int} {st : Sto} (h : 0 ≤ i ∧ i < 1000) : evB .str [.int i] st = some (.str (toString i), st) := by
  have l := log_lt (k := 10) h.1 (by omega)
  exact if_pos (by omega)
theorem l_bent_ok {p : Nat} : ∀ (k n B : Nat) (st : Sto) (d : D), itD k d → k ≤ 50 → Pot p B st → B + 3 * k + 3 < 2 ^ 30 → W (callN P0 (n + 4 + k) "_law_bent" [.ref p, d] st) (fun v s => KV st.length s v ∧ Pot p (B + 3 * k + 3) s ∧ Fr [p] st s) NE := by
  intro k
  induction k with
  | zero =>
    rintro n B st d ⟨i, ed, hi1, hi2⟩ hk hp hB
    subst ed
    refine w_def d_l_bent rfl rfl ?_
    have lp := hp.lt
    simp only [b_l_bent, w_ok, w_err, w_non, w_bl, w_int, w_str, w_con, w_var, w_tup, w_lst, w_bin, w_neg, w_not, w_and, w_or, w_cmp, w_chain, w_ite, w_call, w_callV, w_bi, w_isi, w_meth, w_ix, w_slc, w_rev, w_lrng, w_lzip, w_fld, t_not, t_and, t_or, t_cmp, t_var, t_call, t_bi, t_isi, t_ix, t_bl, t_chain, s_nil, s_cons, s_star, o_none, o_some, i_e, i_rng, i_zip, ss_nil, ss_cons, st_expr, st_ret, st_retN, st_pass, st_brk, st_cont, st_asg, st_par, st_setIx, st_iff, st_for, st_raise, ts_nil, ts_one, oQ_some, oQ_none, rq_ret, rq_nx, fq_nx, fq_cont, fq_brk, fq_ret, tgB, setAll, wipe, List.getElem?_cons_zero, List.getElem?_cons_succ, List.set_cons_zero, List.set_cons_succ, List.map_cons, List.map_nil, List.length_cons, List.length_nil, List.cons_append, List.nil_append, List.append_nil, List.replicate_succ, List.replicate_zero, Nat.reduceSub, Nat.sub_self, add_int, sub_int, int_int, int_bl, abs_int, max_int, min_int, len_tup, lt_int, le_int, gt_int, ge_int, eq_int, ne_int, eq_bl, ix_tup, at0, at1, at2, ito_tup, seq_tup, truth_bl, truth_tup, isi_tuple (.int i), isi_bool (.int i), isi_int (.int i), isTup, isInt, isBl, Bool.or_false, str_int ⟨hi1, hi2⟩, show (0 + 1 + 1 + 1 + 1 + 1 + 1 + 1 ≤ LIM) from by decide, show (0 + 1 ≤ LIM) from by decide, if_true]
    refine (of_ok (n := n + 1) (p := p) (B := B) get_last (by omega) (by simp) (by simp) (hp.fr (Fr.app [] _ _)) (by omega)).imp fun v u ⟨hv, q4, fr⟩ => ?_
    refine ⟨?_, q4.mono (by omega), ((Fr.app [] _ _).all).trans fr⟩
    simp only [List.mem_cons, List.not_mem_nil, or_false] at hv
    rcases hv with z | z | z | z | z | z | z <;> rw [z] <;> first | exact kv_one (.int _) | exact .non | exact .bl _ | exact .int _ | exact .str _
  | succ k ih =>
    rintro n B st d hd hk hp hB
    have hpu := hd.pure
    have hdp := hd.dep
    obtain ⟨xs, ed, hl, hx⟩ := hd
    subst ed
    have kv : ∀ {L : Nat} {s : Sto} {x : D}, x ∈ xs → KV L s x := fun hm => (hx _ hm).kv
    have sub : ∀ {L : Nat} {s : Sto} {ys : List D}, (∀ y ∈ ys, y ∈ xs) → ys.length ≤ 5000 → KV L s (.tup ys) := fun h1 h2 => .tup (fun y hy => kv (h1 y hy)) h2
    refine w_def d_l_bent rfl rfl ?_
    have lp := hp.lt
    have hlim : ∀ {a b : Option Int}, xs.length + (cut xs a b).length ≤ LIM := fun {a b} => by
      have := len_cut (xs := xs) (lo := a) (hi := b)
      unfold LIM
      omega
    have rest : ∀ s, Fr [p] st s → Pot p (B + 1) s → W (evSs P0 (callN P0 (n + 4 + k)) (match b_l_bent with
      | .cons _ r => r
      | r => r) [some (.ref p), some (.tup xs), none, none] s) (RQ fun v s => KV st.length s v ∧ Pot p (B + 3 * (k + 1) + 3) s ∧ Fr [p] st s) NE := fun s f q => by
      have ls := q.lt
      simp only [b_l_bent, w_ok, w_err, w_non, w_bl, w_int, w_str, w_con, w_var, w_tup, w_lst, w_bin, w_neg, w_not, w_and, w_or, w_cmp, w_chain, w_ite, w_call, w_callV, w_bi, w_isi, w_meth, w_ix, w_slc, w_rev, w_lrng, w_lzip, w_fld, t_not, t_and, t_or, t_cmp, t_var, t_call, t_bi, t_isi, t_ix, t_bl, t_chain, s_nil, s_cons, s_star, o_none, o_some, i_e, i_rng, i_zip, ss_nil, ss_cons, st_expr, st_ret, st_retN, st_pass, st_brk, st_cont, st_asg, st_par, st_setIx, st_iff, st_for, st_raise, ts_nil, ts_one, oQ_some, oQ_none, rq_ret, rq_nx, fq_nx, fq_cont, fq_brk, fq_ret, tgB, setAll, wipe, List.getElem?_cons_zero, List.getElem?_cons_succ, List.set_cons_zero, List.set_cons_succ, List.map_cons, List.map_nil, List.length_cons, List.length_nil, List.cons_append, List.nil_append, List.append_nil, List.replicate_succ, List.replicate_zero, Nat.reduceSub, Nat.sub_self, add_int, sub_int, int_int, int_bl, abs_int, max_int, min_int, len_tup, lt_int, le_int, gt_int, ge_int, eq_int, ne_int, eq_bl, ix_tup, at0, at1, at2, ito_tup, seq_tup, truth_bl, truth_tup, isi_tuple (.tup xs), isTup, list_tup, slc_tup, rev_tup, add_tup hlim, show (0 + 1 + 1 + 1 + 1 + 1 + 1 + 1 ≤ LIM) from by decide, if_true, List.length_nil, Nat.zero_le]
      have e0 : (s ++ [Cell.lst true xs])[s.length]? = some (.lst true xs) := get_last
      have f0 : Fr [] s (s ++ [Cell.lst true xs]) := Fr.app _ _ _
      generalize hn : s.length = m at e0
      generalize s ++ [Cell.lst true xs] = s1 at e0 f0
      have q1 := q.fr f0
      have l1 := q1.lt
      have hwt : ∀ j, n + 4 + k = j + 2 → W (callN P0 (n + 4 + k) "_law_of" [.ref p, .ref s1.length] (s1 ++ [Cell.lst true [.ref m, .tup (cut xs (some 1) none), .tup (cut xs none (some (-1))), .tup (xs ++ cut xs (some (-1)) none), .tup xs.reverse, .tup [], .non]])) (fun v s => KV st.length s v ∧ Pot p (B + 3 * (k + 1) + 3) s ∧ Fr [p] st s) NE := fun j ej => by
        rw [ej]
        refine (of_ok (n := j) (p := p) (B := B + 1) get_last (by omega) (by simp) (by simp) (q1.fr (Fr.app [] _ _)) (by omega)).imp fun v u ⟨hv, q4, fr⟩ => ?_
        have f2 : Fr [p] s1 u := ((Fr.app [] s1 _).all).trans fr
        refine ⟨?_, q4.mono (by omega), (f.trans f0.all).trans f2⟩
        refine KV.fr (ps := [p]) (by simpa using lp) f2 ?_
        simp only [List.mem_cons, List.not_mem_nil, or_false] at hv
        have lc : ∀ a b, (cut xs a b).length ≤ 1000 := fun a b => by
          have := len_cut (xs := xs) (lo := a) (hi := b)
          omega
        rcases hv with z | z | z | z | z | z | z <;> rw [z]
        · exact .ref (by have := f.1; omega) e0
        · exact sub (fun y hy => mem_cut hy) (by have := lc (some 1) none; omega)
        · exact sub (fun y hy => mem_cut hy) (by have := lc none (some (-1)); omega)
        · exact sub (fun y hy => (List.mem_append.mp hy).elim id mem_cut) (by have := lc (some (-1)) none; rw [List.length_append]; omega)
        · exact sub (fun y hy => List.mem_reverse.mp hy) (by rw [List.length_reverse]; omega)
        · exact kv_nil
        · exact .non
      exact hwt (n + 2 + k) (by omega)
    have eb : ∃ x, b_l_bent = .cons x (match b_l_bent with
      | .cons _ r => r
      | r => r) := ⟨_, rfl⟩
    generalize hr : (match b_l_bent with
      | .cons _ r => r
      | r => r) = r at rest
    have hb : b_l_bent = .cons (.iff (.and (.isi .tuple (.var 1)) (.and (.cmp .ne (.var 1) (.tup .nil)) (.cmp .gt (.call "_law_take" (.cons false (.var 0) (.cons false (.int 5) .nil))) (.int 0)))) (.cons (.asg (.nm 2) (.call "_law_take" (.cons false (.var 0) (.cons false (.bi .len (.cons false (.var 1) .nil)) .nil)))) (.cons (.ret (.bin .add (.bin .add (.slc (.var 1) .none (.some (.var 2))) (.tup (.cons false (.call "_law_bent" (.cons false (.var 0) (.cons false (.ix (.var 1) (.var 2)) .nil))) .nil))) (.slc (.var 1) (.some (.bin .add (.var 2) (.int 1))) .none))) .nil)) .nil) r := by
      rw [← hr]
      rfl
    rw [hb]
    simp only [w_ok, w_err, w_non, w_bl, w_int, w_str, w_con, w_var, w_tup, w_lst, w_bin, w_neg, w_not, w_and, w_or, w_cmp, w_chain, w_ite, w_call, w_callV, w_bi, w_isi, w_meth, w_ix, w_slc, w_rev, w_lrng, w_lzip, w_fld, t_not, t_and, t_or, t_cmp, t_var, t_call, t_bi, t_isi, t_ix, t_bl, t_chain, s_nil, s_cons, s_star, o_none, o_some, i_e, i_rng, i_zip, ss_nil, ss_cons, st_expr, st_ret, st_retN, st_pass, st_brk, st_cont, st_asg, st_par, st_setIx, st_iff, st_for, st_raise, ts_nil, ts_one, oQ_some, oQ_none, rq_ret, rq_nx, fq_nx, fq_cont, fq_brk, fq_ret, tgB, setAll, wipe, List.getElem?_cons_zero, List.getElem?_cons_succ, List.set_cons_zero, List.set_cons_succ, List.map_cons, List.map_nil, List.length_cons, List.length_nil, List.cons_append, List.nil_append, List.append_nil, List.replicate_succ, List.replicate_zero, Nat.reduceSub, Nat.sub_self, add_int, sub_int, int_int, int_bl, abs_int, max_int, min_int, len_tup, lt_int, le_int, gt_int, ge_int, eq_int, ne_int, eq_bl, ix_tup, at0, at1, at2, ito_tup, seq_tup, truth_bl, truth_tup, isi_tuple (.tup xs), isTup, List.length_nil, Nat.zero_le, if_true, ne_tnil hpu (by omega)]
    cases hxs : xs.isEmpty with
    | true =>
      simp only [Bool.not_true, w_ok, w_err, w_non, w_bl, w_int, w_str, w_con, w_var, w_tup, w_lst, w_bin, w_neg, w_not, w_and, w_or, w_cmp, w_chain, w_ite, w_call, w_callV, w_bi, w_isi, w_meth, w_ix, w_slc, w_rev, w_lrng, w_lzip, w_fld, t_not, t_and, t_or, t_cmp, t_var, t_call, t_bi, t_isi, t_ix, t_bl, t_chain, s_nil, s_cons, s_star, o_none, o_some, i_e, i_rng, i_zip, ss_nil, ss_cons, st_expr, st_ret, st_retN, st_pass, st_brk, st_cont, st_asg, st_par, st_setIx, st_iff, st_for, st_raise, ts_nil, ts_one, oQ_some, oQ_none, rq_ret, rq_nx, fq_nx, fq_cont, fq_brk, fq_ret, tgB, setAll, wipe, List.getElem?_cons_zero, List.getElem?_cons_succ, List.set_cons_zero, List.set_cons_succ, List.map_cons, List.map_nil, List.length_cons, List.length_nil, List.cons_append, List.nil_append, List.append_nil, List.replicate_succ, List.replicate_zero, Nat.reduceSub, Nat.sub_self, add_int, sub_int, int_int, int_bl, abs_int, max_int, min_int, len_tup, lt_int, le_int, gt_int, ge_int, eq_int, ne_int, eq_bl, ix_tup, at0, at1, at2, ito_tup, seq_tup, truth_bl, truth_tup]
      exact rest st (Fr.refl _ _) (hp.mono (by omega))
    | false =>
      simp only [Bool.not_false, w_ok, w_err, w_non, w_bl, w_int, w_str, w_con, w_var, w_tup, w_lst, w_bin, w_neg, w_not, w_and, w_or, w_cmp, w_chain, w_ite, w_call, w_callV, w_bi, w_isi, w_meth, w_ix, w_slc, w_rev, w_lrng, w_lzip, w_fld, t_not, t_and, t_or, t_cmp, t_var, t_call, t_bi, t_isi, t_ix, t_bl, t_chain, s_nil, s_cons, s_star, o_none, o_some, i_e, i_rng, i_zip, ss_nil, ss_cons, st_expr, st_ret, st_retN, st_pass, st_brk, st_cont, st_asg, st_par, st_setIx, st_iff, st_for, st_raise, ts_nil, ts_one, oQ_some, oQ_none, rq_ret, rq_nx, fq_nx, fq_cont, fq_brk, fq_ret, tgB, setAll, wipe, List.getElem?_cons_zero, List.getElem?_cons_succ, List.set_cons_zero, List.set_cons_succ, List.map_cons, List.map_nil, List.length_cons, List.length_nil, List.cons_append, List.nil_append, List.append_nil, List.replicate_succ, List.replicate_zero, Nat.reduceSub, Nat.sub_self, add_int, sub_int, int_int, int_bl, abs_int, max_int, min_int, len_tup, lt_int, le_int, gt_int, ge_int, eq_int, ne_int, eq_bl, ix_tup, at0, at1, at2, ito_tup, seq_tup, truth_bl, truth_tup]
      have hne : 0 < xs.length := by
        cases xs with
        | nil => cases hxs
        | cons x r => simp
      have t1 := take_ok (n := n + 3 + k) (u := 5) (by decide) (by decide) hp (by omega)
      rw [show n + 3 + k + 1 = n + 4 + k by omega] at t1
      refine t1.imp fun v s ⟨t, ev, h1, h2, h3, h4⟩ => ?_
      subst ev
      simp only [w_ok, w_err, w_non, w_bl, w_int, w_str, w_con, w_var, w_tup, w_lst, w_bin, w_neg, w_not, w_and, w_or, w_cmp, w_chain, w_ite, w_call, w_callV, w_bi, w_isi, w_meth, w_ix, w_slc, w_rev, w_lrng, w_lzip, w_fld, t_not, t_and, t_or, t_cmp, t_var, t_call, t_bi, t_isi, t_ix, t_bl, t_chain, s_nil, s_cons, s_star, o_none, o_some, i_e, i_rng, i_zip, ss_nil, ss_cons, st_expr, st_ret, st_retN, st_pass, st_brk, st_cont, st_asg, st_par, st_setIx, st_iff, st_for, st_raise, ts_nil, ts_one, oQ_some, oQ_none, rq_ret, rq_nx, fq_nx, fq_cont, fq_brk, fq_ret, tgB, setAll, wipe, List.getElem?_cons_zero, List.getElem?_cons_succ, List.set_cons_zero, List.set_cons_succ, List.map_cons, List.map_nil, List.length_cons, List.length_nil, List.cons_append, List.nil_append, List.append_nil, List.replicate_succ, List.replicate_zero, Nat.reduceSub, Nat.sub_self, add_int, sub_int, int_int, int_bl, abs_int, max_int, min_int, len_tup, lt_int, le_int, gt_int, ge_int, eq_int, ne_int, eq_bl, ix_tup, at0, at1, at2, ito_tup, seq_tup, truth_bl, truth_tup]
      by_cases ht : 0 < t
      · simp only [ht, decide_true, w_ok, w_err, w_non, w_bl, w_int, w_str, w_con, w_var, w_tup, w_lst, w_bin, w_neg, w_not, w_and, w_or, w_cmp, w_chain, w_ite, w_call, w_callV, w_bi, w_isi, w_meth, w_ix, w_slc, w_rev, w_lrng, w_lzip, w_fld, t_not, t_and, t_or, t_cmp, t_var, t_call, t_bi, t_isi, t_ix, t_bl, t_chain, s_nil, s_cons, s_star, o_none, o_some, i_e, i_rng, i_zip, ss_nil, ss_cons, st_expr, st_ret, st_retN, st_pass, st_brk, st_cont, st_asg, st_par, st_setIx, st_iff, st_for, st_raise, ts_nil, ts_one, oQ_some, oQ_none, rq_ret, rq_nx, fq_nx, fq_cont, fq_brk, fq_ret, tgB, setAll, wipe, List.getElem?_cons_zero, List.getElem?_cons_succ, List.set_cons_zero, List.set_cons_succ, List.map_cons, List.map_nil, List.length_cons, List.length_nil, List.cons_append, List.nil_append, List.append_nil, List.replicate_succ, List.replicate_zero, Nat.reduceSub, Nat.sub_self, add_int, sub_int, int_int, int_bl, abs_int, max_int, min_int, len_tup, lt_int, le_int, gt_int, ge_int, eq_int, ne_int, eq_bl, ix_tup, at0, at1, at2, ito_tup, seq_tup, truth_bl, truth_tup]
        have t2 := take_ok (n := n + 3 + k) (u := (xs.length : Int)) (by omega) (by omega) h3 (by omega)
        rw [show n + 3 + k + 1 = n + 4 + k by omega] at t2
        refine t2.imp fun v s2 ⟨a, ev, g1, g2, g3, g4⟩ => ?_
        subst ev
        have ha : a.toNat < xs.length := by omega
        simp only [w_ok, w_err, w_non, w_bl, w_int, w_str, w_con, w_var, w_tup, w_lst, w_bin, w_neg, w_not, w_and, w_or, w_cmp, w_chain, w_ite, w_call, w_callV, w_bi, w_isi, w_meth, w_ix, w_slc, w_rev, w_lrng, w_lzip, w_fld, t_not, t_and, t_or, t_cmp, t_var, t_call, t_bi, t_isi, t_ix, t_bl, t_chain, s_nil, s_cons, s_star, o_none, o_some, i_e, i_rng, i_zip, ss_nil, ss_cons, st_expr, st_ret, st_retN, st_pass, st_brk, st_cont, st_asg, st_par, st_setIx, st_iff, st_for, st_raise, ts_nil, ts_one, oQ_some, oQ_none, rq_ret, rq_nx, fq_nx, fq_cont, fq_brk, fq_ret, tgB, setAll, wipe, List.getElem?_cons_zero, List.getElem?_cons_succ, List.set_cons_zero, List.set_cons_succ, List.map_cons, List.map_nil, List.length_cons, List.length_nil, List.cons_append, List.nil_append, List.append_nil, List.replicate_succ, List.replicate_zero, Nat.reduceSub, Nat.sub_self, add_int, sub_int, int_int, int_bl, abs_int, max_int, min_int, len_tup, lt_int, le_int, gt_int, ge_int, eq_int, ne_int, eq_bl, ix_tup, at0, at1, at2, ito_tup, seq_tup, truth_bl, truth_tup, slc_tup, (at_nat g1).trans (List.getElem?_eq_getElem ha)]
        refine (ih n (B + 2) s2 xs[a.toNat] (hx _ (List.getElem_mem ha)) (by omega) (g3.mono (by omega)) (by omega)).imp fun v s3 ⟨k1, k2, k3⟩ => ?_
        have lc : ∀ a b, (cut xs a b).length ≤ 1000 := fun a b => by
          have := len_cut (xs := xs) (lo := a) (hi := b)
          omega
        have c1 := lc none (some a)
        have c2 := lc (some (a + 1)) none
        have hm1 : (cut xs none (some a)).length + [v].length ≤ LIM := by
          rw [List.length_singleton]
          unfold LIM
          omega
        have hm2 : (cut xs none (some a) ++ [v]).length + (cut xs (some (a + 1)) none).length ≤ LIM := by
          rw [List.length_append, List.length_singleton]
          unfold LIM
          omega
        simp only [w_ok, w_err, w_non, w_bl, w_int, w_str, w_con, w_var, w_tup, w_lst, w_bin, w_neg, w_not, w_and, w_or, w_cmp, w_chain, w_ite, w_call, w_callV, w_bi, w_isi, w_meth, w_ix, w_slc, w_rev, w_lrng, w_lzip, w_fld, t_not, t_and, t_or, t_cmp, t_var, t_call, t_bi, t_isi, t_ix, t_bl, t_chain, s_nil, s_cons, s_star, o_none, o_some, i_e, i_rng, i_zip, ss_nil, ss_cons, st_expr, st_ret, st_retN, st_pass, st_brk, st_cont, st_asg, st_par, st_setIx, st_iff, st_for, st_raise, ts_nil, ts_one, oQ_some, oQ_none, rq_ret, rq_nx, fq_nx, fq_cont, fq_brk, fq_ret, tgB, setAll, wipe, List.getElem?_cons_zero, List.getElem?_cons_succ, List.set_cons_zero, List.set_cons_succ, List.map_cons, List.map_nil, List.length_cons, List.length_nil, List.cons_append, List.nil_append, List.append_nil, List.replicate_succ, List.replicate_zero, Nat.reduceSub, Nat.sub_self, add_int, sub_int, int_int, int_bl, abs_int, max_int, min_int, len_tup, lt_int, le_int, gt_int, ge_int, eq_int, ne_int, eq_bl, ix_tup, at0, at1, at2, ito_tup, seq_tup, truth_bl, truth_tup, show (0 + 1 ≤ LIM) from by decide, if_true, add_tup hm1, add_tup hm2]
        refine ⟨.tup (fun x hx2 => ?_) ?_, k2.mono (by omega), (h4.trans g4).trans k3⟩
        · rcases List.mem_append.mp hx2 with z | z
          · rcases List.mem_append.mp z with z | z
            · exact kv (mem_cut z)
            · rw [List.mem_singleton.mp z]
              exact k1.mono (h4.trans g4).1
          · exact kv (mem_cut z)
        · rw [List.length_append, List.length_append, List.length_singleton]
          omega
      · simp only [ht, decide_false, w_ok, w_err, w_non, w_bl, w_int, w_str, w_con, w_var, w_tup, w_lst, w_bin, w_neg, w_not, w_and, w_or, w_cmp, w_chain, w_ite, w_call, w_callV, w_bi, w_isi, w_meth, w_ix, w_slc, w_rev, w_lrng, w_lzip, w_fld, t_not, t_and, t_or, t_cmp, t_var, t_call, t_bi, t_isi, t_ix, t_bl, t_chain, s_nil, s_cons, s_star, o_none, o_some, i_e, i_rng, i_zip, ss_nil, ss_cons, st_expr, st_ret, st_retN, st_pass, st_brk, st_cont, st_asg, st_par, st_setIx, st_iff, st_for, st_raise, ts_nil, ts_one, oQ_some, oQ_none, rq_ret, rq_nx, fq_nx, fq_cont, fq_brk, fq_ret, tgB, setAll, wipe, List.getElem?_cons_zero, List.getElem?_cons_succ, List.set_cons_zero, List.set_cons_succ, List.map_cons, List.map_nil, List.length_cons, List.length_nil, List.cons_append, List.nil_append, List.append_nil, List.replicate_succ, List.replicate_zero, Nat.reduceSub, Nat.sub_self, add_int, sub_int, int_int, int_bl, abs_int, max_int, min_int, len_tup, lt_int, le_int, gt_int, ge_int, eq_int, ne_int, eq_bl, ix_tup, at0, at1, at2, ito_tup, seq_tup, truth_bl, truth_tup]
        exact rest s h4 h3
end K01
end
section
set_option autoImplicit false
set_option linter.all false
set_option maxRecDepth 100000
set_option maxHeartbeats 4000000
namespace K01
open PySem PyI
theorem d_l_are_refused : P0.defs "_law_are_refused" = some ⟨2, 8, b_l_are_refused⟩ := by kernel_rfl
theorem sub_bs : P0.sub "BadSet" "BadSet" = some true := by kernel_rfl
theorem sub_bf : P0.sub "BadSet" "FormatError" = some true := by kernel_rfl
theorem sm_rgs : ∀ {ps : Rg}, (∀ p ∈ ps, 0 ≤ p.1 ∧ p.1 ≤ p.2 ∧ p.2 ≤ 255) → smDs (ps.map prD) = true
  | [], _ => rfl
  | p :: r, h => by
    obtain ⟨h1, h2, h3⟩ := h p (List.mem_cons_self ..)
    show (smD (prD p) && smDs (r.map prD)) = true
    rw [sm_rgs fun q hq => h q (List.mem_cons_of_mem _ hq)]
    simp only [prD, smD, smDs, Bool.and_true, Bool.and_eq_true, decide_eq_true_eq]
    omega
theorem sm_rg {ps : Rg} (c : Can 0 ps) : smD (rgD ps) = true := sm_rgs (can_item c)
theorem wt_rgs : ∀ ps : Rg, wtDs (ps.map prD) = 19 * ps.length
  | [] => rfl
  | p :: r => by
    show wtD (prD p) + 2 + wtDs (r.map prD) = _
    rw [wt_rgs r, List.length_cons]
    simp only [prD, wtD, wtDs]
    omega
theorem wt_rg {ps : Rg} (c : Can 0 ps) : wtD (rgD ps) ≤ 2435 := by
  have := can_len0 c
  show wtDs (ps.map prD) + 3 ≤ _
  rw [wt_rgs]
  omega
theorem dp_rg {ps : Rg} : depD (rgD ps) ≤ 2 := by
  have := dep_rg ps
  show depDs (ps.map prD) + 1 ≤ 2
  omega
theorem sms_rep {d : D} (h : smD d = true) : ∀ k, smDs (List.replicate k d) = true
  | 0 => rfl
  | k + 1 => by
    show (smD d && smDs (List.replicate k d)) = true
    rw [h, sms_rep h k]
    rfl
theorem dep_rep {d : D} {m : Nat} (h : depD d ≤ m) : ∀ k, depDs (List.replicate k d) ≤ m
  | 0 => Nat.zero_le _
  | k + 1 => by
    show max (depD d) (depDs (List.replicate k d)) ≤ m
    have := dep_rep h k
    omega
theorem wt_rep {d : D} : ∀ k, wtDs (List.replicate k d) = k * (wtD d + 2)
  | 0 => by simp [wtDs]
  | k + 1 => by
    show wtD d + 2 + wtDs (List.replicate k d) = _
    rw [wt_rep k, Nat.succ_mul]
    omega
theorem smof_rg {st : Sto} {ps : Rg} (c : Can 0 ps) : SmOf st (rgD ps) (pd (rgD ps)) := .inl ⟨sm_rg c, by have := dp_rg (ps := ps); omega, by have := wt_rg c; unfold LIM; omega, rfl⟩
theorem smof_bl {st : Sto} {b : Bool} : SmOf st (.bl b) (pd (.bl b)) := .inl ⟨rfl, by show 0 ≤ 60; decide, by show 5 ≤ LIM; unfold LIM; omega, rfl⟩
theorem isi_bs {v : D} {st : Sto} : isiB (.cls "BadSet") P0.sub (.exc "BadSet" v) st = some true := by
  show (if P0.sub "BadSet" "BadSet" = some true then P0.sub "BadSet" "BadSet" else none) = _
  rw [sub_bs]
  rfl
/-- a value that is no row of ranges -/
def BadV (p : Nat) (st : Sto) (v : D) : Prop := isSet v = false ∧ KV 0 st v ∧ ((smD v = true ∧ depD v ≤ 3 ∧ wtD v ≤ 100) ∨ ∃ n w, v = .ref n ∧ st[n]? = some (.lst w [.tup [.int 0, .int 1]]))
theorem BadV.fr {p : Nat} {s t : Sto} {v : D} (h : BadV p s v) (f : Fr [] s t) : BadV p t v := by
  obtain ⟨h1, h2, h3⟩ := h
  refine ⟨h1, h2.fr (fun i hi => by cases hi) f, ?_⟩
  rcases h3 with z | ⟨n, w, e, z⟩
  · exact .inl z
  · exact .inr ⟨n, w, e, f.get z⟩
/-- .. and its text -/
theorem BadV.rep {p : Nat} {s : Sto} {v : D} (h : BadV p s v) : ∃ q, ∀ t, Fr [] s t → SmOf t v q := by
  obtain ⟨h1, h2, h3⟩ := h
  rcases h3 with ⟨z1, z2, z3⟩ | ⟨n, w, e, z⟩
  · exact ⟨_, fun t _ => .inl ⟨z1, by omega, by unfold LIM; omega, rfl⟩⟩
  · exact ⟨_, fun t f => .inr ⟨n, w, _, e, f.get z, by decide, by decide, by decide, rfl⟩⟩
theorem BadV.rep2 {p : Nat} {s : Sto} {v : D} (h : BadV p s v) : ∃ x, evB .repr [.tup [v, v]] s = some (.str x, s) ∧ PyData.strOk x = true := by
  obtain ⟨h1, h2, h3⟩ := h
  rcases h3 with ⟨z1, z2, z3⟩ | ⟨n, w, e, z⟩
  · have sm : SmOf s (.tup [v, v]) (pd (.tup [v, v])) := .inl ⟨by simp [smD, smDs, z1], by simp only [depD, depDs]; omega, by simp only [wtD, wtDs]; unfold LIM; omega, rfl⟩
    exact ⟨_, repr_sm sm⟩
  · subst e
    have d1 : deepN 65 s (.ref n) = some (.list [.tuple [.int 0, .int 1]]) := by
      show (match s[n]? with
        | some (.lst _ ds) => (ds.mapM (deepN 64 s)).map PyData.list
        | _ => none) = _
      rw [z]
      rfl
    have d2 : deep s (.tup [.ref n, .ref n]) = some (.tuple [.list [.tuple [.int 0, .int 1]], .list [.tuple [.int 0, .int 1]]]) := by
      show ([D.ref n, D.ref n].mapM (deepN 65 s)).map PyData.tuple = _
      rw [List.mapM_cons, List.mapM_cons, d1]
      rfl
    refine ⟨(PyData.tuple [.list [.tuple [.int 0, .int 1]], .list [.tuple [.int 0, .int 1]]]).shown, ?_, by decide +kernel⟩
    show (match deep s (.tup [.ref n, .ref n]) with
      | some p => if p.showable && decide (p.shown.length ≤ LIM) && decide (p.depth ≤ 64) then some (D.str p.shown, s) else none
      | none => none) = _
    rw [d2]
    have d3 : ((PyData.tuple [.list [.tuple [.int 0, .int 1]], .list [.tuple [.int 0, .int 1]]]).showable && decide ((PyData.tuple [.list [.tuple [.int 0, .int 1]], .list [.tuple [.int 0, .int 1]]]).shown.length ≤ LIM) && decide ((PyData.tuple [.list [.tuple [.int 0, .int 1]], .list [.tuple [.int 0, .int 1]]]).depth ≤ 64)) = true := by decide +kernel
    exact if_pos d3
/-! ### refused -/
abbrev Refu (v : D) (st : Sto) : Str → D → Sto → Prop := fun c v' s => c = "BadSet" ∧ v' = v ∧ Fr [] st s
section
variable {n p : Nat} {st : Sto} {v : D} {ps : Rg}
theorem chk_bad (h : BadV p st v) : W (callN P0 (n + 5) "check_set" [v] st) (fun _ _ => False) (Refu v st) := check_set_bad (h.2.1.kn 2) h.2.1.len h.1
theorem refuse1 (h : BadV p st v) {f : Str} (hf : f = "numbers" ∨ f = "others") : W (callN P0 (n + 6) f [v] st) (fun _ _ => False) (Refu v st) := by
  rcases hf with z | z <;> subst z
  · refine w_def d_numbers rfl rfl ?_
    simp only [b_numbers, w_ok, w_err, w_non, w_bl, w_int, w_str, w_con, w_var, w_tup, w_lst, w_bin, w_neg, w_not, w_and, w_or, w_cmp, w_chain, w_ite, w_call, w_callV, w_bi, w_isi, w_meth, w_ix, w_slc, w_rev, w_lrng, w_lzip, w_fld, t_not, t_and, t_or, t_cmp, t_var, t_call, t_bi, t_isi, t_ix, t_bl, t_chain, s_nil, s_cons, s_star, o_none, o_some, i_e, i_rng, i_zip, ss_nil, ss_cons, st_expr, st_ret, st_retN, st_pass, st_brk, st_cont, st_asg, st_par, st_setIx, st_iff, st_for, st_raise, ts_nil, ts_one, oQ_some, oQ_none, rq_ret, rq_nx, fq_nx, fq_cont, fq_brk, fq_ret, tgB, setAll, wipe, List.getElem?_cons_zero, List.getElem?_cons_succ, List.set_cons_zero, List.set_cons_succ, List.map_cons, List.map_nil, List.length_cons, List.length_nil, List.cons_append, List.nil_append, List.append_nil, List.replicate_succ, List.replicate_zero, Nat.reduceSub, Nat.sub_self, add_int, sub_int, int_int, int_bl, abs_int, max_int, min_int, len_tup, lt_int, le_int, gt_int, ge_int, eq_int, ne_int, eq_bl, ix_tup, at0, at1, at2, ito_tup, seq_tup, truth_bl, truth_tup]
    exact (chk_bad h).mono (fun _ _ z => False.elim z) fun _ _ _ z => z
  · refine w_def d_others rfl rfl ?_
    simp only [b_others, w_ok, w_err, w_non, w_bl, w_int, w_str, w_con, w_var, w_tup, w_lst, w_bin, w_neg, w_not, w_and, w_or, w_cmp, w_chain, w_ite, w_call, w_callV, w_bi, w_isi, w_meth, w_ix, w_slc, w_rev, w_lrng, w_lzip, w_fld, t_not, t_and, t_or, t_cmp, t_var, t_call, t_bi, t_isi, t_ix, t_bl, t_chain, s_nil, s_cons, s_star, o_none, o_some, i_e, i_rng, i_zip, ss_nil, ss_cons, st_expr, st_ret, st_retN, st_pass, st_brk, st_cont, st_asg, st_par, st_setIx, st_iff, st_for, st_raise, ts_nil, ts_one, oQ_some, oQ_none, rq_ret, rq_nx, fq_nx, fq_cont, fq_brk, fq_ret, tgB, setAll, wipe, List.getElem?_cons_zero, List.getElem?_cons_succ, List.set_cons_zero, List.set_cons_succ, List.map_cons, List.map_nil, List.length_cons, List.length_nil, List.cons_append, List.nil_append, List.append_nil, List.replicate_succ, List.replicate_zero, Nat.reduceSub, Nat.sub_self, add_int, sub_int, int_int, int_bl, abs_int, max_int, min_int, len_tup, lt_int, le_int, gt_int, ge_int, eq_int, ne_int, eq_bl, ix_tup, at0, at1, at2, ito_tup, seq_tup, truth_bl, truth_tup]
    exact (chk_bad h).mono (fun _ _ z => False.elim z) fun _ _ _ z => z
theorem refuse2 (h : BadV p st v) {e : D} {f : Str} (hf : f = "either" ∨ f = "both" ∨ f = "without") : W (callN P0 (n + 6) f [v, e] st) (fun _ _ => False) (Refu v st) := by
  rcases hf with z | z | z <;> subst z
  · refine w_def d_either rfl rfl ?_
    simp only [b_either, w_ok, w_err, w_non, w_bl, w_int, w_str, w_con, w_var, w_tup, w_lst, w_bin, w_neg, w_not, w_and, w_or, w_cmp, w_chain, w_ite, w_call, w_callV, w_bi, w_isi, w_meth, w_ix, w_slc, w_rev, w_lrng, w_lzip, w_fld, t_not, t_and, t_or, t_cmp, t_var, t_call, t_bi, t_isi, t_ix, t_bl, t_chain, s_nil, s_cons, s_star, o_none, o_some, i_e, i_rng, i_zip, ss_nil, ss_cons, st_expr, st_ret, st_retN, st_pass, st_brk, st_cont, st_asg, st_par, st_setIx, st_iff, st_for, st_raise, ts_nil, ts_one, oQ_some, oQ_none, rq_ret, rq_nx, fq_nx, fq_cont, fq_brk, fq_ret, tgB, setAll, wipe, List.getElem?_cons_zero, List.getElem?_cons_succ, List.set_cons_zero, List.set_cons_succ, List.map_cons, List.map_nil, List.length_cons, List.length_nil, List.cons_append, List.nil_append, List.append_nil, List.replicate_succ, List.replicate_zero, Nat.reduceSub, Nat.sub_self, add_int, sub_int, int_int, int_bl, abs_int, max_int, min_int, len_tup, lt_int, le_int, gt_int, ge_int, eq_int, ne_int, eq_bl, ix_tup, at0, at1, at2, ito_tup, seq_tup, truth_bl, truth_tup]
    exact (chk_bad h).mono (fun _ _ z => False.elim z) fun _ _ _ z => z
  · refine w_def d_both rfl rfl ?_
    simp only [b_both, w_ok, w_err, w_non, w_bl, w_int, w_str, w_con, w_var, w_tup, w_lst, w_bin, w_neg, w_not, w_and, w_or, w_cmp, w_chain, w_ite, w_call, w_callV, w_bi, w_isi, w_meth, w_ix, w_slc, w_rev, w_lrng, w_lzip, w_fld, t_not, t_and, t_or, t_cmp, t_var, t_call, t_bi, t_isi, t_ix, t_bl, t_chain, s_nil, s_cons, s_star, o_none, o_some, i_e, i_rng, i_zip, ss_nil, ss_cons, st_expr, st_ret, st_retN, st_pass, st_brk, st_cont, st_asg, st_par, st_setIx, st_iff, st_for, st_raise, ts_nil, ts_one, oQ_some, oQ_none, rq_ret, rq_nx, fq_nx, fq_cont, fq_brk, fq_ret, tgB, setAll, wipe, List.getElem?_cons_zero, List.getElem?_cons_succ, List.set_cons_zero, List.set_cons_succ, List.map_cons, List.map_nil, List.length_cons, List.length_nil, List.cons_append, List.nil_append, List.append_nil, List.replicate_succ, List.replicate_zero, Nat.reduceSub, Nat.sub_self, add_int, sub_int, int_int, int_bl, abs_int, max_int, min_int, len_tup, lt_int, le_int, gt_int, ge_int, eq_int, ne_int, eq_bl, ix_tup, at0, at1, at2, ito_tup, seq_tup, truth_bl, truth_tup]
    exact (chk_bad h).mono (fun _ _ z => False.elim z) fun _ _ _ z => z
  · refine w_def d_without rfl rfl ?_
    simp only [b_without, w_ok, w_err, w_non, w_bl, w_int, w_str, w_con, w_var, w_tup, w_lst, w_bin, w_neg, w_not, w_and, w_or, w_cmp, w_chain, w_ite, w_call, w_callV, w_bi, w_isi, w_meth, w_ix, w_slc, w_rev, w_lrng, w_lzip, w_fld, t_not, t_and, t_or, t_cmp, t_var, t_call, t_bi, t_isi, t_ix, t_bl, t_chain, s_nil, s_cons, s_star, o_none, o_some, i_e, i_rng, i_zip, ss_nil, ss_cons, st_expr, st_ret, st_retN, st_pass, st_brk, st_cont, st_asg, st_par, st_setIx, st_iff, st_for, st_raise, ts_nil, ts_one, oQ_some, oQ_none, rq_ret, rq_nx, fq_nx, fq_cont, fq_brk, fq_ret, tgB, setAll, wipe, List.getElem?_cons_zero, List.getElem?_cons_succ, List.set_cons_zero, List.set_cons_succ, List.map_cons, List.map_nil, List.length_cons, List.length_nil, List.cons_append, List.nil_append, List.append_nil, List.replicate_succ, List.replicate_zero, Nat.reduceSub, Nat.sub_self, add_int, sub_int, int_int, int_bl, abs_int, max_int, min_int, len_tup, lt_int, le_int, gt_int, ge_int, eq_int, ne_int, eq_bl, ix_tup, at0, at1, at2, ito_tup, seq_tup, truth_bl, truth_tup]
    exact (chk_bad h).mono (fun _ _ z => False.elim z) fun _ _ _ z => z
theorem refuse3 (c : Can 0 ps) (h : BadV p st v) {f : Str} (hf : f = "either" ∨ f = "both" ∨ f = "without") : W (callN P0 (n + 6) f [rgD ps, v] st) (fun _ _ => False) (Refu v st) := by
  have key : ∀ s, Fr [] st s → W (callN P0 (n + 5) "check_set" [v] s) (fun _ _ => False) (Refu v st) := fun s f => (chk_bad (h.fr f)).mono (fun _ _ z => z) fun c' v' t ⟨z1, z2, z3⟩ => ⟨z1, z2, f.trans z3⟩
  rcases hf with z | z | z <;> subst z
  · refine w_def d_either rfl rfl ?_
    simp only [b_either, w_ok, w_err, w_non, w_bl, w_int, w_str, w_con, w_var, w_tup, w_lst, w_bin, w_neg, w_not, w_and, w_or, w_cmp, w_chain, w_ite, w_call, w_callV, w_bi, w_isi, w_meth, w_ix, w_slc, w_rev, w_lrng, w_lzip, w_fld, t_not, t_and, t_or, t_cmp, t_var, t_call, t_bi, t_isi, t_ix, t_bl, t_chain, s_nil, s_cons, s_star, o_none, o_some, i_e, i_rng, i_zip, ss_nil, ss_cons, st_expr, st_ret, st_retN, st_pass, st_brk, st_cont, st_asg, st_par, st_setIx, st_iff, st_for, st_raise, ts_nil, ts_one, oQ_some, oQ_none, rq_ret, rq_nx, fq_nx, fq_cont, fq_brk, fq_ret, tgB, setAll, wipe, List.getElem?_cons_zero, List.getElem?_cons_succ, List.set_cons_zero, List.set_cons_succ, List.map_cons, List.map_nil, List.length_cons, List.length_nil, List.cons_append, List.nil_append, List.append_nil, List.replicate_succ, List.replicate_zero, Nat.reduceSub, Nat.sub_self, add_int, sub_int, int_int, int_bl, abs_int, max_int, min_int, len_tup, lt_int, le_int, gt_int, ge_int, eq_int, ne_int, eq_bl, ix_tup, at0, at1, at2, ito_tup, seq_tup, truth_bl, truth_tup]
    refine (check_set_ok (n := n) c).ne fun w s ⟨f, _⟩ => ?_
    exact (key s f).mono (fun _ _ z => False.elim z) fun _ _ _ z => z
  · refine w_def d_both rfl rfl ?_
    simp only [b_both, w_ok, w_err, w_non, w_bl, w_int, w_str, w_con, w_var, w_tup, w_lst, w_bin, w_neg, w_not, w_and, w_or, w_cmp, w_chain, w_ite, w_call, w_callV, w_bi, w_isi, w_meth, w_ix, w_slc, w_rev, w_lrng, w_lzip, w_fld, t_not, t_and, t_or, t_cmp, t_var, t_call, t_bi, t_isi, t_ix, t_bl, t_chain, s_nil, s_cons, s_star, o_none, o_some, i_e, i_rng, i_zip, ss_nil, ss_cons, st_expr, st_ret, st_retN, st_pass, st_brk, st_cont, st_asg, st_par, st_setIx, st_iff, st_for, st_raise, ts_nil, ts_one, oQ_some, oQ_none, rq_ret, rq_nx, fq_nx, fq_cont, fq_brk, fq_ret, tgB, setAll, wipe, List.getElem?_cons_zero, List.getElem?_cons_succ, List.set_cons_zero, List.set_cons_succ, List.map_cons, List.map_nil, List.length_cons, List.length_nil, List.cons_append, List.nil_append, List.append_nil, List.replicate_succ, List.replicate_zero, Nat.reduceSub, Nat.sub_self, add_int, sub_int, int_int, int_bl, abs_int, max_int, min_int, len_tup, lt_int, le_int, gt_int, ge_int, eq_int, ne_int, eq_bl, ix_tup, at0, at1, at2, ito_tup, seq_tup, truth_bl, truth_tup]
    refine (check_set_ok (n := n) c).ne fun w s ⟨f, _⟩ => ?_
    exact (key s f).mono (fun _ _ z => False.elim z) fun _ _ _ z => z
  · refine w_def d_without rfl rfl ?_
    simp only [b_without, w_ok, w_err, w_non, w_bl, w_int, w_str, w_con, w_var, w_tup, w_lst, w_bin, w_neg, w_not, w_and, w_or, w_cmp, w_chain, w_ite, w_call, w_callV, w_bi, w_isi, w_meth, w_ix, w_slc, w_rev, w_lrng, w_lzip, w_fld, t_not, t_and, t_or, t_cmp, t_var, t_call, t_bi, t_isi, t_ix, t_bl, t_chain, s_nil, s_cons, s_star, o_none, o_some, i_e, i_rng, i_zip, ss_nil, ss_cons, st_expr, st_ret, st_retN, st_pass, st_brk, st_cont, st_asg, st_par, st_setIx, st_iff, st_for, st_raise, ts_nil, ts_one, oQ_some, oQ_none, rq_ret, rq_nx, fq_nx, fq_cont, fq_brk, fq_ret, tgB, setAll, wipe, List.getElem?_cons_zero, List.getElem?_cons_succ, List.set_cons_zero, List.set_cons_succ, List.map_cons, List.map_nil, List.length_cons, List.length_nil, List.cons_append, List.nil_append, List.append_nil, List.replicate_succ, List.replicate_zero, Nat.reduceSub, Nat.sub_self, add_int, sub_int, int_int, int_bl, abs_int, max_int, min_int, len_tup, lt_int, le_int, gt_int, ge_int, eq_int, ne_int, eq_bl, ix_tup, at0, at1, at2, ito_tup, seq_tup, truth_bl, truth_tup]
    refine (check_set_ok (n := n) c).ne fun w s ⟨f, _⟩ => ?_
    exact (key s f).mono (fun _ _ z => False.elim z) fun _ _ _ z => z
theorem cls_lst {m : Nat} {w : Bool} {xs : List D} (e : st[m]? = some (.lst w xs)) : W (callN P0 (n + 6) "classes" [.ref m] st) (fun _ _ => False) (Refu (.ref m) st) := by
  refine w_def d_classes rfl rfl ?_
  simp only [b_classes, w_ok, w_err, w_non, w_bl, w_int, w_str, w_con, w_var, w_tup, w_lst, w_bin, w_neg, w_not, w_and, w_or, w_cmp, w_chain, w_ite, w_call, w_callV, w_bi, w_isi, w_meth, w_ix, w_slc, w_rev, w_lrng, w_lzip, w_fld, t_not, t_and, t_or, t_cmp, t_var, t_call, t_bi, t_isi, t_ix, t_bl, t_chain, s_nil, s_cons, s_star, o_none, o_some, i_e, i_rng, i_zip, ss_nil, ss_cons, st_expr, st_ret, st_retN, st_pass, st_brk, st_cont, st_asg, st_par, st_setIx, st_iff, st_for, st_raise, ts_nil, ts_one, oQ_some, oQ_none, rq_ret, rq_nx, fq_nx, fq_cont, fq_brk, fq_ret, tgB, setAll, wipe, List.getElem?_cons_zero, List.getElem?_cons_succ, List.set_cons_zero, List.set_cons_succ, List.map_cons, List.map_nil, List.length_cons, List.length_nil, List.cons_append, List.nil_append, List.append_nil, List.replicate_succ, List.replicate_zero, Nat.reduceSub, Nat.sub_self, add_int, sub_int, int_int, int_bl, abs_int, max_int, min_int, len_tup, lt_int, le_int, gt_int, ge_int, eq_int, ne_int, eq_bl, ix_tup, at0, at1, at2, ito_tup, seq_tup, truth_bl, truth_tup]
  have h1 : W (callN P0 (n + 5) "is_tuple" [.ref m, .int 0, .int 300] st) (fun v s => s = st ∧ v = .bl false) NE := by
    refine w_def d_is_tuple rfl rfl ?_
    simp only [b_is_tuple, w_ok, w_err, w_non, w_bl, w_int, w_str, w_con, w_var, w_tup, w_lst, w_bin, w_neg, w_not, w_and, w_or, w_cmp, w_chain, w_ite, w_call, w_callV, w_bi, w_isi, w_meth, w_ix, w_slc, w_rev, w_lrng, w_lzip, w_fld, t_not, t_and, t_or, t_cmp, t_var, t_call, t_bi, t_isi, t_ix, t_bl, t_chain, s_nil, s_cons, s_star, o_none, o_some, i_e, i_rng, i_zip, ss_nil, ss_cons, st_expr, st_ret, st_retN, st_pass, st_brk, st_cont, st_asg, st_par, st_setIx, st_iff, st_for, st_raise, ts_nil, ts_one, oQ_some, oQ_none, rq_ret, rq_nx, fq_nx, fq_cont, fq_brk, fq_ret, tgB, setAll, wipe, List.getElem?_cons_zero, List.getElem?_cons_succ, List.set_cons_zero, List.set_cons_succ, List.map_cons, List.map_nil, List.length_cons, List.length_nil, List.cons_append, List.nil_append, List.append_nil, List.replicate_succ, List.replicate_zero, Nat.reduceSub, Nat.sub_self, isi_tuple (.ref e), isTup]
    exact ⟨trivial, trivial⟩
  refine h1.ne fun v s ⟨e1, e2⟩ => ?_
  subst e1 e2
  simp only [w_ok, w_err, w_non, w_bl, w_int, w_str, w_con, w_var, w_tup, w_lst, w_bin, w_neg, w_not, w_and, w_or, w_cmp, w_chain, w_ite, w_call, w_callV, w_bi, w_isi, w_meth, w_ix, w_slc, w_rev, w_lrng, w_lzip, w_fld, t_not, t_and, t_or, t_cmp, t_var, t_call, t_bi, t_isi, t_ix, t_bl, t_chain, s_nil, s_cons, s_star, o_none, o_some, i_e, i_rng, i_zip, ss_nil, ss_cons, st_expr, st_ret, st_retN, st_pass, st_brk, st_cont, st_asg, st_par, st_setIx, st_iff, st_for, st_raise, ts_nil, ts_one, oQ_some, oQ_none, rq_ret, rq_nx, fq_nx, fq_cont, fq_brk, fq_ret, tgB, setAll, wipe, List.getElem?_cons_zero, List.getElem?_cons_succ, List.set_cons_zero, List.set_cons_succ, List.map_cons, List.map_nil, List.length_cons, List.length_nil, List.cons_append, List.nil_append, List.append_nil, List.replicate_succ, List.replicate_zero, Nat.reduceSub, Nat.sub_self, add_int, sub_int, int_int, int_bl, abs_int, max_int, min_int, len_tup, lt_int, le_int, gt_int, ge_int, eq_int, ne_int, eq_bl, ix_tup, at0, at1, at2, ito_tup, seq_tup, truth_bl, truth_tup]
  exact ⟨rfl, rfl, Fr.refl _ _⟩
theorem cls_many {xs : List D} (h : 300 < xs.length) : W (callN P0 (n + 6) "classes" [.tup xs] st) (fun _ _ => False) (Refu (.tup xs) st) := by
  refine w_def d_classes rfl rfl ?_
  simp only [b_classes, w_ok, w_err, w_non, w_bl, w_int, w_str, w_con, w_var, w_tup, w_lst, w_bin, w_neg, w_not, w_and, w_or, w_cmp, w_chain, w_ite, w_call, w_callV, w_bi, w_isi, w_meth, w_ix, w_slc, w_rev, w_lrng, w_lzip, w_fld, t_not, t_and, t_or, t_cmp, t_var, t_call, t_bi, t_isi, t_ix, t_bl, t_chain, s_nil, s_cons, s_star, o_none, o_some, i_e, i_rng, i_zip, ss_nil, ss_cons, st_expr, st_ret, st_retN, st_pass, st_brk, st_cont, st_asg, st_par, st_setIx, st_iff, st_for, st_raise, ts_nil, ts_one, oQ_some, oQ_none, rq_ret, rq_nx, fq_nx, fq_cont, fq_brk, fq_ret, tgB, setAll, wipe, List.getElem?_cons_zero, List.getElem?_cons_succ, List.set_cons_zero, List.set_cons_succ, List.map_cons, List.map_nil, List.length_cons, List.length_nil, List.cons_append, List.nil_append, List.append_nil, List.replicate_succ, List.replicate_zero, Nat.reduceSub, Nat.sub_self, add_int, sub_int, int_int, int_bl, abs_int, max_int, min_int, len_tup, lt_int, le_int, gt_int, ge_int, eq_int, ne_int, eq_bl, ix_tup, at0, at1, at2, ito_tup, seq_tup, truth_bl, truth_tup]
  refine (is_tuple_gen (n := n + 4)).ne fun v s ⟨e1, e2⟩ => ?_
  subst e1 e2
  have h2 : (decide ((0 : Int) ≤ (xs.length : Int)) && decide ((xs.length : Int) ≤ 300)) = false := by
    simp
    omega
  rw [h2]
  simp only [w_ok, w_err, w_non, w_bl, w_int, w_str, w_con, w_var, w_tup, w_lst, w_bin, w_neg, w_not, w_and, w_or, w_cmp, w_chain, w_ite, w_call, w_callV, w_bi, w_isi, w_meth, w_ix, w_slc, w_rev, w_lrng, w_lzip, w_fld, t_not, t_and, t_or, t_cmp, t_var, t_call, t_bi, t_isi, t_ix, t_bl, t_chain, s_nil, s_cons, s_star, o_none, o_some, i_e, i_rng, i_zip, ss_nil, ss_cons, st_expr, st_ret, st_retN, st_pass, st_brk, st_cont, st_asg, st_par, st_setIx, st_iff, st_for, st_raise, ts_nil, ts_one, oQ_some, oQ_none, rq_ret, rq_nx, fq_nx, fq_cont, fq_brk, fq_ret, tgB, setAll, wipe, List.getElem?_cons_zero, List.getElem?_cons_succ, List.set_cons_zero, List.set_cons_succ, List.map_cons, List.map_nil, List.length_cons, List.length_nil, List.cons_append, List.nil_append, List.append_nil, List.replicate_succ, List.replicate_zero, Nat.reduceSub, Nat.sub_self, add_int, sub_int, int_int, int_bl, abs_int, max_int, min_int, len_tup, lt_int, le_int, gt_int, ge_int, eq_int, ne_int, eq_bl, ix_tup, at0, at1, at2, ito_tup, seq_tup, truth_bl, truth_tup]
  exact ⟨rfl, rfl, Fr.refl _ _⟩
theorem cls_bad (c : Can 0 ps) (h : BadV p st v) : W (callN P0 (n + 6) "classes" [.tup [rgD ps, v]] st) (fun _ _ => False) (Refu v st) := by
  refine w_def d_classes rfl rfl ?_
  simp only [b_classes, w_ok, w_err, w_non, w_bl, w_int, w_str, w_con, w_var, w_tup, w_lst, w_bin, w_neg, w_not, w_and, w_or, w_cmp, w_chain, w_ite, w_call, w_callV, w_bi, w_isi, w_meth, w_ix, w_slc, w_rev, w_lrng, w_lzip, w_fld, t_not, t_and, t_or, t_cmp, t_var, t_call, t_bi, t_isi, t_ix, t_bl, t_chain, s_nil, s_cons, s_star, o_none, o_some, i_e, i_rng, i_zip, ss_nil, ss_cons, st_expr, st_ret, st_retN, st_pass, st_brk, st_cont, st_asg, st_par, st_setIx, st_iff, st_for, st_raise, ts_nil, ts_one, oQ_some, oQ_none, rq_ret, rq_nx, fq_nx, fq_cont, fq_brk, fq_ret, tgB, setAll, wipe, List.getElem?_cons_zero, List.getElem?_cons_succ, List.set_cons_zero, List.set_cons_succ, List.map_cons, List.map_nil, List.length_cons, List.length_nil, List.cons_append, List.nil_append, List.append_nil, List.replicate_succ, List.replicate_zero, Nat.reduceSub, Nat.sub_self, add_int, sub_int, int_int, int_bl, abs_int, max_int, min_int, len_tup, lt_int, le_int, gt_int, ge_int, eq_int, ne_int, eq_bl, ix_tup, at0, at1, at2, ito_tup, seq_tup, truth_bl, truth_tup]
  refine (is_tuple_gen (n := n + 4)).ne fun w s ⟨e1, e2⟩ => ?_
  subst e1 e2
  simp only [w_ok, w_err, w_non, w_bl, w_int, w_str, w_con, w_var, w_tup, w_lst, w_bin, w_neg, w_not, w_and, w_or, w_cmp, w_chain, w_ite, w_call, w_callV, w_bi, w_isi, w_meth, w_ix, w_slc, w_rev, w_lrng, w_lzip, w_fld, t_not, t_and, t_or, t_cmp, t_var, t_call, t_bi, t_isi, t_ix, t_bl, t_chain, s_nil, s_cons, s_star, o_none, o_some, i_e, i_rng, i_zip, ss_nil, ss_cons, st_expr, st_ret, st_retN, st_pass, st_brk, st_cont, st_asg, st_par, st_setIx, st_iff, st_for, st_raise, ts_nil, ts_one, oQ_some, oQ_none, rq_ret, rq_nx, fq_nx, fq_cont, fq_brk, fq_ret, tgB, setAll, wipe, List.getElem?_cons_zero, List.getElem?_cons_succ, List.set_cons_zero, List.set_cons_succ, List.map_cons, List.map_nil, List.length_cons, List.length_nil, List.cons_append, List.nil_append, List.append_nil, List.replicate_succ, List.replicate_zero, Nat.reduceSub, Nat.sub_self, add_int, sub_int, int_int, int_bl, abs_int, max_int, min_int, len_tup, lt_int, le_int, gt_int, ge_int, eq_int, ne_int, eq_bl, ix_tup, at0, at1, at2, ito_tup, seq_tup, truth_bl, truth_tup, show (decide ((0 : Int) ≤ ((0 + 1 + 1 : Nat) : Int)) && decide (((0 + 1 + 1 : Nat) : Int) ≤ 300)) = true from by decide]
  refine w_loop (ds := [rgD ps, v]) (fun rest env t => (rest = [rgD ps, v] ∨ rest = [v]) ∧ (∃ v1, env = [some (.tup [rgD ps, v]), v1, none, none, none, none]) ∧ Fr [] s t) (by unfold FUEL; simp) (fun _ _ _ _ => rfl) ⟨.inl rfl, ⟨_, rfl⟩, Fr.refl _ _⟩ ?_ ?_
  · rintro d0 rest env t ⟨e1, ⟨v1, e3⟩, f⟩
    subst e3
    rcases e1 with z | z
    · simp only [List.cons.injEq] at z
      obtain ⟨z1, z2⟩ := z
      subst z1 z2
      simp only [w_ok, w_err, w_non, w_bl, w_int, w_str, w_con, w_var, w_tup, w_lst, w_bin, w_neg, w_not, w_and, w_or, w_cmp, w_chain, w_ite, w_call, w_callV, w_bi, w_isi, w_meth, w_ix, w_slc, w_rev, w_lrng, w_lzip, w_fld, t_not, t_and, t_or, t_cmp, t_var, t_call, t_bi, t_isi, t_ix, t_bl, t_chain, s_nil, s_cons, s_star, o_none, o_some, i_e, i_rng, i_zip, ss_nil, ss_cons, st_expr, st_ret, st_retN, st_pass, st_brk, st_cont, st_asg, st_par, st_setIx, st_iff, st_for, st_raise, ts_nil, ts_one, oQ_some, oQ_none, rq_ret, rq_nx, fq_nx, fq_cont, fq_brk, fq_ret, tgB, setAll, wipe, List.getElem?_cons_zero, List.getElem?_cons_succ, List.set_cons_zero, List.set_cons_succ, List.map_cons, List.map_nil, List.length_cons, List.length_nil, List.cons_append, List.nil_append, List.append_nil, List.replicate_succ, List.replicate_zero, Nat.reduceSub, Nat.sub_self, add_int, sub_int, int_int, int_bl, abs_int, max_int, min_int, len_tup, lt_int, le_int, gt_int, ge_int, eq_int, ne_int, eq_bl, ix_tup, at0, at1, at2, ito_tup, seq_tup, truth_bl, truth_tup]
      refine (check_set_ok (n := n) c).ne fun w u ⟨f2, _⟩ => ?_
      exact ⟨.inr (by trivial), ⟨_, rfl⟩, f.trans f2⟩
    · simp only [List.cons.injEq] at z
      obtain ⟨z1, z2⟩ := z
      subst z1 z2
      simp only [w_ok, w_err, w_non, w_bl, w_int, w_str, w_con, w_var, w_tup, w_lst, w_bin, w_neg, w_not, w_and, w_or, w_cmp, w_chain, w_ite, w_call, w_callV, w_bi, w_isi, w_meth, w_ix, w_slc, w_rev, w_lrng, w_lzip, w_fld, t_not, t_and, t_or, t_cmp, t_var, t_call, t_bi, t_isi, t_ix, t_bl, t_chain, s_nil, s_cons, s_star, o_none, o_some, i_e, i_rng, i_zip, ss_nil, ss_cons, st_expr, st_ret, st_retN, st_pass, st_brk, st_cont, st_asg, st_par, st_setIx, st_iff, st_for, st_raise, ts_nil, ts_one, oQ_some, oQ_none, rq_ret, rq_nx, fq_nx, fq_cont, fq_brk, fq_ret, tgB, setAll, wipe, List.getElem?_cons_zero, List.getElem?_cons_succ, List.set_cons_zero, List.set_cons_succ, List.map_cons, List.map_nil, List.length_cons, List.length_nil, List.cons_append, List.nil_append, List.append_nil, List.replicate_succ, List.replicate_zero, Nat.reduceSub, Nat.sub_self, add_int, sub_int, int_int, int_bl, abs_int, max_int, min_int, len_tup, lt_int, le_int, gt_int, ge_int, eq_int, ne_int, eq_bl, ix_tup, at0, at1, at2, ito_tup, seq_tup, truth_bl, truth_tup]
      exact (chk_bad (h.fr f)).mono (fun _ _ z => False.elim z) fun c' v' t ⟨z1, z2, z3⟩ => ⟨z1, z2, f.trans z3⟩
  · rintro env t ⟨z | z, _⟩ <;> cases z
end
theorem heard_bad {C : Str → List D → Sto → Res D} {env : PyI.Env} {st s : Sto} {e : IE} {v : D} {Q : D → Sto → Prop} {E : Str → D → Sto → Prop} (h : W (evE P0 C e env s) (fun _ _ => False) (Refu v st)) (hq : ∀ t, Fr [] st t → Q (.tup [.exc "BadSet" v, .non]) t) : W (evE P0 C (.heard "FormatError" e) env s) Q E := by
  refine w_heard (h.mono (fun _ _ z => False.elim z) fun c v' t ⟨z1, z2, z3⟩ => ?_)
  subst z1 z2
  exact ⟨sub_bf, hq t z3⟩
theorem cut_congr {κ κ' : Type} {key : Int → κ} {key' : Int → κ'} (hk : ∀ x y, key x = key y ↔ key' x = key' y) : ∀ {ps : Rg} {o : Option Int} {b : Int}, Cut key (o.map key) b ps → Cut key' (o.map key') b ps
  | [], _, _, c => c
  | p :: r, o, b, c => by
    obtain ⟨c1, c2, c3, c4, c5, c6⟩ := c
    refine ⟨c1, c2, c3, fun x hx hy => (hk _ _).mp (c4 x hx hy), fun z => c5 ?_, cut_congr hk (o := some p.1) c6⟩
    cases o with
    | none => cases z
    | some y =>
      simp only [Option.map_some, Option.some.injEq] at z ⊢
      exact (hk _ _).mpr z
theorem plain_rgs : ∀ ps : Rg, plainDs (ps.map prD) = true
  | [] => rfl
  | p :: r => by
    show (plainD (prD p) && plainDs (r.map prD)) = true
    rw [plain_rgs r]
    rfl
theorem eq_rg {st : Sto} {ps : Rg} : cmpB .eq (rgD ps) (rgD ps) st = some true := by
  show eqD (rgD ps) (rgD ps) st = _
  have := dp_rg (ps := ps)
  rw [eqD_dat (dat_pure (d := rgD ps) (pure_rg ps) (by omega)) (dat_pure (d := rgD ps) (pure_rg ps) (by omega))]
  exact congrArg some ((eqv_plain (rgD ps) (rgD ps) (plain_rgs ps) (plain_rgs ps)).mpr rfl)
end K01
end
section
set_option autoImplicit false
set_option linter.all false
set_option maxRecDepth 100000
set_option maxHeartbeats 4000000
namespace K01
open PySem PyI
theorem mul_tup {st : Sto} {xs : List D} {k : Int} (h1 : xs ≠ []) (h2 : 2 ≤ k) (h3 : k ≤ 1000) (h4 : xs.length ≤ 1000) : opB .mul (.tup xs) (.int k) st = some (.tup (List.replicate k.toNat xs).flatten, st) := by
  have e : xs.isEmpty = false := by
    cases xs with
    | nil => exact absurd rfl h1
    | cons x r => rfl
  show (if !xs.isEmpty && decide (2 ≤ k) && decide (k ≤ 1000) && decide (xs.length ≤ 1000) then some (D.tup (List.replicate k.toNat xs).flatten, st) else none) = _
  rw [e, decide_eq_true h2, decide_eq_true h3, decide_eq_true h4]
  rfl
theorem flat_rep {α : Type} (x : α) : ∀ k : Nat, (List.replicate k [x]).flatten = List.replicate k x
  | 0 => rfl
  | k + 1 => by
    rw [List.replicate_succ, List.flatten_cons, flat_rep x k]
    rfl
/-- what is behind the loops: the pot as it was -/
def Aft (p : Nat) (s t : Sto) : Prop := Fr [] s t
theorem refused1 {n p : Nat} {s : Sto} {v rg : D} (h : BadV p s v) {v2 v3 v4 v6 v7 : Option D} {QF : PyI.Flow → Sto → Prop} {r : ISs}
    (hq : ∀ t w2 w6, Fr [] s t → W (evSs P0 (callN P0 (n + 6)) r [some (.ref p), some rg, w2, v3, v4, some v, w6, v7] t) QF NE) :
    W (evSs P0 (callN P0 (n + 6)) (.cons (.forr (.nm 6) (.e (.tup (.cons false (.con (.fn "numbers")) (.cons false (.con (.fn "others")) .nil)))) (.cons (.asg (.nm 2) (.ix (.heard "FormatError" (.callV 6 (.cons false (.var 5) .nil))) (.int 0))) (.cons (.iff (.or (.not (.isi (.cls "BadSet") (.var 2))) (.cmp .ne (.bi .repr (.cons false (.fld (.var 2)) .nil)) (.bi .repr (.cons false (.var 5) .nil)))) (.cons (.ret (.bl false)) .nil) .nil) .nil))) r) [some (.ref p), some rg, v2, v3, v4, some v, v6, v7] s) QF NE := by
  simp only [w_ok, w_err, w_non, w_bl, w_int, w_str, w_con, w_var, w_tup, w_lst, w_bin, w_neg, w_not, w_and, w_or, w_cmp, w_chain, w_ite, w_call, w_callV, w_bi, w_isi, w_meth, w_ix, w_slc, w_rev, w_lrng, w_lzip, w_fld, t_not, t_and, t_or, t_cmp, t_var, t_call, t_bi, t_isi, t_ix, t_bl, t_chain, s_nil, s_cons, s_star, o_none, o_some, i_e, i_rng, i_zip, ss_nil, ss_cons, st_expr, st_ret, st_retN, st_pass, st_brk, st_cont, st_asg, st_par, st_setIx, st_iff, st_for, st_raise, ts_nil, ts_one, oQ_some, oQ_none, rq_ret, rq_nx, fq_nx, fq_cont, fq_brk, fq_ret, tgB, setAll, wipe, List.getElem?_cons_zero, List.getElem?_cons_succ, List.set_cons_zero, List.set_cons_succ, List.map_cons, List.map_nil, List.length_cons, List.length_nil, List.cons_append, List.nil_append, List.append_nil, List.replicate_succ, List.replicate_zero, Nat.reduceSub, Nat.sub_self, add_int, sub_int, int_int, int_bl, abs_int, max_int, min_int, len_tup, lt_int, le_int, gt_int, ge_int, eq_int, ne_int, eq_bl, ix_tup, at0, at1, at2, ito_tup, seq_tup, truth_bl, truth_tup, show (0 + 1 + 1 ≤ LIM) from by decide, if_true]
  obtain ⟨q, hs⟩ := h.rep
  refine w_loop (ds := [.fn "numbers", .fn "others"]) (fun rest env t => (∀ f ∈ rest, f = .fn "numbers" ∨ f = .fn "others") ∧ (∃ w2 w6, env = [some (.ref p), some rg, w2, v3, v4, some v, w6, v7]) ∧ Fr [] s t) (by unfold FUEL; simp) (fun _ _ _ _ => rfl) ⟨by simp, ⟨_, _, rfl⟩, Fr.refl _ _⟩ ?_ ?_
  · rintro d0 rest env t ⟨e1, ⟨w2, w6, e3⟩, f⟩
    subst e3
    obtain ⟨fn, ef, hf⟩ : ∃ fn, d0 = .fn fn ∧ (fn = "numbers" ∨ fn = "others") := by
      rcases e1 d0 (List.mem_cons_self ..) with z | z
      · exact ⟨_, z, .inl rfl⟩
      · exact ⟨_, z, .inr rfl⟩
    subst ef
    simp only [w_ok, w_err, w_non, w_bl, w_int, w_str, w_con, w_var, w_tup, w_lst, w_bin, w_neg, w_not, w_and, w_or, w_cmp, w_chain, w_ite, w_call, w_callV, w_bi, w_isi, w_meth, w_ix, w_slc, w_rev, w_lrng, w_lzip, w_fld, t_not, t_and, t_or, t_cmp, t_var, t_call, t_bi, t_isi, t_ix, t_bl, t_chain, s_nil, s_cons, s_star, o_none, o_some, i_e, i_rng, i_zip, ss_nil, ss_cons, st_expr, st_ret, st_retN, st_pass, st_brk, st_cont, st_asg, st_par, st_setIx, st_iff, st_for, st_raise, ts_nil, ts_one, oQ_some, oQ_none, rq_ret, rq_nx, fq_nx, fq_cont, fq_brk, fq_ret, tgB, setAll, wipe, List.getElem?_cons_zero, List.getElem?_cons_succ, List.set_cons_zero, List.set_cons_succ, List.map_cons, List.map_nil, List.length_cons, List.length_nil, List.cons_append, List.nil_append, List.append_nil, List.replicate_succ, List.replicate_zero, Nat.reduceSub, Nat.sub_self, add_int, sub_int, int_int, int_bl, abs_int, max_int, min_int, len_tup, lt_int, le_int, gt_int, ge_int, eq_int, ne_int, eq_bl, ix_tup, at0, at1, at2, ito_tup, seq_tup, truth_bl, truth_tup]
    refine heard_bad (v := v) (st := t) ?_ fun u f2 => ?_
    · simp only [w_ok, w_err, w_non, w_bl, w_int, w_str, w_con, w_var, w_tup, w_lst, w_bin, w_neg, w_not, w_and, w_or, w_cmp, w_chain, w_ite, w_call, w_callV, w_bi, w_isi, w_meth, w_ix, w_slc, w_rev, w_lrng, w_lzip, w_fld, t_not, t_and, t_or, t_cmp, t_var, t_call, t_bi, t_isi, t_ix, t_bl, t_chain, s_nil, s_cons, s_star, o_none, o_some, i_e, i_rng, i_zip, ss_nil, ss_cons, st_expr, st_ret, st_retN, st_pass, st_brk, st_cont, st_asg, st_par, st_setIx, st_iff, st_for, st_raise, ts_nil, ts_one, oQ_some, oQ_none, rq_ret, rq_nx, fq_nx, fq_cont, fq_brk, fq_ret, tgB, setAll, wipe, List.getElem?_cons_zero, List.getElem?_cons_succ, List.set_cons_zero, List.set_cons_succ, List.map_cons, List.map_nil, List.length_cons, List.length_nil, List.cons_append, List.nil_append, List.append_nil, List.replicate_succ, List.replicate_zero, Nat.reduceSub, Nat.sub_self, add_int, sub_int, int_int, int_bl, abs_int, max_int, min_int, len_tup, lt_int, le_int, gt_int, ge_int, eq_int, ne_int, eq_bl, ix_tup, at0, at1, at2, ito_tup, seq_tup, truth_bl, truth_tup]
      exact refuse1 (h.fr f) hf
    · obtain ⟨r1, r2⟩ := repr_sm (hs u (f.trans f2))
      simp only [w_ok, w_err, w_non, w_bl, w_int, w_str, w_con, w_var, w_tup, w_lst, w_bin, w_neg, w_not, w_and, w_or, w_cmp, w_chain, w_ite, w_call, w_callV, w_bi, w_isi, w_meth, w_ix, w_slc, w_rev, w_lrng, w_lzip, w_fld, t_not, t_and, t_or, t_cmp, t_var, t_call, t_bi, t_isi, t_ix, t_bl, t_chain, s_nil, s_cons, s_star, o_none, o_some, i_e, i_rng, i_zip, ss_nil, ss_cons, st_expr, st_ret, st_retN, st_pass, st_brk, st_cont, st_asg, st_par, st_setIx, st_iff, st_for, st_raise, ts_nil, ts_one, oQ_some, oQ_none, rq_ret, rq_nx, fq_nx, fq_cont, fq_brk, fq_ret, tgB, setAll, wipe, List.getElem?_cons_zero, List.getElem?_cons_succ, List.set_cons_zero, List.set_cons_succ, List.map_cons, List.map_nil, List.length_cons, List.length_nil, List.cons_append, List.nil_append, List.append_nil, List.replicate_succ, List.replicate_zero, Nat.reduceSub, Nat.sub_self, add_int, sub_int, int_int, int_bl, abs_int, max_int, min_int, len_tup, lt_int, le_int, gt_int, ge_int, eq_int, ne_int, eq_bl, ix_tup, at0, at1, at2, ito_tup, seq_tup, truth_bl, truth_tup, isi_bs, Bool.not_true, sub_bs, if_true, r1, ne_same r2]
      exact ⟨fun f hf => e1 f (List.mem_cons_of_mem _ hf), ⟨_, _, rfl⟩, f.trans f2⟩
  · rintro env t ⟨e1, ⟨w2, w6, e3⟩, f⟩
    subst e3
    simp only [w_ok, w_err, w_non, w_bl, w_int, w_str, w_con, w_var, w_tup, w_lst, w_bin, w_neg, w_not, w_and, w_or, w_cmp, w_chain, w_ite, w_call, w_callV, w_bi, w_isi, w_meth, w_ix, w_slc, w_rev, w_lrng, w_lzip, w_fld, t_not, t_and, t_or, t_cmp, t_var, t_call, t_bi, t_isi, t_ix, t_bl, t_chain, s_nil, s_cons, s_star, o_none, o_some, i_e, i_rng, i_zip, ss_nil, ss_cons, st_expr, st_ret, st_retN, st_pass, st_brk, st_cont, st_asg, st_par, st_setIx, st_iff, st_for, st_raise, ts_nil, ts_one, oQ_some, oQ_none, rq_ret, rq_nx, fq_nx, fq_cont, fq_brk, fq_ret, tgB, setAll, wipe, List.getElem?_cons_zero, List.getElem?_cons_succ, List.set_cons_zero, List.set_cons_succ, List.map_cons, List.map_nil, List.length_cons, List.length_nil, List.cons_append, List.nil_append, List.append_nil, List.replicate_succ, List.replicate_zero, Nat.reduceSub, Nat.sub_self, add_int, sub_int, int_int, int_bl, abs_int, max_int, min_int, len_tup, lt_int, le_int, gt_int, ge_int, eq_int, ne_int, eq_bl, ix_tup, at0, at1, at2, ito_tup, seq_tup, truth_bl, truth_tup]
    exact hq t w2 w6 f
theorem refused2 {n p : Nat} {s : Sto} {v : D} {ps : Rg} (c : Can 0 ps) (h : BadV p s v) {v2 v3 v4 v6 v7 : Option D} {QF : PyI.Flow → Sto → Prop} {r : ISs}
    (hq : ∀ t w2 w3 w6, Fr [] s t → W (evSs P0 (callN P0 (n + 6)) r [some (.ref p), some (rgD ps), w2, w3, v4, some v, w6, v7] t) QF NE) :
    W (evSs P0 (callN P0 (n + 6)) (.cons (.forr (.nm 6) (.e (.tup (.cons false (.con (.fn "either")) (.cons false (.con (.fn "both")) (.cons false (.con (.fn "without")) .nil))))) (.cons (.asg (.nm 2) (.ix (.heard "FormatError" (.callV 6 (.cons false (.var 5) (.cons false (.int 7) .nil)))) (.int 0))) (.cons (.asg (.nm 3) (.ix (.heard "FormatError" (.callV 6 (.cons false (.var 1) (.cons false (.var 5) .nil)))) (.int 0))) (.cons (.iff (.or (.not (.isi (.cls "BadSet") (.var 2))) (.not (.isi (.cls "BadSet") (.var 3)))) (.cons (.ret (.bl false)) .nil) .nil) (.cons (.iff (.cmp .ne (.bi .repr (.cons false (.tup (.cons false (.fld (.var 2)) (.cons false (.fld (.var 3)) .nil))) .nil)) (.bi .repr (.cons false (.tup (.cons false (.var 5) (.cons false (.var 5) .nil))) .nil))) (.cons (.ret (.bl false)) .nil) .nil) .nil))))) r) [some (.ref p), some (rgD ps), v2, v3, v4, some v, v6, v7] s) QF NE := by
  simp only [w_ok, w_err, w_non, w_bl, w_int, w_str, w_con, w_var, w_tup, w_lst, w_bin, w_neg, w_not, w_and, w_or, w_cmp, w_chain, w_ite, w_call, w_callV, w_bi, w_isi, w_meth, w_ix, w_slc, w_rev, w_lrng, w_lzip, w_fld, t_not, t_and, t_or, t_cmp, t_var, t_call, t_bi, t_isi, t_ix, t_bl, t_chain, s_nil, s_cons, s_star, o_none, o_some, i_e, i_rng, i_zip, ss_nil, ss_cons, st_expr, st_ret, st_retN, st_pass, st_brk, st_cont, st_asg, st_par, st_setIx, st_iff, st_for, st_raise, ts_nil, ts_one, oQ_some, oQ_none, rq_ret, rq_nx, fq_nx, fq_cont, fq_brk, fq_ret, tgB, setAll, wipe, List.getElem?_cons_zero, List.getElem?_cons_succ, List.set_cons_zero, List.set_cons_succ, List.map_cons, List.map_nil, List.length_cons, List.length_nil, List.cons_append, List.nil_append, List.append_nil, List.replicate_succ, List.replicate_zero, Nat.reduceSub, Nat.sub_self, add_int, sub_int, int_int, int_bl, abs_int, max_int, min_int, len_tup, lt_int, le_int, gt_int, ge_int, eq_int, ne_int, eq_bl, ix_tup, at0, at1, at2, ito_tup, seq_tup, truth_bl, truth_tup, show (0 + 1 + 1 + 1 ≤ LIM) from by decide, if_true]
  refine w_loop (ds := [.fn "either", .fn "both", .fn "without"]) (fun rest env t => (∀ f ∈ rest, f = .fn "either" ∨ f = .fn "both" ∨ f = .fn "without") ∧ (∃ w2 w3 w6, env = [some (.ref p), some (rgD ps), w2, w3, v4, some v, w6, v7]) ∧ Fr [] s t) (by unfold FUEL; simp) (fun _ _ _ _ => rfl) ⟨by simp, ⟨_, _, _, rfl⟩, Fr.refl _ _⟩ ?_ ?_
  · rintro d0 rest env t ⟨e1, ⟨w2, w3, w6, e3⟩, f⟩
    subst e3
    obtain ⟨fn, ef, hf⟩ : ∃ fn, d0 = .fn fn ∧ (fn = "either" ∨ fn = "both" ∨ fn = "without") := by
      rcases e1 d0 (List.mem_cons_self ..) with z | z | z
      · exact ⟨_, z, .inl rfl⟩
      · exact ⟨_, z, .inr (.inl rfl)⟩
      · exact ⟨_, z, .inr (.inr rfl)⟩
    subst ef
    simp only [w_ok, w_err, w_non, w_bl, w_int, w_str, w_con, w_var, w_tup, w_lst, w_bin, w_neg, w_not, w_and, w_or, w_cmp, w_chain, w_ite, w_call, w_callV, w_bi, w_isi, w_meth, w_ix, w_slc, w_rev, w_lrng, w_lzip, w_fld, t_not, t_and, t_or, t_cmp, t_var, t_call, t_bi, t_isi, t_ix, t_bl, t_chain, s_nil, s_cons, s_star, o_none, o_some, i_e, i_rng, i_zip, ss_nil, ss_cons, st_expr, st_ret, st_retN, st_pass, st_brk, st_cont, st_asg, st_par, st_setIx, st_iff, st_for, st_raise, ts_nil, ts_one, oQ_some, oQ_none, rq_ret, rq_nx, fq_nx, fq_cont, fq_brk, fq_ret, tgB, setAll, wipe, List.getElem?_cons_zero, List.getElem?_cons_succ, List.set_cons_zero, List.set_cons_succ, List.map_cons, List.map_nil, List.length_cons, List.length_nil, List.cons_append, List.nil_append, List.append_nil, List.replicate_succ, List.replicate_zero, Nat.reduceSub, Nat.sub_self, add_int, sub_int, int_int, int_bl, abs_int, max_int, min_int, len_tup, lt_int, le_int, gt_int, ge_int, eq_int, ne_int, eq_bl, ix_tup, at0, at1, at2, ito_tup, seq_tup, truth_bl, truth_tup]
    refine heard_bad (v := v) (st := t) ?_ fun u f2 => ?_
    · simp only [w_ok, w_err, w_non, w_bl, w_int, w_str, w_con, w_var, w_tup, w_lst, w_bin, w_neg, w_not, w_and, w_or, w_cmp, w_chain, w_ite, w_call, w_callV, w_bi, w_isi, w_meth, w_ix, w_slc, w_rev, w_lrng, w_lzip, w_fld, t_not, t_and, t_or, t_cmp, t_var, t_call, t_bi, t_isi, t_ix, t_bl, t_chain, s_nil, s_cons, s_star, o_none, o_some, i_e, i_rng, i_zip, ss_nil, ss_cons, st_expr, st_ret, st_retN, st_pass, st_brk, st_cont, st_asg, st_par, st_setIx, st_iff, st_for, st_raise, ts_nil, ts_one, oQ_some, oQ_none, rq_ret, rq_nx, fq_nx, fq_cont, fq_brk, fq_ret, tgB, setAll, wipe, List.getElem?_cons_zero, List.getElem?_cons_succ, List.set_cons_zero, List.set_cons_succ, List.map_cons, List.map_nil, List.length_cons, List.length_nil, List.cons_append, List.nil_append, List.append_nil, List.replicate_succ, List.replicate_zero, Nat.reduceSub, Nat.sub_self, add_int, sub_int, int_int, int_bl, abs_int, max_int, min_int, len_tup, lt_int, le_int, gt_int, ge_int, eq_int, ne_int, eq_bl, ix_tup, at0, at1, at2, ito_tup, seq_tup, truth_bl, truth_tup]
      exact refuse2 (h.fr f) hf
    · simp only [w_ok, w_err, w_non, w_bl, w_int, w_str, w_con, w_var, w_tup, w_lst, w_bin, w_neg, w_not, w_and, w_or, w_cmp, w_chain, w_ite, w_call, w_callV, w_bi, w_isi, w_meth, w_ix, w_slc, w_rev, w_lrng, w_lzip, w_fld, t_not, t_and, t_or, t_cmp, t_var, t_call, t_bi, t_isi, t_ix, t_bl, t_chain, s_nil, s_cons, s_star, o_none, o_some, i_e, i_rng, i_zip, ss_nil, ss_cons, st_expr, st_ret, st_retN, st_pass, st_brk, st_cont, st_asg, st_par, st_setIx, st_iff, st_for, st_raise, ts_nil, ts_one, oQ_some, oQ_none, rq_ret, rq_nx, fq_nx, fq_cont, fq_brk, fq_ret, tgB, setAll, wipe, List.getElem?_cons_zero, List.getElem?_cons_succ, List.set_cons_zero, List.set_cons_succ, List.map_cons, List.map_nil, List.length_cons, List.length_nil, List.cons_append, List.nil_append, List.append_nil, List.replicate_succ, List.replicate_zero, Nat.reduceSub, Nat.sub_self, add_int, sub_int, int_int, int_bl, abs_int, max_int, min_int, len_tup, lt_int, le_int, gt_int, ge_int, eq_int, ne_int, eq_bl, ix_tup, at0, at1, at2, ito_tup, seq_tup, truth_bl, truth_tup]
      refine heard_bad (v := v) (st := u) ?_ fun u2 f3 => ?_
      · simp only [w_ok, w_err, w_non, w_bl, w_int, w_str, w_con, w_var, w_tup, w_lst, w_bin, w_neg, w_not, w_and, w_or, w_cmp, w_chain, w_ite, w_call, w_callV, w_bi, w_isi, w_meth, w_ix, w_slc, w_rev, w_lrng, w_lzip, w_fld, t_not, t_and, t_or, t_cmp, t_var, t_call, t_bi, t_isi, t_ix, t_bl, t_chain, s_nil, s_cons, s_star, o_none, o_some, i_e, i_rng, i_zip, ss_nil, ss_cons, st_expr, st_ret, st_retN, st_pass, st_brk, st_cont, st_asg, st_par, st_setIx, st_iff, st_for, st_raise, ts_nil, ts_one, oQ_some, oQ_none, rq_ret, rq_nx, fq_nx, fq_cont, fq_brk, fq_ret, tgB, setAll, wipe, List.getElem?_cons_zero, List.getElem?_cons_succ, List.set_cons_zero, List.set_cons_succ, List.map_cons, List.map_nil, List.length_cons, List.length_nil, List.cons_append, List.nil_append, List.append_nil, List.replicate_succ, List.replicate_zero, Nat.reduceSub, Nat.sub_self, add_int, sub_int, int_int, int_bl, abs_int, max_int, min_int, len_tup, lt_int, le_int, gt_int, ge_int, eq_int, ne_int, eq_bl, ix_tup, at0, at1, at2, ito_tup, seq_tup, truth_bl, truth_tup]
        exact refuse3 c (h.fr (f.trans f2)) hf
      · obtain ⟨x, r1, r2⟩ := (h.fr ((f.trans f2).trans f3)).rep2
        simp only [w_ok, w_err, w_non, w_bl, w_int, w_str, w_con, w_var, w_tup, w_lst, w_bin, w_neg, w_not, w_and, w_or, w_cmp, w_chain, w_ite, w_call, w_callV, w_bi, w_isi, w_meth, w_ix, w_slc, w_rev, w_lrng, w_lzip, w_fld, t_not, t_and, t_or, t_cmp, t_var, t_call, t_bi, t_isi, t_ix, t_bl, t_chain, s_nil, s_cons, s_star, o_none, o_some, i_e, i_rng, i_zip, ss_nil, ss_cons, st_expr, st_ret, st_retN, st_pass, st_brk, st_cont, st_asg, st_par, st_setIx, st_iff, st_for, st_raise, ts_nil, ts_one, oQ_some, oQ_none, rq_ret, rq_nx, fq_nx, fq_cont, fq_brk, fq_ret, tgB, setAll, wipe, List.getElem?_cons_zero, List.getElem?_cons_succ, List.set_cons_zero, List.set_cons_succ, List.map_cons, List.map_nil, List.length_cons, List.length_nil, List.cons_append, List.nil_append, List.append_nil, List.replicate_succ, List.replicate_zero, Nat.reduceSub, Nat.sub_self, add_int, sub_int, int_int, int_bl, abs_int, max_int, min_int, len_tup, lt_int, le_int, gt_int, ge_int, eq_int, ne_int, eq_bl, ix_tup, at0, at1, at2, ito_tup, seq_tup, truth_bl, truth_tup, isi_bs, Bool.not_true, sub_bs, if_true, show (0 + 1 + 1 ≤ LIM) from by decide, r1, ne_same r2]
        exact ⟨fun f hf => e1 f (List.mem_cons_of_mem _ hf), ⟨_, _, _, rfl⟩, (f.trans f2).trans f3⟩
  · rintro env t ⟨e1, ⟨w2, w3, w6, e3⟩, f⟩
    subst e3
    simp only [w_ok, w_err, w_non, w_bl, w_int, w_str, w_con, w_var, w_tup, w_lst, w_bin, w_neg, w_not, w_and, w_or, w_cmp, w_chain, w_ite, w_call, w_callV, w_bi, w_isi, w_meth, w_ix, w_slc, w_rev, w_lrng, w_lzip, w_fld, t_not, t_and, t_or, t_cmp, t_var, t_call, t_bi, t_isi, t_ix, t_bl, t_chain, s_nil, s_cons, s_star, o_none, o_some, i_e, i_rng, i_zip, ss_nil, ss_cons, st_expr, st_ret, st_retN, st_pass, st_brk, st_cont, st_asg, st_par, st_setIx, st_iff, st_for, st_raise, ts_nil, ts_one, oQ_some, oQ_none, rq_ret, rq_nx, fq_nx, fq_cont, fq_brk, fq_ret, tgB, setAll, wipe, List.getElem?_cons_zero, List.getElem?_cons_succ, List.set_cons_zero, List.set_cons_succ, List.map_cons, List.map_nil, List.length_cons, List.length_nil, List.cons_append, List.nil_append, List.append_nil, List.replicate_succ, List.replicate_zero, Nat.reduceSub, Nat.sub_self, add_int, sub_int, int_int, int_bl, abs_int, max_int, min_int, len_tup, lt_int, le_int, gt_int, ge_int, eq_int, ne_int, eq_bl, ix_tup, at0, at1, at2, ito_tup, seq_tup, truth_bl, truth_tup]
    exact hq t w2 w3 w6 f
/-- a value that classes refuses with due -/
def Cl3 (p n : Nat) (t : Sto) (d : D) : Prop := ∃ value due v q, d = .tup [value, due] ∧ (∀ u, Fr [] t u → W (callN P0 (n + 6) "classes" [value] u) (fun _ _ => False) (Refu v u)) ∧ (∀ u, Fr [] t u → SmOf u v q ∧ SmOf u due q)
theorem refused3 {n p : Nat} {s : Sto} {v : D} {ps : Rg} (c : Can 0 ps) (h : BadV p s v) {v2 v3 v4 v6 v7 : Option D} {QF : PyI.Flow → Sto → Prop} {r : ISs}
    (hq : ∀ t w2 w4 w7, Fr [] s t → W (evSs P0 (callN P0 (n + 6)) r [some (.ref p), some (rgD ps), w2, v3, w4, some v, v6, w7] t) QF NE) :
    W (evSs P0 (callN P0 (n + 6)) (.cons (.forr (.tp [7, 4]) (.e (.tup (.cons false (.tup (.cons false (.lst (.cons false (.var 1) .nil)) (.cons false (.lst (.cons false (.var 1) .nil)) .nil))) (.cons false (.tup (.cons false (.tup (.cons false (.var 1) (.cons false (.var 5) .nil))) (.cons false (.var 5) .nil))) (.cons false (.tup (.cons false (.bin .mul (.tup (.cons false (.var 1) .nil)) (.int 301)) (.cons false (.bin .mul (.tup (.cons false (.var 1) .nil)) (.int 301)) .nil))) .nil))))) (.cons (.asg (.nm 2) (.ix (.heard "FormatError" (.call "classes" (.cons false (.var 7) .nil))) (.int 0))) (.cons (.iff (.or (.not (.isi (.cls "BadSet") (.var 2))) (.cmp .ne (.bi .repr (.cons false (.fld (.var 2)) .nil)) (.bi .repr (.cons false (.var 4) .nil)))) (.cons (.ret (.bl false)) .nil) .nil) .nil))) r) [some (.ref p), some (rgD ps), v2, v3, v4, some v, v6, v7] s) QF NE := by
  obtain ⟨L, hL⟩ : ∃ L, L = List.replicate 301 (rgD ps) := ⟨_, rfl⟩
  have m301 : ∀ t, opB .mul (.tup [rgD ps]) (.int 301) t = some (.tup L, t) := fun t => by
    rw [mul_tup (by simp) (by decide) (by decide) (by simp), flat_rep, hL]
    rfl
  simp only [w_ok, w_err, w_non, w_bl, w_int, w_str, w_con, w_var, w_tup, w_lst, w_bin, w_neg, w_not, w_and, w_or, w_cmp, w_chain, w_ite, w_call, w_callV, w_bi, w_isi, w_meth, w_ix, w_slc, w_rev, w_lrng, w_lzip, w_fld, t_not, t_and, t_or, t_cmp, t_var, t_call, t_bi, t_isi, t_ix, t_bl, t_chain, s_nil, s_cons, s_star, o_none, o_some, i_e, i_rng, i_zip, ss_nil, ss_cons, st_expr, st_ret, st_retN, st_pass, st_brk, st_cont, st_asg, st_par, st_setIx, st_iff, st_for, st_raise, ts_nil, ts_one, oQ_some, oQ_none, rq_ret, rq_nx, fq_nx, fq_cont, fq_brk, fq_ret, tgB, setAll, wipe, List.getElem?_cons_zero, List.getElem?_cons_succ, List.set_cons_zero, List.set_cons_succ, List.map_cons, List.map_nil, List.length_cons, List.length_nil, List.cons_append, List.nil_append, List.append_nil, List.replicate_succ, List.replicate_zero, Nat.reduceSub, Nat.sub_self, add_int, sub_int, int_int, int_bl, abs_int, max_int, min_int, len_tup, lt_int, le_int, gt_int, ge_int, eq_int, ne_int, eq_bl, ix_tup, at0, at1, at2, ito_tup, seq_tup, truth_bl, truth_tup, show (0 + 1 + 1 + 1 ≤ LIM) from by decide, show (0 + 1 + 1 ≤ LIM) from by decide, show (0 + 1 ≤ LIM) from by decide, if_true, m301]
  have e1 : (s ++ [Cell.lst true [rgD ps]])[s.length]? = some (.lst true [rgD ps]) := get_last
  have f1 : Fr [] s (s ++ [Cell.lst true [rgD ps]]) := Fr.app _ _ _
  generalize s.length = m1 at e1
  generalize s ++ [Cell.lst true [rgD ps]] = s1 at e1 f1
  have e2 : (s1 ++ [Cell.lst true [rgD ps]])[s1.length]? = some (.lst true [rgD ps]) := get_last
  have e3 := (Fr.app [] s1 [Cell.lst true [rgD ps]]).get e1
  have f2 := f1.trans (Fr.app [] s1 [Cell.lst true [rgD ps]])
  generalize s1.length = m2 at e2
  generalize s1 ++ [Cell.lst true [rgD ps]] = s2 at e2 e3 f2
  have sm1 := sm_rg c
  have wt1 := wt_rg c
  have dp1 := dp_rg (ps := ps)
  have hl : ∀ {m : Nat} {u : Sto}, u[m]? = some (.lst true [rgD ps]) → SmOf u (.ref m) (.list (pds [rgD ps])) := fun e => .inr ⟨_, _, _, rfl, e, by simp [smDs, sm1], by simp only [depDs]; omega, by simp only [wtDs]; unfold LIM; omega, rfl⟩
  have h3 : ∀ d ∈ [D.tup [.ref m1, .ref m2], .tup [.tup [rgD ps, v], v], .tup [.tup L, .tup L]], Cl3 p n s2 d := fun d hd => by
    simp only [List.mem_cons, List.not_mem_nil, or_false] at hd
    rcases hd with z | z | z <;> subst z
    · exact ⟨_, _, _, _, rfl, fun u f => cls_lst (f.get e3), fun u f => ⟨hl (f.get e3), hl (f.get e2)⟩⟩
    · obtain ⟨q, hs⟩ := h.rep
      exact ⟨_, _, _, q, rfl, fun u f => cls_bad c (h.fr (f2.trans f)), fun u f => ⟨hs u (f2.trans f), hs u (f2.trans f)⟩⟩
    · rw [hL]
      have sm : ∀ u, SmOf u (.tup (List.replicate 301 (rgD ps))) (pd (.tup (List.replicate 301 (rgD ps)))) := fun u => .inl ⟨sms_rep sm1 301, by
          have := dep_rep dp1 301
          show depDs (List.replicate 301 (rgD ps)) + 1 ≤ 60
          omega, by
          show wtDs (List.replicate 301 (rgD ps)) + 3 ≤ LIM
          rw [wt_rep]
          unfold LIM
          omega, rfl⟩
      exact ⟨_, _, _, _, rfl, fun u f => cls_many (by rw [List.length_replicate]; decide), fun u f => ⟨sm u, sm u⟩⟩
  have hF : [D.tup [.ref m1, .ref m2], .tup [.tup [rgD ps, v], v], .tup [.tup L, .tup L]].length < FUEL := by
    unfold FUEL
    simp
  generalize [D.tup [.ref m1, .ref m2], .tup [.tup [rgD ps, v], v], .tup [.tup L, .tup L]] = ds at h3 hF
  refine w_loop (ds := ds) (fun rest env t => (∀ d ∈ rest, Cl3 p n s2 d) ∧ (∃ w2 w4 w7, env = [some (.ref p), some (rgD ps), w2, v3, w4, some v, v6, w7]) ∧ Fr [] s2 t) hF (fun _ _ _ _ => rfl) ⟨h3, ⟨_, _, _, rfl⟩, Fr.refl _ _⟩ ?_ ?_
  · rintro d0 rest env t ⟨a1, ⟨w2, w4, w7, a3⟩, f⟩
    subst a3
    obtain ⟨value, due, v', q, ed, hc, hsm⟩ := a1 d0 (List.mem_cons_self ..)
    subst ed
    simp only [w_ok, w_err, w_non, w_bl, w_int, w_str, w_con, w_var, w_tup, w_lst, w_bin, w_neg, w_not, w_and, w_or, w_cmp, w_chain, w_ite, w_call, w_callV, w_bi, w_isi, w_meth, w_ix, w_slc, w_rev, w_lrng, w_lzip, w_fld, t_not, t_and, t_or, t_cmp, t_var, t_call, t_bi, t_isi, t_ix, t_bl, t_chain, s_nil, s_cons, s_star, o_none, o_some, i_e, i_rng, i_zip, ss_nil, ss_cons, st_expr, st_ret, st_retN, st_pass, st_brk, st_cont, st_asg, st_par, st_setIx, st_iff, st_for, st_raise, ts_nil, ts_one, oQ_some, oQ_none, rq_ret, rq_nx, fq_nx, fq_cont, fq_brk, fq_ret, tgB, setAll, wipe, List.getElem?_cons_zero, List.getElem?_cons_succ, List.set_cons_zero, List.set_cons_succ, List.map_cons, List.map_nil, List.length_cons, List.length_nil, List.cons_append, List.nil_append, List.append_nil, List.replicate_succ, List.replicate_zero, Nat.reduceSub, Nat.sub_self, add_int, sub_int, int_int, int_bl, abs_int, max_int, min_int, len_tup, lt_int, le_int, gt_int, ge_int, eq_int, ne_int, eq_bl, ix_tup, at0, at1, at2, ito_tup, seq_tup, truth_bl, truth_tup]
    refine heard_bad (v := v') (st := t) ?_ fun u f3 => ?_
    · simp only [w_ok, w_err, w_non, w_bl, w_int, w_str, w_con, w_var, w_tup, w_lst, w_bin, w_neg, w_not, w_and, w_or, w_cmp, w_chain, w_ite, w_call, w_callV, w_bi, w_isi, w_meth, w_ix, w_slc, w_rev, w_lrng, w_lzip, w_fld, t_not, t_and, t_or, t_cmp, t_var, t_call, t_bi, t_isi, t_ix, t_bl, t_chain, s_nil, s_cons, s_star, o_none, o_some, i_e, i_rng, i_zip, ss_nil, ss_cons, st_expr, st_ret, st_retN, st_pass, st_brk, st_cont, st_asg, st_par, st_setIx, st_iff, st_for, st_raise, ts_nil, ts_one, oQ_some, oQ_none, rq_ret, rq_nx, fq_nx, fq_cont, fq_brk, fq_ret, tgB, setAll, wipe, List.getElem?_cons_zero, List.getElem?_cons_succ, List.set_cons_zero, List.set_cons_succ, List.map_cons, List.map_nil, List.length_cons, List.length_nil, List.cons_append, List.nil_append, List.append_nil, List.replicate_succ, List.replicate_zero, Nat.reduceSub, Nat.sub_self, add_int, sub_int, int_int, int_bl, abs_int, max_int, min_int, len_tup, lt_int, le_int, gt_int, ge_int, eq_int, ne_int, eq_bl, ix_tup, at0, at1, at2, ito_tup, seq_tup, truth_bl, truth_tup]
      exact hc t f
    · obtain ⟨g1, g2⟩ := hsm u (f.trans f3)
      obtain ⟨r1, r2⟩ := repr_sm g1
      obtain ⟨r3, r4⟩ := repr_sm g2
      simp only [w_ok, w_err, w_non, w_bl, w_int, w_str, w_con, w_var, w_tup, w_lst, w_bin, w_neg, w_not, w_and, w_or, w_cmp, w_chain, w_ite, w_call, w_callV, w_bi, w_isi, w_meth, w_ix, w_slc, w_rev, w_lrng, w_lzip, w_fld, t_not, t_and, t_or, t_cmp, t_var, t_call, t_bi, t_isi, t_ix, t_bl, t_chain, s_nil, s_cons, s_star, o_none, o_some, i_e, i_rng, i_zip, ss_nil, ss_cons, st_expr, st_ret, st_retN, st_pass, st_brk, st_cont, st_asg, st_par, st_setIx, st_iff, st_for, st_raise, ts_nil, ts_one, oQ_some, oQ_none, rq_ret, rq_nx, fq_nx, fq_cont, fq_brk, fq_ret, tgB, setAll, wipe, List.getElem?_cons_zero, List.getElem?_cons_succ, List.set_cons_zero, List.set_cons_succ, List.map_cons, List.map_nil, List.length_cons, List.length_nil, List.cons_append, List.nil_append, List.append_nil, List.replicate_succ, List.replicate_zero, Nat.reduceSub, Nat.sub_self, add_int, sub_int, int_int, int_bl, abs_int, max_int, min_int, len_tup, lt_int, le_int, gt_int, ge_int, eq_int, ne_int, eq_bl, ix_tup, at0, at1, at2, ito_tup, seq_tup, truth_bl, truth_tup, isi_bs, Bool.not_true, sub_bs, if_true, r1, r3, ne_same r2]
      exact ⟨fun d hd => a1 d (List.mem_cons_of_mem _ hd), ⟨_, _, _, rfl⟩, f.trans f3⟩
  · rintro env t ⟨a1, ⟨w2, w4, w7, a3⟩, f⟩
    subst a3
    simp only [w_ok, w_err, w_non, w_bl, w_int, w_str, w_con, w_var, w_tup, w_lst, w_bin, w_neg, w_not, w_and, w_or, w_cmp, w_chain, w_ite, w_call, w_callV, w_bi, w_isi, w_meth, w_ix, w_slc, w_rev, w_lrng, w_lzip, w_fld, t_not, t_and, t_or, t_cmp, t_var, t_call, t_bi, t_isi, t_ix, t_bl, t_chain, s_nil, s_cons, s_star, o_none, o_some, i_e, i_rng, i_zip, ss_nil, ss_cons, st_expr, st_ret, st_retN, st_pass, st_brk, st_cont, st_asg, st_par, st_setIx, st_iff, st_for, st_raise, ts_nil, ts_one, oQ_some, oQ_none, rq_ret, rq_nx, fq_nx, fq_cont, fq_brk, fq_ret, tgB, setAll, wipe, List.getElem?_cons_zero, List.getElem?_cons_succ, List.set_cons_zero, List.set_cons_succ, List.map_cons, List.map_nil, List.length_cons, List.length_nil, List.cons_append, List.nil_append, List.append_nil, List.replicate_succ, List.replicate_zero, Nat.reduceSub, Nat.sub_self, add_int, sub_int, int_int, int_bl, abs_int, max_int, min_int, len_tup, lt_int, le_int, gt_int, ge_int, eq_int, ne_int, eq_bl, ix_tup, at0, at1, at2, ito_tup, seq_tup, truth_bl, truth_tup]
    exact hq t w2 w4 w7 (f2.trans f)
theorem keys_rep {ps : Rg} {k : Nat} (h : k ≠ 0) (x y : Int) : keyOf (List.replicate k ps) x = keyOf (List.replicate k ps) y ↔ keyOf [ps] x = keyOf [ps] y := by
  unfold keyOf
  rw [List.map_replicate, List.map_replicate]
  constructor
  · intro e
    have : memB x ps = memB y ps := by
      have := congrArg (fun l => l.head?) e
      simpa [List.head?_replicate, h] using this
    simp [this]
  · intro e
    simp only [List.map_cons, List.map_nil, List.cons.injEq, and_true] at e
    rw [e]
theorem l_are_refused_ok {n p B : Nat} {st : Sto} {ps : Rg} (c : Can 0 ps) (hp : Pot p B st) (hB : B < 2 ^ 30) : W (callN P0 (n + 7) "_law_are_refused" [.ref p, rgD ps] st) (fun v s => v = .bl true ∧ Pot p (B + 1) s ∧ Fr [p] st s) NE := by
  refine w_def d_l_are_refused rfl rfl ?_
  have lp := hp.lt
  obtain ⟨r3, hr3⟩ : ∃ r3, r3 = (.cons (.ret (.cmp .eq (.call "classes" (.cons false (.bin .mul (.tup (.cons false (.var 1) .nil)) (.int 300)) .nil)) (.call "classes" (.cons false (.tup (.cons false (.var 1) .nil)) .nil)))) .nil : ISs) := ⟨_, rfl⟩
  obtain ⟨r2, hr2⟩ : ∃ r2, r2 = (.cons (.forr (.tp [7, 4]) (.e (.tup (.cons false (.tup (.cons false (.lst (.cons false (.var 1) .nil)) (.cons false (.lst (.cons false (.var 1) .nil)) .nil))) (.cons false (.tup (.cons false (.tup (.cons false (.var 1) (.cons false (.var 5) .nil))) (.cons false (.var 5) .nil))) (.cons false (.tup (.cons false (.bin .mul (.tup (.cons false (.var 1) .nil)) (.int 301)) (.cons false (.bin .mul (.tup (.cons false (.var 1) .nil)) (.int 301)) .nil))) .nil))))) (.cons (.asg (.nm 2) (.ix (.heard "FormatError" (.call "classes" (.cons false (.var 7) .nil))) (.int 0))) (.cons (.iff (.or (.not (.isi (.cls "BadSet") (.var 2))) (.cmp .ne (.bi .repr (.cons false (.fld (.var 2)) .nil)) (.bi .repr (.cons false (.var 4) .nil)))) (.cons (.ret (.bl false)) .nil) .nil) .nil))) r3 : ISs) := ⟨_, rfl⟩
  obtain ⟨r1, hr1⟩ : ∃ r1, r1 = (.cons (.forr (.nm 6) (.e (.tup (.cons false (.con (.fn "either")) (.cons false (.con (.fn "both")) (.cons false (.con (.fn "without")) .nil))))) (.cons (.asg (.nm 2) (.ix (.heard "FormatError" (.callV 6 (.cons false (.var 5) (.cons false (.int 7) .nil)))) (.int 0))) (.cons (.asg (.nm 3) (.ix (.heard "FormatError" (.callV 6 (.cons false (.var 1) (.cons false (.var 5) .nil)))) (.int 0))) (.cons (.iff (.or (.not (.isi (.cls "BadSet") (.var 2))) (.not (.isi (.cls "BadSet") (.var 3)))) (.cons (.ret (.bl false)) .nil) .nil) (.cons (.iff (.cmp .ne (.bi .repr (.cons false (.tup (.cons false (.fld (.var 2)) (.cons false (.fld (.var 3)) .nil))) .nil)) (.bi .repr (.cons false (.tup (.cons false (.var 5) (.cons false (.var 5) .nil))) .nil))) (.cons (.ret (.bl false)) .nil) .nil) .nil))))) r2 : ISs) := ⟨_, rfl⟩
  obtain ⟨r0, hr0⟩ : ∃ r0, r0 = (.cons (.forr (.nm 6) (.e (.tup (.cons false (.con (.fn "numbers")) (.cons false (.con (.fn "others")) .nil)))) (.cons (.asg (.nm 2) (.ix (.heard "FormatError" (.callV 6 (.cons false (.var 5) .nil))) (.int 0))) (.cons (.iff (.or (.not (.isi (.cls "BadSet") (.var 2))) (.cmp .ne (.bi .repr (.cons false (.fld (.var 2)) .nil)) (.bi .repr (.cons false (.var 5) .nil)))) (.cons (.ret (.bl false)) .nil) .nil) .nil))) r1 : ISs) := ⟨_, rfl⟩
  have hb : b_l_are_refused = .cons (.asg (.nm 5) (.lst (.cons false .non (.cons false (.tup (.cons false (.tup (.cons false (.int 1) (.cons false (.int 0) .nil))) .nil)) (.cons false (.tup (.cons false (.tup (.cons false (.int 0) (.cons false (.int 256) .nil))) .nil)) (.cons false (.tup (.cons false (.tup (.cons false (.int 0) (.cons false (.int 1) .nil))) (.cons false (.tup (.cons false (.int 2) (.cons false (.int 3) .nil))) .nil))) (.cons false (.lst (.cons false (.tup (.cons false (.int 0) (.cons false (.int 1) .nil))) .nil)) (.cons false (.tup (.cons false (.tup (.cons false (.int 0) .nil)) .nil)) (.cons false (.tup (.cons false (.tup (.cons false (.bl true) (.cons false (.int 1) .nil))) .nil)) (.cons false (.tup (.cons false (.tup (.cons false (.int 5) (.cons false (.int 6) .nil))) (.cons false (.tup (.cons false (.int 0) (.cons false (.int 1) .nil))) .nil))) .nil)))))))))) (.cons (.asg (.nm 5) (.call "_law_of" (.cons false (.var 0) (.cons false (.var 5) .nil)))) r0) := by
    rw [hr0, hr1, hr2, hr3]
    rfl
  rw [hb]
  simp only [w_ok, w_err, w_non, w_bl, w_int, w_str, w_con, w_var, w_tup, w_lst, w_bin, w_neg, w_not, w_and, w_or, w_cmp, w_chain, w_ite, w_call, w_callV, w_bi, w_isi, w_meth, w_ix, w_slc, w_rev, w_lrng, w_lzip, w_fld, t_not, t_and, t_or, t_cmp, t_var, t_call, t_bi, t_isi, t_ix, t_bl, t_chain, s_nil, s_cons, s_star, o_none, o_some, i_e, i_rng, i_zip, ss_nil, ss_cons, st_expr, st_ret, st_retN, st_pass, st_brk, st_cont, st_asg, st_par, st_setIx, st_iff, st_for, st_raise, ts_nil, ts_one, oQ_some, oQ_none, rq_ret, rq_nx, fq_nx, fq_cont, fq_brk, fq_ret, tgB, setAll, wipe, List.getElem?_cons_zero, List.getElem?_cons_succ, List.set_cons_zero, List.set_cons_succ, List.map_cons, List.map_nil, List.length_cons, List.length_nil, List.cons_append, List.nil_append, List.append_nil, List.replicate_succ, List.replicate_zero, Nat.reduceSub, Nat.sub_self, add_int, sub_int, int_int, int_bl, abs_int, max_int, min_int, len_tup, lt_int, le_int, gt_int, ge_int, eq_int, ne_int, eq_bl, ix_tup, at0, at1, at2, ito_tup, seq_tup, truth_bl, truth_tup, show (0 + 1 + 1 + 1 + 1 + 1 + 1 + 1 + 1 ≤ LIM) from by decide, show (0 + 1 + 1 ≤ LIM) from by decide, show (0 + 1 ≤ LIM) from by decide, if_true]
  have e1 : (st ++ [Cell.lst true [D.tup [D.int 0, D.int 1]]])[st.length]? = some (.lst true [D.tup [D.int 0, D.int 1]]) := get_last
  have f1 : Fr [] st (st ++ [Cell.lst true [D.tup [D.int 0, D.int 1]]]) := Fr.app _ _ _
  have l1 : st.length ≠ p := by omega
  generalize st.length = m1 at e1 l1
  generalize st ++ [Cell.lst true [D.tup [D.int 0, D.int 1]]] = s1 at e1 f1
  have q1 := hp.fr f1
  have lp1 := q1.lt
  refine (of_ok (n := n + 4) (p := p) (B := B) get_last (by omega) (by simp) (by simp) (q1.fr (Fr.app [] _ _)) (by omega)).imp fun v u ⟨hv, q4, fr⟩ => ?_
  have f2 : Fr [p] s1 u := ((Fr.app [] s1 _).all).trans fr
  have bad : BadV p u v := by
    simp only [List.mem_cons, List.not_mem_nil, or_false] at hv
    rcases hv with z | z | z | z | z | z | z | z <;> subst z
    · exact ⟨rfl, .non, .inl ⟨rfl, by decide, by decide⟩⟩
    · exact ⟨by decide, kv_one (kv_two (.int _) (.int _)), .inl ⟨by decide, by decide, by decide⟩⟩
    · exact ⟨by decide, kv_one (kv_two (.int _) (.int _)), .inl ⟨by decide, by decide, by decide⟩⟩
    · exact ⟨by decide, kv_two (kv_two (.int _) (.int _)) (kv_two (.int _) (.int _)), .inl ⟨by decide, by decide, by decide⟩⟩
    · have e5 := f2.get e1 (by simpa using l1)
      exact ⟨rfl, .ref (Nat.zero_le _) e5, .inr ⟨_, _, rfl, e5⟩⟩
    · exact ⟨by decide, kv_one (kv_one (.int _)), .inl ⟨by decide, by decide, by decide⟩⟩
    · exact ⟨by decide, kv_one (kv_two (.bl _) (.int _)), .inl ⟨by decide, by decide, by decide⟩⟩
    · exact ⟨by decide, kv_two (kv_two (.int _) (.int _)) (kv_two (.int _) (.int _)), .inl ⟨by decide, by decide, by decide⟩⟩
  rw [hr0]
  refine refused1 (n := n) bad fun t1 w2 w6 g1 => ?_
  rw [hr1]
  refine refused2 (n := n) c (bad.fr g1) fun t2 w2 w3 w6 g2 => ?_
  rw [hr2]
  refine refused3 (n := n) c (bad.fr (g1.trans g2)) fun t3 w2 w4 w7 g3 => ?_
  rw [hr3]
  obtain ⟨rows, hrows⟩ : ∃ rows, rows = List.replicate 300 ps := ⟨_, rfl⟩
  have m300 : ∀ t, opB .mul (.tup [rgD ps]) (.int 300) t = some (.tup (rows.map rgD), t) := fun t => by
    rw [mul_tup (by simp) (by decide) (by decide) (by simp), flat_rep, hrows, List.map_replicate]
    rfl
  simp only [w_ok, w_err, w_non, w_bl, w_int, w_str, w_con, w_var, w_tup, w_lst, w_bin, w_neg, w_not, w_and, w_or, w_cmp, w_chain, w_ite, w_call, w_callV, w_bi, w_isi, w_meth, w_ix, w_slc, w_rev, w_lrng, w_lzip, w_fld, t_not, t_and, t_or, t_cmp, t_var, t_call, t_bi, t_isi, t_ix, t_bl, t_chain, s_nil, s_cons, s_star, o_none, o_some, i_e, i_rng, i_zip, ss_nil, ss_cons, st_expr, st_ret, st_retN, st_pass, st_brk, st_cont, st_asg, st_par, st_setIx, st_iff, st_for, st_raise, ts_nil, ts_one, oQ_some, oQ_none, rq_ret, rq_nx, fq_nx, fq_cont, fq_brk, fq_ret, tgB, setAll, wipe, List.getElem?_cons_zero, List.getElem?_cons_succ, List.set_cons_zero, List.set_cons_succ, List.map_cons, List.map_nil, List.length_cons, List.length_nil, List.cons_append, List.nil_append, List.append_nil, List.replicate_succ, List.replicate_zero, Nat.reduceSub, Nat.sub_self, add_int, sub_int, int_int, int_bl, abs_int, max_int, min_int, len_tup, lt_int, le_int, gt_int, ge_int, eq_int, ne_int, eq_bl, ix_tup, at0, at1, at2, ito_tup, seq_tup, truth_bl, truth_tup, show (0 + 1 ≤ LIM) from by decide, if_true, m300]
  refine (classes_ok (n := n) (rows := rows) (fun q hq => by rw [hrows] at hq; rw [(List.mem_replicate.mp hq).2]; exact c) (by rw [hrows, List.length_replicate]; decide)).imp fun v1 t4 ⟨g4, rs, ev, cu⟩ => ?_
  subst ev
  try simp only [w_ok, w_err, w_non, w_bl, w_int, w_str, w_con, w_var, w_tup, w_lst, w_bin, w_neg, w_not, w_and, w_or, w_cmp, w_chain, w_ite, w_call, w_callV, w_bi, w_isi, w_meth, w_ix, w_slc, w_rev, w_lrng, w_lzip, w_fld, t_not, t_and, t_or, t_cmp, t_var, t_call, t_bi, t_isi, t_ix, t_bl, t_chain, s_nil, s_cons, s_star, o_none, o_some, i_e, i_rng, i_zip, ss_nil, ss_cons, st_expr, st_ret, st_retN, st_pass, st_brk, st_cont, st_asg, st_par, st_setIx, st_iff, st_for, st_raise, ts_nil, ts_one, oQ_some, oQ_none, rq_ret, rq_nx, fq_nx, fq_cont, fq_brk, fq_ret, tgB, setAll, wipe, List.getElem?_cons_zero, List.getElem?_cons_succ, List.set_cons_zero, List.set_cons_succ, List.map_cons, List.map_nil, List.length_cons, List.length_nil, List.cons_append, List.nil_append, List.append_nil, List.replicate_succ, List.replicate_zero, Nat.reduceSub, Nat.sub_self, add_int, sub_int, int_int, int_bl, abs_int, max_int, min_int, len_tup, lt_int, le_int, gt_int, ge_int, eq_int, ne_int, eq_bl, ix_tup, at0, at1, at2, ito_tup, seq_tup, truth_bl, truth_tup, show (0 + 1 ≤ LIM) from by decide, if_true]
  refine (classes_ok (n := n) (rows := [ps]) (fun q hq => by rw [List.mem_singleton.mp hq]; exact c) (by simp)).imp fun v1 t5 ⟨g5, rs2, ev, cu2⟩ => ?_
  subst ev
  rw [hrows] at cu
  have er : rs = rs2 := cut_ext _ (cut_congr (keys_rep (by decide)) (o := none) cu) cu2
  subst er
  simp only [w_ok, w_err, w_non, w_bl, w_int, w_str, w_con, w_var, w_tup, w_lst, w_bin, w_neg, w_not, w_and, w_or, w_cmp, w_chain, w_ite, w_call, w_callV, w_bi, w_isi, w_meth, w_ix, w_slc, w_rev, w_lrng, w_lzip, w_fld, t_not, t_and, t_or, t_cmp, t_var, t_call, t_bi, t_isi, t_ix, t_bl, t_chain, s_nil, s_cons, s_star, o_none, o_some, i_e, i_rng, i_zip, ss_nil, ss_cons, st_expr, st_ret, st_retN, st_pass, st_brk, st_cont, st_asg, st_par, st_setIx, st_iff, st_for, st_raise, ts_nil, ts_one, oQ_some, oQ_none, rq_ret, rq_nx, fq_nx, fq_cont, fq_brk, fq_ret, tgB, setAll, wipe, List.getElem?_cons_zero, List.getElem?_cons_succ, List.set_cons_zero, List.set_cons_succ, List.map_cons, List.map_nil, List.length_cons, List.length_nil, List.cons_append, List.nil_append, List.append_nil, List.replicate_succ, List.replicate_zero, Nat.reduceSub, Nat.sub_self, add_int, sub_int, int_int, int_bl, abs_int, max_int, min_int, len_tup, lt_int, le_int, gt_int, ge_int, eq_int, ne_int, eq_bl, ix_tup, at0, at1, at2, ito_tup, seq_tup, truth_bl, truth_tup, eq_rg]
  have gg := (((g1.trans g2).trans g3).trans g4).trans g5
  exact ⟨trivial, q4.fr gg, (f1.all.trans f2).trans gg.all⟩
end K01
end
section
set_option autoImplicit false
set_option linter.all false
set_option maxRecDepth 100000
set_option maxHeartbeats 4000000
namespace K01
open PySem PyI
theorem d_l_right : P0.defs "_law_right" = some ⟨1, 17, b_l_right⟩ := by kernel_rfl
theorem set_fr {s : Sto} {n : Nat} {c : Cell} (ps : List Nat) : Fr (n :: ps) s (s.set n c) := (Fr.refl _ _).set (.inl (by simp))
/-- a comprehension that draws -/
theorem lc_pot {C : Str → List D → Sto → Res D} {p B : Nat} (c : Nat) {Φ : Sto → D → Prop} {ds : List D} {bind : D → Sto → Option PyI.Env} {elt : PyI.Env → Sto → Res D} {st : Sto} {Q : D → Sto → Prop} {E : Str → D → Sto → Prop}
    (mono : ∀ s t d, Fr [st.length, p] s t → Φ s d → Φ t d) (hp : Pot p B st) (hl : ds.length < 1000)
    (el : ∀ d ∈ ds, ∀ B' s, Fr [p] st s → st.length < s.length → Pot p B' s → B' ≤ B + c * ds.length → oQ (bind d s) fun env1 => W (elt env1 s) (fun y s2 => Φ s2 y ∧ Pot p (B' + c) s2 ∧ Fr [p] s s2) NE)
    (fin : ∀ acc s, Fr [p] st s → Pot p (B + c * ds.length) s → s[st.length]? = some (.lst true acc) → acc.length = ds.length → (∀ y ∈ acc, Φ s y) → Q (.ref st.length) s) :
    W (lcLoop (.items ds) bind (fun env st => evTs P0 C .nil env st) elt st.length FUEL 0 (st ++ [.lst true []])) Q E := by
  have lp := hp.lt
  refine w_lcA (ds := ds) (fun rest acc s => ∃ pre, ds = pre ++ rest ∧ acc.length = pre.length ∧ Pot p (B + c * pre.length) s ∧ Fr [p] st s ∧ s[st.length]? = some (.lst true acc) ∧ ∀ y ∈ acc, Φ s y) (fun rest acc s _ => by rfl) (fun d rest acc s ⟨pre, e1, e2, q, fr, e3, ph⟩ => ?_) (fun acc s ⟨pre, e1, e2, q, fr, e3, ph⟩ => ?_) FUEL 0 ds [] _ rfl (by unfold FUEL; omega) ⟨[], rfl, rfl, hp.fr (Fr.app [] _ _), (Fr.app [] _ _).all, get_last, fun y hy => by cases hy⟩
  · have hd : d ∈ ds := by rw [e1]; simp
    have le : pre.length < ds.length := by
      rw [e1, List.length_append, List.length_cons]
      omega
    have le2 : c * pre.length ≤ c * ds.length := Nat.mul_le_mul_left c (Nat.le_of_lt le)
    have z := el d hd _ s fr (lt_of_get e3) q (by omega)
    cases hb : bind d s with
    | none =>
      rw [hb] at z
      exact False.elim z
    | some env1 =>
      rw [hb] at z
      rw [oQ_some, ts_nil]
      refine W.imp z fun y s2 ⟨h1, q2, f2⟩ => ?_
      have e4 := f2.get e3 (by simp; omega)
      have f3 : Fr [st.length, p] s2 (s2.set st.length (.lst true (acc ++ [y]))) := set_fr [p]
      refine ⟨e4, by unfold LIM; omega, pre ++ [d], by rw [e1]; simp, by simp [e2], ?_, (fr.trans f2).set (.inr (Nat.le_refl _)), get_set e4, fun y' hy => ?_⟩
      · rw [List.length_append, List.length_singleton, Nat.mul_add, Nat.mul_one, ← Nat.add_assoc]
        exact q2.fr (ps := [st.length]) (set_fr []) (by simp; omega)
      · rcases List.mem_append.mp hy with w | w
        · exact mono _ _ _ f3 (mono _ _ _ (f2.sub (by simp)) (ph y' w))
        · rw [List.mem_singleton.mp w]
          exact mono _ _ _ f3 h1
  · rw [List.append_nil] at e1
    subst e1
    exact fin acc s fr q e3 e2 ph
def bytesI (ps : Rg) : List Int := ps.flatMap fun p => rngI p.1 (p.2 + 1)
theorem bytes_map (ps : Rg) : bytesOf ps = (bytesI ps).map .int := by
  unfold bytesOf bytesI
  rw [List.map_flatMap]
  congr 1
  funext p
  exact rngD_map _ _
theorem mem_rngI {a b x : Int} : x ∈ rngI a b ↔ a ≤ x ∧ x < b := by
  unfold rngI
  simp only [List.mem_map, List.mem_range]
  constructor
  · rintro ⟨i, hi, e⟩
    omega
  · rintro ⟨h1, h2⟩
    exact ⟨(x - a).toNat, by omega, by omega⟩
theorem mem_bytes {ps : Rg} {x : Int} : x ∈ bytesI ps ↔ Mem x ps := by
  unfold bytesI Mem
  simp only [List.mem_flatMap, mem_rngI]
  constructor
  · rintro ⟨p, hp, h1, h2⟩
    exact ⟨p, hp, h1, by omega⟩
  · rintro ⟨p, hp, h1, h2⟩
    exact ⟨p, hp, h1, by omega⟩
/-- a check: two texts are the same -/
theorem chk {C : Str → List D → Sto → Res D} {env : PyI.Env} {st : Sto} {A B : IE} {r : ISs} {QF : PyI.Flow → Sto → Prop} (hA : W (evE P0 C A env st) (fun a s => Fr [] st s ∧ (smD a = true ∧ depD a ≤ 60 ∧ wtD a ≤ LIM) ∧ W (evE P0 C B env s) (fun b t => b = a ∧ Fr [] s t) NE) NE)
    (hr : ∀ t, Fr [] st t → W (evSs P0 C r env t) QF NE) : W (evSs P0 C (.cons (.iff (.cmp .ne (.bi .repr (.cons false A .nil)) (.bi .repr (.cons false B .nil))) (.cons (.ret (.bl false)) .nil) .nil) r) env st) QF NE := by
  simp only [w_ok, w_err, w_non, w_bl, w_int, w_str, w_con, w_var, w_tup, w_lst, w_bin, w_neg, w_not, w_and, w_or, w_cmp, w_chain, w_ite, w_call, w_callV, w_bi, w_isi, w_meth, w_ix, w_slc, w_rev, w_lrng, w_lzip, w_fld, t_not, t_and, t_or, t_cmp, t_var, t_call, t_bi, t_isi, t_ix, t_bl, t_chain, s_nil, s_cons, s_star, o_none, o_some, i_e, i_rng, i_zip, ss_nil, ss_cons, st_expr, st_ret, st_retN, st_pass, st_brk, st_cont, st_asg, st_par, st_setIx, st_iff, st_for, st_raise, ts_nil, ts_one, oQ_some, oQ_none, rq_ret, rq_nx, fq_nx, fq_cont, fq_brk, fq_ret, tgB, setAll, wipe, List.getElem?_cons_zero, List.getElem?_cons_succ, List.set_cons_zero, List.set_cons_succ, List.map_cons, List.map_nil, List.length_cons, List.length_nil, List.cons_append, List.nil_append, List.append_nil, List.replicate_succ, List.replicate_zero, Nat.reduceSub, Nat.sub_self, add_int, sub_int, int_int, int_bl, abs_int, max_int, min_int, len_tup, lt_int, le_int, gt_int, ge_int, eq_int, ne_int, eq_bl, ix_tup, at0, at1, at2, ito_tup, seq_tup, truth_bl, truth_tup]
  refine hA.imp fun a s ⟨f, ⟨h1, h2, h3⟩, hB⟩ => ?_
  have sm : ∀ u, SmOf u a (pd a) := fun u => .inl ⟨h1, h2, h3, rfl⟩
  rw [(repr_sm (sm s)).1]
  simp only [w_ok, w_err, w_non, w_bl, w_int, w_str, w_con, w_var, w_tup, w_lst, w_bin, w_neg, w_not, w_and, w_or, w_cmp, w_chain, w_ite, w_call, w_callV, w_bi, w_isi, w_meth, w_ix, w_slc, w_rev, w_lrng, w_lzip, w_fld, t_not, t_and, t_or, t_cmp, t_var, t_call, t_bi, t_isi, t_ix, t_bl, t_chain, s_nil, s_cons, s_star, o_none, o_some, i_e, i_rng, i_zip, ss_nil, ss_cons, st_expr, st_ret, st_retN, st_pass, st_brk, st_cont, st_asg, st_par, st_setIx, st_iff, st_for, st_raise, ts_nil, ts_one, oQ_some, oQ_none, rq_ret, rq_nx, fq_nx, fq_cont, fq_brk, fq_ret, tgB, setAll, wipe, List.getElem?_cons_zero, List.getElem?_cons_succ, List.set_cons_zero, List.set_cons_succ, List.map_cons, List.map_nil, List.length_cons, List.length_nil, List.cons_append, List.nil_append, List.append_nil, List.replicate_succ, List.replicate_zero, Nat.reduceSub, Nat.sub_self, add_int, sub_int, int_int, int_bl, abs_int, max_int, min_int, len_tup, lt_int, le_int, gt_int, ge_int, eq_int, ne_int, eq_bl, ix_tup, at0, at1, at2, ito_tup, seq_tup, truth_bl, truth_tup]
  refine hB.imp fun b t ⟨e, f2⟩ => ?_
  subst e
  rw [(repr_sm (sm t)).1]
  simp only [w_ok, w_err, w_non, w_bl, w_int, w_str, w_con, w_var, w_tup, w_lst, w_bin, w_neg, w_not, w_and, w_or, w_cmp, w_chain, w_ite, w_call, w_callV, w_bi, w_isi, w_meth, w_ix, w_slc, w_rev, w_lrng, w_lzip, w_fld, t_not, t_and, t_or, t_cmp, t_var, t_call, t_bi, t_isi, t_ix, t_bl, t_chain, s_nil, s_cons, s_star, o_none, o_some, i_e, i_rng, i_zip, ss_nil, ss_cons, st_expr, st_ret, st_retN, st_pass, st_brk, st_cont, st_asg, st_par, st_setIx, st_iff, st_for, st_raise, ts_nil, ts_one, oQ_some, oQ_none, rq_ret, rq_nx, fq_nx, fq_cont, fq_brk, fq_ret, tgB, setAll, wipe, List.getElem?_cons_zero, List.getElem?_cons_succ, List.set_cons_zero, List.set_cons_succ, List.map_cons, List.map_nil, List.length_cons, List.length_nil, List.cons_append, List.nil_append, List.append_nil, List.replicate_succ, List.replicate_zero, Nat.reduceSub, Nat.sub_self, add_int, sub_int, int_int, int_bl, abs_int, max_int, min_int, len_tup, lt_int, le_int, gt_int, ge_int, eq_int, ne_int, eq_bl, ix_tup, at0, at1, at2, ito_tup, seq_tup, truth_bl, truth_tup, ne_same (repr_sm (sm t)).2]
  exact hr t (f.trans f2)
theorem smok_rg {ps : Rg} (c : Can 0 ps) : smD (rgD ps) = true ∧ depD (rgD ps) ≤ 60 ∧ wtD (rgD ps) ≤ LIM := ⟨sm_rg c, by have := dp_rg (ps := ps); omega, by have := wt_rg c; unfold LIM; omega⟩
theorem smok_cut {κ : Type} {key : Int → κ} {ps : Rg} (c : Cut key none 0 ps) : smD (rgD ps) = true ∧ depD (rgD ps) ≤ 60 ∧ wtD (rgD ps) ≤ LIM := by
  have it : ∀ {ps : Rg} {k : Option κ} {b : Int}, 0 ≤ b → Cut key k b ps → (∀ p ∈ ps, 0 ≤ p.1 ∧ p.1 ≤ p.2 ∧ p.2 ≤ 255) ∧ (ps.length : Int) + b ≤ 256 := by
    intro ps
    induction ps with
    | nil =>
      intro k b hb c
      have c' : b = 256 := c
      exact ⟨(fun p hp => by cases hp), by simp; omega⟩
    | cons q r ih =>
      intro k b hb c
      obtain ⟨c1, c2, c3, c4, c5, c6⟩ := c
      obtain ⟨i1, i2⟩ := ih (by omega) c6
      refine ⟨fun p hp => ?_, ?_⟩
      · rcases List.mem_cons.mp hp with z | z
        · subst z
          omega
        · exact i1 p z
      · rw [List.length_cons]
        omega
  obtain ⟨i1, i2⟩ := it (Int.le_refl 0) c
  refine ⟨sm_rgs i1, by have := dp_rg (ps := ps); omega, ?_⟩
  show wtDs (ps.map prD) + 3 ≤ LIM
  rw [wt_rgs]
  unfold LIM
  omega
theorem sm_ints : ∀ {ks : List Int}, (∀ k ∈ ks, 0 ≤ k ∧ k ≤ 255) → smDs (ks.map .int) = true ∧ depDs (ks.map .int) = 0 ∧ wtDs (ks.map .int) = 7 * ks.length
  | [], _ => ⟨rfl, rfl, rfl⟩
  | k :: r, h => by
    obtain ⟨i1, i2, i3⟩ := sm_ints fun x hx => h x (List.mem_cons_of_mem _ hx)
    obtain ⟨h1, h2⟩ := h k (List.mem_cons_self ..)
    refine ⟨?_, ?_, ?_⟩
    · show (smD (.int k) && smDs (r.map .int)) = true
      rw [i1]
      simp only [smD, Bool.and_true, Bool.and_eq_true, decide_eq_true_eq]
      omega
    · show max (depD (.int k)) (depDs (r.map .int)) = 0
      rw [i2]
      rfl
    · show wtD (.int k) + 2 + wtDs (r.map .int) = _
      rw [i3, List.length_cons]
      show 5 + 2 + _ = _
      omega
theorem smok_bytes {ps : Rg} (c : Can 0 ps) : smD (.tup (bytesOf ps)) = true ∧ depD (.tup (bytesOf ps)) ≤ 60 ∧ wtD (.tup (bytesOf ps)) ≤ LIM := by
  have hb : ∀ k ∈ bytesI ps, 0 ≤ k ∧ k ≤ 255 := fun k hk => c.ge (mem_bytes.mp hk)
  obtain ⟨i1, i2, i3⟩ := sm_ints hb
  have hl : (bytesI ps).length ≤ 256 := by
    have e : (bytesOf ps).length = (bytesI ps).length := by rw [bytes_map, List.length_map]
    rcases bytes_len c (Int.le_refl 0) with z | z
    · omega
    · subst z
      simp [bytesI]
  rw [bytes_map]
  refine ⟨i1, ?_, ?_⟩
  · show depDs _ + 1 ≤ 60
    rw [i2]
    decide
  · show wtDs _ + 3 ≤ LIM
    rw [i3]
    unfold LIM
    omega
end K01
end
section
set_option autoImplicit false
set_option linter.all false
set_option maxRecDepth 100000
set_option maxHeartbeats 4000000
namespace K01
open PySem PyI
/-- the lots of bytes in cells -/
def LotsOk : List Rg → List Nat → Sto → Prop
  | [], [], _ => True
  | ps :: r, m :: ms, t => t[m]? = some (.lst true ((bytesI ps).map .int)) ∧ LotsOk r ms t
  | _, _, _ => False
theorem LotsOk.fr {s t : Sto} {ps : List Nat} (f : Fr ps s t) : ∀ {rows : List Rg} {ms : List Nat}, (∀ m ∈ ms, m ∉ ps) → LotsOk rows ms s → LotsOk rows ms t
  | [], [], _, _ => trivial
  | _ :: _, m :: ms, hm, ⟨h1, h2⟩ => ⟨f.get h1 (hm m (List.mem_cons_self ..)), LotsOk.fr f (fun x hx => hm x (List.mem_cons_of_mem _ hx)) h2⟩
theorem LotsOk.snoc {t : Sto} {ps : Rg} {m : Nat} (h : t[m]? = some (.lst true ((bytesI ps).map .int))) : ∀ {rows : List Rg} {ms : List Nat}, LotsOk rows ms t → LotsOk (rows ++ [ps]) (ms ++ [m]) t
  | [], [], _ => ⟨h, trivial⟩
  | _ :: _, _ :: _, ⟨h1, h2⟩ => ⟨h1, LotsOk.snoc h h2⟩
theorem LotsOk.item {t : Sto} : ∀ {rows : List Rg} {ms : List Nat} {m : Nat}, LotsOk rows ms t → m ∈ ms → ∃ ps ∈ rows, t[m]? = some (.lst true ((bytesI ps).map .int))
  | [], [], m, _, h => by cases h
  | ps :: r, k :: ms, m, ⟨h1, h2⟩, h => by
    rcases List.mem_cons.mp h with z | z
    · subst z
      exact ⟨ps, List.mem_cons_self .., h1⟩
    · obtain ⟨q, hq, e⟩ := LotsOk.item h2 z
      exact ⟨q, List.mem_cons_of_mem _ hq, e⟩
theorem LotsOk.len {t : Sto} : ∀ {rows : List Rg} {ms : List Nat}, LotsOk rows ms t → ms.length = rows.length
  | [], [], _ => rfl
  | _ :: _, _ :: _, ⟨_, h2⟩ => by rw [List.length_cons, List.length_cons, LotsOk.len h2]
def keyG (b : Int) (t : Sto) (d : D) : D := .bl ((inD (.int b) d t).getD false)
theorem LotsOk.keys {t : Sto} {b : Int} : ∀ {rows : List Rg} {ms : List Nat}, LotsOk rows ms t → (ms.map D.ref).map (keyG b t) = (keyOf rows b).map .bl
  | [], [], _ => rfl
  | ps :: r, m :: ms, ⟨h1, h2⟩ => by
    have ih := LotsOk.keys (b := b) h2
    unfold keyOf at ih ⊢
    rw [List.map_cons, List.map_cons, List.map_cons, List.map_cons, ih]
    congr 1
    unfold keyG
    rw [in_ints h1]
    show D.bl (decide (b ∈ bytesI ps)) = _
    congr 1
    rw [Bool.eq_iff_iff, decide_eq_true_eq, mem_bytes, memB_iff]
theorem keysI_lst {i n : Nat} {env : PyI.Env} {t : Sto} {w : Bool} {xs : List D} (e1 : env[i]? = some (some (.ref n))) (e : t[n]? = some (.lst w xs)) : keysI (.e (.var i)) env t = none := by
  show (match env[i]? with
    | some (some (.ref n)) => match t[n]? with
      | some (.dct true kvs) => some (n, kvs)
      | _ => none
    | _ => none) = _
  rw [e1]
  show (match t[n]? with
      | some (.dct true kvs) => some (n, kvs)
      | _ => none) = _
  rw [e]
/-! ### rows of (low, high, key) -/
def trip (o : Int × Int × Nat) : D := .tup [.int o.1, .int o.2.1, .ref o.2.2]
def two (o : Int × Int × Nat) : Int × Int := (o.1, o.2.1)
theorem pure_bls : ∀ bs : List Bool, pureDs (bs.map .bl) = true ∧ depDs (bs.map .bl) = 0
  | [] => ⟨rfl, rfl⟩
  | b :: r => by
    obtain ⟨i1, i2⟩ := pure_bls r
    refine ⟨?_, ?_⟩
    · show (pureD (.bl b) && pureDs (r.map .bl)) = true
      rw [i1]
      rfl
    · show max (depD (.bl b)) (depDs (r.map .bl)) = 0
      rw [i2]
      rfl
theorem eqv_bls : ∀ xs ys : List Bool, PyData.eqvAll (pds (xs.map .bl)) (pds (ys.map .bl)) = decide (xs = ys)
  | [], [] => by simp [pds, PyData.eqvAll]
  | [], y :: s => by simp [pds, PyData.eqvAll]
  | x :: r, [] => by simp [pds, PyData.eqvAll]
  | x :: r, y :: s => by
    simp only [List.map_cons, pds, pd, PyData.eqvAll, PyData.eqv, eqv_bls r s]
    rw [Bool.eq_iff_iff]
    simp
theorem eq_keys {t : Sto} {n m : Nat} {xs ys : List Bool} (e : t[n]? = some (.lst true (xs.map .bl))) (e2 : t[m]? = some (.lst true (ys.map .bl))) : cmpB .eq (.ref n) (.ref m) t = some (decide (xs = ys)) := by
  obtain ⟨a1, a2⟩ := pure_bls xs
  obtain ⟨b1, b2⟩ := pure_bls ys
  show eqD (.ref n) (.ref m) t = _
  rw [eqD_dat (dat_lst e a1 (by omega)) (dat_lst e2 b1 (by omega))]
  show some (PyData.eqv (.list (pds (xs.map .bl))) (.list (pds (ys.map .bl)))) = _
  rw [← eqv_bls]
  simp [PyData.eqv]
theorem deep_trips {t : Sto} : ∀ {out : List (Int × Int × Nat)}, (∀ o ∈ out, ∃ bs : List Bool, t[o.2.2]? = some (.lst true (bs.map .bl))) → ∃ L, (out.map trip).mapM (deepN 65 t) = some L ∧ PyData.canLayAll0 L = true ∧ PyData.depthAll L ≤ 10 ∧ L.isEmpty = out.isEmpty
  | [], _ => ⟨[], by simp, by simp [PyData.canLayAll0], by simp [PyData.depthAll], rfl⟩
  | o :: r, h => by
    obtain ⟨L, e1, e2, e3, e4⟩ := deep_trips fun x hx => h x (List.mem_cons_of_mem _ hx)
    obtain ⟨bs, eb⟩ := h o (List.mem_cons_self ..)
    obtain ⟨b1, b2⟩ := pure_bls bs
    have d1 : deepN 64 t (.ref o.2.2) = some (.list (pds (bs.map .bl))) := by
      show (match t[o.2.2]? with
        | some (.lst _ ds) => (ds.mapM (deepN 63 t)).map PyData.list
        | _ => none) = _
      rw [eb]
      show ((bs.map D.bl).mapM (deepN 63 t)).map PyData.list = _
      rw [deepN_pures 63 _ b1 (by omega)]
      rfl
    have d2 : deepN 65 t (trip o) = some (.tuple [.int o.1, .int o.2.1, .list (pds (bs.map .bl))]) := by
      show ([D.int o.1, .int o.2.1, .ref o.2.2].mapM (deepN 64 t)).map PyData.tuple = _
      rw [List.mapM_cons, List.mapM_cons, List.mapM_cons, d1]
      rfl
    refine ⟨.tuple [.int o.1, .int o.2.1, .list (pds (bs.map .bl))] :: L, ?_, ?_, ?_, rfl⟩
    · rw [List.map_cons, List.mapM_cons, d2, e1]
      rfl
    · simp only [PyData.canLayAll0, PyData.canLay0, e2, canLay_pds _ b1, Bool.and_self]
    · simp only [PyData.depthAll, PyData.depth, depth_pds, b2]
      omega
theorem ne_trips {t : Sto} {n : Nat} {out : List (Int × Int × Nat)} (e : t[n]? = some (.lst true (out.map trip))) (h : ∀ o ∈ out, ∃ bs : List Bool, t[o.2.2]? = some (.lst true (bs.map .bl))) : cmpB .ne (.ref n) (.ref t.length) (t ++ [Cell.lst true []]) = some (!out.isEmpty) := by
  have f := Fr.app [] t [Cell.lst true []]
  obtain ⟨L, e1, e2, e3, e4⟩ := deep_trips (t := t ++ [Cell.lst true []]) fun o ho => (h o ho).imp fun bs z => f.get z
  have d1 : deep (t ++ [Cell.lst true []]) (.ref n) = some (.list L) := by
    show (match (t ++ [Cell.lst true []])[n]? with
      | some (.lst _ ds) => (ds.mapM (deepN 65 (t ++ [Cell.lst true []]))).map PyData.list
      | _ => none) = _
    rw [f.get e]
    show ((out.map trip).mapM (deepN 65 (t ++ [Cell.lst true []]))).map PyData.list = _
    rw [e1]
    rfl
  have d2 : deep (t ++ [Cell.lst true []]) (.ref t.length) = some (.list []) := (dat_lst (w := true) (xs := []) get_last rfl (by decide)).deep
  have s1 : SeqAt.shaped (.list L) = true := by
    unfold SeqAt.shaped
    simp only [PyData.canLay0, PyData.depth, e2, Bool.true_and]
    exact decide_eq_true (by omega)
  have s2 : SeqAt.shaped (.list []) = true := by decide
  show (eqD (.ref n) (.ref t.length) (t ++ [Cell.lst true []])).map (!·) = _
  unfold eqD
  rw [d1, d2]
  show (if SeqAt.shaped (.list L) && SeqAt.shaped (.list []) then some (PyData.eqv (.list L) (.list [])) else none).map (!·) = _
  rw [s1, s2]
  rw [← e4]
  cases L with
  | nil => simp [PyData.eqv, PyData.eqvAll]
  | cons x r => simp [PyData.eqv, PyData.eqvAll]
/-- byte by byte: the ranges so far, each with its key -/
def FdI (rows : List Rg) (ms : List Nat) (st : Sto) (F L : Nat) (env0 : PyI.Env) (rest : List D) (env : PyI.Env) (t : Sto) : Prop :=
  ∃ b v2 v7, ∃ out : List (Int × Int × Nat), rest = rngD b 256 ∧ 0 ≤ b ∧ b ≤ 256 ∧ env = (env0.set 2 v2).set 7 v7 ∧ t[F]? = some (.lst true (out.map trip)) ∧ t[L]? = some (.lst true (ms.map .ref)) ∧ LotsOk rows ms t ∧ Fr [] st t ∧
    (∀ o ∈ out, o.2.2 ≠ F ∧ t[o.2.2]? = some (.lst true ((keyOf rows o.1).map .bl))) ∧ CutTo (keyOf rows) none 0 b (out.map two) ∧ (out = [] → b = 0)
def b_key : IS := .asg (.nm 7) (.lc (.cmp .isin (.var 2) (.var 4)) (.nm 4) (.e (.var 15)) .nil [4])
def b_fnd : IS := .iff (.and (.cmp .ne (.var 16) (.lst .nil)) (.cmp .eq (.ix (.ix (.var 16) (.neg (.int 1))) (.int 2)) (.var 7))) (.cons (.setIx (.var 16) (.neg (.int 1)) (.tup (.cons false (.ix (.ix (.var 16) (.neg (.int 1))) (.int 0)) (.cons false (.var 2) (.cons false (.var 7) .nil))))) .nil) (.cons (.expr (.meth .append (.var 16) (.cons false (.tup (.cons false (.var 2) (.cons false (.var 2) (.cons false (.var 7) .nil)))) .nil))) .nil)
theorem fnd_ok {n : Nat} {rows : List Rg} {ms : List Nat} {s : Sto} {F L : Nat} {v0 v1 v2 v3 v4 v5 v6 v7 v8 v9 v10 v11 v12 v13 v14 : Option D} {r : ISs} {QF : PyI.Flow → Sto → Prop} (hlen : ms.length < 1000) (hF : s[F]? = some (.lst true [])) (hL : s[L]? = some (.lst true (ms.map .ref))) (hM : LotsOk rows ms s) (hFL : F ≠ L) (hFM : ∀ m ∈ ms, m ≠ F)
    (hq : ∀ t w2 w7, ∀ out : List (Int × Int × Nat), Fr [F] s t → t[F]? = some (.lst true (out.map trip)) → Cut (keyOf rows) none 0 (out.map two) → W (evSs P0 (callN P0 n) r [v0, v1, w2, v3, v4, v5, v6, w7, v8, v9, v10, v11, v12, v13, v14, some (.ref L), some (.ref F)] t) QF NE) :
    W (evSs P0 (callN P0 n) (.cons (.forr (.nm 2) (.rng (.int 0) (.int 256)) (.cons b_key (.cons b_fnd .nil))) r) [v0, v1, v2, v3, v4, v5, v6, v7, v8, v9, v10, v11, v12, v13, v14, some (.ref L), some (.ref F)] s) QF NE := by
  simp only [b_key, b_fnd, w_ok, w_err, w_non, w_bl, w_int, w_str, w_con, w_var, w_tup, w_lst, w_bin, w_neg, w_not, w_and, w_or, w_cmp, w_chain, w_ite, w_call, w_callV, w_bi, w_isi, w_meth, w_ix, w_slc, w_rev, w_lrng, w_lzip, w_fld, t_not, t_and, t_or, t_cmp, t_var, t_call, t_bi, t_isi, t_ix, t_bl, t_chain, s_nil, s_cons, s_star, o_none, o_some, i_e, i_rng, i_zip, ss_nil, ss_cons, st_expr, st_ret, st_retN, st_pass, st_brk, st_cont, st_asg, st_par, st_setIx, st_iff, st_for, st_raise, ts_nil, ts_one, oQ_some, oQ_none, rq_ret, rq_nx, fq_nx, fq_cont, fq_brk, fq_ret, tgB, setAll, wipe, List.getElem?_cons_zero, List.getElem?_cons_succ, List.set_cons_zero, List.set_cons_succ, List.map_cons, List.map_nil, List.length_cons, List.length_nil, List.cons_append, List.nil_append, List.append_nil, List.replicate_succ, List.replicate_zero, Nat.reduceSub, Nat.sub_self, add_int, sub_int, int_int, int_bl, abs_int, max_int, min_int, len_tup, lt_int, le_int, gt_int, ge_int, eq_int, ne_int, eq_bl, ix_tup, at0, at1, at2, ito_tup, seq_tup, truth_bl, truth_tup, show rngOk 0 256 = true from by decide, if_true]
  have lF := lt_of_get hF
  refine w_loop (ds := rngD 0 256) (fun rest env t => ∃ b v2 v7, ∃ out : List (Int × Int × Nat), rest = rngD b 256 ∧ 0 ≤ b ∧ b ≤ 256 ∧ env = [v0, v1, v2, v3, v4, v5, v6, v7, v8, v9, v10, v11, v12, v13, v14, some (.ref L), some (.ref F)] ∧ t[F]? = some (.lst true (out.map trip)) ∧ t[L]? = some (.lst true (ms.map .ref)) ∧ LotsOk rows ms t ∧ Fr [F] s t ∧
    (∀ o ∈ out, o.2.2 ≠ F ∧ t[o.2.2]? = some (.lst true ((keyOf rows o.1).map .bl))) ∧ CutTo (keyOf rows) none 0 b (out.map two) ∧ (out = [] → b = 0)) (by rw [rng_len]; decide) (fun _ _ _ _ => rfl) ⟨0, _, _, [], rfl, Int.le_refl _, by decide, rfl, hF, hL, hM, Fr.refl _ _, (fun o ho => by cases ho), rfl, fun _ => rfl⟩ ?_ ?_
  · rintro d0 rest env t ⟨b, w2, w7, out, e1, b0, b1, e3, e5, e6, e7, f, h1, h2, h3⟩
    subst e3
    have hb : b < 256 := by
      apply Int.not_le.mp
      intro z
      rw [rngD_nil z] at e1
      cases e1
    rw [rngD_cons hb] at e1
    simp only [List.cons.injEq] at e1
    obtain ⟨e1, e2⟩ := e1
    subst e1 e2
    simp only [w_ok, w_err, w_non, w_bl, w_int, w_str, w_con, w_var, w_tup, w_lst, w_bin, w_neg, w_not, w_and, w_or, w_cmp, w_chain, w_ite, w_call, w_callV, w_bi, w_isi, w_meth, w_ix, w_slc, w_rev, w_lrng, w_lzip, w_fld, t_not, t_and, t_or, t_cmp, t_var, t_call, t_bi, t_isi, t_ix, t_bl, t_chain, s_nil, s_cons, s_star, o_none, o_some, i_e, i_rng, i_zip, ss_nil, ss_cons, st_expr, st_ret, st_retN, st_pass, st_brk, st_cont, st_asg, st_par, st_setIx, st_iff, st_for, st_raise, ts_nil, ts_one, oQ_some, oQ_none, rq_ret, rq_nx, fq_nx, fq_cont, fq_brk, fq_ret, tgB, setAll, wipe, List.getElem?_cons_zero, List.getElem?_cons_succ, List.set_cons_zero, List.set_cons_succ, List.map_cons, List.map_nil, List.length_cons, List.length_nil, List.cons_append, List.nil_append, List.append_nil, List.replicate_succ, List.replicate_zero, Nat.reduceSub, Nat.sub_self, add_int, sub_int, int_int, int_bl, abs_int, max_int, min_int, len_tup, lt_int, le_int, gt_int, ge_int, eq_int, ne_int, eq_bl, ix_tup, at0, at1, at2, ito_tup, seq_tup, truth_bl, truth_tup]
    rw [w_lc (keysI_lst rfl e6)]
    simp only [w_ok, w_err, w_non, w_bl, w_int, w_str, w_con, w_var, w_tup, w_lst, w_bin, w_neg, w_not, w_and, w_or, w_cmp, w_chain, w_ite, w_call, w_callV, w_bi, w_isi, w_meth, w_ix, w_slc, w_rev, w_lrng, w_lzip, w_fld, t_not, t_and, t_or, t_cmp, t_var, t_call, t_bi, t_isi, t_ix, t_bl, t_chain, s_nil, s_cons, s_star, o_none, o_some, i_e, i_rng, i_zip, ss_nil, ss_cons, st_expr, st_ret, st_retN, st_pass, st_brk, st_cont, st_asg, st_par, st_setIx, st_iff, st_for, st_raise, ts_nil, ts_one, oQ_some, oQ_none, rq_ret, rq_nx, fq_nx, fq_cont, fq_brk, fq_ret, tgB, setAll, wipe, List.getElem?_cons_zero, List.getElem?_cons_succ, List.set_cons_zero, List.set_cons_succ, List.map_cons, List.map_nil, List.length_cons, List.length_nil, List.cons_append, List.nil_append, List.append_nil, List.replicate_succ, List.replicate_zero, Nat.reduceSub, Nat.sub_self, add_int, sub_int, int_int, int_bl, abs_int, max_int, min_int, len_tup, lt_int, le_int, gt_int, ge_int, eq_int, ne_int, eq_bl, ix_tup, at0, at1, at2, ito_tup, seq_tup, truth_bl, truth_tup, itOf_lst e6]
    refine lc_map (ds := ms.map .ref) (keyG b t) ⟨true, e6⟩ (by rw [List.length_map]; unfold LIM; omega) (fun d hd u fu => ?_) fun u fu e => ?_
    · obtain ⟨m, hm, ed⟩ := List.mem_map.mp hd
      subst ed
      obtain ⟨ps, hps, ec⟩ := e7.item hm
      simp only [w_ok, w_err, w_non, w_bl, w_int, w_str, w_con, w_var, w_tup, w_lst, w_bin, w_neg, w_not, w_and, w_or, w_cmp, w_chain, w_ite, w_call, w_callV, w_bi, w_isi, w_meth, w_ix, w_slc, w_rev, w_lrng, w_lzip, w_fld, t_not, t_and, t_or, t_cmp, t_var, t_call, t_bi, t_isi, t_ix, t_bl, t_chain, s_nil, s_cons, s_star, o_none, o_some, i_e, i_rng, i_zip, ss_nil, ss_cons, st_expr, st_ret, st_retN, st_pass, st_brk, st_cont, st_asg, st_par, st_setIx, st_iff, st_for, st_raise, ts_nil, ts_one, oQ_some, oQ_none, rq_ret, rq_nx, fq_nx, fq_cont, fq_brk, fq_ret, tgB, setAll, wipe, List.getElem?_cons_zero, List.getElem?_cons_succ, List.set_cons_zero, List.set_cons_succ, List.map_cons, List.map_nil, List.length_cons, List.length_nil, List.cons_append, List.nil_append, List.append_nil, List.replicate_succ, List.replicate_zero, Nat.reduceSub, Nat.sub_self, add_int, sub_int, int_int, int_bl, abs_int, max_int, min_int, len_tup, lt_int, le_int, gt_int, ge_int, eq_int, ne_int, eq_bl, ix_tup, at0, at1, at2, ito_tup, seq_tup, truth_bl, truth_tup, isin_ints (fu.get ec)]
      refine ⟨Fr.refl _ _, ?_⟩
      unfold keyG
      rw [in_ints ec]
      rfl
    · rw [e7.keys] at e
      have a5 := fu.get e5
      have a6 := fu.get e6
      have a7 : LotsOk rows ms u := e7.fr fu (by simp)
      have a1 : ∀ o ∈ out, o.2.2 ≠ F ∧ u[o.2.2]? = some (.lst true ((keyOf rows o.1).map .bl)) := fun o ho => ⟨(h1 o ho).1, fu.get (h1 o ho).2⟩
      have fK : Fr [F] s u := f.trans fu.all
      have lt5 := lt_of_get e5
      have hKF : t.length ≠ F := by omega
      generalize t.length = K at e hKF
      have nn := ne_trips a5 fun o ho => ⟨_, (a1 o ho).2⟩
      have lout : out.length < LIM := by
        have := cutTo_len h2
        rw [List.length_map] at this
        unfold LIM
        omega
      simp only [w_ok, w_err, w_non, w_bl, w_int, w_str, w_con, w_var, w_tup, w_lst, w_bin, w_neg, w_not, w_and, w_or, w_cmp, w_chain, w_ite, w_call, w_callV, w_isi, w_meth, w_ix, w_slc, w_rev, w_lrng, w_lzip, w_fld, t_not, t_and, t_or, t_cmp, t_var, t_call, t_bi, t_isi, t_ix, t_bl, t_chain, s_nil, s_cons, s_star, o_none, o_some, i_e, i_rng, i_zip, ss_nil, ss_cons, st_expr, st_ret, st_retN, st_pass, st_brk, st_cont, st_asg, st_par, st_setIx, st_iff, st_for, st_raise, ts_nil, ts_one, oQ_some, oQ_none, rq_ret, rq_nx, fq_nx, fq_cont, fq_brk, fq_ret, tgB, setAll, wipe, List.getElem?_cons_zero, List.getElem?_cons_succ, List.set_cons_zero, List.set_cons_succ, List.map_cons, List.map_nil, List.length_cons, List.length_nil, List.cons_append, List.nil_append, List.append_nil, List.replicate_succ, List.replicate_zero, Nat.reduceSub, Nat.sub_self, add_int, sub_int, int_int, int_bl, abs_int, max_int, min_int, len_tup, lt_int, le_int, gt_int, ge_int, eq_int, ne_int, eq_bl, ix_tup, at0, at1, at2, ito_tup, seq_tup, truth_bl, truth_tup, List.length_nil, Nat.zero_le, if_true, nn]
      have fz := Fr.app [] u [Cell.lst true []]
      have c5 := fz.get a5
      have c6 := fz.get a6
      have c7 : LotsOk rows ms (u ++ [.lst true []]) := a7.fr fz (by simp)
      have c1 : ∀ o ∈ out, o.2.2 ≠ F ∧ (u ++ [Cell.lst true []])[o.2.2]? = some (.lst true ((keyOf rows o.1).map .bl)) := fun o ho => ⟨(a1 o ho).1, fz.get (a1 o ho).2⟩
      have cK := fz.get e
      have fZ : Fr [F] s (u ++ [Cell.lst true []]) := fK.trans fz.all
      generalize u ++ [Cell.lst true []] = z at c5 c6 c7 c1 cK fZ
      have step : ∀ (out' : List (Int × Int × Nat)), out' ≠ [] → (∀ o ∈ out', o.2.2 ≠ F ∧ z[o.2.2]? = some (.lst true ((keyOf rows o.1).map .bl))) → CutTo (keyOf rows) none 0 (b + 1) (out'.map two) →
          ∃ b' v2 v7, ∃ out : List (Int × Int × Nat), rngD (b + 1) 256 = rngD b' 256 ∧ 0 ≤ b' ∧ b' ≤ 256 ∧ [v0, v1, some (.int b), v3, v4, v5, v6, some (.ref K), v8, v9, v10, v11, v12, v13, v14, some (.ref L), some (.ref F)] = [v0, v1, v2, v3, v4, v5, v6, v7, v8, v9, v10, v11, v12, v13, v14, some (.ref L), some (.ref F)] ∧ (z.set F (.lst true (out'.map trip)))[F]? = some (.lst true (out.map trip)) ∧ (z.set F (.lst true (out'.map trip)))[L]? = some (.lst true (ms.map .ref)) ∧ LotsOk rows ms (z.set F (.lst true (out'.map trip))) ∧ Fr [F] s (z.set F (.lst true (out'.map trip))) ∧
            (∀ o ∈ out, o.2.2 ≠ F ∧ (z.set F (.lst true (out'.map trip)))[o.2.2]? = some (.lst true ((keyOf rows o.1).map .bl))) ∧ CutTo (keyOf rows) none 0 b' (out.map two) ∧ (out = [] → b' = 0) := fun out' y1 y2 y3 => by
        refine ⟨b + 1, _, _, out', rfl, by omega, by omega, rfl, get_set c5, ?_, c7.fr (set_fr []) (fun m hm => by simpa using hFM m hm), fZ.set (.inl (by simp)), fun o ho => ⟨(y2 o ho).1, ?_⟩, y3, fun y => absurd y y1⟩
        · rw [get_set_ne hFL]
          exact c6
        · rw [get_set_ne (fun y => (y2 o ho).1 y.symm)]
          exact (y2 o ho).2
      have hkey : ∀ x, b ≤ x → x ≤ b → keyOf rows x = keyOf rows b := fun x hx1 hx2 => by rw [Int.le_antisymm hx2 hx1]
      rcases List.eq_nil_or_concat out with eo | ⟨o2, lst, eo⟩
      · subst eo
        have a0 := h3 rfl
        subst a0
        simp only [List.isEmpty_nil, Bool.not_true, w_ok, w_err, w_non, w_bl, w_int, w_str, w_con, w_var, w_tup, w_lst, w_bin, w_neg, w_not, w_and, w_or, w_cmp, w_chain, w_ite, w_call, w_callV, w_bi, w_isi, w_meth, w_ix, w_slc, w_rev, w_lrng, w_lzip, w_fld, t_not, t_and, t_or, t_cmp, t_var, t_call, t_bi, t_isi, t_ix, t_bl, t_chain, s_nil, s_cons, s_star, o_none, o_some, i_e, i_rng, i_zip, ss_nil, ss_cons, st_expr, st_ret, st_retN, st_pass, st_brk, st_cont, st_asg, st_par, st_setIx, st_iff, st_for, st_raise, ts_nil, ts_one, oQ_some, oQ_none, rq_ret, rq_nx, fq_nx, fq_cont, fq_brk, fq_ret, tgB, setAll, wipe, List.getElem?_cons_zero, List.getElem?_cons_succ, List.set_cons_zero, List.set_cons_succ, List.map_cons, List.map_nil, List.length_cons, List.length_nil, List.cons_append, List.nil_append, List.append_nil, List.replicate_succ, List.replicate_zero, Nat.reduceSub, Nat.sub_self, add_int, sub_int, int_int, int_bl, abs_int, max_int, min_int, len_tup, lt_int, le_int, gt_int, ge_int, eq_int, ne_int, eq_bl, ix_tup, at0, at1, at2, ito_tup, seq_tup, truth_bl, truth_tup, kindB_lst c5, MT.name, if_true, show (0 + 1 + 1 + 1 ≤ LIM) from by decide, append_lst c5 (show (0 : Nat) < LIM by decide)]
        exact step [(0, 0, K)] (by simp) (fun o ho => by rw [List.mem_singleton.mp ho]; exact ⟨hKF, cK⟩) (cutTo_one (keyOf rows) (a := 0) (h := 0) (Int.le_refl _) hkey)
      · have eo : out = o2 ++ [lst] := by rw [eo, List.concat_eq_append]
        subst eo
        obtain ⟨l, h, k⟩ := lst
        obtain ⟨ck, ek⟩ := c1 (l, h, k) (by simp)
        have em : (o2 ++ [(l, h, k)]).map trip = o2.map trip ++ [trip (l, h, k)] := by simp
        have em2 : (o2 ++ [(l, h, k)]).map two = o2.map two ++ [(l, h)] := by simp [two]
        rw [em] at c5
        rw [em2] at h2
        have ne : (o2 ++ [(l, h, k)]).isEmpty = false := by simp
        have il : ixB (.ref F) (.int (-1)) z = some (trip (l, h, k)) := ixL c5 at_last
        obtain ⟨cl1, cl2⟩ := cutTo_last h2
        simp only [ne, Bool.not_false, w_ok, w_err, w_non, w_bl, w_int, w_str, w_con, w_var, w_tup, w_lst, w_bin, w_neg, w_not, w_and, w_or, w_cmp, w_chain, w_ite, w_call, w_callV, w_bi, w_isi, w_meth, w_ix, w_slc, w_rev, w_lrng, w_lzip, w_fld, t_not, t_and, t_or, t_cmp, t_var, t_call, t_bi, t_isi, t_ix, t_bl, t_chain, s_nil, s_cons, s_star, o_none, o_some, i_e, i_rng, i_zip, ss_nil, ss_cons, st_expr, st_ret, st_retN, st_pass, st_brk, st_cont, st_asg, st_par, st_setIx, st_iff, st_for, st_raise, ts_nil, ts_one, oQ_some, oQ_none, rq_ret, rq_nx, fq_nx, fq_cont, fq_brk, fq_ret, tgB, setAll, wipe, List.getElem?_cons_zero, List.getElem?_cons_succ, List.set_cons_zero, List.set_cons_succ, List.map_cons, List.map_nil, List.length_cons, List.length_nil, List.cons_append, List.nil_append, List.append_nil, List.replicate_succ, List.replicate_zero, Nat.reduceSub, Nat.sub_self, add_int, sub_int, int_int, int_bl, abs_int, max_int, min_int, len_tup, lt_int, le_int, gt_int, ge_int, eq_int, ne_int, eq_bl, ix_tup, at0, at1, at2, ito_tup, seq_tup, truth_bl, truth_tup, il, trip, eq_keys ek cK]
        by_cases hk : keyOf rows l = keyOf rows b
        · simp only [hk, decide_true, il, trip, w_ok, w_err, w_non, w_bl, w_int, w_str, w_con, w_var, w_tup, w_lst, w_bin, w_neg, w_not, w_and, w_or, w_cmp, w_chain, w_ite, w_call, w_callV, w_bi, w_isi, w_meth, w_ix, w_slc, w_rev, w_lrng, w_lzip, w_fld, t_not, t_and, t_or, t_cmp, t_var, t_call, t_bi, t_isi, t_ix, t_bl, t_chain, s_nil, s_cons, s_star, o_none, o_some, i_e, i_rng, i_zip, ss_nil, ss_cons, st_expr, st_ret, st_retN, st_pass, st_brk, st_cont, st_asg, st_par, st_setIx, st_iff, st_for, st_raise, ts_nil, ts_one, oQ_some, oQ_none, rq_ret, rq_nx, fq_nx, fq_cont, fq_brk, fq_ret, tgB, setAll, wipe, List.getElem?_cons_zero, List.getElem?_cons_succ, List.set_cons_zero, List.set_cons_succ, List.map_cons, List.map_nil, List.length_cons, List.length_nil, List.cons_append, List.nil_append, List.append_nil, List.replicate_succ, List.replicate_zero, Nat.reduceSub, Nat.sub_self, add_int, sub_int, int_int, int_bl, abs_int, max_int, min_int, len_tup, lt_int, le_int, gt_int, ge_int, eq_int, ne_int, eq_bl, ix_tup, at0, at1, at2, ito_tup, seq_tup, truth_bl, truth_tup, show (0 + 1 + 1 + 1 ≤ LIM) from by decide, if_true, setL1 c5]
          have y := step (o2 ++ [(l, b, K)]) (by simp) (fun o ho => by
            rcases List.mem_append.mp ho with w | w
            · exact c1 o (List.mem_append_left _ w)
            · rw [List.mem_singleton.mp w]
              exact ⟨hKF, by show z[K]? = some (.lst true ((keyOf rows l).map .bl)); rw [hk]; exact cK⟩) (by
            have e2 : (o2 ++ [(l, b, K)]).map two = o2.map two ++ [(l, b)] := by simp [two]
            rw [e2]
            exact cutTo_grow (keyOf rows) h2 (by omega) fun x hx1 hx2 => by
              have : x = b := by omega
              rw [this, hk])
          have e2 : (o2 ++ [(l, b, K)]).map trip = o2.map trip ++ [trip (l, b, K)] := by simp
          rw [e2] at y
          exact y
        · simp only [hk, decide_false, kindB_lst c5, MT.name, w_ok, w_err, w_non, w_bl, w_int, w_str, w_con, w_var, w_tup, w_lst, w_bin, w_neg, w_not, w_and, w_or, w_cmp, w_chain, w_ite, w_call, w_callV, w_bi, w_isi, w_meth, w_ix, w_slc, w_rev, w_lrng, w_lzip, w_fld, t_not, t_and, t_or, t_cmp, t_var, t_call, t_bi, t_isi, t_ix, t_bl, t_chain, s_nil, s_cons, s_star, o_none, o_some, i_e, i_rng, i_zip, ss_nil, ss_cons, st_expr, st_ret, st_retN, st_pass, st_brk, st_cont, st_asg, st_par, st_setIx, st_iff, st_for, st_raise, ts_nil, ts_one, oQ_some, oQ_none, rq_ret, rq_nx, fq_nx, fq_cont, fq_brk, fq_ret, tgB, setAll, wipe, List.getElem?_cons_zero, List.getElem?_cons_succ, List.set_cons_zero, List.set_cons_succ, List.map_cons, List.map_nil, List.length_cons, List.length_nil, List.cons_append, List.nil_append, List.append_nil, List.replicate_succ, List.replicate_zero, Nat.reduceSub, Nat.sub_self, add_int, sub_int, int_int, int_bl, abs_int, max_int, min_int, len_tup, lt_int, le_int, gt_int, ge_int, eq_int, ne_int, eq_bl, ix_tup, at0, at1, at2, ito_tup, seq_tup, truth_bl, truth_tup, show (0 + 1 + 1 + 1 ≤ LIM) from by decide, if_true, append_lst c5 (show (o2.map trip ++ [trip (l, h, k)]).length < LIM by rw [← em, List.length_map]; exact lout)]
          have y := step (o2 ++ [(l, h, k)] ++ [(b, b, K)]) (by simp) (fun o ho => by
            rcases List.mem_append.mp ho with w | w
            · exact c1 o w
            · rw [List.mem_singleton.mp w]
              exact ⟨hKF, cK⟩) (by
            have e2 : (o2 ++ [(l, h, k)] ++ [(b, b, K)]).map two = o2.map two ++ [(l, h)] ++ [(b, b)] := by simp [two]
            rw [e2]
            exact cutTo_push (keyOf rows) h2 (Int.le_refl _) hkey hk)
          have e2 : (o2 ++ [(l, h, k)] ++ [(b, b, K)]).map trip = o2.map trip ++ [trip (l, h, k)] ++ [trip (b, b, K)] := by simp
          rw [e2] at y
          exact y
  · rintro env t ⟨b, w2, w7, out, e1, b0, b1, e3, e5, e6, e7, f, h1, h2, h3⟩
    subst e3
    have hb : b = 256 := by
      apply Int.le_antisymm b1
      apply Int.not_lt.mp
      intro z
      rw [rngD_cons z] at e1
      cases e1
    subst hb
    simp only [w_ok, w_err, w_non, w_bl, w_int, w_str, w_con, w_var, w_tup, w_lst, w_bin, w_neg, w_not, w_and, w_or, w_cmp, w_chain, w_ite, w_call, w_callV, w_bi, w_isi, w_meth, w_ix, w_slc, w_rev, w_lrng, w_lzip, w_fld, t_not, t_and, t_or, t_cmp, t_var, t_call, t_bi, t_isi, t_ix, t_bl, t_chain, s_nil, s_cons, s_star, o_none, o_some, i_e, i_rng, i_zip, ss_nil, ss_cons, st_expr, st_ret, st_retN, st_pass, st_brk, st_cont, st_asg, st_par, st_setIx, st_iff, st_for, st_raise, ts_nil, ts_one, oQ_some, oQ_none, rq_ret, rq_nx, fq_nx, fq_cont, fq_brk, fq_ret, tgB, setAll, wipe, List.getElem?_cons_zero, List.getElem?_cons_succ, List.set_cons_zero, List.set_cons_succ, List.map_cons, List.map_nil, List.length_cons, List.length_nil, List.cons_append, List.nil_append, List.append_nil, List.replicate_succ, List.replicate_zero, Nat.reduceSub, Nat.sub_self, add_int, sub_int, int_int, int_bl, abs_int, max_int, min_int, len_tup, lt_int, le_int, gt_int, ge_int, eq_int, ne_int, eq_bl, ix_tup, at0, at1, at2, ito_tup, seq_tup, truth_bl, truth_tup]
    exact hq t w2 w7 out f e5 (cutTo_done _ h2)
end K01
end
section
set_option autoImplicit false
set_option linter.all false
set_option maxRecDepth 100000
set_option maxHeartbeats 4000000
namespace K01
open PySem PyI
def dropS : Nat → ISs → ISs
  | 0, r => r
  | k + 1, .cons _ r => dropS k r
  | _ + 1, .nil => .nil
/-- the first statements, with others behind -/
def takeS : Nat → ISs → ISs → ISs
  | 0, _, r => r
  | k + 1, .cons s t, r => .cons s (takeS k t r)
  | _ + 1, .nil, r => r
section
variable {ps qs : Rg} {st : Sto} {ys : List D}
theorem list_rg : evB .list [rgD ps] st = some (.ref st.length, st ++ [.lst true (ps.map prD)]) := nr rfl
theorem rev_rg : revB (rgD ps) st = some (.tup (ps.map prD).reverse, st) := nr rfl
theorem add_rg (h : ps.length + ys.length ≤ LIM) : opB .add (rgD ps) (.tup ys) st = some (.tup (ps.map prD ++ ys), st) := add_tup (by rw [List.length_map]; exact h)
theorem add_rg2 (h : ps.length + qs.length ≤ LIM) : opB .add (rgD ps) (rgD qs) st = some (.tup (ps.map prD ++ qs.map prD), st) := add_tup (by rw [List.length_map, List.length_map]; exact h)
end
theorem rows_of : ∀ {acc : List D}, (∀ y ∈ acc, ∃ rs, y = rgD rs ∧ Can 0 rs) → ∃ rows : List Rg, acc = rows.map rgD ∧ ∀ ps ∈ rows, Can 0 ps
  | [], _ => ⟨[], rfl, fun _ h => by cases h⟩
  | y :: r, h => by
    obtain ⟨rows, e, c⟩ := rows_of fun z hz => h z (List.mem_cons_of_mem _ hz)
    obtain ⟨rs, e1, c1⟩ := h y (List.mem_cons_self ..)
    refine ⟨rs :: rows, by rw [e1, e]; rfl, fun ps hps => ?_⟩
    rcases List.mem_cons.mp hps with z | z
    · rw [z]
      exact c1
    · exact c ps z
theorem kv_pr {L : Nat} {st : Sto} {q : Int × Int} : KV L st (prD q) := kv_two (.int _) (.int _)
theorem kv_prs {L : Nat} {st : Sto} {xs : List D} (h : ∀ x ∈ xs, ∃ q, x = prD q) (l : xs.length ≤ 5000) : KV L st (.tup xs) := .tup (fun x hx => by
  obtain ⟨q, e⟩ := h x hx
  rw [e]
  exact kv_pr) l
theorem pr_of {ps : Rg} : ∀ x ∈ ps.map prD, ∃ q, x = prD q := fun x hx => by
  obtain ⟨q, _, e⟩ := List.mem_map.mp hx
  exact ⟨q, e.symm⟩
theorem it_rg {ps : Rg} (c : Can 0 ps) : itD 2 (rgD ps) := by
  have := can_len0 c
  refine ⟨_, rfl, by rw [List.length_map]; omega, fun x hx => ?_⟩
  obtain ⟨q, hq, e⟩ := List.mem_map.mp hx
  have := can_item c q hq
  subst e
  refine ⟨_, rfl, by simp, fun y hy => ?_⟩
  simp only [List.mem_cons, List.not_mem_nil, or_false] at hy
  rcases hy with z | z <;> subst z
  · exact ⟨q.1, rfl, by omega, by omega⟩
  · exact ⟨q.2, rfl, by omega, by omega⟩
/-- the five checks of a pair of rows -/
theorem five_ok {n p : Nat} {st : Sto} {v1 v2 v3 v4 v5 v6 v7 v8 v13 v14 v15 v16 : Option D} {one other : Rg} {m1 m2 : Nat} {r : ISs} {QF : PyI.Flow → Sto → Prop} (c1 : Can 0 one) (c2 : Can 0 other) (e1 : st[m1]? = some (.lst true ((bytesI one).map .int))) (e2 : st[m2]? = some (.lst true ((bytesI other).map .int)))
    (hq : ∀ t, Fr [] st t → W (evSs P0 (callN P0 (n + 7)) r [some (.ref p), v1, v2, v3, v4, v5, v6, v7, v8, some (rgD one), some (rgD other), some (.ref m1), some (.ref m2), v13, v14, v15, v16] t) QF NE) :
    W (evSs P0 (callN P0 (n + 7)) (takeS 5 (dropS 5 b_l_right) r) [some (.ref p), v1, v2, v3, v4, v5, v6, v7, v8, some (rgD one), some (rgD other), some (.ref m1), some (.ref m2), v13, v14, v15, v16] st) QF NE := by
  simp only [b_l_right, dropS, takeS]
  have bl1 : (bytesI one).length ≤ 256 := by
    have e : (bytesOf one).length = (bytesI one).length := by rw [bytes_map, List.length_map]
    rcases bytes_len c1 (Int.le_refl 0) with z | z
    · omega
    · subst z
      simp [bytesI]
  have bl2 : (bytesI other).length ≤ 256 := by
    have e : (bytesOf other).length = (bytesI other).length := by rw [bytes_map, List.length_map]
    rcases bytes_len c2 (Int.le_refl 0) with z | z
    · omega
    · subst z
      simp [bytesI]
  -- numbers
  refine chk ?_ fun t1 f1 => ?_
  · try simp only [w_ok, w_err, w_non, w_bl, w_int, w_str, w_con, w_var, w_tup, w_lst, w_bin, w_neg, w_not, w_and, w_or, w_cmp, w_chain, w_ite, w_call, w_callV, w_bi, w_isi, w_meth, w_ix, w_slc, w_rev, w_lrng, w_lzip, w_fld, t_not, t_and, t_or, t_cmp, t_var, t_call, t_bi, t_isi, t_ix, t_bl, t_chain, s_nil, s_cons, s_star, o_none, o_some, i_e, i_rng, i_zip, ss_nil, ss_cons, st_expr, st_ret, st_retN, st_pass, st_brk, st_cont, st_asg, st_par, st_setIx, st_iff, st_for, st_raise, ts_nil, ts_one, oQ_some, oQ_none, rq_ret, rq_nx, fq_nx, fq_cont, fq_brk, fq_ret, tgB, setAll, wipe, List.getElem?_cons_zero, List.getElem?_cons_succ, List.set_cons_zero, List.set_cons_succ, List.map_cons, List.map_nil, List.length_cons, List.length_nil, List.cons_append, List.nil_append, List.append_nil, List.replicate_succ, List.replicate_zero, Nat.reduceSub, Nat.sub_self, add_int, sub_int, int_int, int_bl, abs_int, max_int, min_int, len_tup, lt_int, le_int, gt_int, ge_int, eq_int, ne_int, eq_bl, ix_tup, at0, at1, at2, ito_tup, seq_tup, truth_bl, truth_tup]
    refine (numbers_ok (n := n + 1) c1).imp fun v s ⟨f, e⟩ => ?_
    subst e
    refine ⟨f, smok_bytes c1, ?_⟩
    simp only [w_ok, w_err, w_non, w_bl, w_int, w_str, w_con, w_var, w_tup, w_lst, w_bin, w_neg, w_not, w_and, w_or, w_cmp, w_chain, w_ite, w_call, w_callV, w_bi, w_isi, w_meth, w_ix, w_slc, w_rev, w_lrng, w_lzip, w_fld, t_not, t_and, t_or, t_cmp, t_var, t_call, t_bi, t_isi, t_ix, t_bl, t_chain, s_nil, s_cons, s_star, o_none, o_some, i_e, i_rng, i_zip, ss_nil, ss_cons, st_expr, st_ret, st_retN, st_pass, st_brk, st_cont, st_asg, st_par, st_setIx, st_iff, st_for, st_raise, ts_nil, ts_one, oQ_some, oQ_none, rq_ret, rq_nx, fq_nx, fq_cont, fq_brk, fq_ret, tgB, setAll, wipe, List.getElem?_cons_zero, List.getElem?_cons_succ, List.set_cons_zero, List.set_cons_succ, List.map_cons, List.map_nil, List.length_cons, List.length_nil, List.cons_append, List.nil_append, List.append_nil, List.replicate_succ, List.replicate_zero, Nat.reduceSub, Nat.sub_self, add_int, sub_int, int_int, int_bl, abs_int, max_int, min_int, len_tup, lt_int, le_int, gt_int, ge_int, eq_int, ne_int, eq_bl, ix_tup, at0, at1, at2, ito_tup, seq_tup, truth_bl, truth_tup, evB_tuple (f.get e1)]
    exact ⟨by rw [bytes_map], Fr.refl _ _⟩
  have e1 := f1.get e1
  have e2 := f1.get e2
  -- others
  refine chk ?_ fun t2 f2 => ?_
  · try simp only [w_ok, w_err, w_non, w_bl, w_int, w_str, w_con, w_var, w_tup, w_lst, w_bin, w_neg, w_not, w_and, w_or, w_cmp, w_chain, w_ite, w_call, w_callV, w_bi, w_isi, w_meth, w_ix, w_slc, w_rev, w_lrng, w_lzip, w_fld, t_not, t_and, t_or, t_cmp, t_var, t_call, t_bi, t_isi, t_ix, t_bl, t_chain, s_nil, s_cons, s_star, o_none, o_some, i_e, i_rng, i_zip, ss_nil, ss_cons, st_expr, st_ret, st_retN, st_pass, st_brk, st_cont, st_asg, st_par, st_setIx, st_iff, st_for, st_raise, ts_nil, ts_one, oQ_some, oQ_none, rq_ret, rq_nx, fq_nx, fq_cont, fq_brk, fq_ret, tgB, setAll, wipe, List.getElem?_cons_zero, List.getElem?_cons_succ, List.set_cons_zero, List.set_cons_succ, List.map_cons, List.map_nil, List.length_cons, List.length_nil, List.cons_append, List.nil_append, List.append_nil, List.replicate_succ, List.replicate_zero, Nat.reduceSub, Nat.sub_self, add_int, sub_int, int_int, int_bl, abs_int, max_int, min_int, len_tup, lt_int, le_int, gt_int, ge_int, eq_int, ne_int, eq_bl, ix_tup, at0, at1, at2, ito_tup, seq_tup, truth_bl, truth_tup]
    refine (others_ok (n := n + 1) c1).imp fun v s ⟨f, rs, e, cr, hm⟩ => ?_
    subst e
    refine ⟨f, smok_rg cr, ?_⟩
    try simp only [w_ok, w_err, w_non, w_bl, w_int, w_str, w_con, w_var, w_tup, w_lst, w_bin, w_neg, w_not, w_and, w_or, w_cmp, w_chain, w_ite, w_call, w_callV, w_bi, w_isi, w_meth, w_ix, w_slc, w_rev, w_lrng, w_lzip, w_fld, t_not, t_and, t_or, t_cmp, t_var, t_call, t_bi, t_isi, t_ix, t_bl, t_chain, s_nil, s_cons, s_star, o_none, o_some, i_e, i_rng, i_zip, ss_nil, ss_cons, st_expr, st_ret, st_retN, st_pass, st_brk, st_cont, st_asg, st_par, st_setIx, st_iff, st_for, st_raise, ts_nil, ts_one, oQ_some, oQ_none, rq_ret, rq_nx, fq_nx, fq_cont, fq_brk, fq_ret, tgB, setAll, wipe, List.getElem?_cons_zero, List.getElem?_cons_succ, List.set_cons_zero, List.set_cons_succ, List.map_cons, List.map_nil, List.length_cons, List.length_nil, List.cons_append, List.nil_append, List.append_nil, List.replicate_succ, List.replicate_zero, Nat.reduceSub, Nat.sub_self, add_int, sub_int, int_int, int_bl, abs_int, max_int, min_int, len_tup, lt_int, le_int, gt_int, ge_int, eq_int, ne_int, eq_bl, ix_tup, at0, at1, at2, ito_tup, seq_tup, truth_bl, truth_tup]
    rw [w_lc rfl]
    simp only [w_ok, w_err, w_non, w_bl, w_int, w_str, w_con, w_var, w_tup, w_lst, w_bin, w_neg, w_not, w_and, w_or, w_cmp, w_chain, w_ite, w_call, w_callV, w_bi, w_isi, w_meth, w_ix, w_slc, w_rev, w_lrng, w_lzip, w_fld, t_not, t_and, t_or, t_cmp, t_var, t_call, t_bi, t_isi, t_ix, t_bl, t_chain, s_nil, s_cons, s_star, o_none, o_some, i_e, i_rng, i_zip, ss_nil, ss_cons, st_expr, st_ret, st_retN, st_pass, st_brk, st_cont, st_asg, st_par, st_setIx, st_iff, st_for, st_raise, ts_nil, ts_one, oQ_some, oQ_none, rq_ret, rq_nx, fq_nx, fq_cont, fq_brk, fq_ret, tgB, setAll, wipe, List.getElem?_cons_zero, List.getElem?_cons_succ, List.set_cons_zero, List.set_cons_succ, List.map_cons, List.map_nil, List.length_cons, List.length_nil, List.cons_append, List.nil_append, List.append_nil, List.replicate_succ, List.replicate_zero, Nat.reduceSub, Nat.sub_self, add_int, sub_int, int_int, int_bl, abs_int, max_int, min_int, len_tup, lt_int, le_int, gt_int, ge_int, eq_int, ne_int, eq_bl, ix_tup, at0, at1, at2, ito_tup, seq_tup, truth_bl, truth_tup, show rngOk 0 256 = true from by decide, if_true]
    refine lc_fm (ds := rngD 0 256) (fun d => match d with
      | .int b => !decide (b ∈ bytesI one)
      | _ => false) id rfl (by rw [rng_len]; decide) (fun d hd u fu => ?_) fun u fu e => ?_
    · rw [rngD_map] at hd
      obtain ⟨b, hb, ed⟩ := List.mem_map.mp hd
      subst ed
      simp only [w_ok, w_err, w_non, w_bl, w_int, w_str, w_con, w_var, w_tup, w_lst, w_bin, w_neg, w_not, w_and, w_or, w_cmp, w_chain, w_ite, w_call, w_callV, w_bi, w_isi, w_meth, w_ix, w_slc, w_rev, w_lrng, w_lzip, w_fld, t_not, t_and, t_or, t_cmp, t_var, t_call, t_bi, t_isi, t_ix, t_bl, t_chain, s_nil, s_cons, s_star, o_none, o_some, i_e, i_rng, i_zip, ss_nil, ss_cons, st_expr, st_ret, st_retN, st_pass, st_brk, st_cont, st_asg, st_par, st_setIx, st_iff, st_for, st_raise, ts_nil, ts_one, oQ_some, oQ_none, rq_ret, rq_nx, fq_nx, fq_cont, fq_brk, fq_ret, tgB, setAll, wipe, List.getElem?_cons_zero, List.getElem?_cons_succ, List.set_cons_zero, List.set_cons_succ, List.map_cons, List.map_nil, List.length_cons, List.length_nil, List.cons_append, List.nil_append, List.append_nil, List.replicate_succ, List.replicate_zero, Nat.reduceSub, Nat.sub_self, add_int, sub_int, int_int, int_bl, abs_int, max_int, min_int, len_tup, lt_int, le_int, gt_int, ge_int, eq_int, ne_int, eq_bl, ix_tup, at0, at1, at2, ito_tup, seq_tup, truth_bl, truth_tup, notin_ints (fu.get (f.get e1))]
      exact ⟨Fr.refl _ _, trivial, fun _ => ⟨Fr.refl _ _, rfl⟩⟩
    · have ez : ((rngD 0 256).filter (fun d => match d with
        | .int b => !decide (b ∈ bytesI one)
        | _ => false)).map id = ((rngI 0 256).filter fun b => !decide (b ∈ bytesI one)).map .int := by
        rw [List.map_id, rngD_map, List.filter_map]
        rfl
      rw [ez] at e
      try simp only [w_ok, w_err, w_non, w_bl, w_int, w_str, w_con, w_var, w_tup, w_lst, w_bin, w_neg, w_not, w_and, w_or, w_cmp, w_chain, w_ite, w_call, w_callV, w_bi, w_isi, w_meth, w_ix, w_slc, w_rev, w_lrng, w_lzip, w_fld, t_not, t_and, t_or, t_cmp, t_var, t_call, t_bi, t_isi, t_ix, t_bl, t_chain, s_nil, s_cons, s_star, o_none, o_some, i_e, i_rng, i_zip, ss_nil, ss_cons, st_expr, st_ret, st_retN, st_pass, st_brk, st_cont, st_asg, st_par, st_setIx, st_iff, st_for, st_raise, ts_nil, ts_one, oQ_some, oQ_none, rq_ret, rq_nx, fq_nx, fq_cont, fq_brk, fq_ret, tgB, setAll, wipe, List.getElem?_cons_zero, List.getElem?_cons_succ, List.set_cons_zero, List.set_cons_succ, List.map_cons, List.map_nil, List.length_cons, List.length_nil, List.cons_append, List.nil_append, List.append_nil, List.replicate_succ, List.replicate_zero, Nat.reduceSub, Nat.sub_self, add_int, sub_int, int_int, int_bl, abs_int, max_int, min_int, len_tup, lt_int, le_int, gt_int, ge_int, eq_int, ne_int, eq_bl, ix_tup, at0, at1, at2, ito_tup, seq_tup, truth_bl, truth_tup]
      refine (l_ranges_ok (n := n + 6) e).imp fun v w ⟨f3, rs2, ev, c3, hm2⟩ => ?_
      subst ev
      have : rs2 = rs := can_ext c3 cr fun x => by
        rw [hm2, hm, List.mem_filter, mem_rngI]
        simp only [Bool.not_eq_true', decide_eq_false_iff_not, mem_bytes]
        constructor
        · rintro ⟨y1, y2, y3, y4⟩
          exact ⟨y1, y2, y4⟩
        · rintro ⟨y1, y2, y3⟩
          exact ⟨y1, y2, ⟨y1, by omega⟩, y3⟩
      subst this
      exact ⟨rfl, fu.trans f3⟩
  have e1 := f2.get e1
  have e2 := f2.get e2
  -- either
  refine chk ?_ fun t3 f3 => ?_
  · try simp only [w_ok, w_err, w_non, w_bl, w_int, w_str, w_con, w_var, w_tup, w_lst, w_bin, w_neg, w_not, w_and, w_or, w_cmp, w_chain, w_ite, w_call, w_callV, w_bi, w_isi, w_meth, w_ix, w_slc, w_rev, w_lrng, w_lzip, w_fld, t_not, t_and, t_or, t_cmp, t_var, t_call, t_bi, t_isi, t_ix, t_bl, t_chain, s_nil, s_cons, s_star, o_none, o_some, i_e, i_rng, i_zip, ss_nil, ss_cons, st_expr, st_ret, st_retN, st_pass, st_brk, st_cont, st_asg, st_par, st_setIx, st_iff, st_for, st_raise, ts_nil, ts_one, oQ_some, oQ_none, rq_ret, rq_nx, fq_nx, fq_cont, fq_brk, fq_ret, tgB, setAll, wipe, List.getElem?_cons_zero, List.getElem?_cons_succ, List.set_cons_zero, List.set_cons_succ, List.map_cons, List.map_nil, List.length_cons, List.length_nil, List.cons_append, List.nil_append, List.append_nil, List.replicate_succ, List.replicate_zero, Nat.reduceSub, Nat.sub_self, add_int, sub_int, int_int, int_bl, abs_int, max_int, min_int, len_tup, lt_int, le_int, gt_int, ge_int, eq_int, ne_int, eq_bl, ix_tup, at0, at1, at2, ito_tup, seq_tup, truth_bl, truth_tup]
    refine (either_ok (n := n + 1) c1 c2).imp fun v s ⟨f, rs, e, cr, hm⟩ => ?_
    subst e
    refine ⟨f, smok_rg cr, ?_⟩
    try simp only [w_ok, w_err, w_non, w_bl, w_int, w_str, w_con, w_var, w_tup, w_lst, w_bin, w_neg, w_not, w_and, w_or, w_cmp, w_chain, w_ite, w_call, w_callV, w_bi, w_isi, w_meth, w_ix, w_slc, w_rev, w_lrng, w_lzip, w_fld, t_not, t_and, t_or, t_cmp, t_var, t_call, t_bi, t_isi, t_ix, t_bl, t_chain, s_nil, s_cons, s_star, o_none, o_some, i_e, i_rng, i_zip, ss_nil, ss_cons, st_expr, st_ret, st_retN, st_pass, st_brk, st_cont, st_asg, st_par, st_setIx, st_iff, st_for, st_raise, ts_nil, ts_one, oQ_some, oQ_none, rq_ret, rq_nx, fq_nx, fq_cont, fq_brk, fq_ret, tgB, setAll, wipe, List.getElem?_cons_zero, List.getElem?_cons_succ, List.set_cons_zero, List.set_cons_succ, List.map_cons, List.map_nil, List.length_cons, List.length_nil, List.cons_append, List.nil_append, List.append_nil, List.replicate_succ, List.replicate_zero, Nat.reduceSub, Nat.sub_self, add_int, sub_int, int_int, int_bl, abs_int, max_int, min_int, len_tup, lt_int, le_int, gt_int, ge_int, eq_int, ne_int, eq_bl, ix_tup, at0, at1, at2, ito_tup, seq_tup, truth_bl, truth_tup]
    rw [add_lst (f.get e1) (f.get e2) (by rw [List.length_map, List.length_map]; unfold LIM; omega)]
    try simp only [w_ok, w_err, w_non, w_bl, w_int, w_str, w_con, w_var, w_tup, w_lst, w_bin, w_neg, w_not, w_and, w_or, w_cmp, w_chain, w_ite, w_call, w_callV, w_bi, w_isi, w_meth, w_ix, w_slc, w_rev, w_lrng, w_lzip, w_fld, t_not, t_and, t_or, t_cmp, t_var, t_call, t_bi, t_isi, t_ix, t_bl, t_chain, s_nil, s_cons, s_star, o_none, o_some, i_e, i_rng, i_zip, ss_nil, ss_cons, st_expr, st_ret, st_retN, st_pass, st_brk, st_cont, st_asg, st_par, st_setIx, st_iff, st_for, st_raise, ts_nil, ts_one, oQ_some, oQ_none, rq_ret, rq_nx, fq_nx, fq_cont, fq_brk, fq_ret, tgB, setAll, wipe, List.getElem?_cons_zero, List.getElem?_cons_succ, List.set_cons_zero, List.set_cons_succ, List.map_cons, List.map_nil, List.length_cons, List.length_nil, List.cons_append, List.nil_append, List.append_nil, List.replicate_succ, List.replicate_zero, Nat.reduceSub, Nat.sub_self, add_int, sub_int, int_int, int_bl, abs_int, max_int, min_int, len_tup, lt_int, le_int, gt_int, ge_int, eq_int, ne_int, eq_bl, ix_tup, at0, at1, at2, ito_tup, seq_tup, truth_bl, truth_tup]
    have e5 : (s ++ [Cell.lst true ((bytesI one).map D.int ++ (bytesI other).map D.int)])[s.length]? = some (.lst true ((bytesI one ++ bytesI other).map .int)) := by
      rw [List.map_append]
      exact get_last
    refine (l_ranges_ok (n := n + 6) e5).imp fun v w ⟨f3, rs2, ev, c3, hm2⟩ => ?_
    subst ev
    have : rs2 = rs := can_ext c3 cr fun x => by
      rw [hm2, hm, List.mem_append, mem_bytes, mem_bytes]
      constructor
      · rintro ⟨y1, y2, y3⟩
        exact y3
      · intro y
        have h : 0 ≤ x ∧ x ≤ 255 := y.elim (fun z => c1.ge z) (fun z => c2.ge z)
        exact ⟨h.1, h.2, y⟩
    subst this
    exact ⟨rfl, f3.of_app⟩
  have e1 := f3.get e1
  have e2 := f3.get e2
  -- both
  refine chk ?_ fun t4 f4 => ?_
  · try simp only [w_ok, w_err, w_non, w_bl, w_int, w_str, w_con, w_var, w_tup, w_lst, w_bin, w_neg, w_not, w_and, w_or, w_cmp, w_chain, w_ite, w_call, w_callV, w_bi, w_isi, w_meth, w_ix, w_slc, w_rev, w_lrng, w_lzip, w_fld, t_not, t_and, t_or, t_cmp, t_var, t_call, t_bi, t_isi, t_ix, t_bl, t_chain, s_nil, s_cons, s_star, o_none, o_some, i_e, i_rng, i_zip, ss_nil, ss_cons, st_expr, st_ret, st_retN, st_pass, st_brk, st_cont, st_asg, st_par, st_setIx, st_iff, st_for, st_raise, ts_nil, ts_one, oQ_some, oQ_none, rq_ret, rq_nx, fq_nx, fq_cont, fq_brk, fq_ret, tgB, setAll, wipe, List.getElem?_cons_zero, List.getElem?_cons_succ, List.set_cons_zero, List.set_cons_succ, List.map_cons, List.map_nil, List.length_cons, List.length_nil, List.cons_append, List.nil_append, List.append_nil, List.replicate_succ, List.replicate_zero, Nat.reduceSub, Nat.sub_self, add_int, sub_int, int_int, int_bl, abs_int, max_int, min_int, len_tup, lt_int, le_int, gt_int, ge_int, eq_int, ne_int, eq_bl, ix_tup, at0, at1, at2, ito_tup, seq_tup, truth_bl, truth_tup]
    refine (both_ok (n := n + 1) c1 c2).imp fun v s ⟨f, rs, e, cr, hm⟩ => ?_
    subst e
    refine ⟨f, smok_rg cr, ?_⟩
    have g1 := f.get e1
    have g2 := f.get e2
    try simp only [w_ok, w_err, w_non, w_bl, w_int, w_str, w_con, w_var, w_tup, w_lst, w_bin, w_neg, w_not, w_and, w_or, w_cmp, w_chain, w_ite, w_call, w_callV, w_bi, w_isi, w_meth, w_ix, w_slc, w_rev, w_lrng, w_lzip, w_fld, t_not, t_and, t_or, t_cmp, t_var, t_call, t_bi, t_isi, t_ix, t_bl, t_chain, s_nil, s_cons, s_star, o_none, o_some, i_e, i_rng, i_zip, ss_nil, ss_cons, st_expr, st_ret, st_retN, st_pass, st_brk, st_cont, st_asg, st_par, st_setIx, st_iff, st_for, st_raise, ts_nil, ts_one, oQ_some, oQ_none, rq_ret, rq_nx, fq_nx, fq_cont, fq_brk, fq_ret, tgB, setAll, wipe, List.getElem?_cons_zero, List.getElem?_cons_succ, List.set_cons_zero, List.set_cons_succ, List.map_cons, List.map_nil, List.length_cons, List.length_nil, List.cons_append, List.nil_append, List.append_nil, List.replicate_succ, List.replicate_zero, Nat.reduceSub, Nat.sub_self, add_int, sub_int, int_int, int_bl, abs_int, max_int, min_int, len_tup, lt_int, le_int, gt_int, ge_int, eq_int, ne_int, eq_bl, ix_tup, at0, at1, at2, ito_tup, seq_tup, truth_bl, truth_tup]
    rw [w_lc (keysI_lst rfl g1)]
    simp only [w_ok, w_err, w_non, w_bl, w_int, w_str, w_con, w_var, w_tup, w_lst, w_bin, w_neg, w_not, w_and, w_or, w_cmp, w_chain, w_ite, w_call, w_callV, w_bi, w_isi, w_meth, w_ix, w_slc, w_rev, w_lrng, w_lzip, w_fld, t_not, t_and, t_or, t_cmp, t_var, t_call, t_bi, t_isi, t_ix, t_bl, t_chain, s_nil, s_cons, s_star, o_none, o_some, i_e, i_rng, i_zip, ss_nil, ss_cons, st_expr, st_ret, st_retN, st_pass, st_brk, st_cont, st_asg, st_par, st_setIx, st_iff, st_for, st_raise, ts_nil, ts_one, oQ_some, oQ_none, rq_ret, rq_nx, fq_nx, fq_cont, fq_brk, fq_ret, tgB, setAll, wipe, List.getElem?_cons_zero, List.getElem?_cons_succ, List.set_cons_zero, List.set_cons_succ, List.map_cons, List.map_nil, List.length_cons, List.length_nil, List.cons_append, List.nil_append, List.append_nil, List.replicate_succ, List.replicate_zero, Nat.reduceSub, Nat.sub_self, add_int, sub_int, int_int, int_bl, abs_int, max_int, min_int, len_tup, lt_int, le_int, gt_int, ge_int, eq_int, ne_int, eq_bl, ix_tup, at0, at1, at2, ito_tup, seq_tup, truth_bl, truth_tup, itOf_lst g1]
    refine lc_fm (ds := (bytesI one).map .int) (fun d => match d with
      | .int b => decide (b ∈ bytesI other)
      | _ => false) id ⟨true, g1⟩ (by rw [List.length_map]; unfold LIM; omega) (fun d hd u fu => ?_) fun u fu e => ?_
    · obtain ⟨b, hb, ed⟩ := List.mem_map.mp hd
      subst ed
      simp only [w_ok, w_err, w_non, w_bl, w_int, w_str, w_con, w_var, w_tup, w_lst, w_bin, w_neg, w_not, w_and, w_or, w_cmp, w_chain, w_ite, w_call, w_callV, w_bi, w_isi, w_meth, w_ix, w_slc, w_rev, w_lrng, w_lzip, w_fld, t_not, t_and, t_or, t_cmp, t_var, t_call, t_bi, t_isi, t_ix, t_bl, t_chain, s_nil, s_cons, s_star, o_none, o_some, i_e, i_rng, i_zip, ss_nil, ss_cons, st_expr, st_ret, st_retN, st_pass, st_brk, st_cont, st_asg, st_par, st_setIx, st_iff, st_for, st_raise, ts_nil, ts_one, oQ_some, oQ_none, rq_ret, rq_nx, fq_nx, fq_cont, fq_brk, fq_ret, tgB, setAll, wipe, List.getElem?_cons_zero, List.getElem?_cons_succ, List.set_cons_zero, List.set_cons_succ, List.map_cons, List.map_nil, List.length_cons, List.length_nil, List.cons_append, List.nil_append, List.append_nil, List.replicate_succ, List.replicate_zero, Nat.reduceSub, Nat.sub_self, add_int, sub_int, int_int, int_bl, abs_int, max_int, min_int, len_tup, lt_int, le_int, gt_int, ge_int, eq_int, ne_int, eq_bl, ix_tup, at0, at1, at2, ito_tup, seq_tup, truth_bl, truth_tup, isin_ints (fu.get g2)]
      exact ⟨Fr.refl _ _, trivial, fun _ => ⟨Fr.refl _ _, rfl⟩⟩
    · have ez : (((bytesI one).map D.int).filter (fun d => match d with
        | .int b => decide (b ∈ bytesI other)
        | _ => false)).map id = ((bytesI one).filter fun b => decide (b ∈ bytesI other)).map .int := by
        rw [List.map_id, List.filter_map]
        rfl
      rw [ez] at e
      try simp only [w_ok, w_err, w_non, w_bl, w_int, w_str, w_con, w_var, w_tup, w_lst, w_bin, w_neg, w_not, w_and, w_or, w_cmp, w_chain, w_ite, w_call, w_callV, w_bi, w_isi, w_meth, w_ix, w_slc, w_rev, w_lrng, w_lzip, w_fld, t_not, t_and, t_or, t_cmp, t_var, t_call, t_bi, t_isi, t_ix, t_bl, t_chain, s_nil, s_cons, s_star, o_none, o_some, i_e, i_rng, i_zip, ss_nil, ss_cons, st_expr, st_ret, st_retN, st_pass, st_brk, st_cont, st_asg, st_par, st_setIx, st_iff, st_for, st_raise, ts_nil, ts_one, oQ_some, oQ_none, rq_ret, rq_nx, fq_nx, fq_cont, fq_brk, fq_ret, tgB, setAll, wipe, List.getElem?_cons_zero, List.getElem?_cons_succ, List.set_cons_zero, List.set_cons_succ, List.map_cons, List.map_nil, List.length_cons, List.length_nil, List.cons_append, List.nil_append, List.append_nil, List.replicate_succ, List.replicate_zero, Nat.reduceSub, Nat.sub_self, add_int, sub_int, int_int, int_bl, abs_int, max_int, min_int, len_tup, lt_int, le_int, gt_int, ge_int, eq_int, ne_int, eq_bl, ix_tup, at0, at1, at2, ito_tup, seq_tup, truth_bl, truth_tup]
      refine (l_ranges_ok (n := n + 6) e).imp fun v w ⟨f3, rs2, ev, c3, hm2⟩ => ?_
      subst ev
      have : rs2 = rs := can_ext c3 cr fun x => by
        rw [hm2, hm, List.mem_filter]
        simp only [decide_eq_true_eq, mem_bytes]
        constructor
        · rintro ⟨y1, y2, y3⟩
          exact y3
        · intro y
          have h := c1.ge y.1
          exact ⟨h.1, h.2, y⟩
      subst this
      exact ⟨rfl, fu.trans f3⟩
  have e1 := f4.get e1
  have e2 := f4.get e2
  -- without
  refine chk ?_ fun t5 f5 => hq t5 ((((f1.trans f2).trans f3).trans f4).trans f5)
  · try simp only [w_ok, w_err, w_non, w_bl, w_int, w_str, w_con, w_var, w_tup, w_lst, w_bin, w_neg, w_not, w_and, w_or, w_cmp, w_chain, w_ite, w_call, w_callV, w_bi, w_isi, w_meth, w_ix, w_slc, w_rev, w_lrng, w_lzip, w_fld, t_not, t_and, t_or, t_cmp, t_var, t_call, t_bi, t_isi, t_ix, t_bl, t_chain, s_nil, s_cons, s_star, o_none, o_some, i_e, i_rng, i_zip, ss_nil, ss_cons, st_expr, st_ret, st_retN, st_pass, st_brk, st_cont, st_asg, st_par, st_setIx, st_iff, st_for, st_raise, ts_nil, ts_one, oQ_some, oQ_none, rq_ret, rq_nx, fq_nx, fq_cont, fq_brk, fq_ret, tgB, setAll, wipe, List.getElem?_cons_zero, List.getElem?_cons_succ, List.set_cons_zero, List.set_cons_succ, List.map_cons, List.map_nil, List.length_cons, List.length_nil, List.cons_append, List.nil_append, List.append_nil, List.replicate_succ, List.replicate_zero, Nat.reduceSub, Nat.sub_self, add_int, sub_int, int_int, int_bl, abs_int, max_int, min_int, len_tup, lt_int, le_int, gt_int, ge_int, eq_int, ne_int, eq_bl, ix_tup, at0, at1, at2, ito_tup, seq_tup, truth_bl, truth_tup]
    refine (without_ok (n := n + 1) c1 c2).imp fun v s ⟨f, rs, e, cr, hm⟩ => ?_
    subst e
    refine ⟨f, smok_rg cr, ?_⟩
    have g1 := f.get e1
    have g2 := f.get e2
    try simp only [w_ok, w_err, w_non, w_bl, w_int, w_str, w_con, w_var, w_tup, w_lst, w_bin, w_neg, w_not, w_and, w_or, w_cmp, w_chain, w_ite, w_call, w_callV, w_bi, w_isi, w_meth, w_ix, w_slc, w_rev, w_lrng, w_lzip, w_fld, t_not, t_and, t_or, t_cmp, t_var, t_call, t_bi, t_isi, t_ix, t_bl, t_chain, s_nil, s_cons, s_star, o_none, o_some, i_e, i_rng, i_zip, ss_nil, ss_cons, st_expr, st_ret, st_retN, st_pass, st_brk, st_cont, st_asg, st_par, st_setIx, st_iff, st_for, st_raise, ts_nil, ts_one, oQ_some, oQ_none, rq_ret, rq_nx, fq_nx, fq_cont, fq_brk, fq_ret, tgB, setAll, wipe, List.getElem?_cons_zero, List.getElem?_cons_succ, List.set_cons_zero, List.set_cons_succ, List.map_cons, List.map_nil, List.length_cons, List.length_nil, List.cons_append, List.nil_append, List.append_nil, List.replicate_succ, List.replicate_zero, Nat.reduceSub, Nat.sub_self, add_int, sub_int, int_int, int_bl, abs_int, max_int, min_int, len_tup, lt_int, le_int, gt_int, ge_int, eq_int, ne_int, eq_bl, ix_tup, at0, at1, at2, ito_tup, seq_tup, truth_bl, truth_tup]
    rw [w_lc (keysI_lst rfl g1)]
    simp only [w_ok, w_err, w_non, w_bl, w_int, w_str, w_con, w_var, w_tup, w_lst, w_bin, w_neg, w_not, w_and, w_or, w_cmp, w_chain, w_ite, w_call, w_callV, w_bi, w_isi, w_meth, w_ix, w_slc, w_rev, w_lrng, w_lzip, w_fld, t_not, t_and, t_or, t_cmp, t_var, t_call, t_bi, t_isi, t_ix, t_bl, t_chain, s_nil, s_cons, s_star, o_none, o_some, i_e, i_rng, i_zip, ss_nil, ss_cons, st_expr, st_ret, st_retN, st_pass, st_brk, st_cont, st_asg, st_par, st_setIx, st_iff, st_for, st_raise, ts_nil, ts_one, oQ_some, oQ_none, rq_ret, rq_nx, fq_nx, fq_cont, fq_brk, fq_ret, tgB, setAll, wipe, List.getElem?_cons_zero, List.getElem?_cons_succ, List.set_cons_zero, List.set_cons_succ, List.map_cons, List.map_nil, List.length_cons, List.length_nil, List.cons_append, List.nil_append, List.append_nil, List.replicate_succ, List.replicate_zero, Nat.reduceSub, Nat.sub_self, add_int, sub_int, int_int, int_bl, abs_int, max_int, min_int, len_tup, lt_int, le_int, gt_int, ge_int, eq_int, ne_int, eq_bl, ix_tup, at0, at1, at2, ito_tup, seq_tup, truth_bl, truth_tup, itOf_lst g1]
    refine lc_fm (ds := (bytesI one).map .int) (fun d => match d with
      | .int b => !decide (b ∈ bytesI other)
      | _ => false) id ⟨true, g1⟩ (by rw [List.length_map]; unfold LIM; omega) (fun d hd u fu => ?_) fun u fu e => ?_
    · obtain ⟨b, hb, ed⟩ := List.mem_map.mp hd
      subst ed
      simp only [w_ok, w_err, w_non, w_bl, w_int, w_str, w_con, w_var, w_tup, w_lst, w_bin, w_neg, w_not, w_and, w_or, w_cmp, w_chain, w_ite, w_call, w_callV, w_bi, w_isi, w_meth, w_ix, w_slc, w_rev, w_lrng, w_lzip, w_fld, t_not, t_and, t_or, t_cmp, t_var, t_call, t_bi, t_isi, t_ix, t_bl, t_chain, s_nil, s_cons, s_star, o_none, o_some, i_e, i_rng, i_zip, ss_nil, ss_cons, st_expr, st_ret, st_retN, st_pass, st_brk, st_cont, st_asg, st_par, st_setIx, st_iff, st_for, st_raise, ts_nil, ts_one, oQ_some, oQ_none, rq_ret, rq_nx, fq_nx, fq_cont, fq_brk, fq_ret, tgB, setAll, wipe, List.getElem?_cons_zero, List.getElem?_cons_succ, List.set_cons_zero, List.set_cons_succ, List.map_cons, List.map_nil, List.length_cons, List.length_nil, List.cons_append, List.nil_append, List.append_nil, List.replicate_succ, List.replicate_zero, Nat.reduceSub, Nat.sub_self, add_int, sub_int, int_int, int_bl, abs_int, max_int, min_int, len_tup, lt_int, le_int, gt_int, ge_int, eq_int, ne_int, eq_bl, ix_tup, at0, at1, at2, ito_tup, seq_tup, truth_bl, truth_tup, notin_ints (fu.get g2)]
      exact ⟨Fr.refl _ _, trivial, fun _ => ⟨Fr.refl _ _, rfl⟩⟩
    · have ez : (((bytesI one).map D.int).filter (fun d => match d with
        | .int b => !decide (b ∈ bytesI other)
        | _ => false)).map id = ((bytesI one).filter fun b => !decide (b ∈ bytesI other)).map .int := by
        rw [List.map_id, List.filter_map]
        rfl
      rw [ez] at e
      try simp only [w_ok, w_err, w_non, w_bl, w_int, w_str, w_con, w_var, w_tup, w_lst, w_bin, w_neg, w_not, w_and, w_or, w_cmp, w_chain, w_ite, w_call, w_callV, w_bi, w_isi, w_meth, w_ix, w_slc, w_rev, w_lrng, w_lzip, w_fld, t_not, t_and, t_or, t_cmp, t_var, t_call, t_bi, t_isi, t_ix, t_bl, t_chain, s_nil, s_cons, s_star, o_none, o_some, i_e, i_rng, i_zip, ss_nil, ss_cons, st_expr, st_ret, st_retN, st_pass, st_brk, st_cont, st_asg, st_par, st_setIx, st_iff, st_for, st_raise, ts_nil, ts_one, oQ_some, oQ_none, rq_ret, rq_nx, fq_nx, fq_cont, fq_brk, fq_ret, tgB, setAll, wipe, List.getElem?_cons_zero, List.getElem?_cons_succ, List.set_cons_zero, List.set_cons_succ, List.map_cons, List.map_nil, List.length_cons, List.length_nil, List.cons_append, List.nil_append, List.append_nil, List.replicate_succ, List.replicate_zero, Nat.reduceSub, Nat.sub_self, add_int, sub_int, int_int, int_bl, abs_int, max_int, min_int, len_tup, lt_int, le_int, gt_int, ge_int, eq_int, ne_int, eq_bl, ix_tup, at0, at1, at2, ito_tup, seq_tup, truth_bl, truth_tup]
      refine (l_ranges_ok (n := n + 6) e).imp fun v w ⟨f3, rs2, ev, c3, hm2⟩ => ?_
      subst ev
      have : rs2 = rs := can_ext c3 cr fun x => by
        rw [hm2, hm, List.mem_filter]
        simp only [Bool.not_eq_true', decide_eq_false_iff_not, mem_bytes]
        constructor
        · rintro ⟨y1, y2, y3⟩
          exact y3
        · intro y
          have h := c1.ge y.1
          exact ⟨h.1, h.2, y⟩
      subst this
      exact ⟨rfl, fu.trans f3⟩
end K01
end
section
set_option autoImplicit false
set_option linter.all false
set_option maxRecDepth 100000
set_option maxHeartbeats 4000000
namespace K01
open PySem PyI
theorem takeS_drop : ∀ (k : Nat) (b : ISs), takeS k b (dropS k b) = b
  | 0, _ => rfl
  | k + 1, .nil => by
    show dropS (k + 1) .nil = .nil
    rfl
  | k + 1, .cons s r => by
    show ISs.cons s (takeS k r (dropS k r)) = _
    rw [takeS_drop k r]
theorem dropS_drop : ∀ (j k : Nat) (b : ISs), dropS k (dropS j b) = dropS (j + k) b
  | 0, k, b => by rw [Nat.zero_add]; rfl
  | j + 1, 0, b => rfl
  | j + 1, k + 1, .nil => by
    rw [show j + 1 + (k + 1) = (j + (k + 1)) + 1 by omega]
    rfl
  | j + 1, k + 1, .cons s r => by
    show dropS (k + 1) (dropS j r) = _
    rw [dropS_drop j (k + 1) r, show j + 1 + (k + 1) = (j + (k + 1)) + 1 by omega]
    rfl
theorem Fr.skip {ps : List Nat} {s t u : Sto} (a : Fr [] s t) (b : Fr ps t u) (h : ∀ i ∈ ps, s.length ≤ i) : Fr [] s u := ⟨Nat.le_trans a.1 b.1, fun i c _ e => b.2 i c (fun z => by
  have := h i z
  have := lt_of_get e
  omega) (a.get e)⟩
/-- the ranges' lots, the walk, the last checks -/
theorem tail_ok {n p B : Nat} {st : Sto} {v1 v2 v3 v4 v5 v6 v7 v10 v11 v12 v13 v14 : Option D} {one : Rg} {rows : List Rg} (c1 : Can 0 one) (cr : ∀ ps ∈ rows, Can 0 ps) (hl : rows.length ≤ 300) (hp : Pot p B st) (hB : B < 2 ^ 29) :
    W (evSs P0 (callN P0 (n + 11)) (dropS 10 b_l_right) [some (.ref p), v1, v2, v3, v4, v5, v6, v7, some (.tup (rows.map rgD)), some (rgD one), v10, v11, v12, v13, v14, none, none] st) (RQ fun v s => v = .bl true ∧ Pot p (B + 1) s ∧ Fr [p] st s) NE := by
  have lp := hp.lt
  obtain ⟨r, hr⟩ : ∃ r, r = dropS 11 b_l_right := ⟨_, rfl⟩
  rw [← takeS_drop 1 (dropS 10 b_l_right), dropS_drop, ← hr]
  simp only [b_l_right, dropS, takeS, w_ok, w_err, w_non, w_bl, w_int, w_str, w_con, w_var, w_tup, w_lst, w_bin, w_neg, w_not, w_and, w_or, w_cmp, w_chain, w_ite, w_call, w_callV, w_bi, w_isi, w_meth, w_ix, w_slc, w_rev, w_lrng, w_lzip, w_fld, t_not, t_and, t_or, t_cmp, t_var, t_call, t_bi, t_isi, t_ix, t_bl, t_chain, s_nil, s_cons, s_star, o_none, o_some, i_e, i_rng, i_zip, ss_nil, ss_cons, st_expr, st_ret, st_retN, st_pass, st_brk, st_cont, st_asg, st_par, st_setIx, st_iff, st_for, st_raise, ts_nil, ts_one, oQ_some, oQ_none, rq_ret, rq_nx, fq_nx, fq_cont, fq_brk, fq_ret, tgB, setAll, wipe, List.getElem?_cons_zero, List.getElem?_cons_succ, List.set_cons_zero, List.set_cons_succ, List.map_cons, List.map_nil, List.length_cons, List.length_nil, List.cons_append, List.nil_append, List.append_nil, List.replicate_succ, List.replicate_zero, Nat.reduceSub, Nat.sub_self, add_int, sub_int, int_int, int_bl, abs_int, max_int, min_int, len_tup, lt_int, le_int, gt_int, ge_int, eq_int, ne_int, eq_bl, ix_tup, at0, at1, at2, ito_tup, seq_tup, truth_bl, truth_tup]
  rw [w_lc rfl]
  try simp only [w_ok, w_err, w_non, w_bl, w_int, w_str, w_con, w_var, w_tup, w_lst, w_bin, w_neg, w_not, w_and, w_or, w_cmp, w_chain, w_ite, w_call, w_callV, w_bi, w_isi, w_meth, w_ix, w_slc, w_rev, w_lrng, w_lzip, w_fld, t_not, t_and, t_or, t_cmp, t_var, t_call, t_bi, t_isi, t_ix, t_bl, t_chain, s_nil, s_cons, s_star, o_none, o_some, i_e, i_rng, i_zip, ss_nil, ss_cons, st_expr, st_ret, st_retN, st_pass, st_brk, st_cont, st_asg, st_par, st_setIx, st_iff, st_for, st_raise, ts_nil, ts_one, oQ_some, oQ_none, rq_ret, rq_nx, fq_nx, fq_cont, fq_brk, fq_ret, tgB, setAll, wipe, List.getElem?_cons_zero, List.getElem?_cons_succ, List.set_cons_zero, List.set_cons_succ, List.map_cons, List.map_nil, List.length_cons, List.length_nil, List.cons_append, List.nil_append, List.append_nil, List.replicate_succ, List.replicate_zero, Nat.reduceSub, Nat.sub_self, add_int, sub_int, int_int, int_bl, abs_int, max_int, min_int, len_tup, lt_int, le_int, gt_int, ge_int, eq_int, ne_int, eq_bl, ix_tup, at0, at1, at2, ito_tup, seq_tup, truth_bl, truth_tup]
  refine w_lcA (ds := rows.map rgD) (fun rest acc s => ∃ pre q ms, rows = pre ++ q ∧ rest = q.map rgD ∧ acc = ms.map .ref ∧ LotsOk pre ms s ∧ Fr [] st s ∧ s[st.length]? = some (.lst true acc) ∧ ∀ m ∈ ms, st.length < m) (fun rest acc s _ => by rfl) (fun d rest acc s ⟨pre, q, ms, e1, e2, e3, lo, fr, e5, hm⟩ => ?_) (fun acc s ⟨pre, q, ms, e1, e2, e3, lo, fr, e5, hm⟩ => ?_) FUEL 0 _ [] _ rfl (by rw [List.drop_zero, List.length_map]; unfold FUEL; omega) ⟨[], rows, [], rfl, rfl, rfl, trivial, Fr.app _ _ _, get_last, fun m hm => by cases hm⟩
  · match q, e2, e1 with
    | ps :: q, e2, e1 =>
      simp only [List.map_cons, List.cons.injEq] at e2
      obtain ⟨e2, e7⟩ := e2
      subst e2 e7 e3
      have cp := cr ps (by rw [e1]; simp)
      try simp only [w_ok, w_err, w_non, w_bl, w_int, w_str, w_con, w_var, w_tup, w_lst, w_bin, w_neg, w_not, w_and, w_or, w_cmp, w_chain, w_ite, w_call, w_callV, w_bi, w_isi, w_meth, w_ix, w_slc, w_rev, w_lrng, w_lzip, w_fld, t_not, t_and, t_or, t_cmp, t_var, t_call, t_bi, t_isi, t_ix, t_bl, t_chain, s_nil, s_cons, s_star, o_none, o_some, i_e, i_rng, i_zip, ss_nil, ss_cons, st_expr, st_ret, st_retN, st_pass, st_brk, st_cont, st_asg, st_par, st_setIx, st_iff, st_for, st_raise, ts_nil, ts_one, oQ_some, oQ_none, rq_ret, rq_nx, fq_nx, fq_cont, fq_brk, fq_ret, tgB, setAll, wipe, List.getElem?_cons_zero, List.getElem?_cons_succ, List.set_cons_zero, List.set_cons_succ, List.map_cons, List.map_nil, List.length_cons, List.length_nil, List.cons_append, List.nil_append, List.append_nil, List.replicate_succ, List.replicate_zero, Nat.reduceSub, Nat.sub_self, add_int, sub_int, int_int, int_bl, abs_int, max_int, min_int, len_tup, lt_int, le_int, gt_int, ge_int, eq_int, ne_int, eq_bl, ix_tup, at0, at1, at2, ito_tup, seq_tup, truth_bl, truth_tup]
      refine (l_bytes_ok (n := n + 10) cp).imp fun v t ⟨f, ev, ec⟩ => ?_
      subst ev
      rw [bytes_map] at ec
      have e6 := f.get e5
      have ls := lt_of_get e5
      have hll := lo.len
      have hpl : pre.length < 301 := by
        rw [e1, List.length_append, List.length_cons] at hl
        omega
      refine ⟨e6, by rw [List.length_map]; unfold LIM; omega, pre ++ [ps], q, ms ++ [s.length], by rw [e1]; simp, rfl, by simp, ?_, (fr.trans f).set (.inr (Nat.le_refl _)), get_set e6, fun m hm2 => ?_⟩
      · refine LotsOk.snoc ?_ ((lo.fr f (by simp)).fr (set_fr []) fun m hm2 => ?_)
        · rw [get_set_ne (by omega)]
          exact ec
        · have := hm m hm2
          simp
          omega
      · rcases List.mem_append.mp hm2 with z | z
        · exact hm m z
        · rw [List.mem_singleton.mp z]
          exact ls
  · have eq : q = [] := by simpa using e2.symm
    subst eq
    rw [List.append_nil] at e1
    subst e1 e3
    have lms : ms.length ≤ 300 := by
      rw [lo.len]
      exact hl
    try simp only [w_ok, w_err, w_non, w_bl, w_int, w_str, w_con, w_var, w_tup, w_lst, w_bin, w_neg, w_not, w_and, w_or, w_cmp, w_chain, w_ite, w_call, w_callV, w_bi, w_isi, w_meth, w_ix, w_slc, w_rev, w_lrng, w_lzip, w_fld, t_not, t_and, t_or, t_cmp, t_var, t_call, t_bi, t_isi, t_ix, t_bl, t_chain, s_nil, s_cons, s_star, o_none, o_some, i_e, i_rng, i_zip, ss_nil, ss_cons, st_expr, st_ret, st_retN, st_pass, st_brk, st_cont, st_asg, st_par, st_setIx, st_iff, st_for, st_raise, ts_nil, ts_one, oQ_some, oQ_none, rq_ret, rq_nx, fq_nx, fq_cont, fq_brk, fq_ret, tgB, setAll, wipe, List.getElem?_cons_zero, List.getElem?_cons_succ, List.set_cons_zero, List.set_cons_succ, List.map_cons, List.map_nil, List.length_cons, List.length_nil, List.cons_append, List.nil_append, List.append_nil, List.replicate_succ, List.replicate_zero, Nat.reduceSub, Nat.sub_self, add_int, sub_int, int_int, int_bl, abs_int, max_int, min_int, len_tup, lt_int, le_int, gt_int, ge_int, eq_int, ne_int, eq_bl, ix_tup, at0, at1, at2, ito_tup, seq_tup, truth_bl, truth_tup, List.length_nil, Nat.zero_le, if_true]
    have f1 := Fr.app [] s [Cell.lst true []]
    have g5 := f1.get e5
    have glo : LotsOk rows ms (s ++ [Cell.lst true []]) := lo.fr f1 (by simp)
    have g6 : (s ++ [Cell.lst true []])[s.length]? = some (.lst true []) := get_last
    have ls := lt_of_get e5
    have hms : ∀ m ∈ ms, m ≠ s.length := fun m hm2 => by
      obtain ⟨ps, _, ec⟩ := lo.item hm2
      have := lt_of_get ec
      omega
    have fS := fr.trans f1
    generalize hF : s.length = F at g6 ls hms
    generalize s ++ [Cell.lst true []] = s1 at g5 glo g6 fS
    obtain ⟨r2, hr2⟩ : ∃ r2, r2 = dropS 12 b_l_right := ⟨_, rfl⟩
    have hrr : r = .cons (.forr (.nm 2) (.rng (.int 0) (.int 256)) (.cons b_key (.cons b_fnd .nil))) r2 := by
      rw [hr, hr2]
      rfl
    rw [hrr]
    refine fnd_ok (by omega) g6 g5 glo (by omega) hms fun t w2 w7 out ft e8 cu => ?_
    have fT : Fr [] st t := Fr.skip fS ft (by simp; omega)
    rw [hr2]
    simp only [b_l_right, dropS]
    refine chk ?_ fun t2 f2 => ?_
    · try simp only [w_ok, w_err, w_non, w_bl, w_int, w_str, w_con, w_var, w_tup, w_lst, w_bin, w_neg, w_not, w_and, w_or, w_cmp, w_chain, w_ite, w_call, w_callV, w_bi, w_isi, w_meth, w_ix, w_slc, w_rev, w_lrng, w_lzip, w_fld, t_not, t_and, t_or, t_cmp, t_var, t_call, t_bi, t_isi, t_ix, t_bl, t_chain, s_nil, s_cons, s_star, o_none, o_some, i_e, i_rng, i_zip, ss_nil, ss_cons, st_expr, st_ret, st_retN, st_pass, st_brk, st_cont, st_asg, st_par, st_setIx, st_iff, st_for, st_raise, ts_nil, ts_one, oQ_some, oQ_none, rq_ret, rq_nx, fq_nx, fq_cont, fq_brk, fq_ret, tgB, setAll, wipe, List.getElem?_cons_zero, List.getElem?_cons_succ, List.set_cons_zero, List.set_cons_succ, List.map_cons, List.map_nil, List.length_cons, List.length_nil, List.cons_append, List.nil_append, List.append_nil, List.replicate_succ, List.replicate_zero, Nat.reduceSub, Nat.sub_self, add_int, sub_int, int_int, int_bl, abs_int, max_int, min_int, len_tup, lt_int, le_int, gt_int, ge_int, eq_int, ne_int, eq_bl, ix_tup, at0, at1, at2, ito_tup, seq_tup, truth_bl, truth_tup]
      refine (classes_ok (n := n + 5) cr hl).imp fun v u ⟨fu, rs, ev, cu2⟩ => ?_
      subst ev
      have er : rs = out.map two := cut_ext _ cu2 cu
      subst er
      refine ⟨fu, smok_cut cu, ?_⟩
      have e9 := fu.get e8
      have lo2 : (out.map trip).length < LIM := by
        have : ((out.map two).length : Int) ≤ 256 := by
          have h1 : ∀ {ps : Rg} {k : Option (List Bool)} {b : Int}, 0 ≤ b → Cut (keyOf rows) k b ps → (ps.length : Int) + b ≤ 256 := by
            intro ps
            induction ps with
            | nil =>
              intro k b hb c
              have c' : b = 256 := c
              simp
              omega
            | cons q r ih =>
              intro k b hb c
              obtain ⟨c1, c2, c3, c4, c5, c6⟩ := c
              have := ih (by omega) c6
              rw [List.length_cons]
              omega
          have := h1 (Int.le_refl 0) cu
          omega
        rw [List.length_map] at this ⊢
        unfold LIM
        omega
      try simp only [w_ok, w_err, w_non, w_bl, w_int, w_str, w_con, w_var, w_tup, w_lst, w_bin, w_neg, w_not, w_and, w_or, w_cmp, w_chain, w_ite, w_call, w_callV, w_bi, w_isi, w_meth, w_ix, w_slc, w_rev, w_lrng, w_lzip, w_fld, t_not, t_and, t_or, t_cmp, t_var, t_call, t_bi, t_isi, t_ix, t_bl, t_chain, s_nil, s_cons, s_star, o_none, o_some, i_e, i_rng, i_zip, ss_nil, ss_cons, st_expr, st_ret, st_retN, st_pass, st_brk, st_cont, st_asg, st_par, st_setIx, st_iff, st_for, st_raise, ts_nil, ts_one, oQ_some, oQ_none, rq_ret, rq_nx, fq_nx, fq_cont, fq_brk, fq_ret, tgB, setAll, wipe, List.getElem?_cons_zero, List.getElem?_cons_succ, List.set_cons_zero, List.set_cons_succ, List.map_cons, List.map_nil, List.length_cons, List.length_nil, List.cons_append, List.nil_append, List.append_nil, List.replicate_succ, List.replicate_zero, Nat.reduceSub, Nat.sub_self, add_int, sub_int, int_int, int_bl, abs_int, max_int, min_int, len_tup, lt_int, le_int, gt_int, ge_int, eq_int, ne_int, eq_bl, ix_tup, at0, at1, at2, ito_tup, seq_tup, truth_bl, truth_tup]
      rw [w_lc (keysI_lst rfl e9)]
      simp only [w_ok, w_err, w_non, w_bl, w_int, w_str, w_con, w_var, w_tup, w_lst, w_bin, w_neg, w_not, w_and, w_or, w_cmp, w_chain, w_ite, w_call, w_callV, w_bi, w_isi, w_meth, w_ix, w_slc, w_rev, w_lrng, w_lzip, w_fld, t_not, t_and, t_or, t_cmp, t_var, t_call, t_bi, t_isi, t_ix, t_bl, t_chain, s_nil, s_cons, s_star, o_none, o_some, i_e, i_rng, i_zip, ss_nil, ss_cons, st_expr, st_ret, st_retN, st_pass, st_brk, st_cont, st_asg, st_par, st_setIx, st_iff, st_for, st_raise, ts_nil, ts_one, oQ_some, oQ_none, rq_ret, rq_nx, fq_nx, fq_cont, fq_brk, fq_ret, tgB, setAll, wipe, List.getElem?_cons_zero, List.getElem?_cons_succ, List.set_cons_zero, List.set_cons_succ, List.map_cons, List.map_nil, List.length_cons, List.length_nil, List.cons_append, List.nil_append, List.append_nil, List.replicate_succ, List.replicate_zero, Nat.reduceSub, Nat.sub_self, add_int, sub_int, int_int, int_bl, abs_int, max_int, min_int, len_tup, lt_int, le_int, gt_int, ge_int, eq_int, ne_int, eq_bl, ix_tup, at0, at1, at2, ito_tup, seq_tup, truth_bl, truth_tup, itOf_lst e9]
      refine lc_map (ds := out.map trip) (fun d => match d with
        | .tup [a, b, _] => .tup [a, b]
        | d => d) ⟨true, e9⟩ lo2 (fun d hd w fw => ?_) fun w fw e => ?_
      · obtain ⟨o, ho, ed⟩ := List.mem_map.mp hd
        subst ed
        simp only [trip, w_ok, w_err, w_non, w_bl, w_int, w_str, w_con, w_var, w_tup, w_lst, w_bin, w_neg, w_not, w_and, w_or, w_cmp, w_chain, w_ite, w_call, w_callV, w_bi, w_isi, w_meth, w_ix, w_slc, w_rev, w_lrng, w_lzip, w_fld, t_not, t_and, t_or, t_cmp, t_var, t_call, t_bi, t_isi, t_ix, t_bl, t_chain, s_nil, s_cons, s_star, o_none, o_some, i_e, i_rng, i_zip, ss_nil, ss_cons, st_expr, st_ret, st_retN, st_pass, st_brk, st_cont, st_asg, st_par, st_setIx, st_iff, st_for, st_raise, ts_nil, ts_one, oQ_some, oQ_none, rq_ret, rq_nx, fq_nx, fq_cont, fq_brk, fq_ret, tgB, setAll, wipe, List.getElem?_cons_zero, List.getElem?_cons_succ, List.set_cons_zero, List.set_cons_succ, List.map_cons, List.map_nil, List.length_cons, List.length_nil, List.cons_append, List.nil_append, List.append_nil, List.replicate_succ, List.replicate_zero, Nat.reduceSub, Nat.sub_self, add_int, sub_int, int_int, int_bl, abs_int, max_int, min_int, len_tup, lt_int, le_int, gt_int, ge_int, eq_int, ne_int, eq_bl, ix_tup, at0, at1, at2, ito_tup, seq_tup, truth_bl, truth_tup, show (0 + 1 + 1 ≤ LIM) from by decide, if_true]
        exact ⟨Fr.refl _ _, trivial⟩
      · simp only [w_ok, w_err, w_non, w_bl, w_int, w_str, w_con, w_var, w_tup, w_lst, w_bin, w_neg, w_not, w_and, w_or, w_cmp, w_chain, w_ite, w_call, w_callV, w_bi, w_isi, w_meth, w_ix, w_slc, w_rev, w_lrng, w_lzip, w_fld, t_not, t_and, t_or, t_cmp, t_var, t_call, t_bi, t_isi, t_ix, t_bl, t_chain, s_nil, s_cons, s_star, o_none, o_some, i_e, i_rng, i_zip, ss_nil, ss_cons, st_expr, st_ret, st_retN, st_pass, st_brk, st_cont, st_asg, st_par, st_setIx, st_iff, st_for, st_raise, ts_nil, ts_one, oQ_some, oQ_none, rq_ret, rq_nx, fq_nx, fq_cont, fq_brk, fq_ret, tgB, setAll, wipe, List.getElem?_cons_zero, List.getElem?_cons_succ, List.set_cons_zero, List.set_cons_succ, List.map_cons, List.map_nil, List.length_cons, List.length_nil, List.cons_append, List.nil_append, List.append_nil, List.replicate_succ, List.replicate_zero, Nat.reduceSub, Nat.sub_self, add_int, sub_int, int_int, int_bl, abs_int, max_int, min_int, len_tup, lt_int, le_int, gt_int, ge_int, eq_int, ne_int, eq_bl, ix_tup, at0, at1, at2, ito_tup, seq_tup, truth_bl, truth_tup, evB_tuple e]
        refine ⟨?_, fw⟩
        show D.tup _ = D.tup _
        rw [List.map_map, List.map_map]
        congr 1
    · have f3 := fT.trans f2
      try simp only [w_ok, w_err, w_non, w_bl, w_int, w_str, w_con, w_var, w_tup, w_lst, w_bin, w_neg, w_not, w_and, w_or, w_cmp, w_chain, w_ite, w_call, w_callV, w_bi, w_isi, w_meth, w_ix, w_slc, w_rev, w_lrng, w_lzip, w_fld, t_not, t_and, t_or, t_cmp, t_var, t_call, t_bi, t_isi, t_ix, t_bl, t_chain, s_nil, s_cons, s_star, o_none, o_some, i_e, i_rng, i_zip, ss_nil, ss_cons, st_expr, st_ret, st_retN, st_pass, st_brk, st_cont, st_asg, st_par, st_setIx, st_iff, st_for, st_raise, ts_nil, ts_one, oQ_some, oQ_none, rq_ret, rq_nx, fq_nx, fq_cont, fq_brk, fq_ret, tgB, setAll, wipe, List.getElem?_cons_zero, List.getElem?_cons_succ, List.set_cons_zero, List.set_cons_succ, List.map_cons, List.map_nil, List.length_cons, List.length_nil, List.cons_append, List.nil_append, List.append_nil, List.replicate_succ, List.replicate_zero, Nat.reduceSub, Nat.sub_self, add_int, sub_int, int_int, int_bl, abs_int, max_int, min_int, len_tup, lt_int, le_int, gt_int, ge_int, eq_int, ne_int, eq_bl, ix_tup, at0, at1, at2, ito_tup, seq_tup, truth_bl, truth_tup]
      refine (l_are_refused_ok (n := n + 4) c1 (hp.fr f3) (by omega)).imp fun v u ⟨ev, q, f4⟩ => ?_
      exact ⟨ev, q, f3.all.trans f4⟩
theorem l_right_ok {n p B : Nat} {st : Sto} (hp : Pot p B st) (hB : B < 2 ^ 28) : W (callN P0 (n + 12) "_law_right" [.ref p] st) (fun v s => v = .bl true ∧ Pot p (B + 200) s ∧ Fr [p] st s) NE := by
  refine w_def d_l_right rfl rfl ?_
  have lp := hp.lt
  obtain ⟨r4, hr4⟩ : ∃ r, r = dropS 4 b_l_right := ⟨_, rfl⟩
  rw [← takeS_drop 4 b_l_right, ← hr4]
  simp only [b_l_right, takeS, w_ok, w_err, w_non, w_bl, w_int, w_str, w_con, w_var, w_tup, w_lst, w_bin, w_neg, w_not, w_and, w_or, w_cmp, w_chain, w_ite, w_call, w_callV, w_bi, w_isi, w_meth, w_ix, w_slc, w_rev, w_lrng, w_lzip, w_fld, t_not, t_and, t_or, t_cmp, t_var, t_call, t_bi, t_isi, t_ix, t_bl, t_chain, s_nil, s_cons, s_star, o_none, o_some, i_e, i_rng, i_zip, ss_nil, ss_cons, st_expr, st_ret, st_retN, st_pass, st_brk, st_cont, st_asg, st_par, st_setIx, st_iff, st_for, st_raise, ts_nil, ts_one, oQ_some, oQ_none, rq_ret, rq_nx, fq_nx, fq_cont, fq_brk, fq_ret, tgB, setAll, wipe, List.getElem?_cons_zero, List.getElem?_cons_succ, List.set_cons_zero, List.set_cons_succ, List.map_cons, List.map_nil, List.length_cons, List.length_nil, List.cons_append, List.nil_append, List.append_nil, List.replicate_succ, List.replicate_zero, Nat.reduceSub, Nat.sub_self, add_int, sub_int, int_int, int_bl, abs_int, max_int, min_int, len_tup, lt_int, le_int, gt_int, ge_int, eq_int, ne_int, eq_bl, ix_tup, at0, at1, at2, ito_tup, seq_tup, truth_bl, truth_tup]
  rw [w_lc rfl]
  try simp only [w_ok, w_err, w_non, w_bl, w_int, w_str, w_con, w_var, w_tup, w_lst, w_bin, w_neg, w_not, w_and, w_or, w_cmp, w_chain, w_ite, w_call, w_callV, w_bi, w_isi, w_meth, w_ix, w_slc, w_rev, w_lrng, w_lzip, w_fld, t_not, t_and, t_or, t_cmp, t_var, t_call, t_bi, t_isi, t_ix, t_bl, t_chain, s_nil, s_cons, s_star, o_none, o_some, i_e, i_rng, i_zip, ss_nil, ss_cons, st_expr, st_ret, st_retN, st_pass, st_brk, st_cont, st_asg, st_par, st_setIx, st_iff, st_for, st_raise, ts_nil, ts_one, oQ_some, oQ_none, rq_ret, rq_nx, fq_nx, fq_cont, fq_brk, fq_ret, tgB, setAll, wipe, List.getElem?_cons_zero, List.getElem?_cons_succ, List.set_cons_zero, List.set_cons_succ, List.map_cons, List.map_nil, List.length_cons, List.length_nil, List.cons_append, List.nil_append, List.append_nil, List.replicate_succ, List.replicate_zero, Nat.reduceSub, Nat.sub_self, add_int, sub_int, int_int, int_bl, abs_int, max_int, min_int, len_tup, lt_int, le_int, gt_int, ge_int, eq_int, ne_int, eq_bl, ix_tup, at0, at1, at2, ito_tup, seq_tup, truth_bl, truth_tup]
  refine (take_ok (n := n + 10) (u := 6) (by decide) (by decide) hp (by omega)).imp fun v s ⟨d, ev, h2, h3, q1, f1⟩ => ?_
  subst ev
  have hrng : rngOk 0 (1 + d) = true := by
    unfold rngOk LIM
    simp only [Bool.and_eq_true, decide_eq_true_eq]
    omega
  simp only [w_ok, w_err, w_non, w_bl, w_int, w_str, w_con, w_var, w_tup, w_lst, w_bin, w_neg, w_not, w_and, w_or, w_cmp, w_chain, w_ite, w_call, w_callV, w_bi, w_isi, w_meth, w_ix, w_slc, w_rev, w_lrng, w_lzip, w_fld, t_not, t_and, t_or, t_cmp, t_var, t_call, t_bi, t_isi, t_ix, t_bl, t_chain, s_nil, s_cons, s_star, o_none, o_some, i_e, i_rng, i_zip, ss_nil, ss_cons, st_expr, st_ret, st_retN, st_pass, st_brk, st_cont, st_asg, st_par, st_setIx, st_iff, st_for, st_raise, ts_nil, ts_one, oQ_some, oQ_none, rq_ret, rq_nx, fq_nx, fq_cont, fq_brk, fq_ret, tgB, setAll, wipe, List.getElem?_cons_zero, List.getElem?_cons_succ, List.set_cons_zero, List.set_cons_succ, List.map_cons, List.map_nil, List.length_cons, List.length_nil, List.cons_append, List.nil_append, List.append_nil, List.replicate_succ, List.replicate_zero, Nat.reduceSub, Nat.sub_self, add_int, sub_int, int_int, int_bl, abs_int, max_int, min_int, len_tup, lt_int, le_int, gt_int, ge_int, eq_int, ne_int, eq_bl, ix_tup, at0, at1, at2, ito_tup, seq_tup, truth_bl, truth_tup, hrng, if_true]
  have hl : (rngD 0 (1 + d)).length ≤ 6 := by
    rw [rng_len]
    omega
  refine lc_pot 11 (Φ := fun _ y => ∃ rs, y = rgD rs ∧ Can 0 rs) (fun _ _ _ _ h => h) q1 (by omega) (fun d0 hd B' s' fr _ q hB' => ?_) fun acc s2 f2 q2 ea la ph => ?_
  · try simp only [w_ok, w_err, w_non, w_bl, w_int, w_str, w_con, w_var, w_tup, w_lst, w_bin, w_neg, w_not, w_and, w_or, w_cmp, w_chain, w_ite, w_call, w_callV, w_bi, w_isi, w_meth, w_ix, w_slc, w_rev, w_lrng, w_lzip, w_fld, t_not, t_and, t_or, t_cmp, t_var, t_call, t_bi, t_isi, t_ix, t_bl, t_chain, s_nil, s_cons, s_star, o_none, o_some, i_e, i_rng, i_zip, ss_nil, ss_cons, st_expr, st_ret, st_retN, st_pass, st_brk, st_cont, st_asg, st_par, st_setIx, st_iff, st_for, st_raise, ts_nil, ts_one, oQ_some, oQ_none, rq_ret, rq_nx, fq_nx, fq_cont, fq_brk, fq_ret, tgB, setAll, wipe, List.getElem?_cons_zero, List.getElem?_cons_succ, List.set_cons_zero, List.set_cons_succ, List.map_cons, List.map_nil, List.length_cons, List.length_nil, List.cons_append, List.nil_append, List.append_nil, List.replicate_succ, List.replicate_zero, Nat.reduceSub, Nat.sub_self, add_int, sub_int, int_int, int_bl, abs_int, max_int, min_int, len_tup, lt_int, le_int, gt_int, ge_int, eq_int, ne_int, eq_bl, ix_tup, at0, at1, at2, ito_tup, seq_tup, truth_bl, truth_tup]
    exact (l_drawn_ok (n := n + 7) q (by omega)).imp fun v u ⟨h1, h2, h3⟩ => ⟨h1, h2, h3⟩
  obtain ⟨rows, er, cr⟩ := rows_of ph
  have lrows : rows.length = (rngD 0 (1 + d)).length := by
    rw [← la, er, List.length_map]
  have lr1 : 1 ≤ rows.length := by
    rw [lrows, rng_len]
    omega
  subst er
  simp only [evB_tuple ea, w_ok, w_err, w_non, w_bl, w_int, w_str, w_con, w_var, w_tup, w_lst, w_bin, w_neg, w_not, w_and, w_or, w_cmp, w_chain, w_ite, w_call, w_callV, w_bi, w_isi, w_meth, w_ix, w_slc, w_rev, w_lrng, w_lzip, w_fld, t_not, t_and, t_or, t_cmp, t_var, t_call, t_bi, t_isi, t_ix, t_bl, t_chain, s_nil, s_cons, s_star, o_none, o_some, i_e, i_rng, i_zip, ss_nil, ss_cons, st_expr, st_ret, st_retN, st_pass, st_brk, st_cont, st_asg, st_par, st_setIx, st_iff, st_for, st_raise, ts_nil, ts_one, oQ_some, oQ_none, rq_ret, rq_nx, fq_nx, fq_cont, fq_brk, fq_ret, tgB, setAll, wipe, List.getElem?_cons_zero, List.getElem?_cons_succ, List.set_cons_zero, List.set_cons_succ, List.map_cons, List.map_nil, List.length_cons, List.length_nil, List.cons_append, List.nil_append, List.append_nil, List.replicate_succ, List.replicate_zero, Nat.reduceSub, Nat.sub_self, add_int, sub_int, int_int, int_bl, abs_int, max_int, min_int, len_tup, lt_int, le_int, gt_int, ge_int, eq_int, ne_int, eq_bl, ix_tup, at0, at1, at2, ito_tup, seq_tup, truth_bl, truth_tup]
  obtain ⟨one, rr, ero⟩ : ∃ one rr, rows = one :: rr := by
    cases rows with
    | nil => simp at lr1
    | cons a b => exact ⟨a, b, rfl⟩
  have c1 : Can 0 one := cr one (by rw [ero]; simp)
  have ix0 : atD (rows.map rgD) 0 = some (rgD one) := by
    rw [ero]
    rfl
  simp only [ix0, w_ok, w_err, w_non, w_bl, w_int, w_str, w_con, w_var, w_tup, w_lst, w_bin, w_neg, w_not, w_and, w_or, w_cmp, w_chain, w_ite, w_call, w_callV, w_bi, w_isi, w_meth, w_ix, w_slc, w_rev, w_lrng, w_lzip, w_fld, t_not, t_and, t_or, t_cmp, t_var, t_call, t_bi, t_isi, t_ix, t_bl, t_chain, s_nil, s_cons, s_star, o_none, o_some, i_e, i_rng, i_zip, ss_nil, ss_cons, st_expr, st_ret, st_retN, st_pass, st_brk, st_cont, st_asg, st_par, st_setIx, st_iff, st_for, st_raise, ts_nil, ts_one, oQ_some, oQ_none, rq_ret, rq_nx, fq_nx, fq_cont, fq_brk, fq_ret, tgB, setAll, wipe, List.getElem?_cons_zero, List.getElem?_cons_succ, List.set_cons_zero, List.set_cons_succ, List.map_cons, List.map_nil, List.length_cons, List.length_nil, List.cons_append, List.nil_append, List.append_nil, List.replicate_succ, List.replicate_zero, Nat.reduceSub, Nat.sub_self, add_int, sub_int, int_int, int_bl, abs_int, max_int, min_int, len_tup, lt_int, le_int, gt_int, ge_int, eq_int, ne_int, eq_bl, ix_tup, at0, at1, at2, ito_tup, seq_tup, truth_bl, truth_tup, list_tup]
  have q2' := q2.fr (Fr.app [] s2 [Cell.lst true (rows.map rgD)])
  have lp2 := q2.lt
  refine (of_ok (n := n + 9) (p := p) get_last (by omega) (by rw [ero]; simp) (by rw [List.length_map]; omega) q2' (by omega)).imp fun v s3 ⟨hv, q3, f3⟩ => ?_
  obtain ⟨other, ho, ev⟩ := List.mem_map.mp hv
  subst ev
  have c2 := cr other ho
  simp only [w_ok, w_err, w_non, w_bl, w_int, w_str, w_con, w_var, w_tup, w_lst, w_bin, w_neg, w_not, w_and, w_or, w_cmp, w_chain, w_ite, w_call, w_callV, w_bi, w_isi, w_meth, w_ix, w_slc, w_rev, w_lrng, w_lzip, w_fld, t_not, t_and, t_or, t_cmp, t_var, t_call, t_bi, t_isi, t_ix, t_bl, t_chain, s_nil, s_cons, s_star, o_none, o_some, i_e, i_rng, i_zip, ss_nil, ss_cons, st_expr, st_ret, st_retN, st_pass, st_brk, st_cont, st_asg, st_par, st_setIx, st_iff, st_for, st_raise, ts_nil, ts_one, oQ_some, oQ_none, rq_ret, rq_nx, fq_nx, fq_cont, fq_brk, fq_ret, tgB, setAll, wipe, List.getElem?_cons_zero, List.getElem?_cons_succ, List.set_cons_zero, List.set_cons_succ, List.map_cons, List.map_nil, List.length_cons, List.length_nil, List.cons_append, List.nil_append, List.append_nil, List.replicate_succ, List.replicate_zero, Nat.reduceSub, Nat.sub_self, add_int, sub_int, int_int, int_bl, abs_int, max_int, min_int, len_tup, lt_int, le_int, gt_int, ge_int, eq_int, ne_int, eq_bl, ix_tup, at0, at1, at2, ito_tup, seq_tup, truth_bl, truth_tup, show (0 + 1 + 1 ≤ LIM) from by decide, if_true]
  refine (l_bytes_ok (n := n + 10) c1).imp fun v s4 ⟨f4, ev, e4⟩ => ?_
  subst ev
  try simp only [w_ok, w_err, w_non, w_bl, w_int, w_str, w_con, w_var, w_tup, w_lst, w_bin, w_neg, w_not, w_and, w_or, w_cmp, w_chain, w_ite, w_call, w_callV, w_bi, w_isi, w_meth, w_ix, w_slc, w_rev, w_lrng, w_lzip, w_fld, t_not, t_and, t_or, t_cmp, t_var, t_call, t_bi, t_isi, t_ix, t_bl, t_chain, s_nil, s_cons, s_star, o_none, o_some, i_e, i_rng, i_zip, ss_nil, ss_cons, st_expr, st_ret, st_retN, st_pass, st_brk, st_cont, st_asg, st_par, st_setIx, st_iff, st_for, st_raise, ts_nil, ts_one, oQ_some, oQ_none, rq_ret, rq_nx, fq_nx, fq_cont, fq_brk, fq_ret, tgB, setAll, wipe, List.getElem?_cons_zero, List.getElem?_cons_succ, List.set_cons_zero, List.set_cons_succ, List.map_cons, List.map_nil, List.length_cons, List.length_nil, List.cons_append, List.nil_append, List.append_nil, List.replicate_succ, List.replicate_zero, Nat.reduceSub, Nat.sub_self, add_int, sub_int, int_int, int_bl, abs_int, max_int, min_int, len_tup, lt_int, le_int, gt_int, ge_int, eq_int, ne_int, eq_bl, ix_tup, at0, at1, at2, ito_tup, seq_tup, truth_bl, truth_tup]
  refine (l_bytes_ok (n := n + 10) c2).imp fun v s5 ⟨f5, ev, e5⟩ => ?_
  subst ev
  rw [bytes_map] at e4 e5
  have e4' := f5.get e4
  have q5 := (q3.fr f4).fr f5
  have f05 : Fr [p] st s5 := ((((f1.trans f2).trans ((Fr.app [] _ _).all)).trans f3).trans f4.all).trans f5.all
  have hm1 : p < s3.length := q3.lt
  have hm2 : p < s4.length := (q3.fr f4).lt
  generalize s3.length = m1 at e4 e4' hm1
  generalize s4.length = m2 at e5 hm2
  have l1 := can_len0 c1
  have l2 := can_len0 c2
  have lp5 := q5.lt
  simp only [w_ok, w_err, w_non, w_bl, w_int, w_str, w_con, w_var, w_tup, w_lst, w_bin, w_neg, w_not, w_and, w_or, w_cmp, w_chain, w_ite, w_call, w_callV, w_bi, w_isi, w_meth, w_ix, w_slc, w_rev, w_lrng, w_lzip, w_fld, t_not, t_and, t_or, t_cmp, t_var, t_call, t_bi, t_isi, t_ix, t_bl, t_chain, s_nil, s_cons, s_star, o_none, o_some, i_e, i_rng, i_zip, ss_nil, ss_cons, st_expr, st_ret, st_retN, st_pass, st_brk, st_cont, st_asg, st_par, st_setIx, st_iff, st_for, st_raise, ts_nil, ts_one, oQ_some, oQ_none, rq_ret, rq_nx, fq_nx, fq_cont, fq_brk, fq_ret, tgB, setAll, wipe, List.getElem?_cons_zero, List.getElem?_cons_succ, List.set_cons_zero, List.set_cons_succ, List.map_cons, List.map_nil, List.length_cons, List.length_nil, List.cons_append, List.nil_append, List.append_nil, List.replicate_succ, List.replicate_zero, Nat.reduceSub, Nat.sub_self, add_int, sub_int, int_int, int_bl, abs_int, max_int, min_int, len_tup, lt_int, le_int, gt_int, ge_int, eq_int, ne_int, eq_bl, ix_tup, at0, at1, at2, ito_tup, seq_tup, truth_bl, truth_tup, show (0 + 1 + 1 ≤ LIM) from by decide, if_true, list_rg, rev_rg, show (0 + 1 ≤ LIM) from by decide, List.length_nil, Nat.zero_le]
  rw [add_rg (by simp only [List.length_cons, List.length_nil]; unfold LIM; omega)]
  try simp only [w_ok, w_err, w_non, w_bl, w_int, w_str, w_con, w_var, w_tup, w_lst, w_bin, w_neg, w_not, w_and, w_or, w_cmp, w_chain, w_ite, w_call, w_callV, w_bi, w_isi, w_meth, w_ix, w_slc, w_rev, w_lrng, w_lzip, w_fld, t_not, t_and, t_or, t_cmp, t_var, t_call, t_bi, t_isi, t_ix, t_bl, t_chain, s_nil, s_cons, s_star, o_none, o_some, i_e, i_rng, i_zip, ss_nil, ss_cons, st_expr, st_ret, st_retN, st_pass, st_brk, st_cont, st_asg, st_par, st_setIx, st_iff, st_for, st_raise, ts_nil, ts_one, oQ_some, oQ_none, rq_ret, rq_nx, fq_nx, fq_cont, fq_brk, fq_ret, tgB, setAll, wipe, List.getElem?_cons_zero, List.getElem?_cons_succ, List.set_cons_zero, List.set_cons_succ, List.map_cons, List.map_nil, List.length_cons, List.length_nil, List.cons_append, List.nil_append, List.append_nil, List.replicate_succ, List.replicate_zero, Nat.reduceSub, Nat.sub_self, add_int, sub_int, int_int, int_bl, abs_int, max_int, min_int, len_tup, lt_int, le_int, gt_int, ge_int, eq_int, ne_int, eq_bl, ix_tup, at0, at1, at2, ito_tup, seq_tup, truth_bl, truth_tup]
  rw [add_rg2 (by unfold LIM; omega)]
  simp only [w_ok, w_err, w_non, w_bl, w_int, w_str, w_con, w_var, w_tup, w_lst, w_bin, w_neg, w_not, w_and, w_or, w_cmp, w_chain, w_ite, w_call, w_callV, w_bi, w_isi, w_meth, w_ix, w_slc, w_rev, w_lrng, w_lzip, w_fld, t_not, t_and, t_or, t_cmp, t_var, t_call, t_bi, t_isi, t_ix, t_bl, t_chain, s_nil, s_cons, s_star, o_none, o_some, i_e, i_rng, i_zip, ss_nil, ss_cons, st_expr, st_ret, st_retN, st_pass, st_brk, st_cont, st_asg, st_par, st_setIx, st_iff, st_for, st_raise, ts_nil, ts_one, oQ_some, oQ_none, rq_ret, rq_nx, fq_nx, fq_cont, fq_brk, fq_ret, tgB, setAll, wipe, List.getElem?_cons_zero, List.getElem?_cons_succ, List.set_cons_zero, List.set_cons_succ, List.map_cons, List.map_nil, List.length_cons, List.length_nil, List.cons_append, List.nil_append, List.append_nil, List.replicate_succ, List.replicate_zero, Nat.reduceSub, Nat.sub_self, add_int, sub_int, int_int, int_bl, abs_int, max_int, min_int, len_tup, lt_int, le_int, gt_int, ge_int, eq_int, ne_int, eq_bl, ix_tup, at0, at1, at2, ito_tup, seq_tup, truth_bl, truth_tup, List.length_nil, Nat.zero_le, if_true]
  have f6 := Fr.app [] s5 [Cell.lst true (one.map prD)]
  have e6 : (s5 ++ [Cell.lst true (one.map prD)])[s5.length]? = some (.lst true (one.map prD)) := get_last
  have q6 := q5.fr f6
  have lp6 : p < s5.length := lp5
  generalize hM3 : s5.length = m3 at e6 lp6
  generalize s5 ++ [Cell.lst true (one.map prD)] = s6 at f6 e6 q6
  have lm3 := lt_of_get e6
  refine (l_odd_ok (n := n + 8) q6 (by omega)).imp fun vo s7 ⟨kvo, q7, f7⟩ => ?_
  simp only [w_ok, w_err, w_non, w_bl, w_int, w_str, w_con, w_var, w_tup, w_lst, w_bin, w_neg, w_not, w_and, w_or, w_cmp, w_chain, w_ite, w_call, w_callV, w_bi, w_isi, w_meth, w_ix, w_slc, w_rev, w_lrng, w_lzip, w_fld, t_not, t_and, t_or, t_cmp, t_var, t_call, t_bi, t_isi, t_ix, t_bl, t_chain, s_nil, s_cons, s_star, o_none, o_some, i_e, i_rng, i_zip, ss_nil, ss_cons, st_expr, st_ret, st_retN, st_pass, st_brk, st_cont, st_asg, st_par, st_setIx, st_iff, st_for, st_raise, ts_nil, ts_one, oQ_some, oQ_none, rq_ret, rq_nx, fq_nx, fq_cont, fq_brk, fq_ret, tgB, setAll, wipe, List.getElem?_cons_zero, List.getElem?_cons_succ, List.set_cons_zero, List.set_cons_succ, List.map_cons, List.map_nil, List.length_cons, List.length_nil, List.cons_append, List.nil_append, List.append_nil, List.replicate_succ, List.replicate_zero, Nat.reduceSub, Nat.sub_self, add_int, sub_int, int_int, int_bl, abs_int, max_int, min_int, len_tup, lt_int, le_int, gt_int, ge_int, eq_int, ne_int, eq_bl, ix_tup, at0, at1, at2, ito_tup, seq_tup, truth_bl, truth_tup, show (0 + 1 + 1 + 1 + 1 + 1 + 1 + 1 + 1 + 1 ≤ LIM) from by decide, if_true]
  generalize hX : [rgD one, rgD other, D.ref m3, D.tup (one.map prD).reverse, D.tup (one.map prD ++ [D.tup [D.int 255, D.int 255]]), D.tup (one.map prD ++ other.map prD), D.tup [], D.non, vo] = xs
  have lx : xs.length = 9 := by rw [← hX]; rfl
  have e7 := f7.get e6 (by simp; omega)
  have kx : ∀ x ∈ xs, KV m3 s7 x := fun x hx => by
    rw [← hX] at hx
    simp only [List.mem_cons, List.not_mem_nil, or_false] at hx
    rcases hx with z | z | z | z | z | z | z | z | z <;> rw [z]
    · exact (it_rg c1).kv
    · exact (it_rg c2).kv
    · exact .ref (Nat.le_refl _) e7
    · exact kv_prs (fun y hy => pr_of y (List.mem_reverse.mp hy)) (by rw [List.length_reverse, List.length_map]; omega)
    · refine kv_prs (fun y hy => ?_) (by rw [List.length_append, List.length_map, List.length_singleton]; omega)
      rcases List.mem_append.mp hy with w | w
      · exact pr_of y w
      · exact ⟨(255, 255), List.mem_singleton.mp w⟩
    · refine kv_prs (fun y hy => ?_) (by rw [List.length_append, List.length_map, List.length_map]; omega)
      rcases List.mem_append.mp hy with w | w
      · exact pr_of y w
      · exact pr_of y w
    · exact kv_nil
    · exact .non
    · exact kvo.mono (Nat.le_of_lt lm3)
  have f8 := Fr.app [] s7 [Cell.lst true xs]
  have e8 : (s7 ++ [Cell.lst true xs])[s7.length]? = some (.lst true xs) := get_last
  have q8 := q7.fr f8
  have kx8 : ∀ x ∈ xs, KV m3 (s7 ++ [Cell.lst true xs]) x := fun x hx => (kx x hx).fr (fun i hi => by cases hi) f8
  have f08 : Fr [p] st (s7 ++ [Cell.lst true xs]) := ((f05.trans f6.all).trans f7).trans f8.all
  have e4'' := f8.get (f7.get (f6.get e4') (by simp; omega))
  have e5'' := f8.get (f7.get (f6.get e5) (by simp; omega))
  have lm13 : p < s7.length := q7.lt
  have l37 : m3 < s7.length := lt_of_get e7
  generalize s7.length = m13 at e8 lm13 l37
  generalize s7 ++ [Cell.lst true xs] = s8 at f8 e8 q8 kx8 f08 e4'' e5''
  obtain ⟨r5, hr5⟩ : ∃ r, r = dropS 5 b_l_right := ⟨_, rfl⟩
  rw [hr4, ← takeS_drop 1 (dropS 4 b_l_right), dropS_drop, ← hr5]
  simp only [b_l_right, dropS, takeS, w_ok, w_err, w_non, w_bl, w_int, w_str, w_con, w_var, w_tup, w_lst, w_bin, w_neg, w_not, w_and, w_or, w_cmp, w_chain, w_ite, w_call, w_callV, w_bi, w_isi, w_meth, w_ix, w_slc, w_rev, w_lrng, w_lzip, w_fld, t_not, t_and, t_or, t_cmp, t_var, t_call, t_bi, t_isi, t_ix, t_bl, t_chain, s_nil, s_cons, s_star, o_none, o_some, i_e, i_rng, i_zip, ss_nil, ss_cons, st_expr, st_ret, st_retN, st_pass, st_brk, st_cont, st_asg, st_par, st_setIx, st_iff, st_for, st_raise, ts_nil, ts_one, oQ_some, oQ_none, rq_ret, rq_nx, fq_nx, fq_cont, fq_brk, fq_ret, tgB, setAll, wipe, List.getElem?_cons_zero, List.getElem?_cons_succ, List.set_cons_zero, List.set_cons_succ, List.map_cons, List.map_nil, List.length_cons, List.length_nil, List.cons_append, List.nil_append, List.append_nil, List.replicate_succ, List.replicate_zero, Nat.reduceSub, Nat.sub_self, add_int, sub_int, int_int, int_bl, abs_int, max_int, min_int, len_tup, lt_int, le_int, gt_int, ge_int, eq_int, ne_int, eq_bl, ix_tup, at0, at1, at2, ito_tup, seq_tup, truth_bl, truth_tup]
  rw [w_lc rfl]
  simp only [w_ok, w_err, w_non, w_bl, w_int, w_str, w_con, w_var, w_tup, w_lst, w_bin, w_neg, w_not, w_and, w_or, w_cmp, w_chain, w_ite, w_call, w_callV, w_bi, w_isi, w_meth, w_ix, w_slc, w_rev, w_lrng, w_lzip, w_fld, t_not, t_and, t_or, t_cmp, t_var, t_call, t_bi, t_isi, t_ix, t_bl, t_chain, s_nil, s_cons, s_star, o_none, o_some, i_e, i_rng, i_zip, ss_nil, ss_cons, st_expr, st_ret, st_retN, st_pass, st_brk, st_cont, st_asg, st_par, st_setIx, st_iff, st_for, st_raise, ts_nil, ts_one, oQ_some, oQ_none, rq_ret, rq_nx, fq_nx, fq_cont, fq_brk, fq_ret, tgB, setAll, wipe, List.getElem?_cons_zero, List.getElem?_cons_succ, List.set_cons_zero, List.set_cons_succ, List.map_cons, List.map_nil, List.length_cons, List.length_nil, List.cons_append, List.nil_append, List.append_nil, List.replicate_succ, List.replicate_zero, Nat.reduceSub, Nat.sub_self, add_int, sub_int, int_int, int_bl, abs_int, max_int, min_int, len_tup, lt_int, le_int, gt_int, ge_int, eq_int, ne_int, eq_bl, ix_tup, at0, at1, at2, ito_tup, seq_tup, truth_bl, truth_tup, show rngOk 0 8 = true from by decide, if_true]
  have l8 : (rngD 0 8).length = 8 := by rw [rng_len]; rfl
  refine lc_pot 9 (Φ := fun s y => KV (s8.length + 1) s y) (fun s t d f h => h.fr (fun i hi => ?_) f) q8 (by omega) (fun d0 hd B' s' fr hls q hB' => ?_) fun acc s9 f9 q9 ea la ph => ?_
  · have := q8.lt
    simp at hi
    omega
  · try simp only [w_ok, w_err, w_non, w_bl, w_int, w_str, w_con, w_var, w_tup, w_lst, w_bin, w_neg, w_not, w_and, w_or, w_cmp, w_chain, w_ite, w_call, w_callV, w_bi, w_isi, w_meth, w_ix, w_slc, w_rev, w_lrng, w_lzip, w_fld, t_not, t_and, t_or, t_cmp, t_var, t_call, t_bi, t_isi, t_ix, t_bl, t_chain, s_nil, s_cons, s_star, o_none, o_some, i_e, i_rng, i_zip, ss_nil, ss_cons, st_expr, st_ret, st_retN, st_pass, st_brk, st_cont, st_asg, st_par, st_setIx, st_iff, st_for, st_raise, ts_nil, ts_one, oQ_some, oQ_none, rq_ret, rq_nx, fq_nx, fq_cont, fq_brk, fq_ret, tgB, setAll, wipe, List.getElem?_cons_zero, List.getElem?_cons_succ, List.set_cons_zero, List.set_cons_succ, List.map_cons, List.map_nil, List.length_cons, List.length_nil, List.cons_append, List.nil_append, List.append_nil, List.replicate_succ, List.replicate_zero, Nat.reduceSub, Nat.sub_self, add_int, sub_int, int_int, int_bl, abs_int, max_int, min_int, len_tup, lt_int, le_int, gt_int, ge_int, eq_int, ne_int, eq_bl, ix_tup, at0, at1, at2, ito_tup, seq_tup, truth_bl, truth_tup]
    refine (l_bent_ok 2 (n + 5) B' s' (rgD one) (it_rg c1) (by decide) q (by omega)).imp fun v u ⟨h1, h2, h3⟩ => ⟨h1.mono (by omega), h2, h3⟩
  have e9 := f9.get e8 (by simp; omega)
  try simp only [w_ok, w_err, w_non, w_bl, w_int, w_str, w_con, w_var, w_tup, w_lst, w_bin, w_neg, w_not, w_and, w_or, w_cmp, w_chain, w_ite, w_call, w_callV, w_bi, w_isi, w_meth, w_ix, w_slc, w_rev, w_lrng, w_lzip, w_fld, t_not, t_and, t_or, t_cmp, t_var, t_call, t_bi, t_isi, t_ix, t_bl, t_chain, s_nil, s_cons, s_star, o_none, o_some, i_e, i_rng, i_zip, ss_nil, ss_cons, st_expr, st_ret, st_retN, st_pass, st_brk, st_cont, st_asg, st_par, st_setIx, st_iff, st_for, st_raise, ts_nil, ts_one, oQ_some, oQ_none, rq_ret, rq_nx, fq_nx, fq_cont, fq_brk, fq_ret, tgB, setAll, wipe, List.getElem?_cons_zero, List.getElem?_cons_succ, List.set_cons_zero, List.set_cons_succ, List.map_cons, List.map_nil, List.length_cons, List.length_nil, List.cons_append, List.nil_append, List.append_nil, List.replicate_succ, List.replicate_zero, Nat.reduceSub, Nat.sub_self, add_int, sub_int, int_int, int_bl, abs_int, max_int, min_int, len_tup, lt_int, le_int, gt_int, ge_int, eq_int, ne_int, eq_bl, ix_tup, at0, at1, at2, ito_tup, seq_tup, truth_bl, truth_tup]
  rw [add_lst e9 ea (by rw [lx, la, l8]; decide)]
  simp only [w_ok, w_err, w_non, w_bl, w_int, w_str, w_con, w_var, w_tup, w_lst, w_bin, w_neg, w_not, w_and, w_or, w_cmp, w_chain, w_ite, w_call, w_callV, w_bi, w_isi, w_meth, w_ix, w_slc, w_rev, w_lrng, w_lzip, w_fld, t_not, t_and, t_or, t_cmp, t_var, t_call, t_bi, t_isi, t_ix, t_bl, t_chain, s_nil, s_cons, s_star, o_none, o_some, i_e, i_rng, i_zip, ss_nil, ss_cons, st_expr, st_ret, st_retN, st_pass, st_brk, st_cont, st_asg, st_par, st_setIx, st_iff, st_for, st_raise, ts_nil, ts_one, oQ_some, oQ_none, rq_ret, rq_nx, fq_nx, fq_cont, fq_brk, fq_ret, tgB, setAll, wipe, List.getElem?_cons_zero, List.getElem?_cons_succ, List.set_cons_zero, List.set_cons_succ, List.map_cons, List.map_nil, List.length_cons, List.length_nil, List.cons_append, List.nil_append, List.append_nil, List.replicate_succ, List.replicate_zero, Nat.reduceSub, Nat.sub_self, add_int, sub_int, int_int, int_bl, abs_int, max_int, min_int, len_tup, lt_int, le_int, gt_int, ge_int, eq_int, ne_int, eq_bl, ix_tup, at0, at1, at2, ito_tup, seq_tup, truth_bl, truth_tup, itOf_lst get_last]
  have f10 := Fr.app [] s9 [Cell.lst true (xs ++ acc)]
  have e10 : (s9 ++ [Cell.lst true (xs ++ acc)])[s9.length]? = some (.lst true (xs ++ acc)) := get_last
  have l88 := q8.lt
  have kall : ∀ x ∈ xs ++ acc, KV 0 (s9 ++ [Cell.lst true (xs ++ acc)]) x := fun x hx => by
    rcases List.mem_append.mp hx with w | w
    · exact (((kx8 x w).fr (ps := [p]) (by simp; omega) f9).fr (fun i hi => by cases hi) f10).mono (Nat.zero_le _)
    · exact ((ph x w).fr (fun i hi => by cases hi) f10).mono (Nat.zero_le _)
  have q10 := q9.fr f10
  have e4c := f10.get (f9.get e4'' (by simp; omega))
  have e5c := f10.get (f9.get e5'' (by simp; omega))
  have f010 := (f08.trans f9).trans f10.all
  generalize s9.length = m14 at e10
  have lall : (xs ++ acc).length = 17 := by rw [List.length_append, lx, la, l8]
  generalize xs ++ acc = all at e10 kall lall f10 q10 e4c e5c f010
  generalize s9 ++ [Cell.lst true all] = s10 at e10 kall q10 e4c e5c f010
  refine w_loop (ds := all) (fun rest env t => (∀ x ∈ rest, x ∈ all) ∧ (∃ w14, env = [some (.ref p), none, none, none, none, none, none, none, some (.tup (rows.map rgD)), some (rgD one), some (rgD other), some (.ref m1), some (.ref m2), some (.ref m13), w14, none, none]) ∧ Fr [] s10 t) (by rw [lall]; decide) (fun rest env t ⟨_, _, f⟩ => ⟨true, f.get e10⟩) ⟨fun x h => h, ⟨_, rfl⟩, Fr.refl _ _⟩ ?_ ?_
  · rintro d0 rest env t ⟨a1, ⟨w14, a3⟩, f⟩
    subst a3
    have kv := (kall d0 (a1 d0 (List.mem_cons_self ..))).fr (fun i hi => by cases hi) f
    simp only [List.getElem?_cons_zero, List.getElem?_cons_succ, List.set_cons_zero, List.set_cons_succ, List.map_cons, List.map_nil, List.length_cons, List.length_nil, List.cons_append, List.nil_append, List.append_nil, List.replicate_succ, List.replicate_zero, Nat.reduceSub, Nat.sub_self, tgB, oQ_some]
    refine chk ?_ fun t2 f2 => ?_
    · try simp only [w_ok, w_err, w_non, w_bl, w_int, w_str, w_con, w_var, w_tup, w_lst, w_bin, w_neg, w_not, w_and, w_or, w_cmp, w_chain, w_ite, w_call, w_callV, w_bi, w_isi, w_meth, w_ix, w_slc, w_rev, w_lrng, w_lzip, w_fld, t_not, t_and, t_or, t_cmp, t_var, t_call, t_bi, t_isi, t_ix, t_bl, t_chain, s_nil, s_cons, s_star, o_none, o_some, i_e, i_rng, i_zip, ss_nil, ss_cons, st_expr, st_ret, st_retN, st_pass, st_brk, st_cont, st_asg, st_par, st_setIx, st_iff, st_for, st_raise, ts_nil, ts_one, oQ_some, oQ_none, rq_ret, rq_nx, fq_nx, fq_cont, fq_brk, fq_ret, tgB, setAll, wipe, List.getElem?_cons_zero, List.getElem?_cons_succ, List.set_cons_zero, List.set_cons_succ, List.map_cons, List.map_nil, List.length_cons, List.length_nil, List.cons_append, List.nil_append, List.append_nil, List.replicate_succ, List.replicate_zero, Nat.reduceSub, Nat.sub_self, add_int, sub_int, int_int, int_bl, abs_int, max_int, min_int, len_tup, lt_int, le_int, gt_int, ge_int, eq_int, ne_int, eq_bl, ix_tup, at0, at1, at2, ito_tup, seq_tup, truth_bl, truth_tup]
      refine (is_set_ok (n := n + 7) (kv.kn 2) kv.len).imp fun v u ⟨fu, ev⟩ => ?_
      subst ev
      refine ⟨fu, ⟨rfl, by show 0 ≤ 60; decide, by show 5 ≤ LIM; decide⟩, ?_⟩
      have kv2 := kv.fr (fun i hi => by cases hi) fu
      try simp only [w_ok, w_err, w_non, w_bl, w_int, w_str, w_con, w_var, w_tup, w_lst, w_bin, w_neg, w_not, w_and, w_or, w_cmp, w_chain, w_ite, w_call, w_callV, w_bi, w_isi, w_meth, w_ix, w_slc, w_rev, w_lrng, w_lzip, w_fld, t_not, t_and, t_or, t_cmp, t_var, t_call, t_bi, t_isi, t_ix, t_bl, t_chain, s_nil, s_cons, s_star, o_none, o_some, i_e, i_rng, i_zip, ss_nil, ss_cons, st_expr, st_ret, st_retN, st_pass, st_brk, st_cont, st_asg, st_par, st_setIx, st_iff, st_for, st_raise, ts_nil, ts_one, oQ_some, oQ_none, rq_ret, rq_nx, fq_nx, fq_cont, fq_brk, fq_ret, tgB, setAll, wipe, List.getElem?_cons_zero, List.getElem?_cons_succ, List.set_cons_zero, List.set_cons_succ, List.map_cons, List.map_nil, List.length_cons, List.length_nil, List.cons_append, List.nil_append, List.append_nil, List.replicate_succ, List.replicate_zero, Nat.reduceSub, Nat.sub_self, add_int, sub_int, int_int, int_bl, abs_int, max_int, min_int, len_tup, lt_int, le_int, gt_int, ge_int, eq_int, ne_int, eq_bl, ix_tup, at0, at1, at2, ito_tup, seq_tup, truth_bl, truth_tup]
      exact (l_is_set_ok (n := n + 9) (kv2.kn 2) kv2.len kv2.len2).imp fun v w ⟨fw, ev⟩ => ⟨ev, fw⟩
    · try simp only [w_ok, w_err, w_non, w_bl, w_int, w_str, w_con, w_var, w_tup, w_lst, w_bin, w_neg, w_not, w_and, w_or, w_cmp, w_chain, w_ite, w_call, w_callV, w_bi, w_isi, w_meth, w_ix, w_slc, w_rev, w_lrng, w_lzip, w_fld, t_not, t_and, t_or, t_cmp, t_var, t_call, t_bi, t_isi, t_ix, t_bl, t_chain, s_nil, s_cons, s_star, o_none, o_some, i_e, i_rng, i_zip, ss_nil, ss_cons, st_expr, st_ret, st_retN, st_pass, st_brk, st_cont, st_asg, st_par, st_setIx, st_iff, st_for, st_raise, ts_nil, ts_one, oQ_some, oQ_none, rq_ret, rq_nx, fq_nx, fq_cont, fq_brk, fq_ret, tgB, setAll, wipe, List.getElem?_cons_zero, List.getElem?_cons_succ, List.set_cons_zero, List.set_cons_succ, List.map_cons, List.map_nil, List.length_cons, List.length_nil, List.cons_append, List.nil_append, List.append_nil, List.replicate_succ, List.replicate_zero, Nat.reduceSub, Nat.sub_self, add_int, sub_int, int_int, int_bl, abs_int, max_int, min_int, len_tup, lt_int, le_int, gt_int, ge_int, eq_int, ne_int, eq_bl, ix_tup, at0, at1, at2, ito_tup, seq_tup, truth_bl, truth_tup]
      exact ⟨fun x hx => a1 x (List.mem_cons_of_mem _ hx), ⟨_, rfl⟩, f.trans f2⟩
  · rintro env t ⟨a1, ⟨w14, a3⟩, f⟩
    subst a3
    try simp only [w_ok, w_err, w_non, w_bl, w_int, w_str, w_con, w_var, w_tup, w_lst, w_bin, w_neg, w_not, w_and, w_or, w_cmp, w_chain, w_ite, w_call, w_callV, w_bi, w_isi, w_meth, w_ix, w_slc, w_rev, w_lrng, w_lzip, w_fld, t_not, t_and, t_or, t_cmp, t_var, t_call, t_bi, t_isi, t_ix, t_bl, t_chain, s_nil, s_cons, s_star, o_none, o_some, i_e, i_rng, i_zip, ss_nil, ss_cons, st_expr, st_ret, st_retN, st_pass, st_brk, st_cont, st_asg, st_par, st_setIx, st_iff, st_for, st_raise, ts_nil, ts_one, oQ_some, oQ_none, rq_ret, rq_nx, fq_nx, fq_cont, fq_brk, fq_ret, tgB, setAll, wipe, List.getElem?_cons_zero, List.getElem?_cons_succ, List.set_cons_zero, List.set_cons_succ, List.map_cons, List.map_nil, List.length_cons, List.length_nil, List.cons_append, List.nil_append, List.append_nil, List.replicate_succ, List.replicate_zero, Nat.reduceSub, Nat.sub_self, add_int, sub_int, int_int, int_bl, abs_int, max_int, min_int, len_tup, lt_int, le_int, gt_int, ge_int, eq_int, ne_int, eq_bl, ix_tup, at0, at1, at2, ito_tup, seq_tup, truth_bl, truth_tup]
    obtain ⟨r10, hr10⟩ : ∃ r, r = dropS 10 b_l_right := ⟨_, rfl⟩
    have hr5b : r5 = takeS 5 (dropS 5 b_l_right) r10 := by
      rw [hr5, hr10, ← dropS_drop 5 5, takeS_drop]
    rw [hr5b]
    refine five_ok (n := n + 4) c1 c2 (f.get e4c) (f.get e5c) fun t2 f2 => ?_
    rw [hr10]
    refine (tail_ok (n := n) c1 cr (by rw [lrows]; omega) (q10.fr (f.trans f2)) (by omega)).imp fun fl u hh => ?_
    cases fl with
    | ret v =>
      obtain ⟨h1, h2, h3⟩ := (show v = .bl true ∧ _ ∧ _ from hh)
      refine ⟨h1, h2.mono ?_, (f010.trans (f.trans f2).all).trans h3⟩
      rw [l8]
      omega
    | nx env =>
      obtain ⟨h1, _⟩ := (show D.non = .bl true ∧ _ from hh)
      cases h1
    | _ => exact False.elim hh
end K01
end
section
set_option autoImplicit false
set_option linter.all false
set_option maxRecDepth 100000
set_option maxHeartbeats 4000000
namespace K01
open PySem PyI
theorem d_law : P0.defs "law" = some ⟨1, 4, b_law⟩ := by kernel_rfl
theorem ne_rg {st : Sto} {ps : Rg} : cmpB .ne (rgD ps) (rgD ps) st = some false := by
  show (cmpB .eq (rgD ps) (rgD ps) st).map (!·) = _
  rw [eq_rg]
  rfl
theorem can_all : Can 0 [(0, 255)] := ⟨by decide, by decide, by decide, trivial⟩
theorem law_ok {ks : List Int} (n : Nat) : W (callN P0 (n + 14) "law" [.ref 0] [.lst false (ks.map .int)]) (fun v s => v = .bl true) NE := by
  refine w_def d_law rfl rfl ?_
  have e0 : ([Cell.lst false (ks.map .int)] : Sto)[0]? = some (.lst false (ks.map .int)) := rfl
  generalize ([Cell.lst false (ks.map .int)] : Sto) = st at e0
  obtain ⟨r1, hr1⟩ : ∃ r, r = dropS 1 b_law := ⟨_, rfl⟩
  rw [← takeS_drop 1 b_law, ← hr1]
  simp only [b_law, takeS, w_ok, w_err, w_non, w_bl, w_int, w_str, w_con, w_var, w_tup, w_lst, w_bin, w_neg, w_not, w_and, w_or, w_cmp, w_chain, w_ite, w_call, w_callV, w_bi, w_isi, w_meth, w_ix, w_slc, w_rev, w_lrng, w_lzip, w_fld, t_not, t_and, t_or, t_cmp, t_var, t_call, t_bi, t_isi, t_ix, t_bl, t_chain, s_nil, s_cons, s_star, o_none, o_some, i_e, i_rng, i_zip, ss_nil, ss_cons, st_expr, st_ret, st_retN, st_pass, st_brk, st_cont, st_asg, st_par, st_setIx, st_iff, st_for, st_raise, ts_nil, ts_one, oQ_some, oQ_none, rq_ret, rq_nx, fq_nx, fq_cont, fq_brk, fq_ret, tgB, setAll, wipe, List.getElem?_cons_zero, List.getElem?_cons_succ, List.set_cons_zero, List.set_cons_succ, List.map_cons, List.map_nil, List.length_cons, List.length_nil, List.cons_append, List.nil_append, List.append_nil, List.replicate_succ, List.replicate_zero, Nat.reduceSub, Nat.sub_self, add_int, sub_int, int_int, int_bl, abs_int, max_int, min_int, len_tup, lt_int, le_int, gt_int, ge_int, eq_int, ne_int, eq_bl, ix_tup, at0, at1, at2, ito_tup, seq_tup, truth_bl, truth_tup, List.length_nil, Nat.zero_le, if_true]
  refine (classes_ok (n := n + 7) (rows := []) (fun ps h => by cases h) (by decide)).imp fun v s1 ⟨f1, rs, ev, cu⟩ => ?_
  have er : rs = [(0, 255)] := cut_ext _ cu ⟨rfl, by decide, by decide, fun _ _ _ => rfl, by simp, rfl⟩
  subst ev er
  have t1 : D.tup [.tup [.int 0, .int 255]] = rgD [(0, 255)] := rfl
  simp only [w_ok, w_err, w_non, w_bl, w_int, w_str, w_con, w_var, w_tup, w_lst, w_bin, w_neg, w_not, w_and, w_or, w_cmp, w_chain, w_ite, w_call, w_callV, w_bi, w_isi, w_meth, w_ix, w_slc, w_rev, w_lrng, w_lzip, w_fld, t_not, t_and, t_or, t_cmp, t_var, t_call, t_bi, t_isi, t_ix, t_bl, t_chain, s_nil, s_cons, s_star, o_none, o_some, i_e, i_rng, i_zip, ss_nil, ss_cons, st_expr, st_ret, st_retN, st_pass, st_brk, st_cont, st_asg, st_par, st_setIx, st_iff, st_for, st_raise, ts_nil, ts_one, oQ_some, oQ_none, rq_ret, rq_nx, fq_nx, fq_cont, fq_brk, fq_ret, tgB, setAll, wipe, List.getElem?_cons_zero, List.getElem?_cons_succ, List.set_cons_zero, List.set_cons_succ, List.map_cons, List.map_nil, List.length_cons, List.length_nil, List.cons_append, List.nil_append, List.append_nil, List.replicate_succ, List.replicate_zero, Nat.reduceSub, Nat.sub_self, add_int, sub_int, int_int, int_bl, abs_int, max_int, min_int, len_tup, lt_int, le_int, gt_int, ge_int, eq_int, ne_int, eq_bl, ix_tup, at0, at1, at2, ito_tup, seq_tup, truth_bl, truth_tup, show (0 + 1 + 1 ≤ LIM) from by decide, show (0 + 1 ≤ LIM) from by decide, if_true, t1, ne_rg, List.length_nil, Nat.zero_le]
  refine (others_ok (n := n + 7) (ps := []) trivial).imp fun v s2 ⟨f2, rs, ev, cr, hm⟩ => ?_
  have er : rs = [(0, 255)] := can_ext cr can_all fun x => by
    rw [hm, mem_one]
    constructor
    · rintro ⟨y1, y2, y3⟩
      exact ⟨y1, y2⟩
    · rintro ⟨y1, y2⟩
      exact ⟨y1, y2, mem_nil⟩
  subst ev er
  simp only [w_ok, w_err, w_non, w_bl, w_int, w_str, w_con, w_var, w_tup, w_lst, w_bin, w_neg, w_not, w_and, w_or, w_cmp, w_chain, w_ite, w_call, w_callV, w_bi, w_isi, w_meth, w_ix, w_slc, w_rev, w_lrng, w_lzip, w_fld, t_not, t_and, t_or, t_cmp, t_var, t_call, t_bi, t_isi, t_ix, t_bl, t_chain, s_nil, s_cons, s_star, o_none, o_some, i_e, i_rng, i_zip, ss_nil, ss_cons, st_expr, st_ret, st_retN, st_pass, st_brk, st_cont, st_asg, st_par, st_setIx, st_iff, st_for, st_raise, ts_nil, ts_one, oQ_some, oQ_none, rq_ret, rq_nx, fq_nx, fq_cont, fq_brk, fq_ret, tgB, setAll, wipe, List.getElem?_cons_zero, List.getElem?_cons_succ, List.set_cons_zero, List.set_cons_succ, List.map_cons, List.map_nil, List.length_cons, List.length_nil, List.cons_append, List.nil_append, List.append_nil, List.replicate_succ, List.replicate_zero, Nat.reduceSub, Nat.sub_self, add_int, sub_int, int_int, int_bl, abs_int, max_int, min_int, len_tup, lt_int, le_int, gt_int, ge_int, eq_int, ne_int, eq_bl, ix_tup, at0, at1, at2, ito_tup, seq_tup, truth_bl, truth_tup, show (0 + 1 + 1 ≤ LIM) from by decide, show (0 + 1 ≤ LIM) from by decide, if_true, t1, ne_rg, List.length_nil, Nat.zero_le]
  refine (others_ok (n := n + 7) (ps := [(0, 255)]) can_all).imp fun v s3 ⟨f3, rs, ev, cr, hm⟩ => ?_
  have er : rs = [] := can_ext (b := 0) cr trivial fun x => by
    rw [hm, mem_one]
    constructor
    · rintro ⟨y1, y2, y3⟩
      exact absurd ⟨y1, y2⟩ y3
    · intro y
      exact absurd y mem_nil
  subst ev er
  have t2 : D.tup [] = rgD [] := rfl
  simp only [w_ok, w_err, w_non, w_bl, w_int, w_str, w_con, w_var, w_tup, w_lst, w_bin, w_neg, w_not, w_and, w_or, w_cmp, w_chain, w_ite, w_call, w_callV, w_bi, w_isi, w_meth, w_ix, w_slc, w_rev, w_lrng, w_lzip, w_fld, t_not, t_and, t_or, t_cmp, t_var, t_call, t_bi, t_isi, t_ix, t_bl, t_chain, s_nil, s_cons, s_star, o_none, o_some, i_e, i_rng, i_zip, ss_nil, ss_cons, st_expr, st_ret, st_retN, st_pass, st_brk, st_cont, st_asg, st_par, st_setIx, st_iff, st_for, st_raise, ts_nil, ts_one, oQ_some, oQ_none, rq_ret, rq_nx, fq_nx, fq_cont, fq_brk, fq_ret, tgB, setAll, wipe, List.getElem?_cons_zero, List.getElem?_cons_succ, List.set_cons_zero, List.set_cons_succ, List.map_cons, List.map_nil, List.length_cons, List.length_nil, List.cons_append, List.nil_append, List.append_nil, List.replicate_succ, List.replicate_zero, Nat.reduceSub, Nat.sub_self, add_int, sub_int, int_int, int_bl, abs_int, max_int, min_int, len_tup, lt_int, le_int, gt_int, ge_int, eq_int, ne_int, eq_bl, ix_tup, at0, at1, at2, ito_tup, seq_tup, truth_bl, truth_tup, t2, ne_rg, List.length_nil, Nat.zero_le, if_true]
  have e3 := ((f1.trans f2).trans f3).get e0
  rw [hr1]
  simp only [b_law, dropS, w_ok, w_err, w_non, w_bl, w_int, w_str, w_con, w_var, w_tup, w_lst, w_bin, w_neg, w_not, w_and, w_or, w_cmp, w_chain, w_ite, w_call, w_callV, w_bi, w_isi, w_meth, w_ix, w_slc, w_rev, w_lrng, w_lzip, w_fld, t_not, t_and, t_or, t_cmp, t_var, t_call, t_bi, t_isi, t_ix, t_bl, t_chain, s_nil, s_cons, s_star, o_none, o_some, i_e, i_rng, i_zip, ss_nil, ss_cons, st_expr, st_ret, st_retN, st_pass, st_brk, st_cont, st_asg, st_par, st_setIx, st_iff, st_for, st_raise, ts_nil, ts_one, oQ_some, oQ_none, rq_ret, rq_nx, fq_nx, fq_cont, fq_brk, fq_ret, tgB, setAll, wipe, List.getElem?_cons_zero, List.getElem?_cons_succ, List.set_cons_zero, List.set_cons_succ, List.map_cons, List.map_nil, List.length_cons, List.length_nil, List.cons_append, List.nil_append, List.append_nil, List.replicate_succ, List.replicate_zero, Nat.reduceSub, Nat.sub_self, add_int, sub_int, int_int, int_bl, abs_int, max_int, min_int, len_tup, lt_int, le_int, gt_int, ge_int, eq_int, ne_int, eq_bl, ix_tup, at0, at1, at2, ito_tup, seq_tup, truth_bl, truth_tup]
  refine (l_places_ok (n := n + 12) e3).imp fun v s4 ⟨ev, es⟩ => ?_
  subst ev es
  have e4 := (Fr.app [] s3 [Cell.lst true (rngD 0 (max 1 (min 4 ((ks.map D.int).length : Int))))]).get e3
  have e5 : (s3 ++ [Cell.lst true (rngD 0 (max 1 (min 4 ((ks.map D.int).length : Int))))])[s3.length]? = some (.lst true (rngD 0 (max 1 (min 4 ((ks.map D.int).length : Int))))) := get_last
  have hK : max 1 (min 4 ((ks.map D.int).length : Int)) ≤ 4 := by omega
  simp only [w_ok, w_err, w_non, w_bl, w_int, w_str, w_con, w_var, w_tup, w_lst, w_bin, w_neg, w_not, w_and, w_or, w_cmp, w_chain, w_ite, w_call, w_callV, w_bi, w_isi, w_meth, w_ix, w_slc, w_rev, w_lrng, w_lzip, w_fld, t_not, t_and, t_or, t_cmp, t_var, t_call, t_bi, t_isi, t_ix, t_bl, t_chain, s_nil, s_cons, s_star, o_none, o_some, i_e, i_rng, i_zip, ss_nil, ss_cons, st_expr, st_ret, st_retN, st_pass, st_brk, st_cont, st_asg, st_par, st_setIx, st_iff, st_for, st_raise, ts_nil, ts_one, oQ_some, oQ_none, rq_ret, rq_nx, fq_nx, fq_cont, fq_brk, fq_ret, tgB, setAll, wipe, List.getElem?_cons_zero, List.getElem?_cons_succ, List.set_cons_zero, List.set_cons_succ, List.map_cons, List.map_nil, List.length_cons, List.length_nil, List.cons_append, List.nil_append, List.append_nil, List.replicate_succ, List.replicate_zero, Nat.reduceSub, Nat.sub_self, add_int, sub_int, int_int, int_bl, abs_int, max_int, min_int, len_tup, lt_int, le_int, gt_int, ge_int, eq_int, ne_int, eq_bl, ix_tup, at0, at1, at2, ito_tup, seq_tup, truth_bl, truth_tup, itOf_lst e5]
  generalize max 1 (min 4 ((ks.map D.int).length : Int)) = K at e4 e5 hK
  generalize s3.length = m at e4 e5
  generalize s3 ++ [Cell.lst true (rngD 0 K)] = s5 at e4 e5
  refine w_loop (ds := rngD 0 K) (fun rest env t => ∃ b v1 v2 v3, rest = rngD b K ∧ 0 ≤ b ∧ env = [some (.ref 0), v1, v2, v3] ∧ t[0]? = some (.lst false (ks.map .int)) ∧ t[m]? = some (.lst true (rngD 0 K))) (by rw [rng_len]; unfold FUEL; omega) (fun rest env t ⟨_, _, _, _, _, _, _, _, z⟩ => ⟨true, z⟩) ⟨0, _, _, _, rfl, Int.le_refl _, rfl, e4, e5⟩ ?_ ?_
  · rintro d0 rest env t ⟨b, v1, v2, v3, a1, a2, a3, a4, a5⟩
    subst a3
    have hb : b < K := by
      apply Int.not_le.mp
      intro z
      rw [rngD_nil z] at a1
      cases a1
    rw [rngD_cons hb] at a1
    simp only [List.cons.injEq] at a1
    obtain ⟨a1, a6⟩ := a1
    subst a1 a6
    try simp only [w_ok, w_err, w_non, w_bl, w_int, w_str, w_con, w_var, w_tup, w_lst, w_bin, w_neg, w_not, w_and, w_or, w_cmp, w_chain, w_ite, w_call, w_callV, w_bi, w_isi, w_meth, w_ix, w_slc, w_rev, w_lrng, w_lzip, w_fld, t_not, t_and, t_or, t_cmp, t_var, t_call, t_bi, t_isi, t_ix, t_bl, t_chain, s_nil, s_cons, s_star, o_none, o_some, i_e, i_rng, i_zip, ss_nil, ss_cons, st_expr, st_ret, st_retN, st_pass, st_brk, st_cont, st_asg, st_par, st_setIx, st_iff, st_for, st_raise, ts_nil, ts_one, oQ_some, oQ_none, rq_ret, rq_nx, fq_nx, fq_cont, fq_brk, fq_ret, tgB, setAll, wipe, List.getElem?_cons_zero, List.getElem?_cons_succ, List.set_cons_zero, List.set_cons_succ, List.map_cons, List.map_nil, List.length_cons, List.length_nil, List.cons_append, List.nil_append, List.append_nil, List.replicate_succ, List.replicate_zero, Nat.reduceSub, Nat.sub_self, add_int, sub_int, int_int, int_bl, abs_int, max_int, min_int, len_tup, lt_int, le_int, gt_int, ge_int, eq_int, ne_int, eq_bl, ix_tup, at0, at1, at2, ito_tup, seq_tup, truth_bl, truth_tup]
    refine (l_pot_ok (n := n + 12) a4 ⟨a2, by omega⟩).imp fun v u ⟨f, p, ev, hp, q⟩ => ?_
    subst ev
    try simp only [w_ok, w_err, w_non, w_bl, w_int, w_str, w_con, w_var, w_tup, w_lst, w_bin, w_neg, w_not, w_and, w_or, w_cmp, w_chain, w_ite, w_call, w_callV, w_bi, w_isi, w_meth, w_ix, w_slc, w_rev, w_lrng, w_lzip, w_fld, t_not, t_and, t_or, t_cmp, t_var, t_call, t_bi, t_isi, t_ix, t_bl, t_chain, s_nil, s_cons, s_star, o_none, o_some, i_e, i_rng, i_zip, ss_nil, ss_cons, st_expr, st_ret, st_retN, st_pass, st_brk, st_cont, st_asg, st_par, st_setIx, st_iff, st_for, st_raise, ts_nil, ts_one, oQ_some, oQ_none, rq_ret, rq_nx, fq_nx, fq_cont, fq_brk, fq_ret, tgB, setAll, wipe, List.getElem?_cons_zero, List.getElem?_cons_succ, List.set_cons_zero, List.set_cons_succ, List.map_cons, List.map_nil, List.length_cons, List.length_nil, List.cons_append, List.nil_append, List.append_nil, List.replicate_succ, List.replicate_zero, Nat.reduceSub, Nat.sub_self, add_int, sub_int, int_int, int_bl, abs_int, max_int, min_int, len_tup, lt_int, le_int, gt_int, ge_int, eq_int, ne_int, eq_bl, ix_tup, at0, at1, at2, ito_tup, seq_tup, truth_bl, truth_tup]
    rw [w_lc rfl]
    simp only [w_ok, w_err, w_non, w_bl, w_int, w_str, w_con, w_var, w_tup, w_lst, w_bin, w_neg, w_not, w_and, w_or, w_cmp, w_chain, w_ite, w_call, w_callV, w_bi, w_isi, w_meth, w_ix, w_slc, w_rev, w_lrng, w_lzip, w_fld, t_not, t_and, t_or, t_cmp, t_var, t_call, t_bi, t_isi, t_ix, t_bl, t_chain, s_nil, s_cons, s_star, o_none, o_some, i_e, i_rng, i_zip, ss_nil, ss_cons, st_expr, st_ret, st_retN, st_pass, st_brk, st_cont, st_asg, st_par, st_setIx, st_iff, st_for, st_raise, ts_nil, ts_one, oQ_some, oQ_none, rq_ret, rq_nx, fq_nx, fq_cont, fq_brk, fq_ret, tgB, setAll, wipe, List.getElem?_cons_zero, List.getElem?_cons_succ, List.set_cons_zero, List.set_cons_succ, List.map_cons, List.map_nil, List.length_cons, List.length_nil, List.cons_append, List.nil_append, List.append_nil, List.replicate_succ, List.replicate_zero, Nat.reduceSub, Nat.sub_self, add_int, sub_int, int_int, int_bl, abs_int, max_int, min_int, len_tup, lt_int, le_int, gt_int, ge_int, eq_int, ne_int, eq_bl, ix_tup, at0, at1, at2, ito_tup, seq_tup, truth_bl, truth_tup, show rngOk 0 2 = true from by decide, if_true]
    have lt0 := lt_of_get a4
    have ltm := lt_of_get a5
    refine lc_pot 200 (Φ := fun _ y => y = .bl true) (fun _ _ _ _ h => h) q (by rw [rng_len]; decide) (fun d0 hd B' s' fr _ q hB' => ?_) fun acc w fw qw ea la ph => ?_
    · try simp only [w_ok, w_err, w_non, w_bl, w_int, w_str, w_con, w_var, w_tup, w_lst, w_bin, w_neg, w_not, w_and, w_or, w_cmp, w_chain, w_ite, w_call, w_callV, w_bi, w_isi, w_meth, w_ix, w_slc, w_rev, w_lrng, w_lzip, w_fld, t_not, t_and, t_or, t_cmp, t_var, t_call, t_bi, t_isi, t_ix, t_bl, t_chain, s_nil, s_cons, s_star, o_none, o_some, i_e, i_rng, i_zip, ss_nil, ss_cons, st_expr, st_ret, st_retN, st_pass, st_brk, st_cont, st_asg, st_par, st_setIx, st_iff, st_for, st_raise, ts_nil, ts_one, oQ_some, oQ_none, rq_ret, rq_nx, fq_nx, fq_cont, fq_brk, fq_ret, tgB, setAll, wipe, List.getElem?_cons_zero, List.getElem?_cons_succ, List.set_cons_zero, List.set_cons_succ, List.map_cons, List.map_nil, List.length_cons, List.length_nil, List.cons_append, List.nil_append, List.append_nil, List.replicate_succ, List.replicate_zero, Nat.reduceSub, Nat.sub_self, add_int, sub_int, int_int, int_bl, abs_int, max_int, min_int, len_tup, lt_int, le_int, gt_int, ge_int, eq_int, ne_int, eq_bl, ix_tup, at0, at1, at2, ito_tup, seq_tup, truth_bl, truth_tup]
      have : (rngD 0 2).length = 2 := by rw [rng_len]; rfl
      refine (l_right_ok (n := n + 1) q (by omega)).imp fun v u ⟨h1, h2, h3⟩ => ⟨h1, h2, h3⟩
    · have eacc : acc = acc.map fun d => D.bl ((fun _ => true) d) := by
        conv => lhs; rw [← List.map_id acc]
        exact List.map_congr_left fun y hy => ph y hy
      rw [eacc] at ea
      simp only [w_ok, w_err, w_non, w_bl, w_int, w_str, w_con, w_var, w_tup, w_lst, w_bin, w_neg, w_not, w_and, w_or, w_cmp, w_chain, w_ite, w_call, w_callV, w_bi, w_isi, w_meth, w_ix, w_slc, w_rev, w_lrng, w_lzip, w_fld, t_not, t_and, t_or, t_cmp, t_var, t_call, t_bi, t_isi, t_ix, t_bl, t_chain, s_nil, s_cons, s_star, o_none, o_some, i_e, i_rng, i_zip, ss_nil, ss_cons, st_expr, st_ret, st_retN, st_pass, st_brk, st_cont, st_asg, st_par, st_setIx, st_iff, st_for, st_raise, ts_nil, ts_one, oQ_some, oQ_none, rq_ret, rq_nx, fq_nx, fq_cont, fq_brk, fq_ret, tgB, setAll, wipe, List.getElem?_cons_zero, List.getElem?_cons_succ, List.set_cons_zero, List.set_cons_succ, List.map_cons, List.map_nil, List.length_cons, List.length_nil, List.cons_append, List.nil_append, List.append_nil, List.replicate_succ, List.replicate_zero, Nat.reduceSub, Nat.sub_self, add_int, sub_int, int_int, int_bl, abs_int, max_int, min_int, len_tup, lt_int, le_int, gt_int, ge_int, eq_int, ne_int, eq_bl, ix_tup, at0, at1, at2, ito_tup, seq_tup, truth_bl, truth_tup, evB_all ea, show ∀ l : List D, l.all (fun _ => true) = true from fun l => List.all_eq_true.mpr fun _ _ => rfl, Bool.not_true]
      exact ⟨b + 1, _, _, _, rfl, by omega, rfl, fw.get (f.get a4) (by simp; omega), fw.get (f.get a5) (by simp; omega)⟩
  · rintro env t ⟨b, v1, v2, v3, a1, a2, a3, a4, a5⟩
    subst a3
    try simp only [w_ok, w_err, w_non, w_bl, w_int, w_str, w_con, w_var, w_tup, w_lst, w_bin, w_neg, w_not, w_and, w_or, w_cmp, w_chain, w_ite, w_call, w_callV, w_bi, w_isi, w_meth, w_ix, w_slc, w_rev, w_lrng, w_lzip, w_fld, t_not, t_and, t_or, t_cmp, t_var, t_call, t_bi, t_isi, t_ix, t_bl, t_chain, s_nil, s_cons, s_star, o_none, o_some, i_e, i_rng, i_zip, ss_nil, ss_cons, st_expr, st_ret, st_retN, st_pass, st_brk, st_cont, st_asg, st_par, st_setIx, st_iff, st_for, st_raise, ts_nil, ts_one, oQ_some, oQ_none, rq_ret, rq_nx, fq_nx, fq_cont, fq_brk, fq_ret, tgB, setAll, wipe, List.getElem?_cons_zero, List.getElem?_cons_succ, List.set_cons_zero, List.set_cons_succ, List.map_cons, List.map_nil, List.length_cons, List.length_nil, List.cons_append, List.nil_append, List.append_nil, List.replicate_succ, List.replicate_zero, Nat.reduceSub, Nat.sub_self, add_int, sub_int, int_int, int_bl, abs_int, max_int, min_int, len_tup, lt_int, le_int, gt_int, ge_int, eq_int, ne_int, eq_bl, ix_tup, at0, at1, at2, ito_tup, seq_tup, truth_bl, truth_tup]
theorem pure (ks : List Int) (_ : ks.length ≤ 63) (_ : ∀ z ∈ ks, Builtin.Int.intBits z ≤ 1048576) : ∃ st, callN P0 30 "law" [.ref 0] [.lst false (ks.map .int)] = .ok (.bl true) st := by
  obtain ⟨a, st, e, h⟩ := (law_ok (ks := ks) 16).ok
  subst h
  exact ⟨st, e⟩
end K01
theorem K01.whole : PySem.Challenge.rw_neverbeyond_k01_whole_sets_of_bytes.Holds := K01.fin K01.pure
end
theorem PySem.Challenge.cw_neverbeyond_k01_whole_sets_of_bytes_holds : PySem.Challenge.rw_neverbeyond_k01_whole_sets_of_bytes.Holds := by
  exact K01.whole
