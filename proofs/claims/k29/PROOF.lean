import PyProof.Rows.All
import Wide.All
import OpenK.AllK
import Wide.FinOn
import HandS.ForMost
import HandS.ForExc
import HandS.Zip
import HandS.IsInst
import HandS.TupAny
import HandS.Wide
import HandS.Style
import HandS.Defaults
import HandS.HeadEnd
import HandS.HeadHook2
import HandS.HeadHook4
import HandS.Head2
import HandS.RevTup
import HandS.TupMul
import KE.DataMinMax
import HandS.SetFor
import KE.GoesEnum
import HandS.NoneIn
import HandS.Conv
import HandS.EndBits
import PySem.Challenge.RW_straightleast_k29_middles_never_fall
set_option Elab.async false
set_option linter.all false
set_option maxRecDepth 100000
/-! Core language: a small pure language of slots over PyData, with lists owned by one slot. -/
namespace Cr
open PySem
abbrev D := PyData
instance : Inhabited D := ⟨.none⟩

/-- a slot of a frame: unbound; a value that nobody changes; a list of its own (b: lent by the caller); a lent list that is no longer changed -/
inductive Sl where
  | un
  | val (d : D)
  | mu (b : Bool) (d : D)
  | frz (d : D)
  deriving Inhabited
abbrev Ev := List Sl

/-- a value handed on: known to be changed by nobody, or new and held by nobody else -/
inductive Rv where
  | fz (d : D)
  | fr (d : D)
def Rv.d : Rv → D
  | .fz d => d
  | .fr d => d

/-- an outcome -/
inductive Rs (α : Type) where
  | ok (a : α) (e : Ev)
  | ex (x : Nat) (e : Ev)
  | er
def Rs.bind {α β : Type} (m : Rs α) (f : α → Ev → Rs β) : Rs β :=
  match m with
  | .ok a e => f a e
  | .ex x e => .ex x e
  | .er => .er

/-- an operand: a place, looked up when it is needed, or a value -/
inductive Op where
  | pl (i : Nat)
  | vl (d : D)

/-- what a call ends with: its value, what the arguments' slots hold then -/
inductive CR where
  | ret (r : Rv) (o : List Sl)
  | exc (x : Nat) (o : List Sl)
  | er

inductive Ty where
  | int | bool | str | tuple | list
  deriving DecidableEq

/-- built-in functions by values -/
inductive Bt where
  | len | sum | min | max | min2 | max2 | all | any | tuple | list | int | abs | repr | sorted | listRange1 | listRange2 | tupRange1 | tupRange2
  deriving DecidableEq

/-- methods that change a place -/
inductive Mm where
  | append | extend | pop | popAt | reverse
  deriving DecidableEq
/-- methods that only look -/
inductive Vm where
  | index | count
  deriving DecidableEq

mutual
inductive CE where
  | k (d : D)
  | edict
  | glob (d : D)
  | var (i : Nat)
  | tup (es : List CE)
  | lst (es : List CE)
  | bin (o : Operator) (a b : CE)
  | neg (a : CE)
  | cmp (o : CmpOp) (a b : CE)
  | chain (o p : CmpOp) (a b c : CE)
  | and_ (a b : CE)
  | or_ (a b : CE)
  | not_ (a : CE)
  | ife (c a b : CE)
  | idx (a i : CE)
  | slc (a : CE) (lo hi : Option CE)
  | rev (a : CE)
  | call (f : Nat) (es : List CE)
  | call1 (f : Nat) (a : CE)
  | callk (f : Nat) (perm : List Nat) (es ks : List CE)
  | isi (a : CE) (t : Ty)
  | blt (f : Bt) (es : List CE)
  | vm (m : Vm) (a : CE) (es : List CE)
  | mm (m : Mm) (i : Nat) (es : List CE)
  | comp (own : List Nat) (t : Tg) (it : It) (c : Option CE) (e : CE)
inductive It where
  | over (e : CE)
  | range1 (e : CE)
  | range2 (a b : CE)
  | enum (e : CE)
  | zip (a b : CE)
inductive Tg where
  | name (i : Nat)
  | tup (ts : List Tg)
  | sub (i : Nat) (e : CE)
end
inductive CS where
  | asg (t : Tg) (e : CE)
  | par (ts : List Tg) (es : List CE)
  | aug (i : Nat) (o : Operator) (e : CE)
  | ex (e : CE)
  | ret (e : CE)
  | ife (c : CE) (a b : List CS)
  | while_ (c : CE) (b : List CS)
  | for_ (t : Tg) (it : It) (b : List CS)
  | pass
  | brk
  | cont
  | raise (x : Nat)
inductive Fl where
  | nx | bk | ct
  | rt (r : Rv)
/-- names stored together -/
def tgNames : List Tg → Option (List Nat)
  | [] => some []
  | .name i :: r => (tgNames r).map (i :: ·)
  | _ :: _ => none
structure FD where
  np : Nat
  nl : Nat
  body : List CS

/-! ### values -/
def lineLen (n : Nat) : Bool := decide (n ≤ sizeLine)
def mulOk (i j : Int) : Bool := decide (-(2 ^ 64) < i ∧ i < 2 ^ 64) || decide (-(2 ^ 64) < j ∧ j < 2 ^ 64) || decide (i.natAbs.log2 + j.natAbs.log2 < 100000000)
def repD (xs : List D) (k : Nat) : List D := (List.replicate k xs).flatten
def binD (o : Operator) (a b : D) : Option Rv :=
  match o, a, b with
  | .Add, .int i, .int j => some (.fz (.int (i + j)))
  | .Sub, .int i, .int j => some (.fz (.int (i - j)))
  | .Mult, .int i, .int j => if mulOk i j = true then some (.fz (.int (i * j))) else none
  | .FloorDiv, .int i, .int j => if 0 < j ∧ j.natAbs.log2 < 9000 then some (.fz (.int (i / j))) else none
  | .Mod, .int i, .int j => if 0 < j then some (.fz (.int (i % j))) else none
  | .Pow, .int i, .int j => if 0 ≤ j ∧ j ≤ 1000 ∧ i.natAbs < 2 ^ 64 then some (.fz (.int (i ^ j.toNat))) else none
  | .Add, .str i, .str j => if i.length + j.length ≤ sizeLine then some (.fz (.str (i ++ j))) else none
  | .Add, .tuple xs, .tuple ys => if xs.length + ys.length ≤ sizeLine then some (.fz (.tuple (xs ++ ys))) else none
  | .Add, .list xs, .list ys => if xs.length + ys.length ≤ sizeLine then some (.fr (.list (xs ++ ys))) else none
  | .Mult, .tuple xs, .int k => if k < 1000000 ∧ -1000000 < k ∧ xs.length * k.toNat ≤ sizeLine then some (.fz (.tuple (repD xs k.toNat))) else none
  | .Mult, .list xs, .int k => if k < 1000000 ∧ -1000000 < k ∧ xs.length * k.toNat ≤ sizeLine then some (.fr (.list (repD xs k.toNat))) else none
  | _, _, _ => none
def isScal : D → Bool
  | .none => true | .bool _ => true | .int _ => true | .str _ => true
  | _ => false
def twoS : D → D → Option (Str × Str)
  | .str x, .str y => some (x, y)
  | _, _ => none
def eqD (a b : D) : Option Bool :=
  match twoS a b with
  | some p => some (decide (p.1 = p.2))
  | none => if SeqAt.shaped a = true ∧ SeqAt.shaped b = true then some (PyData.eqv a b) else none
def cmpD (o : CmpOp) (a b : D) : Option Bool :=
  match o, a, b with
  | .Eq, a, b => eqD a b
  | .NotEq, a, b => (eqD a b).map (!·)
  | .Lt, .int i, .int j => some (decide (i < j))
  | .LtE, .int i, .int j => some (decide (i ≤ j))
  | .Gt, .int i, .int j => some (decide (j < i))
  | .GtE, .int i, .int j => some (decide (j ≤ i))
  | .Is, .none, .none => some true
  | .Is, .bool a, .bool b => some (decide (a = b))
  | .Is, _, .none => some false
  | .IsNot, .none, .none => some false
  | .IsNot, .bool a, .bool b => some (!decide (a = b))
  | .IsNot, _, .none => some true
  | .In, a, .list ys => if isScal a = true ∧ ys.all isScal = true then some (ys.any fun y => PyData.eqv y a) else none
  | .In, a, .tuple ys => if isScal a = true ∧ ys.all isScal = true then some (ys.any fun y => PyData.eqv y a) else none
  | .NotIn, a, .list ys => if isScal a = true ∧ ys.all isScal = true then some (!ys.any fun y => PyData.eqv y a) else none
  | .NotIn, a, .tuple ys => if isScal a = true ∧ ys.all isScal = true then some (!ys.any fun y => PyData.eqv y a) else none
  | _, _, _ => none
def truD : D → Option Bool
  | .bool b => some b
  | .list xs => some (!xs.isEmpty)
  | .tuple xs => some (!xs.isEmpty)
  | .int i => some (i != 0)
  | _ => none
def idxD (a i : D) : Option D :=
  match a, i with
  | .list xs, .int k => L2.atI xs k
  | .tuple xs, .int k => L2.atI xs k
  | .str z, .int k => if z.length ≤ sizeLine then (L2.atI z.cps.toList k).map fun c => .str ⟨#[c]⟩ else none
  | _, _ => none
def cutD {α : Type} (xs : List α) (lo hi : Option Int) : List α := (xs.drop (HT.sIx xs.length 0 lo)).take (HT.sIx xs.length xs.length hi - HT.sIx xs.length 0 lo)
def slcD (a : D) (lo hi : Option Int) : Option Rv :=
  match a with
  | .list xs => some (.fr (.list (cutD xs lo hi)))
  | .tuple xs => some (.fz (.tuple (cutD xs lo hi)))
  | .str z => if z.length ≤ sizeLine then some (.fz (.str ⟨(cutD z.cps.toList lo hi).toArray⟩)) else none
  | _ => none
def revD : D → Option Rv
  | .list xs => some (.fr (.list xs.reverse))
  | .tuple xs => some (.fz (.tuple xs.reverse))
  | _ => none
def isD : D → Ty → Bool
  | .int _, .int => true
  | .bool _, .int => true
  | .bool _, .bool => true
  | .str _, .str => true
  | .tuple _, .tuple => true
  | .list _, .list => true
  | _, _ => false
def intsD : List D → Option (List Int)
  | [] => some []
  | .int i :: r => (intsD r).map (i :: ·)
  | _ :: _ => none
def boolsD : List D → Option (List Bool)
  | [] => some []
  | .bool i :: r => (boolsD r).map (i :: ·)
  | _ :: _ => none
def minI : List Int → Option Int
  | [] => none
  | i :: r => some (r.foldl (fun a b => if b < a then b else a) i)
def maxI : List Int → Option Int
  | [] => none
  | i :: r => some (r.foldl (fun a b => if b > a then b else a) i)
def seqD : D → Option (List D)
  | .list xs => some xs
  | .tuple xs => some xs
  | _ => none
def insI (a : Int) : List Int → List Int
  | [] => [a]
  | b :: r => if a ≤ b then a :: b :: r else b :: insI a r
def sortI : List Int → List Int
  | [] => []
  | a :: r => insI a (sortI r)
def ok63 (i : Int) : Bool := decide (-(2 ^ 62) ≤ i ∧ i < 2 ^ 62)
def rangeD (a b : Int) : List D := (List.range (b - a).toNat).map fun (i : Nat) => .int (a + (i : Int))
def bltD (f : Bt) (ds : List D) : Option Rv :=
  match f, ds with
  | .len, [.list xs] => some (.fz (.int xs.length))
  | .len, [.tuple xs] => some (.fz (.int xs.length))
  | .len, [.str z] => if z.length ≤ sizeLine then some (.fz (.int z.length)) else none
  | .sum, [.list xs] => (intsD xs).map fun l => .fz (.int l.sum)
  | .sum, [.tuple xs] => (intsD xs).map fun l => .fz (.int l.sum)
  | .min, [.list xs] => (intsD xs).bind fun l => (minI l).map fun m => .fz (.int m)
  | .min, [.tuple xs] => (intsD xs).bind fun l => (minI l).map fun m => .fz (.int m)
  | .max, [.list xs] => (intsD xs).bind fun l => (maxI l).map fun m => .fz (.int m)
  | .max, [.tuple xs] => (intsD xs).bind fun l => (maxI l).map fun m => .fz (.int m)
  | .min2, [.int i, .int j] => some (.fz (.int (if j < i then j else i)))
  | .max2, [.int i, .int j] => some (.fz (.int (if j > i then j else i)))
  | .all, [.list xs] => (boolsD xs).map fun l => .fz (.bool (l.all id))
  | .any, [.list xs] => (boolsD xs).map fun l => .fz (.bool (l.any id))
  | .tuple, [.list xs] => some (.fz (.tuple xs))
  | .tuple, [.tuple xs] => some (.fz (.tuple xs))
  | .list, [.list xs] => some (.fr (.list xs))
  | .list, [.tuple xs] => some (.fr (.list xs))
  | .int, [.int i] => some (.fz (.int i))
  | .abs, [.int i] => some (.fz (.int (if i < 0 then -i else i)))
  | .repr, [d] => if d.showable = true ∧ d.shown.length ≤ sizeLine ∧ d.depth ≤ 60 then some (.fz (.str d.shown)) else none
  | .sorted, [.list xs] => (intsD xs).bind fun l => if l.length < 64 then some (.fr (.list ((sortI l).map .int))) else none
  | .listRange1, [.int b] => if ok63 b = true ∧ b ≤ 1000000 then some (.fr (.list (rangeD 0 b))) else none
  | .listRange2, [.int a, .int b] => if ok63 a = true ∧ ok63 b = true ∧ b - a ≤ 1000000 then some (.fr (.list (rangeD a b))) else none
  | .tupRange1, [.int b] => if ok63 b = true ∧ b ≤ 1000000 then some (.fz (.tuple (rangeD 0 b))) else none
  | .tupRange2, [.int a, .int b] => if ok63 a = true ∧ ok63 b = true ∧ b - a ≤ 1000000 then some (.fz (.tuple (rangeD a b))) else none
  | _, _ => none
def vmD (m : Vm) (a : D) (ds : List D) : Option Rv :=
  match m, a, ds with
  | .index, .list xs, [y] => if isScal y = true ∧ xs.all isScal = true then ((xs.findIdx? fun x => PyData.eqv x y).map fun (n : Nat) => .fz (.int (n : Int))) else none
  | .count, .list xs, [.int y] => (intsD xs).map fun l => .fz (.int (l.count y : Nat))
  | _, _, _ => none
/-- what is left at the place, what is handed back -/
def mmD (m : Mm) (a : D) (ds : List D) : Option (D × D) :=
  match m, a, ds with
  | .append, .list xs, [y] => if xs.length < sizeLine then some (.list (xs ++ [y]), .none) else none
  | .extend, .list xs, [.list ys] => if xs.length + ys.length ≤ sizeLine then some (.list (xs ++ ys), .none) else none
  | .pop, .list xs, [] => (xs[xs.length - 1]?).map fun y => (.list xs.dropLast, y)
  | .popAt, .list xs, [.int i] => if -(2 ^ 63) ≤ i ∧ i < 2 ^ 63 then ((L2.ixN xs.length i).bind fun k => (xs[k]?).map fun y => (.list (xs.eraseIdx k), y)) else none
  | .reverse, .list xs, [] => some (.list xs.reverse, .none)
  | _, _, _ => none

/-! ### slots -/
def look (e : Ev) (i : Nat) : Option D :=
  match e[i]? with
  | some (.val d) => some d
  | some (.mu _ d) => some d
  | some (.frz d) => some d
  | _ => none
def rdA (i : Nat) (e : Ev) : Rs Rv :=
  match e[i]? with
  | some (.val d) => .ok (.fz d) e
  | some (.mu b d) => .ok (.fz d) (e.set i (if b = true then .frz d else .val d))
  | some (.frz d) => .ok (.fz d) e
  | _ => .er
def Op.get (o : Op) (e : Ev) : Option D :=
  match o with
  | .pl i => look e i
  | .vl d => some d
def opd (a : CE) (f : Ev → Rs Rv) (e : Ev) : Rs Op :=
  match a with
  | .var i => (match look e i with | some _ => .ok (.pl i) e | none => .er)
  | _ => (f e).bind fun r e => .ok (.vl r.d) e
def two (x y : Op) (e : Ev) (f : D → D → Option Rv) : Rs Rv :=
  match x.get e, y.get e with
  | some a, some b => (match f a b with | some r => .ok r e | none => .er)
  | _, _ => .er
def one (x : Op) (e : Ev) (f : D → Option Rv) : Rs Rv :=
  match x.get e with
  | some a => (match f a with | some r => .ok r e | none => .er)
  | _ => .er
def gets : List Op → Ev → Option (List D)
  | [], _ => some []
  | x :: r, e => match x.get e, gets r e with
    | some d, some ds => some (d :: ds)
    | _, _ => none
def many (xs : List Op) (e : Ev) (f : List D → Option Rv) : Rs Rv :=
  match gets xs e with
  | some ds => (match f ds with | some r => .ok r e | none => .er)
  | none => .er
def tstR (r : Rs Rv) : Rs Bool := r.bind fun r e => match r.d with | .bool b => .ok b e | _ => .er
def tst (a : CE) (f : Ev → Rs Rv) (e : Ev) : Rs Bool :=
  match a with
  | .and_ _ _ => tstR (f e)
  | .or_ _ _ => tstR (f e)
  | .not_ _ => tstR (f e)
  | .cmp _ _ _ => tstR (f e)
  | .chain _ _ _ _ _ => tstR (f e)
  | a => (opd a f e).bind fun o e => match o.get e with
    | some d => (match truD d with | some b => .ok b e | none => .er)
    | none => .er
/-- an argument: a place that is lent, or a value -/
def argd (a : CE) (f : Ev → Rs Rv) (e : Ev) : Rs Op :=
  match a with
  | .var i => (match e[i]? with
    | some (.mu _ _) => .ok (.pl i) e
    | some (.val d) => .ok (.vl d) e
    | some (.frz d) => .ok (.vl d) e
    | _ => .er)
  | _ => (f e).bind fun r e => .ok (.vl r.d) e
def argS (o : Op) (e : Ev) : Option Sl :=
  match o with
  | .vl d => some (.val d)
  | .pl i => match e[i]? with
    | some (.mu _ d) => some (.mu true d)
    | some (.val d) => some (.val d)
    | some (.frz d) => some (.val d)
    | _ => none
def argsS : List Op → Ev → Option (List Sl)
  | [], _ => some []
  | x :: r, e => match argS x e, argsS r e with
    | some s, some ss => some (s :: ss)
    | _, _ => none
/-- the places that are lent -/
def lends : List Op → Ev → List Nat
  | [], _ => []
  | .pl i :: r, e => (match e[i]? with | some (.mu _ _) => i :: lends r e | _ => lends r e)
  | _ :: r, e => lends r e
/-- what a call leaves in a lent place -/
def lentAt : List Op → List Sl → Nat → Option Sl
  | .pl i :: r, s :: ss, j => if i = j then some s else lentAt r ss j
  | _ :: r, _ :: ss, j => lentAt r ss j
  | _, _, _ => none
def backS (os : List Op) (o : List Sl) (j : Nat) (s : Sl) : Sl :=
  match s with
  | .mu b d => (match lentAt os o j with
    | some (.mu _ d') => .mu b d'
    | some (.frz d') => if b = true then .frz d' else .val d'
    | _ => .mu b d)
  | s => s
/-- the lent places behind the call -/
def backG (os : List Op) (o : List Sl) : Nat → Ev → Ev
  | _, [] => []
  | j, s :: r => backS os o j s :: backG os o (j + 1) r
def back (os : List Op) (o : List Sl) (e : Ev) : Ev := backG os o 0 e
def permS (perm : List Nat) (ss : List Sl) : Option (List Sl) := perm.mapM fun i => ss[i]?
def callR (cf : Nat → List Sl → CR) (f : Nat) (perm : List Nat) (os : List Op) (e : Ev) : Rs Rv :=
  match argsS os e with
  | none => .er
  | some ss => if (lends os e).Nodup then
      (if perm = [] then (match cf f ss with
        | .ret r o => .ok r (back os o e)
        | .exc x o => .ex x (back os o e)
        | .er => .er)
      else (if lends os e = [] then (match permS perm ss with
        | some ps => (match cf f ps with
          | .ret r _ => .ok r e
          | .exc x _ => .ex x e
          | .er => .er)
        | none => .er) else .er))
    else .er
def store (i : Nat) (s : Sl) (e : Ev) : Rs Unit :=
  match e[i]? with
  | some (.mu true _) => .er
  | some (.frz _) => .er
  | some _ => .ok () (e.set i s)
  | none => .er
def Rv.sl : Rv → Sl
  | .fz d => .val d
  | .fr d => .mu false d
/-- x[k] = v at a place -/
def putD (a k v : D) : Option D :=
  match a, k with
  | .list xs, .int i => (L2.ixN xs.length i).map fun j => .list (xs.set j v)
  | _, _ => none
def setAt (i : Nat) (f : D → Option D) (e : Ev) : Rs Unit :=
  match e[i]? with
  | some (.mu b d) => (match f d with | some d' => .ok () (e.set i (.mu b d')) | none => .er)
  | _ => .er
def subE (i : Nat) (f : Ev → Rs Op) (r : Rv) (e : Ev) : Rs Unit :=
  match e[i]? with
  | some (.mu _ (.list _)) => (f e).bind fun x e => match x.get e with | some k => setAt i (fun d => putD d k r.d) e | none => .er
  | _ => .er
def mmAt (m : Mm) (i : Nat) (ds : List D) (e : Ev) : Rs Rv :=
  match e[i]? with
  | some (.mu b d) => (match mmD m d ds with | some (d', r) => .ok (.fz r) (e.set i (.mu b d')) | none => .er)
  | _ => .er
/-- the own slots of a comprehension's block -/
def wipeE (e : Ev) : List Nat → Option Ev
  | [] => some e
  | i :: r => (wipeE e r).bind fun e' => match e'[i]? with
    | some .un => some e'
    | some (.val _) => some (e'.set i .un)
    | _ => none
def unwipe (e0 e : Ev) : List Nat → Ev
  | [] => e
  | i :: r => (unwipe e0 e r).set i (e0[i]?.getD .un)
def noEx {α : Type} : Rs α → Rs α
  | .ok a e => .ok a e
  | _ => .er
def wipeK {α : Type} (own : List Nat) (e : Ev) (f : Ev → Rs α) : Rs α :=
  match wipeE e own with
  | some e => f e
  | none => .er
def compL (own : List Nat) (asg : D → Ev → Rs Unit) (c : Ev → Rs Bool) (f : Ev → Rs Rv) : List D → List D → Ev → Rs (List D)
  | [], acc, e => .ok acc e
  | x :: r, acc, e => (asg x e).bind fun _ e => (c e).bind fun b e =>
      if b = true then (f e).bind fun v e => if acc.length < sizeLine then wipeK own e fun e => compL own asg c f r (acc ++ [v.d]) e else .er
      else wipeK own e fun e => compL own asg c f r acc e
def itD (a : D) : Option (List D) := seqD a
def zipD (xs ys : List D) : List D := (xs.zip ys).map fun p => .tuple [p.1, p.2]
def enumD (xs : List D) : List D := (xs.zipIdx).map fun p => .tuple [.int (p.2 : Int), p.1]
def oneI (x : Op) (e : Ev) (f : D → Option (List D)) : Rs (List D) :=
  match x.get e with
  | some a => (match f a with | some r => .ok r e | none => .er)
  | none => .er

section
variable (cf : Nat → List Sl → CR)
mutual
def evE : CE → Ev → Rs Rv
  | .k d, e => .ok (.fz d) e
  | .edict, e => .ok (.fz (.dict [])) e
  | .glob d, e => .ok (.fz d) e
  | .var i, e => rdA i e
  | .tup es, e => (evL es e).bind fun ds e => if ds.length ≤ sizeLine then .ok (.fz (.tuple ds)) e else .er
  | .lst es, e => (evL es e).bind fun ds e => if ds.length ≤ sizeLine then .ok (.fr (.list ds)) e else .er
  | .bin o a b, e => (opd a (evE a) e).bind fun x e => (opd b (evE b) e).bind fun y e => two x y e (binD o)
  | .neg a, e => (opd a (evE a) e).bind fun x e => one x e fun d => match d with | .int i => some (.fz (.int (-i))) | _ => none
  | .cmp o a b, e => (opd a (evE a) e).bind fun x e => (opd b (evE b) e).bind fun y e => two x y e fun p q => (cmpD o p q).map fun b => .fz (.bool b)
  | .chain o p a b c, e => (opd a (evE a) e).bind fun x e => (opd b (evE b) e).bind fun y e => (tstR (two x y e fun p q => (cmpD o p q).map fun b => .fz (.bool b))).bind fun t e =>
      if t = true then (opd c (evE c) e).bind fun z e => two y z e fun u v => (cmpD p u v).map fun b => .fz (.bool b) else .ok (.fz (.bool false)) e
  | .and_ a b, e => (tstR (evE a e)).bind fun t e => if t = true then evE b e else .ok (.fz (.bool false)) e
  | .or_ a b, e => (tstR (evE a e)).bind fun t e => if t = true then .ok (.fz (.bool true)) e else evE b e
  | .not_ a, e => (tstR (evE a e)).bind fun t e => .ok (.fz (.bool (!t))) e
  | .ife c a b, e => (tst c (evE c) e).bind fun t e => if t = true then evE a e else evE b e
  | .idx a i, e => (opd a (evE a) e).bind fun x e => (opd i (evE i) e).bind fun y e => two x y e fun p q => (idxD p q).map .fz
  | .slc a lo hi, e => (opd a (evE a) e).bind fun x e => (evOpt lo e).bind fun l e => (evOpt hi e).bind fun h e => one x e fun d => slcD d l h
  | .rev a, e => (opd a (evE a) e).bind fun x e => one x e revD
  | .call f es, e => (evA es e).bind fun os e => callR cf f [] os e
  | .call1 f a, e => (evE a e).bind fun r e => match r with
    | .fr d => (match cf f [.mu true d] with
      | .ret r _ => .ok r e
      | .exc x _ => .ex x e
      | .er => .er)
    | .fz _ => .er
  | .callk f perm es ks, e => (evA es e).bind fun o1 e => (evA ks e).bind fun o2 e => if o1.length = es.length ∧ o2.length = ks.length then callR cf f perm (o1 ++ o2) e else .er
  | .isi a t, e => (opd a (evE a) e).bind fun x e => one x e fun d => some (.fz (.bool (isD d t)))
  | .blt f es, e => (evO es e).bind fun os e => many os e (bltD f)
  | .vm m a es, e => (opd a (evE a) e).bind fun x e => match x.get e with
    | some (.list _) => (evO es e).bind fun os e => many (x :: os) e fun ds => match ds with | d :: r => vmD m d r | [] => none
    | _ => .er
  | .mm m i es, e => match e[i]? with
    | some (.mu _ (.list _)) => (evL es e).bind fun ds e => mmAt m i ds e
    | _ => .er
  | .comp own t it c f, e => (evI it e).bind fun items e => wipeK own e fun e1 =>
      (noEx (compL own (fun d e => evAsg t (.fz d) e) (fun e => match c with | some q => tst q (evE q) e | none => .ok true e) (evE f) items [] e1)).bind fun acc e2 => .ok (.fr (.list acc)) (unwipe e e2 own)
/-- values, known to nobody else -/
def evL : List CE → Ev → Rs (List D)
  | [], e => .ok [] e
  | a :: r, e => (evE a e).bind fun v e => (evL r e).bind fun ds e => .ok (v.d :: ds) e
def evR : List CE → Ev → Rs (List Rv)
  | [], e => .ok [] e
  | a :: r, e => (evE a e).bind fun v e => (evR r e).bind fun ds e => .ok (v :: ds) e
def evO : List CE → Ev → Rs (List Op)
  | [], e => .ok [] e
  | a :: r, e => (opd a (evE a) e).bind fun o e => (evO r e).bind fun os e => .ok (o :: os) e
def evA : List CE → Ev → Rs (List Op)
  | [], e => .ok [] e
  | a :: r, e => (argd a (evE a) e).bind fun o e => (evA r e).bind fun os e => .ok (o :: os) e
def evOpt : Option CE → Ev → Rs (Option Int)
  | none, e => .ok none e
  | some a, e => (opd a (evE a) e).bind fun x e => match x.get e with | some (.int i) => .ok (some i) e | _ => .er
def evI : It → Ev → Rs (List D)
  | .over a, e => (evE a e).bind fun r e => match itD r.d with | some l => .ok l e | none => .er
  | .range1 a, e => (opd a (evE a) e).bind fun x e => oneI x e fun d => match d with | .int b => if ok63 b = true then some (rangeD 0 b) else none | _ => none
  | .range2 a b, e => (opd a (evE a) e).bind fun x e => (opd b (evE b) e).bind fun y e => match x.get e, y.get e with
    | some (.int i), some (.int j) => if ok63 i = true ∧ ok63 j = true then .ok (rangeD i j) e else .er
    | _, _ => .er
  | .enum a, e => (evE a e).bind fun r e => match itD r.d with | some l => .ok (enumD l) e | none => .er
  | .zip a b, e => (evE a e).bind fun r e => (evE b e).bind fun s e => match itD r.d, itD s.d with | some l, some m => .ok (zipD l m) e | _, _ => .er
def evAsg : Tg → Rv → Ev → Rs Unit
  | .name i, r, e => store i r.sl e
  | .tup ts, r, e => match r.d with
    | .tuple ds => if ds.length = ts.length then evAsgs ts (ds.map .fz) e else .er
    | .list ds => if ds.length = ts.length then evAsgs ts (ds.map .fz) e else .er
    | _ => .er
  | .sub i a, r, e => subE i (opd a (evE a)) r e
def evAsgs : List Tg → List Rv → Ev → Rs Unit
  | [], [], e => .ok () e
  | t :: ts, r :: rs, e => (evAsg t r e).bind fun _ e => evAsgs ts rs e
  | _, _, e => .er
end
def forL (asg : D → Ev → Rs Unit) (body : Ev → Rs Fl) : List D → Ev → Rs Fl
  | [], e => .ok .nx e
  | x :: r, e => (asg x e).bind fun _ e => (body e).bind fun f e => match f with
    | .nx => forL asg body r e
    | .ct => forL asg body r e
    | .bk => .ok .nx e
    | .rt v => .ok (.rt v) e
def whileL (c : Ev → Rs Bool) (body : Ev → Rs Fl) : Nat → Ev → Rs Fl
  | 0, _ => .er
  | n + 1, e => (c e).bind fun b e => if b = true then (body e).bind fun f e => match f with
    | .nx => whileL c body n e
    | .ct => whileL c body n e
    | .bk => .ok .nx e
    | .rt v => .ok (.rt v) e
    else .ok .nx e
variable (fuel : Nat)
def evRet (a : CE) (f : Ev → Rs Rv) (e : Ev) : Rs Rv :=
  match a with
  | .var i => (match e[i]? with
    | some (.mu false d) => .ok (.fr d) (e.set i .un)
    | _ => f e)
  | _ => f e
mutual
def evS : CS → Ev → Rs Fl
  | .asg t a, e => (evE cf a e).bind fun r e => (evAsg cf t r e).bind fun _ e => .ok .nx e
  | .par ts es, e => (evR cf es e).bind fun rs e => if rs.length = ts.length ∧ ts.length ≤ 1000 then (evAsgs cf ts rs e).bind fun _ e => .ok .nx e else .er
  | .aug i o a, e => match look e i with
    | some (.int n) => (opd a (evE cf a) e).bind fun y e => match y.get e with
      | some (.int m) => (match o with
        | .Add => (store i (.val (.int (n + m))) e).bind fun _ e => .ok .nx e
        | .Sub => (store i (.val (.int (n - m))) e).bind fun _ e => .ok .nx e
        | _ => .er)
      | _ => .er
    | _ => .er
  | .ex a, e => (evE cf a e).bind fun _ e => .ok .nx e
  | .ret a, e => (evRet a (evE cf a) e).bind fun r e => .ok (.rt r) e
  | .ife c a b, e => (tst c (evE cf c) e).bind fun t e => if t = true then evSs a e else evSs b e
  | .while_ c b, e => whileL (fun e => tst c (evE cf c) e) (fun e => evSs b e) fuel e
  | .for_ t it b, e => (evI cf it e).bind fun items e => forL (fun d e => evAsg cf t (.fz d) e) (fun e => evSs b e) items e
  | .pass, e => .ok .nx e
  | .brk, e => .ok .bk e
  | .cont, e => .ok .ct e
  | .raise x, e => .ex x e
def evSs : List CS → Ev → Rs Fl
  | [], e => .ok .nx e
  | s :: r, e => (evS s e).bind fun f e => match f with
    | .nx => evSs r e
    | f => .ok f e
end
end
def outOk : List Sl → List Sl → Bool
  | .mu _ _ :: r, .mu true _ :: s => outOk r s
  | .mu _ _ :: r, .frz _ :: s => outOk r s
  | .mu _ _ :: _, _ => false
  | _ :: r, _ :: s => outOk r s
  | [], _ => true
  | _ :: _, [] => false
def runD (cf : Nat → List Sl → CR) (fuel : Nat) (fd : FD) (as : List Sl) : CR :=
  if as.length = fd.np then
    match evSs cf fuel fd.body (as ++ List.replicate (fd.nl - fd.np) .un) with
    | .ok (.rt r) e => if (outOk as e && decide (as.length ≤ e.length)) = true then .ret r (e.take fd.np) else .er
    | .ok .nx e => if (outOk as e && decide (as.length ≤ e.length)) = true then .ret (.fz .none) (e.take fd.np) else .er
    | .ex x e => if (outOk as e && decide (as.length ≤ e.length)) = true then .exc x (e.take fd.np) else .er
    | _ => .er
  else .er
def callN (ft : Nat → Option FD) (fuel : Nat) : Nat → Nat → List Sl → CR
  | 0, _, _ => .er
  | n + 1, f, as => match ft f with
    | some fd => runD (callN ft fuel n) fuel fd as
    | none => .er
end Cr
set_option Elab.async false
set_option linter.all false
set_option maxRecDepth 100000
/-! The relation between core states and the abstract heap. -/
namespace Cr
open PySem PySem.Spec PyProof.Rows L2
open Classical in
/-- the heap without the hidden addresses -/
noncomputable def hid (Z : Addr → Prop) (H : Hp) : Hp := fun a => if Z a then none else H a
theorem hid_some {Z : Addr → Prop} {H : Hp} {a : Addr} {o : HO} : hid Z H a = some o ↔ ¬ Z a ∧ H a = some o := by
  unfold hid
  by_cases h : Z a
  · simp [h]
  · simp [h]
def Sub (H H' : Hp) : Prop := ∀ a o, H a = some o → H' a = some o
theorem Sub.refl {H : Hp} : Sub H H := fun _ _ e => e
theorem Sub.trans {H H' H'' : Hp} (h : Sub H H') (k : Sub H' H'') : Sub H H'' := fun a o e => k a o (h a o e)
theorem hid_sub {Z : Addr → Prop} {H : Hp} : Sub (hid Z H) H := fun _ _ e => (hid_some.mp e).2
theorem Sub.rd {H H' : Hp} (h : Sub H H') {a : Addr} {u : HO} (r : Rd H a u) : Rd H' a u := by
  rcases r with r | ⟨o, r⟩
  · exact .inl (h _ _ r)
  · exact .inr ⟨o, h _ _ r⟩
theorem Sub.sqL {K : PySem.W.Frag} {H H' : Hp} (h : Sub H H') {a : Addr} {xs : List V} (r : SqL K H a xs) : SqL K H' a xs := by
  rcases r with r | r
  · exact .inl (h.rd r)
  · exact .inr r
theorem Sub.sqT {K : PySem.W.Frag} {H H' : Hp} (h : Sub H H') {a : Addr} {xs : List V} (r : SqT K H a xs) : SqT K H' a xs := by
  rcases r with r | r
  · exact .inl (h.rd r)
  · exact .inr r
mutual
/-- a value reads as data -/
inductive Dv (K : PySem.W.Frag) (H : Hp) : V → D → Prop
  | non : Dv K H .non .none
  | bl (b : Bool) : Dv K H (.bl b) (.bool b)
  | int (i : Int) : Dv K H (.int i) (.int i)
  | str (x : Str) : Dv K H (.str x) (.str x)
  | lst {a : Addr} {xs : List V} {ds : List D} : Rd H a (.lst xs) → DvAll K H xs ds → Dv K H (.ref a) (.list ds)
  | tup {a : Addr} {xs : List V} {ds : List D} : SqT K H a xs → DvAll K H xs ds → Dv K H (.ref a) (.tuple ds)
  | dct {a : Addr} : H a = some (.dK []) → Dv K H (.ref a) (.dict [])
inductive DvAll (K : PySem.W.Frag) (H : Hp) : List V → List D → Prop
  | nil : DvAll K H [] []
  | cons {v : V} {vs : List V} {d : D} {ds : List D} : Dv K H v d → DvAll K H vs ds → DvAll K H (v :: vs) (d :: ds)
end
section
variable {K : PySem.W.Frag} {H H' : Hp}
mutual
theorem Dv.mono (h : Sub H H') : ∀ (d : D) (v : V), Dv K H v d → Dv K H' v d
  | .none, _, q => by cases q; exact .non
  | .bool _, _, q => by cases q; exact .bl _
  | .int _, _, q => by cases q; exact .int _
  | .str _, _, q => by cases q; exact .str _
  | .list ds, _, q => by
    cases q with
    | lst s r => exact .lst (h.rd s) (DvAll.mono h ds _ r)
  | .tuple ds, _, q => by
    cases q with
    | tup s r => exact .tup (h.sqT s) (DvAll.mono h ds _ r)
  | .dict _, _, q => by
    cases q with
    | dct s => exact .dct (h _ _ s)
theorem DvAll.mono (h : Sub H H') : ∀ (ds : List D) (vs : List V), DvAll K H vs ds → DvAll K H' vs ds
  | [], _, q => by cases q; exact .nil
  | d :: ds, _, q => by
    cases q with
    | cons a b => exact .cons (Dv.mono h d _ a) (DvAll.mono h ds _ b)
end
theorem DvAll.length : ∀ {vs : List V} {ds : List D}, DvAll K H vs ds → vs.length = ds.length
  | _, _, .nil => rfl
  | _, _, .cons _ r => congrArg Nat.succ (DvAll.length r)
theorem DvAll.append : ∀ {vs ws : List V} {ds es : List D}, DvAll K H vs ds → DvAll K H ws es → DvAll K H (vs ++ ws) (ds ++ es)
  | _, _, _, _, .nil, s => s
  | _, _, _, _, .cons a r, s => .cons a (DvAll.append r s)
theorem DvAll.get : ∀ {vs : List V} {ds : List D} {i : Nat} {v : V} {d : D}, DvAll K H vs ds → vs[i]? = some v → ds[i]? = some d → Dv K H v d
  | _, _, _, _, _, .nil, e, _ => by simp at e
  | _, _, 0, _, _, .cons a r, e, f => by
    simp at e f
    subst e f
    exact a
  | _, _, i + 1, _, _, .cons a r, e, f => DvAll.get (i := i) r (by simpa using e) (by simpa using f)
theorem DvAll.at {vs : List V} {ds : List D} {i : Nat} {d : D} (r : DvAll K H vs ds) (f : ds[i]? = some d) : ∃ v, vs[i]? = some v ∧ Dv K H v d := by
  have h : i < vs.length := by rw [r.length]; exact (List.getElem?_eq_some_iff.mp f).1
  exact ⟨vs[i], List.getElem?_eq_getElem h, r.get (List.getElem?_eq_getElem h) f⟩
theorem DvAll.take : ∀ {vs : List V} {ds : List D} (n : Nat), DvAll K H vs ds → DvAll K H (vs.take n) (ds.take n)
  | _, _, 0, _ => by simpa using DvAll.nil
  | _, _, _ + 1, .nil => .nil
  | _, _, n + 1, .cons a r => .cons a (DvAll.take n r)
theorem DvAll.drop : ∀ {vs : List V} {ds : List D} (n : Nat), DvAll K H vs ds → DvAll K H (vs.drop n) (ds.drop n)
  | _, _, 0, r => by simpa using r
  | _, _, _ + 1, .nil => .nil
  | _, _, n + 1, .cons a r => DvAll.drop n r
theorem DvAll.set : ∀ {vs : List V} {ds : List D} (n : Nat) {v : V} {d : D}, DvAll K H vs ds → Dv K H v d → DvAll K H (vs.set n v) (ds.set n d)
  | _, _, _, _, _, .nil, _ => .nil
  | _, _, 0, _, _, .cons a r, q => .cons q r
  | _, _, n + 1, _, _, .cons a r, q => .cons a (DvAll.set n r q)
theorem DvAll.reverse {vs : List V} {ds : List D} (r : DvAll K H vs ds) : DvAll K H vs.reverse ds.reverse := by
  induction ds generalizing vs with
  | nil => cases r; exact .nil
  | cons d ds ih =>
    cases r with
    | cons a r =>
      rw [List.reverse_cons, List.reverse_cons]
      exact (ih r).append (.cons a .nil)
theorem DvAll.eraseIdx : ∀ {vs : List V} {ds : List D} (n : Nat), DvAll K H vs ds → DvAll K H (vs.eraseIdx n) (ds.eraseIdx n)
  | _, _, _, .nil => by simpa using DvAll.nil
  | _, _, 0, .cons a r => r
  | _, _, n + 1, .cons a r => .cons a (DvAll.eraseIdx n r)
theorem DvAll.dropLast : ∀ {vs : List V} {ds : List D}, DvAll K H vs ds → DvAll K H vs.dropLast ds.dropLast
  | _, _, .nil => .nil
  | _, _, .cons a .nil => .nil
  | _, _, .cons a (.cons b r) => .cons a (DvAll.dropLast (.cons b r))
theorem DvAll.rep {vs : List V} {ds : List D} (r : DvAll K H vs ds) : ∀ k : Nat, DvAll K H (List.replicate k vs).flatten (repD ds k)
  | 0 => .nil
  | k + 1 => r.append (DvAll.rep r k)
theorem DvAll.ints : ∀ {ds : List D} {l : List Int} {vs : List V}, DvAll K H vs ds → intsD ds = some l → vs = l.map V.int
  | [], l, _, .nil, e => by
    have e' : some ([] : List Int) = some l := e
    cases e'
    rfl
  | .int i :: r, l, _, .cons a b, e => by
    have e' : (intsD r).map (i :: ·) = some l := e
    cases q : intsD r with
    | none => rw [q] at e'; cases e'
    | some m =>
      rw [q] at e'
      cases e'
      cases a
      rw [DvAll.ints b q]
      rfl
  | .none :: r, l, _, _, e => by cases e
  | .bool _ :: r, l, _, _, e => by cases e
  | .str _ :: r, l, _, _, e => by cases e
  | .list _ :: r, l, _, _, e => by cases e
  | .tuple _ :: r, l, _, _, e => by cases e
  | .dict _ :: r, l, _, _, e => by cases e
theorem DvAll.bools : ∀ {ds : List D} {l : List Bool} {vs : List V}, DvAll K H vs ds → boolsD ds = some l → vs = l.map V.bl
  | [], l, _, .nil, e => by
    have e' : some ([] : List Bool) = some l := e
    cases e'
    rfl
  | .bool i :: r, l, _, .cons a b, e => by
    have e' : (boolsD r).map (i :: ·) = some l := e
    cases q : boolsD r with
    | none => rw [q] at e'; cases e'
    | some m =>
      rw [q] at e'
      cases e'
      cases a
      rw [DvAll.bools b q]
      rfl
  | .none :: r, l, _, _, e => by cases e
  | .int _ :: r, l, _, _, e => by cases e
  | .str _ :: r, l, _, _, e => by cases e
  | .list _ :: r, l, _, _, e => by cases e
  | .tuple _ :: r, l, _, _, e => by cases e
  | .dict _ :: r, l, _, _, e => by cases e
end

/-! ### frames -/
/-- what is fixed while a frame runs: the heap at its entry, what was hidden then, the addresses that are lent -/
structure Fr where
  H0 : Hp
  Z0 : Addr → Prop
  la : Nat → Option Addr
/-- a place's content -/
def Cell (K : PySem.W.Frag) (Hh H : Hp) (a : Addr) : D → Prop
  | .list ds => ∃ xs, H a = some (.lst xs) ∧ DvAll K Hh xs ds
  | _ => False
def SlR (K : PySem.W.Frag) (F : Fr) (Z : Addr → Prop) (H : Hp) (i : Nat) (o : Option (Option V)) : Sl → Prop
  | .un => True
  | .val d => ∃ v, o = some (some v) ∧ Dv K (hid Z H) v d
  | .mu b d => ∃ a, o = some (some (V.ref a)) ∧ Z a ∧ Cell K (hid Z H) H a d ∧ (b = true → F.la i = some a) ∧ (b = false → F.H0 a = none)
  | .frz d => ∃ a, o = some (some (V.ref a)) ∧ F.la i = some a ∧ Dv K (hid Z H) (V.ref a) d
/-- a slot's own list -/
def MutAt (e : Ev) (σ : L2.St) (a : Addr) : Prop := ∃ (i : Nat) (b : Bool) (d : D), e[i]? = some (Sl.mu b d) ∧ σ[i]? = some (some (V.ref a))
structure Rel (K : PySem.W.Frag) (F : Fr) (e : Ev) (σ : L2.St) (H : Hp) (Z : Addr → Prop) : Prop where
  len : e.length = σ.length
  sl : ∀ (i : Nat) (s : Sl), e[i]? = some s → SlR K F Z H i (σ[i]?) s
  ds : ∀ (i j : Nat) (b : Bool) (d : D) (b' : Bool) (d' : D) (a : Addr), e[i]? = some (Sl.mu b d) → e[j]? = some (Sl.mu b' d') → σ[i]? = some (some (V.ref a)) → σ[j]? = some (some (V.ref a)) → i = j
  zs : ∀ a, Z a → H a ≠ none
  kz : ∀ a, F.Z0 a → (∀ i, F.la i ≠ some a) → Z a
  zn : ∀ a, Z a → F.Z0 a ∨ F.H0 a = none
  fr : ∀ a o, F.H0 a = some o → (∀ i, F.la i ≠ some a) → H a = some o
  lz : ∀ i a, F.la i = some a → F.H0 a ≠ none
  th : ∀ a, F.H0 a ≠ none → H a ≠ none
  z0 : ∀ a, F.Z0 a → F.H0 a ≠ none
/-- between two states of a frame: what no slot owns stands as it was -/
structure Kp (e : Ev) (σ : L2.St) (H : Hp) (Z : Addr → Prop) (e' : Ev) (H' : Hp) (Z' : Addr → Prop) : Prop where
  keep : ∀ a o, H a = some o → ¬ MutAt e σ a → H' a = some o ∧ (Z' a ↔ Z a) ∧ ¬ MutAt e' σ a
  th : ∀ a, H a ≠ none → H' a ≠ none
/-- .. of statements: what is not hidden stands as it was -/
structure Le (H : Hp) (Z : Addr → Prop) (H' : Hp) (Z' : Addr → Prop) : Prop where
  sub : Sub (hid Z H) (hid Z' H')
  th : ∀ a, H a ≠ none → H' a ≠ none
section
variable {K : PySem.W.Frag} {F : Fr} {e e' e'' : Ev} {σ : L2.St} {H H' H'' : Hp} {Z Z' Z'' : Addr → Prop}
theorem Rel.mutZ (R : Rel K F e σ H Z) {a : Addr} (m : MutAt e σ a) : Z a := by
  obtain ⟨i, b, d, h1, h2⟩ := m
  obtain ⟨a', e1, z, _⟩ := R.sl i _ h1
  rw [h2] at e1
  cases e1
  exact z
theorem Kp.refl : Kp e σ H Z e H Z := ⟨fun _ _ h m => ⟨h, Iff.rfl, m⟩, fun _ h => h⟩
theorem Kp.trans (h : Kp e σ H Z e' H' Z') (k : Kp e' σ H' Z' e'' H'' Z'') : Kp e σ H Z e'' H'' Z'' := ⟨fun a o q m => by
  obtain ⟨q1, z1, m1⟩ := h.keep a o q m
  obtain ⟨q2, z2, m2⟩ := k.keep a o q1 m1
  exact ⟨q2, z2.trans z1, m2⟩, fun a q => k.th a (h.th a q)⟩
theorem Kp.le (R : Rel K F e σ H Z) (h : Kp e σ H Z e' H' Z') : Le H Z H' Z' := ⟨fun a o q => by
  obtain ⟨z, q⟩ := hid_some.mp q
  obtain ⟨q1, z1, _⟩ := h.keep a o q fun m => z (R.mutZ m)
  exact hid_some.mpr ⟨fun w => z (z1.mp w), q1⟩, h.th⟩
theorem Le.refl : Le H Z H Z := ⟨Sub.refl, fun _ h => h⟩
theorem Le.trans (h : Le H Z H' Z') (k : Le H' Z' H'' Z'') : Le H Z H'' Z'' := ⟨h.sub.trans k.sub, fun a q => k.th a (h.th a q)⟩
end
/-- a value that is handed on -/
def RvR (K : PySem.W.Frag) (F : Fr) (e : Ev) (σ : L2.St) (H : Hp) (Z : Addr → Prop) (v : V) : Rv → Prop
  | .fz d => Dv K (hid Z H) v d
  | .fr d => ∃ a, v = V.ref a ∧ Z a ∧ Cell K (hid Z H) H a d ∧ ¬ MutAt e σ a ∧ F.H0 a = none
def OpRel (K : PySem.W.Frag) (σ : L2.St) (H : Hp) (Z : Addr → Prop) (v : V) : Op → Prop
  | .pl i => σ[i]? = some (some v)
  | .vl d => Dv K (hid Z H) v d
/-- an operand's content, when it is looked at -/
def Ct (K : PySem.W.Frag) (Z : Addr → Prop) (H : Hp) (v : V) (d : D) : Prop := Dv K (hid Z H) v d ∨ ∃ a, v = V.ref a ∧ Cell K (hid Z H) H a d
section
variable {K : PySem.W.Frag} {F : Fr} {e e' e'' : Ev} {σ : L2.St} {H H' H'' : Hp} {Z Z' Z'' : Addr → Prop} {v : V} {d : D}
theorem Dv.le (l : Le H Z H' Z') (q : Dv K (hid Z H) v d) : Dv K (hid Z' H') v d := Dv.mono l.sub _ _ q
theorem DvAll.le {vs : List V} {ds : List D} (l : Le H Z H' Z') (q : DvAll K (hid Z H) vs ds) : DvAll K (hid Z' H') vs ds := DvAll.mono l.sub _ _ q
theorem Cell.le {a : Addr} (l : Sub (hid Z H) (hid Z' H')) (e : H' a = H a) (q : Cell K (hid Z H) H a d) : Cell K (hid Z' H') H' a d := by
  cases d with
  | list ds =>
    obtain ⟨xs, h, r⟩ := q
    exact ⟨xs, e.trans h, DvAll.mono l _ _ r⟩
  | _ => exact q
theorem Cell.some {a : Addr} (q : Cell K (hid Z H) H a d) : ∃ o, H a = some o := by
  cases d with
  | list ds =>
    obtain ⟨xs, h, r⟩ := q
    exact ⟨_, h⟩
  | _ => exact False.elim q
theorem Ct.full (q : Ct K Z H v d) : Dv K H v d := by
  rcases q with q | ⟨a, rfl, q⟩
  · exact Dv.mono hid_sub _ _ q
  · cases d with
    | list ds =>
      obtain ⟨xs, h, r⟩ := q
      exact .lst (Rd.of h) (DvAll.mono hid_sub _ _ r)
    | _ => exact False.elim q
theorem RvR.keep {r : Rv} (R : Rel K F e σ H Z) (k : Kp e σ H Z e' H' Z') (q : RvR K F e σ H Z v r) : RvR K F e' σ H' Z' v r := by
  cases r with
  | fz d => exact Dv.le (k.le R) q
  | fr d =>
    obtain ⟨a, rfl, z, c, m, f⟩ := q
    obtain ⟨o, ho⟩ := c.some
    obtain ⟨q1, z1, m1⟩ := k.keep a o ho m
    exact ⟨a, rfl, z1.mpr z, c.le (k.le R).sub (q1.trans ho.symm), m1, f⟩
theorem OpRel.keep {o : Op} (R : Rel K F e σ H Z) (k : Kp e σ H Z e' H' Z') (q : OpRel K σ H Z v o) : OpRel K σ H' Z' v o := by
  cases o with
  | pl i => exact q
  | vl d => exact Dv.le (k.le R) q
theorem OpRel.get {o : Op} (R : Rel K F e σ H Z) (q : OpRel K σ H Z v o) (g : o.get e = some d) : Ct K Z H v d := by
  cases o with
  | vl d' =>
    have g' : some d' = some d := g
    cases g'
    exact .inl q
  | pl i =>
    have q' : σ[i]? = some (some v) := q
    have g' : look e i = some d := g
    unfold look at g'
    cases h : e[i]? with
    | none => rw [h] at g'; cases g'
    | some s =>
      rw [h] at g'
      have r := R.sl i s h
      rw [q'] at r
      cases s with
      | un => cases g'
      | val d' =>
        cases g'
        obtain ⟨v', e1, r⟩ := r
        cases e1
        exact .inl r
      | mu b d' =>
        cases g'
        obtain ⟨a, e1, _, c, _⟩ := r
        cases e1
        exact .inr ⟨a, rfl, c⟩
      | frz d' =>
        cases g'
        obtain ⟨a, e1, _, c⟩ := r
        cases e1
        exact .inl c
end
end Cr
set_option Elab.async false
set_option linter.all false
set_option maxRecDepth 100000
/-! Posts, how states grow, freezing. -/
namespace Cr
open PySem PySem.Spec PyProof.Rows L2
section
variable {K : PySem.W.Frag} {F : Fr} {e e' e'' : Ev} {σ : L2.St} {H H' H'' : Hp} {Z Z' Z'' : Addr → Prop} {v : V} {d : D}
theorem SlR.mono {i : Nat} {o : Option (Option V)} {s : Sl} (l : Sub (hid Z H) (hid Z' H')) (hm : ∀ b d a, s = Sl.mu b d → o = some (some (V.ref a)) → Z' a ∧ H' a = H a) (q : SlR K F Z H i o s) : SlR K F Z' H' i o s := by
  cases s with
  | un => trivial
  | val d =>
    obtain ⟨v, e1, r⟩ := q
    exact ⟨v, e1, Dv.mono l _ _ r⟩
  | mu b d =>
    obtain ⟨a, e1, z, c, r1, r2⟩ := q
    obtain ⟨z', h'⟩ := hm b d a rfl e1
    exact ⟨a, e1, z', c.le l h', r1, r2⟩
  | frz d =>
    obtain ⟨a, e1, r1, r2⟩ := q
    exact ⟨a, e1, r1, Dv.mono l _ _ r2⟩
/-- new objects alone -/
theorem Rel.grow (R : Rel K F e σ H Z) (hs : Sub H H') (z1 : ∀ a, Z a → Z' a) (z2 : ∀ a, Z' a → Z a ∨ (H a = none ∧ H' a ≠ none)) : Rel K F e σ H' Z' ∧ Kp e σ H Z e H' Z' := by
  have l : Sub (hid Z H) (hid Z' H') := fun a o q => by
    obtain ⟨z, q⟩ := hid_some.mp q
    refine hid_some.mpr ⟨fun w => ?_, hs a o q⟩
    rcases z2 a w with h | ⟨h, _⟩
    · exact z h
    · rw [q] at h; cases h
  have th : ∀ a, H a ≠ none → H' a ≠ none := fun a h => by
    cases q : H a with
    | none => exact absurd q h
    | some o => rw [hs a o q]; simp
  refine ⟨⟨R.len, fun i s h => (R.sl i s h).mono l fun b d a e1 e2 => ?_, R.ds, fun a h => ?_, fun a h1 h2 => z1 a (R.kz a h1 h2), fun a h => ?_, fun a o h1 h2 => hs a o (R.fr a o h1 h2), R.lz, fun a h => th a (R.th a h), R.z0⟩, ⟨fun a o q m => ⟨hs a o q, ⟨fun w => ?_, z1 a⟩, m⟩, th⟩⟩
  · subst e1
    have m : MutAt e σ a := ⟨i, b, d, h, e2⟩
    obtain ⟨a', e3, _, c, _⟩ := R.sl i _ h
    rw [e2] at e3
    cases e3
    obtain ⟨o, ho⟩ := c.some
    exact ⟨z1 a (R.mutZ m), (hs a o ho).trans ho.symm⟩
  · rcases z2 a h with q | ⟨_, q⟩
    · exact th a (R.zs a q)
    · exact q
  · rcases z2 a h with q | ⟨q, _⟩
    · exact R.zn a q
    · right
      cases q2 : F.H0 a with
      | none => rfl
      | some o => exact absurd q (R.th a (by rw [q2]; simp))
  · rcases z2 a w with h | ⟨h, _⟩
    · exact h
    · rw [q] at h; cases h
/-- what an operation hands on, over the heap that it leaves -/
inductive NewR (K : PySem.W.Frag) (Z : Addr → Prop) (H : Hp) : V → Hp → Rv → Prop
  | old {v : V} {d : D} (q : Dv K (hid Z H) v d) : NewR K Z H v H (.fz d)
  | tup {p : Addr} {xs : List V} {ds : List D} (n : H p = none) (q : DvAll K (hid Z H) xs ds) : NewR K Z H (.ref p) (upd H p (.tup xs)) (.fz (.tuple ds))
  | lst {p : Addr} {xs : List V} {ds : List D} (n : H p = none) (q : DvAll K (hid Z H) xs ds) : NewR K Z H (.ref p) (upd H p (.lst xs)) (.fr (.list ds))
  | dct {p : Addr} (n : H p = none) : NewR K Z H (.ref p) (upd H p (.dK [])) (.fz (.dict []))
theorem sub_upd {p : Addr} {o : HO} (n : H p = none) : Sub H (upd H p o) := fun a u q => by
  rw [upd_ne (ne_of_none q n)]; exact q
theorem hid_upd {p : Addr} {o : HO} (R : Rel K F e σ H Z) (n : H p = none) : Sub (hid Z H) (hid Z (upd H p o)) := fun a u q => by
  obtain ⟨z, q⟩ := hid_some.mp q
  exact hid_some.mpr ⟨z, sub_upd n a u q⟩
/-- a value that an expression hands on -/
def RvS (K : PySem.W.Frag) (F : Fr) (σ : L2.St) (Hs : Hp) (r : Rv) (v : V) (e : Ev) (H : Hp) (Z : Addr → Prop) : Prop := RvR K F e σ H Z v r ∧ ∀ d a, r = .fr d → v = V.ref a → Hs a = none
theorem new_ok {r : Rv} (R : Rel K F e σ H Z) (n : NewR K Z H v H' r) : ∃ Z', Rel K F e σ H' Z' ∧ Kp e σ H Z e H' Z' ∧ RvS K F σ H r v e H' Z' := by
  cases n with
  | old q => exact ⟨Z, R, .refl, q, fun d a e1 => by cases e1⟩
  | @tup p xs ds n q =>
    obtain ⟨R', k⟩ := R.grow (H' := upd H p (.tup xs)) (Z' := Z) (sub_upd n) (fun _ z => z) fun _ z => .inl z
    refine ⟨Z, R', k, ?_, fun d a e1 => by cases e1⟩
    refine .tup (SqT.of (hid_some.mpr ⟨fun z => R.zs p z n, upd_same⟩)) (DvAll.mono (hid_upd R n) _ _ q)
  | @dct p n =>
    obtain ⟨R', k⟩ := R.grow (H' := upd H p (.dK [])) (Z' := Z) (sub_upd n) (fun _ z => z) fun _ z => .inl z
    refine ⟨Z, R', k, ?_, fun d a e1 => by cases e1⟩
    exact .dct (hid_some.mpr ⟨fun z => R.zs p z n, upd_same⟩)
  | @lst p xs ds n q =>
    obtain ⟨R', k⟩ := R.grow (H' := upd H p (.lst xs)) (Z' := fun a => Z a ∨ a = p) (sub_upd n) (fun _ z => .inl z) fun a z => by
      rcases z with z | z
      · exact .inl z
      · subst z
        exact .inr ⟨n, by rw [upd_same]; simp⟩
    refine ⟨_, R', k, ⟨p, rfl, .inr rfl, ⟨xs, upd_same, DvAll.mono (fun a u w => ?_) _ _ q⟩, fun m => R.zs p (R.mutZ m) n, ?_⟩, fun d a _ e2 => by cases e2; exact n⟩
    · obtain ⟨z, w⟩ := hid_some.mp w
      refine hid_some.mpr ⟨fun z' => ?_, sub_upd n a u w⟩
      rcases z' with z' | z'
      · exact z z'
      · subst z'
        rw [n] at w
        cases w
    · cases q2 : F.H0 p with
      | none => rfl
      | some o => exact absurd n (R.th p (by rw [q2]; simp))
/-- a value of its own is held by others from now on -/
theorem Rel.freeze {a : Addr} (R : Rel K F e σ H Z) (z : Z a) (c : Cell K (hid Z H) H a d) (m : ¬ MutAt e σ a) (f : F.H0 a = none ∨ ∃ i, F.la i = some a) :
    Rel K F e σ H (fun b => Z b ∧ b ≠ a) ∧ Dv K (hid (fun b => Z b ∧ b ≠ a) H) (V.ref a) d ∧ ∀ b, b ≠ a → ((Z b ∧ b ≠ a) ↔ Z b) := by
  have l : Sub (hid Z H) (hid (fun b => Z b ∧ b ≠ a) H) := fun b o q => by
    obtain ⟨z, q⟩ := hid_some.mp q
    exact hid_some.mpr ⟨fun w => z w.1, q⟩
  refine ⟨⟨R.len, fun i s h => (R.sl i s h).mono l fun b d' a' e1 e2 => ?_, R.ds, fun b h => R.zs b h.1, fun b h1 h2 => ⟨R.kz b h1 h2, ?_⟩, fun b h => R.zn b h.1, R.fr, R.lz, R.th, R.z0⟩, ?_, fun b h => ⟨fun q => q.1, fun q => ⟨q, h⟩⟩⟩
  · subst e1
    have m' : MutAt e σ a' := ⟨i, b, d', h, e2⟩
    exact ⟨⟨R.mutZ m', fun q => m (q ▸ m')⟩, rfl⟩
  · intro q
    subst q
    rcases f with f | ⟨i, f⟩
    · exact R.z0 _ h1 f
    · exact h2 i f
  · cases d with
    | list ds =>
      obtain ⟨xs, h, r⟩ := c
      exact .lst (Rd.of (hid_some.mpr ⟨fun w => w.2 rfl, h⟩)) (DvAll.mono l _ _ r)
    | _ => exact False.elim c
theorem getElem?_set' {α : Type} {xs : List α} {i j : Nat} {x y : α} (h : (xs.set i x)[j]? = some y) : (j = i ∧ y = x) ∨ (j ≠ i ∧ xs[j]? = some y) := by
  by_cases q : j = i
  · subst q
    by_cases hl : j < xs.length
    · rw [List.getElem?_set_self hl] at h
      exact .inl ⟨rfl, (Option.some.inj h).symm⟩
    · rw [List.getElem?_eq_none (by simpa using hl)] at h
      cases h
  · rw [List.getElem?_set_ne (Ne.symm q)] at h
    exact .inr ⟨q, h⟩
/-- a slot forgets its list, or what it owns -/
theorem Rel.setSlot {i : Nat} {s : Sl} (R : Rel K F e σ H Z) (hs : SlR K F Z H i (σ[i]?) s) (nm : ∀ b d, s ≠ Sl.mu b d) : Rel K F (e.set i s) σ H Z ∧ ∀ a, MutAt (e.set i s) σ a → MutAt e σ a := by
  have mm : ∀ {j : Nat} {b : Bool} {d : D}, (e.set i s)[j]? = some (Sl.mu b d) → e[j]? = some (Sl.mu b d) := fun {j b d} h => by
    rcases getElem?_set' h with ⟨_, q⟩ | ⟨_, q⟩
    · exact absurd q.symm (nm b d)
    · exact q
  refine ⟨⟨by rw [List.length_set]; exact R.len, fun j t h => ?_, fun j k b d b' d' a h1 h2 => R.ds j k b d b' d' a (mm h1) (mm h2), R.zs, R.kz, R.zn, R.fr, R.lz, R.th, R.z0⟩, fun a m => ?_⟩
  · rcases getElem?_set' h with ⟨q1, q2⟩ | ⟨_, q⟩
    · subst q1 q2
      exact hs
    · exact R.sl j t q
  · obtain ⟨j, b, d, h1, h2⟩ := m
    exact ⟨j, b, d, mm h1, h2⟩
/-- a name is read: others may hold its list from now on -/
theorem rdA_ok {i : Nat} {r : Rv} (R : Rel K F e σ H Z) (hv : σ[i]? = some (some v)) (h : rdA i e = .ok r e') : ∃ Z', Rel K F e' σ H Z' ∧ Kp e σ H Z e' H Z' ∧ RvS K F σ H r v e' H Z' := by
  unfold rdA at h
  cases q : e[i]? with
  | none => rw [q] at h; cases h
  | some s =>
    rw [q] at h
    have sr := R.sl i s q
    rw [hv] at sr
    cases s with
    | un => cases h
    | val d =>
      cases h
      obtain ⟨v', e1, r⟩ := sr
      cases e1
      exact ⟨Z, R, .refl, r, fun d a e1 => by cases e1⟩
    | frz d =>
      cases h
      obtain ⟨a, e1, _, r⟩ := sr
      cases e1
      exact ⟨Z, R, .refl, r, fun d a e1 => by cases e1⟩
    | mu b d =>
      obtain ⟨a, e1, z, c, f1, f2⟩ := sr
      cases e1
      have m : MutAt e σ a := ⟨i, b, d, q, hv⟩
      -- forget the slot, freeze, put the value back
      obtain ⟨R1, m1⟩ := R.setSlot (i := i) (s := .un) trivial fun _ _ h => by cases h
      have nm : ¬ MutAt (e.set i .un) σ a := fun ⟨j, b', d', h1, h2⟩ => by
        rcases getElem?_set' h1 with ⟨_, w⟩ | ⟨hj, w⟩
        · cases w
        · exact hj (R.ds j i b' d' b d a w q h2 hv)
      have hf : F.H0 a = none ∨ ∃ i, F.la i = some a := by
        cases b with
        | true => exact .inr ⟨i, f1 rfl⟩
        | false => exact .inl (f2 rfl)
      obtain ⟨R2, dv, zz⟩ := R1.freeze z c nm hf
      have e3 : ∀ s : Sl, (e.set i .un).set i s = e.set i s := fun s => by rw [List.set_set]
      have fin : ∀ s : Sl, SlR K F (fun b => Z b ∧ b ≠ a) H i (σ[i]?) s → (∀ b d, s ≠ Sl.mu b d) → e' = e.set i s → r = .fz d → ∃ Z', Rel K F e' σ H Z' ∧ Kp e σ H Z e' H Z' ∧ RvS K F σ H r (V.ref a) e' H Z' := fun s hs hn he hr => by
        obtain ⟨R3, m3⟩ := R2.setSlot hs hn
        rw [e3 s] at R3 m3
        subst he hr
        refine ⟨_, R3, ⟨fun b o w mb => ⟨w, ?_, fun mb' => mb (m1 b (m3 b mb'))⟩, fun _ w => w⟩, dv, fun d a e1 => by cases e1⟩
        exact zz b fun w2 => mb (w2 ▸ m)
      cases b with
      | true =>
        have h' : Rs.ok (Rv.fz d) (e.set i (.frz d)) = .ok r e' := h
        cases h'
        exact fin (.frz d) ⟨a, hv, f1 rfl, dv⟩ (fun _ _ h => by cases h) rfl rfl
      | false =>
        have h' : Rs.ok (Rv.fz d) (e.set i (.val d)) = .ok r e' := h
        cases h'
        exact fin (.val d) ⟨_, hv, dv⟩ (fun _ _ h => by cases h) rfl rfl
/-- an expression's value, from now on held by others -/
theorem RvS.freeze {r : Rv} {H0 : Hp} {e0 : Ev} {Z0 : Addr → Prop} (R : Rel K F e σ H Z) (k : Kp e0 σ H0 Z0 e H Z) (q : RvS K F σ H0 r v e H Z) : ∃ Z', Rel K F e σ H Z' ∧ Kp e0 σ H0 Z0 e H Z' ∧ Dv K (hid Z' H) v r.d := by
  cases r with
  | fz d => exact ⟨Z, R, k, q.1⟩
  | fr d =>
    obtain ⟨⟨a, rfl, z, c, m, f⟩, n⟩ := q
    obtain ⟨R2, dv, zz⟩ := R.freeze z c m (.inl f)
    refine ⟨_, R2, ⟨fun b o w mb => ?_, k.th⟩, dv⟩
    obtain ⟨w1, z1, m1⟩ := k.keep b o w mb
    refine ⟨w1, (zz b ?_).trans z1, m1⟩
    intro e1
    subst e1
    rw [n d b rfl rfl] at w
    cases w
end
end Cr
set_option Elab.async false
set_option linter.all false
set_option maxRecDepth 100000
/-! Readings by core runs. -/
namespace Cr
open PySem PySem.Spec PyProof.Rows L2
/-- what a piece's result is to the values -/
abbrev RelT (α β : Type) := Fr → L2.St → Hp → α → β → Ev → Hp → (Addr → Prop) → Prop
section
variable {α β γ δ : Type} {K : PySem.W.Frag} {W : WX} {cv : Nat → Value}
/-- what is wanted behind a run m that began at e, H, Z -/
def Pst (K : PySem.W.Frag) (W : WX) (cv : Nat → Value) (R : RelT α β) (F : Fr) (σ : L2.St) (e : Ev) (H : Hp) (Z : Addr → Prop) (m : Rs α) (Q : β → Hp → Prop) : Prop :=
  match m with
  | .ok a e' => ∀ b H' Z', Rel K F e' σ H' Z' → Kp e σ H Z e' H' Z' → R F σ H a b e' H' Z' → Q b H'
  | .ex x e' => ∀ H' Z', Rel K F e' σ H' Z' → Le H Z H' Z' → W (cv x) none σ H'
  | .er => False
/-- the reading of a run -/
def tR (K : PySem.W.Frag) (W : WX) (cv : Nat → Value) (R : RelT α β) (f : Ev → Rs α) : L2.St → Hp → (β → Hp → Prop) → Prop :=
  fun σ H Q => ∃ F e Z, Rel K F e σ H Z ∧ Pst K W cv R F σ e H Z (f e) Q
theorem Pst.mono {R : RelT α β} {F : Fr} {σ : L2.St} {e : Ev} {H : Hp} {Z : Addr → Prop} {m : Rs α} {Q Q' : β → Hp → Prop} (h : Pst K W cv R F σ e H Z m Q) (hq : ∀ b H', Q b H' → Q' b H') : Pst K W cv R F σ e H Z m Q' := by
  cases m with
  | ok a e' => exact fun b H' Z' r k q => hq _ _ (h b H' Z' r k q)
  | ex x e' => exact h
  | er => exact h
/-- one run, then another: what is wanted behind the first -/
theorem Pst.bind {R1 : RelT α β} {R2 : RelT γ δ} {F : Fr} {σ : L2.St} {e : Ev} {H : Hp} {Z : Addr → Prop} {m : Rs α} {f : α → Ev → Rs γ} {Q : δ → Hp → Prop}
    (tr : ∀ a b e1 H1 Z1 H2 e2 Z2 c d, Kp e σ H Z e1 H1 Z1 → R1 F σ H a b e1 H1 Z1 → R2 F σ H1 c d e2 H2 Z2 → R2 F σ H c d e2 H2 Z2)
    (R : Rel K F e σ H Z) (h : Pst K W cv R2 F σ e H Z (m.bind f) Q) :
    Pst K W cv R1 F σ e H Z m fun b H1 => ∃ a e1 Z1, Rel K F e1 σ H1 Z1 ∧ Kp e σ H Z e1 H1 Z1 ∧ R1 F σ H a b e1 H1 Z1 ∧ Pst K W cv R2 F σ e1 H1 Z1 (f a e1) Q := by
  cases m with
  | er => exact h
  | ex x e' => exact h
  | ok a e1 =>
    intro b H1 Z1 r k q
    refine ⟨a, e1, Z1, r, k, q, ?_⟩
    have h' : Pst K W cv R2 F σ e H Z (f a e1) Q := h
    cases g : f a e1 with
    | er => rw [g] at h'; exact h'
    | ex x e' => rw [g] at h'; exact fun H' Z' r' l => h' H' Z' r' ((k.le R).trans l)
    | ok c e2 => rw [g] at h'; exact fun d H' Z' r' k' q' => h' d H' Z' r' (k.trans k') (tr _ _ _ _ _ _ _ _ _ _ k q q')
end
/-! ### the kinds of results -/
abbrev rE (K : PySem.W.Frag) : RelT Rv V := fun F σ Hs r v e H Z => RvS K F σ Hs r v e H Z
abbrev rD (K : PySem.W.Frag) : RelT D V := fun _ _ _ d v _ H Z => Dv K (hid Z H) v d
abbrev rDs (K : PySem.W.Frag) : RelT (List D) (List V) := fun _ _ _ d v _ H Z => DvAll K (hid Z H) v d
abbrev rO (K : PySem.W.Frag) : RelT Op V := fun _ σ _ o v _ H Z => OpRel K σ H Z v o
inductive OpAll (K : PySem.W.Frag) (σ : L2.St) (H : Hp) (Z : Addr → Prop) : List V → List Op → Prop
  | nil : OpAll K σ H Z [] []
  | cons {v : V} {vs : List V} {o : Op} {os : List Op} : OpRel K σ H Z v o → OpAll K σ H Z vs os → OpAll K σ H Z (v :: vs) (o :: os)
abbrev rOs (K : PySem.W.Frag) : RelT (List Op) (List V) := fun _ σ _ o v _ H Z => OpAll K σ H Z v o
abbrev rB : RelT Bool Bool := fun _ _ _ b c _ _ _ => c = b
abbrev rIo : RelT (Option Int) (Option Int) := fun _ _ _ b c _ _ _ => c = b
section
variable {K : PySem.W.Frag} {W : WX} {cv : Nat → Value} {X : Cx}
theorem trE {F : Fr} {σ : L2.St} {e e1 : Ev} {H H1 : Hp} {Z Z1 : Addr → Prop} (k : Kp e σ H Z e1 H1 Z1) {c : Rv} {d : V} {e2 : Ev} {H2 : Hp} {Z2 : Addr → Prop} (q : RvS K F σ H1 c d e2 H2 Z2) : RvS K F σ H c d e2 H2 Z2 :=
  ⟨q.1, fun d a e1 e2 => by
    have n := q.2 d a e1 e2
    cases w : H a with
    | none => rfl
    | some o => exact absurd n (k.th a (by rw [w]; simp))⟩
theorem OpAll.keep {F : Fr} {σ : L2.St} {e e1 : Ev} {H H1 : Hp} {Z Z1 : Addr → Prop} (R : Rel K F e σ H Z) (k : Kp e σ H Z e1 H1 Z1) : ∀ {vs : List V} {os : List Op}, OpAll K σ H Z vs os → OpAll K σ H1 Z1 vs os
  | _, _, .nil => .nil
  | _, _, .cons a r => .cons (a.keep R k) (OpAll.keep R k r)
theorem OpAll.gets {F : Fr} {σ : L2.St} {e : Ev} {H : Hp} {Z : Addr → Prop} (R : Rel K F e σ H Z) : ∀ {vs : List V} {os : List Op} {ds : List D}, OpAll K σ H Z vs os → Cr.gets os e = some ds → Paired (Ct K Z H) vs ds
  | _, _, _, .nil, h => by cases h; exact .nil
  | _, _, ds, .cons (o := o) (os := os) a r, h => by
    have h' : (match o.get e, Cr.gets os e with | some d, some ds => some (d :: ds) | _, _ => none) = some ds := h
    cases h1 : o.get e with
    | none => rw [h1] at h'; cases h'
    | some d =>
      cases h2 : Cr.gets os e with
      | none => rw [h1, h2] at h'; cases h'
      | some es =>
        rw [h1, h2] at h'
        cases h'
        exact .cons (a.get R h1) (OpAll.gets R r h2)
/-- weaker readings -/
theorem _root_.L2.PE.imp {e : Expr} {t t' : TE} (h : PE X e t) (i : ∀ σ H Q, t' σ H Q → t σ H Q) : PE X e t' := ⟨fun pins s σ H Q I w => h.run pins s σ H Q I (i σ H Q w)⟩
theorem _root_.L2.PT.imp {e : Expr} {t t' : TT} (h : PT X e t) (i : ∀ σ H Q, t' σ H Q → t σ H Q) : PT X e t' := ⟨fun pins s σ H Q I w => h.run pins s σ H Q I (i σ H Q w)⟩
theorem _root_.L2.PA.imp {e : List Expr} {t t' : TA} (h : PA X e t) (i : ∀ σ H Q, t' σ H Q → t σ H Q) : PA X e t' := ⟨fun pos pins s σ H Q I w => h.run pos pins s σ H Q I (i σ H Q w)⟩
theorem _root_.L2.PS.imp {e : Stmt} {t t' : TS} (h : PS X e t) (i : ∀ D σ H, t' D σ H → t D σ H) : PS X e t' := ⟨fun pins s σ H D I w => h.run pins s σ H D I (i D σ H w)⟩
theorem _root_.L2.PSs.imp {e : List Stmt} {t t' : TS} (h : PSs X e t) (i : ∀ D σ H, t' D σ H → t D σ H) : PSs X e t' := ⟨fun pins s σ H D I w => h.run pins s σ H D I (i D σ H w)⟩
theorem _root_.L2.PO.imp {e : Option Expr} {t t' : TO} (h : PO X e t) (i : ∀ σ H Q, t' σ H Q → t σ H Q) : PO X e t' := ⟨fun pins s σ H Q I w => h.run pins s σ H Q I (i σ H Q w)⟩
/-- a value, known to others -/
abbrev tE (K : PySem.W.Frag) (W : WX) (cv : Nat → Value) (f : Ev → Rs Rv) : TE := tR K W cv (rE K) f
abbrev tD (K : PySem.W.Frag) (W : WX) (cv : Nat → Value) (f : Ev → Rs D) : TE := tR K W cv (rD K) f
abbrev tO (K : PySem.W.Frag) (W : WX) (cv : Nat → Value) (f : Ev → Rs Op) : TE := tR K W cv (rO K) f
abbrev tT (K : PySem.W.Frag) (W : WX) (cv : Nat → Value) (f : Ev → Rs Bool) : TT := tR K W cv rB f
theorem pe_D {x : Expr} {f : Ev → Rs Rv} (h : PE X x (tE K W cv f)) : PE X x (tD K W cv fun e => (f e).bind fun r e => .ok r.d e) := h.imp fun σ H Q ⟨F, e, Z, R, p⟩ => by
  refine ⟨F, e, Z, R, ?_⟩
  replace p : Pst K W cv (rD K) F σ e H Z ((f e).bind fun r e => .ok r.d e) Q := p
  cases g : f e with
  | er => rw [g] at p; exact p
  | ex x e' => rw [g] at p; exact p
  | ok r e' =>
    rw [g] at p
    intro v H' Z' R' k q
    obtain ⟨Z2, R2, k2, q2⟩ := q.freeze R' k
    exact p v H' Z2 R2 k2 q2
/-- an operand that is no name -/
theorem pe_Ov {x : Expr} {f : Ev → Rs Rv} (h : PE X x (tE K W cv f)) : PE X x (tO K W cv fun e => (f e).bind fun r e => .ok (.vl r.d) e) := (pe_D h).imp fun σ H Q ⟨F, e, Z, R, p⟩ => by
  refine ⟨F, e, Z, R, ?_⟩
  replace p : Pst K W cv (rO K) F σ e H Z ((f e).bind fun r e => .ok (.vl r.d) e) Q := p
  show Pst K W cv (rD K) F σ e H Z ((f e).bind fun r e => .ok r.d e) Q
  cases g : f e with
  | er => rw [g] at p; exact p
  | ex x e' => rw [g] at p; exact p
  | ok r e' => rw [g] at p; exact p
theorem look_val {F : Fr} {e : Ev} {σ : L2.St} {H : Hp} {Z : Addr → Prop} {i : Nat} {d : D} (R : Rel K F e σ H Z) (h : look e i = some d) : ∃ v, σ[i]? = some (some v) := by
  unfold look at h
  cases q : e[i]? with
  | none => rw [q] at h; cases h
  | some s =>
    rw [q] at h
    have r := R.sl i s q
    cases s with
    | un => cases h
    | val _ => obtain ⟨v, e1, _⟩ := r; exact ⟨v, e1⟩
    | mu _ _ => obtain ⟨v, e1, _⟩ := r; exact ⟨_, e1⟩
    | frz _ => obtain ⟨v, e1, _⟩ := r; exact ⟨_, e1⟩
/-- an operand that is a name -/
theorem pe_Op {x : Expr} {i : Nat} (h : PE X x (tVar i)) : PE X x (tO K W cv fun e => match look e i with | some _ => .ok (.pl i) e | none => .er) := h.imp fun σ H Q ⟨F, e, Z, R, p⟩ => by
  replace p : Pst K W cv (rO K) F σ e H Z (match look e i with | some _ => .ok (.pl i) e | none => .er) Q := p
  cases g : look e i with
  | none => rw [g] at p; exact p.elim
  | some d =>
    rw [g] at p
    obtain ⟨v, hv⟩ := look_val R g
    exact ⟨v, hv, p v H Z R .refl hv⟩
/-- a name as a value -/
theorem pe_rd {x : Expr} {i : Nat} (h : PE X x (tVar i)) : PE X x (tE K W cv (rdA i)) := h.imp fun σ H Q ⟨F, e, Z, R, p⟩ => by
  cases g : rdA i e with
  | er => rw [g] at p; exact p.elim
  | ex x e' => unfold rdA at g; split at g <;> cases g
  | ok r e' =>
    rw [g] at p
    have : ∃ v, σ[i]? = some (some v) := by
      unfold rdA at g
      cases q : e[i]? with
      | none => rw [q] at g; cases g
      | some s =>
        rw [q] at g
        have r := R.sl i s q
        cases s with
        | un => cases g
        | val _ => obtain ⟨v, e1, _⟩ := r; exact ⟨v, e1⟩
        | mu _ _ => obtain ⟨v, e1, _⟩ := r; exact ⟨_, e1⟩
        | frz _ => obtain ⟨v, e1, _⟩ := r; exact ⟨_, e1⟩
    obtain ⟨v, hv⟩ := this
    obtain ⟨Z', R', k, q⟩ := rdA_ok R hv g
    exact ⟨v, hv, p v H Z' R' k q⟩
/-- a constant -/
theorem pe_const {x : Expr} {v : V} {d : D} (h : PE X x (tC v)) (q : ∀ H, Dv K H v d) : PE X x (tE K W cv fun e => .ok (.fz d) e) := h.imp fun σ H Q ⟨F, e, Z, R, p⟩ => p v H Z R .refl ⟨q _, fun _ _ e => by cases e⟩
/-- an operator's result, from the contents of its operands -/
def rBin (K : PySem.W.Frag) (f : D → D → Option Rv) : R2 := fun x y H Q => ∃ Z a b r, Ct K Z H x a ∧ Ct K Z H y b ∧ f a b = some r ∧ ∀ v H', NewR K Z H v H' r → Q v H'
def rUn (K : PySem.W.Frag) (f : D → Option Rv) : V → Hp → VK → Prop := fun x H Q => ∃ Z a r, Ct K Z H x a ∧ f a = some r ∧ ∀ v H', NewR K Z H v H' r → Q v H'
def rMany (K : PySem.W.Frag) (f : List D → Option Rv) : List V → Hp → VK → Prop := fun xs H Q => ∃ Z ds r, Paired (Ct K Z H) xs ds ∧ f ds = some r ∧ ∀ v H', NewR K Z H v H' r → Q v H'
theorem two_ok {F : Fr} {e : Ev} {σ : L2.St} {H : Hp} {Z : Addr → Prop} {o1 o2 : Op} {x y : V} {f : D → D → Option Rv} {Q : VK} (R : Rel K F e σ H Z) (h1 : OpRel K σ H Z x o1) (h2 : OpRel K σ H Z y o2) (p : Pst K W cv (rE K) F σ e H Z (two o1 o2 e f) Q) : rBin K f x y H Q := by
  unfold two at p
  cases g1 : o1.get e with
  | none => rw [g1] at p; exact p.elim
  | some a =>
    cases g2 : o2.get e with
    | none => rw [g1, g2] at p; exact p.elim
    | some b =>
      rw [g1, g2] at p
      cases g3 : f a b with
      | none => simp only [g3] at p; exact p.elim
      | some r =>
        simp only [g3] at p
        refine ⟨Z, a, b, r, h1.get R g1, h2.get R g2, g3, fun v H' n => ?_⟩
        obtain ⟨Z', R', k, q⟩ := new_ok R n
        exact p v H' Z' R' k q
theorem one_ok {F : Fr} {e : Ev} {σ : L2.St} {H : Hp} {Z : Addr → Prop} {o1 : Op} {x : V} {f : D → Option Rv} {Q : VK} (R : Rel K F e σ H Z) (h1 : OpRel K σ H Z x o1) (p : Pst K W cv (rE K) F σ e H Z (one o1 e f) Q) : rUn K f x H Q := by
  unfold one at p
  cases g1 : o1.get e with
  | none => rw [g1] at p; exact p.elim
  | some a =>
    rw [g1] at p
    cases g3 : f a with
    | none => simp only [g3] at p; exact p.elim
    | some r =>
      simp only [g3] at p
      refine ⟨Z, a, r, h1.get R g1, g3, fun v H' n => ?_⟩
      obtain ⟨Z', R', k, q⟩ := new_ok R n
      exact p v H' Z' R' k q
theorem many_ok {F : Fr} {e : Ev} {σ : L2.St} {H : Hp} {Z : Addr → Prop} {os : List Op} {xs : List V} {f : List D → Option Rv} {Q : VK} (R : Rel K F e σ H Z) (h1 : OpAll K σ H Z xs os) (p : Pst K W cv (rE K) F σ e H Z (many os e f) Q) : rMany K f xs H Q := by
  unfold many at p
  cases g1 : gets os e with
  | none => rw [g1] at p; exact p.elim
  | some ds =>
    rw [g1] at p
    cases g3 : f ds with
    | none => simp only [g3] at p; exact p.elim
    | some r =>
      simp only [g3] at p
      refine ⟨Z, ds, r, h1.gets R g1, g3, fun v H' n => ?_⟩
      obtain ⟨Z', R', k, q⟩ := new_ok R n
      exact p v H' Z' R' k q
/-- two operands, an operator -/
theorem bin_red {f1 f2 : Ev → Rs Op} {f : D → D → Option Rv} {σ : L2.St} {H : Hp} {Q : VK} (w : tE K W cv (fun e => (f1 e).bind fun x e => (f2 e).bind fun y e => two x y e f) σ H Q) : tOp (rBin K f) (tO K W cv f1) (tO K W cv f2) σ H Q := by
  obtain ⟨F, e, Z, R, p⟩ := w
  refine ⟨F, e, Z, R, (p.bind (R1 := rO K) (fun _ _ _ _ _ _ _ _ _ _ k _ q => trE k q) R).mono fun x H1 ⟨o1, e1, Z1, R1, k1, q1, p1⟩ => ?_⟩
  refine ⟨F, e1, Z1, R1, (p1.bind (R1 := rO K) (fun _ _ _ _ _ _ _ _ _ _ k _ q => trE k q) R1).mono fun y H2 ⟨o2, e2, Z2, R2, k2, q2, p2⟩ => ?_⟩
  exact two_ok R2 (q1.keep R1 k2) q2 p2
theorem un_red {f1 : Ev → Rs Op} {f : D → Option Rv} {σ : L2.St} {H : Hp} {Q : VK} (w : tE K W cv (fun e => (f1 e).bind fun x e => one x e f) σ H Q) : tUn (rUn K f) (tO K W cv f1) σ H Q := by
  obtain ⟨F, e, Z, R, p⟩ := w
  refine ⟨F, e, Z, R, (p.bind (R1 := rO K) (fun _ _ _ _ _ _ _ _ _ _ k _ q => trE k q) R).mono fun x H1 ⟨o1, e1, Z1, R1, k1, q1, p1⟩ => ?_⟩
  exact one_ok R1 q1 p1
end
end Cr
set_option Elab.async false
set_option linter.all false
set_option maxRecDepth 100000
set_option maxHeartbeats 2000000
/-! Operators by the data of their operands. -/
namespace Cr
open PySem PySem.Spec PyProof.Rows L2
section
variable {K : PySem.W.Frag} {Z : Addr → Prop} {H H' : Hp} {v : V}
theorem Ct.int {i : Int} (h : Ct K Z H v (.int i)) : v = .int i := by
  have q := h.full
  cases q
  rfl
theorem Ct.bool {i : Bool} (h : Ct K Z H v (.bool i)) : v = .bl i := by
  have q := h.full
  cases q
  rfl
theorem Ct.str {i : Str} (h : Ct K Z H v (.str i)) : v = .str i := by
  have q := h.full
  cases q
  rfl
theorem Ct.none (h : Ct K Z H v .none) : v = .non := by
  have q := h.full
  cases q
  rfl
theorem Ct.tup {ds : List D} (h : Ct K Z H v (.tuple ds)) : ∃ a xs, v = .ref a ∧ SqT K H a xs ∧ DvAll K (hid Z H) xs ds := by
  rcases h with h | ⟨a, _, h⟩
  · cases h with
    | tup s r => exact ⟨_, _, rfl, hid_sub.sqT s, r⟩
  · exact h.elim
theorem Ct.lst {ds : List D} (h : Ct K Z H v (.list ds)) : ∃ a xs, v = .ref a ∧ Rd H a (.lst xs) ∧ DvAll K (hid Z H) xs ds := by
  rcases h with h | ⟨a, e, h⟩
  · cases h with
    | lst s r => exact ⟨_, _, rfl, hid_sub.rd s, r⟩
  · obtain ⟨xs, h1, h2⟩ := h
    exact ⟨a, xs, e, Rd.of h1, h2⟩
theorem Ct.tupH {ds : List D} (h : Ct K Z H v (.tuple ds)) : Dv K (hid Z H) v (.tuple ds) := by
  rcases h with h | ⟨a, _, h⟩
  · exact h
  · exact h.elim
theorem Rd.sq {K : PySem.W.Frag} {a : Addr} {xs : List V} (h : Rd H a (.lst xs)) : SqL K H a xs := .inl h
theorem NewR.int {i : Int} : NewR K Z H (.int i) H (.fz (.int i)) := .old (.int i)
theorem NewR.bool {i : Bool} : NewR K Z H (.bl i) H (.fz (.bool i)) := .old (.bl i)
theorem NewR.str {i : Str} : NewR K Z H (.str i) H (.fz (.str i)) := .old (.str i)
theorem cutD_of {xs : List V} {ds : List D} {lo hi : Option Int} (r : DvAll K H xs ds) : DvAll K H (cutV xs lo hi) (cutD ds lo hi) := by
  unfold cutV cutD
  rw [r.length]
  exact (r.drop _).take _
end
section
variable {X : Cx} {pins : List (Addr × Obj)} {σ : L2.St} {H : Hp} {s : Shared} {a b : Addr} {xs ys zs : List V}
theorem rd_lst (I : Inv X pins σ H s) (h : Rd H a (.lst xs)) : xs.length ≤ sizeLine ∧ ∃ (its : List Value) (n : Nat), Vals xs its ∧ xs.length = its.length ∧ s.heap.get? a = some { cls := .type "list", data := .seq its.toArray n } := by
  obtain ⟨z, its, n, r, e⟩ := h.ok I.hok
  exact ⟨z, its, n, r, r.length, e⟩
def rCatL : R2 := fun x y H Q => ∃ l b xs zs, x = .ref l ∧ y = .ref b ∧ Rd H l (.lst xs) ∧ Rd H b (.lst zs) ∧ xs.length + zs.length ≤ sizeLine ∧ ∀ p, H p = none → Q (.ref p) (upd H p (.lst (xs ++ zs)))
theorem op_catL : OpR X (binaryOp .Add) rCatL := by
  intro pins s σ H x y v u Q I rx ry h
  obtain ⟨l, b, xs, zs, rfl, rfl, h1, h2, hz, q⟩ := h
  cases rx
  cases ry
  obtain ⟨_, i1, n1, r1, l1, g1⟩ := rd_lst I h1
  obtain ⟨_, i2, n2, r2, l2, g2⟩ := rd_lst I h2
  refine PySem.P.add_list g1 g2 ?_ (by rw [List.size_toArray, List.size_toArray]; omega)
  rw [show i1.toArray ++ i2.toArray = (i1 ++ i2).toArray by simp]
  refine ⟨.ref _, _, I.lnew (t' := s.toks) (r1.append r2) ?_, rfl, q _ I.fresh⟩
  rw [List.length_append]
  omega
end
section
variable {X : Cx}
/-- an operator over data, from a rule for each kind -/
theorem OpR.imp {f : Value → Value → Sem Value} {r r' : R2} (h : OpR X f r) (i : ∀ x y H Q, r' x y H Q → r x y H Q) : OpR X f r' := fun pins s σ H x y v u Q I rx ry w => h pins s σ H x y v u Q I rx ry (i x y H Q w)
/-- * of two factors of together less than a hundred million bits -/
def CMulX (i j : Int) : Prop := i.natAbs.log2 + j.natAbs.log2 < 100000000
theorem CMulX.ok {i j : Int} (h : CMulX i j) : IntMulOk i j := by
  have b : ∀ x : Int, Builtin.Int.intBits x ≤ x.natAbs.log2 + 1 := fun x => by
    unfold Builtin.Int.intBits
    split <;> omega
  have h1 := b i
  have h2 := b j
  have h3 : i.natAbs.log2 + j.natAbs.log2 < 100000000 := h
  have e : bitsLine = 134217728 := by decide
  unfold IntMulOk
  intro z
  rw [Bool.and_eq_true] at z
  have z2 := z.2
  unfold Builtin.Int.intTooBig at z2
  have z3 := of_decide_eq_true z2
  rw [e] at z3
  omega
theorem op_mulX : OpR X (binaryOp .Mult) (rI CMulX fun i j => .int (i * j)) := opI fun _ _ _ _ _ _ _ hc q => mul_int q hc.ok
theorem mulOk_of {i j : Int} (h : mulOk i j = true) : CMul i j ∨ CMulX i j := by
  unfold mulOk at h
  simp only [Bool.or_eq_true, decide_eq_true_eq] at h
  rcases h with (h | h) | h
  · exact .inl (.inl h)
  · exact .inl (.inr h)
  · exact .inr h
theorem bin_add : OpR X (binaryOp .Add) (rBin X.K (binD .Add)) := by
  intro pins s σ H x y v u Q I rx ry ⟨Z, a, b, r, ha, hb, e, k⟩
  unfold binD at e
  split at e <;> try (first | cases e | skip)
  all_goals try contradiction
  · cases ha.int; cases hb.int
    exact op_add pins s σ H _ _ v u Q I rx ry ⟨_, _, rfl, rfl, k _ _ .int⟩
  · rename_i i j _
    cases ha.str; cases hb.str
    split at e
    · cases e
      exact op_add_str pins s σ H _ _ v u Q I rx ry ⟨_, _, rfl, rfl, by assumption, k _ _ .str⟩
    · cases e
  · split at e
    · rename_i hz
      cases e
      obtain ⟨p, xs, rfl, h1, r1⟩ := ha.tup
      obtain ⟨q, ys, rfl, h2, r2⟩ := hb.tup
      have hT := ha.tupH
      have hU := hb.tupH
      refine op_catA pins s σ H _ _ v u Q I rx ry ⟨p, q, xs, ys, rfl, rfl, h1, h2, by rw [r1.length, r2.length]; exact hz, fun w => ?_, fun _ w => ?_, fun _ _ p' n => k _ _ (.tup n (r1.append r2))⟩
      · subst w
        cases r1
        exact k _ _ (.old hU)
      · subst w
        cases r2
        rw [List.append_nil] at k
        exact k _ _ (.old hT)
    · cases e
  · split at e
    · rename_i hz
      cases e
      obtain ⟨p, xs, rfl, h1, r1⟩ := ha.lst
      obtain ⟨q, ys, rfl, h2, r2⟩ := hb.lst
      exact op_catL pins s σ H _ _ v u Q I rx ry ⟨p, q, xs, ys, rfl, rfl, h1, h2, by rw [r1.length, r2.length]; exact hz, fun p' n => k _ _ (.lst n (r1.append r2))⟩
    · cases e
theorem bin_sub : OpR X (binaryOp .Sub) (rBin X.K (binD .Sub)) := by
  intro pins s σ H x y v u Q I rx ry ⟨Z, a, b, r, ha, hb, e, k⟩
  unfold binD at e
  split at e <;> try (first | cases e | skip)
  all_goals try contradiction
  cases ha.int; cases hb.int
  exact op_sub pins s σ H _ _ v u Q I rx ry ⟨_, _, rfl, rfl, k _ _ .int⟩
theorem bin_fdiv : OpR X (binaryOp .FloorDiv) (rBin X.K (binD .FloorDiv)) := by
  intro pins s σ H x y v u Q I rx ry ⟨Z, a, b, r, ha, hb, e, k⟩
  unfold binD at e
  split at e <;> try (first | cases e | skip)
  all_goals try contradiction
  split at e
  · rename_i hz
    cases e
    cases ha.int; cases hb.int
    exact op_fdivW pins s σ H _ _ v u Q I rx ry ⟨_, _, rfl, rfl, hz, k _ _ .int⟩
  · cases e
theorem bin_mod : OpR X (binaryOp .Mod) (rBin X.K (binD .Mod)) := by
  intro pins s σ H x y v u Q I rx ry ⟨Z, a, b, r, ha, hb, e, k⟩
  unfold binD at e
  split at e <;> try (first | cases e | skip)
  all_goals try contradiction
  split at e
  · rename_i hz
    cases e
    cases ha.int; cases hb.int
    exact op_mod pins s σ H _ _ v u Q I rx ry ⟨_, _, rfl, rfl, hz, k _ _ .int⟩
  · cases e
theorem bin_pow : OpR X (binaryOp .Pow) (rBin X.K (binD .Pow)) := by
  intro pins s σ H x y v u Q I rx ry ⟨Z, a, b, r, ha, hb, e, k⟩
  unfold binD at e
  split at e <;> try (first | cases e | skip)
  all_goals try contradiction
  split at e
  · rename_i hz
    cases e
    cases ha.int; cases hb.int
    exact op_pow pins s σ H _ _ v u Q I rx ry ⟨_, _, rfl, rfl, ⟨hz.1, by omega, hz.2.2⟩, k _ _ .int⟩
  · cases e
end
end Cr
set_option Elab.async false
set_option linter.all false
set_option maxRecDepth 100000
set_option maxHeartbeats 4000000
namespace Cr
open PySem PySem.Spec PyProof.Rows L2
/-! ### tuple * int, list * int -/
theorem tuple_mul_same (l : Addr) (items : Array Value) (n : Nat) (dd : Option Addr) (sl : Array (Option Value)) (x : Int) (u : Tok) (c0 : (decide (x < -(2 ^ 63)) || decide (x ≥ 2 ^ 63)) = false) (c1 : (items.isEmpty || x == 1) = true) :
    Meets (Builtin.«tuple.__mul__» ⟨[.ref l, .int x u], []⟩) (fun _ R s => s.heap.get? l = some { cls := .type "tuple", dict := dd, data := .seq items n, slots := sl } ∧
      R (.ok (.ret (Value.ref l))) s) :=
  .of_wp fun prog w A R s h => by
    obtain ⟨hp, g, d, tk, os⟩ := s
    obtain ⟨hl, h⟩ := h
    have f1 := AutoSeq1.idx_int
    wp_walk using wpAny_loadPart' hl
    repeat (first
      | (refine wpAny_ite_false (decide_eq_false (by rw [c0]; exact Bool.false_ne_true)) ?_; wp_walk using wpAny_loadPart' hl)
      | (refine wpAny_ite_true (decide_eq_true c1) ?_; wp_walk using wpAny_loadPart' hl))
    exact ⟨_, rfl, h⟩
theorem tuple_mul_none (l : Addr) (items : Array Value) (n : Nat) (dd : Option Addr) (sl : Array (Option Value)) (x : Int) (u : Tok) (c0 : (decide (x < -(2 ^ 63)) || decide (x ≥ 2 ^ 63)) = false) (c1 : (items.isEmpty || x == 1) = false) (c2 : (decide (x ≤ 0) || items.isEmpty) = true) :
    Meets (Builtin.«tuple.__mul__» ⟨[.ref l, .int x u], []⟩) (fun _ R s => s.heap.get? l = some { cls := .type "tuple", dict := dd, data := .seq items n, slots := sl } ∧
      R (.ok (.ret (Value.ref s.heap.objs.size))) { s with heap := s.heap.push { cls := Value.type "tuple", data := Data.seq #[] }, toks := s.toks }) :=
  .of_wp fun prog w A R s h => by
    obtain ⟨hp, g, d, tk, os⟩ := s
    obtain ⟨hl, h⟩ := h
    have f1 := AutoSeq1.idx_int
    wp_walk using wpAny_loadPart' hl
    repeat (first
      | (refine wpAny_ite_false (decide_eq_false (by rw [c0]; exact Bool.false_ne_true)) ?_; wp_walk using wpAny_loadPart' hl)
      | (refine wpAny_ite_false (decide_eq_false (by rw [c1]; exact Bool.false_ne_true)) ?_; wp_walk using wpAny_loadPart' hl)
      | (refine wpAny_ite_true (decide_eq_true c2) ?_; wp_walk using wpAny_loadPart' hl))
    exact ⟨_, rfl, h⟩

section
variable {X : Cx}
def rRepA (K : PySem.W.Frag) : R2 := fun x y H Q => ∃ l k xs, x = .ref l ∧ y = .int k ∧ SqT K H l xs ∧ k < 1000000 ∧ -1000000 < k ∧ xs.length * k.toNat ≤ sizeLine ∧
  (xs = [] ∨ k = 1 → Q (.ref l) H) ∧ (xs ≠ [] → k ≠ 1 → ∀ p, H p = none → Q (.ref p) (upd H p (.tup (List.replicate k.toNat xs).flatten)))
theorem op_repA : OpR X (binaryOp .Mult) (rRepA X.K) := by
  intro pins s σ H x y v u Q I rx ry h
  obtain ⟨l, k, xs, rfl, rfl, hT, hk1, hk2, hz, q0, q1⟩ := h
  cases rx
  obtain ⟨t, rfl⟩ := ry
  obtain ⟨its, r, ⟨⟨cls, dd, data, sl⟩, ho, hc, n, hd⟩, hs⟩ := I.tuple hT
  simp only at hc hd
  subst hc hd
  have hle : its.length = xs.length := r.length.symm
  have c0 : (decide (k < -(2 ^ 63)) || decide (k ≥ 2 ^ 63)) = false := by
    rw [decide_eq_false (by omega), decide_eq_false (by omega)] <;> rfl
  by_cases hself : xs = [] ∨ k = 1
  · have c1 : (its.toArray.isEmpty || k == 1) = true := by
      rcases hself with h | h
      · subst h
        cases r
        rfl
      · subst h
        simp
    refine wpAny_binaryOp_repeat_ref (T := "tuple") (U := "int") (by decide) ⟨_, ho, rfl⟩ (fun s' => typeIs_int s' k t) noFill_tuple_mul F.fills_int_mul F.slot_int_rmul repeat_tuple F.slot_int_index.lookup
      (call_meets F.slot_int_rmul (typeIs_int s k t) F.entry_int_rmul (F.args_int_rmul_2 _ _) (int_rmul_tuple k t l its.toArray n dd sl)
        ⟨ho, rfl, ⟨_, ho, rfl⟩, call_meets F.slot_tuple_mul ⟨_, ho, rfl⟩ F.entry_tuple_mul (F.args_tuple_mul_2 _ _) (tuple_mul_same l its.toArray n dd sl k t c0 c1) ⟨ho, ?_⟩⟩)
    exact ⟨.ref l, H, I, rfl, q0 hself⟩
  · have hne : xs ≠ [] := fun h => hself (.inl h)
    have hk : k ≠ 1 := fun h => hself (.inr h)
    have hi : its.toArray.isEmpty = false := by
      cases its with
      | nil => exact absurd (List.eq_nil_of_length_eq_zero hle.symm) hne
      | cons a b => rfl
    have c1 : (its.toArray.isEmpty || k == 1) = false := by
      rw [hi, Bool.false_or]
      exact beq_eq_false_iff_ne.mpr hk
    by_cases hneg : k ≤ 0
    · have c2 : (decide (k ≤ 0) || its.toArray.isEmpty) = true := by rw [decide_eq_true hneg]; rfl
      refine wpAny_binaryOp_repeat_ref (T := "tuple") (U := "int") (by decide) ⟨_, ho, rfl⟩ (fun s' => typeIs_int s' k t) noFill_tuple_mul F.fills_int_mul F.slot_int_rmul repeat_tuple F.slot_int_index.lookup
        (call_meets F.slot_int_rmul (typeIs_int s k t) F.entry_int_rmul (F.args_int_rmul_2 _ _) (int_rmul_tuple k t l its.toArray n dd sl)
          ⟨ho, rfl, ⟨_, ho, rfl⟩, call_meets F.slot_tuple_mul ⟨_, ho, rfl⟩ F.entry_tuple_mul (F.args_tuple_mul_2 _ _) (tuple_mul_none l its.toArray n dd sl k t c0 c1 c2) ⟨ho, ?_⟩⟩)
      have e : (List.replicate k.toNat xs).flatten = ([] : List V) := by
        rw [show k.toNat = 0 by omega]
        rfl
      have q := q1 hne hk
      rw [e] at q
      refine ⟨.ref s.heap.objs.size, _, I.laid (t' := s.toks) (o := .tup []) (fun b ob q => Heap.get?_push_of_some _ q) (Nat.le_refl _) ?_, rfl, q _ (I.hok.fresh (Nat.le_refl _))⟩
      exact ⟨Nat.zero_le _, [], .nil, IsTup.new _ _⟩
    · have hsl := sizeLine_eq
      have flen : (List.replicate k.toNat its).flatten.length ≤ sizeLine := by
        rw [PyProof.Rows.lm_len_rep_flat, hle, Nat.mul_comm]
        exact hz
      have c2 : (decide (k ≤ 0) || its.toArray.isEmpty) = false := by
        rw [hi, Bool.or_false]
        exact decide_eq_false hneg
      have em : ((its.toArray.size : Nat) : Int) * k = ((xs.length * k.toNat : Nat) : Int) := by
        rw [List.size_toArray, hle, Int.natCast_mul, Int.toNat_of_nonneg (by omega)]
      have c4 : Builtin.Tuple.tupleTooMany (((its.toArray.size : Nat) : Int) * k) = false := by
        unfold Builtin.Tuple.tupleTooMany
        rw [em]
        exact decide_eq_false (by omega)
      refine wpAny_binaryOp_repeat_ref (T := "tuple") (U := "int") (by decide) ⟨_, ho, rfl⟩ (fun s' => typeIs_int s' k t) noFill_tuple_mul F.fills_int_mul F.slot_int_rmul repeat_tuple F.slot_int_index.lookup
        (call_meets F.slot_int_rmul (typeIs_int s k t) F.entry_int_rmul (F.args_int_rmul_2 _ _) (int_rmul_tuple k t l its.toArray n dd sl)
          ⟨ho, rfl, ⟨_, ho, rfl⟩, call_meets F.slot_tuple_mul ⟨_, ho, rfl⟩ F.entry_tuple_mul (F.args_tuple_mul_2 _ _) (tuple_mulW l its.toArray n dd sl k t c0 c1 c2 (by rw [em]; omega) c4 (by rw [size_rep, List.size_toArray]; exact flen)) ⟨ho, ?_⟩⟩)
      rw [size_rep]
      refine ⟨.ref s.heap.objs.size, _, I.laid (t' := s.toks) (o := .tup (List.replicate k.toNat xs).flatten) (fun b ob q => Heap.get?_push_of_some _ q) (Nat.le_refl _) ?_, rfl, q1 hne hk _ (I.hok.fresh (Nat.le_refl _))⟩
      exact ⟨by rw [PyProof.Rows.lm_len_rep_flat, Nat.mul_comm]; exact hz, _, r.rep k.toNat, IsTup.new _ _⟩
end
end Cr
set_option Elab.async false
set_option linter.all false
set_option maxRecDepth 100000
set_option maxHeartbeats 4000000
namespace Cr
open PySem PySem.Spec PyProof.Rows L2
section
variable {X : Cx}
def rRepL : R2 := fun x y H Q => ∃ l k xs, x = .ref l ∧ y = .int k ∧ Rd H l (.lst xs) ∧ k < 1000000 ∧ -1000000 < k ∧ xs.length * k.toNat ≤ sizeLine ∧ ∀ p, H p = none → Q (.ref p) (upd H p (.lst (List.replicate k.toNat xs).flatten))
theorem op_repL : OpR X (binaryOp .Mult) rRepL := by
  intro pins s σ H x y v u Q I rx ry h
  obtain ⟨l, k, xs, rfl, rfl, hH, h1, h2, hz, q⟩ := h
  cases rx
  obtain ⟨t, rfl⟩ := ry
  obtain ⟨_, its, n, r, hl, e⟩ := rd_lst I hH
  have hs := sizeLine_eq
  have hm : its.toArray.size * k.toNat ≤ sizeLine := by rw [List.size_toArray, ← hl]; exact hz
  have f0 : ∀ m : Nat, List.foldl (fun x1 x2 => x1 ++ x2) #[] (List.replicate m its.toArray) = (List.replicate m its).flatten.toArray := size_rep its
  have hnew : List.foldl (fun x1 x2 => x1 ++ x2) #[] (List.replicate (if its.toArray.isEmpty = true then 0 else k.toNat) its.toArray) = (List.replicate k.toNat its).flatten.toArray := by
    rw [f0]
    cases its with
    | nil => simp
    | cons a b => rfl
  have g1 : ¬ (!Builtin.List.listFitsIndex k) = true := by rw [fitsIndex_both (by omega) (by omega)]; simp
  have g2 : ¬ its.toArray.size * k.toNat > (2 ^ 63 - 1) / 8 := by omega
  have g3 : ¬ Builtin.List.listTooLong (its.toArray.size * k.toNat) = true := by rw [notLongL hm]; simp
  refine wpAny_binaryOp_repeat_ref (T := "list") (U := "int") (by decide) ⟨_, e, rfl⟩ (fun s' => typeIs_int s' k t) noFill_list_mul F.fills_int_mul F.slot_int_rmul repeat_list F.slot_int_index.lookup
    (call_meets F.slot_int_rmul (typeIs_int s k t) F.entry_int_rmul (F.args_int_rmul_2 _ _) (int___rmul___int_list k t l its.toArray n)
      ⟨e, rfl, ⟨_, e, rfl⟩, call_meets F.slot_list_mul ⟨_, e, rfl⟩ F.entry_list_mul (F.args_list_mul_2 _ _) (AutoListH.list___mul___list_int_3 l its.toArray n k t g1 g2 g3) ⟨e, ?_⟩⟩)
  rw [hnew]
  refine ⟨.ref _, _, I.lnew (t' := s.toks) (r.rep k.toNat) ?_, rfl, q _ I.fresh⟩
  rw [PyProof.Rows.lm_len_rep_flat, Nat.mul_comm]
  exact hz
theorem bin_mult : OpR X (binaryOp .Mult) (rBin X.K (binD .Mult)) := by
  intro pins s σ H x y v u Q I rx ry ⟨Z, a, b, r, ha, hb, e, k⟩
  unfold binD at e
  split at e <;> try (first | cases e | skip)
  all_goals try contradiction
  · split at e
    · rename_i hz
      cases e
      cases ha.int; cases hb.int
      rcases mulOk_of hz with h | h
      · exact op_mul pins s σ H _ _ v u Q I rx ry ⟨_, _, rfl, rfl, h, k _ _ .int⟩
      · exact op_mulX pins s σ H _ _ v u Q I rx ry ⟨_, _, rfl, rfl, h, k _ _ .int⟩
    · cases e
  · split at e
    · rename_i ds i _ hz
      cases e
      cases hb.int
      have hT := ha.tupH
      obtain ⟨p, xs, rfl, h1, r1⟩ := ha.tup
      refine op_repA pins s σ H _ _ v u Q I rx ry ⟨p, i, xs, rfl, rfl, h1, hz.1, hz.2.1, by rw [r1.length]; exact hz.2.2, fun w => ?_, fun _ _ p' n => k _ _ (.tup n (r1.rep _))⟩
      have e2 : repD ds i.toNat = ds := by
        rcases w with w | w
        · subst w
          cases r1
          unfold repD
          simp
        · subst w
          simp [repD]
      rw [e2] at k
      exact k _ _ (.old hT)
    · cases e
  · split at e
    · rename_i ds i _ hz
      cases e
      cases hb.int
      obtain ⟨p, xs, rfl, h1, r1⟩ := ha.lst
      exact op_repL pins s σ H _ _ v u Q I rx ry ⟨p, i, xs, rfl, rfl, h1, hz.1, hz.2.1, by rw [r1.length]; exact hz.2.2, fun p' n => k _ _ (.lst n (r1.rep _))⟩
    · cases e
theorem un_negD : UnR X (unaryOp .USub) (rUn X.K fun d => match d with | .int i => some (.fz (.int (-i))) | _ => none) := by
  intro pins s σ H x v Q I rx ⟨Z, a, r, ha, e, k⟩
  cases a <;> try (cases e; done)
  cases e
  cases ha.int
  exact un_neg pins s σ H _ v Q I rx ⟨_, rfl, k _ _ .int⟩
/-! ### comparisons -/
mutual
theorem Dv.dp {K : PySem.W.Frag} {H : Hp} : ∀ (d : D) (v : V), Dv K H v d → d.canLay0 = true → Dp K H v d
  | .none, _, q, _ => by cases q; exact .non
  | .bool _, _, q, _ => by cases q; exact .bl _
  | .int _, _, q, _ => by cases q; exact .int _
  | .str _, _, q, _ => by cases q; exact .str _
  | .list ds, _, q, c => by
    cases q with
    | lst s r => exact .lst (.inl s) (DvAll.dp ds _ r (by simpa [PyData.canLay0] using c))
  | .tuple ds, _, q, c => by
    cases q with
    | tup s r => exact .tup s (DvAll.dp ds _ r (by simpa [PyData.canLay0] using c))
  | .dict _, _, q, c => by simp [PyData.canLay0] at c
theorem DvAll.dp {K : PySem.W.Frag} {H : Hp} : ∀ (ds : List D) (vs : List V), DvAll K H vs ds → PyData.canLayAll0 ds = true → DpAll K H vs ds
  | [], _, q, _ => by cases q; exact .nil
  | d :: ds, _, q, c => by
    have c' : d.canLay0 = true ∧ PyData.canLayAll0 ds = true := by simpa [PyData.canLayAll0] using c
    cases q with
    | cons a b => exact .cons (Dv.dp d _ a c'.1) (DvAll.dp ds _ b c'.2)
end
/-- a comparison's reading -/
def rCm (K : PySem.W.Frag) (f : D → D → Option Bool) : R2 := rBin K fun p q => (f p q).map fun b => .fz (.bool b)
theorem cm_of {op : CmpOp} (h : ∀ (pins : List (Addr × Obj)) (s : Shared) (σ : L2.St) (H : Hp) (x y : V) (v u : Value) (Q : VK) (Z : Addr → Prop) (a b : D) (t : Bool), Inv X pins σ H s → RelV x v → RelV y u → Ct X.K Z H x a → Ct X.K Z H y b → cmpD op a b = some t → Q (.bl t) H →
    wpAny (model X.prog X.w) X.A (compareOp op v u) (EP X pins σ Q) X.xe s) : OpR X (compareOp op) (rCm X.K (cmpD op)) := by
  intro pins s σ H x y v u Q I rx ry ⟨Z, a, b, r, ha, hb, e, k⟩
  replace e : (cmpD op a b).map (fun b => Rv.fz (.bool b)) = some r := e
  cases g : cmpD op a b with
  | none => rw [g] at e; cases e
  | some t =>
    rw [g] at e
    cases e
    exact h pins s σ H x y v u Q Z a b t I rx ry ha hb g (k _ _ .bool)
theorem eqD_inv {a b : D} {t : Bool} (e : eqD a b = some t) : (∃ x y, a = .str x ∧ b = .str y ∧ t = decide (x = y)) ∨ (SeqAt.shaped a = true ∧ SeqAt.shaped b = true ∧ t = PyData.eqv a b) := by
  unfold eqD at e
  split at e
  · rename_i p hp
    cases e
    unfold twoS at hp
    split at hp
    · cases hp; exact .inl ⟨_, _, rfl, rfl, rfl⟩
    · cases hp
  · split at e
    · rename_i hz
      cases e
      exact .inr ⟨hz.1, hz.2, rfl⟩
    · cases e
theorem cm_eq (hu : X.A.units + 64 < cLine) : OpR X (compareOp .Eq) (rCm X.K (cmpD .Eq)) := cm_of fun pins s σ H x y v u Q Z a b t I rx ry ha hb e q => by
  have e' : eqD a b = some t := by cases a <;> exact e
  rcases eqD_inv e' with ⟨p, r, rfl, rfl, rfl⟩ | ⟨h1, h2, rfl⟩
  · cases ha.str; cases hb.str
    refine op_eq pins s σ H _ _ v u Q I rx ry ⟨rfl, ?_⟩
    have : decide (V.str p = V.str r) = decide (p = r) := by
      rw [Bool.eq_iff_iff]
      simp
    rw [this]
    exact q
  · exact op_eqD hu pins s σ H x y v u Q I rx ry ⟨a, b, Dv.dp _ _ ha.full (SeqAt.canLay_of_shaped h1), Dv.dp _ _ hb.full (SeqAt.canLay_of_shaped h2), h1, h2, q⟩
theorem cm_ne (hu : X.A.units + 64 < cLine) : OpR X (compareOp .NotEq) (rCm X.K (cmpD .NotEq)) := cm_of fun pins s σ H x y v u Q Z a b t I rx ry ha hb e q => by
  have e0 : (eqD a b).map (!·) = some t := by cases a <;> exact e
  cases e' : eqD a b with
  | none => rw [e'] at e0; cases e0
  | some t0 =>
    rw [e'] at e0
    cases e0
    rcases eqD_inv e' with ⟨p, r, rfl, rfl, rfl⟩ | ⟨h1, h2, rfl⟩
    · cases ha.str; cases hb.str
      refine op_ne pins s σ H _ _ v u Q I rx ry ⟨rfl, ?_⟩
      have : decide (V.str p = V.str r) = decide (p = r) := by
        rw [Bool.eq_iff_iff]
        simp
      rw [this]
      exact q
    · exact op_neD hu pins s σ H x y v u Q I rx ry ⟨a, b, Dv.dp _ _ ha.full (SeqAt.canLay_of_shaped h1), Dv.dp _ _ hb.full (SeqAt.canLay_of_shaped h2), h1, h2, q⟩
theorem cm_lt : OpR X (compareOp .Lt) (rCm X.K (cmpD .Lt)) := cm_of fun pins s σ H x y v u Q Z a b t I rx ry ha hb e q => by
  cases a <;> cases b <;> simp only [cmpD] at e <;> try (cases e; done)
  cases e
  cases ha.int; cases hb.int
  exact op_lt pins s σ H _ _ v u Q I rx ry ⟨_, _, rfl, rfl, q⟩
theorem cm_le : OpR X (compareOp .LtE) (rCm X.K (cmpD .LtE)) := cm_of fun pins s σ H x y v u Q Z a b t I rx ry ha hb e q => by
  cases a <;> cases b <;> simp only [cmpD] at e <;> try (cases e; done)
  cases e
  cases ha.int; cases hb.int
  exact op_le pins s σ H _ _ v u Q I rx ry ⟨_, _, rfl, rfl, q⟩
theorem cm_gt : OpR X (compareOp .Gt) (rCm X.K (cmpD .Gt)) := cm_of fun pins s σ H x y v u Q Z a b t I rx ry ha hb e q => by
  cases a <;> cases b <;> simp only [cmpD] at e <;> try (cases e; done)
  cases e
  cases ha.int; cases hb.int
  exact op_gt pins s σ H _ _ v u Q I rx ry ⟨_, _, rfl, rfl, q⟩
theorem cm_ge : OpR X (compareOp .GtE) (rCm X.K (cmpD .GtE)) := cm_of fun pins s σ H x y v u Q Z a b t I rx ry ha hb e q => by
  cases a <;> cases b <;> simp only [cmpD] at e <;> try (cases e; done)
  cases e
  cases ha.int; cases hb.int
  exact op_ge pins s σ H _ _ v u Q I rx ry ⟨_, _, rfl, rfl, q⟩
theorem Dv.non_iff {K : PySem.W.Frag} {H : Hp} {v : V} {d : D} (h : Dv K H v d) : v = .non ↔ d = .none := by
  cases h <;> simp
theorem cm_is : OpR X (compareOp .Is) (rCm X.K (cmpD .Is)) := cm_of fun pins s σ H x y v u Q Z a b t I rx ry ha hb e q => by
  have hn := ha.full.non_iff
  cases b with
  | none =>
    cases hb.none
    refine op_isN pins s σ H _ _ v u Q I rx ry ⟨rfl, ?_⟩
    have : decide (x = V.non) = t := by
      cases a <;> simp only [cmpD] at e <;> cases e
      · exact decide_eq_true (hn.mpr rfl)
      all_goals exact decide_eq_false fun w => by have := hn.mp w; cases this
    rw [this]
    exact q
  | bool j =>
    cases a <;> simp only [cmpD] at e <;> try (cases e; done)
    cases e
    cases ha.bool; cases hb.bool
    exact op_isBl pins s σ H _ _ v u Q I rx ry ⟨_, _, rfl, rfl, q⟩
  | _ => cases a <;> simp [cmpD] at e
theorem cm_isNot : OpR X (compareOp .IsNot) (rCm X.K (cmpD .IsNot)) := cm_of fun pins s σ H x y v u Q Z a b t I rx ry ha hb e q => by
  have hn := ha.full.non_iff
  cases b with
  | none =>
    cases hb.none
    refine op_notN pins s σ H _ _ v u Q I rx ry ⟨rfl, ?_⟩
    have : (!decide (x = V.non)) = t := by
      cases a <;> simp only [cmpD] at e <;> cases e
      · rw [decide_eq_true (hn.mpr rfl)]; rfl
      all_goals (rw [decide_eq_false fun w => by have := hn.mp w; cases this]; rfl)
    rw [this]
    exact q
  | bool j =>
    cases a <;> simp only [cmpD] at e <;> try (cases e; done)
    cases e
    cases ha.bool; cases hb.bool
    exact op_notBl pins s σ H _ _ v u Q I rx ry ⟨_, _, rfl, rfl, q⟩
  | _ => cases a <;> simp [cmpD] at e
theorem scal_flat {K : PySem.W.Frag} {H : Hp} {v : V} {d : D} (h : Dv K H v d) (s : isScal d = true) : flatV v = true := by
  cases h <;> simp [isScal] at s <;> rfl
theorem scal_eq {K : PySem.W.Frag} {H : Hp} {v w : V} {d e : D} (h : Dv K H v d) (k : Dv K H w e) (s : isScal d = true) (t : isScal e = true) : eqV v w = PyData.eqv d e := by
  cases h <;> cases k <;> simp [isScal] at s t <;> simp [eqV, PyData.eqv]
theorem flat_all {K : PySem.W.Frag} {H : Hp} : ∀ {vs : List V} {ds : List D}, DvAll K H vs ds → ds.all isScal = true → vs.all flatV = true
  | _, _, .nil, _ => rfl
  | _, _, .cons a r, s => by
    rw [List.all_cons, Bool.and_eq_true] at s
    rw [List.all_cons, scal_flat a s.1, flat_all r s.2]
    rfl
theorem inV_eq {K : PySem.W.Frag} {H : Hp} {x : V} {a : D} (h : Dv K H x a) (sa : isScal a = true) : ∀ {vs : List V} {ds : List D}, DvAll K H vs ds → ds.all isScal = true → inV x vs = ds.any fun y => PyData.eqv y a
  | _, _, .nil, _ => rfl
  | _, _, .cons b r, s => by
    rw [List.all_cons, Bool.and_eq_true] at s
    have ih := inV_eq h sa r s.2
    unfold inV at ih ⊢
    rw [List.any_cons, List.any_cons, ih, scal_eq b h s.1 sa]
theorem cm_in : OpR X (compareOp .In) (rCm X.K (cmpD .In)) := cm_of fun pins s σ H x y v u Q Z a b t I rx ry ha hb e q => by
  have go : ∀ (ds : List D) (p : Addr) (xs : List V), y = .ref p → (SqL X.K H p xs ∨ SqT X.K H p xs) → DvAll X.K (hid Z H) xs ds → isScal a = true → ds.all isScal = true → t = (ds.any fun y => PyData.eqv y a) → wpAny (model X.prog X.w) X.A (compareOp .In v u) (EP X pins σ Q) X.xe s := by
    intro ds p xs hy hs r s1 s2 et
    have r' := DvAll.mono hid_sub _ _ r
    refine op_in_seq pins s σ H x y v u Q I rx ry ⟨p, xs, hy, hs, scal_flat ha.full s1, flat_all r' s2, ?_⟩
    rw [if_neg (by simp), inV_eq ha.full s1 r' s2, ← et]
    exact q
  cases b <;> simp only [cmpD] at e <;> try (cases e; done)
  · split at e
    · rename_i hz
      obtain ⟨p, xs, hy, h1, r1⟩ := hb.lst
      exact go _ p xs hy (.inl (.inl h1)) r1 hz.1 hz.2 (Option.some.inj e).symm
    · cases e
  · split at e
    · rename_i hz
      obtain ⟨p, xs, hy, h1, r1⟩ := hb.tup
      exact go _ p xs hy (.inr h1) r1 hz.1 hz.2 (Option.some.inj e).symm
    · cases e
theorem cm_notIn : OpR X (compareOp .NotIn) (rCm X.K (cmpD .NotIn)) := cm_of fun pins s σ H x y v u Q Z a b t I rx ry ha hb e q => by
  have go : ∀ (ds : List D) (p : Addr) (xs : List V), y = .ref p → (SqL X.K H p xs ∨ SqT X.K H p xs) → DvAll X.K (hid Z H) xs ds → isScal a = true → ds.all isScal = true → t = (!ds.any fun y => PyData.eqv y a) → wpAny (model X.prog X.w) X.A (compareOp .NotIn v u) (EP X pins σ Q) X.xe s := by
    intro ds p xs hy hs r s1 s2 et
    have r' := DvAll.mono hid_sub _ _ r
    refine op_notIn_seq pins s σ H x y v u Q I rx ry ⟨p, xs, hy, hs, scal_flat ha.full s1, flat_all r' s2, ?_⟩
    rw [if_pos rfl, inV_eq ha.full s1 r' s2, ← et]
    exact q
  cases b <;> simp only [cmpD] at e <;> try (cases e; done)
  · split at e
    · rename_i hz
      obtain ⟨p, xs, hy, h1, r1⟩ := hb.lst
      exact go _ p xs hy (.inl (.inl h1)) r1 hz.1 hz.2 (Option.some.inj e).symm
    · cases e
  · split at e
    · rename_i hz
      obtain ⟨p, xs, hy, h1, r1⟩ := hb.tup
      exact go _ p xs hy (.inr h1) r1 hz.1 hz.2 (Option.some.inj e).symm
    · cases e
end
end Cr
set_option Elab.async false
set_option linter.all false
set_option maxRecDepth 100000
set_option maxHeartbeats 4000000
namespace Cr
open PySem PySem.Spec PyProof.Rows L2
/-! ### items, slices -/
theorem DvAll.atI {K : PySem.W.Frag} {H : Hp} {vs : List V} {ds : List D} {k : Int} {d : D} (r : DvAll K H vs ds) (h : L2.atI ds k = some d) : ∃ v, L2.atI vs k = some v ∧ Dv K H v d := by
  unfold L2.atI at h ⊢
  rw [r.length]
  cases e : ixN ds.length k with
  | none => rw [e] at h; cases h
  | some j =>
    rw [e] at h
    exact r.at h
section
variable {X : Cx}
theorem ix_D : IxR X (rBin X.K fun p q => (idxD p q).map .fz) := by
  intro value slice pins s σ H x y v u Q I rx ry ⟨Z, a, b, r, ha, hb, e, k⟩ hs
  replace e : (idxD a b).map Rv.fz = some r := e
  cases g : idxD a b with
  | none => rw [g] at e; cases e
  | some d =>
    rw [g] at e
    cases e
    unfold idxD at g
    split at g
    · obtain ⟨p, xs, rfl, h1, r1⟩ := ha.lst
      cases hb.int
      obtain ⟨w, hw, dw⟩ := r1.atI g
      exact ix_seq value slice pins s σ H _ _ v u Q I rx ry (.inl ⟨_, _, _, _, rfl, rfl, .inl h1, hw, k _ _ (.old dw)⟩) hs
    · obtain ⟨p, xs, rfl, h1, r1⟩ := ha.tup
      cases hb.int
      obtain ⟨w, hw, dw⟩ := r1.atI g
      exact ix_seq value slice pins s σ H _ _ v u Q I rx ry (.inr (.inl ⟨_, _, _, _, rfl, rfl, h1, hw, k _ _ (.old dw)⟩)) hs
    · cases ha.str
      cases hb.int
      split at g
      · rename_i z k' hz
        cases g2 : L2.atI z.cps.toList k' with
        | none => rw [g2] at g; cases g
        | some c =>
          rw [g2] at g
          cases g
          exact ix_seq value slice pins s σ H _ _ v u Q I rx ry (.inr (.inr ⟨_, _, c, rfl, rfl, hz, g2, k _ _ .str⟩)) hs
      · cases g
    · cases g
/-- a slice's reading -/
def rSlD (K : PySem.W.Frag) : V → Option Int → Option Int → Hp → VK → Prop := fun x lo hi H Q => ∃ Z a r, Ct K Z H x a ∧ slcD a lo hi = some r ∧ ∀ v H', NewR K Z H v H' r → Q v H'
theorem cutD_str (z : Str) (lo hi : Option Int) : (⟨(cutD z.cps.toList lo hi).toArray⟩ : Str) = cutS z lo hi := by
  unfold cutD cutS
  rw [Array.length_toList]
  rfl
theorem sl_D : L2.SlR X (rSlD X.K) := by
  intro pins s σ H x v vl vu lo hi sl Q I rx hs pl pu ⟨Z, a, r, ha, e, k⟩
  unfold slcD at e
  split at e
  · cases e
    obtain ⟨p, xs, rfl, h1, r1⟩ := ha.lst
    exact sl_list pins s σ H _ v vl vu lo hi sl Q I rx hs pl pu ⟨p, xs, rfl, .inl h1, fun p' n => k _ _ (.lst n (cutD_of r1))⟩
  · cases e
    have hT := ha.tupH
    obtain ⟨p, xs, rfl, h1, r1⟩ := ha.tup
    refine sl_tupA pins s σ H _ v vl vu lo hi sl Q I rx hs pl pu ⟨p, xs, rfl, h1, fun w => ?_, fun _ p' n => k _ _ (.tup n (cutD_of r1))⟩
    rename_i ds
    have e2 : cutD ds lo hi = ds := by
      unfold cutD
      rw [← r1.length, w.1, w.2, List.drop_zero, Nat.sub_zero, r1.length, List.take_length]
    rw [e2] at k
    exact k _ _ (.old hT)
  · cases ha.str
    split at e
    · rename_i hz
      cases e
      rw [cutD_str] at k
      exact sl_str pins s σ H _ v vl vu lo hi sl Q I rx hs pl pu ⟨_, rfl, hz, k _ _ .str⟩
    · cases e
  · cases e
end
/-! ### the other way round -/
section
variable {prog : Program} {w : World} {A : Around} {E : Value → Shared → Prop} {s : Shared}
theorem sliceApplied_rev {sl : Addr} {vl vu vs : Value} {n : Nat} {Q : Int × Int × Nat → Shared → Prop} (hs : s.heap.IsSliceOf sl vl vu vs) (pl : IsPart vl none) (pu : IsPart vu none) (ps : IsPart vs (some (-1)))
    (h : Q ((n : Int) - 1, -1, n) s) : wpAny (model prog w) A (Builtin.Slice.sliceApplied (.ref sl) (pure (n : Int))) Q E s := by
  obtain ⟨os, hos, hcs, hds⟩ := id hs
  unfold Builtin.Slice.sliceApplied Builtin.Slice.sliceFields
  refine wpAny_bind (wpAny_bind (wpAny_field hos hds (x := vl) rfl (wpAny_bind (wpAny_field hos hds (x := vu) rfl (wpAny_bind (wpAny_field hos hds (x := vs) rfl (wpAny_pure ?_)))))))
  refine wpAny_bind (HT.slicePart_ ps ?_)
  show wpAny _ _ (if ((-1 : Int) == 0) = true then _ else _) _ _ s
  rw [if_neg (by decide)]
  refine wpAny_bind (HT.slicePart_ pl (wpAny_bind (HT.slicePart_ pu (wpAny_bind (wpAny_pure ?_)))))
  show wpAny _ _ (match Builtin.Slice.sliceAdjust none none (-1) (n : Int) with | (lo, hi) => pure (lo, (-1 : Int), Builtin.Slice.slicePlaces lo hi (-1))) _ _ s
  have e1 : Builtin.Slice.sliceAdjust none none (-1) (n : Int) = ((n : Int) - 1, -1) := rfl
  rw [e1]
  show wpAny _ _ (pure ((n : Int) - 1, (-1 : Int), Builtin.Slice.slicePlaces ((n : Int) - 1) (-1) (-1))) _ _ s
  have e2 : Builtin.Slice.slicePlaces ((n : Int) - 1) (-1) (-1) = n := by
    unfold Builtin.Slice.slicePlaces
    rw [if_neg (by decide)]
    split
    · have : ((n : Int) - 1 - -1 - 1) / (- -1) + 1 = (n : Int) := by
        rw [show (- -1 : Int) = 1 by decide, Int.ediv_one]
        omega
      rw [this]
      simp
    · have : n = 0 := by omega
      subst this
      rfl
  rw [e2]
  exact wpAny_pure h
theorem pick_rev (xs : Array Value) : ((List.range xs.size).filterMap fun (m : Nat) => xs[((xs.size : Int) - 1 + (m : Int) * (-1)).toNat]?).toArray = xs.toList.reverse.toArray := by
  have e : ((List.range xs.size).filterMap fun (m : Nat) => xs[((xs.size : Int) - 1 + (m : Int) * (-1)).toNat]?) = (List.range xs.size).filterMap (fun m => xs[xs.size - 1 - m]?) := by
    have go : ∀ l : List Nat, (∀ m ∈ l, m < xs.size) → (l.filterMap fun (m : Nat) => xs[((xs.size : Int) - 1 + (m : Int) * (-1)).toNat]?) = l.filterMap (fun m => xs[xs.size - 1 - m]?) := by
      intro l
      induction l with
      | nil => intro _; rfl
      | cons m r ih =>
        intro hm
        have h := hm m List.mem_cons_self
        have e1 : ((xs.size : Int) - 1 + (m : Int) * (-1)).toNat = xs.size - 1 - m := by omega
        rw [List.filterMap_cons, List.filterMap_cons, e1, ih fun q hq => hm q (List.mem_cons_of_mem _ hq)]
    exact go _ fun m hm => List.mem_range.mp hm
  rw [e]
  have := PySem.W.krv_range xs.size
  have e3 : (List.range xs.size).filterMap (fun m => xs[xs.size - 1 - m]?) = ((List.range xs.size).map (fun k => xs.size - 1 - k)).filterMap (xs[·]?) := by
    rw [List.filterMap_map]
    rfl
  rw [e3, this, List.filterMap_reverse, PySem.W.krv_all]
theorem getItem_tuple_rev {t sl : Addr} {items : Array Value} {vl vu vs : Value} {Q : Value → Shared → Prop} (ht : IsTup s.heap t items) (hs : s.heap.IsSliceOf sl vl vu vs) (pl : IsPart vl none) (pu : IsPart vu none) (ps : IsPart vs (some (-1)))
    (h : Q (.ref s.heap.objs.size) { s with heap := s.heap.push { cls := .type "tuple", data := .seq items.toList.reverse.toArray } })
    (hsz : items.size ≤ sizeLine) : wpAny (model prog w) A (getItem (.ref t) (.ref sl)) Q E s := by
  have hz : sizeOk (.seq items.toList.reverse.toArray) := by
    show items.toList.reverse.toArray.size ≤ sizeLine
    rw [List.size_toArray, List.length_reverse, Array.length_toList]
    exact hsz
  obtain ⟨os, hos, hcs, hds⟩ := id hs
  have hTs : s.TypeIs (.ref sl) "slice" := ⟨os, hos, hcs⟩
  unfold getItem
  try with_reducible refine wpAny_holding ?_
  first | refine wpAny_bind (wpAny_pure ?_) | skip
  refine wpAny_bind (wpAny_sequenceKey ht.typeIs (by decide) ?_)
  refine wpAny_bind (wpAny_callSpecial?_slot (name := Str.ofString "__getitem__") ht.typeIs PyProof.Rows.slot_tuple_getitem
    (wpAny_call_entry PyProof.Rows.slot_tuple_getitem ht.typeIs entry_tuple_getitem ?_ (args_tuple_getitem _ _)))
  show wpAny _ _ (Builtin.Tuple.tupleItemsOf (.ref t) >>= _) _ _ s
  refine wpAny_bind (tupleItemsOf_ ht ?_)
  refine wpAny_bind (wpAny_typeOf hTs ?_)
  rw [if_pos (by decide)]
  refine wpAny_bind (sliceApplied_rev hs pl pu ps ?_)
  have hno : ¬ (((items.size : Int) - 1 == 0 && (-1 : Int) == 1 && items.size == items.size) = true) := by
    intro q
    simp at q
  show wpAny _ _ (if ((items.size : Int) - 1 == 0 && (-1 : Int) == 1 && items.size == items.size) = true then _ else _) _ _ s
  rw [if_neg hno, pick_rev]
  first
    | exact wpAny_bind (m := Builtin.Tuple.tupleExact _) (wpAny_newObj_type (wpAny_pure ⟨_, rfl, wpAny_pure h⟩) hz)
    | exact wpAny_bind (m := Builtin.Tuple.tupleExact _) (wpAny_newObj_type (wpAny_bind (wpAny_pure (wpAny_pure ⟨_, rfl, wpAny_pure h⟩))) hz)
    | exact wpAny_bind (wpAny_bind (m := Builtin.Tuple.tupleExact _) (wpAny_newObj_type (wpAny_pure (wpAny_pure ⟨_, rfl, wpAny_pure h⟩)) hz))
    | exact wpAny_bind (wpAny_bind (m := Builtin.Tuple.tupleExact _) (wpAny_newObj_type (wpAny_pure ⟨_, rfl, wpAny_pure h⟩) hz))
end
section
variable {X : Cx}
theorem pe_revD {e : Expr} {te : TE} {k : Nat} {p1 p2 p3 pos : Pos} (he : PE X e te) : PE X (.Subscript e (.Slice none none (some (.UnaryOp .USub (.Constant (.int 1) k p1) p2)) p3) pos) (tUn (rUn X.K revD) te) := by
  refine ⟨fun pins s σ H Q I h => ?_⟩
  refine Subscript_ (thn (he.run pins s σ H _ I h) fun v s1 ⟨x, H1, I1, r1, Z, a, r, ha, er, kq⟩ => ?_)
  have hst : PO X (some (.UnaryOp .USub (.Constant (.int 1) k p1) p2)) (tPart (tUn (rU fun i => .int (-i)) (tC (.int 1)))) := po_some (pe_un un_neg pe_int)
  refine wpAny_Slice (thn (po_none.run pins s1 σ H1 (fun o H2 => o = none ∧ H2 = H1) I1 ⟨rfl, rfl⟩) fun vl s2 ⟨l, H2, I2, pl, el, e2⟩ => ?_)
  subst el e2
  refine thn (po_none.run pins s2 σ H2 (fun o H3 => o = none ∧ H3 = H2) I2 ⟨rfl, rfl⟩) fun vu s3 ⟨u, H3, I3, pu, eu, e3⟩ => ?_
  subst eu e3
  refine thn (hst.run pins s3 σ H3 (fun o H4 => o = some (-1) ∧ H4 = H3) I3 ⟨1, rfl, -1, rfl, rfl, rfl⟩) fun vs s4 ⟨o, H4, I4, ps, eo, e4⟩ => ?_
  subst eo e4
  have I5 : Inv X pins σ H4 { s4 with heap := s4.heap.push { cls := .type "slice", data := .fields #[vl, vu, vs] } } := I4.kept (t' := s4.toks) fun b ob q => Heap.get?_push_of_some _ q
  unfold revD at er
  split at er
  · cases er
    obtain ⟨p, xs, rfl, h1, d1⟩ := ha.lst
    cases r1
    obtain ⟨its, r, ht, hz⟩ := I5.list (.inl h1)
    have hlen := r.length
    show wpAny (model X.prog X.w) X.A (subscriptTail e (.Slice none none (some (.UnaryOp .USub (.Constant (.int 1) k p1) p2)) p3) (.ref p) (.ref s4.heap.objs.size)) (EP X pins σ Q) X.xe { s4 with heap := s4.heap.push { cls := .type "slice", data := .fields #[vl, vu, vs] } }
    refine tail_any (ops := [.ref p, .ref s4.heap.objs.size]) ht.isList.typeIs (PySem.slot_list_getitem.lookup) ?_ (by with_unfolding_all rfl)
    refine wpAny_getItem_list_slice ht.isList (Heap.IsSliceOf.new _ vl vu vs) pl pu ps (by decide) ?_ (by rw [List.size_toArray]; omega)
    rw [PySem.W.krv_pick]
    refine ⟨.ref _, _, I5.laid (t' := s4.toks) (o := .lst xs.reverse) (fun b ob q => Heap.get?_push_of_some _ q) (Nat.le_refl _) ?_, rfl, kq _ _ (.lst (I5.hok.fresh (Nat.le_refl _)) d1.reverse)⟩
    exact ⟨by rw [List.length_reverse]; exact hz, _, 0, r.reverse, Heap.get?_push_size _ rfl⟩
  · cases er
    obtain ⟨p, xs, rfl, h1, d1⟩ := ha.tup
    cases r1
    obtain ⟨its, r, ht, hz⟩ := I5.tuple h1
    have hlen := r.length
    show wpAny (model X.prog X.w) X.A (subscriptTail e (.Slice none none (some (.UnaryOp .USub (.Constant (.int 1) k p1) p2)) p3) (.ref p) (.ref s4.heap.objs.size)) (EP X pins σ Q) X.xe { s4 with heap := s4.heap.push { cls := .type "slice", data := .fields #[vl, vu, vs] } }
    refine tail_any (ops := [.ref p, .ref s4.heap.objs.size]) ht.typeIs (PyProof.Rows.slot_tuple_getitem.lookup) ?_ (by with_unfolding_all rfl)
    refine getItem_tuple_rev ht (Heap.IsSliceOf.new _ vl vu vs) pl pu ps ?_ (by rw [List.size_toArray]; omega)
    refine ⟨.ref _, _, I5.laid (t' := s4.toks) (o := .tup xs.reverse) (fun b ob q => Heap.get?_push_of_some _ q) (Nat.le_refl _) ?_, rfl, kq _ _ (.tup (I5.hok.fresh (Nat.le_refl _)) d1.reverse)⟩
    exact ⟨by rw [List.length_reverse]; exact hz, _, r.reverse, IsTup.new _ _⟩
  · cases er
/-! ### isinstance -/
def Ty.n : Ty → String
  | .int => "int" | .bool => "bool" | .str => "str" | .tuple => "tuple" | .list => "list"
theorem tyx_D {K : PySem.W.Frag} {H : Hp} {v : V} {d : D} (h : Dv K H v d) (t : Ty) : ∃ u, TyX K H v u ∧ PySem.W.kitOne K u (.type t.n) = some (isD d t) := by
  cases h with
  | non => exact ⟨_, .base .non, by cases t <;> first | exact kit_ty (r := true) (by decide +kernel) | exact kit_ty (r := false) (by decide +kernel)⟩
  | bl b => exact ⟨_, .base (.bl b), by cases t <;> first | exact kit_ty (r := true) (by decide +kernel) | exact kit_ty (r := false) (by decide +kernel)⟩
  | int i => exact ⟨_, .base (.int i), by cases t <;> first | exact kit_ty (r := true) (by decide +kernel) | exact kit_ty (r := false) (by decide +kernel)⟩
  | str x => exact ⟨_, .base (.str x), by cases t <;> first | exact kit_ty (r := true) (by decide +kernel) | exact kit_ty (r := false) (by decide +kernel)⟩
  | lst s _ =>
    rcases s with s | ⟨o, s⟩
    · exact ⟨_, .base (.lst s), by cases t <;> first | exact kit_ty (r := true) (by decide +kernel) | exact kit_ty (r := false) (by decide +kernel)⟩
    · exact ⟨_, .base (.frz s), by cases t <;> first | exact kit_ty (r := true) (by decide +kernel) | exact kit_ty (r := false) (by decide +kernel)⟩
  | tup s _ =>
    rcases s with (s | ⟨o, s⟩) | ⟨o, its, n, hk, hc, _⟩
    · exact ⟨_, .base (.tup s), by cases t <;> first | exact kit_ty (r := true) (by decide +kernel) | exact kit_ty (r := false) (by decide +kernel)⟩
    · exact ⟨_, .fTuple s, by cases t <;> first | exact kit_ty (r := true) (by decide +kernel) | exact kit_ty (r := false) (by decide +kernel)⟩
    · exact ⟨_, .kTuple hk hc, by cases t <;> first | exact kit_ty (r := true) (by decide +kernel) | exact kit_ty (r := false) (by decide +kernel)⟩
  | dct s => exact ⟨_, .base (.dK s), by cases t <;> first | exact kit_ty (r := true) (by decide +kernel) | exact kit_ty (r := false) (by decide +kernel)⟩
end
end Cr
set_option Elab.async false
set_option linter.all false
set_option maxRecDepth 100000
set_option maxHeartbeats 4000000
namespace Cr
open PySem PySem.Spec PyProof.Rows L2
section
variable {X : Cx} {pins : List (Addr × Obj)} {σ : L2.St} {H : Hp} {s : Shared}
mutual
theorem Dv.reads (I : Inv X pins σ H s) (hn : H sysModules = none) : ∀ (d : D) (v : V) (u : Value), Dv X.K H v d → RelV v u → ∃ as, Reads s.heap u d as ∧ sysModules ∉ as
  | .none, _, _, h, r => by
    cases h
    cases r
    exact ⟨_, Reads.none, by simp⟩
  | .bool b, _, _, h, r => by
    cases h
    cases r
    exact ⟨_, Reads.bool b, by simp⟩
  | .int i, _, _, h, r => by
    cases h
    obtain ⟨t, rfl⟩ := r
    exact ⟨_, Reads.int i t, by simp⟩
  | .str x, _, _, h, r => by
    cases h
    obtain ⟨t, rfl⟩ := r
    exact ⟨_, Reads.str x t, by simp⟩
  | .list ds, _, _, h, r => by
    cases h with
    | @lst a xs _ hs ha =>
      cases r
      obtain ⟨_, its, n, rv, _, ho⟩ := rd_lst I hs
      obtain ⟨as, hr, hm⟩ := DvAll.reads I hn ds _ its ha rv
      refine ⟨_, Reads.list ho rfl rfl hr, fun w => ?_⟩
      rcases List.mem_cons.mp w with w | w
      · subst w
        rcases hs with q | ⟨o, q⟩
        · rw [hn] at q; cases q
        · rw [hn] at q; cases q
      · exact hm w
  | .tuple ds, _, _, h, r => by
    cases h with
    | tup hs ha =>
      cases r
      obtain ⟨its, rv, ⟨o, ho, hc, n, hd⟩, _⟩ := I.tuple hs
      obtain ⟨as, hr, hm⟩ := DvAll.reads I hn ds _ its ha rv
      exact ⟨_, Reads.tuple ho hc hd hr, hm⟩
  | .dict kvs, _, _, h, r => by
    cases h with
    | @dct a hs =>
      cases r
      obtain ⟨_, hne, vs, kv, o, es, ep, h1, h2, h3, h4, h5, h6⟩ := I.hok _ _ hs
      cases kv
      have e0 : es.toList = [] := by
        generalize es.toList = l at h5
        cases h5
        rfl
      refine ⟨_, Reads.dict (as := []) (bs := []) h1 h2.1 h3 (by rw [e0]; exact .nil) (by rw [e0]; exact .nil), fun w => ?_⟩
      simp at w
      rw [← w] at hne
      simp at hne
theorem DvAll.reads (I : Inv X pins σ H s) (hn : H sysModules = none) : ∀ (ds : List D) (vs : List V) (us : List Value), DvAll X.K H vs ds → Vals vs us → ∃ as, ReadsAll s.heap us ds as ∧ sysModules ∉ as
  | [], _, _, h, r => by
    cases h
    cases r
    exact ⟨_, ReadsAll.nil, by simp⟩
  | d :: ds, _, _, h, r => by
    cases h with
    | cons h1 h2 =>
      cases r with
      | cons r1 r2 =>
        obtain ⟨as, q1, m1⟩ := Dv.reads I hn d _ _ h1 r1
        obtain ⟨bs, q2, m2⟩ := DvAll.reads I hn ds _ _ h2 r2
        refine ⟨_, ReadsAll.cons q1 q2, fun w => ?_⟩
        rcases List.mem_append.mp w with w | w
        · exact m1 w
        · exact m2 w
end
end
/-- the type of a built-in function's rule -/
def Bt.v : Bt → Value
  | .len => .builtin "len" | .sum => .builtin "sum" | .min => .builtin "min" | .max => .builtin "max" | .min2 => .builtin "min" | .max2 => .builtin "max"
  | .all => .builtin "all" | .any => .builtin "any" | .tuple => .type "tuple" | .list => .type "list" | .int => .type "int" | .abs => .builtin "abs"
  | .repr => .builtin "repr" | .sorted => .builtin "sorted" | .listRange1 => .none | .listRange2 => .none | .tupRange1 => .none | .tupRange2 => .none
theorem Paired.one {α β : Type} {R : α → β → Prop} {xs : List α} {b : β} (h : Paired R xs [b]) : ∃ a, xs = [a] ∧ R a b := by
  cases h with
  | cons r t => cases t; exact ⟨_, rfl, r⟩
theorem Paired.two {α β : Type} {R : α → β → Prop} {xs : List α} {b c : β} (h : Paired R xs [b, c]) : ∃ a a', xs = [a, a'] ∧ R a b ∧ R a' c := by
  cases h with
  | cons r t =>
    obtain ⟨a', e, r'⟩ := Paired.one t
    subst e
    exact ⟨_, _, rfl, r, r'⟩
theorem foldl_min (l : List Int) : ∀ a : Int, (l.foldl (fun a b => if b < a then b else a) a ∈ a :: l) ∧ ∀ y ∈ a :: l, l.foldl (fun a b => if b < a then b else a) a ≤ y := by
  induction l with
  | nil => intro a; exact ⟨List.mem_cons_self, fun y hy => by rw [List.mem_singleton.mp hy]; exact Int.le_refl a⟩
  | cons b r ih =>
    intro a
    rw [List.foldl_cons]
    obtain ⟨h1, h2⟩ := ih (if b < a then b else a)
    have h3 := h2 _ List.mem_cons_self
    have h4 : (if b < a then b else a) ≤ a := by split <;> omega
    have h5 : (if b < a then b else a) ≤ b := by split <;> omega
    refine ⟨?_, fun y hy => ?_⟩
    · rcases List.mem_cons.mp h1 with h | h
      · rw [h]
        split
        · simp
        · simp
      · exact List.mem_cons_of_mem _ (List.mem_cons_of_mem _ h)
    · rcases List.mem_cons.mp hy with e | hy
      · subst e
        exact Int.le_trans h3 h4
      · rcases List.mem_cons.mp hy with e | hy
        · subst e
          exact Int.le_trans h3 h5
        · exact h2 y (List.mem_cons_of_mem _ hy)
theorem foldl_max (l : List Int) : ∀ a : Int, (l.foldl (fun a b => if b > a then b else a) a ∈ a :: l) ∧ ∀ y ∈ a :: l, y ≤ l.foldl (fun a b => if b > a then b else a) a := by
  induction l with
  | nil => intro a; exact ⟨List.mem_cons_self, fun y hy => by rw [List.mem_singleton.mp hy]; exact Int.le_refl a⟩
  | cons b r ih =>
    intro a
    rw [List.foldl_cons]
    obtain ⟨h1, h2⟩ := ih (if b > a then b else a)
    have h3 := h2 _ List.mem_cons_self
    have h4 : a ≤ (if b > a then b else a) := by split <;> omega
    have h5 : b ≤ (if b > a then b else a) := by split <;> omega
    refine ⟨?_, fun y hy => ?_⟩
    · rcases List.mem_cons.mp h1 with h | h
      · rw [h]
        split
        · simp
        · simp
      · exact List.mem_cons_of_mem _ (List.mem_cons_of_mem _ h)
    · rcases List.mem_cons.mp hy with e | hy
      · subst e
        exact Int.le_trans h4 h3
      · rcases List.mem_cons.mp hy with e | hy
        · subst e
          exact Int.le_trans h5 h3
        · exact h2 y (List.mem_cons_of_mem _ hy)
theorem minI_spec {l : List Int} {m : Int} (h : minI l = some m) : m ∈ l ∧ ∀ y ∈ l, m ≤ y := by
  cases l with
  | nil => cases h
  | cons a r =>
    have h' : some (r.foldl (fun a b => if b < a then b else a) a) = some m := h
    cases h'
    exact foldl_min r a
theorem maxI_spec {l : List Int} {m : Int} (h : maxI l = some m) : m ∈ l ∧ ∀ y ∈ l, y ≤ m := by
  cases l with
  | nil => cases h
  | cons a r =>
    have h' : some (r.foldl (fun a b => if b > a then b else a) a) = some m := h
    cases h'
    exact foldl_max r a
theorem insI_perm (a : Int) : ∀ l : List Int, (insI a l).Perm (a :: l)
  | [] => .refl _
  | b :: r => by
    unfold insI
    split
    · exact .refl _
    · exact ((insI_perm a r).cons b).trans (.swap a b r)
theorem sortI_perm : ∀ l : List Int, (sortI l).Perm l
  | [] => .refl _
  | a :: r => (insI_perm a (sortI r)).trans ((sortI_perm r).cons a)
theorem insI_sorted (a : Int) : ∀ l : List Int, l.Pairwise (· ≤ ·) → (insI a l).Pairwise (· ≤ ·)
  | [], _ => by simp [insI]
  | b :: r, h => by
    obtain ⟨h1, h2⟩ := List.pairwise_cons.mp h
    unfold insI
    split
    · rename_i hab
      refine List.pairwise_cons.mpr ⟨fun y hy => ?_, h⟩
      rcases List.mem_cons.mp hy with e | hy
      · rw [e]; exact hab
      · exact Int.le_trans hab (h1 y hy)
    · rename_i hab
      refine List.pairwise_cons.mpr ⟨fun y hy => ?_, insI_sorted a r h2⟩
      rcases List.mem_cons.mp ((insI_perm a r).mem_iff.mp hy) with e | hy
      · rw [e]; omega
      · exact h1 y hy
theorem sortI_sorted : ∀ l : List Int, (sortI l).Pairwise (· ≤ ·)
  | [] => .nil
  | a :: r => insI_sorted a _ (sortI_sorted r)
theorem sorted_one {l l' : List Int} (p : l.Perm l') (h : l.Pairwise (· ≤ ·)) (h' : l'.Pairwise (· ≤ ·)) : l = l' :=
  p.eq_of_pairwise (fun _ _ _ _ a b => Int.le_antisymm a b) h h'
theorem ints_map {K : PySem.W.Frag} {H : Hp} : ∀ l : List Int, DvAll K H (l.map V.int) (l.map PyData.int)
  | [] => .nil
  | a :: r => .cons (.int a) (ints_map r)
end Cr
set_option Elab.async false
set_option linter.all false
set_option maxRecDepth 100000
set_option maxHeartbeats 4000000
namespace Cr
open PySem PySem.Spec PyProof.Rows L2
section
variable {X : Cx}
theorem CallR.impD {f : Value} {r r' : List V → Hp → VK → Prop} (h : CallR X f r) (i : ∀ xs H Q, r' xs H Q → r xs H Q) : CallR X f r' := fun pins s σ H xs us Q I rx w => h pins s σ H xs us Q I rx (i xs H Q w)
theorem bt_len : CallR X (.builtin "len") (rMany X.K (bltD .len)) := by
  intro pins s σ H xs us Q I rx ⟨Z, ds, r, hp, e, k⟩
  unfold bltD at e
  split at e <;> try (first | cases e | skip)
  all_goals try contradiction
  · obtain ⟨x, rfl, hx⟩ := (Paired.one hp)
    obtain ⟨p, xs, rfl, h1, r1⟩ := hx.lst
    rw [← r1.length] at k
    exact call_len_seq pins s σ H _ us Q I rx ⟨p, xs, rfl, .inl (.inl h1), k _ _ .int⟩
  · obtain ⟨x, rfl, hx⟩ := (Paired.one hp)
    obtain ⟨p, xs, rfl, h1, r1⟩ := hx.tup
    rw [← r1.length] at k
    exact call_len_seq pins s σ H _ us Q I rx ⟨p, xs, rfl, .inr h1, k _ _ .int⟩
  · split at e
    · rename_i hz
      cases e
      obtain ⟨x, rfl, hx⟩ := (Paired.one hp)
      cases hx.str
      exact call_len_str pins s σ H _ us Q I rx ⟨_, rfl, hz, k _ _ .int⟩
    · cases e
/-- the sum of a tuple of ints -/
theorem sum_tup {prog : Program} {w : World} {A : Around} {E : Value → Shared → Prop} {s : Shared} {l : Addr} {its : List Value} {ns : List Int} {Q : Value → Shared → Prop} (hh : A.handled = none) (hl : s.heap.IsTuple l its.toArray) (hi : IntsAre its ns)
    (h : ∀ h' tk t', (∀ b o, s.heap.get? b = some o → h'.get? b = some o) → Q (.int ns.sum t') { s with heap := h', toks := tk }) : wpAny (model prog w) A (call (.builtin "sum") [.ref l]) Q E s := by
  obtain ⟨xs, e⟩ := hi.allInts.items
  have hn : numsOf (intItems xs).toList = ns := by rw [← e]; exact hi.numsOf
  rw [nums_intItems] at hn
  rw [e] at hl
  have hlt : l < s.heap.objs.size := by obtain ⟨_, e, _⟩ := hl; exact Heap.lt_size e
  refine PySem.call_sum_walkG (PyProof.Rows.iter_tuple (show IsTup s.heap l (intItems xs) from hl) ?_)
  refine ⟨_, _, _, _, _, _, numAt xs, rfl, Walks.tuple (A := A.in1) hh _ l (Nat.ne_of_lt hlt) (intItems xs), ⟨⟨_, Heap.get?_push_size _ rfl, rfl, rfl⟩, ?_⟩, fun b hb => ?_, (fun _ _ => intItems_at), fun h' tk t' hk => ?_⟩
  · obtain ⟨o, ho, r⟩ := hl
    exact ⟨o, Heap.get?_push_of_some _ ho, r⟩
  · show b < (s.heap.push _).objs.size
    rw [Heap.size_push]
    rcases List.mem_cons.mp hb with rfl | hb
    · exact Nat.lt_succ_self _
    · rcases List.mem_cons.mp hb with rfl | hb
      · exact Nat.lt_succ_of_lt hlt
      · cases hb
  · have := h h' tk t' fun b o e => hk b o (fun hm => by
      rcases List.mem_cons.mp hm with rfl | hm
      · exact absurd (Heap.lt_size e) (Nat.lt_irrefl _)
      · cases hm) (Heap.get?_push_of_some _ e)
    have e2 : preSum (numAt xs) (intItems xs).size = ns.sum := by
      have e3 : (intItems xs).size = xs.size := by simp [intItems]
      rw [e3, preSum_eq, List.take_of_length_le (by simp), hn]
    rw [e2]
    exact this
theorem bt_sum (hc : X.calm = true) : CallR X (.builtin "sum") (rMany X.K (bltD .sum)) := by
  intro pins s σ H xs us Q I rx ⟨Z, ds, r, hp, e, k⟩
  unfold bltD at e
  split at e <;> try (first | cases e | skip)
  all_goals try contradiction
  · obtain ⟨x, rfl, hx⟩ := (Paired.one hp)
    obtain ⟨p, xs, rfl, h1, r1⟩ := hx.lst
    rename_i xs' _
    cases g : intsD xs' with
    | none => rw [g] at e; cases e
    | some l =>
      rw [g] at e
      cases e
      cases r1.ints g
      exact cr_sum hc pins s σ H _ us Q I rx ⟨p, l, rfl, .inl h1, k _ _ .int⟩
  · obtain ⟨x, rfl, hx⟩ := (Paired.one hp)
    obtain ⟨p, xs, rfl, h1, r1⟩ := hx.tup
    rename_i xs' _
    cases g : intsD xs' with
    | none => rw [g] at e; cases e
    | some l =>
      rw [g] at e
      cases e
      cases r1.ints g
      obtain ⟨its, rv, ht, _⟩ := I.tuple h1
      rw [Vals.ref1 rx]
      exact sum_tup (I.ok.hd hc) ht rv.ints fun h' tk t' hk => ⟨.int _, H, I.kept hk, ⟨_, rfl⟩, k _ _ .int⟩
/-- min, max of a tuple of ints -/
theorem reads_int {h : Heap} {v : Value} {i : Int} {as : List Addr} (r : Reads h v (.int i) as) : ∃ t, v = .int i t := by
  cases r
  exact ⟨_, rfl⟩
theorem alike_ints (l : List Int) : PySem.W.AlikeAll (l.map PyData.int) := by
  refine ⟨fun x hx y hy => ?_, fun x hx e => ?_⟩
  · obtain ⟨i, _, rfl⟩ := List.mem_map.mp hx
    obtain ⟨j, _, rfl⟩ := List.mem_map.mp hy
    rfl
  · obtain ⟨i, _, rfl⟩ := List.mem_map.mp hx
    cases e
theorem depth_ints : ∀ l : List Int, PyData.depthAll (l.map PyData.int) = 0
  | [] => rfl
  | a :: r => by simp [PyData.depthAll, PyData.depth, depth_ints r]
theorem intsD_map {ds : List D} {l : List Int} (h : intsD ds = some l) : ds = l.map PyData.int := by
  induction ds generalizing l with
  | nil => cases h; rfl
  | cons d r ih =>
    cases d with
    | int i =>
      have h' : (intsD r).map (i :: ·) = some l := h
      cases g : intsD r with
      | none => rw [g] at h'; cases h'
      | some m =>
        rw [g] at h'
        cases h'
        rw [ih g]
        rfl
    | _ => cases h

theorem minI_fold (a : Int) (l : List Int) : minI (a :: l) = some (l.foldl min a) := by
  unfold minI
  have : (fun a b : Int => if b < a then b else a) = min := by
    funext a b
    show _ = (if a ≤ b then a else b)
    split <;> split <;> omega
  rw [this]
theorem maxI_fold (a : Int) (l : List Int) : maxI (a :: l) = some (l.foldl max a) := by
  unfold maxI
  have : (fun a b : Int => if b > a then b else a) = max := by
    funext a b
    show _ = (if a ≤ b then b else a)
    split <;> split <;> omega
  rw [this]
theorem tup_reads {pins : List (Addr × Obj)} {σ : L2.St} {H : Hp} {s : Shared} {a : Addr} (I : Inv X pins σ H s) {l : List Int} (h : SqT X.K H a (l.map V.int)) : ∃ vs : Array Value, s.heap.IsTuple a vs ∧ ∃ as, ReadsAll s.heap vs.toList (l.map PyData.int) as := by
  obtain ⟨its, rv, p, _⟩ := I.tuple h
  refine ⟨its.toArray, p, ?_⟩
  have go : ∀ (l : List Int) (its : List Value), Vals (l.map V.int) its → ∃ as, ReadsAll s.heap its (l.map PyData.int) as := by
    intro l
    induction l with
    | nil =>
      intro its r
      cases r
      exact ⟨_, .nil⟩
    | cons i l ih =>
      intro its r
      cases r with
      | cons r1 r2 =>
        obtain ⟨t, rfl⟩ := r1
        obtain ⟨as, q⟩ := ih _ r2
        exact ⟨_, .cons (.int i t) q⟩
  simpa using go l its rv
theorem bt_min (hc : X.calm = true) (hu : X.A.units + 64 < cLine) : CallR X (.builtin "min") (rMany X.K (bltD .min)) := by
  intro pins s σ H xs us Q I rx ⟨Z, ds, r, hp, e, k⟩
  unfold bltD at e
  split at e <;> try (first | cases e | skip)
  all_goals try contradiction
  · obtain ⟨x, rfl, hx⟩ := (Paired.one hp)
    obtain ⟨p, xs, rfl, h1, r1⟩ := hx.lst
    rename_i xs' _
    cases g : intsD xs' with
    | none => rw [g] at e; cases e
    | some l =>
      rw [g] at e
      cases g2 : minI l with
      | none =>
        replace e : (minI l).map (fun m => Rv.fz (.int m)) = some r := e
        rw [g2] at e
        cases e
      | some m =>
        replace e : (minI l).map (fun m => Rv.fz (.int m)) = some r := e
        rw [g2] at e
        cases e
        cases r1.ints g
        obtain ⟨m1, m2⟩ := minI_spec g2
        refine cr_min hc pins s σ H _ us Q I rx ⟨p, l, rfl, .inl h1, List.length_pos_of_mem m1, fun m' n1 n2 => ?_⟩
        have : m' = m := Int.le_antisymm (n2 m m1) (m2 m' n1)
        subst this
        exact k _ _ .int
  · obtain ⟨x, rfl, hx⟩ := (Paired.one hp)
    obtain ⟨p, xs, rfl, h1, r1⟩ := hx.tup
    rename_i xs' _
    cases g : intsD xs' with
    | none => rw [g] at e; cases e
    | some l =>
      rw [g] at e
      replace e : (minI l).map (fun m => Rv.fz (.int m)) = some r := e
      cases l with
      | nil => cases e
      | cons a l =>
        rw [minI_fold] at e
        cases e
        cases r1.ints g
        rw [Vals.ref1 rx]
        obtain ⟨vs, ht, as, hr⟩ := tup_reads I h1
        refine PySem.W.min_tuple_data (I.ok.hd hc) ht hr (alike_ints (a :: l)) (by have w := depth_ints (a :: l); rw [List.map_cons] at w; rw [w]; omega) fun i v h' tk bs _ hv hk => ?_
        rw [PySem.W.minD_ints] at hv
        obtain ⟨t, rfl⟩ := reads_int hv
        exact ⟨.int _, H, I.kept (t' := tk) hk, ⟨t, rfl⟩, k _ _ .int⟩
theorem bt_max (hc : X.calm = true) (hu : X.A.units + 64 < cLine) : CallR X (.builtin "max") (rMany X.K (bltD .max)) := by
  intro pins s σ H xs us Q I rx ⟨Z, ds, r, hp, e, k⟩
  unfold bltD at e
  split at e <;> try (first | cases e | skip)
  all_goals try contradiction
  · obtain ⟨x, rfl, hx⟩ := (Paired.one hp)
    obtain ⟨p, xs, rfl, h1, r1⟩ := hx.lst
    rename_i xs' _
    cases g : intsD xs' with
    | none => rw [g] at e; cases e
    | some l =>
      rw [g] at e
      replace e : (maxI l).map (fun m => Rv.fz (.int m)) = some r := e
      cases g2 : maxI l with
      | none =>
        rw [g2] at e
        cases e
      | some m =>
        rw [g2] at e
        cases e
        cases r1.ints g
        obtain ⟨m1, m2⟩ := maxI_spec g2
        refine cr_max hc pins s σ H _ us Q I rx ⟨p, l, rfl, .inl h1, List.length_pos_of_mem m1, fun m' n1 n2 => ?_⟩
        have : m' = m := Int.le_antisymm (m2 m' n1) (n2 m m1)
        subst this
        exact k _ _ .int
  · obtain ⟨x, rfl, hx⟩ := (Paired.one hp)
    obtain ⟨p, xs, rfl, h1, r1⟩ := hx.tup
    rename_i xs' _
    cases g : intsD xs' with
    | none => rw [g] at e; cases e
    | some l =>
      rw [g] at e
      replace e : (maxI l).map (fun m => Rv.fz (.int m)) = some r := e
      cases l with
      | nil => cases e
      | cons a l =>
        rw [maxI_fold] at e
        cases e
        cases r1.ints g
        rw [Vals.ref1 rx]
        obtain ⟨vs, ht, as, hr⟩ := tup_reads I h1
        refine PySem.W.max_tuple_data (I.ok.hd hc) ht hr (alike_ints (a :: l)) (by have w := depth_ints (a :: l); rw [List.map_cons] at w; rw [w]; omega) fun i v h' tk bs _ hv hk => ?_
        rw [PySem.W.maxD_ints] at hv
        obtain ⟨t, rfl⟩ := reads_int hv
        exact ⟨.int _, H, I.kept (t' := tk) hk, ⟨t, rfl⟩, k _ _ .int⟩
theorem bt_min2 (hc : X.calm = true) : CallR X (.builtin "min") (rMany X.K (bltD .min2)) := by
  intro pins s σ H xs us Q I rx ⟨Z, ds, r, hp, e, k⟩
  unfold bltD at e
  split at e <;> try (first | cases e | skip)
  all_goals try contradiction
  obtain ⟨x, y, rfl, hx, hy⟩ := (Paired.two hp)
  cases hx.int; cases hy.int
  exact call_min2 hc pins s σ H _ us Q I rx ⟨_, _, rfl, k _ _ .int⟩
theorem bt_max2 (hc : X.calm = true) : CallR X (.builtin "max") (rMany X.K (bltD .max2)) := by
  intro pins s σ H xs us Q I rx ⟨Z, ds, r, hp, e, k⟩
  unfold bltD at e
  split at e <;> try (first | cases e | skip)
  all_goals try contradiction
  obtain ⟨x, y, rfl, hx, hy⟩ := (Paired.two hp)
  cases hx.int; cases hy.int
  exact call_max2 hc pins s σ H _ us Q I rx ⟨_, _, rfl, k _ _ .int⟩
theorem bt_all (hc : X.calm = true) : CallR X (.builtin "all") (rMany X.K (bltD .all)) := by
  intro pins s σ H xs us Q I rx ⟨Z, ds, r, hp, e, k⟩
  unfold bltD at e
  split at e <;> try (first | cases e | skip)
  all_goals try contradiction
  obtain ⟨x, rfl, hx⟩ := (Paired.one hp)
  obtain ⟨p, xs, rfl, h1, r1⟩ := hx.lst
  rename_i xs' _
  cases g : boolsD xs' with
  | none => rw [g] at e; cases e
  | some l =>
    rw [g] at e
    cases e
    cases r1.bools g
    exact cr_all hc pins s σ H _ us Q I rx ⟨p, l, rfl, .inl h1, k _ _ .bool⟩
theorem bt_any (hc : X.calm = true) : CallR X (.builtin "any") (rMany X.K (bltD .any)) := by
  intro pins s σ H xs us Q I rx ⟨Z, ds, r, hp, e, k⟩
  unfold bltD at e
  split at e <;> try (first | cases e | skip)
  all_goals try contradiction
  obtain ⟨x, rfl, hx⟩ := (Paired.one hp)
  obtain ⟨p, xs, rfl, h1, r1⟩ := hx.lst
  rename_i xs' _
  cases g : boolsD xs' with
  | none => rw [g] at e; cases e
  | some l =>
    rw [g] at e
    cases e
    cases r1.bools g
    exact cr_any hc pins s σ H _ us Q I rx ⟨p, l, rfl, .inl h1, k _ _ .bool⟩
theorem bt_tuple : CallR X (.type "tuple") (rMany X.K (bltD .tuple)) := by
  intro pins s σ H xs us Q I rx ⟨Z, ds, r, hp, e, k⟩
  unfold bltD at e
  split at e <;> try (first | cases e | skip)
  all_goals try contradiction
  · obtain ⟨x, rfl, hx⟩ := (Paired.one hp)
    obtain ⟨p, xs, rfl, h1, r1⟩ := hx.lst
    exact call_tuple_of pins s σ H _ us Q I rx ⟨p, xs, rfl, .inl ⟨.inl h1, fun l n => k _ _ (.tup n r1)⟩⟩
  · obtain ⟨x, rfl, hx⟩ := (Paired.one hp)
    have hT := hx.tupH
    obtain ⟨p, xs, rfl, h1, r1⟩ := hx.tup
    exact call_tuple_of pins s σ H _ us Q I rx ⟨p, xs, rfl, .inr ⟨h1, k _ _ (.old hT)⟩⟩
theorem bt_list : CallR X (.type "list") (rMany X.K (bltD .list)) := by
  intro pins s σ H xs us Q I rx ⟨Z, ds, r, hp, e, k⟩
  unfold bltD at e
  split at e <;> try (first | cases e | skip)
  all_goals try contradiction
  · obtain ⟨x, rfl, hx⟩ := (Paired.one hp)
    obtain ⟨p, xs, rfl, h1, r1⟩ := hx.lst
    exact call_list_of pins s σ H _ us Q I rx ⟨p, xs, rfl, .inl (.inl h1), fun l n => k _ _ (.lst n r1)⟩
  · obtain ⟨x, rfl, hx⟩ := (Paired.one hp)
    obtain ⟨p, xs, rfl, h1, r1⟩ := hx.tup
    exact call_list_of pins s σ H _ us Q I rx ⟨p, xs, rfl, .inr h1, fun l n => k _ _ (.lst n r1)⟩
theorem bt_int : CallR X (.type "int") (rMany X.K (bltD .int)) := by
  intro pins s σ H xs us Q I rx ⟨Z, ds, r, hp, e, k⟩
  unfold bltD at e
  split at e <;> try (first | cases e | skip)
  all_goals try contradiction
  obtain ⟨x, rfl, hx⟩ := (Paired.one hp)
  cases hx.int
  exact call_int1 pins s σ H _ us Q I rx (.inl ⟨_, rfl, k _ _ .int⟩)
theorem bt_abs : CallR X (.builtin "abs") (rMany X.K (bltD .abs)) := by
  intro pins s σ H xs us Q I rx ⟨Z, ds, r, hp, e, k⟩
  unfold bltD at e
  split at e <;> try (first | cases e | skip)
  all_goals try contradiction
  obtain ⟨x, rfl, hx⟩ := (Paired.one hp)
  cases hx.int
  exact call_abs pins s σ H _ us Q I rx ⟨_, rfl, k _ _ .int⟩
theorem bt_sorted : CallR X (.builtin "sorted") (rMany X.K (bltD .sorted)) := by
  intro pins s σ H xs us Q I rx ⟨Z, ds, r, hp, e, k⟩
  unfold bltD at e
  split at e <;> try (first | cases e | skip)
  all_goals try contradiction
  obtain ⟨x, rfl, hx⟩ := (Paired.one hp)
  obtain ⟨p, xs, rfl, h1, r1⟩ := hx.lst
  rename_i xs' _
  cases g : intsD xs' with
  | none => rw [g] at e; cases e
  | some l =>
    rw [g] at e
    replace e : (if l.length < 64 then some (Rv.fr (.list ((sortI l).map .int))) else none) = some r := e
    split at e
    · rename_i h64
      cases e
      cases r1.ints g
      refine cr_sorted pins s σ H _ us Q I rx ⟨p, l, rfl, .inl h1, h64, fun ns' q pm srt n => ?_⟩
      have : ns' = sortI l := sorted_one (pm.trans (sortI_perm l).symm) srt (sortI_sorted l)
      subst this
      exact k _ _ (.lst n (ints_map _))
    · cases e
theorem bt_repr (hg : X.A.guards = some []) (hu : X.A.units + 64 < cLine) (hs : ∃ o, X.K.lookup sysModules = some o) : CallR X (.builtin "repr") (rMany X.K (bltD .repr)) := by
  intro pins s σ H xs us Q I rx ⟨Z, ds, r, hp, e, k⟩
  unfold bltD at e
  split at e <;> try (first | cases e | skip)
  all_goals try contradiction
  rename_i d _
  split at e
  · rename_i hz
    cases e
    obtain ⟨x, rfl, hx⟩ := (Paired.one hp)
    obtain ⟨u, rfl, ru⟩ := vals1 rx
    have hn : H sysModules = none := by
      obtain ⟨o, ho⟩ := hs
      exact (I.bs _ _ (I.ok.mod.kin _ _ ho)).2
    have hf := hx.full
    cases hf with
    | non =>
      cases ru
      exact PySem.P.repr_of_none ⟨.str _, H, I.tok _, ⟨_, rfl⟩, k _ _ .str⟩
    | bl b =>
      cases ru
      exact PySem.P.repr_of_bool ⟨.str _, H, I.tok _, ⟨_, rfl⟩, k _ _ .str⟩
    | int i =>
      obtain ⟨t, rfl⟩ := ru
      exact PySem.P.repr_of_int (by simpa [PyData.showable] using hz.1) ⟨.str _, H, I.tok _, ⟨_, rfl⟩, k _ _ .str⟩
    | str y =>
      obtain ⟨t, rfl⟩ := ru
      exact PySem.P.repr_of_str ⟨.str _, H, I.tok _, ⟨_, rfl⟩, k _ _ .str⟩ hz.2.1
    | lst a b =>
      obtain ⟨as, hr, hm⟩ := Dv.reads I hn _ _ _ (.lst a b) ru
      cases ru
      exact repr_of_reads' hr hz.1 (fun _ => hm) hg (by have := hz.2.2; omega) (fun _ _ q => q) (fun h' u tk hk => ⟨.str _, H, I.kept (t' := tk) hk, ⟨_, rfl⟩, k _ _ .str⟩) hz.2.1
    | tup a b =>
      obtain ⟨as, hr, hm⟩ := Dv.reads I hn _ _ _ (.tup a b) ru
      cases ru
      exact repr_of_reads' hr hz.1 (fun _ => hm) hg (by have := hz.2.2; omega) (fun _ _ q => q) (fun h' u tk hk => ⟨.str _, H, I.kept (t' := tk) hk, ⟨_, rfl⟩, k _ _ .str⟩) hz.2.1
    | dct a =>
      obtain ⟨as, hr, hm⟩ := Dv.reads I hn _ _ _ (.dct a) ru
      cases ru
      exact repr_of_reads' hr hz.1 (fun _ => hm) hg (by have := hz.2.2; omega) (fun _ _ q => q) (fun h' u tk hk => ⟨.str _, H, I.kept (t' := tk) hk, ⟨_, rfl⟩, k _ _ .str⟩) hz.2.1
  · cases e
end
end Cr
set_option Elab.async false
set_option linter.all false
set_option maxRecDepth 100000
set_option maxHeartbeats 4000000
namespace Cr
open PySem PySem.Spec PyProof.Rows L2
/-! ### syntax that stands alone -/
def isPl : Expr → Bool
  | .Starred _ _ => false
  | .Slice _ _ _ _ => false
  | .Set _ _ _ => false
  | .NamedExpr _ _ _ => false
  | .Lambda _ _ _ _ => false
  | _ => true
theorem star1 {e : Expr} (h : isPl e = true) (es : List Expr) (env : Env) : starEach (e :: es) env = (false, eval e env) :: starEach es env := by
  cases e <;> first | rfl | cases h
theorem starAll (env : Env) : ∀ es : List Expr, es.all isPl = true → (starEach es env).any (·.1) = false
  | [], _ => rfl
  | e :: es, h => by
    rw [List.all_cons, Bool.and_eq_true] at h
    rw [star1 h.1, List.any_cons, starAll env es h.2]
    rfl
theorem backTo_any (pos : Pos) (l : List (Bool × Sem Value)) (h : l.any (·.1) = false) : (backTo pos l).any (·.1) = false := by
  unfold backTo
  rw [List.any_map]
  exact h
theorem plIx {e : Expr} (h : isPl e = true) : PlainIx e := by
  intro o i
  cases e <;> first | rfl | cases h
theorem plSet {e : Expr} (h : isPl e = true) (env : Env) (x : Value) : foldedSetIterable e env x = pure x := by
  cases e <;> first | rfl | cases h
theorem plMark {e : Expr} (h : isPl e = true) (op : CmpOp) : behindInMarks op e = false := by
  cases e <;> first | rfl | cases h
section
variable {X : Cx} {K : PySem.W.Frag} {W : WX} {cv : Nat → Value}
theorem bindR {α β γ : Type} (m : Rs α) (f : α → Ev → Rs β) (g : β → Ev → Rs γ) : (m.bind f).bind g = m.bind fun a e => (f a e).bind g := by
  cases m <;> rfl
/-! ### argument lists -/
abbrev tDs (K : PySem.W.Frag) (W : WX) (cv : Nat → Value) (f : Ev → Rs (List D)) : TA := tR K W cv (rDs K) f
abbrev tOs (K : PySem.W.Frag) (W : WX) (cv : Nat → Value) (f : Ev → Rs (List Op)) : TA := tR K W cv (rOs K) f
theorem pa_D0 : PA X [] (tDs K W cv fun e => .ok [] e) := pa_nil.imp fun σ H Q ⟨F, e, Z, R, p⟩ => p [] H Z R .refl .nil
theorem pa_D1 {a : Expr} {es : List Expr} {f : Ev → Rs Rv} {g : Ev → Rs (List D)} (hp : isPl a = true) (ha : PE X a (tE K W cv f)) (hr : PA X es (tDs K W cv g)) :
    PA X (a :: es) (tDs K W cv fun e => (f e).bind fun v e => (g e).bind fun ds e => .ok (v.d :: ds) e) := (pa_cons (pe_D ha) hr (star1 hp _ _)).imp fun σ H Q ⟨F, e, Z, R, p⟩ => by
  have e1 : ((f e).bind fun v e => (g e).bind fun ds e => Rs.ok (v.d :: ds) e) = ((f e).bind fun r e => Rs.ok r.d e).bind fun d e => (g e).bind fun ds e => Rs.ok (d :: ds) e := by
    rw [bindR]
    rfl
  replace p : Pst K W cv (rDs K) F σ e H Z (((f e).bind fun r e => Rs.ok r.d e).bind fun d e => (g e).bind fun ds e => Rs.ok (d :: ds) e) Q := e1 ▸ p
  refine ⟨F, e, Z, R, (p.bind (R1 := rD K) (fun _ _ _ _ _ _ _ _ _ _ k _ q => q) R).mono fun x H1 ⟨d, e1, Z1, R1, k1, q1, p1⟩ => ?_⟩
  refine ⟨F, e1, Z1, R1, (p1.bind (R1 := rDs K) (fun _ _ _ _ _ _ _ _ _ _ k _ q => q) R1).mono fun y H2 ⟨ds, e2, Z2, R2, k2, q2, p2⟩ => ?_⟩
  exact p2 (x :: y) H2 Z2 R2 .refl (.cons (Dv.le (k2.le R1) q1) q2)
theorem pa_O0 : PA X [] (tOs K W cv fun e => .ok [] e) := pa_nil.imp fun σ H Q ⟨F, e, Z, R, p⟩ => p [] H Z R .refl .nil
theorem pa_O1 {a : Expr} {es : List Expr} {f : Ev → Rs Op} {g : Ev → Rs (List Op)} (hp : isPl a = true) (ha : PE X a (tO K W cv f)) (hr : PA X es (tOs K W cv g)) :
    PA X (a :: es) (tOs K W cv fun e => (f e).bind fun v e => (g e).bind fun ds e => .ok (v :: ds) e) := (pa_cons ha hr (star1 hp _ _)).imp fun σ H Q ⟨F, e, Z, R, p⟩ => by
  refine ⟨F, e, Z, R, (Pst.bind (R1 := rO K) (R2 := rOs K) (fun _ _ _ _ _ _ _ _ _ _ k _ q => q) R p).mono fun x H1 ⟨d, e1, Z1, R1, k1, q1, p1⟩ => ?_⟩
  refine ⟨F, e1, Z1, R1, (p1.bind (R1 := rOs K) (fun _ _ _ _ _ _ _ _ _ _ k _ q => q) R1).mono fun y H2 ⟨ds, e2, Z2, R2, k2, q2, p2⟩ => ?_⟩
  exact p2 (x :: y) H2 Z2 R2 .refl (.cons (q1.keep R1 k2) q2)
/-! ### displays -/
theorem pe_tupD {es : List Expr} {k : Nat} {pos : Pos} {f : Ev → Rs (List D)} (h : PA X es (tDs K W cv f)) : PE X (.Tuple es k pos) (tE K W cv fun e => (f e).bind fun ds e => if ds.length ≤ sizeLine then .ok (.fz (.tuple ds)) e else .er) :=
  (pe_tup h).imp fun σ H Q ⟨F, e, Z, R, p⟩ => by
    refine ⟨F, e, Z, R, (Pst.bind (R1 := rDs K) (R2 := rE K) (fun _ _ _ _ _ _ _ _ _ _ k _ q => trE k q) R p).mono fun xs H1 ⟨ds, e1, Z1, R1, k1, q1, p1⟩ => ?_⟩
    split at p1
    · rename_i hz
      refine ⟨by rw [q1.length]; exact hz, fun a n => ?_⟩
      obtain ⟨Z', R', k, q⟩ := new_ok R1 (.tup n q1)
      exact p1 _ _ Z' R' k q
    · exact p1.elim
theorem pe_lstD {es : List Expr} {pos : Pos} {f : Ev → Rs (List D)} (h : PA X es (tDs K W cv f)) : PE X (.List es pos) (tE K W cv fun e => (f e).bind fun ds e => if ds.length ≤ sizeLine then .ok (.fr (.list ds)) e else .er) :=
  (pe_lst h).imp fun σ H Q ⟨F, e, Z, R, p⟩ => by
    refine ⟨F, e, Z, R, (Pst.bind (R1 := rDs K) (R2 := rE K) (fun _ _ _ _ _ _ _ _ _ _ k _ q => trE k q) R p).mono fun xs H1 ⟨ds, e1, Z1, R1, k1, q1, p1⟩ => ?_⟩
    split at p1
    · rename_i hz
      refine ⟨by rw [q1.length]; exact hz, fun a n => ?_⟩
      obtain ⟨Z', R', k, q⟩ := new_ok R1 (.lst n q1)
      exact p1 _ _ Z' R' k q
    · exact p1.elim
theorem pe_dictD {pos : Pos} : PE X (.Dict [] [] pos) (tE K W cv fun e => .ok (.fz (.dict [])) e) := pe_dnewK.imp fun σ H Q ⟨F, e, Z, R, p⟩ a n => by
  obtain ⟨Z', R', k, q⟩ := new_ok R (.dct (K := K) n)
  exact p _ _ Z' R' k q
/-! ### built-in functions -/
theorem pe_bltD {x : Str} {id : String} {p pos : Pos} {a : Expr} {es : List Expr} {g : Ev → Rs (List Op)} {f : List D → Option Rv} (hc : CallR X (.builtin id) (rMany K f)) (hg : Gl X x) (hm : X.mg x = none) (hv : bootBuiltins x = some (.builtin id)) (hpl : (a :: es).all isPl = true) (ha : PA X (a :: es) (tOs K W cv g))
    (hn : x ≠ "__name__") (hdb : (x == ("__debug__" : Str)) = false) : PE X (.Call (.Name x p) (a :: es) [] pos) (tE K W cv fun e => (g e).bind fun os e => many os e f) := by
  have hpl' : isPl a = true ∧ es.all isPl = true := by rw [List.all_cons, Bool.and_eq_true] at hpl; exact hpl
  refine (pe_callB hc hg hm hv ha hn hdb (star1 hpl'.1 _ _) (backTo_any _ _ (starAll _ _ hpl'.2))).imp fun σ H Q ⟨F, e, Z, R, p⟩ => ?_
  refine ⟨F, e, Z, R, (Pst.bind (R1 := rOs K) (R2 := rE K) (fun _ _ _ _ _ _ _ _ _ _ k _ q => trE k q) R p).mono fun xs H1 ⟨os, e1, Z1, R1, k1, q1, p1⟩ => ?_⟩
  exact many_ok R1 q1 p1
theorem pe_bltT {x : Str} {T : String} {p pos : Pos} {a : Expr} {es : List Expr} {g : Ev → Rs (List Op)} {f : List D → Option Rv} (hc : CallR X (.type T) (rMany K f)) (hg : Gl X x) (hm : X.mg x = none) (hv : bootBuiltins x = some (.type T)) (hpl : (a :: es).all isPl = true) (ha : PA X (a :: es) (tOs K W cv g))
    (hn : x ≠ "__name__") (hdb : (x == ("__debug__" : Str)) = false) : PE X (.Call (.Name x p) (a :: es) [] pos) (tE K W cv fun e => (g e).bind fun os e => many os e f) := by
  have hpl' : isPl a = true ∧ es.all isPl = true := by rw [List.all_cons, Bool.and_eq_true] at hpl; exact hpl
  refine (pe_callTy hc hg hm hv ha hn hdb (star1 hpl'.1 _ _) (backTo_any _ _ (starAll _ _ hpl'.2))).imp fun σ H Q ⟨F, e, Z, R, p⟩ => ?_
  refine ⟨F, e, Z, R, (Pst.bind (R1 := rOs K) (R2 := rE K) (fun _ _ _ _ _ _ _ _ _ _ k _ q => trE k q) R p).mono fun xs H1 ⟨os, e1, Z1, R1, k1, q1, p1⟩ => ?_⟩
  exact many_ok R1 q1 p1
/-- isinstance(a, T) -/
theorem pe_isi {p p2 pos : Pos} {a : Expr} {g : Ev → Rs Op} {t : Ty} {tx : Str} (hg : Gl X "isinstance") (hm : X.mg "isinstance" = none) (hgt : Gl X tx) (hmt : X.mg tx = none) (hvt : bootBuiltins tx = some (.type t.n)) (hnt : tx ≠ "__name__") (hdt : (tx == ("__debug__" : Str)) = false)
    (hpl : isPl a = true) (ha : PE X a (tO X.K W cv g)) : PE X (.Call (.Name "isinstance" p) [a, .Name tx p2] [] pos) (tE X.K W cv fun e => (g e).bind fun x e => one x e fun d => some (.fz (.bool (isD d t)))) := by
  refine (pe_callB call_isi hg hm (by decide +kernel) (pa_cons ha (pa_cons (pe_bltn (v := .ty t.n) hgt hmt hvt rfl hnt hdt) pa_nil) (star1 hpl _ _)) (he := star1 hpl _ _)).imp fun σ H Q ⟨F, e, Z, R, p⟩ => ?_
  refine ⟨F, e, Z, R, (Pst.bind (R1 := rO X.K) (R2 := rE X.K) (fun _ _ _ _ _ _ _ _ _ _ k _ q => trE k q) R p).mono fun x H1 ⟨o, e1, Z1, R1, k1, q1, p1⟩ => ?_⟩
  obtain ⟨Z2, d, r, cd, er, k2⟩ := one_ok R1 q1 p1
  cases er
  obtain ⟨u, h1, h2⟩ := tyx_D cd.full t
  exact ⟨x, .ty t.n, u, .type t.n, isD d t, rfl, .ty _, h1, h2, k2 _ _ .bool⟩
/-! ### truth -/
theorem tru_D {H : Hp} {v : V} {d : D} {b : Bool} (h : Dv K H v d) (e : truD d = some b) : TruV K v H b := by
  cases h with
  | bl c => cases e; rfl
  | int i => cases e; rfl
  | lst s r =>
    cases e
    refine .inl ⟨_, .inl s, ?_⟩
    cases r <;> rfl
  | tup s r =>
    cases e
    refine .inr (.inl ⟨_, s, ?_⟩)
    cases r <;> rfl
  | _ => cases e
/-- a test that is no chain of its own -/
def plT : Expr → Bool
  | .UnaryOp .Not _ _ => false
  | .BoolOp _ _ _ => false
  | .IfExp _ _ _ _ => false
  | .Compare _ _ _ _ => false
  | _ => true
theorem plT_is {e : Expr} (h : plT e = true) (env : Env) (whole : Sem Value) : isTrue e env whole = (do let v ← whole; standAt e.pos; holding [v] (truthy v)) := by
  cases e with
  | UnaryOp o x p => cases o <;> first | rfl | cases h
  | _ => first | rfl | cases h
theorem pt_D {e : Expr} {g : Ev → Rs Op} (h : plT e = true) (he : PE X e (tO X.K W cv g)) : PT X e (tT X.K W cv fun e => (g e).bind fun o e => match o.get e with
    | some d => (match truD d with | some b => .ok b e | none => .er)
    | none => .er) := (pt_truth he (plT_is h _)).imp fun σ H Q ⟨F, e, Z, R, p⟩ => by
  refine ⟨F, e, Z, R, (Pst.bind (R1 := rO X.K) (R2 := rB) (fun _ _ _ _ _ _ _ _ _ _ k _ q => q) R p).mono fun x H1 ⟨o, e1, Z1, R1, k1, q1, p1⟩ => ?_⟩
  cases g1 : o.get e1 with
  | none => rw [g1] at p1; exact p1.elim
  | some d =>
    rw [g1] at p1
    cases g2 : truD d with
    | none => simp only [g2] at p1; exact p1.elim
    | some b =>
      simp only [g2] at p1
      exact ⟨b, tru_D (q1.get R1 g1).full g2, p1 b H1 Z1 R1 .refl rfl⟩
/-- .. whose value is True or False -/
theorem pt_B {e : Expr} {f : Ev → Rs Rv} (h : plT e = true) (he : PE X e (tE K W cv f)) : PT X e (tT K W cv fun e => tstR (f e)) := (pt_val he (plT_is h _)).imp fun σ H Q ⟨F, e, Z, R, p⟩ => by
  refine ⟨F, e, Z, R, ?_⟩
  replace p : Pst K W cv rB F σ e H Z (tstR (f e)) Q := p
  cases g : f e with
  | er => rw [g] at p; exact p
  | ex x e' => rw [g] at p; exact p
  | ok r e' =>
    rw [g] at p
    intro v H' Z' R' k q
    obtain ⟨Z2, R2, k2, q2⟩ := q.freeze R' k
    have p' : Pst K W cv rB F σ e H Z (match r.d with | .bool b => .ok b e' | _ => .er) Q := p
    cases hr : r.d with
    | bool b =>
      rw [hr] at p' q2
      cases q2
      exact ⟨b, rfl, p' b H' Z2 R2 k2 rfl⟩
    | _ => rw [hr] at p'; exact p'.elim
/-! ### and, or, not -/
theorem tstR_ok {m : Rs Rv} {F : Fr} {σ : L2.St} {e : Ev} {H : Hp} {Z : Addr → Prop} {Q : Bool → Hp → Prop} (p : Pst K W cv rB F σ e H Z (tstR m) Q) : Pst K W cv (rE K) F σ e H Z m fun v H' => ∃ b, v = .bl b ∧ Q b H' := by
  cases m with
  | er => exact p
  | ex x e' => exact p
  | ok r e' =>
    intro v H' Z' R' k q
    obtain ⟨Z2, R2, k2, q2⟩ := q.freeze R' k
    have p' : Pst K W cv rB F σ e H Z (match r.d with | .bool b => .ok b e' | _ => .er) Q := p
    cases hr : r.d with
    | bool b =>
      rw [hr] at p' q2
      cases q2
      exact ⟨b, rfl, p' b H' Z2 R2 k2 rfl⟩
    | _ => rw [hr] at p'; exact p'.elim
theorem pe_andD {a b : Expr} {rest : List Expr} {pos : Pos} {f g : Ev → Rs Rv} (ha : PE X a (tE K W cv f)) (hb : PE X (.BoolOp .And (b :: rest) pos) (tE K W cv g)) :
    PE X (.BoolOp .And (a :: b :: rest) pos) (tE K W cv fun e => (tstR (f e)).bind fun t e => if t = true then g e else .ok (.fz (.bool false)) e) := (pe_and ha hb).imp fun σ H Q ⟨F, e, Z, R, p⟩ => by
  refine ⟨F, e, Z, R, (tstR_ok (Pst.bind (R1 := rB) (R2 := rE K) (fun _ _ _ _ _ _ _ _ _ _ k _ q => trE k q) R p)).mono fun x H1 ⟨c, ec, t, e1, Z1, R1, k1, q1, p1⟩ => ?_⟩
  subst ec q1
  refine ⟨c, rfl, ?_⟩
  cases c with
  | true => exact ⟨F, e1, Z1, R1, p1⟩
  | false => exact p1 _ H1 Z1 R1 .refl ⟨.bl false, fun _ _ e => by cases e⟩
theorem pe_orD {a b : Expr} {rest : List Expr} {pos : Pos} {f g : Ev → Rs Rv} (ha : PE X a (tE K W cv f)) (hb : PE X (.BoolOp .Or (b :: rest) pos) (tE K W cv g)) :
    PE X (.BoolOp .Or (a :: b :: rest) pos) (tE K W cv fun e => (tstR (f e)).bind fun t e => if t = true then .ok (.fz (.bool true)) e else g e) := (pe_or ha hb).imp fun σ H Q ⟨F, e, Z, R, p⟩ => by
  refine ⟨F, e, Z, R, (tstR_ok (Pst.bind (R1 := rB) (R2 := rE K) (fun _ _ _ _ _ _ _ _ _ _ k _ q => trE k q) R p)).mono fun x H1 ⟨c, ec, t, e1, Z1, R1, k1, q1, p1⟩ => ?_⟩
  subst ec q1
  refine ⟨c, rfl, ?_⟩
  cases c with
  | false => exact ⟨F, e1, Z1, R1, p1⟩
  | true => exact p1 _ H1 Z1 R1 .refl ⟨.bl true, fun _ _ e => by cases e⟩
theorem pe_notD {a : Expr} {pos : Pos} {f : Ev → Rs Rv} (ha : PE X a (tE K W cv f)) : PE X (.UnaryOp .Not a pos) (tE K W cv fun e => (tstR (f e)).bind fun t e => .ok (.fz (.bool (!t))) e) := (pe_not ha).imp fun σ H Q ⟨F, e, Z, R, p⟩ => by
  refine ⟨F, e, Z, R, (tstR_ok (Pst.bind (R1 := rB) (R2 := rE K) (fun _ _ _ _ _ _ _ _ _ _ k _ q => trE k q) R p)).mono fun x H1 ⟨c, ec, t, e1, Z1, R1, k1, q1, p1⟩ => ?_⟩
  subst ec q1
  exact ⟨c, rfl, p1 _ H1 Z1 R1 .refl ⟨.bl _, fun _ _ e => by cases e⟩⟩
/-- a value's test told again -/
theorem tstB {m : Rs Bool} (f : Bool → Bool) : tstR (m.bind fun t e => .ok (.fz (.bool (f t))) e) = m.bind fun t e => .ok (f t) e := by
  cases m <;> rfl
theorem pw_andD {a b : Expr} {rest : List Expr} {pos : Pos} {f g : Ev → Rs Rv} (ha : PT X a (tT K W cv fun e => tstR (f e))) (hb : PW X (.BoolOp .And (b :: rest) pos) (tT K W cv fun e => tstR (g e))) :
    PW X (.BoolOp .And (a :: b :: rest) pos) (tT K W cv fun e => tstR ((tstR (f e)).bind fun t e => if t = true then g e else .ok (.fz (.bool false)) e)) := ⟨fun wh pins s σ H Q I ⟨F, e, Z, R, p⟩ => by
  refine (pw_and ha hb).run wh pins s σ H Q I ?_
  have e1 : tstR ((tstR (f e)).bind fun t e => if t = true then g e else .ok (.fz (.bool false)) e) = (tstR (f e)).bind fun t e => if t = true then tstR (g e) else .ok false e := by
    unfold tstR
    rw [bindR]
    congr 1
    funext t e
    split <;> rfl
  replace p : Pst K W cv rB F σ e H Z ((tstR (f e)).bind fun t e => if t = true then tstR (g e) else .ok false e) Q := e1 ▸ p
  refine ⟨F, e, Z, R, (p.bind (R1 := rB) (fun _ _ _ _ _ _ _ _ _ _ k _ q => q) R).mono fun c H1 ⟨t, e1, Z1, R1, k1, q1, p1⟩ => ?_⟩
  subst q1
  cases c with
  | true => exact ⟨F, e1, Z1, R1, p1⟩
  | false => exact p1 _ H1 Z1 R1 .refl rfl⟩
theorem pw_orD {a b : Expr} {rest : List Expr} {pos : Pos} {f g : Ev → Rs Rv} (ha : PT X a (tT K W cv fun e => tstR (f e))) (hb : PW X (.BoolOp .Or (b :: rest) pos) (tT K W cv fun e => tstR (g e))) :
    PW X (.BoolOp .Or (a :: b :: rest) pos) (tT K W cv fun e => tstR ((tstR (f e)).bind fun t e => if t = true then .ok (.fz (.bool true)) e else g e)) := ⟨fun wh pins s σ H Q I ⟨F, e, Z, R, p⟩ => by
  refine (pw_or ha hb).run wh pins s σ H Q I ?_
  have e1 : tstR ((tstR (f e)).bind fun t e => if t = true then .ok (.fz (.bool true)) e else g e) = (tstR (f e)).bind fun t e => if t = true then .ok true e else tstR (g e) := by
    unfold tstR
    rw [bindR]
    congr 1
    funext t e
    split <;> rfl
  replace p : Pst K W cv rB F σ e H Z ((tstR (f e)).bind fun t e => if t = true then .ok true e else tstR (g e)) Q := e1 ▸ p
  refine ⟨F, e, Z, R, (p.bind (R1 := rB) (fun _ _ _ _ _ _ _ _ _ _ k _ q => q) R).mono fun c H1 ⟨t, e1, Z1, R1, k1, q1, p1⟩ => ?_⟩
  subst q1
  cases c with
  | false => exact ⟨F, e1, Z1, R1, p1⟩
  | true => exact p1 _ H1 Z1 R1 .refl rfl⟩
theorem pt_notD {a : Expr} {pos : Pos} {f : Ev → Rs Rv} (ha : PT X a (tT K W cv fun e => tstR (f e))) : PT X (.UnaryOp .Not a pos) (tT K W cv fun e => tstR ((tstR (f e)).bind fun t e => .ok (.fz (.bool (!t))) e)) := (pt_not ha).imp fun σ H Q ⟨F, e, Z, R, p⟩ => by
  replace p : Pst K W cv rB F σ e H Z ((tstR (f e)).bind fun t e => .ok (!t) e) Q := tstB (fun t => !t) ▸ p
  refine ⟨F, e, Z, R, (p.bind (R1 := rB) (fun _ _ _ _ _ _ _ _ _ _ k _ q => q) R).mono fun c H1 ⟨t, e1, Z1, R1, k1, q1, p1⟩ => ?_⟩
  subst q1
  exact p1 _ H1 Z1 R1 .refl rfl
theorem pe_ifD {c a b : Expr} {pos : Pos} {t : Ev → Rs Bool} {f g : Ev → Rs Rv} (hc : PT X c (tT K W cv t)) (ha : PE X a (tE K W cv f)) (hb : PE X b (tE K W cv g)) : PE X (.IfExp c a b pos) (tE K W cv fun e => (t e).bind fun q e => if q = true then f e else g e) := (pe_ifExp hc ha hb).imp fun σ H Q ⟨F, e, Z, R, p⟩ => by
  refine ⟨F, e, Z, R, (Pst.bind (R1 := rB) (R2 := rE K) (fun _ _ _ _ _ _ _ _ _ _ k _ q => trE k q) R p).mono fun c H1 ⟨t, e1, Z1, R1, k1, q1, p1⟩ => ?_⟩
  subst q1
  cases c with
  | true => exact ⟨F, e1, Z1, R1, p1⟩
  | false => exact ⟨F, e1, Z1, R1, p1⟩
/-! ### comparisons -/
theorem pe_cmpD {a b : Expr} {op : CmpOp} {pos : Pos} {f g : Ev → Rs Op} (ho : OpR X (compareOp op) (rCm K (cmpD op))) (ha : PE X a (tO K W cv f)) (hb : PE X b (tO K W cv g)) (hpl : isPl b = true) :
    PE X (.Compare a [op] [b] pos) (tE K W cv fun e => (f e).bind fun x e => (g e).bind fun y e => two x y e fun p q => (cmpD op p q).map fun b => .fz (.bool b)) := (pe_cmpR ho ha hb (plMark hpl _)).imp fun σ H Q w => bin_red w
theorem rCm_bool {op : CmpOp} {x y : V} {H : Hp} {Q : VK} (h : rCm K (cmpD op) x y H Q) : ∃ b, Q (.bl b) H := by
  obtain ⟨Z, a, b, r, ha, hb, e, k⟩ := h
  replace e : (cmpD op a b).map (fun b => Rv.fz (.bool b)) = some r := e
  cases g : cmpD op a b with
  | none => rw [g] at e; cases e
  | some t =>
    rw [g] at e
    cases e
    exact ⟨t, k _ _ .bool⟩
/-- a comparison's answer as a test -/
theorem cm_two {op : CmpOp} {F : Fr} {σ : L2.St} {e : Ev} {H : Hp} {Z : Addr → Prop} {o1 o2 : Op} {x y : V} {Q : Bool → Hp → Prop} (R : Rel K F e σ H Z) (h1 : OpRel K σ H Z x o1) (h2 : OpRel K σ H Z y o2)
    (p : Pst K W cv rB F σ e H Z (tstR (two o1 o2 e fun p q => (cmpD op p q).map fun b => .fz (.bool b))) Q) : rCm K (cmpD op) x y H fun v H' => ∃ b, v = .bl b ∧ Q b H' :=
  two_ok (W := W) (cv := cv) R h1 h2 (tstR_ok p)
theorem pt_cmpD {a b : Expr} {op : CmpOp} {pos : Pos} {f g : Ev → Rs Op} (ho : OpR X (compareOp op) (rCm K (cmpD op))) (ha : PE X a (tO K W cv f)) (hb : PE X b (tO K W cv g)) (hpl : isPl b = true) :
    PT X (.Compare a [op] [b] pos) (tT K W cv fun e => tstR ((f e).bind fun x e => (g e).bind fun y e => two x y e fun p q => (cmpD op p q).map fun b => .fz (.bool b))) := (pt_cmpR ho ha hb (plMark hpl _)).imp fun σ H Q ⟨F, e, Z, R, p⟩ => by
  have e1 : tstR ((f e).bind fun x e => (g e).bind fun y e => two x y e fun p q => (cmpD op p q).map fun b => .fz (.bool b)) = (f e).bind fun x e => (g e).bind fun y e => tstR (two x y e fun p q => (cmpD op p q).map fun b => .fz (.bool b)) := by
    unfold tstR
    rw [bindR]
    congr 1
    funext x e
    rw [bindR]
  replace p : Pst K W cv rB F σ e H Z ((f e).bind fun x e => (g e).bind fun y e => tstR (two x y e fun p q => (cmpD op p q).map fun b => .fz (.bool b))) Q := e1 ▸ p
  refine ⟨F, e, Z, R, (p.bind (R1 := rO K) (fun _ _ _ _ _ _ _ _ _ _ k _ q => q) R).mono fun x H1 ⟨o1, e1, Z1, R1, k1, q1, p1⟩ => ?_⟩
  refine ⟨F, e1, Z1, R1, (p1.bind (R1 := rO K) (fun _ _ _ _ _ _ _ _ _ _ k _ q => q) R1).mono fun y H2 ⟨o2, e2, Z2, R2, k2, q2, p2⟩ => ?_⟩
  exact cm_two R2 (q1.keep R1 k2) q2 p2
/-- a < b < c -/
theorem pe_chainD {a b c : Expr} {op op' : CmpOp} {pos : Pos} {f g h : Ev → Rs Op} (ho : OpR X (compareOp op) (rCm K (cmpD op))) (ho' : OpR X (compareOp op') (rCm K (cmpD op'))) (ha : PE X a (tO K W cv f)) (hb : PE X b (tO K W cv g)) (hc : PE X c (tO K W cv h)) (hpl : isPl b = true) (hpc : isPl c = true) :
    PE X (.Compare a [op, op'] [b, c] pos) (tE K W cv fun e => (f e).bind fun x e => (g e).bind fun y e => (tstR (two x y e fun p q => (cmpD op p q).map fun b => .fz (.bool b))).bind fun t e =>
      if t = true then (h e).bind fun z e => two y z e fun u v => (cmpD op' u v).map fun b => .fz (.bool b) else .ok (.fz (.bool false)) e) := by
  refine PE.imp (pe_chain ho ho' ha hb hc (by show behindInMarks op' c = false; exact plMark hpc _)) fun σ H Q ⟨F, e, Z, R, p⟩ => ?_
  refine ⟨F, e, Z, R, (Pst.bind (R1 := rO K) (R2 := rE K) (fun _ _ _ _ _ _ _ _ _ _ k _ q => trE k q) R p).mono fun x H1 ⟨o1, e1, Z1, R1, k1, q1, p1⟩ => ?_⟩
  refine ⟨F, e1, Z1, R1, (p1.bind (R1 := rO K) (fun _ _ _ _ _ _ _ _ _ _ k _ q => trE k q) R1).mono fun y H2 ⟨o2, e2, Z2, R2, k2, q2, p2⟩ => ?_⟩
  have p3 := cm_two (op := op) R2 (q1.keep R1 k2) q2 (Pst.bind (R1 := rB) (R2 := rE K) (fun _ _ _ _ _ _ _ _ _ _ k _ q => trE k q) R2 p2)
  obtain ⟨Z3, da, db, r, ca, cb, er, k3⟩ := p3
  refine ⟨Z3, da, db, r, ca, cb, er, fun v H' n => ?_⟩
  obtain ⟨b, ev, t, e3, Z4, R4, k4, q4, p4⟩ := k3 v H' n
  subst q4
  refine ⟨b, ev, ?_⟩
  cases b with
  | false =>
    exact p4 _ H' Z4 R4 .refl ⟨.bl false, fun _ _ e => by cases e⟩
  | true =>
    refine ⟨F, e3, Z4, R4, (Pst.bind (R1 := rO K) (R2 := rE K) (fun _ _ _ _ _ _ _ _ _ _ k _ q => trE k q) R4 p4).mono fun z H5 ⟨o3, e5, Z5, R5, k5, q5, p5⟩ => ?_⟩
    exact two_ok R5 ((q2.keep R2 k4).keep R4 k5) q5 p5
theorem pt_chainD {a b c : Expr} {op op' : CmpOp} {pos : Pos} {f g h : Ev → Rs Op} (ho : OpR X (compareOp op) (rCm K (cmpD op))) (ho' : OpR X (compareOp op') (rCm K (cmpD op'))) (ha : PE X a (tO K W cv f)) (hb : PE X b (tO K W cv g)) (hc : PE X c (tO K W cv h)) (hpl : isPl b = true) (hpc : isPl c = true) :
    PT X (.Compare a [op, op'] [b, c] pos) (tT K W cv fun e => tstR ((f e).bind fun x e => (g e).bind fun y e => (tstR (two x y e fun p q => (cmpD op p q).map fun b => .fz (.bool b))).bind fun t e =>
      if t = true then (h e).bind fun z e => two y z e fun u v => (cmpD op' u v).map fun b => .fz (.bool b) else .ok (.fz (.bool false)) e)) := by
  refine PT.imp (pt_chain ho ho' ha hb hc (by show behindInMarks op' c = false; exact plMark hpc _)) fun σ H Q ⟨F, e, Z, R, p⟩ => ?_
  have p0 := tstR_ok (p : Pst K W cv rB F σ e H Z (tstR _) Q)
  refine ⟨F, e, Z, R, (Pst.bind (R1 := rO K) (R2 := rE K) (fun _ _ _ _ _ _ _ _ _ _ k _ q => trE k q) R p0).mono fun x H1 ⟨o1, e1, Z1, R1, k1, q1, p1⟩ => ?_⟩
  refine ⟨F, e1, Z1, R1, (p1.bind (R1 := rO K) (fun _ _ _ _ _ _ _ _ _ _ k _ q => trE k q) R1).mono fun y H2 ⟨o2, e2, Z2, R2, k2, q2, p2⟩ => ?_⟩
  have p3 := cm_two (op := op) R2 (q1.keep R1 k2) q2 (Pst.bind (R1 := rB) (R2 := rE K) (fun _ _ _ _ _ _ _ _ _ _ k _ q => trE k q) R2 p2)
  obtain ⟨Z3, da, db, r, ca, cb, er, k3⟩ := p3
  refine ⟨Z3, da, db, r, ca, cb, er, fun v H' n => ?_⟩
  obtain ⟨b, ev, t, e3, Z4, R4, k4, q4, p4⟩ := k3 v H' n
  subst q4
  refine ⟨b, ev, ?_⟩
  cases b with
  | false =>
    exact p4 _ H' Z4 R4 .refl ⟨.bl false, fun _ _ e => by cases e⟩
  | true =>
    refine ⟨F, e3, Z4, R4, (Pst.bind (R1 := rO K) (R2 := rE K) (fun _ _ _ _ _ _ _ _ _ _ k _ q => trE k q) R4 p4).mono fun z H5 ⟨o3, e5, Z5, R5, k5, q5, p5⟩ => ?_⟩
    exact two_ok R5 ((q2.keep R2 k4).keep R4 k5) q5 p5
end
end Cr
set_option Elab.async false
set_option linter.all false
set_option maxRecDepth 100000
set_option maxHeartbeats 4000000
namespace Cr
open PySem PySem.Spec PyProof.Rows L2
/-! ### what a def of ours promises -/
/-- the arguments of a call -/
structure ArgR (K : PySem.W.Frag) (as : List Sl) (vs : List V) (H : Hp) (Z : Addr → Prop) (la : Nat → Option Addr) : Prop where
  len : as.length = vs.length
  val : ∀ (i : Nat) (d : D), as[i]? = some (Sl.val d) → ∃ v, vs[i]? = some v ∧ Dv K (hid Z H) v d
  mu : ∀ (i : Nat) (b : Bool) (d : D), as[i]? = some (Sl.mu b d) → b = true ∧ ∃ a, vs[i]? = some (V.ref a) ∧ la i = some a ∧ Z a ∧ Cell K (hid Z H) H a d
  no : ∀ (i : Nat) (s : Sl), as[i]? = some s → (∃ d, s = Sl.val d) ∨ ∃ b d, s = Sl.mu b d
  lam : ∀ (i : Nat) (a : Addr), la i = some a → ∃ b d, as[i]? = some (Sl.mu b d)
  inj : ∀ (i j : Nat) (a : Addr), la i = some a → la j = some a → i = j
  zs : ∀ a, Z a → H a ≠ none
/-- what a call leaves -/
structure Bk (K : PySem.W.Frag) (la : Nat → Option Addr) (o : List Sl) (H : Hp) (Z : Addr → Prop) (H' : Hp) (Z' : Addr → Prop) : Prop where
  fr : ∀ a u, H a = some u → (∀ i, la i ≠ some a) → H' a = some u
  kz : ∀ a, Z a → (∀ i, la i ≠ some a) → Z' a
  zn : ∀ a, Z' a → Z a ∨ H a = none
  zs : ∀ a, Z' a → H' a ≠ none
  th : ∀ a, H a ≠ none → H' a ≠ none
  out : ∀ (i : Nat) (a : Addr), la i = some a → (∃ b d, o[i]? = some (Sl.mu b d) ∧ Z' a ∧ Cell K (hid Z' H') H' a d) ∨ ∃ d, o[i]? = some (Sl.frz d) ∧ Dv K (hid Z' H') (V.ref a) d
def RvC (K : PySem.W.Frag) (H H' : Hp) (Z' : Addr → Prop) (v : V) : Rv → Prop
  | .fz d => Dv K (hid Z' H') v d
  | .fr d => ∃ a, v = V.ref a ∧ Z' a ∧ Cell K (hid Z' H') H' a d ∧ H a = none
def EndC (K : PySem.W.Frag) (cv : Nat → Value) (la : Nat → Option Addr) (H : Hp) (Z : Addr → Prop) (Q : VK) (E : XK) : Cr.CR → Prop
  | .ret r o => ∀ v H' Z', Bk K la o H Z H' Z' → RvC K H H' Z' v r → Q v H'
  | .exc x o => ∀ H' Z', Bk K la o H Z H' Z' → E (cv x) none H'
  | .er => False
def spC (K : PySem.W.Frag) (cv : Nat → Value) (cr : List Sl → Cr.CR) : Sp := fun vs H Q E => ∃ (as : List Sl) (Z : Addr → Prop) (la : Nat → Option Addr), ArgR K as vs H Z la ∧ EndC K cv la H Z Q E (cr as)
/-- a def keeps a promise, where no repr is under way -/
structure FnG (P : Program) (w : World) (K : PySem.W.Frag) (mg : Str → Option Value) (base : Heap) (k : Nat) (f : Addr) (fd : FuncData) (ps : List Str) (sp : Sp) : Prop where
  len : ∀ vs H Q E, sp vs H Q E → vs.length = ps.length
  run : ∀ (A : Around) (outer : List Env) (s : Shared) (H : Hp) (args : Args) (us : List Value) (vs : List V) (Q : VK) (E : XK), Room k A → A.guards = some [] → Env0 P w K mg base A outer s H → BindsTo s fd args (ps.zip us) → Vals vs us → sp vs H Q E →
    codeAny (model P w) A (.call (.ref f) args) (L2.CR (L2.CX P w) outer P w H s Q E) s
theorem FnG.mono {P : Program} {w : World} {K : PySem.W.Frag} {mg : Str → Option Value} {base : Heap} {j k : Nat} {f : Addr} {fd : FuncData} {ps : List Str} {sp : Sp} (F : FnG P w K mg base j f fd ps sp) (h : j ≤ k) : FnG P w K mg base k f fd ps sp :=
  ⟨F.len, fun A outer s H args us vs Q E hr => F.run A outer s H args us vs Q E (hr.mono h)⟩
section
variable {X : Cx} {K : PySem.W.Frag} {W : WX} {cv : Nat → Value}
theorem run_G {k : Nat} {f : Addr} {fd : FuncData} {ps : List Str} {sp : Sp} {pins : List (Addr × Obj)} {σ : L2.St} {H : Hp} {s : Shared} {Q : VK} {us : List Value} {vs : List V} {args : Args} {E : L2.St → XK} (F : FnG X.prog X.w X.K X.mg X.base k f fd ps sp) (hr : Room k X.A) (hgd : X.A.guards = some [])
    (hb : BindsTo s fd args (ps.zip us)) (hx : PassesAt (L2.CX X.prog X.w) X σ (E σ)) (I : Inv X pins σ H s) (r : Vals vs us) (h : sp vs H Q (E σ)) : wpAny (model X.prog X.w) X.A (call (.ref f) args.pos args.kw) (EP X pins σ Q) X.xe s := by
  refine wpAny_call (codeAny_mono (F.run X.A X.stack s H args us vs Q (E σ) hr hgd I.env0 hb r h) fun r s' hq => ?_)
  cases r with
  | error e => exact hx pins H s e s' I hq
  | ok fl =>
    cases fl with
    | ret u => exact I.after hq
    | next => exact False.elim hq
    | brk => exact False.elim hq
    | cont => exact False.elim hq
/-- f(..), no keywords -/
theorem pe_callG {k : Nat} {f : Addr} {fd : FuncData} {ps : List Str} {sp : Sp} {x : Str} {p pos : Pos} {e : Expr} {es : List Expr} {t : TA} {E : L2.St → XK} (F : FnG X.prog X.w X.K X.mg X.base k f fd ps sp) (hr : Room k X.A) (hgd : X.A.guards = some []) (hg : Gl X x) (hm : X.mg x = some (.ref f)) (hk : PySem.W.keepIn X.K (.ref f) = true)
    (hb : Binds X.K fd ps []) (hx : ∀ σ, PassesAt (L2.CX X.prog X.w) X σ (E σ)) (ha : PA X (e :: es) t) (hdb : (x == ("__debug__" : Str)) = false) (hpl : (e :: es).all isPl = true) : PE X (.Call (.Name x p) (e :: es) [] pos) (tCallS sp E t) := by
  refine ⟨fun pins s σ H Q I h => ?_⟩
  refine wpAny_Call_Name_kw (ld_glob I hg hm ?_ hdb)
  have hpl' : isPl e = true ∧ es.all isPl = true := by rw [List.all_cons, Bool.and_eq_true] at hpl; exact hpl
  refine PySem.W.callWith_K (h₀ := X.base) I.ok.mod.kin hk (thn (ha.run pos pins s σ H _ I h) fun us s1 ⟨vs, H1, I1, r, q⟩ => ⟨I1.kIn, ?_⟩) (star1 hpl'.1 _ _) (backTo_any _ _ (starAll _ _ hpl'.2))
  have hl : us.length = ps.length := by rw [← r.length]; exact F.len _ _ _ _ q
  have b := hb s1 us I1.kIn (by rw [List.append_nil]; exact hl)
  rw [List.append_nil] at b
  exact run_G (args := ⟨us, []⟩) F hr hgd b (hx σ) I1 r q
theorem pe_callG0 {k : Nat} {f : Addr} {fd : FuncData} {ps : List Str} {sp : Sp} {x : Str} {p pos : Pos} {E : L2.St → XK} (F : FnG X.prog X.w X.K X.mg X.base k f fd ps sp) (hr : Room k X.A) (hgd : X.A.guards = some []) (hg : Gl X x) (hm : X.mg x = some (.ref f)) (hk : PySem.W.keepIn X.K (.ref f) = true)
    (hb : Binds X.K fd ps []) (hx : ∀ σ, PassesAt (L2.CX X.prog X.w) X σ (E σ)) (hdb : (x == ("__debug__" : Str)) = false) : PE X (.Call (.Name x p) [] [] pos) (tCallS sp E tNil) := by
  refine ⟨fun pins s σ H Q I h => ?_⟩
  refine wpAny_Call_Name_kw (ld_glob I hg hm ?_ hdb)
  have hl : ([] : List Value).length = ps.length := F.len _ _ _ _ h
  have b := hb s [] I.kIn (by rw [List.append_nil]; exact hl)
  rw [List.append_nil] at b
  exact PySem.W.callWith_K0 I.kIn hk (run_G (args := ⟨[], []⟩) F hr hgd b (hx σ) I .nil h)
/-! ### the arguments of ours -/
def laOf (os : List Op) (e : Ev) (σ : L2.St) (i : Nat) : Option Addr :=
  match os[i]? with
  | some (.pl j) => (match e[j]? with
    | some (.mu _ _) => (match σ[j]? with | some (some (.ref a)) => some a | _ => none)
    | _ => none)
  | _ => none
theorem laOf_inv {os : List Op} {e : Ev} {σ : L2.St} {i : Nat} {a : Addr} (h : laOf os e σ i = some a) : ∃ (j : Nat) (b : Bool) (d : D), os[i]? = some (Op.pl j) ∧ e[j]? = some (Sl.mu b d) ∧ σ[j]? = some (some (V.ref a)) := by
  unfold laOf at h
  split at h
  · rename_i j hj
    split at h
    · rename_i b d hb
      split at h
      · rename_i a' ha
        cases h
        exact ⟨j, b, d, hj, hb, ha⟩
      · cases h
    · cases h
  · cases h
theorem laOf_of {os : List Op} {e : Ev} {σ : L2.St} {i j : Nat} {a : Addr} {b : Bool} {d : D} (h1 : os[i]? = some (Op.pl j)) (h2 : e[j]? = some (Sl.mu b d)) (h3 : σ[j]? = some (some (V.ref a))) : laOf os e σ i = some a := by
  unfold laOf
  simp only [h1, h2, h3]
theorem argsS_len {e : Ev} : ∀ {os : List Op} {ss : List Sl}, argsS os e = some ss → ss.length = os.length
  | [], ss, h => by cases h; rfl
  | o :: os, ss, h => by
    have h' : (match argS o e, argsS os e with | some s, some ss => some (s :: ss) | _, _ => none) = some ss := h
    cases h1 : argS o e with
    | none => rw [h1] at h'; cases h'
    | some s =>
      cases h2 : argsS os e with
      | none => rw [h1, h2] at h'; cases h'
      | some ts =>
        rw [h1, h2] at h'
        cases h'
        exact congrArg Nat.succ (argsS_len h2)
theorem argsS_get {e : Ev} : ∀ {os : List Op} {ss : List Sl} {i : Nat} {s : Sl}, argsS os e = some ss → ss[i]? = some s → ∃ o, os[i]? = some o ∧ argS o e = some s
  | [], ss, i, s, h, g => by cases h; simp at g
  | o :: os, ss, i, s, h, g => by
    have h' : (match argS o e, argsS os e with | some s, some ss => some (s :: ss) | _, _ => none) = some ss := h
    cases h1 : argS o e with
    | none => rw [h1] at h'; cases h'
    | some s1 =>
      cases h2 : argsS os e with
      | none => rw [h1, h2] at h'; cases h'
      | some ts =>
        rw [h1, h2] at h'
        cases h'
        cases i with
        | zero => simp at g; subst g; exact ⟨o, by simp, h1⟩
        | succ i =>
          obtain ⟨o', e1, e2⟩ := argsS_get (i := i) h2 (by simpa using g)
          exact ⟨o', by simpa using e1, e2⟩
theorem OpAll.len {σ : L2.St} {H : Hp} {Z : Addr → Prop} : ∀ {vs : List V} {os : List Op}, OpAll K σ H Z vs os → os.length = vs.length
  | _, _, .nil => rfl
  | _, _, .cons _ r => congrArg Nat.succ r.len
theorem OpAll.at {σ : L2.St} {H : Hp} {Z : Addr → Prop} : ∀ {vs : List V} {os : List Op} {i : Nat} {o : Op}, OpAll K σ H Z vs os → os[i]? = some o → ∃ v, vs[i]? = some v ∧ OpRel K σ H Z v o
  | _, _, _, _, .nil, h => by simp at h
  | _, _, 0, _, .cons a r, h => by simp at h; subst h; exact ⟨_, by simp, a⟩
  | _, _, i + 1, _, .cons a r, h => by
    obtain ⟨v, e1, e2⟩ := OpAll.at (i := i) r (by simpa using h)
    exact ⟨v, by simpa using e1, e2⟩
theorem lends_mem {e : Ev} : ∀ {os : List Op} {i j : Nat} {b : Bool} {d : D}, os[i]? = some (Op.pl j) → e[j]? = some (Sl.mu b d) → j ∈ lends os e
  | [], i, j, b, d, h, _ => by simp at h
  | o :: os, 0, j, b, d, h, g => by
    simp at h
    subst h
    simp [lends, g]
  | o :: os, i + 1, j, b, d, h, g => by
    have r := lends_mem (i := i) (by simpa using h) g
    cases o with
    | vl _ => exact r
    | pl k =>
      show j ∈ (match e[k]? with | some (.mu _ _) => k :: lends os e | _ => lends os e)
      split
      · exact List.mem_cons_of_mem _ r
      · exact r
theorem lends_inj {e : Ev} : ∀ {os : List Op} {i i' j : Nat} {b : Bool} {d : D}, (lends os e).Nodup → os[i]? = some (Op.pl j) → os[i']? = some (Op.pl j) → e[j]? = some (Sl.mu b d) → i = i'
  | [], i, i', j, b, d, _, h, _, _ => by simp at h
  | o :: os, i, i', j, b, d, hn, h, h', g => by
    have tl : (lends os e).Nodup := by
      cases o with
      | vl _ => exact hn
      | pl k =>
        have hn' : (match e[k]? with | some (.mu _ _) => k :: lends os e | _ => lends os e).Nodup := hn
        split at hn'
        · exact (List.nodup_cons.mp hn').2
        · exact hn'
    cases i with
    | zero =>
      simp at h
      subst h
      cases i' with
      | zero => rfl
      | succ i' =>
        exfalso
        have m := lends_mem (os := os) (i := i') (by simpa using h') g
        have hn' : (match e[j]? with | some (.mu _ _) => j :: lends os e | _ => lends os e).Nodup := hn
        rw [g] at hn'
        exact (List.nodup_cons.mp hn').1 m
    | succ i =>
      cases i' with
      | zero =>
        simp at h'
        subst h'
        exfalso
        have m := lends_mem (os := os) (i := i) (by simpa using h) g
        have hn' : (match e[j]? with | some (.mu _ _) => j :: lends os e | _ => lends os e).Nodup := hn
        rw [g] at hn'
        exact (List.nodup_cons.mp hn').1 m
      | succ i' => exact congrArg Nat.succ (lends_inj (i := i) (i' := i') tl (by simpa using h) (by simpa using h') g)
theorem args_ok {F : Fr} {e : Ev} {σ : L2.St} {H : Hp} {Z : Addr → Prop} {vs : List V} {os : List Op} {ss : List Sl} (R : Rel K F e σ H Z) (q : OpAll K σ H Z vs os) (h : argsS os e = some ss) (hn : (lends os e).Nodup) : ArgR K ss vs H Z (laOf os e σ) := by
  refine ⟨(argsS_len h).trans q.len, fun i d g => ?_, fun i b d g => ?_, fun i s g => ?_, fun i a g => ?_, fun i j a g1 g2 => ?_, R.zs⟩
  · obtain ⟨o, e1, e2⟩ := argsS_get h g
    obtain ⟨v, e3, e4⟩ := q.at e1
    refine ⟨v, e3, ?_⟩
    cases o with
    | vl d' => cases e2; exact e4
    | pl j =>
      have e2' : (match e[j]? with | some (.mu _ d) => some (.mu true d) | some (.val d) => some (.val d) | some (.frz d) => some (.val d) | _ => none) = some (Sl.val d) := e2
      have e4' : σ[j]? = some (some v) := e4
      cases w : e[j]? with
      | none => rw [w] at e2'; cases e2'
      | some s =>
        rw [w] at e2'
        have sr := R.sl j s w
        rw [e4'] at sr
        cases s with
        | un => cases e2'
        | mu _ _ => cases e2'
        | val d' => cases e2'; obtain ⟨v', e5, e6⟩ := sr; cases e5; exact e6
        | frz d' => cases e2'; obtain ⟨a, e5, _, e6⟩ := sr; cases e5; exact e6
  · obtain ⟨o, e1, e2⟩ := argsS_get h g
    obtain ⟨v, e3, e4⟩ := q.at e1
    cases o with
    | vl d' => cases e2
    | pl j =>
      have e2' : (match e[j]? with | some (.mu _ d) => some (.mu true d) | some (.val d) => some (.val d) | some (.frz d) => some (.val d) | _ => none) = some (Sl.mu b d) := e2
      have e4' : σ[j]? = some (some v) := e4
      cases w : e[j]? with
      | none => rw [w] at e2'; cases e2'
      | some s =>
        rw [w] at e2'
        have sr := R.sl j s w
        rw [e4'] at sr
        cases s with
        | un => cases e2'
        | mu b' d' =>
          cases e2'
          obtain ⟨a, e5, z, c, _⟩ := sr
          cases e5
          exact ⟨rfl, a, e3, laOf_of e1 w e4', z, c⟩
        | val d' => cases e2'
        | frz d' => cases e2'
  · obtain ⟨o, e1, e2⟩ := argsS_get h g
    cases o with
    | vl d' => cases e2; exact .inl ⟨_, rfl⟩
    | pl j =>
      have e2' : (match e[j]? with | some (.mu _ d) => some (.mu true d) | some (.val d) => some (.val d) | some (.frz d) => some (.val d) | _ => none) = some s := e2
      split at e2' <;> cases e2'
      · exact .inr ⟨_, _, rfl⟩
      · exact .inl ⟨_, rfl⟩
      · exact .inl ⟨_, rfl⟩
  · obtain ⟨j, b, d, e1, e2, e3⟩ := laOf_inv g
    have hl : i < ss.length := by rw [argsS_len h]; exact (List.getElem?_eq_some_iff.mp e1).1
    refine ⟨true, d, ?_⟩
    obtain ⟨o, e4, e5⟩ := argsS_get h (List.getElem?_eq_getElem hl)
    rw [e1] at e4
    cases e4
    have e5' : (match e[j]? with | some (.mu _ d) => some (.mu true d) | some (.val d) => some (.val d) | some (.frz d) => some (.val d) | _ => none) = some ss[i] := e5
    rw [e2] at e5'
    rw [List.getElem?_eq_getElem hl]
    exact e5'.symm
  · obtain ⟨j1, b1, d1, e1, e2, e3⟩ := laOf_inv g1
    obtain ⟨j2, b2, d2, f1, f2, f3⟩ := laOf_inv g2
    have w := R.ds j1 j2 b1 d1 b2 d2 a e2 f2 e3 f3
    subst w
    exact lends_inj hn e1 f1 e2
/-! ### behind a call -/
theorem backG_len {os : List Op} {o : List Sl} : ∀ (e : Ev) (j : Nat), (backG os o j e).length = e.length
  | [], _ => rfl
  | s :: r, j => congrArg Nat.succ (backG_len r (j + 1))
theorem backG_get {os : List Op} {o : List Sl} : ∀ (e : Ev) (j i : Nat), (backG os o j e)[i]? = (e[i]?).map (backS os o (j + i))
  | [], _, i => by simp [backG]
  | s :: r, j, 0 => by simp [backG]
  | s :: r, j, i + 1 => by
    have := backG_get (os := os) (o := o) r (j + 1) i
    rw [show j + 1 + i = j + (i + 1) by omega] at this
    simpa [backG] using this
theorem back_get {os : List Op} {o : List Sl} (e : Ev) (i : Nat) : (back os o e)[i]? = (e[i]?).map (backS os o i) := by
  have := backG_get (os := os) (o := o) e 0 i
  rw [Nat.zero_add] at this
  exact this
theorem lentAt_of : ∀ {os : List Op} {o : List Sl} {i j : Nat} {s : Sl}, os[i]? = some (Op.pl j) → o[i]? = some s → (∀ i', os[i']? = some (Op.pl j) → i = i') → lentAt os o j = some s
  | [], o, i, j, s, h, _, _ => by simp at h
  | _ :: _, [], i, j, s, _, g, _ => by simp at g
  | p :: os, t :: o, 0, j, s, h, g, _ => by
    simp at h g
    subst h g
    simp [lentAt]
  | p :: os, t :: o, i + 1, j, s, h, g, u => by
    have r := lentAt_of (os := os) (o := o) (i := i) (j := j) (s := s) (by simpa using h) (by simpa using g) fun i' w => by
      have := u (i' + 1) (by simpa using w)
      omega
    cases p with
    | vl _ => exact r
    | pl k =>
      show (if k = j then some t else lentAt os o j) = some s
      split
      · rename_i e
        subst e
        have := u 0 (by simp)
        omega
      · exact r
theorem lentAt_no : ∀ {os : List Op} {o : List Sl} {j : Nat} {s : Sl}, lentAt os o j = some s → ∃ i : Nat, os[i]? = some (Op.pl j) ∧ o[i]? = some s
  | [], o, j, s, h => by simp [lentAt] at h
  | .vl _ :: _, [], j, s, h => by simp [lentAt] at h
  | .pl _ :: _, [], j, s, h => by simp [lentAt] at h
  | .vl _ :: os, t :: o, j, s, h => by
    obtain ⟨i, e1, e2⟩ := lentAt_no (os := os) (o := o) (show lentAt os o j = some s from h)
    exact ⟨i + 1, by simpa using e1, by simpa using e2⟩
  | .pl k :: os, t :: o, j, s, h => by
    have h' : (if k = j then some t else lentAt os o j) = some s := h
    split at h'
    · rename_i e
      cases h'
      exact ⟨0, by simp [e], by simp⟩
    · obtain ⟨i, e1, e2⟩ := lentAt_no h'
      exact ⟨i + 1, by simpa using e1, by simpa using e2⟩
theorem backS_mu {os : List Op} {o : List Sl} {j : Nat} {s : Sl} {b : Bool} {d : D} (h : backS os o j s = Sl.mu b d) : ∃ d', s = Sl.mu b d' := by
  cases s with
  | mu b' d' =>
    unfold backS at h
    dsimp only at h
    split at h
    · cases h; exact ⟨_, rfl⟩
    · split at h <;> cases h
    · cases h; exact ⟨_, rfl⟩
  | _ => cases h
theorem back_ok {F : Fr} {e : Ev} {σ : L2.St} {H H' : Hp} {Z Z' : Addr → Prop} {os : List Op} {o : List Sl} (R : Rel K F e σ H Z) (hn : (lends os e).Nodup) (b : Bk K (laOf os e σ) o H Z H' Z') : Rel K F (back os o e) σ H' Z' ∧ Kp e σ H Z (back os o e) H' Z' := by
  have laM : ∀ {i a}, laOf os e σ i = some a → MutAt e σ a := fun {i a} g => by
    obtain ⟨j, b, d, e1, e2, e3⟩ := laOf_inv g
    exact ⟨j, b, d, e2, e3⟩
  have nof : ∀ a, ¬ MutAt e σ a → ∀ i, laOf os e σ i ≠ some a := fun a m i g => m (laM g)
  have sub : Sub (hid Z H) (hid Z' H') := fun a u q => by
    obtain ⟨z, q⟩ := hid_some.mp q
    refine hid_some.mpr ⟨fun w => ?_, b.fr a u q (nof a fun m => z (R.mutZ m))⟩
    rcases b.zn a w with h | h
    · exact z h
    · rw [q] at h; cases h
  have mm : ∀ {i : Nat} {b' : Bool} {d : D}, (back os o e)[i]? = some (Sl.mu b' d) → ∃ d', e[i]? = some (Sl.mu b' d') := fun {i b' d} h => by
    rw [back_get] at h
    cases w : e[i]? with
    | none => rw [w] at h; cases h
    | some s =>
      rw [w] at h
      obtain ⟨d', e1⟩ := backS_mu (Option.some.inj h)
      exact ⟨d', by rw [e1]⟩
  have mb : ∀ a, MutAt (back os o e) σ a → MutAt e σ a := fun a ⟨i, b', d, h1, h2⟩ => by
    obtain ⟨d', h3⟩ := mm h1
    exact ⟨i, b', d', h3, h2⟩
  -- lent from F: by a slot of the frame's own
  have lo : ∀ {i a}, laOf os e σ i = some a → (∃ j, F.la j = some a) ∨ F.H0 a = none := fun {i a} g => by
    obtain ⟨j, b, d, e1, e2, e3⟩ := laOf_inv g
    obtain ⟨a', e4, _, _, f1, f2⟩ := R.sl j _ e2
    rw [e3] at e4
    cases e4
    cases b with
    | true => exact .inl ⟨j, f1 rfl⟩
    | false => exact .inr (f2 rfl)
  refine ⟨⟨by unfold back; rw [backG_len]; exact R.len, fun i s h => ?_, fun i j b1 d1 b2 d2 a h1 h2 h3 h4 => ?_, b.zs, fun a h1 h2 => ?_, fun a h => ?_, fun a u h1 h2 => ?_, R.lz, fun a h => b.th a (R.th a h), R.z0⟩, ⟨fun a u q m => ⟨b.fr a u q (nof a m), ⟨fun w => ?_, fun w => b.kz a w (nof a m)⟩, fun w => m (mb a w)⟩, b.th⟩⟩
  · rw [back_get] at h
    cases w : e[i]? with
    | none => rw [w] at h; cases h
    | some t =>
      rw [w] at h
      have h' := Option.some.inj h
      subst h'
      have sr := R.sl i t w
      cases t with
      | un => trivial
      | val d => obtain ⟨v, e1, r⟩ := sr; exact ⟨v, e1, Dv.mono sub _ _ r⟩
      | frz d => obtain ⟨a, e1, e2, r⟩ := sr; exact ⟨a, e1, e2, Dv.mono sub _ _ r⟩
      | mu b' d =>
        obtain ⟨a, e1, z, c, f1, f2⟩ := sr
        by_cases lent : ∃ k, laOf os e σ k = some a
        · obtain ⟨k, lk⟩ := lent
          obtain ⟨j, b2, d2, g1, g2, g3⟩ := laOf_inv lk
          have ij := R.ds i j b' d b2 d2 a w g2 e1 g3
          subst ij
          have un : ∀ i', os[i']? = some (Op.pl i) → k = i' := fun i' w' => lends_inj hn g1 w' w
          rcases b.out k a lk with ⟨b3, d3, o1, z3, c3⟩ | ⟨d3, o1, c3⟩
          · have l := lentAt_of g1 o1 un
            unfold backS
            simp only [l]
            exact ⟨a, e1, z3, c3, f1, f2⟩
          · have l := lentAt_of g1 o1 un
            unfold backS
            simp only [l]
            cases b' with
            | true => exact ⟨a, e1, f1 rfl, c3⟩
            | false => exact ⟨_, e1, c3⟩
        · have nl : ∀ k, laOf os e σ k ≠ some a := fun k q => lent ⟨k, q⟩
          have ln : lentAt os o i = none := by
            cases l : lentAt os o i with
            | none => rfl
            | some s =>
              obtain ⟨k, q1, q2⟩ := lentAt_no l
              exact absurd (laOf_of q1 w e1) (nl k)
          unfold backS
          simp only [ln]
          obtain ⟨u, hu⟩ := c.some
          have ha := b.fr a u hu nl
          exact ⟨a, e1, b.kz a z nl, c.le sub (ha.trans hu.symm), f1, f2⟩
  · obtain ⟨d1', h1'⟩ := mm h1
    obtain ⟨d2', h2'⟩ := mm h2
    exact R.ds i j b1 d1' b2 d2' a h1' h2' h3 h4
  · refine b.kz a (R.kz a h1 h2) fun i g => ?_
    rcases lo g with ⟨j, q⟩ | q
    · exact h2 j q
    · exact R.z0 a h1 q
  · rcases b.zn a h with q | q
    · exact R.zn a q
    · right
      cases q2 : F.H0 a with
      | none => rfl
      | some u => exact absurd q (R.th a (by rw [q2]; simp))
  · refine b.fr a u (R.fr a u h1 h2) fun i g => ?_
    rcases lo g with ⟨j, q⟩ | q
    · exact h2 j q
    · rw [q] at h1; cases h1
  · rcases b.zn a w with h | h
    · exact h
    · rw [q] at h; cases h
/-- f(..) of ours -/
theorem call_red {f : Nat} {cf : Nat → List Sl → Cr.CR} {F : Fr} {e : Ev} {σ : L2.St} {H : Hp} {Z : Addr → Prop} {vs : List V} {os : List Op} {Q : VK} (R : Rel K F e σ H Z) (q : OpAll K σ H Z vs os) (p : Pst K W cv (rE K) F σ e H Z (callR cf f [] os e) Q) : spC K cv (cf f) vs H Q (WE W σ) := by
  unfold callR at p
  cases h : argsS os e with
  | none => rw [h] at p; exact p.elim
  | some ss =>
    rw [h] at p
    by_cases nd : (lends os e).Nodup
    · simp only [nd, if_true] at p
      refine ⟨ss, Z, laOf os e σ, args_ok R q h nd, ?_⟩
      cases g : cf f ss with
      | er => simp only [g] at p; exact p.elim
      | exc x o =>
        simp only [g] at p
        intro H' Z' b
        obtain ⟨R', k⟩ := back_ok R nd b
        exact p H' Z' R' (k.le R)
      | ret r o =>
        simp only [g] at p
        intro v H' Z' b rv
        obtain ⟨R', k⟩ := back_ok R nd b
        refine p v H' Z' R' k ?_
        cases r with
        | fz d => exact ⟨rv, fun d a e1 => by cases e1⟩
        | fr d =>
          obtain ⟨a, rfl, z, c, hnew⟩ := rv
          refine ⟨⟨a, rfl, z, c, fun m => ?_, ?_⟩, fun d' a' _ e2 => by cases e2; exact hnew⟩
          · obtain ⟨i, b1, d1, m1, m2⟩ := m
            rw [back_get] at m1
            cases w : e[i]? with
            | none => rw [w] at m1; cases m1
            | some s =>
              rw [w] at m1
              obtain ⟨d', e1⟩ := backS_mu (Option.some.inj m1)
              subst e1
              exact R.zs a (R.mutZ ⟨i, b1, d', w, m2⟩) hnew
          · cases q2 : F.H0 a with
            | none => rfl
            | some u => exact absurd hnew (R.th a (by rw [q2]; simp))
    · simp only [nd, if_false] at p
      exact p.elim
/-! ### arguments -/
theorem pe_arg {x : Expr} {i : Nat} (h : PE X x (tVar i)) : PE X x (tO K W cv fun e => match e[i]? with
    | some (.mu _ _) => .ok (.pl i) e
    | some (.val d) => .ok (.vl d) e
    | some (.frz d) => .ok (.vl d) e
    | _ => .er) := h.imp fun σ H Q ⟨F, e, Z, R, p⟩ => by
  replace p : Pst K W cv (rO K) F σ e H Z (match e[i]? with
    | some (.mu _ _) => .ok (.pl i) e
    | some (.val d) => .ok (.vl d) e
    | some (.frz d) => .ok (.vl d) e
    | _ => .er) Q := p
  cases w : e[i]? with
  | none => rw [w] at p; exact p.elim
  | some s =>
    rw [w] at p
    have sr := R.sl i s w
    cases s with
    | un => exact p.elim
    | val d => obtain ⟨v, e1, r⟩ := sr; exact ⟨v, e1, p v H Z R .refl r⟩
    | frz d => obtain ⟨a, e1, _, r⟩ := sr; exact ⟨_, e1, p _ H Z R .refl r⟩
    | mu b d => obtain ⟨a, e1, _⟩ := sr; exact ⟨_, e1, p _ H Z R .refl e1⟩
theorem pe_callD {k f : Nat} {cf : Nat → List Sl → Cr.CR} {fa : Addr} {fd : FuncData} {ps : List Str} {x : Str} {p pos : Pos} {e : Expr} {es : List Expr} {g : Ev → Rs (List Op)} (F : FnG X.prog X.w X.K X.mg X.base k fa fd ps (spC K cv (cf f))) (hr : Room k X.A) (hgd : X.A.guards = some []) (hg : Gl X x) (hm : X.mg x = some (.ref fa)) (hk : PySem.W.keepIn X.K (.ref fa) = true)
    (hb : Binds X.K fd ps []) (tk : Takes X W) (ha : PA X (e :: es) (tOs K W cv g)) (hdb : (x == ("__debug__" : Str)) = false) (hpl : (e :: es).all isPl = true) : PE X (.Call (.Name x p) (e :: es) [] pos) (tE K W cv fun e => (g e).bind fun os e => callR cf f [] os e) :=
  (pe_callG F hr hgd hg hm hk hb (E := WE W) (fun σ => passAt tk σ) ha hdb hpl).imp fun σ H Q ⟨F, e, Z, R, p⟩ => by
    refine ⟨F, e, Z, R, (Pst.bind (R1 := rOs K) (R2 := rE K) (fun _ _ _ _ _ _ _ _ _ _ k _ q => trE k q) R p).mono fun xs H1 ⟨os, e1, Z1, R1, k1, q1, p1⟩ => ?_⟩
    exact call_red R1 q1 p1
theorem pe_callD0 {k f : Nat} {cf : Nat → List Sl → Cr.CR} {fa : Addr} {fd : FuncData} {ps : List Str} {x : Str} {p pos : Pos} (F : FnG X.prog X.w X.K X.mg X.base k fa fd ps (spC K cv (cf f))) (hr : Room k X.A) (hgd : X.A.guards = some []) (hg : Gl X x) (hm : X.mg x = some (.ref fa)) (hk : PySem.W.keepIn X.K (.ref fa) = true)
    (hb : Binds X.K fd ps []) (tk : Takes X W) (hdb : (x == ("__debug__" : Str)) = false) : PE X (.Call (.Name x p) [] [] pos) (tE K W cv fun e => callR cf f [] [] e) :=
  (pe_callG0 F hr hgd hg hm hk hb (E := WE W) (fun σ => passAt tk σ) hdb).imp fun σ H Q ⟨F, e, Z, R, p⟩ => call_red R .nil p
/-! ### a call with a new list that the def may change -/
def call1F (cf : Nat → List Sl → Cr.CR) (f : Nat) (r : Rv) (e : Ev) : Rs Rv := match r with
  | .fr d => (match cf f [.mu true d] with
    | .ret r _ => .ok r e
    | .exc x _ => .ex x e
    | .er => .er)
  | .fz _ => .er
theorem bk1 {F : Fr} {e : Ev} {σ : L2.St} {H H' : Hp} {Z Z' : Addr → Prop} {a : Addr} {o : List Sl} (R : Rel K F e σ H Z) (za : Z a) (na : ¬ MutAt e σ a) (fa : F.H0 a = none) (b : Bk K (fun i => if i = 0 then some a else none) o H Z H' Z') : Rel K F e σ H' Z' ∧ (∀ a' u, a' ≠ a → H a' = some u → ¬ MutAt e σ a' → H' a' = some u ∧ (Z' a' ↔ Z a') ∧ ¬ MutAt e σ a') := by
  have nla : ∀ a', a' ≠ a → ∀ i : Nat, (fun i => if i = 0 then some a else none : Nat → Option Addr) i ≠ some a' := fun a' h i q => by
    dsimp only at q
    split at q
    · cases q; exact h rfl
    · cases q
  have fr : ∀ a' u, a' ≠ a → H a' = some u → H' a' = some u := fun a' u h q => b.fr a' u q (nla a' h)
  have sub : Sub (hid Z H) (hid Z' H') := fun a' u q => by
    obtain ⟨z, q⟩ := hid_some.mp q
    have hne : a' ≠ a := fun w => z (by rw [w]; exact za)
    refine hid_some.mpr ⟨fun w => ?_, fr a' u hne q⟩
    rcases b.zn a' w with h | h
    · exact z h
    · rw [q] at h; cases h
  have kz : ∀ a', a' ≠ a → Z a' → Z' a' := fun a' h w => b.kz a' w (nla a' h)
  refine ⟨⟨R.len, fun i s h => ?_, R.ds, b.zs, fun a' h1 h2 => ?_, fun a' h => ?_, fun a' u h1 h2 => ?_, R.lz, fun a' h => b.th a' (R.th a' h), R.z0⟩, fun a' u hne q m => ⟨fr a' u hne q, ⟨fun w => ?_, fun w => kz a' hne w⟩, m⟩⟩
  · have sr := R.sl i s h
    cases s with
    | un => trivial
    | val d => obtain ⟨v, e1, r⟩ := sr; exact ⟨v, e1, Dv.mono sub _ _ r⟩
    | frz d => obtain ⟨a', e1, e2, r⟩ := sr; exact ⟨a', e1, e2, Dv.mono sub _ _ r⟩
    | mu b' d =>
      obtain ⟨a', e1, z, c, f1, f2⟩ := sr
      have hne : a' ≠ a := fun w => na ⟨i, b', d, h, by rw [← w]; exact e1⟩
      obtain ⟨u, hu⟩ := c.some
      exact ⟨a', e1, kz a' hne z, c.le sub ((fr a' u hne hu).trans hu.symm), f1, f2⟩
  · have hne : a' ≠ a := fun w => R.z0 a' h1 (by rw [w]; exact fa)
    exact kz a' hne (R.kz a' h1 h2)
  · rcases b.zn a' h with q | q
    · exact R.zn a' q
    · right
      cases q2 : F.H0 a' with
      | none => rfl
      | some u => exact absurd q (R.th a' (by rw [q2]; simp))
  · have hne : a' ≠ a := fun w => by rw [w] at h1; rw [fa] at h1; cases h1
    exact fr a' u hne (R.fr a' u h1 h2)
  · rcases b.zn a' w with h | h
    · exact h
    · rw [q] at h; cases h
theorem call1_red {f : Nat} {cf : Nat → List Sl → Cr.CR} {g : Ev → Rs Rv} {σ : L2.St} {H : Hp} {Q : VK} (w : tE K W cv (fun e => (g e).bind fun r e => call1F cf f r e) σ H Q) : tE K W cv g σ H fun v H1 => spC K cv (cf f) [v] H1 Q (WE W σ) := by
  obtain ⟨F, e, Z, R, p⟩ := w
  refine ⟨F, e, Z, R, ?_⟩
  dsimp only at p
  cases hg : g e with
  | er => rw [hg] at p; exact p
  | ex x e' => rw [hg] at p; exact p
  | ok r e1 =>
    rw [hg] at p
    intro v H1 Z1 R1 k1 q1
    replace p : Pst K W cv (rE K) F σ e H Z (call1F cf f r e1) Q := p
    cases r with
    | fz d => exact p.elim
    | fr d =>
      obtain ⟨⟨a, ev, za, ca, na, fa⟩, hnew⟩ := q1
      subst ev
      have ha0 : H a = none := hnew d a rfl rfl
      unfold call1F at p
      dsimp only at p
      have keepK : ∀ {H' : Hp} {Z' : Addr → Prop} {o : List Sl}, Bk K (fun i => if i = 0 then some a else none) o H1 Z1 H' Z' → Rel K F e1 σ H' Z' ∧ Kp e σ H Z e1 H' Z' := fun {H' Z' o} b => by
        obtain ⟨R2, k2⟩ := bk1 R1 za na fa b
        refine ⟨R2, ⟨fun a' u q m => ?_, fun a' h => b.th a' (k1.th a' h)⟩⟩
        obtain ⟨h1, h2, h3⟩ := k1.keep a' u q m
        have hne : a' ≠ a := fun w => by rw [w, ha0] at q; cases q
        obtain ⟨g1, g2, g3⟩ := k2 a' u hne h1 h3
        exact ⟨g1, g2.trans h2, g3⟩
      refine ⟨[.mu true d], Z1, fun i => if i = 0 then some a else none, ⟨rfl, fun i d' h => ?_, fun i b d' h => ?_, fun i s h => ?_, fun i a' h => ?_, fun i j a' h1 h2 => ?_, R1.zs⟩, ?_⟩
      · cases i with
        | zero => cases h
        | succ i => cases h
      · cases i with
        | zero => cases h; exact ⟨rfl, a, rfl, rfl, za, ca⟩
        | succ i => cases h
      · cases i with
        | zero => cases h; exact .inr ⟨_, _, rfl⟩
        | succ i => cases h
      · split at h
        · rename_i h0; subst h0; exact ⟨_, _, rfl⟩
        · cases h
      · split at h1
        · split at h2
          · omega
          · cases h2
        · cases h1
      · cases hc : cf f [.mu true d] with
        | er => rw [hc] at p; exact p.elim
        | exc x o =>
          rw [hc] at p
          intro H' Z' b
          obtain ⟨R2, k2⟩ := keepK b
          exact p H' Z' R2 (k2.le R)
        | ret r o =>
          rw [hc] at p
          intro v' H' Z' b rv
          obtain ⟨R2, k2⟩ := keepK b
          refine p v' H' Z' R2 k2 ?_
          cases r with
          | fz d => exact ⟨rv, fun d a e1 => by cases e1⟩
          | fr d =>
            obtain ⟨a', rfl, z, c, hn⟩ := rv
            refine ⟨⟨a', rfl, z, c, fun m => R1.zs a' (R1.mutZ m) hn, ?_⟩, fun d' a2 _ e2 => ?_⟩
            · cases q2 : F.H0 a' with
              | none => rfl
              | some u => exact absurd hn (R1.th a' (by rw [q2]; simp))
            · cases e2
              cases q2 : H a' with
              | none => rfl
              | some u => exact absurd hn (k1.th a' (by rw [q2]; simp))
theorem pe_call1D {k f : Nat} {cf : Nat → List Sl → Cr.CR} {fa : Addr} {fd : FuncData} {ps : List Str} {x : Str} {p pos : Pos} {a : Expr} {g : Ev → Rs Rv} (F : FnG X.prog X.w X.K X.mg X.base k fa fd ps (spC K cv (cf f))) (hr : Room k X.A) (hgd : X.A.guards = some []) (hg : Gl X x) (hm : X.mg x = some (.ref fa)) (hk : PySem.W.keepIn X.K (.ref fa) = true)
    (hb : Binds X.K fd ps []) (tk : Takes X W) (ha : PE X a (tE K W cv g)) (hdb : (x == ("__debug__" : Str)) = false) (hpl : isPl a = true) : PE X (.Call (.Name x p) [a] [] pos) (tE K W cv fun e => (g e).bind fun r e => call1F cf f r e) :=
  (pe_callG F hr hgd hg hm hk hb (E := WE W) (fun σ => passAt tk σ) (pa_cons ha pa_nil (star1 hpl [] _)) hdb (by rw [List.all_cons, hpl]; rfl)).imp fun σ H Q w => call1_red w
end
end Cr
set_option Elab.async false
set_option linter.all false
set_option maxRecDepth 100000
set_option maxHeartbeats 4000000
namespace Cr
open PySem PySem.Spec PyProof.Rows L2
section
variable {X : Cx} {K : PySem.W.Frag} {W : WX} {cv : Nat → Value}
/-! ### a place is written -/
theorem hid_put {Z : Addr → Prop} {H : Hp} {a : Addr} {u : HO} (z : Z a) : hid Z (upd H a u) = hid Z H := by
  funext b
  unfold hid
  split
  · rfl
  · rename_i h
    exact upd_ne fun e => h (e ▸ z)
theorem Rel.put {F : Fr} {e : Ev} {σ : L2.St} {H : Hp} {Z : Addr → Prop} {i : Nat} {b : Bool} {d d' : D} {a : Addr} {u : HO} (R : Rel K F e σ H Z) (he : e[i]? = some (Sl.mu b d)) (hs : σ[i]? = some (some (V.ref a))) (c : Cell K (hid Z H) (upd H a u) a d') :
    Rel K F (e.set i (.mu b d')) σ (upd H a u) Z ∧ Kp e σ H Z (e.set i (.mu b d')) (upd H a u) Z := by
  have m : MutAt e σ a := ⟨i, b, d, he, hs⟩
  have z := R.mutZ m
  have hh : hid Z (upd H a u) = hid Z H := hid_put z
  have ml : ∀ {j : Nat} {b2 : Bool} {d2 : D}, (e.set i (.mu b d'))[j]? = some (Sl.mu b2 d2) → ∃ d3, e[j]? = some (Sl.mu b2 d3) := fun {j b2 d2} h => by
    rcases getElem?_set' h with ⟨q1, q2⟩ | ⟨_, q⟩
    · cases q2
      exact ⟨d, q1 ▸ he⟩
    · exact ⟨_, q⟩
  have sr := R.sl i _ he
  obtain ⟨a', e1, _, _, f1, f2⟩ := sr
  rw [hs] at e1
  cases e1
  have own : (∃ j, F.la j = some a) ∨ F.H0 a = none := by
    cases b with
    | true => exact .inl ⟨i, f1 rfl⟩
    | false => exact .inr (f2 rfl)
  have none_upd : ∀ x, H x ≠ none → upd H a u x ≠ none := fun x h => by
    by_cases q : x = a
    · subst q; rw [upd_same]; simp
    · rw [upd_ne q]; exact h
  refine ⟨⟨by rw [List.length_set]; exact R.len, fun j s h => ?_, fun j k b1 d1 b2 d2 x h1 h2 => ?_, fun x h => none_upd x (R.zs x h), R.kz, R.zn, fun x o h1 h2 => ?_, R.lz, fun x h => none_upd x (R.th x h), R.z0⟩, ⟨fun x o h1 h2 => ?_, none_upd⟩⟩
  · rcases getElem?_set' h with ⟨q1, q2⟩ | ⟨q1, q⟩
    · subst q1 q2
      exact ⟨a, hs, z, by rw [hh]; exact c, f1, f2⟩
    · refine (R.sl j s q).mono (by rw [hh]; exact Sub.refl) fun b2 d2 x e1 e2 => ?_
      subst e1
      have xa : x ≠ a := fun w => by
        subst w
        exact q1 (R.ds j i b2 d2 b d x q he e2 hs)
      exact ⟨R.mutZ ⟨j, b2, d2, q, e2⟩, upd_ne xa⟩
  · obtain ⟨d3, h3⟩ := ml h1
    obtain ⟨d4, h4⟩ := ml h2
    exact R.ds j k b1 d3 b2 d4 x h3 h4
  · have xa : x ≠ a := fun w => by
      subst w
      rcases own with ⟨j, q⟩ | q
      · exact h2 j q
      · rw [q] at h1; cases h1
    rw [upd_ne xa]
    exact R.fr x o h1 h2
  · have xa : x ≠ a := fun w => h2 (w ▸ m)
    refine ⟨by rw [upd_ne xa]; exact h1, Iff.rfl, fun ⟨j, b2, d2, w1, w2⟩ => ?_⟩
    obtain ⟨d3, h3⟩ := ml w1
    exact h2 ⟨j, b2, d3, h3, w2⟩
/-! ### the methods that change a list -/
def rMm (K : PySem.W.Frag) (m : Mm) : V → List V → Hp → VK → Prop := fun x vs H Q => ∃ (Z : Addr → Prop) (a : Addr) (xs : List V) (ds args ds' : List D) (r : D), x = V.ref a ∧ Z a ∧ H a = some (.lst xs) ∧ DvAll K (hid Z H) xs ds ∧ DvAll K (hid Z H) vs args ∧ mmD m (.list ds) args = some (.list ds', r) ∧
  ∀ v ys, DvAll K (hid Z H) ys ds' → Dv K (hid Z H) v r → Q v (upd H a (.lst ys))
def Mm.id : Mm → String
  | .append => "list.append" | .extend => "list.extend" | .pop => "list.pop" | .popAt => "list.pop" | .reverse => "list.reverse"
def Mm.nm : Mm → Str
  | .append => "append" | .extend => "extend" | .pop => "pop" | .popAt => "pop" | .reverse => "reverse"
theorem rd_its {pins : List (Addr × Obj)} {σ : L2.St} {H : Hp} {s : Shared} {b : Addr} {zs : List V} (I : Inv X pins σ H s) (h : Rd H b (.lst zs)) : zs.length ≤ sizeLine ∧ ∃ (its : List Value) (n : Nat), Vals zs its ∧ zs.length = its.length ∧ s.heap.get? b = some { cls := .type "list", data := .seq its.toArray n } := by
  obtain ⟨z, its, n, r, e⟩ := h.ok I.hok
  exact ⟨z, its, n, r, r.length, e⟩
theorem mt_extendR : MtM X "list.extend" (fun x vs H Q => ∃ l b xs zs, x = V.ref l ∧ vs = [.ref b] ∧ H l = some (.lst xs) ∧ Rd H b (.lst zs) ∧ xs.length + zs.length ≤ sizeLine ∧ Q .non (upd H l (.lst (xs ++ zs)))) := by
  intro pins s σ H x vs v us Q I rx rv h
  obtain ⟨l, b, xs, zs, rfl, rfl, hH, hB, hz, q⟩ := h
  cases rx
  obtain ⟨u, rfl, ru⟩ := rv.one
  cases ru
  obtain ⟨z, its, n, r, hl, e⟩ := I.lstM hH
  obtain ⟨z2, its2, n2, r2, hl2, e2⟩ := rd_its I hB
  have hsz : its.toArray.size + its2.toArray.size ≤ sizeLine := by rw [List.size_toArray, List.size_toArray]; omega
  have hlong : ¬ (!its.toArray.isEmpty && Builtin.List.listTooLong (its.toArray.size + its2.toArray.size)) = true := by
    rw [notLongL hsz, Bool.and_false]
    exact Bool.false_ne_true
  refine call_meets F.slot_list_extend ⟨_, e, rfl⟩ F.entry_list_extend (F.args_list_extend_2 _ _)
    (AutoSeq1.list_extend_list_list_0 l its.toArray n b its2.toArray n2 hlong (by rw [List.size_toArray]; omega) (by omega)) ⟨e, e2, ?_⟩
  refine ⟨.non, _, I.lset (its' := its ++ its2) hH e (by simp) (r.append r2) ?_, rfl, q⟩
  rw [List.length_append]
  omega
theorem DvAll.one {H : Hp} : ∀ {vs : List V} {d : D}, DvAll K H vs [d] → ∃ v, vs = [v] ∧ Dv K H v d
  | _, _, .cons a .nil => ⟨_, rfl, a⟩
theorem mt_D (m : Mm) : MtR X m.id (rMm X.K m) := by
  intro pins s σ H x vs v us Q I rx rv ⟨Z, a, xs, ds, args, ds', r, ex, z, hH, r1, r2, hm, k⟩
  subst ex
  have hl := r1.length
  cases m with
  | append =>
    cases args with
    | nil => cases hm
    | cons y rest =>
      cases rest with
      | cons _ _ => cases hm
      | nil =>
        have hm' : (if ds.length < sizeLine then some (PyData.list (ds ++ [y]), PyData.none) else none) = some (PyData.list ds', r) := hm
        split at hm'
        · rename_i hz
          cases hm'
          obtain ⟨w, rfl, rw'⟩ := r2.one
          exact mt_append pins s σ H _ _ v us Q I rx rv ⟨a, xs, w, rfl, rfl, hH, by omega, k _ _ (r1.append r2) .non⟩
        · cases hm'
  | extend =>
    cases args with
    | nil => cases hm
    | cons y rest =>
      cases rest with
      | cons _ _ => cases y <;> cases hm
      | nil =>
        cases y with
        | list ys =>
          have hm' : (if ds.length + ys.length ≤ sizeLine then some (PyData.list (ds ++ ys), PyData.none) else none) = some (PyData.list ds', r) := hm
          split at hm'
          · rename_i hz
            cases hm'
            obtain ⟨w, rfl, rw'⟩ := r2.one
            cases rw' with
            | lst s1 s2 =>
              rename_i b zs
              have hl2 := s2.length
              exact mt_extendR pins s σ H _ _ v us Q I rx rv ⟨a, b, xs, zs, rfl, rfl, hH, hid_sub.rd s1, by omega, k _ _ (r1.append s2) .non⟩
          · cases hm'
        | _ => cases hm
  | pop =>
    cases args with
    | cons _ _ => cases hm
    | nil =>
      have hm' : ((ds[ds.length - 1]?).map fun y => (PyData.list ds.dropLast, y)) = some (PyData.list ds', r) := hm
      cases g : ds[ds.length - 1]? with
      | none => rw [g] at hm'; cases hm'
      | some y =>
        rw [g] at hm'
        cases hm'
        cases r2
        obtain ⟨w, hw, dw⟩ := r1.at g
        exact mt_pop pins s σ H _ _ v us Q I rx rv ⟨a, xs, w, rfl, rfl, hH, by rw [hl]; exact hw, k _ _ r1.dropLast dw⟩
  | popAt =>
    cases args with
    | nil => cases hm
    | cons y rest =>
      cases rest with
      | cons _ _ => cases y <;> cases hm
      | nil =>
        cases y with
        | int i =>
          have hm' : (if -(2 ^ 63) ≤ i ∧ i < 2 ^ 63 then ((L2.ixN ds.length i).bind fun k => (ds[k]?).map fun y => (PyData.list (ds.eraseIdx k), y)) else none) = some (PyData.list ds', r) := hm
          split at hm'
          · rename_i hz
            cases g : L2.ixN ds.length i with
            | none => rw [g] at hm'; cases hm'
            | some j =>
              rw [g] at hm'
              have hm2 : ((ds[j]?).map fun y => (PyData.list (ds.eraseIdx j), y)) = some (PyData.list ds', r) := hm'
              cases g2 : ds[j]? with
              | none => rw [g2] at hm2; cases hm2
              | some y =>
                rw [g2] at hm2
                cases hm2
                obtain ⟨w, rfl, rw'⟩ := r2.one
                cases rw'
                obtain ⟨u, hu, du⟩ := r1.at g2
                obtain ⟨h1, _⟩ := ixN_seq (hl ▸ g)
                exact mt_popAt pins s σ H _ _ v us Q I rx rv ⟨a, xs, i, j, u, rfl, rfl, hH, hz.1, hz.2, h1, hu, k _ _ (r1.eraseIdx j) du⟩
          · cases hm'
        | _ => cases hm
  | reverse =>
    cases args with
    | cons _ _ => cases hm
    | nil =>
      cases hm
      cases r2
      exact mt_reverse pins s σ H _ _ v us Q I rx rv ⟨a, xs, rfl, rfl, hH, k _ _ r1.reverse .non⟩
/-- what a method call of a place asks for -/
theorem mm_red {m : Mm} {i : Nat} {F : Fr} {e : Ev} {σ : L2.St} {H : Hp} {Z : Addr → Prop} {x : V} {vs : List V} {ds : List D} {Q : VK} (R : Rel K F e σ H Z) (hx : σ[i]? = some (some x)) (q : DvAll K (hid Z H) vs ds) (p : Pst K W cv (rE K) F σ e H Z (mmAt m i ds e) Q) : rMm K m x vs H Q := by
  unfold mmAt at p
  cases g : e[i]? with
  | none => rw [g] at p; exact p.elim
  | some s =>
    rw [g] at p
    cases s with
    | mu b d =>
      obtain ⟨a, e1, z, c, _⟩ := R.sl i _ g
      rw [hx] at e1
      cases e1
      cases d with
      | list xs0 =>
        obtain ⟨xs, h1, h2⟩ := c
        cases g2 : mmD m (.list xs0) ds with
        | none => simp only [g2] at p; exact p.elim
        | some pr =>
          obtain ⟨d', r⟩ := pr
          simp only [g2] at p
          have dl : ∃ l, d' = .list l := by
            cases m
            · cases ds with
              | nil => cases g2
              | cons y rest =>
                cases rest with
                | cons _ _ => cases g2
                | nil =>
                  have g2' : (if xs0.length < sizeLine then some (PyData.list (xs0 ++ [y]), PyData.none) else none) = some (d', r) := g2
                  split at g2' <;> cases g2'
                  exact ⟨_, rfl⟩
            · cases ds with
              | nil => cases g2
              | cons y rest =>
                cases rest with
                | cons _ _ => cases y <;> cases g2
                | nil =>
                  cases y with
                  | list ys =>
                    have g2' : (if xs0.length + ys.length ≤ sizeLine then some (PyData.list (xs0 ++ ys), PyData.none) else none) = some (d', r) := g2
                    split at g2' <;> cases g2'
                    exact ⟨_, rfl⟩
                  | _ => cases g2
            · cases ds with
              | cons _ _ => cases g2
              | nil =>
                have g2' : ((xs0[xs0.length - 1]?).map fun y => (PyData.list xs0.dropLast, y)) = some (d', r) := g2
                cases w : xs0[xs0.length - 1]? with
                | none => rw [w] at g2'; cases g2'
                | some y => rw [w] at g2'; cases g2'; exact ⟨_, rfl⟩
            · cases ds with
              | nil => cases g2
              | cons y rest =>
                cases rest with
                | cons _ _ => cases y <;> cases g2
                | nil =>
                  cases y with
                  | int j =>
                    have g2' : (if -(2 ^ 63) ≤ j ∧ j < 2 ^ 63 then ((L2.ixN xs0.length j).bind fun k => (xs0[k]?).map fun y => (PyData.list (xs0.eraseIdx k), y)) else none) = some (d', r) := g2
                    split at g2'
                    · cases w : L2.ixN xs0.length j with
                      | none => rw [w] at g2'; cases g2'
                      | some k =>
                        rw [w] at g2'
                        have g3 : ((xs0[k]?).map fun y => (PyData.list (xs0.eraseIdx k), y)) = some (d', r) := g2'
                        cases w2 : xs0[k]? with
                        | none => rw [w2] at g3; cases g3
                        | some y => rw [w2] at g3; cases g3; exact ⟨_, rfl⟩
                    · cases g2'
                  | _ => cases g2
            · cases ds with
              | cons _ _ => cases g2
              | nil => cases g2; exact ⟨_, rfl⟩
          obtain ⟨l, rfl⟩ := dl
          refine ⟨Z, a, xs, xs0, ds, l, r, rfl, z, h1, h2, q, g2, fun v ys q1 q2 => ?_⟩
          obtain ⟨R', k⟩ := R.put (u := .lst ys) (d' := .list l) g hx ⟨ys, upd_same, q1⟩
          refine p v _ Z R' k ⟨?_, fun d a e1 => by cases e1⟩
          show Dv K (hid Z (upd H a (.lst ys))) v r
          rw [hid_put z]
          exact q2
      | _ => exact c.elim
    | _ => exact p.elim
def mmE (m : Mm) (i : Nat) (g : Ev → Rs (List D)) : Ev → Rs Rv := fun e => match e[i]? with
    | some (.mu _ (.list _)) => (g e).bind fun ds e => mmAt m i ds e
    | _ => .er
theorem mu_there {F : Fr} {e : Ev} {σ : L2.St} {H : Hp} {Z : Addr → Prop} {i : Nat} {b : Bool} {ds : List D} (R : Rel K F e σ H Z) (h : e[i]? = some (Sl.mu b (.list ds))) : ∃ a xs, σ[i]? = some (some (V.ref a)) ∧ Z a ∧ H a = some (.lst xs) ∧ DvAll K (hid Z H) xs ds := by
  obtain ⟨a, e1, z, c, _⟩ := R.sl i _ h
  obtain ⟨xs, h1, h2⟩ := c
  exact ⟨a, xs, e1, z, h1, h2⟩
theorem Mm.slot : ∀ m : Mm, Slot "list" m.nm m.id
  | .append => PySem.F.slot_list_append
  | .extend => PySem.F.slot_list_extend
  | .pop => PySem.F.slot_list_pop
  | .popAt => PySem.F.slot_list_pop
  | .reverse => PySem.F.slot_list_reverse
theorem Mm.ty : ∀ m : Mm, typeOf (.builtin m.id) = pure (.type "method_descriptor")
  | .append => by rfl
  | .extend => by rfl
  | .pop => by rfl
  | .popAt => by rfl
  | .reverse => by rfl
theorem pe_mmD {m : Mm} {i : Nat} {o a : Expr} {es : List Expr} {apos cpos : Pos} {g : Ev → Rs (List D)} (ho : PE X o (tVar i)) (ha : PA X (a :: es) (tDs X.K W cv g)) (hpl : (a :: es).all isPl = true)
    (hbase : attributeBase o m.nm X.env (eval o X.env) = eval o X.env) (hfew : ((backTo cpos (starEach (a :: es) X.env)).all (fun x => !x.1) && (backToKw cpos (keywordEach [] X.env)).all (fun x => x.1.isSome)
      && decide ((a :: es).length + ([] : List Keyword).length + (if ([] : List Keyword).isEmpty then 0 else 1) < 30)) = true) (hline : (apos.endLine == cpos.line) = true) : PE X (.Call (.Attribute o m.nm apos) (a :: es) [] cpos) (tE X.K W cv (mmE m i g)) := by
  have hpl' : isPl a = true ∧ es.all isPl = true := by rw [List.all_cons, Bool.and_eq_true] at hpl; exact hpl
  refine (pe_bm PySem.F.plainAttrs_list m.slot m.ty (mt_D m) ho ha hbase hfew hline (star1 hpl'.1 _ _) (backTo_any _ _ (starAll _ _ hpl'.2))).imp fun σ H Q ⟨F, e, Z, R, p⟩ => ?_
  unfold mmE at p
  split at p
  · rename_i b ds h
    obtain ⟨a, xs, e1, z, h1, h2⟩ := mu_there R h
    refine ⟨_, e1, .inl ⟨rfl, xs, .inl (.inl h1)⟩, F, e, Z, R, (Pst.bind (R1 := rDs X.K) (R2 := rE X.K) (fun _ _ _ _ _ _ _ _ _ _ k _ q => trE k q) R p).mono fun xs H1 ⟨os, e1', Z1, R1, k1, q1, p1⟩ => ?_⟩
    exact mm_red R1 e1 q1 p1
  · exact p.elim
theorem pe_mmD0 {m : Mm} {i : Nat} {o : Expr} {apos cpos : Pos} (ho : PE X o (tVar i))
    (hbase : attributeBase o m.nm X.env (eval o X.env) = eval o X.env) (hline : (apos.endLine == cpos.line) = true) : PE X (.Call (.Attribute o m.nm apos) [] [] cpos) (tE X.K W cv (mmE m i fun e => .ok [] e)) := by
  refine (pe_bm0 PySem.F.plainAttrs_list m.slot m.ty (mt_D m) ho hbase hline).imp fun σ H Q ⟨F, e, Z, R, p⟩ => ?_
  unfold mmE at p
  split at p
  · rename_i b ds h
    obtain ⟨a, xs, e1, z, h1, h2⟩ := mu_there R h
    exact ⟨_, e1, .inl ⟨rfl, xs, .inl (.inl h1)⟩, mm_red R e1 .nil p⟩
  · exact p.elim
/-! ### methods that look -/
def Vm.id : Vm → String
  | .index => "list.index" | .count => "list.count"
def Vm.nm : Vm → Str
  | .index => "index" | .count => "count"
theorem Vm.slot : ∀ m : Vm, Slot "list" m.nm m.id
  | .index => PySem.F.slot_list_index
  | .count => PySem.F.slot_list_count
theorem Vm.ty : ∀ m : Vm, typeOf (.builtin m.id) = pure (.type "method_descriptor")
  | .index => PySem.F.type_list_index
  | .count => PySem.F.type_list_count
def vmL (m : Vm) (ds : List D) : Option Rv := match ds with | d :: r => vmD m d r | [] => none
def rVm (K : PySem.W.Frag) (m : Vm) : V → List V → Hp → VK → Prop := fun x vs H Q => (∃ Z ds r, Paired (Ct K Z H) (x :: vs) ds ∧ vmL m ds = some r ∧ ∀ v H', NewR K Z H v H' r → Q v H')
theorem mt_V (m : Vm) : MtR X m.id (rVm X.K m) := by
  intro pins s σ H x vs v us Q I rx rvs ⟨Z, ds, r, hp, e, q⟩
  cases hp with
  | cons hx ht =>
  rename_i d dt
  cases m with
  | index =>
    replace e : vmD .index d dt = some r := e
    unfold vmD at e
    split at e <;> try (first | cases e | skip)
    all_goals try contradiction
    rename_i xs y _
    split at e
    · rename_i hs
      obtain ⟨y', hy', ry⟩ := Paired.one ht
      subst hy'
      obtain ⟨p, xs', rfl, h1, r1⟩ := hx.lst
      have r1' := DvAll.mono hid_sub _ _ r1
      have ry' := ry.full
      cases hf : xs.findIdx? fun x => PyData.eqv x y with
      | none => rw [hf] at e; cases e
      | some j =>
        rw [hf] at e
        cases e
        obtain ⟨hj, hj1, hj2⟩ := List.findIdx?_eq_some_iff_getElem.mp hf
        obtain ⟨z, hz, hd⟩ := r1'.at (List.getElem?_eq_getElem hj)
        have sc : ∀ (m : Nat) (hm : m < xs.length), isScal xs[m] = true := fun m hm => List.all_eq_true.mp hs.2 _ (List.getElem_mem hm)
        refine mt_index pins s σ H _ _ v us Q I rx rvs ⟨p, xs', y', j, z, rfl, rfl, .inl h1, scal_flat ry' hs.1, flat_all r1' hs.2, hz, ?_, fun m z' hm hz' => ?_, q _ _ .int⟩
        · rw [scal_eq hd ry' (sc j hj) hs.1]; exact hj1
        · have hm' : m < xs.length := by omega
          have hd' := r1'.get hz' (List.getElem?_eq_getElem hm')
          rw [scal_eq hd' ry' (sc m hm') hs.1]
          have := hj2 m hm
          simpa using this
    · cases e
  | count =>
    replace e : vmD .count d dt = some r := e
    unfold vmD at e
    split at e <;> try (first | cases e | skip)
    all_goals try contradiction
    rename_i xs y _
    obtain ⟨y', hy', ry⟩ := Paired.one ht
    subst hy'
    cases ry.int
    obtain ⟨p, xs', rfl, h1, r1⟩ := hx.lst
    cases g : intsD xs with
    | none => rw [g] at e; cases e
    | some l =>
      rw [g] at e
      cases e
      have e2 := DvAll.ints r1 g
      subst e2
      exact mt_lcount pins s σ H _ _ v us Q I rx rvs ⟨p, l, y, rfl, rfl, .inl h1, q _ _ .int⟩
theorem pe_vmD {m : Vm} {o a : Expr} {apos cpos : Pos} {f : Ev → Rs Op} {g : Ev → Rs (List Op)} (ho : PE X o (tO X.K W cv f)) (ha : PA X [a] (tOs X.K W cv g)) (hpl : isPl a = true)
    (hbase : attributeBase o m.nm X.env (eval o X.env) = eval o X.env) (hfew : ((backTo cpos (starEach [a] X.env)).all (fun x => !x.1) && (backToKw cpos (keywordEach [] X.env)).all (fun x => x.1.isSome)
      && decide ([a].length + ([] : List Keyword).length + (if ([] : List Keyword).isEmpty then 0 else 1) < 30)) = true) (hline : (apos.endLine == cpos.line) = true) :
    PE X (.Call (.Attribute o m.nm apos) [a] [] cpos) (tE X.K W cv fun e => (f e).bind fun x e => match x.get e with
    | some (.list _) => (g e).bind fun os e => many (x :: os) e fun ds => match ds with | d :: r => vmD m d r | [] => none
    | _ => .er) := by
  refine (pe_bm PySem.F.plainAttrs_list m.slot m.ty (mt_V m) ho ha hbase hfew hline (star1 hpl _ _) rfl).imp fun σ H Q ⟨F, e, Z, R, p⟩ => ?_
  refine ⟨F, e, Z, R, (Pst.bind (R1 := rO X.K) (R2 := rE X.K) (fun _ _ _ _ _ _ _ _ _ _ k _ q => trE k q) R p).mono fun x H1 ⟨o1, e1, Z1, R1, k1, q1, p1⟩ => ?_⟩
  cases hg : o1.get e1 with
  | none => simp only [hg] at p1; exact p1.elim
  | some d =>
    cases d with
    | list ds =>
      simp only [hg] at p1
      obtain ⟨p, xs, rfl, h1, _⟩ := (q1.get R1 hg).lst
      refine ⟨.inl ⟨rfl, xs, .inl h1⟩, F, e1, Z1, R1, (Pst.bind (R1 := rOs X.K) (R2 := rE X.K) (fun _ _ _ _ _ _ _ _ _ _ k _ q => trE k q) R1 p1).mono fun vs H2 ⟨os, e2, Z2, R2, k2, q2, p2⟩ => ?_⟩
      exact many_ok R2 (.cons (q1.keep R1 k2) q2) p2
    | _ => simp only [hg] at p1; exact p1.elim
/-! ### slices -/
abbrev tIo (K : PySem.W.Frag) (W : WX) (cv : Nat → Value) (f : Ev → Rs (Option Int)) : TO := tR K W cv rIo f
theorem po_D0 : PO X none (tIo K W cv fun e => .ok none e) := po_none.imp fun σ H Q ⟨F, e, Z, R, p⟩ => p _ H Z R .refl rfl
theorem po_D1 {a : Expr} {f : Ev → Rs Op} (ha : PE X a (tO K W cv f)) : PO X (some a) (tIo K W cv fun e => (f e).bind fun x e => match x.get e with | some (.int i) => .ok (some i) e | _ => .er) := (po_some ha).imp fun σ H Q ⟨F, e, Z, R, p⟩ => by
  refine ⟨F, e, Z, R, (Pst.bind (R1 := rO K) (R2 := rIo) (fun _ _ _ _ _ _ _ _ _ _ k _ q => q) R p).mono fun x H1 ⟨o, e1, Z1, R1, k1, q1, p1⟩ => ?_⟩
  cases g : o.get e1 with
  | none => rw [g] at p1; exact p1.elim
  | some d =>
    rw [g] at p1
    cases d with
    | int i =>
      have c := (q1.get R1 g).full
      cases c
      exact ⟨i, rfl, p1 _ H1 Z1 R1 .refl rfl⟩
    | _ => exact p1.elim
theorem pe_slcD {a : Expr} {lo hi : Option Expr} {p2 pos : Pos} {f : Ev → Rs Op} {g h : Ev → Rs (Option Int)} (ha : PE X a (tO X.K W cv f)) (hl : PO X lo (tIo X.K W cv g)) (hh : PO X hi (tIo X.K W cv h)) : PE X (.Subscript a (.Slice lo hi none p2) pos) (tE X.K W cv fun e => (f e).bind fun x e => (g e).bind fun l e => (h e).bind fun h e => one x e fun d => slcD d l h) :=
  (pe_slice sl_D ha hl hh).imp fun σ H Q ⟨F, e, Z, R, p⟩ => by
    refine ⟨F, e, Z, R, (Pst.bind (R1 := rO X.K) (R2 := rE X.K) (fun _ _ _ _ _ _ _ _ _ _ k _ q => trE k q) R p).mono fun x H1 ⟨o, e1, Z1, R1, k1, q1, p1⟩ => ?_⟩
    refine ⟨F, e1, Z1, R1, (Pst.bind (R1 := rIo) (R2 := rE X.K) (fun _ _ _ _ _ _ _ _ _ _ k _ q => trE k q) R1 p1).mono fun l H2 ⟨l', e2, Z2, R2, k2, q2, p2⟩ => ?_⟩
    refine ⟨F, e2, Z2, R2, (Pst.bind (R1 := rIo) (R2 := rE X.K) (fun _ _ _ _ _ _ _ _ _ _ k _ q => trE k q) R2 p2).mono fun u H3 ⟨u', e3, Z3, R3, k3, q3, p3⟩ => ?_⟩
    subst q2 q3
    obtain ⟨Z4, d, r, c, er, kq⟩ := one_ok R3 ((q1.keep R1 k2).keep R2 k3) p3
    exact ⟨Z4, d, r, c, er, kq⟩
end
end Cr
set_option Elab.async false
set_option linter.all false
set_option maxRecDepth 100000
set_option maxHeartbeats 4000000
namespace Cr
open PySem PySem.Spec PyProof.Rows L2
/-! ### lists and tuples alike -/
inductive Sk where
  | l | t
def Sk.at (K : PySem.W.Frag) (H : Hp) : Sk → Addr → List V → Prop
  | .l, a, xs => SqL K H a xs
  | .t, a, xs => SqT K H a xs
def Sk.isq (h : Heap) : Sk → Addr → Array Value → Prop
  | .l, a, its => h.IsList a its
  | .t, a, its => h.IsTuple a its
def Sk.iter (h : Heap) : Sk → Addr → Addr → Nat → Prop
  | .l, it, a, i => h.IsListIter it a i
  | .t, it, a, i => h.IsTupleIter it a i
theorem Sk.iter_at {h h' : Heap} {k : Sk} {it a : Addr} {i : Nat} (st : k.iter h it a i) (kk : ∀ o, h.get? it = some o → h'.get? it = some o) : k.iter h' it a i := by
  cases k with
  | l => exact Heap.IsListIter.at (show h.IsListIter it a i from st) kk
  | t => exact Heap.IsTupleIter.at (show h.IsTupleIter it a i from st) kk
theorem Sk.iter_obj {h : Heap} {k : Sk} {it a : Addr} {i : Nat} (st : k.iter h it a i) : ∃ o, h.get? it = some o ∧ ∀ v, o.data ≠ .cell v := by
  cases k with
  | l => obtain ⟨o, e, c, d⟩ := st; exact ⟨o, e, fun v z => by rw [d] at z; cases z⟩
  | t => obtain ⟨o, e, c, d⟩ := st; exact ⟨o, e, fun v z => by rw [d] at z; cases z⟩
theorem Sk.isq_lt {h : Heap} {k : Sk} {a : Addr} {its : Array Value} (st : k.isq h a its) : a < h.objs.size := by
  cases k with
  | l => obtain ⟨o, e, _⟩ := st; exact Heap.lt_size e
  | t => obtain ⟨o, e, _⟩ := st; exact Heap.lt_size e
theorem Sk.iter_lt {h : Heap} {k : Sk} {it a : Addr} {i : Nat} (st : k.iter h it a i) : it < h.objs.size := by
  obtain ⟨o, e, _⟩ := Sk.iter_obj st
  exact Heap.lt_size e
theorem Sk.at_mono {K : PySem.W.Frag} {H H' : Hp} (h : Sub H H') {k : Sk} {a : Addr} {xs : List V} (r : k.at K H a xs) : k.at K H' a xs := by
  cases k with
  | l => exact h.sqL (show SqL K H a xs from r)
  | t => exact h.sqT (show SqT K H a xs from r)
section
variable {X : Cx} {pins : List (Addr × Obj)} {σ : L2.St} {H : Hp} {s : Shared} {a : Addr} {xs ys : List V}
theorem Sk.seq {k : Sk} (I : Inv X pins σ H s) (h : k.at X.K H a xs) : ∃ its : List Value, Vals xs its ∧ k.isq s.heap a its.toArray ∧ xs.length ≤ sizeLine := by
  cases k with
  | l =>
    obtain ⟨its, r, p, z⟩ := I.list (show SqL X.K H a xs from h)
    exact ⟨its, r, p.isList, z⟩
  | t =>
    obtain ⟨its, r, p, z⟩ := I.tuple (show SqT X.K H a xs from h)
    exact ⟨its, r, p, z⟩
theorem Sk.inj {k : Sk} (I : Inv X pins σ H s) (h : k.at X.K H a xs) (h' : k.at X.K H a ys) : xs = ys := by
  cases k with
  | l => exact I.list_inj (show SqL X.K H a xs from h) h'
  | t => exact I.tuple_inj (show SqT X.K H a xs from h) h'
end
theorem Sk.draws {prog : Program} {w : World} {A : Around} (hh : A.handled = none) (k : Sk) (it a : Addr) (hne : a ≠ it) (items : Array Value) :
    Draws prog w A it [it, a] items.size (fun i v => items[i]? = some v) (fun i h => k.iter h it a i ∧ k.isq h a items) := by
  cases k with
  | l => exact Draws.list hh it a hne items
  | t => exact Draws.tuple hh it a hne items
def Sk.obj (k : Sk) (a : Addr) : Obj :=
  match k with
  | .l => { cls := .type "list_iterator", data := .fields #[.ref a, .int 0 0] }
  | .t => { cls := .type "tuple_iterator", data := .fields #[.ref a, .int 0 0] }
theorem Sk.begins (k : Sk) (a : Addr) (items : Array Value) : Begins (.ref a) (k.obj a) fun h => k.isq h a items := by
  cases k with
  | l => exact begins_list a items
  | t => exact begins_tuple a items
theorem Sk.iter0 {k : Sk} {h : Heap} {it a : Addr} (e : h.get? it = some (k.obj a)) : k.iter h it a 0 := by
  cases k with
  | l => exact ⟨_, e, rfl, rfl⟩
  | t => exact ⟨_, e, rfl, rfl⟩
/-! ### enumerate(v) -/
set_option maxHeartbeats 1000000 in
theorem meets_enumB1 {v : Value} {o : Obj} {H : Heap → Prop} (B : Begins v o H) :
    Meets (Builtin.«enumerate.__new__» ⟨[.type "enumerate", v], []⟩) (fun _ R s => H s.heap ∧
      R (.ok (.ret (.ref (s.heap.push o).objs.size))) { s with heap := (s.heap.push o).push { cls := .type "enumerate", data := .fields #[.none, .bool false, .ref s.heap.objs.size, rawInt 0, .none, .none] } }) :=
  .of_wp fun prog w A R s h => by
    obtain ⟨hp, g, d, tk, os⟩ := s; obtain ⟨h1, h⟩ := h
    have hsub := sub_enumerate
    have q1 : ∀ {A' : Around} {E : Value → Shared → Prop} {Q : Value → Shared → Prop}, Q (.ref hp.objs.size) ⟨hp.push o, g, d, tk, os⟩ → wpAny (model prog w) A' (pyIter v) Q E ⟨hp, g, d, tk, os⟩ :=
      fun q => B.iter prog w _ _ ⟨hp, g, d, tk, os⟩ _ h1 q
    wp_walk using q1
    refine wpAny_stack_any fun st => wpAny_pure ?_
    split
    · rename_i c _ _ _ _ _
      cases (c == Value.type "enumerate")
      · wp_walk using q1
        exact ⟨_, rfl, h⟩
      · wp_walk using q1
        exact ⟨_, rfl, h⟩
    · wp_walk using q1
      exact ⟨_, rfl, h⟩
theorem call_enumB1 {prog : Program} {w : World} {A : Around} {E : Value → Shared → Prop} {s : Shared} {v : Value} {o : Obj} {H : Heap → Prop} {Q : Value → Shared → Prop} (B : Begins v o H) (h1 : H s.heap)
    (h : ∀ h', IsEnum h' (s.heap.objs.size + 1) s.heap.objs.size 0 .none → h'.get? s.heap.objs.size = some o → h'.objs.size = s.heap.objs.size + 2 →
      (∀ b o, s.heap.get? b = some o → h'.get? b = some o) → Q (.ref (s.heap.objs.size + 1)) { s with heap := h' }) :
    wpAny (model prog w) A (call (.type "enumerate") [v]) Q E s := by
  refine callType_new F.called_enumerate (by decide) (F.typeCall_enumerate_1 _) (F.newCall_enumerate_1 _) (fun obj => F.args_object_init_2 obj _) F.entry_enumerate_new
    (meets_enumB1 B) ⟨h1, ?_⟩
  have hz : (s.heap.push o).objs.size = s.heap.objs.size + 1 := Heap.size_push ..
  show _ ∧ _
  rw [hz]
  have he : IsEnum ((s.heap.push o).push { cls := .type "enumerate", data := .fields #[.none, .bool false, .ref s.heap.objs.size, rawInt 0, .none, .none] }) (s.heap.objs.size + 1) s.heap.objs.size 0 .none := by
    have := Heap.get?_push_size (s.heap.push o) (o := { cls := .type "enumerate", data := .fields #[.none, .bool false, .ref s.heap.objs.size, rawInt 0, .none, .none] }) rfl
    rw [hz] at this; exact this
  refine ⟨⟨_, he, rfl⟩, h _ he (Heap.get?_push_of_some _ (Heap.get?_push_size _ B.free)) (by rw [Heap.size_push, hz]) fun b o x => Heap.get?_push_of_some _ (Heap.get?_push_of_some _ x)⟩
/-- the sequence at a as it stands, each item in a new pair with its number -/
def ItE (K : PySem.W.Frag) (k : Sk) (a : Addr) : L2.It :=
  ⟨fun i H => ∃ (xs : List V) (x : V), k.at K H a xs ∧ xs[i]? = some x, fun i H v H' => ∃ T x, v = .ref T ∧ H T = none ∧ H' = upd H T (.tup [.int (i : Nat), x]) ∧ ∀ xs, k.at K H a xs → xs[i]? = some x, fun i H => ∃ xs : List V, k.at K H a xs ∧ xs.length = i⟩
theorem turn_enumK {P : Program} {w : World} {K : PySem.W.Frag} {elts : List Expr} {kk : Nat} {tpos : Pos} (k : Sk) (a e it : Addr) (hae : a ≠ e) (hai : a ≠ it) (hei : e ≠ it) :
    Turn P w K (.Tuple elts kk tpos) (ItE K k a) [e, it] e (fun i h => (∃ old, IsEnum h e it ((i : Nat) : Int) old) ∧ k.iter h it a i) where
  mem := by simp
  obj := fun i h st b hb => by
    obtain ⟨⟨old, he⟩, hi⟩ := st
    have e' : b = e ∨ b = it := by simpa using hb
    rcases e' with z | z
    · rw [z]; exact ⟨_, he, fun v q => nomatch q⟩
    · rw [z]; exact Sk.iter_obj hi
  keep := fun i h h' st kp => let ⟨⟨old, he⟩, hi⟩ := st; ⟨⟨old, kp e (by simp) _ he⟩, Sk.iter_at hi fun o q => kp it (by simp) o q⟩
  item := by
    intro X hP hw hK hc i pins s σ H E I hf st hg
    subst hP hw hK
    obtain ⟨⟨old, he⟩, hit⟩ := st
    obtain ⟨xs, x, hq, hx⟩ := hg
    obtain ⟨its, rv, p, hz⟩ := Sk.seq I hq
    have hlt : i < its.toArray.size := by
      have h1 := rv.length
      have h2 := (List.getElem?_eq_some_iff.mp hx).1
      simp only [List.size_toArray]
      omega
    have hel : e < s.heap.objs.size := Heap.lt_size he
    have hil : it < s.heap.objs.size := Sk.iter_lt hit
    have hh : X.A.in1.handled = none := I.ok.hd hc
    refine wpAny_pyNext_enum_itemD (Sk.draws hh k it a hai its.toArray) he ⟨hit, p⟩ hlt hei (by simp [hei, Ne.symm hae]) fun u h' tk hu ho hst' hT hsz hk => ?_
    obtain ⟨hit', p'⟩ := hst'
    have ru : RelV x u := by
      obtain ⟨u', h1, h2⟩ := rv.get hx
      have h3 : its[i]? = some u := by simpa using hu
      rw [h1] at h3
      cases h3
      exact h2
    refine ⟨_, rfl, wpAny_letOwnedTupleGo_enum (s := { s with heap := h', toks := tk + 1 }) ho fun h'' he' sb => ?_⟩
    have hT2 : h''.get? s.heap.objs.size = some { cls := .type "tuple", data := .seq #[.int i tk, u] } := (sb.2 _ (Nat.ne_of_gt hel)).trans hT
    have new : ObjOk X.prog X.w (upd H s.heap.objs.size (.tup [.int (i : Nat), x])) h'' s.heap.objs.size (.tup [.int (i : Nat), x]) :=
      ⟨by show 2 ≤ sizeLine; decide, [.int i tk, u], .cons ⟨_, rfl⟩ (.cons ru .nil), ⟨_, hT2, rfl, _, rfl⟩⟩
    have I1 : Inv X pins σ (upd H s.heap.objs.size (.tup [.int (i : Nat), x])) { s with heap := h'', toks := tk + 1 } :=
      I.turnedNew (ch := [e, it]) (fun b ob hb q => (sb.2 b (fun z => hb (by simp [z]))).trans (hk b ob (fun z => hb (by simp [z])) (fun z => hb (by simp [z])) q)) hf (Nat.le_refl _) new
    refine ⟨.ref s.heap.objs.size, _, I1, rfl, ⟨_, x, rfl, I.hok.fresh (Nat.le_refl _), rfl, fun ys hy => by rw [Sk.inj I hy hq]; exact hx⟩, ⟨⟨u, ?_⟩, Sk.iter_at hit' fun o q => (sb.2 it (Ne.symm hei)).trans q⟩, fun b hb => ?_⟩
    · have e1 : ((i + 1 : Nat) : Int) = (i : Int) + 1 := by omega
      rw [e1]; exact he'
    · have hb' : b < s.heap.objs.size := by
        have e' : b = e ∨ b = it := by simpa using hb
        rcases e' with z | z
        · rw [z]; exact hel
        · rw [z]; exact hil
      rw [upd_ne (Nat.ne_of_lt hb')]
      exact (hf b hb).1
  done := by
    intro X hP hw hK hc i pins s σ H E I hf st hg
    subst hP hw hK
    obtain ⟨⟨old, he⟩, hit⟩ := st
    obtain ⟨xs, hq, hx⟩ := hg
    obtain ⟨its, rv, p, hz⟩ := Sk.seq I hq
    obtain ⟨f0, f1, f2, f3, f4, f5⟩ := hf it (by simp)
    have hl := rv.length
    have hh : X.A.in1.handled = none := I.ok.hd hc
    have hi : i = its.toArray.size := by simp only [List.size_toArray]; omega
    subst hi
    exact wpAny_pyNext_enum_endD (Sk.draws hh k it a hai its.toArray) he ⟨hit, p⟩ fun h' eb => ⟨rfl, I.turned (t' := s.toks) (fun b o hb q => eb b o hb q) f0 f1 f3 f4 f5⟩
  self := fun A i s Q E st h => let ⟨⟨_, he⟩, _⟩ := st; wpAny_pyIter_enum he h
section
variable {X : Cx}
def iEnumK (K : PySem.W.Frag) (ta : TA) : TI := fun σ H R => ta σ H fun vs H1 => ∃ k a xs, vs = [.ref a] ∧ Sk.at K H1 k a xs ∧ R (ItE K k a) H1
theorem pi_enumK {e : Expr} {ta : TA} {p pos tpos : Pos} {elts : List Expr} {kk : Nat} (hg : Gl X "enumerate") (hm : X.mg "enumerate" = none) (ha : PA X [e] ta) (hs : starEach [e] X.env = [(false, eval e X.env)]) :
    PI X (.Tuple elts kk tpos) (.Call (.Name "enumerate" p) [e] [] pos) (iEnumK X.K ta) := by
  refine ⟨fun pins s σ H R I h => ?_⟩
  refine Call_ (ld_blt I hg hm boot_enumerate (PyProof.Rows.callWith_type1 (thn (ha.run pos pins s σ H _ I h) fun us s1 ⟨vs, H1, I1, r1, q1⟩ => ?_) hs rfl))
  obtain ⟨k, a, xs, ex, hq, q⟩ := q1
  subst ex
  cases r1 with
  | cons r rr =>
    cases rr
    cases r
    obtain ⟨its, rv, p', hz⟩ := Sk.seq I1 hq
    have al := Sk.isq_lt p'
    refine call_enumB1 (k.begins a its.toArray) p' fun h' he hit hsz hk => wpAny_pyIter_enum he ?_
    have I2 : Inv X pins σ H1 { s1 with heap := h' } := I1.kept (t' := s1.toks) hk
    refine ⟨s1.heap.objs.size + 1, [s1.heap.objs.size + 1, s1.heap.objs.size], _, _, H1, rfl, I2, turn_enumK k a (s1.heap.objs.size + 1) s1.heap.objs.size (Nat.ne_of_lt (Nat.lt_succ_of_lt al)) (Nat.ne_of_lt al) (Nat.succ_ne_self _), ⟨⟨.none, he⟩, Sk.iter0 hit⟩, fun b hb => ?_, q⟩
    have e' : b = s1.heap.objs.size + 1 ∨ b = s1.heap.objs.size := by simpa using hb
    have hle : s1.heap.objs.size ≤ b := by
      rcases e' with z | z
      · rw [z]; exact Nat.le_add_right _ _
      · rw [z]; exact Nat.le_refl _
    exact I1.fpOk hle (I1.hok.fresh hle)
end
/-! ### zip(v, w) -/
def ItZ (K : PySem.W.Frag) (k1 k2 : Sk) (a b : Addr) : L2.It :=
  ⟨fun i H => ∃ (xs ys : List V) (x y : V), k1.at K H a xs ∧ k2.at K H b ys ∧ xs[i]? = some x ∧ ys[i]? = some y,
    fun i H v H' => ∃ T x y, v = .ref T ∧ H T = none ∧ H' = upd H T (.tup [x, y]) ∧ (∀ xs, k1.at K H a xs → xs[i]? = some x) ∧ ∀ ys, k2.at K H b ys → ys[i]? = some y,
    fun i H => ∃ xs ys : List V, k1.at K H a xs ∧ k2.at K H b ys ∧ i ≤ xs.length ∧ i ≤ ys.length ∧ (i = xs.length ∨ i = ys.length)⟩
theorem turn_zipK {P : Program} {w : World} {K : PySem.W.Frag} {elts : List Expr} {kk : Nat} {tpos : Pos} {a b z TI TO i1 i2 : Addr} (k1 k2 : Sk) (D : ZipSep2 z TI TO i1 i2 [i1, a] [i2, b]) (h1a : a ≠ i1) (h2b : b ≠ i2) :
    Turn P w K (.Tuple elts kk tpos) (ItZ K k1 k2 a b) [z, TI, TO, i1, i2] z (fun i h => IsZip h z TI TO .none ∧ IsTupOf2 h TI (.ref i1) (.ref i2) ∧ (∃ x y, IsTupOf2 h TO x y) ∧ k1.iter h i1 a i ∧ k2.iter h i2 b i) where
  mem := by simp
  obj := fun i h st c hc => by
    obtain ⟨hz, hTI, ⟨x, y, hTO⟩, h1, h2⟩ := st
    have e' : c = z ∨ c = TI ∨ c = TO ∨ c = i1 ∨ c = i2 := by simpa using hc
    rcases e' with q | q | q | q | q
    · rw [q]; exact ⟨_, hz, fun v q => nomatch q⟩
    · rw [q]; exact ⟨_, hTI, fun v q => nomatch q⟩
    · rw [q]; exact ⟨_, hTO, fun v q => nomatch q⟩
    · rw [q]; exact Sk.iter_obj h1
    · rw [q]; exact Sk.iter_obj h2
  keep := fun i h h' st k => by
    obtain ⟨hz, hTI, ⟨x, y, hTO⟩, h1, h2⟩ := st
    exact ⟨k z (by simp) _ hz, k TI (by simp) _ hTI, ⟨x, y, k TO (by simp) _ hTO⟩, Sk.iter_at h1 fun o q => k i1 (by simp) o q, Sk.iter_at h2 fun o q => k i2 (by simp) o q⟩
  item := by
    intro X hP hw hK hc i pins s σ H E I hf st hg
    subst hP hw hK
    obtain ⟨hz, hTI, ⟨x0, y0, hTO⟩, h1, h2⟩ := st
    obtain ⟨xs, ys, x, y, hqx, hqy, hx, hy⟩ := hg
    obtain ⟨its, rv, p, _⟩ := Sk.seq I hqx
    obtain ⟨its2, rv2, p2, _⟩ := Sk.seq I hqy
    have hh : X.A.in1.handled = none := I.ok.hd hc
    have l1 := rv.length
    have l2 := rv2.length
    have hlt1 : i < its.toArray.size := by
      have := (List.getElem?_eq_some_iff.mp hx).1
      simp only [List.size_toArray]; omega
    have hlt2 : i < its2.toArray.size := by
      have := (List.getElem?_eq_some_iff.mp hy).1
      simp only [List.size_toArray]; omega
    have hzl : z < s.heap.objs.size := Heap.lt_size hz
    refine wpAny_pyNext_zipD2_item D (Sk.draws hh k1 i1 a h1a its.toArray) (Sk.draws hh k2 i2 b h2b its2.toArray) hz hTI hTO ⟨h1, p⟩ ⟨h2, p2⟩ hlt1 hlt2 fun u u2 h' tk hu hu2 z' TO' st1 st2 hT hsz hk => ?_
    have ru : RelV x u := by
      obtain ⟨u', w1, w2⟩ := rv.get hx
      have w3 : its[i]? = some u := by simpa using hu
      rw [w1] at w3; cases w3; exact w2
    have ru2 : RelV y u2 := by
      obtain ⟨u', w1, w2⟩ := rv2.get hy
      have w3 : its2[i]? = some u2 := by simpa using hu2
      rw [w1] at w3; cases w3; exact w2
    refine ⟨_, rfl, wpAny_letOwnedTupleGo_zip (s := { s with heap := h', toks := tk }) z' fun h'' z'' sb => ?_⟩
    have hT2 : h''.get? s.heap.objs.size = some { cls := .type "tuple", data := .seq #[u, u2] } := (sb.2 _ (Nat.ne_of_gt hzl)).trans hT
    have new : ObjOk X.prog X.w (upd H s.heap.objs.size (.tup [x, y])) h'' s.heap.objs.size (.tup [x, y]) :=
      ⟨by show 2 ≤ sizeLine; decide, [u, u2], .cons ru (.cons ru2 .nil), ⟨_, hT2, rfl, _, rfl⟩⟩
    have I1 : Inv X pins σ (upd H s.heap.objs.size (.tup [x, y])) { s with heap := h'', toks := tk } :=
      I.turnedNew (t' := tk) (ch := [z, TI, TO, i1, i2]) (fun c o hb q => (sb.2 c (fun q' => hb (by simp [q']))).trans (hk c o (fun q' => hb (by simp [q'])) (fun q' => hb (by simp [q'])) (fun q' => hb (by simp [q'])) (fun q' => hb (by simp [q'])) q)) hf (Nat.le_refl _) new
    refine ⟨.ref s.heap.objs.size, _, I1, rfl, ⟨_, x, y, rfl, I.hok.fresh (Nat.le_refl _), rfl, fun l hl => by rw [Sk.inj I hl hqx]; exact hx, fun l hl => by rw [Sk.inj I hl hqy]; exact hy⟩, ⟨z'', ?_, ⟨u, u2, ?_⟩, ?_, ?_⟩, fun c hcm => ?_⟩
    · exact (sb.2 _ D.TIz).trans (hk _ _ D.TIz D.TITO D.TIi1 D.TIi2 hTI)
    · exact (sb.2 _ D.TOz).trans TO'
    · exact Sk.iter_at st1.1 fun o q => (sb.2 _ (Ne.symm D.zi1)).trans q
    · exact Sk.iter_at st2.1 fun o q => (sb.2 _ (Ne.symm D.zi2)).trans q
    · have hlt : c < s.heap.objs.size := by
        have e' : c = z ∨ c = TI ∨ c = TO ∨ c = i1 ∨ c = i2 := by simpa using hcm
        rcases e' with q | q | q | q | q
        · rw [q]; exact hzl
        · rw [q]; exact Heap.lt_size hTI
        · rw [q]; exact Heap.lt_size hTO
        · rw [q]; exact Sk.iter_lt h1
        · rw [q]; exact Sk.iter_lt h2
      rw [upd_ne (Nat.ne_of_lt hlt)]
      exact (hf c hcm).1
  done := by
    intro X hP hw hK hc i pins s σ H E I hf st hg
    subst hP hw hK
    obtain ⟨hz, hTI, ⟨x0, y0, hTO⟩, h1, h2⟩ := st
    obtain ⟨xs, ys, hqx, hqy, le1, le2, hend⟩ := hg
    obtain ⟨its, rv, p, _⟩ := Sk.seq I hqx
    obtain ⟨its2, rv2, p2, _⟩ := Sk.seq I hqy
    have hh : X.A.in1.handled = none := I.ok.hd hc
    have l1 := rv.length
    have l2 := rv2.length
    exact wpAny_pyNext_zipD2_end D (Sk.draws hh k1 i1 a h1a its.toArray) (Sk.draws hh k2 i2 b h2b its2.toArray) hz hTI hTO ⟨h1, p⟩ ⟨h2, p2⟩ (by simp only [List.size_toArray]; omega) (by simp only [List.size_toArray]; omega) (by simp only [List.size_toArray]; omega)
      fun h' tk hk => ⟨rfl, I.turnedL (t' := tk) (ch := [z, TI, TO, i1, i2]) (fun c o hb q => hk c o (fun q' => hb (by simp [q'])) (fun q' => hb (by simp [q'])) (fun q' => hb (by simp [q'])) (fun q' => hb (by simp [q'])) q) hf⟩
  self := fun A i s Q E st h => wpAny_pyIter_zip st.1 h
section
variable {X : Cx}
def iZipK (K : PySem.W.Frag) (ta : TA) : TI := fun σ H R => ta σ H fun vs H1 => ∃ k1 k2 a b xs ys, vs = [.ref a, .ref b] ∧ Sk.at K H1 k1 a xs ∧ Sk.at K H1 k2 b ys ∧ R (ItZ K k1 k2 a b) H1
theorem pi_zipK {e e2 : Expr} {ta : TA} {p pos tpos : Pos} {elts : List Expr} {kk : Nat} (hg : Gl X "zip") (hm : X.mg "zip" = none) (ha : PA X [e, e2] ta)
    (hs : starEach [e, e2] X.env = (false, eval e X.env) :: starEach [e2] X.env) (hpl : (backTo pos (starEach [e2] X.env)).any (·.1) = false) :
    PI X (.Tuple elts kk tpos) (.Call (.Name "zip" p) [e, e2] [] pos) (iZipK X.K ta) := by
  refine ⟨fun pins s σ H R I h => ?_⟩
  refine Call_ (ld_blt I hg hm PyProof.Rows.boot_zip (PyProof.Rows.callWith_type1 (thn (ha.run pos pins s σ H _ I h) fun us s1 ⟨vs, H1, I1, r1, q1⟩ => ?_) hs hpl))
  obtain ⟨k1, k2, a, b, xs, ys, ex, hqx, hqy, q⟩ := q1
  subst ex
  cases r1 with
  | cons r rr =>
    cases rr with
    | cons r' rr =>
      cases rr
      cases r
      cases r'
      obtain ⟨its, rv, p1, _⟩ := Sk.seq I1 hqx
      obtain ⟨its2, rv2, p2, _⟩ := Sk.seq I1 hqy
      have la := Sk.isq_lt p1
      have lb := Sk.isq_lt p2
      refine zip_begins2 (k1.begins a its.toArray) (k2.begins b its2.toArray) p1 p2 fun h' hz hTI hTO h1 h2 hsz hk => wpAny_pyIter_zip hz ?_
      have I2 : Inv X pins σ H1 { s1 with heap := h' } := I1.kept (t' := s1.toks) hk
      refine ⟨s1.heap.objs.size + 4, [s1.heap.objs.size + 4, s1.heap.objs.size + 2, s1.heap.objs.size + 3, s1.heap.objs.size, s1.heap.objs.size + 1], _, _, H1, rfl, I2,
        turn_zipK k1 k2 (zip_sep2 (fp1 := [a]) (fp2 := [b]) (fun c hc => by rw [List.mem_singleton.mp hc]; exact la) (fun c hc => by rw [List.mem_singleton.mp hc]; exact lb)) (Nat.ne_of_lt la) (Nat.ne_of_lt (Nat.lt_succ_of_lt lb)),
        ⟨hz, hTI, ⟨_, _, hTO⟩, Sk.iter0 h1, Sk.iter0 h2⟩, fun c hcm => ?_, q⟩
      have e' : c = s1.heap.objs.size + 4 ∨ c = s1.heap.objs.size + 2 ∨ c = s1.heap.objs.size + 3 ∨ c = s1.heap.objs.size ∨ c = s1.heap.objs.size + 1 := by simpa using hcm
      have hle : s1.heap.objs.size ≤ c := by
        rcases e' with z | z | z | z | z
        · rw [z]; exact Nat.le_add_right _ _
        · rw [z]; exact Nat.le_add_right _ _
        · rw [z]; exact Nat.le_add_right _ _
        · rw [z]; exact Nat.le_refl _
        · rw [z]; exact Nat.le_add_right _ _
      exact I1.fpOk hle (I1.hok.fresh hle)
end
/-! ### either kind, walked -/
section
variable {X : Cx} {tg : Expr}
def ItS (K : PySem.W.Frag) (k : Sk) (a : Addr) : L2.It := match k with | .l => Itl K a | .t => Itt K a
def iSeqK (K : PySem.W.Frag) (tl : TE) : TI := fun σ H R => tl σ H fun x H1 => ∃ k a xs, x = .ref a ∧ Sk.at K H1 k a xs ∧ R (ItS K k a) H1
theorem pi_seqK {l : Expr} {tl : TE} (hl : PE X l tl) : PI X tg l (iSeqK X.K tl) := by
  refine ⟨fun pins s σ H R I h => ?_⟩
  refine thn (hl.run pins s σ H _ I h) fun v s1 ⟨x, H1, I1, r1, q1⟩ => ?_
  obtain ⟨k, a, xs, e, hq, q⟩ := q1
  subst e
  cases r1
  cases k with
  | l =>
    obtain ⟨its, rv, p, hz⟩ := I1.list (show SqL X.K H1 a xs from hq)
    refine wpAny_pyIter_list p.isList ?_
    refine ⟨s1.heap.objs.size, [s1.heap.objs.size], _, _, H1, rfl, I1.kept (t' := s1.toks) fun b o e => Heap.get?_push_of_some _ e, turn_list a _, ⟨_, Heap.get?_push_size _ rfl, rfl, rfl⟩, fun b hb => ?_, q⟩
    have e : b = s1.heap.objs.size := by simpa using hb
    subst e
    exact I1.fpOk (Nat.le_refl _) (I1.hok.fresh (Nat.le_refl _))
  | t =>
    obtain ⟨its, rv, p, hz⟩ := I1.tuple (show SqT X.K H1 a xs from hq)
    refine wpAny_pyIter_tuple (show s1.heap.IsTuple a its.toArray from p) ?_
    refine ⟨s1.heap.objs.size, [s1.heap.objs.size], _, _, H1, rfl, I1.kept (t' := s1.toks) fun b o e => Heap.get?_push_of_some _ e, turn_tuple a _, ⟨_, Heap.get?_push_size _ rfl, rfl, rfl⟩, fun b hb => ?_, q⟩
    have e : b = s1.heap.objs.size := by simpa using hb
    subst e
    exact I1.fpOk (Nat.le_refl _) (I1.hok.fresh (Nat.le_refl _))
end
end Cr
set_option Elab.async false
set_option linter.all false
set_option maxRecDepth 100000
set_option maxHeartbeats 4000000
namespace Cr
open PySem PySem.Spec PyProof.Rows L2
/-! ### what assignments keep -/
structure Ka (P : Addr → Prop) (e : Ev) (σ : L2.St) (H : Hp) (Z : Addr → Prop) (e' : Ev) (σ' : L2.St) (H' : Hp) (Z' : Addr → Prop) : Prop where
  keep : ∀ a o, H a = some o → ¬ MutAt e σ a → ¬ P a → H' a = some o ∧ (Z' a ↔ Z a) ∧ ¬ MutAt e' σ' a
  th : ∀ a, H a ≠ none → H' a ≠ none
def Pf (v : V) (r : Rv) : Addr → Prop := fun a => ∃ d, r = .fr d ∧ v = V.ref a
section
variable {K : PySem.W.Frag} {F : Fr} {P : Addr → Prop} {e e' e'' : Ev} {σ σ' σ'' : L2.St} {H H' H'' : Hp} {Z Z' Z'' : Addr → Prop} {v : V} {r : Rv}
theorem Ka.of (k : Kp e σ H Z e' H' Z') : Ka P e σ H Z e' σ H' Z' := ⟨fun a o h m _ => k.keep a o h m, k.th⟩
theorem Ka.kp (k : Ka (fun _ => False) e σ H Z e' σ H' Z') : Kp e σ H Z e' H' Z' := ⟨fun a o h m => k.keep a o h m (fun z => z), k.th⟩
theorem Ka.trans (h : Ka P e σ H Z e' σ' H' Z') (k : Ka P e' σ' H' Z' e'' σ'' H'' Z'') : Ka P e σ H Z e'' σ'' H'' Z'' := ⟨fun a o q m p => by
  obtain ⟨q1, z1, m1⟩ := h.keep a o q m p
  obtain ⟨q2, z2, m2⟩ := k.keep a o q1 m1 p
  exact ⟨q2, z2.trans z1, m2⟩, fun a q => k.th a (h.th a q)⟩
theorem Ka.le (R : Rel K F e σ H Z) (hp : ∀ a, P a → Z a) (h : Ka P e σ H Z e' σ' H' Z') : Le H Z H' Z' := ⟨fun a o q => by
  obtain ⟨z, q⟩ := hid_some.mp q
  obtain ⟨q1, z1, _⟩ := h.keep a o q (fun m => z (R.mutZ m)) (fun p => z (hp a p))
  exact hid_some.mpr ⟨fun w => z (z1.mp w), q1⟩, h.th⟩
theorem RvR.pf (q : RvR K F e σ H Z v r) : ∀ a, Pf v r a → Z a := fun a ⟨d, e1, e2⟩ => by
  subst e1 e2
  obtain ⟨a', e3, z, _⟩ := q
  cases e3
  exact z
end
/-! ### stores -/
section
variable {X : Cx} {K : PySem.W.Frag} {W : WX} {cv : Nat → Value}
theorem Rel.store {F : Fr} {i : Nat} {e e' : Ev} {σ : L2.St} {H : Hp} {Z : Addr → Prop} {v : V} {r : Rv} {u : Unit} (R : Rel K F e σ H Z) (q : RvR K F e σ H Z v r) (h : store i r.sl e = .ok u e') :
    Rel K F e' (σ.set i (some v)) H Z ∧ Ka (Pf v r) e σ H Z e' (σ.set i (some v)) H Z := by
  have he : e' = e.set i r.sl ∧ i < e.length := by
    unfold Cr.store at h
    cases w : e[i]? with
    | none => rw [w] at h; cases h
    | some s =>
      have hl := (List.getElem?_eq_some_iff.mp w).1
      rw [w] at h
      cases s with
      | un => cases h; exact ⟨rfl, hl⟩
      | val d => cases h; exact ⟨rfl, hl⟩
      | mu b d => cases b <;> cases h; exact ⟨rfl, hl⟩
      | frz d => cases h
  obtain ⟨he, hl⟩ := he
  subst he
  have hl' : i < σ.length := by rw [← R.len]; exact hl
  have so : ∀ j, j ≠ i → (σ.set i (some v))[j]? = σ[j]? := fun j hj => List.getElem?_set_ne (Ne.symm hj)
  have ss : (σ.set i (some v))[i]? = some (some v) := List.getElem?_set_self hl'
  -- a slot's own list in the new state
  have mm : ∀ {j : Nat} {b : Bool} {d : D} {a : Addr}, (e.set i r.sl)[j]? = some (Sl.mu b d) → (σ.set i (some v))[j]? = some (some (V.ref a)) → (j = i ∧ r = .fr d ∧ b = false ∧ v = V.ref a) ∨ (j ≠ i ∧ e[j]? = some (Sl.mu b d) ∧ σ[j]? = some (some (V.ref a))) := fun {j b d a} h1 h2 => by
    rcases getElem?_set' h1 with ⟨q1, q2⟩ | ⟨q1, q2⟩
    · subst q1
      rw [ss] at h2
      cases h2
      cases r with
      | fz d' => cases q2
      | fr d' => cases q2; exact .inl ⟨rfl, rfl, rfl, rfl⟩
    · rw [so j q1] at h2
      exact .inr ⟨q1, q2, h2⟩
  have nm : ∀ {a d}, r = .fr d → v = V.ref a → ¬ MutAt e σ a := fun {a d} e1 e2 => by
    subst e1 e2
    obtain ⟨a', e3, _, _, m, _⟩ := q
    cases e3
    exact m
  refine ⟨⟨by rw [List.length_set, List.length_set]; exact R.len, fun j s h => ?_, fun j k b d b' d' a h1 h2 h3 h4 => ?_, R.zs, R.kz, R.zn, R.fr, R.lz, R.th, R.z0⟩, ⟨fun a o h1 h2 h3 => ⟨h1, Iff.rfl, fun m => ?_⟩, fun _ h => h⟩⟩
  · rcases getElem?_set' h with ⟨q1, q2⟩ | ⟨q1, q2⟩
    · subst q1 q2
      rw [ss]
      cases r with
      | fz d => exact ⟨v, rfl, q⟩
      | fr d =>
        obtain ⟨a, e1, z, c, _, f⟩ := q
        subst e1
        exact ⟨a, rfl, z, c, (fun w => by cases w), fun _ => f⟩
    · rw [so j q1]
      exact R.sl j s q2
  · rcases mm h1 h3 with ⟨p1, p2, p3, p4⟩ | ⟨p1, p2, p3⟩
    · rcases mm h2 h4 with ⟨q1, _⟩ | ⟨q1, q2, q3⟩
      · exact p1.trans q1.symm
      · exact absurd ⟨k, b', d', q2, q3⟩ (nm p2 p4)
    · rcases mm h2 h4 with ⟨q1, q2, q3, q4⟩ | ⟨q1, q2, q3⟩
      · exact absurd ⟨j, b, d, p2, p3⟩ (nm q2 q4)
      · exact R.ds j k b d b' d' a p2 q2 p3 q3
  · obtain ⟨j, b, d, w1, w2⟩ := m
    rcases mm w1 w2 with ⟨p1, p2, p3, p4⟩ | ⟨p1, p2, p3⟩
    · exact h3 ⟨d, p2, p4⟩
    · exact h2 ⟨j, b, d, p2, p3⟩
/-! ### targets -/
structure Dif (S : List Nat) (σ σ' : L2.St) : Prop where
  at' : ∀ j : Nat, j ∉ S → σ'[j]? = σ[j]?
  len : σ'.length = σ.length
theorem Dif.refl {S : List Nat} {σ : L2.St} : Dif S σ σ := ⟨fun _ _ => rfl, rfl⟩
theorem Dif.trans {S : List Nat} {σ σ' σ'' : L2.St} (h : Dif S σ σ') (k : Dif S σ' σ'') : Dif S σ σ'' := ⟨fun j hj => (k.at' j hj).trans (h.at' j hj), k.len.trans h.len⟩
def PstA (K : PySem.W.Frag) (W : WX) (cv : Nat → Value) (F : Fr) (S : List Nat) (P : Addr → Prop) (σ : L2.St) (e : Ev) (H : Hp) (Z : Addr → Prop) (m : Rs Unit) (Q : L2.St → Hp → Prop) : Prop :=
  match m with
  | .ok _ e' => ∀ σ' H' Z', Rel K F e' σ' H' Z' → Ka P e σ H Z e' σ' H' Z' → Dif S σ σ' → Q σ' H'
  | .ex x e' => ∀ σ' H' Z', Rel K F e' σ' H' Z' → Le H Z H' Z' → W (cv x) none σ' H'
  | .er => False
def tA (K : PySem.W.Frag) (W : WX) (cv : Nat → Value) (S : List Nat) (f : Rv → Ev → Rs Unit) : TG :=
  fun v σ H Q => ∃ F e Z r, Rel K F e σ H Z ∧ RvR K F e σ H Z v r ∧ PstA K W cv F S (Pf v r) σ e H Z (f r e) Q
/-- values for several targets -/
inductive RvAll (K : PySem.W.Frag) (F : Fr) (e : Ev) (σ : L2.St) (H : Hp) (Z : Addr → Prop) : List V → List Rv → Prop
  | nil : RvAll K F e σ H Z [] []
  | cons {v : V} {vs : List V} {r : Rv} {rs : List Rv} : RvR K F e σ H Z v r → (∀ (a : Addr), Pf v r a → ∀ (i : Nat) (w : V) (s : Rv), vs[i]? = some w → rs[i]? = some s → ¬ Pf w s a) → RvAll K F e σ H Z vs rs → RvAll K F e σ H Z (v :: vs) (r :: rs)
def PfA (vs : List V) (rs : List Rv) : Addr → Prop := fun a => ∃ (i : Nat) (v : V) (r : Rv), vs[i]? = some v ∧ rs[i]? = some r ∧ Pf v r a
def tAs (K : PySem.W.Frag) (W : WX) (cv : Nat → Value) (S : List Nat) (f : List Rv → Ev → Rs Unit) : TGs :=
  fun vs σ H Q => ∃ F e Z rs, Rel K F e σ H Z ∧ RvAll K F e σ H Z vs rs ∧ PstA K W cv F S (PfA vs rs) σ e H Z (f rs e) Q
theorem RvAll.pf {F : Fr} {e : Ev} {σ : L2.St} {H : Hp} {Z : Addr → Prop} : ∀ {vs : List V} {rs : List Rv}, RvAll K F e σ H Z vs rs → ∀ a, PfA vs rs a → Z a
  | _, _, .nil, a, ⟨i, v, r, h, _⟩ => by simp at h
  | _, _, .cons q _ t, a, ⟨0, v, r, h1, h2, h3⟩ => by
    simp at h1 h2
    subst h1 h2
    exact q.pf a h3
  | _, _, .cons q _ t, a, ⟨i + 1, v, r, h1, h2, h3⟩ => t.pf a ⟨i, v, r, by simpa using h1, by simpa using h2, h3⟩
theorem RvR.keepA {F : Fr} {P : Addr → Prop} {e e' : Ev} {σ σ' : L2.St} {H H' : Hp} {Z Z' : Addr → Prop} {v : V} {r : Rv} (R : Rel K F e σ H Z) (hp : ∀ a, P a → Z a) (k : Ka P e σ H Z e' σ' H' Z') (q : RvR K F e σ H Z v r) (hn : ∀ a, Pf v r a → ¬ P a) : RvR K F e' σ' H' Z' v r := by
  have l := k.le R hp
  cases r with
  | fz d => exact Dv.le l q
  | fr d =>
    obtain ⟨a, rfl, z, c, m, f⟩ := q
    obtain ⟨o, ho⟩ := c.some
    obtain ⟨q1, z1, m1⟩ := k.keep a o ho m (hn a ⟨d, rfl, rfl⟩)
    exact ⟨a, rfl, z1.mpr z, c.le l.sub (q1.trans ho.symm), m1, f⟩
theorem RvAll.keepA {F : Fr} {P : Addr → Prop} {e e' : Ev} {σ σ' : L2.St} {H H' : Hp} {Z Z' : Addr → Prop} (R : Rel K F e σ H Z) (hp : ∀ a, P a → Z a) (k : Ka P e σ H Z e' σ' H' Z') : ∀ {vs : List V} {rs : List Rv}, RvAll K F e σ H Z vs rs → (∀ a, PfA vs rs a → ¬ P a) → RvAll K F e' σ' H' Z' vs rs
  | _, _, .nil, _ => .nil
  | _, _, .cons q n t, hn => .cons (q.keepA R hp k fun a p => hn a ⟨0, _, _, by simp, by simp, p⟩) n (RvAll.keepA R hp k t fun a ⟨i, v, r, h1, h2, h3⟩ => hn a ⟨i + 1, v, r, by simpa using h1, by simpa using h2, h3⟩)
theorem pg_nameD {i : Nat} {S : List Nat} {x : Expr} (h : PG X x (gName i)) (hS : i ∈ S) : PG X x (tA K W cv S fun r e => store i r.sl e) := ⟨fun pins s σ H v u Q I r ⟨F, e, Z, rv, R, q, p⟩ => by
  refine h.run pins s σ H v u Q I r ?_
  show Q (σ.set i (some v)) H
  replace p : PstA K W cv F S (Pf v rv) σ e H Z (store i rv.sl e) Q := p
  cases g : store i rv.sl e with
  | er => rw [g] at p; exact p.elim
  | ex x e' => unfold store at g; split at g <;> cases g
  | ok w e' =>
    rw [g] at p
    obtain ⟨R', k⟩ := R.store q g
    exact p _ _ Z R' k ⟨fun j hj => List.getElem?_set_ne fun (e1 : i = j) => hj (e1 ▸ hS), List.length_set⟩⟩
theorem pgs_nilD {S : List Nat} : PGs X [] (tAs K W cv S fun rs e => match rs with | [] => .ok () e | _ => .er) := ⟨fun pins s σ H vs us Q I r ⟨F, e, Z, rs, R, q, p⟩ => by
  refine pgs_nil.run pins s σ H vs us Q I r ?_
  cases q with
  | nil => exact ⟨rfl, p _ _ Z R (Ka.of Kp.refl) .refl⟩
  | cons _ _ _ => exact p.elim⟩
theorem pgs_consD {S : List Nat} {t : Expr} {ts : List Expr} {f : Rv → Ev → Rs Unit} {g : List Rv → Ev → Rs Unit} (h1 : PG X t (tA K W cv S f)) (h2 : PGs X ts (tAs K W cv S g))
    (hs : (assignEach (t :: ts) X.env).map (·.2) = assign t X.env :: (assignEach ts X.env).map (·.2)) : PGs X (t :: ts) (tAs K W cv S fun rs e => match rs with | r :: rs => (f r e).bind fun _ e => g rs e | _ => .er) := ⟨fun pins s σ H vs us Q I ru ⟨F, e, Z, rs, R, q, p⟩ => by
  refine (pgs_cons h1 h2 hs).run pins s σ H vs us Q I ru ?_
  cases q with
  | nil => exact p.elim
  | @cons v vs r rs q1 q2 q3 =>
    replace p : PstA K W cv F S (PfA (v :: vs) (r :: rs)) σ e H Z ((f r e).bind fun _ e => g rs e) Q := p
    have hz : ∀ a, PfA (v :: vs) (r :: rs) a → Z a := (RvAll.cons q1 q2 q3).pf
    have p0 : ∀ a, Pf v r a → PfA (v :: vs) (r :: rs) a := fun a w => ⟨0, v, r, by simp, by simp, w⟩
    have p1 : ∀ a, PfA vs rs a → PfA (v :: vs) (r :: rs) a := fun a ⟨i, w, s, w1, w2, w3⟩ => ⟨i + 1, w, s, by simpa using w1, by simpa using w2, w3⟩
    refine ⟨v, vs, rfl, F, e, Z, r, R, q1, ?_⟩
    cases w : f r e with
    | er => rw [w] at p; exact p.elim
    | ex x e' => rw [w] at p; exact p
    | ok u e1 =>
      rw [w] at p
      intro σ1 H1 Z1 R1 k1 s1
      have dis : ∀ a, PfA vs rs a → ¬ Pf v r a := fun a ⟨i, w, s, w1, w2, w3⟩ w4 => q2 a w4 i w s w1 w2 w3
      refine ⟨F, e1, Z1, rs, R1, q3.keepA R q1.pf k1 dis, ?_⟩
      have k1' : Ka (PfA (v :: vs) (r :: rs)) e σ H Z e1 σ1 H1 Z1 := ⟨fun a o c1 c2 c3 => k1.keep a o c1 c2 fun z => c3 (p0 a z), k1.th⟩
      have p' : PstA K W cv F S (PfA (v :: vs) (r :: rs)) σ e H Z (g rs e1) Q := p
      cases w2 : g rs e1 with
      | er => rw [w2] at p'; exact p'.elim
      | ex x e' =>
        rw [w2] at p'
        exact fun σ' H' Z' R' l => p' σ' H' Z' R' ((k1.le R q1.pf).trans l)
      | ok u2 e2 =>
        rw [w2] at p'
        intro σ2 H2 Z2 R2 k2 s2
        refine p' σ2 H2 Z2 R2 (k1'.trans ⟨fun a o c1 c2 c3 => k2.keep a o c1 c2 fun z => c3 (p1 a z), k2.th⟩) (s1.trans s2)⟩
theorem rvAll_fz {F : Fr} {e : Ev} {σ : L2.St} {H : Hp} {Z : Addr → Prop} : ∀ {vs : List V} {ds : List D}, DvAll K (hid Z H) vs ds → RvAll K F e σ H Z vs (ds.map .fz)
  | _, _, .nil => .nil
  | _, _, .cons q t => .cons q (fun a ⟨d, e1, _⟩ => by cases e1) (rvAll_fz t)
/-- a tuple's or a list's parts -/
theorem pg_seqD {es : List Expr} {k : Nat} {pos : Pos} {t : TGs} {n : Nat} (hc : X.calm = true) (h : PGs X es t) (hn : (assignEach es X.env).length = n) (hst : (assignEach es X.env).findIdx? (·.1) = none) :
    PG X (.Tuple es k pos) fun v σ H Q => gTup X.K n t v σ H Q ∨ gUnl X.K n t v σ H Q :=
  ⟨fun pins s σ H v u Q I ru w => w.elim (fun w => (pg_tup hc h hn hst).run pins s σ H v u Q I ru w) (fun w => (pg_unl hc h hn hst).run pins s σ H v u Q I ru w)⟩
theorem pg_tupD {S : List Nat} {es : List Expr} {k : Nat} {pos : Pos} {n : Nat} {g : List Rv → Ev → Rs Unit} (hc : X.calm = true) (h : PGs X es (tAs X.K W cv S g)) (hn : (assignEach es X.env).length = n) (hst : (assignEach es X.env).findIdx? (·.1) = none) :
    PG X (.Tuple es k pos) (tA X.K W cv S fun r e => match r.d with
    | .tuple ds => if ds.length = n then g (ds.map .fz) e else .er
    | .list ds => if ds.length = n then g (ds.map .fz) e else .er
    | _ => .er) := ⟨fun pins s σ H v u Q I ru ⟨F, e, Z, r, R, q, p⟩ => by
  refine (pg_seqD hc h hn hst).run pins s σ H v u Q I ru ?_
  -- the parts are stored
  have go : ∀ (a : Addr) (xs : List V) (ds : List D), DvAll X.K (hid Z H) xs ds → ds.length = n → PstA X.K W cv F S (Pf v r) σ e H Z (g (ds.map .fz) e) Q → tAs X.K W cv S g xs σ H Q := by
    intro a xs ds s2 hl p
    refine ⟨F, e, Z, ds.map .fz, R, rvAll_fz s2, ?_⟩
    have np : ∀ a', ¬ PfA xs (ds.map Rv.fz) a' := fun a' ⟨i, w, s, w1, w2, d', e1, _⟩ => by
      subst e1
      rw [List.getElem?_map] at w2
      cases h : ds[i]? with
      | none => rw [h] at w2; cases w2
      | some x => rw [h] at w2; cases w2
    cases w : g (ds.map .fz) e with
    | er => rw [w] at p; exact p.elim
    | ex x e' => rw [w] at p; exact p
    | ok u e1 =>
      rw [w] at p
      exact fun σ' H' Z' R' k' s' => p σ' H' Z' R' ⟨fun a o c1 c2 _ => k'.keep a o c1 c2 (np a), k'.th⟩ s'
  cases r with
  | fr d =>
    obtain ⟨a, e1, z, c, _⟩ := q
    cases d with
    | list ds =>
      replace p : PstA X.K W cv F S (Pf v (.fr (.list ds))) σ e H Z (if ds.length = n then g (ds.map .fz) e else .er) Q := p
      split at p
      · rename_i hl
        obtain ⟨xs, c1, c2⟩ := c
        exact .inr ⟨a, xs, e1, SqL.of c1, c2.length.trans hl, go a xs ds c2 hl p⟩
      · exact p.elim
    | _ => exact c.elim
  | fz d =>
    cases d with
    | tuple ds =>
      replace p : PstA X.K W cv F S (Pf v (.fz (.tuple ds))) σ e H Z (if ds.length = n then g (ds.map .fz) e else .er) Q := p
      split at p
      · rename_i hl
        have q' : Dv X.K (hid Z H) v (.tuple ds) := q
        cases q' with
        | @tup a xs _ s1 s2 =>
          exact .inl ⟨a, xs, rfl, hid_sub.sqT s1, s2.length.trans hl, go a xs ds s2 hl p⟩
      · exact p.elim
    | list ds =>
      replace p : PstA X.K W cv F S (Pf v (.fz (.list ds))) σ e H Z (if ds.length = n then g (ds.map .fz) e else .er) Q := p
      split at p
      · rename_i hl
        have q' : Dv X.K (hid Z H) v (.list ds) := q
        cases q' with
        | @lst a xs _ s1 s2 =>
          exact .inr ⟨a, xs, rfl, .inl (hid_sub.rd s1), s2.length.trans hl, go a xs ds s2 hl p⟩
      · exact p.elim
    | _ => exact p.elim⟩
/-- a fresh value is held by others from now on -/
theorem RvR.freezeA {F : Fr} {e : Ev} {σ : L2.St} {H : Hp} {Z : Addr → Prop} {v : V} {r : Rv} (R : Rel K F e σ H Z) (q : RvR K F e σ H Z v r) : ∃ Z', Rel K F e σ H Z' ∧ Ka (Pf v r) e σ H Z e σ H Z' ∧ Dv K (hid Z' H) v r.d := by
  cases r with
  | fz d => exact ⟨Z, R, Ka.of Kp.refl, q⟩
  | fr d =>
    obtain ⟨a, rfl, z, c, m, f⟩ := q
    obtain ⟨R2, dv, zz⟩ := R.freeze z c m (.inl f)
    exact ⟨_, R2, ⟨fun b o w mb pb => ⟨w, zz b fun e1 => pb ⟨d, rfl, e1 ▸ rfl⟩, mb⟩, fun _ w => w⟩, dv⟩
theorem pg_subD {S : List Nat} {o i : Expr} {j : Nat} {pos : Pos} {f : Ev → Rs Op} (ho : PE X o (tVar j)) (hi : PE X i (tO K W cv f))
    (ha : ∀ v, assign (.Subscript o i pos) X.env v = (do
      let ov ← holding [v] (eval o X.env)
      let iv ← holding [v, ov] (eval i X.env)
      standAt pos
      holding [v, ov, iv] (setItem ov iv v)
      release [v, ov, iv] [])) : PG X (.Subscript o i pos) (tA K W cv S (subE j f)) := ⟨fun pins s σ H v u Q I ru ⟨F, e, Z, r, R, q, p⟩ => by
  refine (pg_sub ho hi set_list ha).run pins s σ H v u Q I ru ?_
  obtain ⟨Z1, R1, k1, dv⟩ := q.freezeA R
  unfold subE at p
  split at p
  · rename_i b ds hm
    obtain ⟨a, xs, ea, za, ha, _⟩ := mu_there R1 hm
    have l1 := k1.le R q.pf
    refine ⟨_, ea, F, e, Z1, R1, ?_⟩
    cases w : f e with
    | er => rw [w] at p; exact p.elim
    | ex x e1 =>
      rw [w] at p
      exact fun H' Z' R' l => p σ H' Z' R' (l1.trans l)
    | ok x e1 =>
      rw [w] at p
      intro iv H2 Z2 R2 k2 qi
      replace p : PstA K W cv F S (Pf v r) σ e H Z (match x.get e1 with | some k => setAt j (fun d => putD d k r.d) e1 | none => .er) Q := p
      have k12 : Ka (Pf v r) e σ H Z e1 σ H2 Z2 := k1.trans (Ka.of k2)
      cases g : x.get e1 with
      | none => rw [g] at p; exact p.elim
      | some kd =>
        simp only [g] at p
        unfold setAt at p
        cases g2 : e1[j]? with
        | none => rw [g2] at p; exact p.elim
        | some s2 =>
          rw [g2] at p
          cases s2 with
          | mu b2 d2 =>
            obtain ⟨a2, ea2, z2, c2, _⟩ := R2.sl j _ g2
            rw [ea] at ea2
            cases ea2
            cases d2 with
            | list ds2 =>
              obtain ⟨xs2, h2, r2⟩ := c2
              cases kd with
              | int n =>
                have ck := (qi.get R2 g).full
                cases ck
                cases g3 : L2.ixN ds2.length n with
                | none =>
                  have : putD (PyData.list ds2) (.int n) r.d = none := by show (L2.ixN ds2.length n).map _ = none; rw [g3]; rfl
                  simp only [this] at p
                  exact p.elim
                | some m =>
                  have : putD (PyData.list ds2) (.int n) r.d = some (PyData.list (ds2.set m r.d)) := by show (L2.ixN ds2.length n).map _ = _; rw [g3]; rfl
                  simp only [this] at p
                  refine ⟨a, xs2, n, m, rfl, rfl, h2, by rw [r2.length]; exact g3, ?_⟩
                  have dv2 : Dv K (hid Z2 H2) v r.d := Dv.le (k2.le R1) dv
                  obtain ⟨R3, k3⟩ := R2.put (u := .lst (xs2.set m v)) (d' := .list (ds2.set m r.d)) g2 ea ⟨_, upd_same, r2.set m dv2⟩
                  exact p σ _ Z2 R3 (k12.trans (Ka.of k3)) .refl
              | _ => exact p.elim
            | _ => exact c2.elim
          | _ => exact p.elim
  · exact p.elim⟩
end
end Cr
set_option Elab.async false
set_option linter.all false
set_option maxRecDepth 100000
set_option maxHeartbeats 4000000
namespace Cr
open PySem PySem.Spec PyProof.Rows L2
/-! ### walks -/
structure Wlk (K : PySem.W.Frag) (H0 : Hp) (Z0 : Addr → Prop) (J : L2.It) (items : List D) : Prop where
  go : ∀ i H Z, Le H0 Z0 H Z → i < items.length → J.go i H
  yld : ∀ i H Z x H' d, Le H0 Z0 H Z → items[i]? = some d → J.yld i H x H' → NewR K Z H x H' (.fz d)
  stop : ∀ H Z, Le H0 Z0 H Z → J.stop items.length H
abbrev rW (K : PySem.W.Frag) : RelT (List D) L2.It := fun _ _ _ items J _ H Z => Wlk K H Z J items
abbrev tI (K : PySem.W.Frag) (W : WX) (cv : Nat → Value) (f : Ev → Rs (List D)) : TI := tR K W cv (rW K) f
section
variable {X : Cx} {K : PySem.W.Frag} {W : WX} {cv : Nat → Value} {H H' : Hp} {Z Z' : Addr → Prop}
theorem dv_seq {v : V} {d : D} {ds : List D} (q : Dv K H v d) (h : seqD d = some ds) : ∃ (k : Sk) (a : Addr) (xs : List V), v = .ref a ∧ k.at K H a xs ∧ DvAll K H xs ds := by
  cases q with
  | lst s r => cases h; exact ⟨.l, _, _, rfl, .inl s, r⟩
  | tup s r => cases h; exact ⟨.t, _, _, rfl, s, r⟩
  | _ => cases h
theorem at_le {k : Sk} {a : Addr} {xs : List V} (l : Le H Z H' Z') (h : k.at K (hid Z H) a xs) : k.at K H' a xs := Sk.at_mono (l.sub.trans hid_sub) h
theorem wlk_seq {k : Sk} {a : Addr} {xs : List V} {ds : List D} (h : k.at K (hid Z H) a xs) (r : DvAll K (hid Z H) xs ds) : Wlk K H Z (ItS K k a) ds := by
  refine ⟨fun i H' Z' l hi => ?_, fun i H' Z' x H2 d l hd hy => ?_, fun H' Z' l => ?_⟩
  · have hx : i < xs.length := by rw [r.length]; exact hi
    have q := at_le l h
    cases k with
    | l => exact ⟨xs, xs[i], q, List.getElem?_eq_getElem hx⟩
    | t => exact ⟨xs, xs[i], q, List.getElem?_eq_getElem hx⟩
  · obtain ⟨w, hw, dw⟩ := r.at hd
    have q := at_le l h
    have fin : H2 = H' → xs[i]? = some x → NewR K Z' H' x H2 (.fz d) := fun e1 e2 => by
      subst e1
      rw [hw] at e2
      cases e2
      exact .old (Dv.le l dw)
    cases k with
    | l => exact fin hy.1 (hy.2 xs q)
    | t => exact fin hy.1 (hy.2 xs q)
  · have q := at_le l h
    cases k with
    | l => exact ⟨xs, q, by rw [r.length]; exact Nat.le_refl _⟩
    | t => exact ⟨xs, q, by rw [r.length]; exact Nat.le_refl _⟩
theorem wlk_range {lo : Int} {hi : Int} : Wlk K H Z (Itr lo (hi - lo).toNat) (rangeD lo hi) := by
  have hl : (rangeD lo hi).length = (hi - lo).toNat := by simp [rangeD]
  refine ⟨fun i H' Z' l h => ?_, fun i H' Z' x H2 d l hd hy => ?_, fun H' Z' l => ?_⟩
  · show i < (hi - lo).toNat
    omega
  · obtain ⟨e1, e2⟩ := hy
    subst e1 e2
    have hi' : i < (rangeD lo hi).length := (List.getElem?_eq_some_iff.mp hd).1
    have : (rangeD lo hi)[i]? = some (.int (lo + (i : Int))) := by
      unfold rangeD
      rw [List.getElem?_map, List.getElem?_range (by omega)]
      rfl
    rw [this] at hd
    cases hd
    exact .old (.int _)
  · show (hi - lo).toNat ≤ _
    omega
theorem getElem?_enumD {ds : List D} {i : Nat} {d : D} (h : (enumD ds)[i]? = some d) : ∃ x, ds[i]? = some x ∧ d = .tuple [.int (i : Int), x] := by
  unfold enumD at h
  rw [List.getElem?_map, List.getElem?_zipIdx] at h
  cases w : ds[i]? with
  | none => rw [w] at h; cases h
  | some x =>
    rw [w] at h
    cases h
    exact ⟨x, rfl, by simp⟩
theorem enumD_length {ds : List D} : (enumD ds).length = ds.length := by simp [enumD]
theorem wlk_enum {k : Sk} {a : Addr} {xs : List V} {ds : List D} (h : k.at K (hid Z H) a xs) (r : DvAll K (hid Z H) xs ds) : Wlk K H Z (ItE K k a) (enumD ds) := by
  refine ⟨fun i H' Z' l hi => ?_, fun i H' Z' x H2 d l hd hy => ?_, fun H' Z' l => ?_⟩
  · have hx : i < xs.length := by rw [r.length]; rw [enumD_length] at hi; exact hi
    exact ⟨xs, xs[i], at_le l h, List.getElem?_eq_getElem hx⟩
  · obtain ⟨x0, h0, e0⟩ := getElem?_enumD hd
    subst e0
    obtain ⟨w, hw, dw⟩ := r.at h0
    obtain ⟨T, y, rfl, hT, rfl, q⟩ := hy
    have e2 := q xs (at_le l h)
    rw [hw] at e2
    cases e2
    exact .tup hT (.cons (.int _) (.cons (Dv.le l dw) .nil))
  · exact ⟨xs, at_le l h, by rw [enumD_length]; exact r.length⟩
theorem getElem?_zipD {ds es : List D} {i : Nat} {d : D} (h : (zipD ds es)[i]? = some d) : ∃ x y, ds[i]? = some x ∧ es[i]? = some y ∧ d = .tuple [x, y] := by
  unfold zipD at h
  rw [List.getElem?_map] at h
  cases w : (ds.zip es)[i]? with
  | none => rw [w] at h; cases h
  | some p =>
    rw [w] at h
    cases h
    obtain ⟨h1, h2⟩ := List.getElem?_zip_eq_some.mp w
    exact ⟨p.1, p.2, h1, h2, rfl⟩
theorem wlk_zip {k1 k2 : Sk} {a b : Addr} {xs ys : List V} {ds es : List D} (h1 : k1.at K (hid Z H) a xs) (r1 : DvAll K (hid Z H) xs ds) (h2 : k2.at K (hid Z H) b ys) (r2 : DvAll K (hid Z H) ys es) : Wlk K H Z (ItZ K k1 k2 a b) (zipD ds es) := by
  have l1 := r1.length
  have l2 := r2.length
  have hl : (zipD ds es).length = min ds.length es.length := by simp [zipD]
  refine ⟨fun i H' Z' l hi => ?_, fun i H' Z' x H2 d l hd hy => ?_, fun H' Z' l => ?_⟩
  · have hx : i < xs.length := by omega
    have hy : i < ys.length := by omega
    exact ⟨xs, ys, xs[i], ys[i], at_le l h1, at_le l h2, List.getElem?_eq_getElem hx, List.getElem?_eq_getElem hy⟩
  · obtain ⟨x0, y0, g1, g2, e0⟩ := getElem?_zipD hd
    subst e0
    obtain ⟨w1, hw1, dw1⟩ := r1.at g1
    obtain ⟨w2, hw2, dw2⟩ := r2.at g2
    obtain ⟨T, u, v, rfl, hT, rfl, q1, q2⟩ := hy
    have e1 := q1 xs (at_le l h1)
    have e2 := q2 ys (at_le l h2)
    rw [hw1] at e1
    rw [hw2] at e2
    cases e1
    cases e2
    exact .tup hT (.cons (Dv.le l dw1) (.cons (Dv.le l dw2) .nil))
  · exact ⟨xs, ys, at_le l h1, at_le l h2, by omega, by omega, by omega⟩
/-! ### what is walked -/
variable {tg : Expr}
theorem _root_.L2.PI.imp {e : Expr} {t t' : TI} (h : PI X tg e t) (i : ∀ σ H R, t' σ H R → t σ H R) : PI X tg e t' := ⟨fun pins s σ H R I w => h.run pins s σ H R I (i σ H R w)⟩
theorem pi_overD {x : Expr} {f : Ev → Rs Rv} (h : PE X x (tE X.K W cv f)) : PI X tg x (tI X.K W cv fun e => (f e).bind fun r e => match itD r.d with | some l => .ok l e | none => .er) := (pi_seqK (pe_D h)).imp fun σ H Q ⟨F, e, Z, R, p⟩ => by
  refine ⟨F, e, Z, R, ?_⟩
  have e1 : ((f e).bind fun r e => match itD r.d with | some l => Rs.ok l e | none => .er) = ((f e).bind fun r e => Rs.ok r.d e).bind fun d e => match itD d with | some l => Rs.ok l e | none => .er := by
    rw [bindR]
    rfl
  replace p : Pst X.K W cv (rW X.K) F σ e H Z (((f e).bind fun r e => Rs.ok r.d e).bind fun d e => match itD d with | some l => Rs.ok l e | none => .er) Q := e1 ▸ p
  refine (p.bind (R1 := rD X.K) (fun _ _ _ _ _ _ _ _ _ _ _ _ q => q) R).mono fun x H1 ⟨d, e1, Z1, R1, k1, q1, p1⟩ => ?_
  cases g : itD d with
  | none => simp only [g] at p1; exact p1.elim
  | some l =>
    simp only [g] at p1
    obtain ⟨k, a, xs, rfl, h1, h2⟩ := dv_seq q1 g
    exact ⟨k, a, xs, rfl, Sk.at_mono hid_sub h1, p1 _ H1 Z1 R1 .refl (wlk_seq h1 h2)⟩
theorem pi_enumD {x : Expr} {f : Ev → Rs Rv} {p pos tpos : Pos} {elts : List Expr} {kk : Nat} (hg : Gl X "enumerate") (hm : X.mg "enumerate" = none) (hpl : isPl x = true) (h : PE X x (tE X.K W cv f)) :
    PI X (.Tuple elts kk tpos) (.Call (.Name "enumerate" p) [x] [] pos) (tI X.K W cv fun e => (f e).bind fun r e => match itD r.d with | some l => .ok (enumD l) e | none => .er) := (pi_enumK hg hm (pa_D1 hpl h pa_D0) (star1 hpl _ _)).imp fun σ H Q ⟨F, e, Z, R, p⟩ => by
  refine ⟨F, e, Z, R, ?_⟩
  have e1 : ((f e).bind fun r e => match itD r.d with | some l => Rs.ok (enumD l) e | none => .er) = ((f e).bind fun r e => Rs.ok [r.d] e).bind fun ds e => match ds with | [d] => (match itD d with | some l => Rs.ok (enumD l) e | none => .er) | _ => .er := by
    rw [bindR]
    rfl
  replace p : Pst X.K W cv (rW X.K) F σ e H Z (((f e).bind fun r e => Rs.ok [r.d] e).bind fun ds e => match ds with | [d] => (match itD d with | some l => Rs.ok (enumD l) e | none => .er) | _ => .er) Q := e1 ▸ p
  refine (p.bind (R1 := rDs X.K) (fun _ _ _ _ _ _ _ _ _ _ _ _ q => q) R).mono fun xs H1 ⟨ds, e1, Z1, R1, k1, q1, p1⟩ => ?_
  cases q1 with
  | nil => exact p1.elim
  | cons q1 qr =>
    cases qr with
    | cons _ _ => exact p1.elim
    | nil =>
      rename_i v d _
      cases g : itD d with
      | none => simp only [g] at p1; exact p1.elim
      | some l =>
        simp only [g] at p1
        obtain ⟨k, a, xs, rfl, h1, h2⟩ := dv_seq q1 g
        exact ⟨k, a, xs, rfl, Sk.at_mono hid_sub h1, p1 _ H1 Z1 R1 .refl (wlk_enum h1 h2)⟩
theorem pi_zipD {x y : Expr} {f g : Ev → Rs Rv} {p pos tpos : Pos} {elts : List Expr} {kk : Nat} (hg : Gl X "zip") (hm : X.mg "zip" = none) (hpl : isPl x = true) (hpl2 : isPl y = true) (h : PE X x (tE X.K W cv f)) (h2 : PE X y (tE X.K W cv g)) :
    PI X (.Tuple elts kk tpos) (.Call (.Name "zip" p) [x, y] [] pos) (tI X.K W cv fun e => (f e).bind fun r e => (g e).bind fun s e => match itD r.d, itD s.d with | some l, some m => .ok (zipD l m) e | _, _ => .er) :=
  (pi_zipK hg hm (pa_D1 hpl h (pa_D1 hpl2 h2 pa_D0)) (star1 hpl _ _) (backTo_any _ _ (starAll _ _ (by simp [hpl2])))).imp fun σ H Q ⟨F, e, Z, R, p⟩ => by
  refine ⟨F, e, Z, R, ?_⟩
  have e1 : ((f e).bind fun r e => (g e).bind fun s e => match itD r.d, itD s.d with | some l, some m => Rs.ok (zipD l m) e | _, _ => .er) =
      ((f e).bind fun r e => ((g e).bind fun s e => Rs.ok [s.d] e).bind fun ds e => Rs.ok (r.d :: ds) e).bind fun ds e => match ds with | [d1, d2] => (match itD d1, itD d2 with | some l, some m => Rs.ok (zipD l m) e | _, _ => .er) | _ => .er := by
    rw [bindR]
    congr 1
    funext r e
    rw [bindR, bindR]
    rfl
  replace p : Pst X.K W cv (rW X.K) F σ e H Z (((f e).bind fun r e => ((g e).bind fun s e => Rs.ok [s.d] e).bind fun ds e => Rs.ok (r.d :: ds) e).bind fun ds e => match ds with | [d1, d2] => (match itD d1, itD d2 with | some l, some m => Rs.ok (zipD l m) e | _, _ => .er) | _ => .er) Q := e1 ▸ p
  refine (p.bind (R1 := rDs X.K) (fun _ _ _ _ _ _ _ _ _ _ _ _ q => q) R).mono fun xs H1 ⟨ds, e1, Z1, R1, k1, q1, p1⟩ => ?_
  cases q1 with
  | nil => exact p1.elim
  | cons q1 qr =>
    cases qr with
    | nil => exact p1.elim
    | cons q2 qr =>
      cases qr with
      | cons _ _ => exact p1.elim
      | nil =>
        rename_i v d v2 d2 _
        cases g1 : itD d with
        | none => simp only [g1] at p1; exact p1.elim
        | some l =>
          cases g2 : itD d2 with
          | none => simp only [g1, g2] at p1; exact p1.elim
          | some l2 =>
            simp only [g1, g2] at p1
            obtain ⟨k, a, xs, rfl, h1, h2⟩ := dv_seq q1 g1
            obtain ⟨k', a', xs', rfl, h1', h2'⟩ := dv_seq q2 g2
            exact ⟨k, k', a, a', xs, xs', rfl, Sk.at_mono hid_sub h1, Sk.at_mono hid_sub h1', p1 _ H1 Z1 R1 .refl (wlk_zip h1 h2 h1' h2')⟩
theorem pi_rng1D {x : Expr} {f : Ev → Rs Op} {p pos : Pos} (hg : Gl X "range") (hm : X.mg "range" = none) (hpl : isPl x = true) (h : PE X x (tO X.K W cv f)) :
    PI X tg (.Call (.Name "range" p) [x] [] pos) (tI X.K W cv fun e => (f e).bind fun x e => oneI x e fun d => match d with | .int b => if ok63 b = true then some (rangeD 0 b) else none | _ => none) := (pi_range1 hg hm (pa_cons h pa_nil (star1 hpl _ _)) (star1 hpl _ _)).imp fun σ H Q ⟨F, e, Z, R, p⟩ => by
  refine ⟨F, e, Z, R, (Pst.bind (R1 := rO X.K) (R2 := rW X.K) (fun _ _ _ _ _ _ _ _ _ _ _ _ q => q) R p).mono fun v H1 ⟨o, e1, Z1, R1, k1, q1, p1⟩ => ?_⟩
  show ∃ j : Int, [v] = [V.int j] ∧ _
  unfold oneI at p1
  cases g : o.get e1 with
  | none => rw [g] at p1; exact p1.elim
  | some d =>
    rw [g] at p1
    cases d with
    | int b =>
      have c := (q1.get R1 g).full
      cases c
      by_cases hb : ok63 b = true
      · simp only [hb, if_true] at p1
        have hb' : -(2 ^ 62) ≤ b ∧ b < 2 ^ 62 := of_decide_eq_true hb
        have q := p1 _ H1 Z1 R1 .refl (wlk_range (lo := 0) (hi := b))
        rw [Int.sub_zero] at q
        exact ⟨b, rfl, hb'.1, hb'.2, q⟩
      · simp only [hb] at p1
        exact p1.elim
    | _ => exact p1.elim
theorem pi_rng2D {x y : Expr} {f g : Ev → Rs Op} {p pos : Pos} (hg : Gl X "range") (hm : X.mg "range" = none) (hpl : isPl x = true) (hpl2 : isPl y = true) (h : PE X x (tO X.K W cv f)) (h2 : PE X y (tO X.K W cv g)) :
    PI X tg (.Call (.Name "range" p) [x, y] [] pos) (tI X.K W cv fun e => (f e).bind fun x e => (g e).bind fun y e => match x.get e, y.get e with
    | some (.int i), some (.int j) => if ok63 i = true ∧ ok63 j = true then .ok (rangeD i j) e else .er
    | _, _ => .er) := (pi_range2 hg hm (pa_cons h (pa_cons h2 pa_nil (star1 hpl2 _ _)) (star1 hpl _ _)) (by rw [star1 hpl, star1 hpl2]; rfl) (star1 hpl2 _ _)).imp fun σ H Q ⟨F, e, Z, R, p⟩ => by
  refine ⟨F, e, Z, R, (Pst.bind (R1 := rO X.K) (R2 := rW X.K) (fun _ _ _ _ _ _ _ _ _ _ _ _ q => q) R p).mono fun v H1 ⟨o, e1, Z1, R1, k1, q1, p1⟩ => ?_⟩
  refine ⟨F, e1, Z1, R1, (Pst.bind (R1 := rO X.K) (R2 := rW X.K) (fun _ _ _ _ _ _ _ _ _ _ _ _ q => q) R1 p1).mono fun v2 H2 ⟨o2, e2, Z2, R2, k2, q2, p2⟩ => ?_⟩
  show ∃ i j : Int, [v, v2] = [V.int i, V.int j] ∧ _
  have q1' := q1.keep R1 k2
  cases g1 : o.get e2 with
  | none => rw [g1] at p2; exact p2.elim
  | some d =>
    cases d with
    | int i =>
      cases g2 : o2.get e2 with
      | none => rw [g1, g2] at p2; exact p2.elim
      | some d2 =>
        cases d2 with
        | int j =>
          rw [g1, g2] at p2
          have c1 := (q1'.get R2 g1).full
          have c2 := (q2.get R2 g2).full
          cases c1
          cases c2
          by_cases hb : ok63 i = true ∧ ok63 j = true
          · simp only [hb, and_self, if_true] at p2
            have hi : -(2 ^ 62) ≤ i ∧ i < 2 ^ 62 := of_decide_eq_true hb.1
            have hj : -(2 ^ 62) ≤ j ∧ j < 2 ^ 62 := of_decide_eq_true hb.2
            exact ⟨i, j, rfl, ⟨hi.1, hi.2, hj.1, hj.2⟩, p2 _ H2 Z2 R2 .refl wlk_range⟩
          · simp only [hb, if_false] at p2
            exact p2.elim
        | _ => rw [g1, g2] at p2; exact p2.elim
    | _ => rw [g1] at p2; exact p2.elim
end
end Cr
set_option Elab.async false
set_option linter.all false
set_option maxRecDepth 100000
set_option maxHeartbeats 4000000
namespace Cr
open PySem PySem.Spec PyProof.Rows L2
/-! ### a block's own slots -/
section
variable {X : Cx} {K : PySem.W.Frag} {W : WX} {cv : Nat → Value} {F : Fr} {e e' e1 : Ev} {σ σ' : L2.St} {H H' : Hp} {Z Z' : Addr → Prop}
theorem Rel.put1 {i : Nat} (R : Rel K F e σ H Z) (hs : e[i]? = some .un ∨ ∃ d, e[i]? = some (.val d)) : Rel K F (e.set i .un) (σ.set i none) H Z ∧ (∀ a, MutAt (e.set i .un) (σ.set i none) a ↔ MutAt e σ a) := by
  have so : ∀ j, j ≠ i → (σ.set i none)[j]? = σ[j]? := fun j hj => List.getElem?_set_ne (Ne.symm hj)
  have mm : ∀ {j : Nat} {b : Bool} {d : D}, (e.set i .un)[j]? = some (Sl.mu b d) ↔ (j ≠ i ∧ e[j]? = some (Sl.mu b d)) := fun {j b d} => by
    constructor
    · intro h
      rcases getElem?_set' h with ⟨_, q⟩ | q
      · cases q
      · exact q
    · intro ⟨h1, h2⟩
      rw [List.getElem?_set_ne (Ne.symm h1)]
      exact h2
  have ni : ∀ {j : Nat} {b : Bool} {d : D}, e[j]? = some (Sl.mu b d) → j ≠ i := fun {j b d} h q => by
    subst q
    rcases hs with w | ⟨_, w⟩ <;> (rw [w] at h; cases h)
  refine ⟨⟨by rw [List.length_set, List.length_set]; exact R.len, fun j s h => ?_, fun j k b d b' d' a h1 h2 h3 h4 => ?_, R.zs, R.kz, R.zn, R.fr, R.lz, R.th, R.z0⟩, fun a => ⟨fun ⟨j, b, d, h1, h2⟩ => ?_, fun ⟨j, b, d, h1, h2⟩ => ?_⟩⟩
  · rcases getElem?_set' h with ⟨q1, q2⟩ | ⟨q1, q2⟩
    · subst q2; trivial
    · rw [so j q1]; exact R.sl j s q2
  · obtain ⟨p1, p2⟩ := mm.mp h1
    obtain ⟨p3, p4⟩ := mm.mp h2
    rw [so j p1] at h3
    rw [so k p3] at h4
    exact R.ds j k b d b' d' a p2 p4 h3 h4
  · obtain ⟨p1, p2⟩ := mm.mp h1
    rw [so j p1] at h2
    exact ⟨j, b, d, p2, h2⟩
  · exact ⟨j, b, d, mm.mpr ⟨ni h1, h1⟩, by rw [so j (ni h1)]; exact h2⟩
theorem Rel.wipe {own : List Nat} : ∀ {e1 : Ev}, Rel K F e σ H Z → wipeE e own = some e1 → Rel K F e1 (L2.wipe σ own) H Z ∧ (∀ a, MutAt e1 (L2.wipe σ own) a ↔ MutAt e σ a) ∧ ∀ j ∈ own, e[j]? = some .un ∨ ∃ d, e[j]? = some (Sl.val d) := by
  induction own with
  | nil => intro e1 R h; cases h; exact ⟨R, fun _ => Iff.rfl, fun j hj => by cases hj⟩
  | cons i r ih =>
    intro e1 R h
    have h' : ((wipeE e r).bind fun e' => match e'[i]? with
      | some .un => some e'
      | some (.val _) => some (e'.set i .un)
      | _ => none) = some e1 := h
    cases w : wipeE e r with
    | none => rw [w] at h'; cases h'
    | some e2 =>
      rw [w] at h'
      obtain ⟨R2, m2, o2⟩ := ih R w
      replace h' : (match e2[i]? with
        | some .un => some e2
        | some (.val _) => some (e2.set i .un)
        | _ => none) = some e1 := h'
      -- e2 at i tells of e at i
      have back : ∀ {r : List Nat} {e2 : Ev} {i : Nat}, wipeE e r = some e2 → (e2[i]? = some .un ∨ ∃ d, e2[i]? = some (Sl.val d)) → (e[i]? = some .un ∨ ∃ d, e[i]? = some (Sl.val d)) := by
        intro r
        induction r with
        | nil => intro e2 i w q; cases w; exact q
        | cons k r ih =>
          intro e2 i w q
          have w' : ((wipeE e r).bind fun e' => match e'[k]? with
            | some .un => some e'
            | some (.val _) => some (e'.set k .un)
            | _ => none) = some e2 := w
          cases g : wipeE e r with
          | none => rw [g] at w'; cases w'
          | some e3 =>
            rw [g] at w'
            replace w' : (match e3[k]? with
              | some .un => some e3
              | some (.val _) => some (e3.set k .un)
              | _ => none) = some e2 := w'
            split at w'
            · cases w'; exact ih g q
            · rename_i d hd
              cases w'
              by_cases hk : i = k
              · subst hk; exact ih g (.inr ⟨d, hd⟩)
              · rw [List.getElem?_set_ne (Ne.symm hk)] at q; exact ih g q
            · cases w'
      split at h'
      · rename_i hu
        cases h'
        obtain ⟨R3, m3⟩ := R2.put1 (.inl hu)
        have es : e1.set i .un = e1 := by
          apply List.ext_getElem?
          intro j
          by_cases q : j = i
          · subst q
            rw [List.getElem?_set_self (List.getElem?_eq_some_iff.mp hu).1, hu]
          · rw [List.getElem?_set_ne (Ne.symm q)]
        rw [es] at R3 m3
        exact ⟨R3, fun a => (m3 a).trans (m2 a), fun j hj => by
          rcases List.mem_cons.mp hj with rfl | hj
          · exact back w (.inl hu)
          · exact o2 j hj⟩
      · rename_i d hd
        cases h'
        obtain ⟨R3, m3⟩ := R2.put1 (.inr ⟨d, hd⟩)
        exact ⟨R3, fun a => (m3 a).trans (m2 a), fun j hj => by
          rcases List.mem_cons.mp hj with rfl | hj
          · exact back w (.inr ⟨d, hd⟩)
          · exact o2 j hj⟩
      · cases h'
theorem unwipe_len {e0 e : Ev} : ∀ own : List Nat, (unwipe e0 e own).length = e.length
  | [] => rfl
  | i :: r => by unfold unwipe; rw [List.length_set, unwipe_len r]
theorem unwipe_out {e0 e : Ev} {j : Nat} : ∀ {own : List Nat}, j ∉ own → (unwipe e0 e own)[j]? = e[j]?
  | [], _ => rfl
  | i :: r, h => by
    unfold unwipe
    rw [List.getElem?_set_ne (fun q => h (by rw [q]; exact List.mem_cons_self)), unwipe_out fun m => h (List.mem_cons_of_mem _ m)]
theorem unwipe_in {e0 e : Ev} {j : Nat} (hj : j < e.length) (h0 : j < e0.length) : ∀ {own : List Nat}, j ∈ own → (unwipe e0 e own)[j]? = e0[j]?
  | i :: r, h => by
    unfold unwipe
    by_cases q : i = j
    · subst q
      rw [List.getElem?_set_self (by rw [unwipe_len]; exact hj), List.getElem?_eq_getElem h0]
      rfl
    · rw [List.getElem?_set_ne q]
      exact unwipe_in hj h0 (by rcases List.mem_cons.mp h with w | w; exact absurd w.symm q; exact w)
/-- back from a block -/
theorem Rel.unwipe {own : List Nat} {e0 : Ev} {H0 : Hp} {Z0 : Addr → Prop} (R0 : Rel K F e0 σ H0 Z0) (ho : ∀ j ∈ own, e0[j]? = some .un ∨ ∃ d, e0[j]? = some (Sl.val d)) (R : Rel K F e (L2.wipe σ own) H Z) (l : Le H0 Z0 H Z) :
    Rel K F (Cr.unwipe e0 e own) σ H Z ∧ ∀ a, MutAt (Cr.unwipe e0 e own) σ a → MutAt e (L2.wipe σ own) a := by
  have hl : e.length = e0.length := by rw [R.len, wipe_length, R0.len]
  have get : ∀ {j : Nat} {s : Sl}, (Cr.unwipe e0 e own)[j]? = some s → (j ∈ own ∧ e0[j]? = some s) ∨ (j ∉ own ∧ e[j]? = some s) := fun {j s} h => by
    have hj : j < e.length := by
      have := (List.getElem?_eq_some_iff.mp h).1
      rw [unwipe_len] at this
      exact this
    by_cases q : j ∈ own
    · rw [unwipe_in hj (by rw [← hl]; exact hj) q] at h
      exact .inl ⟨q, h⟩
    · rw [unwipe_out q] at h
      exact .inr ⟨q, h⟩
  have mu : ∀ {j : Nat} {b : Bool} {d : D}, (Cr.unwipe e0 e own)[j]? = some (Sl.mu b d) → j ∉ own ∧ e[j]? = some (Sl.mu b d) := fun {j b d} h => by
    rcases get h with ⟨q1, q2⟩ | q
    · rcases ho j q1 with w | ⟨_, w⟩ <;> (rw [w] at q2; cases q2)
    · exact q
  refine ⟨⟨by rw [unwipe_len, R.len, wipe_length], fun j s h => ?_, fun j k b d b' d' a h1 h2 h3 h4 => ?_, R.zs, R.kz, R.zn, R.fr, R.lz, R.th, R.z0⟩, fun a ⟨j, b, d, h1, h2⟩ => ?_⟩
  · rcases get h with ⟨q1, q2⟩ | ⟨q1, q2⟩
    · have sr := R0.sl j s q2
      rcases ho j q1 with w | ⟨d, w⟩
      · rw [w] at q2; cases q2; trivial
      · rw [w] at q2
        cases q2
        obtain ⟨v, e1, r⟩ := sr
        exact ⟨v, e1, Dv.le l r⟩
    · have sr := R.sl j s q2
      rw [wipe_out q1] at sr
      exact sr
  · obtain ⟨p1, p2⟩ := mu h1
    obtain ⟨p3, p4⟩ := mu h2
    exact R.ds j k b d b' d' a p2 p4 (by rw [wipe_out p1]; exact h3) (by rw [wipe_out p3]; exact h4)
  · obtain ⟨p1, p2⟩ := mu h1
    exact ⟨j, b, d, p2, by rw [wipe_out p1]; exact h2⟩
/-- a hidden object that no slot owns is written -/
theorem Rel.putH {a : Addr} {u : HO} (R : Rel K F e σ H Z) (z : Z a) (m : ¬ MutAt e σ a) (f : F.H0 a = none) : Rel K F e σ (upd H a u) Z := by
  have hh : hid Z (upd H a u) = hid Z H := hid_put z
  have none_upd : ∀ x, H x ≠ none → upd H a u x ≠ none := fun x h => by
    by_cases q : x = a
    · subst q; rw [upd_same]; simp
    · rw [upd_ne q]; exact h
  refine ⟨R.len, fun j s h => (R.sl j s h).mono (by rw [hh]; exact Sub.refl) fun b d x e1 e2 => ?_, R.ds, fun x h => none_upd x (R.zs x h), R.kz, R.zn, fun x o h1 h2 => ?_, R.lz, fun x h => none_upd x (R.th x h), R.z0⟩
  · subst e1
    have mx : MutAt e σ x := ⟨j, b, d, h, e2⟩
    exact ⟨R.mutZ mx, upd_ne fun q => m (q ▸ mx)⟩
  · rw [upd_ne fun q => by subst q; rw [f] at h1; cases h1]
    exact R.fr x o h1 h2
/-! ### comprehensions -/
def WF : WX := fun _ _ _ _ => False
theorem pst_noEx {α β : Type} {R : RelT α β} {m : Rs α} {Q : β → Hp → Prop} (p : Pst K W cv R F σ e H Z (noEx m) Q) : Pst K WF cv R F σ e H Z m Q := by
  cases m with
  | ok a e => exact p
  | ex x e => exact p.elim
  | er => exact p
theorem wipe_same {own S : List Nat} (h : ∀ j : Nat, j ∉ S → σ'[j]? = σ[j]?) (hS : ∀ j ∈ S, j ∈ own) (hl : σ'.length = σ.length) : L2.wipe σ' own = L2.wipe σ own := by
  have wi : ∀ {σ : L2.St} {vs : List Nat} {j : Nat}, j ∈ vs → j < σ.length → (L2.wipe σ vs)[j]? = some none := by
    intro σ vs
    induction vs with
    | nil => intro j h _; cases h
    | cons v vs ih =>
      intro j h hl
      unfold L2.wipe
      by_cases q : v = j
      · subst q
        rw [List.getElem?_set_self (by rw [wipe_length]; exact hl)]
      · rw [List.getElem?_set_ne q]
        exact ih (by rcases List.mem_cons.mp h with w | w; exact absurd w.symm q; exact w) hl
  apply List.ext_getElem?
  intro j
  by_cases q : j ∈ own
  · by_cases hj : j < σ.length
    · rw [wi q hj, wi q (by rw [hl]; exact hj)]
    · rw [List.getElem?_eq_none (by rw [wipe_length, hl]; omega), List.getElem?_eq_none (by rw [wipe_length]; omega)]
  · rw [wipe_out q, wipe_out q]
    exact h j fun w => q (hS j w)
theorem wipe_wipe {own : List Nat} : L2.wipe (L2.wipe σ own) own = L2.wipe σ own := wipe_same (S := own) (fun j hj => wipe_out hj) (fun j hj => hj) (wipe_length _ _)
/-- the state between two turns -/
structure LcI (K : PySem.W.Frag) (F : Fr) (σw : L2.St) (e0 : Ev) (H0 : Hp) (Z0 : Addr → Prop) (Dn : Addr) (e : Ev) (H : Hp) (Z : Addr → Prop) (acc : List D) : Prop where
  rel : Rel K F e σw H Z
  z : Z Dn
  nm : ¬ MutAt e σw Dn
  cell : Cell K (hid Z H) H Dn (.list acc)
  ka : Ka (fun a => a = Dn) e0 σw H0 Z0 e σw H Z
theorem lc_red {own S : List Nat} {fi : Ev → Rs (List D)} {asg : Rv → Ev → Rs Unit} {c : Ev → Rs Bool} {f : Ev → Rs Rv} {Q : VK} (hS : ∀ j ∈ S, j ∈ own)
    (w : tE K W cv (fun e => (fi e).bind fun items e => wipeK own e fun e1 => (noEx (compL own (fun d e => asg (.fz d) e) c f items [] e1)).bind fun acc e2 => .ok (.fr (.list acc)) (unwipe e e2 own)) σ H Q) :
    tLc (tI K W cv fi) (tA K WF cv S asg) (tT K WF cv c) (tE K WF cv f) own σ H Q := by
  obtain ⟨F, e, Z, R, p⟩ := w
  refine ⟨F, e, Z, R, (Pst.bind (R1 := rW K) (R2 := rE K) (fun _ _ _ _ _ _ _ _ _ _ k _ q => trE k q) R p).mono fun J H1 ⟨items, e1, Z1, R1, k1, wk, p1⟩ => ?_⟩
  intro Dn hDn
  unfold wipeK at p1
  cases hw : wipeE e1 own with
  | none => rw [hw] at p1; exact p1.elim
  | some ew =>
    rw [hw] at p1
    obtain ⟨Rw, mw, ow⟩ := R1.wipe hw
    cases hrun : compL own (fun d e => asg (.fz d) e) c f items [] ew with
    | er => simp only [hrun] at p1; exact p1.elim
    | ex x e' => simp only [hrun] at p1; exact p1.elim
    | ok accF eF =>
      simp only [hrun] at p1
      have hD0 : F.H0 Dn = none := by
        cases q : F.H0 Dn with
        | none => rfl
        | some o => exact absurd hDn (R1.th Dn (by rw [q]; simp))
      -- the start
      have hno : ¬ MutAt ew (L2.wipe σ own) Dn := fun m => R1.zs Dn (Rw.mutZ m) hDn
      have start : LcI K F (L2.wipe σ own) ew H1 Z1 Dn ew (upd H1 Dn (.lst [])) (fun a => Z1 a ∨ a = Dn) [] := by
        obtain ⟨Rg, kg⟩ := Rw.grow (H' := upd H1 Dn (.lst [])) (Z' := fun a => Z1 a ∨ a = Dn) (sub_upd hDn) (fun _ z => .inl z) fun a z => by
          rcases z with z | z
          · exact .inl z
          · subst z; exact .inr ⟨hDn, by rw [upd_same]; simp⟩
        exact ⟨Rg, .inr rfl, hno, ⟨[], upd_same, .nil⟩, Ka.of kg⟩
      refine ⟨fun i m H => m = items.length - i ∧ i ≤ items.length ∧ ∃ e Z acc, LcI K F (L2.wipe σ own) ew H1 Z1 Dn e H Z acc ∧ compL own (fun d e => asg (.fz d) e) c f (items.drop i) acc e = .ok accF eF, ⟨items.length, by simp, Nat.zero_le _, ew, _, [], start, hrun⟩, ?_⟩
      rintro i m Hi ⟨rfl, hi, ei, Zi, acc, L, hr⟩
      have hle : Le H1 Z1 Hi Zi := by
        refine ⟨fun a o q => ?_, L.ka.th⟩
        obtain ⟨z, q⟩ := hid_some.mp q
        have ne : a ≠ Dn := fun w => by subst w; rw [hDn] at q; cases q
        obtain ⟨q1, z1, _⟩ := L.ka.keep a o q (fun m => z (Rw.mutZ m)) ne
        exact hid_some.mpr ⟨fun w => z (z1.mp w), q1⟩
      by_cases hlt : i < items.length
      · refine .inr ⟨wk.go i Hi Zi hle hlt, fun H' => i + 1 ≤ items.length ∧ ∃ e Z acc, LcI K F (L2.wipe σ own) ew H1 Z1 Dn e H' Z acc ∧ compL own (fun d e => asg (.fz d) e) c f (items.drop (i + 1)) acc e = .ok accF eF, fun H' q => ⟨items.length - (i + 1), by omega, rfl, q.1, q.2⟩, fun x H2 hy => ?_⟩
        have hd : items[i]? = some items[i] := List.getElem?_eq_getElem hlt
        have nw := wk.yld i Hi Zi x H2 items[i] hle hd hy
        obtain ⟨Z2, R2, k2, q2⟩ := new_ok L.rel nw
        obtain ⟨oD, hoD⟩ := L.cell.some
        rw [List.drop_eq_getElem_cons hlt] at hr
        -- what is kept of the new list
        have d2 := k2.keep Dn oD hoD L.nm
        refine ⟨F, ei, Z2, .fz items[i], R2, q2.1, ?_⟩
        have hr' : ((asg (.fz items[i]) ei).bind fun _ e => (c e).bind fun b e => if b = true then (f e).bind fun v e => if acc.length < sizeLine then wipeK own e fun e => compL own (fun d e => asg (.fz d) e) c f (items.drop (i + 1)) (acc ++ [v.d]) e else .er
          else wipeK own e fun e => compL own (fun d e => asg (.fz d) e) c f (items.drop (i + 1)) acc e) = .ok accF eF := hr
        cases g3 : asg (.fz items[i]) ei with
        | er => rw [g3] at hr'; cases hr'
        | ex _ _ => rw [g3] at hr'; cases hr'
        | ok u3 e3 =>
          rw [g3] at hr'
          intro σ3 H3 Z3 R3 k3 s3
          have ww : L2.wipe σ3 own = L2.wipe σ own := (wipe_same s3.at' hS s3.len).trans wipe_wipe
          refine ⟨ww, F, e3, Z3, R3, ?_⟩
          have np : ∀ a, ¬ Pf x (.fz items[i]) a := fun a ⟨d, q, _⟩ => by cases q
          have d3 := k3.keep Dn oD d2.1 d2.2.2 (np Dn)
          have kz3 : Ka (fun a => a = Dn) ew (L2.wipe σ own) H1 Z1 e3 σ3 H3 Z3 := (L.ka.trans (Ka.of k2)).trans ⟨fun a o q m _ => k3.keep a o q m (np a), k3.th⟩
          have le2 : Le Hi Zi H3 Z3 := (k2.le L.rel).trans (k3.le R2 fun a h => absurd h (np a))
          replace hr' : ((c e3).bind fun b e => if b = true then (f e).bind fun v e => if acc.length < sizeLine then wipeK own e fun e => compL own (fun d e => asg (.fz d) e) c f (items.drop (i + 1)) (acc ++ [v.d]) e else .er
            else wipeK own e fun e => compL own (fun d e => asg (.fz d) e) c f (items.drop (i + 1)) acc e) = .ok accF eF := hr'
          -- a turn's end
          have fin : ∀ {e9 : Ev} {H9 : Hp} {Z9 : Addr → Prop} {acc9 : List D}, Rel K F e9 σ3 H9 Z9 → Z9 Dn → ¬ MutAt e9 σ3 Dn → Cell K (hid Z9 H9) H9 Dn (.list acc9) → Ka (fun a => a = Dn) ew (L2.wipe σ own) H1 Z1 e9 σ3 H9 Z9 →
              wipeK own e9 (fun e => compL own (fun d e => asg (.fz d) e) c f (items.drop (i + 1)) acc9 e) = .ok accF eF → i + 1 ≤ items.length ∧ ∃ e Z acc, LcI K F (L2.wipe σ own) ew H1 Z1 Dn e H9 Z acc ∧ compL own (fun d e => asg (.fz d) e) c f (items.drop (i + 1)) acc e = .ok accF eF := by
            intro e9 H9 Z9 acc9 R9 z9 m9 c9 ka9 h9
            refine ⟨hlt, ?_⟩
            unfold wipeK at h9
            cases g9 : wipeE e9 own with
            | none => rw [g9] at h9; cases h9
            | some e10 =>
              rw [g9] at h9
              obtain ⟨R10, m10, _⟩ := R9.wipe g9
              rw [ww] at R10 m10
              exact ⟨e10, Z9, acc9, ⟨R10, z9, fun m => m9 ((m10 _).mp m), c9, ⟨fun a o q m p => by
                obtain ⟨q1, q2, q3⟩ := ka9.keep a o q m p
                exact ⟨q1, q2, fun m' => q3 ((m10 a).mp m')⟩, ka9.th⟩⟩, h9⟩
          cases g4 : c e3 with
          | er => rw [g4] at hr'; cases hr'
          | ex _ _ => rw [g4] at hr'; cases hr'
          | ok b e4 =>
            rw [g4] at hr'
            intro b' H4 Z4 R4 k4 eb
            subst eb
            have d4 := k4.keep Dn oD d3.1 d3.2.2
            have kz4 := kz3.trans (Ka.of (P := fun a => a = Dn) k4)
            have le4 := le2.trans (k4.le R3)
            have zD4 : Z4 Dn := d4.2.1.mpr (d3.2.1.mpr (d2.2.1.mpr L.z))
            have cell4 : Cell K (hid Z4 H4) H4 Dn (.list acc) := L.cell.le le4.sub (d4.1.trans hoD.symm)
            cases b' with
            | false => exact fin R4 zD4 d4.2.2 cell4 kz4 hr'
            | true =>
              replace hr' : ((f e4).bind fun v e => if acc.length < sizeLine then wipeK own e fun e => compL own (fun d e => asg (.fz d) e) c f (items.drop (i + 1)) (acc ++ [v.d]) e else .er) = .ok accF eF := hr'
              show tE K WF cv f σ3 H4 _
              refine ⟨F, e4, Z4, R4, ?_⟩
              cases g5 : f e4 with
              | er => rw [g5] at hr'; cases hr'
              | ex _ _ => rw [g5] at hr'; cases hr'
              | ok r e5 =>
                rw [g5] at hr'
                intro y H5 Z5 R5 k5 q5
                obtain ⟨Z6, R6, k6, dv⟩ := q5.freeze R5 k5
                have d6 := k6.keep Dn oD d4.1 d4.2.2
                have kz6 := kz4.trans (Ka.of (P := fun a => a = Dn) k6)
                have zD6 : Z6 Dn := d6.2.1.mpr zD4
                have cell6 : Cell K (hid Z6 H5) H5 Dn (.list acc) := cell4.le (k6.le R4).sub (d6.1.trans d4.1.symm)
                obtain ⟨xs, hx, rx⟩ := cell6
                replace hr' : (if acc.length < sizeLine then wipeK own e5 fun e => compL own (fun d e => asg (.fz d) e) c f (items.drop (i + 1)) (acc ++ [r.d]) e else .er) = .ok accF eF := hr'
                split at hr'
                · rename_i hz
                  refine ⟨xs, hx, by rw [rx.length]; exact hz, ?_⟩
                  have hh : hid Z6 (upd H5 Dn (.lst (xs ++ [y]))) = hid Z6 H5 := hid_put zD6
                  refine fin (R6.putH zD6 d6.2.2 hD0) zD6 d6.2.2 ⟨xs ++ [y], upd_same, ?_⟩ ⟨fun a o q m p => ?_, fun a q => ?_⟩ hr'
                  · rw [hh]
                    exact rx.append (.cons dv .nil)
                  · rw [upd_ne p]
                    exact kz6.keep a o q m p
                  · by_cases w : a = Dn
                    · subst w; rw [upd_same]; simp
                    · rw [upd_ne w]; exact kz6.th a q
                · cases hr'
      · have e1 : i = items.length := by omega
        subst e1
        rw [List.drop_length] at hr
        have hr' : Rs.ok acc ei = .ok accF eF := hr
        cases hr'
        refine .inl ⟨wk.stop Hi Zi hle, ?_⟩
        obtain ⟨Ru, mu⟩ := R1.unwipe ow L.rel hle
        refine p1 (.ref Dn) Hi Zi Ru ⟨fun a o q m => ?_, L.ka.th⟩ ⟨⟨Dn, rfl, L.z, L.cell, fun m => L.nm (mu _ m), hD0⟩, fun d a _ e2 => by cases e2; exact hDn⟩
        have ne : a ≠ Dn := fun w => by subst w; rw [hDn] at q; cases q
        obtain ⟨q1, z1, m1⟩ := L.ka.keep a o q (fun m' => m ((mw a).mp m')) ne
        exact ⟨q1, z1, fun m' => m1 (mu a m')⟩
end
end Cr
set_option Elab.async false
set_option linter.all false
set_option maxRecDepth 100000
set_option maxHeartbeats 4000000
namespace Cr
open PySem PySem.Spec PyProof.Rows L2
def PstS (K : PySem.W.Frag) (W : WX) (cv : Nat → Value) (F : Fr) (H : Hp) (Z : Addr → Prop) (m : Rs Fl) (D : Ends) : Prop :=
  match m with
  | .ok .nx e' => ∀ σ' H' Z', Rel K F e' σ' H' Z' → Le H Z H' Z' → D.nx σ' H'
  | .ok .bk e' => ∀ σ' H' Z', Rel K F e' σ' H' Z' → Le H Z H' Z' → D.bk σ' H'
  | .ok .ct e' => ∀ σ' H' Z', Rel K F e' σ' H' Z' → Le H Z H' Z' → D.ct σ' H'
  | .ok (.rt r) e' => ∀ v σ' H' Z', Rel K F e' σ' H' Z' → Le H Z H' Z' → RvR K F e' σ' H' Z' v r → D.rt v H'
  | .ex x e' => ∀ σ' H' Z', Rel K F e' σ' H' Z' → Le H Z H' Z' → W (cv x) none σ' H'
  | .er => False
def tS (K : PySem.W.Frag) (W : WX) (cv : Nat → Value) (f : Ev → Rs Fl) : TS := fun D σ H => ∃ F e Z, Rel K F e σ H Z ∧ PstS K W cv F H Z (f e) D
section
variable {X : Cx} {K : PySem.W.Frag} {W : WX} {cv : Nat → Value}
theorem PstS.le {F : Fr} {H H' : Hp} {Z Z' : Addr → Prop} {m : Rs Fl} {D : Ends} (p : PstS K W cv F H Z m D) (l : Le H Z H' Z') : PstS K W cv F H' Z' m D := by
  cases m with
  | er => exact p
  | ex x e => exact fun σ' H2 Z2 R l2 => p σ' H2 Z2 R (l.trans l2)
  | ok f e =>
    cases f with
    | nx => exact fun σ' H2 Z2 R l2 => p σ' H2 Z2 R (l.trans l2)
    | bk => exact fun σ' H2 Z2 R l2 => p σ' H2 Z2 R (l.trans l2)
    | ct => exact fun σ' H2 Z2 R l2 => p σ' H2 Z2 R (l.trans l2)
    | rt r => exact fun v σ' H2 Z2 R l2 => p v σ' H2 Z2 R (l.trans l2)
/-- an expression's run, then a statement's rest -/
theorem PstS.bindE {α β : Type} {R1 : RelT α β} {F : Fr} {σ : L2.St} {e : Ev} {H : Hp} {Z : Addr → Prop} {m : Rs α} {f : α → Ev → Rs Fl} {D : Ends} (R : Rel K F e σ H Z) (h : PstS K W cv F H Z (m.bind f) D) :
    Pst K W cv R1 F σ e H Z m fun b H1 => ∃ a e1 Z1, Rel K F e1 σ H1 Z1 ∧ R1 F σ H a b e1 H1 Z1 ∧ Le H Z H1 Z1 ∧ PstS K W cv F H1 Z1 (f a e1) D := by
  cases m with
  | er => exact h
  | ex x e' => exact fun H' Z' r l => h σ H' Z' r l
  | ok a e1 => exact fun b H1 Z1 r k q => ⟨a, e1, Z1, r, q, k.le R, PstS.le (m := f a e1) h (k.le R)⟩
theorem PstS.bindA {F : Fr} {S : List Nat} {P : Addr → Prop} {σ : L2.St} {e : Ev} {H : Hp} {Z : Addr → Prop} {m : Rs Unit} {f : Ev → Rs Fl} {D : Ends} (R : Rel K F e σ H Z) (hp : ∀ a, P a → Z a) (h : PstS K W cv F H Z (m.bind fun _ e => f e) D) :
    PstA K W cv F S P σ e H Z m fun σ1 H1 => ∃ e1 Z1, Rel K F e1 σ1 H1 Z1 ∧ Le H Z H1 Z1 ∧ PstS K W cv F H1 Z1 (f e1) D := by
  cases m with
  | er => exact h
  | ex x e' => exact h
  | ok a e1 => exact fun σ1 H1 Z1 r k _ => ⟨e1, Z1, r, k.le R hp, PstS.le (m := f e1) h (k.le R hp)⟩
theorem PstA.mono {F : Fr} {S : List Nat} {P : Addr → Prop} {σ : L2.St} {e : Ev} {H : Hp} {Z : Addr → Prop} {m : Rs Unit} {Q Q' : L2.St → Hp → Prop} (h : PstA K W cv F S P σ e H Z m Q) (hq : ∀ σ' H', Q σ' H' → Q' σ' H') : PstA K W cv F S P σ e H Z m Q' := by
  cases m with
  | er => exact h
  | ex x e' => exact h
  | ok a e1 => exact fun σ1 H1 Z1 r k d => hq _ _ (h σ1 H1 Z1 r k d)
/-! ### target = value -/
theorem asg_red {S : List Nat} {f : Ev → Rs Rv} {g : Rv → Ev → Rs Unit} {D : Ends} {σ : L2.St} {H : Hp} (w : tS K W cv (fun e => (f e).bind fun r e => (g r e).bind fun _ e => .ok .nx e) D σ H) : tAsg (tE K W cv f) (tA K W cv S g) D σ H := by
  obtain ⟨F, e, Z, R, p⟩ := w
  refine ⟨F, e, Z, R, (PstS.bindE (R1 := rE K) R p).mono fun v H1 ⟨r, e1, Z1, R1, q1, l1, p1⟩ => ?_⟩
  refine ⟨F, e1, Z1, r, R1, q1.1, (PstS.bindA R1 q1.1.pf p1).mono fun σ2 H2 ⟨e2, Z2, R2, l2, p2⟩ => ?_⟩
  exact p2 σ2 H2 Z2 R2 .refl
theorem gName_red {S : List Nat} {i : Nat} {v : V} {σ : L2.St} {H : Hp} {Q : L2.St → Hp → Prop} (hS : i ∈ S) (w : tA K W cv S (fun r e => store i r.sl e) v σ H Q) : gName i v σ H Q := by
  obtain ⟨F, e, Z, rv, R, q, p⟩ := w
  show Q (σ.set i (some v)) H
  replace p : PstA K W cv F S (Pf v rv) σ e H Z (store i rv.sl e) Q := p
  cases g : store i rv.sl e with
  | er => rw [g] at p; exact p.elim
  | ex x e' => unfold store at g; split at g <;> cases g
  | ok w e' =>
    rw [g] at p
    obtain ⟨R', k⟩ := R.store q g
    exact p _ _ Z R' k ⟨fun j hj => List.getElem?_set_ne fun (e1 : i = j) => hj (e1 ▸ hS), List.length_set⟩
theorem ps_asgD {tg x : Expr} {pos : Pos} {S : List Nat} {f : Ev → Rs Rv} {g : Rv → Ev → Rs Unit} (he : PE X x (tE K W cv f)) (hg : PG X tg (tA K W cv S g)) (hs : swapsWithSole [tg] x pos.line X.env = pure false) (hw : swappedStores [tg] x X.env = pure none)
    (h1 : (assignEach [tg] X.env).map (·.2) = [assign tg X.env]) : PS X (.Assign [tg] x pos) (tS K W cv fun e => (f e).bind fun r e => (g r e).bind fun _ e => .ok .nx e) := (ps_asg he hg hs hw h1).imp fun D σ H w => asg_red w
/-! ### small statements -/
theorem ps_exD {x : Expr} {pos : Pos} {f : Ev → Rs Rv} (he : PE X x (tE K W cv f)) (hs : swapsWith x none pos.line X.env = pure false) : PS X (.Expr x pos) (tS K W cv fun e => (f e).bind fun _ e => .ok .nx e) := (ps_expr he hs).imp fun D σ H ⟨F, e, Z, R, p⟩ => by
  refine ⟨F, e, Z, R, (PstS.bindE (R1 := rE K) R p).mono fun v H1 ⟨r, e1, Z1, R1, q1, l1, p1⟩ => ?_⟩
  exact p1 σ H1 Z1 R1 .refl
theorem ps_retD {x : Expr} {pos : Pos} {f : Ev → Rs Rv} (he : PE X x (tE K W cv f)) : PS X (.Return (some x) pos) (tS K W cv fun e => (f e).bind fun r e => .ok (.rt r) e) := (ps_ret he).imp fun D σ H ⟨F, e, Z, R, p⟩ => by
  refine ⟨F, e, Z, R, (PstS.bindE (R1 := rE K) R p).mono fun v H1 ⟨r, e1, Z1, R1, q1, l1, p1⟩ => ?_⟩
  exact p1 v σ H1 Z1 R1 .refl q1.1
/-- a name's own list is handed out -/
theorem ps_retV {x : Expr} {pos : Pos} {i : Nat} (he : PE X x (tVar i)) : PS X (.Return (some x) pos) (tS K W cv fun e => (evRet (.var i) (rdA i) e).bind fun r e => .ok (.rt r) e) := by
  have h1 := ps_ret (pos := pos) he
  have h2 := ps_retD (pos := pos) (pe_rd (K := K) (W := W) (cv := cv) he)
  refine ⟨fun pins s σ H D I ⟨F, e, Z, R, p⟩ => ?_⟩
  by_cases hm : ∃ d, e[i]? = some (Sl.mu false d)
  · obtain ⟨d, hd⟩ := hm
    refine h1.run pins s σ H D I ?_
    replace p : PstS K W cv F H Z ((evRet (.var i) (rdA i) e).bind fun r e => .ok (.rt r) e) D := p
    have e1 : evRet (.var i) (rdA i) e = .ok (.fr d) (e.set i .un) := by
      unfold evRet
      simp only [hd]
    rw [e1] at p
    obtain ⟨a, ha, z, c, _, f2⟩ := R.sl i _ hd
    refine ⟨_, ha, ?_⟩
    obtain ⟨R1, m1⟩ := R.setSlot (i := i) (s := .un) trivial fun _ _ h => by cases h
    refine p (V.ref a) σ H Z R1 .refl ⟨a, rfl, z, c, fun ⟨j, b', d', w1, w2⟩ => ?_, f2 rfl⟩
    rcases getElem?_set' w1 with ⟨_, w⟩ | ⟨hj, w⟩
    · cases w
    · exact hj (R.ds j i b' d' false d a w hd w2 ha)
  · refine h2.run pins s σ H D I ⟨F, e, Z, R, ?_⟩
    replace p : PstS K W cv F H Z ((evRet (.var i) (rdA i) e).bind fun r e => .ok (.rt r) e) D := p
    have e1 : evRet (.var i) (rdA i) e = rdA i e := by
      unfold evRet
      dsimp only
      split
      · rename_i d hd
        exact absurd ⟨d, hd⟩ hm
      · rfl
    rw [e1] at p
    exact p
theorem ps_retND {pos : Pos} : PS X (.Return none pos) (tS K W cv fun e => .ok (.rt (.fz .none)) e) := ps_retN.imp fun D σ H ⟨F, e, Z, R, p⟩ => p .non σ H Z R .refl .non
theorem ps_passD {pos : Pos} : PS X (.Pass pos) (tS K W cv fun e => .ok .nx e) := ps_pass.imp fun D σ H ⟨F, e, Z, R, p⟩ => p σ H Z R .refl
theorem ps_docD {x j pos pos'} : PS X (.Expr (.Constant (.str x) j pos) pos') (tS K W cv fun e => .ok .nx e) := ps_doc.imp fun D σ H ⟨F, e, Z, R, p⟩ => p σ H Z R .refl
theorem ps_brkD {pos : Pos} : PS X (.Break pos) (tS K W cv fun e => .ok .bk e) := ps_break.imp fun D σ H ⟨F, e, Z, R, p⟩ => p σ H Z R .refl
theorem ps_contD {pos : Pos} : PS X (.Continue pos) (tS K W cv fun e => .ok .ct e) := ps_continue.imp fun D σ H ⟨F, e, Z, R, p⟩ => p σ H Z R .refl
theorem pss_nilD : PSs X [] (tS K W cv fun e => .ok .nx e) := pss_nil.imp fun D σ H ⟨F, e, Z, R, p⟩ => p σ H Z R .refl
theorem pss_consD {s : Stmt} {ss : List Stmt} {f g : Ev → Rs Fl} (h1 : PS X s (tS K W cv f)) (h2 : PSs X ss (tS K W cv g)) : PSs X (s :: ss) (tS K W cv fun e => (f e).bind fun r e => match r with
    | .nx => g e
    | r => .ok r e) := (pss_cons h1 h2).imp fun D σ H ⟨F, e, Z, R, p⟩ => by
  refine ⟨F, e, Z, R, ?_⟩
  replace p : PstS K W cv F H Z ((f e).bind fun r e => match r with | .nx => g e | r => .ok r e) D := p
  cases w : f e with
  | er => rw [w] at p; exact p
  | ex x e' => rw [w] at p; exact p
  | ok r e1 =>
    rw [w] at p
    cases r with
    | nx =>
      intro σ1 H1 Z1 R1 l1
      exact ⟨F, e1, Z1, R1, PstS.le (m := g e1) p l1⟩
    | bk => exact p
    | ct => exact p
    | rt r => exact p
theorem ps_ifD {c : Expr} {a b : List Stmt} {pos : Pos} {t : Ev → Rs Bool} {f g : Ev → Rs Fl} (hc : PT X c (tT K W cv t)) (ha : PSs X a (tS K W cv f)) (hb : PSs X b (tS K W cv g)) : PS X (.If c a b pos) (tS K W cv fun e => (t e).bind fun q e => if q = true then f e else g e) := (ps_if hc ha hb).imp fun D σ H ⟨F, e, Z, R, p⟩ => by
  refine ⟨F, e, Z, R, (PstS.bindE (R1 := rB) R p).mono fun c H1 ⟨t, e1, Z1, R1, q1, l1, p1⟩ => ?_⟩
  subst q1
  cases c with
  | true => exact ⟨F, e1, Z1, R1, p1⟩
  | false => exact ⟨F, e1, Z1, R1, p1⟩
theorem ps_raiseD {x : Expr} {i : Nat} {pos : Pos} (hc : X.calm = true) (tk : Takes X W) (h : PMk X x fun _ H Q => Q (cv i) none H) : PS X (.Raise (some x) none pos) (tS K W cv fun e => .ex i e) := (ps_raise hc tk h).imp fun D σ H ⟨F, e, Z, R, p⟩ => p σ H Z R .refl
/-! ### loops -/
theorem ps_whileD {c : Expr} {b : List Stmt} {pos : Pos} {n : Nat} {t : Ev → Rs Bool} {f : Ev → Rs Fl} (hp : PassesOwn (model X.prog X.w) X.A X.env X.xe) (hc : PT X c (tT K W cv t)) (hb : PSs X b (tS K W cv f)) : PS X (.While c b [] pos) (tS K W cv fun e => whileL t f n e) := (ps_while hp hc hb).imp fun D σ H ⟨F, e, Z, R, p⟩ => by
  refine ⟨fun m σ H => ∃ e Z, Rel K F e σ H Z ∧ PstS K W cv F H Z (whileL t f m e) D, ⟨n, e, Z, R, p⟩, ?_⟩
  rintro m σ H ⟨e, Z, R, p⟩
  cases m with
  | zero => exact p.elim
  | succ m =>
    replace p : PstS K W cv F H Z ((t e).bind fun b e => if b = true then (f e).bind fun r e => match r with
      | .nx => whileL t f m e
      | .ct => whileL t f m e
      | .bk => .ok .nx e
      | .rt v => .ok (.rt v) e
      else .ok .nx e) D := p
    refine ⟨F, e, Z, R, (PstS.bindE (R1 := rB) R p).mono fun c H1 ⟨t', e1, Z1, R1, q1, l1, p1⟩ => ?_⟩
    subst q1
    cases c with
    | false => exact p1 σ H1 Z1 R1 .refl
    | true =>
      refine ⟨fun σ H => ∃ e Z, Rel K F e σ H Z ∧ PstS K W cv F H Z (whileL t f m e) D, fun σ' H' q => ⟨m, Nat.lt_succ_self _, q⟩, F, e1, Z1, R1, ?_⟩
      replace p1 : PstS K W cv F H1 Z1 ((f e1).bind fun r e => match r with
        | .nx => whileL t f m e
        | .ct => whileL t f m e
        | .bk => .ok .nx e
        | .rt v => .ok (.rt v) e) D := p1
      cases w : f e1 with
      | er => rw [w] at p1; exact p1
      | ex x e' => rw [w] at p1; exact p1
      | ok r e2 =>
        rw [w] at p1
        cases r with
        | nx => exact fun σ2 H2 Z2 R2 l2 => ⟨e2, Z2, R2, PstS.le (m := whileL t f m e2) p1 l2⟩
        | ct => exact fun σ2 H2 Z2 R2 l2 => ⟨e2, Z2, R2, PstS.le (m := whileL t f m e2) p1 l2⟩
        | bk => exact p1
        | rt r => exact p1
theorem for_red {S : List Nat} {fi : Ev → Rs (List D)} {asg : Rv → Ev → Rs Unit} {body : Ev → Rs Fl} {D : Ends} {σ : L2.St} {H : Hp} (w : tS K W cv (fun e => (fi e).bind fun items e => forL (fun d e => asg (.fz d) e) body items e) D σ H) :
    tFor (tI K W cv fi) (tA K W cv S asg) (tS K W cv body) D σ H := by
  obtain ⟨F, e, Z, R, p⟩ := w
  refine ⟨F, e, Z, R, (PstS.bindE (R1 := rW K) R p).mono fun J H1 ⟨items, e1, Z1, R1, wk, l1, p1⟩ => ?_⟩
  refine ⟨fun i m σ H => m = items.length - i ∧ i ≤ items.length ∧ ∃ e Z, Rel K F e σ H Z ∧ Le H1 Z1 H Z ∧ PstS K W cv F H Z (forL (fun d e => asg (.fz d) e) body (items.drop i) e) D, ⟨items.length, by simp, Nat.zero_le _, e1, Z1, R1, .refl, p1⟩, ?_⟩
  rintro i m σi Hi ⟨rfl, hi, ei, Zi, Ri, li, pi⟩
  by_cases hlt : i < items.length
  · refine .inr ⟨wk.go i Hi Zi li hlt, fun σ' H' => i + 1 ≤ items.length ∧ ∃ e Z, Rel K F e σ' H' Z ∧ Le H1 Z1 H' Z ∧ PstS K W cv F H' Z (forL (fun d e => asg (.fz d) e) body (items.drop (i + 1)) e) D, fun σ' H' q => ⟨items.length - (i + 1), by omega, rfl, q.1, q.2⟩, fun x H2 hy => ?_⟩
    have hd : items[i]? = some items[i] := List.getElem?_eq_getElem hlt
    have nw := wk.yld i Hi Zi x H2 items[i] li hd hy
    obtain ⟨Z2, R2, k2, q2⟩ := new_ok Ri nw
    rw [List.drop_eq_getElem_cons hlt] at pi
    replace pi : PstS K W cv F Hi Zi ((asg (.fz items[i]) ei).bind fun _ e => (body e).bind fun f e => match f with
      | .nx => forL (fun d e => asg (.fz d) e) body (items.drop (i + 1)) e
      | .ct => forL (fun d e => asg (.fz d) e) body (items.drop (i + 1)) e
      | .bk => .ok .nx e
      | .rt v => .ok (.rt v) e) D := pi
    have np : ∀ a, Pf x (.fz items[i]) a → Z2 a := fun a ⟨d, q, _⟩ => by cases q
    have l12 := k2.le Ri
    refine ⟨F, ei, Z2, .fz items[i], R2, q2.1, (PstS.bindA R2 np (pi.le l12)).mono fun σ3 H3 ⟨e3, Z3, R3, l3, p3⟩ => ?_⟩
    have l13 := (li.trans l12).trans l3
    refine ⟨F, e3, Z3, R3, ?_⟩
    cases w : body e3 with
    | er => rw [w] at p3; exact p3
    | ex x e' => rw [w] at p3; exact p3
    | ok r e4 =>
      rw [w] at p3
      cases r with
      | nx => exact fun σ4 H4 Z4 R4 l4 => ⟨hlt, e4, Z4, R4, l13.trans l4, PstS.le (m := forL (fun d e => asg (.fz d) e) body (items.drop (i + 1)) e4) p3 l4⟩
      | ct => exact fun σ4 H4 Z4 R4 l4 => ⟨hlt, e4, Z4, R4, l13.trans l4, PstS.le (m := forL (fun d e => asg (.fz d) e) body (items.drop (i + 1)) e4) p3 l4⟩
      | bk => exact p3
      | rt r => exact p3
  · have e1 : i = items.length := by omega
    subst e1
    rw [List.drop_length] at pi
    exact .inl ⟨wk.stop Hi Zi li, pi σi Hi Zi Ri .refl⟩
theorem ps_forD {tg iter : Expr} {b : List Stmt} {pos : Pos} {S : List Nat} {fi : Ev → Rs (List D)} {asg : Rv → Ev → Rs Unit} {f : Ev → Rs Fl} (hp : PassesOwn (model X.prog X.w) X.A X.env X.xe) (hc : X.calm = true) (hi : PI X tg iter (tI K W cv fi)) (hg : PG X tg (tA K W cv S asg)) (hb : PSs X b (tS K W cv f))
    (hpl : isPl iter = true) : PS X (.For tg iter b [] pos) (tS K W cv fun e => (fi e).bind fun items e => forL (fun d e => asg (.fz d) e) f items e) := (ps_for hp hc hi hg hb (plSet hpl _)).imp fun D σ H w => for_red w
/-! ### several at once -/
abbrev rRs (K : PySem.W.Frag) : RelT (List Rv) (List V) := fun F σ Hs rs vs e H Z => RvAll K F e σ H Z vs rs ∧ ∀ a, PfA vs rs a → Hs a = none
abbrev tRs (K : PySem.W.Frag) (W : WX) (cv : Nat → Value) (f : Ev → Rs (List Rv)) : TA := tR K W cv (rRs K) f
theorem pfA_nil {a : Addr} : ¬ PfA [] [] a := fun ⟨i, v, r, h, _⟩ => by simp at h
theorem pa_R0 : PA X [] (tRs K W cv fun e => .ok [] e) := pa_nil.imp fun σ H Q ⟨F, e, Z, R, p⟩ => p [] H Z R .refl ⟨.nil, fun a h => (pfA_nil h).elim⟩
theorem RvAll.keep {F : Fr} {e e' : Ev} {σ : L2.St} {H H' : Hp} {Z Z' : Addr → Prop} (R : Rel K F e σ H Z) (k : Kp e σ H Z e' H' Z') : ∀ {vs : List V} {rs : List Rv}, RvAll K F e σ H Z vs rs → RvAll K F e' σ H' Z' vs rs
  | _, _, .nil => .nil
  | _, _, .cons q n t => .cons (q.keep R k) n (RvAll.keep R k t)
theorem RvAll.len {F : Fr} {e : Ev} {σ : L2.St} {H : Hp} {Z : Addr → Prop} : ∀ {vs : List V} {rs : List Rv}, RvAll K F e σ H Z vs rs → vs.length = rs.length
  | _, _, .nil => rfl
  | _, _, .cons _ _ t => congrArg Nat.succ t.len
theorem pa_R1 {a : Expr} {es : List Expr} {f : Ev → Rs Rv} {g : Ev → Rs (List Rv)} (hp : isPl a = true) (ha : PE X a (tE K W cv f)) (hr : PA X es (tRs K W cv g)) :
    PA X (a :: es) (tRs K W cv fun e => (f e).bind fun v e => (g e).bind fun ds e => .ok (v :: ds) e) := (pa_cons ha hr (star1 hp _ _)).imp fun σ H Q ⟨F, e, Z, R, p⟩ => by
  have tr : ∀ {e e1 : Ev} {H H1 : Hp} {Z Z1 : Addr → Prop}, Kp e σ H Z e1 H1 Z1 → ∀ a, H1 a = none → H a = none := fun {e e1 H H1 Z Z1} k a h => by
    cases w : H a with
    | none => rfl
    | some o => exact absurd h (k.th a (by rw [w]; simp))
  refine ⟨F, e, Z, R, ?_⟩
  replace p : Pst K W cv (rRs K) F σ e H Z ((f e).bind fun v e => (g e).bind fun ds e => .ok (v :: ds) e) Q := p
  cases w1 : f e with
  | er => rw [w1] at p; exact p
  | ex x e' => rw [w1] at p; exact p
  | ok r e1 =>
    rw [w1] at p
    intro x H1 Z1 R1 k1 q1
    refine ⟨F, e1, Z1, R1, ?_⟩
    replace p : Pst K W cv (rRs K) F σ e H Z ((g e1).bind fun ds e => .ok (r :: ds) e) Q := p
    cases w : g e1 with
    | er => rw [w] at p; exact p
    | ex x e' => rw [w] at p; exact fun H' Z' R' l => p H' Z' R' ((k1.le R).trans l)
    | ok rs e2 =>
      rw [w] at p
      intro ys H2 Z2 R2 k2 q2
      refine p (x :: ys) H2 Z2 R2 (k1.trans k2) ⟨.cons (q1.1.keep R1 k2) (fun a pa i w s h1 h2 h3 => R1.zs a (q1.1.pf a pa) (q2.2 a ⟨i, w, s, h1, h2, h3⟩)) q2.1, fun a pa => ?_⟩
      obtain ⟨i, v, s, h1, h2, h3⟩ := pa
      cases i with
      | zero =>
        simp at h1 h2
        subst h1 h2
        obtain ⟨d, h3, h4⟩ := h3
        exact q1.2 d a h3 h4
      | succ i => exact tr k1 a (q2.2 a ⟨i, v, s, by simpa using h1, by simpa using h2, h3⟩)
def parS (n : Nat) (f : Ev → Rs (List Rv)) (g : List Rv → Ev → Rs Unit) : Ev → Rs Fl := fun e => (f e).bind fun rs e => if rs.length = n ∧ n ≤ 1000 then (g rs e).bind fun _ e => .ok .nx e else .er
/-- through a tuple -/
theorem ps_parT {ts es : List Expr} {k k2 : Nat} {pt pt2 pos : Pos} {n : Nat} {S : List Nat} {f : Ev → Rs (List Rv)} {g : List Rv → Ev → Rs Unit} (hc : X.calm = true) (he : PA X es (tRs X.K W cv f)) (hg : PGs X ts (tAs X.K W cv S g))
    (hn : (assignEach ts X.env).length = n) (hst : (assignEach ts X.env).findIdx? (·.1) = none) (hw : swappedStores [.Tuple ts k pt] (.Tuple es k2 pt2) X.env = pure none) :
    PS X (.Assign [.Tuple ts k pt] (.Tuple es k2 pt2) pos) (tS X.K W cv (parS n f g)) := (ps_asg (pe_tup he) (pg_tup hc hg hn hst) rfl hw rfl).imp fun D σ H ⟨F, e, Z, R, p⟩ => by
  refine ⟨F, e, Z, R, (PstS.bindE (R1 := rRs X.K) R p).mono fun vs H1 ⟨rs, e1, Z1, R1, q1, l1, p1⟩ => ?_⟩
  have hl := q1.1.len
  split at p1
  · rename_i hz
    refine ⟨by rw [hl, hz.1]; exact Nat.le_trans hz.2 (by decide), fun a ha => ?_⟩
    obtain ⟨R2, k2⟩ := R1.grow (H' := upd H1 a (.tup vs)) (Z' := Z1) (sub_upd ha) (fun _ z => z) fun _ z => .inl z
    have q2 := q1.1.keep R1 k2
    refine ⟨a, vs, rfl, SqT.of upd_same, hl.trans hz.1, F, e1, Z1, rs, R2, q2, (PstS.bindA R2 q2.pf (p1.le (k2.le R1))).mono fun σ3 H3 ⟨e3, Z3, R3, l3, p3⟩ => p3 σ3 H3 Z3 R3 .refl⟩
  · exact p1.elim
/-- two names, three names: stored from the right -/
theorem ps_par2D {i j : Nat} {x y : Str} {a b : Expr} {px py pt pos : Pos} {kt k2 pt2} {f : Ev → Rs (List Rv)} (hc : X.calm = true) (hN : X.N.Nodup) (hi : X.N[i]? = some x) (hj : X.N[j]? = some y) (hij : i ≠ j)
    (hx : X.env.scope.names.lookup x = some .local) (hy : X.env.scope.names.lookup y = some .local) (ha : PA X [a, b] (tRs K W cv f))
    (hw : swappedStores [.Tuple [.Name x px, .Name y py] kt pt] (.Tuple [a, b] k2 pt2) X.env = pure (some [x, y])) :
    PS X (.Assign [.Tuple [.Name x px, .Name y py] kt pt] (.Tuple [a, b] k2 pt2) pos) (tS K W cv (parS 2 f fun rs e => match rs with | [r, s] => (store i r.sl e).bind fun _ e => store j s.sl e | _ => .er)) :=
  (ps_par hc hN hi hj hij hx hy ha hw rfl).imp fun D σ H ⟨F, e, Z, R, p⟩ => by
  refine ⟨F, e, Z, R, (PstS.bindE (R1 := rRs K) R p).mono fun vs H1 ⟨rs, e1, Z1, R1, q1, l1, p1⟩ => ?_⟩
  have hl := q1.1.len
  split at p1
  · obtain ⟨q1, _⟩ := q1
    cases q1 with
    | nil => exact p1.elim
    | @cons v vs r rs q1 n1 q1r =>
      cases q1r with
      | nil => exact p1.elim
      | @cons v2 vs r2 rs q2 n2 q2r =>
        cases q2r with
        | cons _ _ _ => exact p1.elim
        | nil =>
          refine ⟨v, v2, rfl, ?_⟩
          replace p1 : PstS K W cv F H1 Z1 (((store i r.sl e1).bind fun _ e => store j r2.sl e).bind fun _ e => .ok .nx e) D := p1
          cases w : store i r.sl e1 with
          | er => rw [w] at p1; exact p1.elim
          | ex x e' => unfold store at w; split at w <;> cases w
          | ok u e2 =>
            rw [w] at p1
            obtain ⟨R2, k2⟩ := R1.store q1 w
            replace p1 : PstS K W cv F H1 Z1 ((store j r2.sl e2).bind fun _ e => .ok .nx e) D := p1
            cases w2 : store j r2.sl e2 with
            | er => rw [w2] at p1; exact p1.elim
            | ex x e' => unfold store at w2; split at w2 <;> cases w2
            | ok u2 e3 =>
              rw [w2] at p1
              have q2' := q2.keepA R1 q1.pf k2 fun a pa pb => n1 a pb 0 v2 r2 rfl rfl pa
              obtain ⟨R3, k3⟩ := R2.store q2' w2
              exact p1 _ H1 Z1 R3 .refl
  · exact p1.elim
theorem ps_par3D {i j l : Nat} {x y z : Str} {a b c : Expr} {px py pz pt pos : Pos} {kt k2 pt2} {f : Ev → Rs (List Rv)} (hc : X.calm = true) (hN : X.N.Nodup) (hi : X.N[i]? = some x) (hj : X.N[j]? = some y) (hl : X.N[l]? = some z) (hij : i ≠ j) (hil : i ≠ l) (hjl : j ≠ l)
    (hx : X.env.scope.names.lookup x = some .local) (hy : X.env.scope.names.lookup y = some .local) (hz : X.env.scope.names.lookup z = some .local) (ha : PA X [a, b, c] (tRs K W cv f))
    (hw : swappedStores [.Tuple [.Name x px, .Name y py, .Name z pz] kt pt] (.Tuple [a, b, c] k2 pt2) X.env = pure (some [x, y, z])) :
    PS X (.Assign [.Tuple [.Name x px, .Name y py, .Name z pz] kt pt] (.Tuple [a, b, c] k2 pt2) pos) (tS K W cv (parS 3 f fun rs e => match rs with | [r, s, t] => (store i r.sl e).bind fun _ e => (store j s.sl e).bind fun _ e => store l t.sl e | _ => .er)) :=
  (ps_par3 hc hN hi hj hl hij hil hjl hx hy hz ha hw rfl).imp fun D σ H ⟨F, e, Z, R, p⟩ => by
  refine ⟨F, e, Z, R, (PstS.bindE (R1 := rRs K) R p).mono fun vs H1 ⟨rs, e1, Z1, R1, q1, l1, p1⟩ => ?_⟩
  split at p1
  · obtain ⟨q1, _⟩ := q1
    cases q1 with
    | nil => exact p1.elim
    | @cons v vs r rs q1 n1 q1r =>
      cases q1r with
      | nil => exact p1.elim
      | @cons v2 vs r2 rs q2 n2 q2r =>
        cases q2r with
        | nil => exact p1.elim
        | @cons v3 vs r3 rs q3 n3 q3r =>
          cases q3r with
          | cons _ _ _ => exact p1.elim
          | nil =>
            refine ⟨v, v2, v3, rfl, ?_⟩
            replace p1 : PstS K W cv F H1 Z1 (((store i r.sl e1).bind fun _ e => (store j r2.sl e).bind fun _ e => store l r3.sl e).bind fun _ e => .ok .nx e) D := p1
            cases w : store i r.sl e1 with
            | er => rw [w] at p1; exact p1.elim
            | ex x e' => unfold store at w; split at w <;> cases w
            | ok u e2 =>
              rw [w] at p1
              obtain ⟨R2, k2⟩ := R1.store q1 w
              replace p1 : PstS K W cv F H1 Z1 (((store j r2.sl e2).bind fun _ e => store l r3.sl e).bind fun _ e => .ok .nx e) D := p1
              cases w2 : store j r2.sl e2 with
              | er => rw [w2] at p1; exact p1.elim
              | ex x e' => unfold store at w2; split at w2 <;> cases w2
              | ok u2 e3 =>
                rw [w2] at p1
                have q2' := q2.keepA R1 q1.pf k2 fun a pa pb => n1 a pb 0 v2 r2 rfl rfl pa
                have q3' := q3.keepA R1 q1.pf k2 fun a pa pb => n1 a pb 1 v3 r3 rfl rfl pa
                obtain ⟨R3, k3⟩ := R2.store q2' w2
                have q3'' := q3'.keepA R2 q2'.pf k3 fun a pa pb => n2 a pb 0 v3 r3 rfl rfl pa
                replace p1 : PstS K W cv F H1 Z1 ((store l r3.sl e3).bind fun _ e => .ok .nx e) D := p1
                cases w3 : store l r3.sl e3 with
                | er => rw [w3] at p1; exact p1.elim
                | ex x e' => unfold store at w3; split at w3 <;> cases w3
                | ok u3 e4 =>
                  rw [w3] at p1
                  obtain ⟨R4, k4⟩ := R3.store q3'' w3
                  exact p1 _ H1 Z1 R4 .refl
  · exact p1.elim
/-! ### x += e, of ints -/
def augS (i : Nat) (o : Operator) (f : Ev → Rs Op) : Ev → Rs Fl := fun e => match look e i with
    | some (.int n) => (f e).bind fun y e => match y.get e with
      | some (.int m) => (match o with
        | .Add => (store i (.val (.int (n + m))) e).bind fun _ e => .ok .nx e
        | .Sub => (store i (.val (.int (n - m))) e).bind fun _ e => .ok .nx e
        | _ => .er)
      | _ => .er
    | _ => .er
theorem look_int {F : Fr} {e : Ev} {σ : L2.St} {H : Hp} {Z : Addr → Prop} {i : Nat} {n : Int} (R : Rel K F e σ H Z) (h : look e i = some (.int n)) : σ[i]? = some (some (.int n)) := by
  obtain ⟨v, hv⟩ := look_val R h
  have c := (OpRel.get (o := .pl i) R hv h).full
  cases c
  exact hv
theorem ps_augD {i : Nat} {o : Operator} {x : Str} {a : Expr} {p pos : Pos} {f : Ev → Rs Op} (ho : o = .Add ∨ o = .Sub) (hN : X.N.Nodup) (hi : X.N[i]? = some x) (hx : Loc X.env.scope x) (ha : PE X a (tO K W cv f)) (hf : X.fn x = true ∨ X.env.scope.names.lookup x = some .local) :
    PS X (.AugAssign (.Name x p) o a pos) (tS K W cv (augS i o f)) := by
  have key : ∀ (g : Int → Int → Int) (D : Ends) (σ : L2.St) (H : Hp), (∀ n m e, (match o with
        | .Add => (store i (.val (.int (n + m))) e).bind fun _ e => Rs.ok Fl.nx e
        | .Sub => (store i (.val (.int (n - m))) e).bind fun _ e => .ok .nx e
        | _ => .er) = (store i (.val (.int (g n m))) e).bind fun _ e => .ok .nx e) → tS K W cv (augS i o f) D σ H → tAug i (tO K W cv f) (rI0 fun i j => .int (g i j)) D σ H := by
    rintro g D σ H hg ⟨F, e, Z, R, p⟩
    unfold augS at p
    cases w : look e i with
    | none => rw [w] at p; exact p.elim
    | some d =>
      rw [w] at p
      cases d with
      | int n =>
        refine ⟨.int n, look_int R w, F, e, Z, R, (PstS.bindE (R1 := rO K) R p).mono fun y H1 ⟨op, e1, Z1, R1, q1, l1, p1⟩ => ?_⟩
        cases w2 : op.get e1 with
        | none => rw [w2] at p1; exact p1.elim
        | some d =>
          rw [w2] at p1
          cases d with
          | int m =>
            have c := (q1.get R1 w2).full
            cases c
            refine ⟨n, m, rfl, rfl, ?_⟩
            replace p1 : PstS K W cv F H1 Z1 ((store i (.val (.int (g n m))) e1).bind fun _ e => .ok .nx e) D := (hg n m e1) ▸ p1
            cases w3 : store i (.val (.int (g n m))) e1 with
            | er => rw [w3] at p1; exact p1.elim
            | ex x e' => unfold store at w3; split at w3 <;> cases w3
            | ok u e2 =>
              rw [w3] at p1
              obtain ⟨R2, k2⟩ := R1.store (v := .int (g n m)) (r := .fz (.int (g n m))) (.int _) w3
              exact p1 _ H1 Z1 R2 .refl
          | _ => exact p1.elim
      | _ => exact p.elim
  rcases ho with rfl | rfl
  · exact (ps_aug hN hi hx ha (fun pins s σ H x y v u Q I r1 r2 h => iop_add pins s σ H x y v u Q I r1 r2 h) hf).imp fun D σ H w => key (fun i j => i + j) D σ H (fun _ _ _ => rfl) w
  · exact (ps_aug hN hi hx ha (fun pins s σ H x y v u Q I r1 r2 h => iop_sub pins s σ H x y v u Q I r1 r2 h) hf).imp fun D σ H w => key (fun i j => i - j) D σ H (fun _ _ _ => rfl) w
end
end Cr
set_option Elab.async false
set_option linter.all false
set_option maxRecDepth 100000
set_option maxHeartbeats 4000000
namespace Cr
open PySem PySem.Spec PyProof.Rows L2
def permV {α : Type} : List Nat → List α → List α
  | [], _ => []
  | i :: r, vs => match vs[i]? with | some v => v :: permV r vs | none => permV r vs
theorem permV_vals {vs : List V} {us : List Value} (r : Vals vs us) : ∀ perm : List Nat, Vals (permV perm vs) (permV perm us)
  | [] => .nil
  | i :: p => by
    unfold permV
    cases h : vs[i]? with
    | none =>
      have h2 : us[i]? = none := by
        rw [List.getElem?_eq_none_iff] at h ⊢
        rw [← r.length]; exact h
      rw [h2]
      exact permV_vals r p
    | some v =>
      obtain ⟨u, hu, ru⟩ := r.get h
      rw [hu]
      exact .cons ru (permV_vals r p)
section
variable {X : Cx} {K : PySem.W.Frag} {W : WX} {cv : Nat → Value}
theorem permS_cons {i : Nat} {r : List Nat} {ss ps : List Sl} (h : permS (i :: r) ss = some ps) : ∃ s rest, ss[i]? = some s ∧ permS r ss = some rest ∧ ps = s :: rest := by
  unfold permS at h
  rw [List.mapM_cons] at h
  cases w : ss[i]? with
  | none => rw [w] at h; cases h
  | some s =>
    rw [w] at h
    cases w2 : r.mapM fun i => ss[i]? with
    | none => simp only [w2] at h; cases h
    | some rest =>
      simp only [w2] at h
      cases h
      exact ⟨s, rest, rfl, w2, rfl⟩
/-- values alone, permuted -/
theorem perm_ok {vs : List V} {ss : List Sl} {H : Hp} {Z : Addr → Prop} (hl : ss.length = vs.length) (hv : ∀ (i : Nat) (s : Sl), ss[i]? = some s → ∃ d v, s = Sl.val d ∧ vs[i]? = some v ∧ Dv K (hid Z H) v d) :
    ∀ {perm : List Nat} {ps : List Sl}, permS perm ss = some ps → ps.length = (permV perm vs).length ∧ ∀ (i : Nat) (s : Sl), ps[i]? = some s → ∃ d v, s = Sl.val d ∧ (permV perm vs)[i]? = some v ∧ Dv K (hid Z H) v d
  | [], ps, h => by
    cases h
    exact ⟨rfl, fun i s g => by simp at g⟩
  | k :: r, ps, h => by
    obtain ⟨s, rest, h1, h2, rfl⟩ := permS_cons h
    obtain ⟨d, v, e1, e2, e3⟩ := hv k s h1
    obtain ⟨l, q⟩ := perm_ok hl hv h2
    unfold permV
    rw [e2]
    refine ⟨congrArg Nat.succ l, fun i t g => ?_⟩
    cases i with
    | zero => simp at g; subst g; exact ⟨d, v, e1, by simp, e3⟩
    | succ i =>
      obtain ⟨d', v', q1, q2, q3⟩ := q i t (by simpa using g)
      exact ⟨d', v', q1, by simpa using q2, q3⟩
theorem lends_none {e : Ev} {os : List Op} {ss : List Sl} (h : argsS os e = some ss) (hn : lends os e = []) : ∀ (i : Nat) (s : Sl), ss[i]? = some s → ∃ d, s = Sl.val d := by
  intro i s g
  obtain ⟨o, e1, e2⟩ := argsS_get h g
  cases o with
  | vl d => cases e2; exact ⟨_, rfl⟩
  | pl j =>
    have e2' : (match e[j]? with | some (.mu _ d) => some (.mu true d) | some (.val d) => some (.val d) | some (.frz d) => some (.val d) | _ => none) = some s := e2
    cases w : e[j]? with
    | none => rw [w] at e2'; cases e2'
    | some t =>
      rw [w] at e2'
      cases t with
      | un => cases e2'
      | val d => cases e2'; exact ⟨_, rfl⟩
      | frz d => cases e2'; exact ⟨_, rfl⟩
      | mu b d =>
        have := lends_mem e1 w
        rw [hn] at this
        cases this
theorem call_redK {f : Nat} {perm : List Nat} {cf : Nat → List Sl → Cr.CR} {F : Fr} {e : Ev} {σ : L2.St} {H : Hp} {Z : Addr → Prop} {vs : List V} {os : List Op} {Q : VK} (hp : perm ≠ []) (R : Rel K F e σ H Z) (q : OpAll K σ H Z vs os) (p : Pst K W cv (rE K) F σ e H Z (callR cf f perm os e) Q) : spC K cv (cf f) (permV perm vs) H Q (WE W σ) := by
  unfold callR at p
  cases h : argsS os e with
  | none => rw [h] at p; exact p.elim
  | some ss =>
    rw [h] at p
    by_cases nd : (lends os e).Nodup
    · simp only [nd, if_true, hp, if_false] at p
      by_cases ln : lends os e = []
      · simp only [ln, if_true] at p
        cases g : permS perm ss with
        | none => simp only [g] at p; exact p.elim
        | some as =>
          simp only [g] at p
          have A := args_ok R q h nd
          have hv := lends_none h ln
          have la0 : ∀ i, laOf os e σ i = none := fun i => by
            cases w : laOf os e σ i with
            | none => rfl
            | some a =>
              obtain ⟨b, d, w1⟩ := A.lam i a w
              obtain ⟨d', w2⟩ := hv i _ w1
              cases w2
          obtain ⟨hl, hq⟩ := perm_ok (vs := vs) A.len (fun i s g => by
            obtain ⟨d, rfl⟩ := hv i s g
            obtain ⟨v, e1, e2⟩ := A.val i d g
            exact ⟨d, v, rfl, e1, e2⟩) g
          refine ⟨as, Z, fun _ => none, ⟨hl, fun i d g => ?_, fun i b d g => ?_, fun i s g => ?_, (fun i a w => by cases w), (fun i j a w => by cases w), R.zs⟩, ?_⟩
          · obtain ⟨d', v, e1, e2, e3⟩ := hq i _ g
            cases e1
            exact ⟨v, e2, e3⟩
          · obtain ⟨d', v, e1, e2, e3⟩ := hq i _ g
            cases e1
          · obtain ⟨d', v, e1, e2, e3⟩ := hq i _ g
            exact .inl ⟨d', e1⟩
          · -- behind the call nothing of the frame's own changed
            have keepB : ∀ {o H' Z'}, Bk K (fun _ => none) o H Z H' Z' → Rel K F e σ H' Z' ∧ Kp e σ H Z e H' Z' := fun {o H' Z'} b => by
              have hs : Sub H H' := fun a u w => b.fr a u w fun i => by simp
              refine R.grow hs (fun a z => b.kz a z fun i => by simp) fun a z => ?_
              rcases b.zn a z with w | w
              · exact .inl w
              · exact .inr ⟨w, b.zs a z⟩
            cases g2 : cf f as with
            | er => simp only [g2] at p; exact p.elim
            | exc x o =>
              simp only [g2] at p
              intro H' Z' b
              obtain ⟨R', k⟩ := keepB b
              exact p H' Z' R' (k.le R)
            | ret r o =>
              simp only [g2] at p
              intro v H' Z' b rv
              obtain ⟨R', k⟩ := keepB b
              refine p v H' Z' R' k ?_
              cases r with
              | fz d => exact ⟨rv, fun d a e1 => by cases e1⟩
              | fr d =>
                obtain ⟨a, rfl, z, c, hnew⟩ := rv
                refine ⟨⟨a, rfl, z, c, fun m => R.zs a (R.mutZ m) hnew, ?_⟩, fun d' a' _ e2 => by cases e2; exact hnew⟩
                cases q2 : F.H0 a with
                | none => rfl
                | some u => exact absurd hnew (R.th a (by rw [q2]; simp))
      · simp only [ln, if_false] at p
        exact p.elim
    · simp only [nd, if_false] at p
      exact p.elim
/-! ### keywords -/
/-- how keywords bind -/
def KwB (K : PySem.W.Frag) (fd : FuncData) (ps : List Str) (n : Nat) (ks : List Str) (perm : List Nat) : Prop := ∀ (s : Shared) (us ws : List Value), K.In s.heap → us.length = n → ws.length = ks.length → BindsTo s fd ⟨us, ks.zip ws⟩ (ps.zip (permV perm (us ++ ws)))
def kwE : List Keyword → List Expr
  | [] => []
  | ⟨_, v, _⟩ :: r => v :: kwE r
def kwN : List Keyword → Option (List Str)
  | [] => some []
  | ⟨some n, _, _⟩ :: r => (kwN r).map (n :: ·)
  | ⟨none, _, _⟩ :: _ => none
theorem kwAll {env : Env} {pos : Pos} : ∀ {kws : List Keyword} {ks : List Str}, kwN kws = some ks → (backToKw pos (keywordEach kws env)).all (·.1.isSome) = true ∧ (backToKw pos (keywordEach kws env)).filterMap (·.1) = ks ∧ (backToKw pos (keywordEach kws env)).any (·.1.isNone) = false ∧ ks.length = kws.length := by
  intro kws
  have key : ∀ (b : List (Option Str × Sem Value)), (backToKw pos b).map (·.1) = b.map (·.1) := fun b => by
    unfold backToKw
    rw [List.map_map]
    rfl
  have k2 : ∀ {ks : List Str}, kwN kws = some ks → (keywordEach kws env).map (·.1) = ks.map some ∧ ks.length = kws.length := by
    induction kws with
    | nil => intro ks h; cases h; exact ⟨rfl, rfl⟩
    | cons k r ih =>
      obtain ⟨n, v, p⟩ := k
      intro ks h
      cases n with
      | none => cases h
      | some n =>
        have h' : (kwN r).map (n :: ·) = some ks := h
        cases w : kwN r with
        | none => rw [w] at h'; cases h'
        | some l =>
          rw [w] at h'
          cases h'
          obtain ⟨q1, q2⟩ := ih w
          exact ⟨by show some n :: (keywordEach r env).map (·.1) = _; rw [q1]; rfl, congrArg Nat.succ q2⟩
  intro ks h
  obtain ⟨q1, q2⟩ := k2 h
  have q3 := (key (keywordEach kws env)).trans q1
  refine ⟨?_, ?_, ?_, q2⟩
  · have : (backToKw pos (keywordEach kws env)).all (·.1.isSome) = ((backToKw pos (keywordEach kws env)).map (·.1)).all (·.isSome) := by rw [List.all_map]; rfl
    rw [this, q3]
    simp
  · have : (backToKw pos (keywordEach kws env)).filterMap (·.1) = ((backToKw pos (keywordEach kws env)).map (·.1)).filterMap id := by rw [List.filterMap_map]; rfl
    rw [this, q3]
    simp
  · have : (backToKw pos (keywordEach kws env)).any (·.1.isNone) = ((backToKw pos (keywordEach kws env)).map (·.1)).any (·.isNone) := by rw [List.any_map]; rfl
    rw [this, q3]
    simp
theorem pk_O0 : PK X [] (tOs K W cv fun e => .ok [] e) := ⟨fun pos pins s σ H Q I ⟨F, e, Z, R, p⟩ => pk_nil.run pos pins s σ H Q I (p [] H Z R .refl .nil)⟩
theorem pk_O1 {n : Option Str} {a : Expr} {p0 : Pos} {kws : List Keyword} {f : Ev → Rs Op} {g : Ev → Rs (List Op)} (ha : PE X a (tO K W cv f)) (hr : PK X kws (tOs K W cv g)) :
    PK X (⟨n, a, p0⟩ :: kws) (tOs K W cv fun e => (f e).bind fun v e => (g e).bind fun ds e => .ok (v :: ds) e) := ⟨fun pos pins s σ H Q I ⟨F, e, Z, R, p⟩ => (pk_cons ha hr).run pos pins s σ H Q I (by
  refine ⟨F, e, Z, R, (Pst.bind (R1 := rO K) (R2 := rOs K) (fun _ _ _ _ _ _ _ _ _ _ k _ q => q) R p).mono fun x H1 ⟨d, e1, Z1, R1, k1, q1, p1⟩ => ?_⟩
  refine ⟨F, e1, Z1, R1, (p1.bind (R1 := rOs K) (fun _ _ _ _ _ _ _ _ _ _ k _ q => q) R1).mono fun y H2 ⟨ds, e2, Z2, R2, k2, q2, p2⟩ => ?_⟩
  exact p2 (x :: y) H2 Z2 R2 .refl (.cons (q1.keep R1 k2) q2))⟩
theorem OpAll.app {σ : L2.St} {H : Hp} {Z : Addr → Prop} : ∀ {vs ws : List V} {os ps : List Op}, OpAll K σ H Z vs os → OpAll K σ H Z ws ps → OpAll K σ H Z (vs ++ ws) (os ++ ps)
  | _, _, _, _, .nil, k => k
  | _, _, _, _, .cons a r, k => .cons a (r.app k)
def callkR (cf : Nat → List Sl → Cr.CR) (f : Nat) (perm : List Nat) (n m : Nat) (g h : Ev → Rs (List Op)) : Ev → Rs Rv := fun e => (g e).bind fun o1 e => (h e).bind fun o2 e => if o1.length = n ∧ o2.length = m then callR cf f perm (o1 ++ o2) e else .er
theorem callk_red {n m f : Nat} {perm : List Nat} {cf : Nat → List Sl → Cr.CR} {g h : Ev → Rs (List Op)} {σ : L2.St} {H : Hp} {Q : VK} (hp : perm ≠ []) (w : tE K W cv (callkR cf f perm n m g h) σ H Q) :
    tOs K W cv g σ H fun vs H1 => tOs K W cv h σ H1 fun zs H2 => vs.length = n ∧ zs.length = m ∧ spC K cv (cf f) (permV perm (vs ++ zs)) H2 Q (WE W σ) := by
  obtain ⟨F, e, Z, R, p⟩ := w
  refine ⟨F, e, Z, R, (Pst.bind (R1 := rOs K) (R2 := rE K) (fun _ _ _ _ _ _ _ _ _ _ k _ q => trE k q) R p).mono fun xs H1 ⟨os, e1, Z1, R1, k1, q1, p1⟩ => ?_⟩
  refine ⟨F, e1, Z1, R1, (Pst.bind (R1 := rOs K) (R2 := rE K) (fun _ _ _ _ _ _ _ _ _ _ k _ q => trE k q) R1 p1).mono fun zs H2 ⟨os2, e2, Z2, R2, k2, q2, p2⟩ => ?_⟩
  split at p2
  · rename_i hl
    exact ⟨q1.len.symm.trans hl.1, q2.len.symm.trans hl.2, call_redK hp R2 ((q1.keep R1 k2).app q2) p2⟩
  · exact p2.elim
theorem pe_callkD {k f : Nat} {cf : Nat → List Sl → Cr.CR} {fa : Addr} {fd : FuncData} {ps ks : List Str} {x : Str} {p pos : Pos} {e : Expr} {es : List Expr} {kws : List Keyword} {perm : List Nat} {g h : Ev → Rs (List Op)} (F : FnG X.prog X.w X.K X.mg X.base k fa fd ps (spC K cv (cf f))) (hr : Room k X.A) (hgd : X.A.guards = some []) (hg : Gl X x) (hm : X.mg x = some (.ref fa)) (hk : PySem.W.keepIn X.K (.ref fa) = true)
    (hb : KwB X.K fd ps (e :: es).length ks perm) (tk : Takes X W) (ha : PA X (e :: es) (tOs K W cv g)) (hkw : PK X kws (tOs K W cv h)) (hks : kwN kws = some ks) (hp : perm ≠ []) (hdb : (x == ("__debug__" : Str)) = false) (hpl : (e :: es).all isPl = true) : PE X (.Call (.Name x p) (e :: es) kws pos) (tE K W cv (callkR cf f perm (e :: es).length kws.length g h)) := by
  obtain ⟨a1, a2, a3, a4⟩ := kwAll (env := X.env) (pos := pos) hks
  refine ⟨fun pins s σ H Q I w => ?_⟩
  refine wpAny_Call_Name_kw (ld_glob I hg hm ?_ hdb)
  have go : ∀ (us ws : List Value) (s2 : Shared) (vs zs : List V) (H2 : Hp), Inv X pins σ H2 s2 → Vals vs us → Vals zs ws → vs.length = (e :: es).length → zs.length = kws.length → spC K cv (cf f) (permV perm (vs ++ zs)) H2 Q (WE W σ) → wpAny (model X.prog X.w) X.A (call (.ref fa) us (ks.zip ws)) (EP X pins σ Q) X.xe s2 := fun us ws s2 vs zs H2 I2 r rz l1 l2 q =>
    run_G (args := ⟨us, ks.zip ws⟩) (us := permV perm (us ++ ws)) (E := WE W) F hr hgd (hb s2 us ws I2.kIn (r.length.symm.trans l1) (rz.length.symm.trans (l2.trans a4.symm))) (passAt tk σ) I2 (permV_vals (r.append rz) perm) q
  have hpl' : isPl e = true ∧ es.all isPl = true := by rw [List.all_cons, Bool.and_eq_true] at hpl; exact hpl
  refine PySem.W.callWith_KW (h₀ := X.base) I.ok.mod.kin hk a1 (thn (ha.run pos pins s σ H _ I (callk_red hp w)) fun us s1 ⟨vs, H1, I1, r, q⟩ => ?_) (by
    rw [a3, Bool.or_false]
    exact backTo_any _ _ (starAll _ _ hpl)) (star1 hpl'.1 _ _)
  refine thn (hkw.run pos pins s1 σ H1 _ I1 q) fun ws s2 ⟨zs, H2, I2, rz, l1, l2, q2⟩ => ⟨I2.kIn, ?_⟩
  rw [a2]
  exact go us ws s2 vs zs H2 I2 r rz l1 l2 q2
theorem pe_callkD0 {k f : Nat} {cf : Nat → List Sl → Cr.CR} {fa : Addr} {fd : FuncData} {ps ks : List Str} {x : Str} {p pos : Pos} {kws : List Keyword} {perm : List Nat} {h : Ev → Rs (List Op)} (F : FnG X.prog X.w X.K X.mg X.base k fa fd ps (spC K cv (cf f))) (hr : Room k X.A) (hgd : X.A.guards = some []) (hg : Gl X x) (hm : X.mg x = some (.ref fa)) (hk : PySem.W.keepIn X.K (.ref fa) = true)
    (hb : KwB X.K fd ps 0 ks perm) (tk : Takes X W) (hkw : PK X kws (tOs K W cv h)) (hks : kwN kws = some ks) (hp : perm ≠ []) (hdb : (x == ("__debug__" : Str)) = false) : PE X (.Call (.Name x p) [] kws pos) (tE K W cv (callkR cf f perm 0 kws.length (fun e => .ok [] e) h)) := by
  obtain ⟨a1, a2, a3, a4⟩ := kwAll (env := X.env) (pos := pos) hks
  refine ⟨fun pins s σ H Q I w => ?_⟩
  refine wpAny_Call_Name_kw (ld_glob I hg hm ?_ hdb)
  have go : ∀ (us ws : List Value) (s2 : Shared) (vs zs : List V) (H2 : Hp), Inv X pins σ H2 s2 → Vals vs us → Vals zs ws → vs.length = 0 → zs.length = kws.length → spC K cv (cf f) (permV perm (vs ++ zs)) H2 Q (WE W σ) → wpAny (model X.prog X.w) X.A (call (.ref fa) us (ks.zip ws)) (EP X pins σ Q) X.xe s2 := fun us ws s2 vs zs H2 I2 r rz l1 l2 q =>
    run_G (args := ⟨us, ks.zip ws⟩) (us := permV perm (us ++ ws)) (E := WE W) F hr hgd (hb s2 us ws I2.kIn (r.length.symm.trans l1) (rz.length.symm.trans (l2.trans a4.symm))) (passAt tk σ) I2 (permV_vals (r.append rz) perm) q
  refine PySem.W.callWith_KW0 (h₀ := X.base) I.ok.mod.kin hk a1 ?_ (by rw [a3]; rfl)
  obtain ⟨F0, e0, Z0, R0, p0⟩ := callk_red hp w
  refine thn (hkw.run pos pins s σ H _ I (p0 [] H Z0 R0 .refl .nil)) fun ws s2 ⟨zs, H2, I2, rz, l1, l2, q2⟩ => ⟨I2.kIn, ?_⟩
  rw [a2]
  exact go [] ws s2 [] zs H2 I2 .nil rz l1 l2 q2
end
end Cr
set_option Elab.async false
set_option linter.all false
set_option maxRecDepth 100000
set_option maxHeartbeats 4000000
namespace Cr
open PySem PySem.Spec PyProof.Rows L2
/-! ### from the text to the core -/
structure Cc where
  N : List Str
  sc : Scope
  raw : Scope
  fns : List (Str × Nat)
  kw : List (Str × Nat × List Str × List Nat)
  cst : List (Str × D)
  bl : List Str
  exs : List (Str × Nat)
  c1 : List Str
def ixOf : List Str → Str → Option Nat
  | [], _ => none
  | y :: r, x => if y = x then some 0 else (ixOf r x).map (· + 1)
def okN (x : Str) : Bool := !(x == ("__debug__" : Str)) && !(x == ("__classdict__" : Str)) && decide (x ≠ ("__name__" : Str))
def Cc.vis (c : Cc) (x : Str) : Bool := (match c.sc.names.lookup x with | some .local => true | some .cell => true | some .free => true | _ => false) && okN x
def Cc.gl (c : Cc) (x : Str) : Bool := (match c.sc.names.lookup x with | some .globalImplicit => true | _ => false) && okN x
def Cc.sto (c : Cc) (x : Str) : Bool := (match c.raw.names.lookup x with | some .local => true | some .cell => true | _ => false) && okN x
def Cc.loc (c : Cc) (x : Str) : Bool := (match c.sc.names.lookup x with | some .local => true | _ => false)
/-- a free built-in name -/
def Cc.bi (c : Cc) (x : Str) : Bool := c.gl x && decide (x ∈ c.bl)
def bltTab : List (Str × Nat × Bt) := [("len", 1, .len), ("sum", 1, .sum), ("min", 1, .min), ("max", 1, .max), ("min", 2, .min2), ("max", 2, .max2), ("all", 1, .all), ("any", 1, .any), ("tuple", 1, .tuple), ("list", 1, .list), ("int", 1, .int), ("abs", 1, .abs), ("repr", 1, .repr), ("sorted", 1, .sorted)]
def bltOf (x : Str) (n : Nat) : Option Bt := (bltTab.find? fun p => decide (p.1 = x) && decide (p.2.1 = n)).map (·.2.2)
def tyTab : List (Str × Ty) := [("int", .int), ("bool", .bool), ("str", .str), ("tuple", .tuple), ("list", .list)]
def tyOf (x : Str) : Option Ty := (tyTab.find? fun p => decide (p.1 = x)).map (·.2)
def mmTab : List (Str × Nat × Mm) := [("append", 1, .append), ("extend", 1, .extend), ("pop", 0, .pop), ("pop", 1, .popAt), ("reverse", 0, .reverse)]
def mmOf (x : Str) (n : Nat) : Option Mm := (mmTab.find? fun p => decide (p.1 = x) && decide (p.2.1 = n)).map (·.2.2)
def binOk : Operator → Bool
  | .Add => true | .Sub => true | .Mult => true | .FloorDiv => true | .Mod => true | .Pow => true
  | _ => false
def tOk : Expr → Bool
  | .IfExp _ _ _ _ => false
  | _ => true
def isTupE : Expr → Bool
  | .Tuple _ _ _ => true
  | _ => false
def mapL {α β : Type} (f : α → Option β) : List α → Option (List β)
  | [] => some []
  | a :: r => match f a with
    | some b => (match mapL f r with | some l => some (b :: l) | none => none)
    | none => none
mutual
def tgs : Tg → List Nat
  | .name i => [i]
  | .tup ts => tgsL ts
  | .sub _ _ => []
def tgsL : List Tg → List Nat
  | [] => []
  | t :: r => tgs t ++ tgsL r
end
def ownOf (N : List Str) (scope : Scope) : List (Str × Nat) := scope.names.filterMap fun p => match p.2 with
  | .local => (ixOf N p.1).map fun i => (p.1, i)
  | .cell => (ixOf N p.1).map fun i => (p.1, i)
  | _ => none
section
variable (rec : Cc → Expr → Option CE)
def cT (c : Cc) : Nat → Expr → Option Tg
  | 0, _ => none
  | n + 1, e => match e with
    | .Name x _ => if c.sto x = true then (ixOf c.N x).map .name else none
    | .Tuple es _ _ => (mapL (cT c n) es).map .tup
    | .Subscript (.Name x _) i _ => if c.vis x = true ∧ isPl i = true then (match ixOf c.N x, rec c i with
      | some k, some ce => some (.sub k ce)
      | _, _ => none) else none
    | _ => none
/-- and, or -/
def boE (op : BoolOp) (x y : CE) : CE :=
  match op with
  | .And => .and_ x y
  | .Or => .or_ x y
def cB (c : Cc) (op : BoolOp) : List Expr → Option CE
  | [] => none
  | [a] => if tOk a = true then rec c a else none
  | a :: r => if tOk a = true then (match rec c a, cB c op r with
    | some x, some y => some (boE op x y)
    | _, _ => none) else none
def cIo (c : Cc) (e : Expr) : Option It := if isPl e = true then (rec c e).map .over else none
def cI (c : Cc) (tg : Expr) (e : Expr) : Option It :=
  match e with
  | .Call (.Name x _) [a] [] _ =>
    if x = ("range" : Str) then (if c.bi x = true ∧ isPl a = true then (rec c a).map .range1 else none)
    else if x = ("enumerate" : Str) then (if c.bi x = true ∧ isPl a = true ∧ isTupE tg = true then (rec c a).map .enum else none)
    else cIo rec c e
  | .Call (.Name x _) [a, b] [] _ =>
    if x = ("range" : Str) then (if c.bi x = true ∧ isPl a = true ∧ isPl b = true then (match rec c a, rec c b with
      | some p, some q => some (.range2 p q)
      | _, _ => none) else none)
    else if x = ("zip" : Str) then (if c.bi x = true ∧ isPl a = true ∧ isPl b = true ∧ isTupE tg = true then (match rec c a, rec c b with
      | some p, some q => some (.zip p q)
      | _, _ => none) else none)
    else cIo rec c e
  | e => cIo rec c e
def cCall (c : Cc) (x : Str) (es : List Expr) (kws : List Keyword) : Option CE :=
  match kws with
  | [] =>
    if c.gl x = true ∧ es.all isPl = true then (match c.fns.lookup x with
      | some f => (mapL (rec c) es).map (.call f)
      | none => if x ∈ c.bl then (match es with
        | [a, .Name t _] => if x = ("isinstance" : Str) then (if c.bi t = true then (match rec c a, tyOf t with
            | some p, some ty => some (.isi p ty)
            | _, _ => none) else none)
          else (match bltOf x 2, mapL (rec c) es with
            | some f, some l => some (.blt f l)
            | _, _ => none)
        | [] => none
        | es => match bltOf x es.length, mapL (rec c) es with
          | some f, some l => some (.blt f l)
          | _, _ => none) else none)
    else none
  | kws => if c.gl x = true ∧ es.all isPl = true then (match c.fns.lookup x, kwN kws with
      | some f, some ks => (match c.kw.find? fun p => decide (p.1 = x) && decide (p.2.1 = es.length) && decide (p.2.2.1 = ks) with
        | some p => if p.2.2.2 = [] then none else (match mapL (rec c) es, mapL (rec c) (kwE kws) with
          | some l, some m => some (.callk f p.2.2.2 l m)
          | _, _ => none)
        | none => none)
      | _, _ => none) else none
def isNm : Expr → Bool
  | .Name _ _ => true
  | _ => false
/-- tuple(range(..)), list(range(..)) -/
def rgOf (x : Str) (n : Nat) : Option Bt :=
  if x = ("list" : Str) then (if n = 1 then some .listRange1 else if n = 2 then some .listRange2 else none)
  else if x = ("tuple" : Str) then (if n = 1 then some .tupRange1 else if n = 2 then some .tupRange2 else none) else none
def cRg (c : Cc) (x : Str) (es : List Expr) (kws : List Keyword) : Option CE :=
  match kws, es with
  | [], [.Call (.Name y _) as [] _] => if c.bi x = true ∧ c.bi y = true ∧ y = ("range" : Str) ∧ as.all isPl = true then (match rgOf x as.length, mapL (rec c) as with
      | some f, some l => some (.blt f l)
      | _, _ => none) else none
  | _, _ => none
/-- a call with a new list that the def may change -/
def cC1 (c : Cc) (x : Str) (es : List Expr) (kws : List Keyword) : Option CE :=
  match kws, es with
  | [], [a] => if c.gl x = true ∧ x ∈ c.c1 ∧ isNm a = false ∧ isPl a = true then (match c.fns.lookup x, rec c a with
      | some f, some ce => some (.call1 f ce)
      | _, _ => none) else none
  | _, _ => none
def cCa (c : Cc) (x : Str) (es : List Expr) (kws : List Keyword) : Option CE :=
  match cRg rec c x es kws with
  | some e => some e
  | none => match cC1 rec c x es kws with
    | some e => some e
    | none => cCall rec c x es kws
def vmTab : List (Str × Vm) := [("index", .index), ("count", .count)]
def vmOf (x : Str) : Option Vm := (vmTab.find? fun p => decide (p.1 = x)).map (·.2)
/-- a method that looks -/
def cVm (c : Cc) (o : Expr) (m : Str) (ap : Pos) (es : List Expr) (pos : Pos) : Option CE :=
  match o with
  | .Call _ [] _ _ => none
  | o => (match es with
    | [e] => if isPl e = true ∧ ap.endLine = pos.line then (match vmOf m, rec c o, rec c e with
      | some v, some a, some b => some (.vm v a [b])
      | _, _, _ => none) else none
    | _ => none)
def cMm (c : Cc) (o : Expr) (m : Str) (ap : Pos) (es : List Expr) (pos : Pos) : Option CE :=
  match o with
  | .Name x _ => if c.vis x = true ∧ es.all isPl = true ∧ es.length < 30 ∧ ap.endLine = pos.line then (match ixOf c.N x, mmOf m es.length, mapL (rec c) es with
    | some i, some mm, some l => some (.mm mm i l)
    | _, _, _ => none) else none
  | _ => none
def cMeth (c : Cc) (o : Expr) (m : Str) (ap : Pos) (es : List Expr) (pos : Pos) : Option CE :=
  match cVm rec c o m ap es pos with
  | some e => some e
  | none => cMm rec c o m ap es pos
def cComp1 (c : Cc) (elt tg iter : Expr) (ifs : List Expr) (scope : Scope) : Option CE :=
    if blkC c.N c.sc scope (ownOf c.N scope) = true ∧ isPl iter = true then
      (match cI rec c tg iter, cT rec { c with sc := relS scope c.sc, raw := scope } 8 tg, rec { c with sc := relS scope c.sc, raw := scope } elt with
      | some it, some t, some f => if (tgs t).all (fun j => decide (j ∈ (ownOf c.N scope).map (·.2))) = true then (match ifs with
        | [] => some (.comp ((ownOf c.N scope).map (·.2)) t it none f)
        | [q] => if tOk q = true then (rec { c with sc := relS scope c.sc, raw := scope } q).map fun q => .comp ((ownOf c.N scope).map (·.2)) t it (some q) f else none
        | _ => none) else none
      | _, _, _ => none) else none
def cComp (c : Cc) (elt : Expr) (gens : List Comprehension) (scope : Scope) : Option CE :=
  match gens with
  | [⟨tg, iter, ifs, a⟩] => if a = 0 then cComp1 rec c elt tg iter ifs scope else none
  | _ => none
def stepE (c : Cc) (e : Expr) : Option CE :=
  match e with
  | .Constant (.int i) _ _ => some (.k (.int i))
  | .Constant (.bool b) _ _ => some (.k (.bool b))
  | .Constant .none _ _ => some (.k .none)
  | .Constant (.str s) _ _ => some (.k (.str s))
  | .Name x _ => if c.vis x = true then (ixOf c.N x).map .var else if c.gl x = true then (c.cst.lookup x).map .glob else none
  | .Tuple es _ _ => if es.all isPl = true then (mapL (rec c) es).map .tup else none
  | .List es _ => if es.all isPl = true then (mapL (rec c) es).map .lst else none
  | .Dict [] [] _ => some .edict
  | .BinOp a o b _ => if binOk o = true then (match rec c a, rec c b with
    | some p, some q => some (.bin o p q)
    | _, _ => none) else none
  | .UnaryOp .USub a _ => (rec c a).map .neg
  | .UnaryOp .Not a _ => if tOk a = true then (rec c a).map .not_ else none
  | .BoolOp op (a :: b :: r) _ => cB rec c op (a :: b :: r)
  | .IfExp t a b _ => if tOk t = true then (match rec c t, rec c a, rec c b with
    | some p, some q, some r => some (.ife p q r)
    | _, _, _ => none) else none
  | .Compare a [o] [b] _ => if isPl b = true then (match rec c a, rec c b with
    | some p, some q => some (.cmp o p q)
    | _, _ => none) else none
  | .Compare a [o, o2] [b, d] _ => if isPl b = true ∧ isPl d = true then (match rec c a, rec c b, rec c d with
    | some p, some q, some r => some (.chain o o2 p q r)
    | _, _, _ => none) else none
  | .Subscript a (.Slice none none (some (.UnaryOp .USub (.Constant (.int 1) _ _) _)) _) _ => (rec c a).map .rev
  | .Subscript a (.Slice none none none _) _ => (rec c a).map fun p => .slc p none none
  | .Subscript a (.Slice (some l) none none _) _ => (match rec c a, rec c l with
    | some p, some q => some (.slc p (some q) none)
    | _, _ => none)
  | .Subscript a (.Slice none (some h) none _) _ => (match rec c a, rec c h with
    | some p, some q => some (.slc p none (some q))
    | _, _ => none)
  | .Subscript a (.Slice (some l) (some h) none _) _ => (match rec c a, rec c l, rec c h with
    | some p, some q, some r => some (.slc p (some q) (some r))
    | _, _, _ => none)
  | .Subscript a i _ => if isPl i = true then (match rec c a, rec c i with
    | some p, some q => some (.idx p q)
    | _, _ => none) else none
  | .Call (.Name x _) es kws _ => cCa rec c x es kws
  | .Call (.Attribute o m ap) es [] pos => cMeth rec c o m ap es pos
  | .ListComp elt gens scope _ => cComp rec c elt gens scope
  | _ => none
end
def cE : Nat → Cc → Expr → Option CE
  | 0 => fun _ _ => none
  | n + 1 => stepE (cE n)
/-! ### statements -/
def swP (ts vs : List Expr) (sc : Scope) : Option (Option (List Str)) :=
  if (!(ts.length == 2 || ts.length == 3) || vs.length != ts.length || sc.kind != .function) = true then some none
  else if (vs.any fun | .Starred .. => true | _ => false) = true then some none
  else
    if ((ts.filterMap fun | .Name id pos => if (sc.names.lookup id == some .local && pos.line == (ts.head?.map (·.pos.line)).getD 0) = true then some id else none | _ => none).length != ts.length ||
      (ts.filterMap fun | .Name id pos => if (sc.names.lookup id == some .local && pos.line == (ts.head?.map (·.pos.line)).getD 0) = true then some id else none | _ => none).eraseDups.length !=
        (ts.filterMap fun | .Name id pos => if (sc.names.lookup id == some .local && pos.line == (ts.head?.map (·.pos.line)).getD 0) = true then some id else none | _ => none).length) = true then some none
    else if vs.all (foldedForSure 8) = true then some none
    else if vs.all (constantsAlone 8) = true then none
    else some (some (ts.filterMap fun | .Name id pos => if (sc.names.lookup id == some .local && pos.line == (ts.head?.map (·.pos.line)).getD 0) = true then some id else none | _ => none))
def isComp : Expr → Bool
  | .ListComp _ _ _ _ => true
  | .SetComp _ _ _ _ => true
  | .DictComp _ _ _ _ _ => true
  | _ => false
def augOk : Operator → Bool
  | .Add => true | .Sub => true
  | _ => false
section
variable (n : Nat) (c : Cc)
def cAsg (tg v : Expr) : Option CS :=
  match tg, v with
  | .Tuple ts _ _, .Tuple vs _ _ => if vs.all isPl = true then (match swP ts vs c.sc, mapL (cT (cE n) c 8) ts, mapL (cE n c) vs with
    | some none, some l, some m => some (.par l m)
    | some (some _), some l, some m => (match ts, vs, l with
      | [.Name _ _, .Name _ _], [_, _], [.name i, .name j] => if i ≠ j then some (.par l m) else none
      | [.Name _ _, .Name _ _, .Name _ _], [_, _, _], [.name i, .name j, .name k] => if i ≠ j ∧ i ≠ k ∧ j ≠ k then some (.par l m) else none
      | _, _, _ => none)
    | _, _, _ => none) else none
  | .Name x p, v => (match cT (cE n) c 8 (.Name x p), cE n c v with
    | some t, some e => some (.asg t e)
    | _, _ => none)
  | .Tuple ts k p, v => (match cT (cE n) c 8 (.Tuple ts k p), cE n c v with
    | some t, some e => some (.asg t e)
    | _, _ => none)
  | tg, v => if isComp v = true then none else (match cT (cE n) c 8 tg, cE n c v with
    | some t, some e => some (.asg t e)
    | _, _ => none)
def stepS (rec : List Stmt → Option (List CS)) (s : Stmt) : Option CS :=
  match s with
  | .Assign [tg] v _ => cAsg n c tg v
  | .AugAssign (.Name x _) o e _ => if c.sto x = true ∧ augOk o = true then (match ixOf c.N x, cE n c e with
    | some i, some e => some (.aug i o e)
    | _, _ => none) else none
  | .Expr (.Constant (.str _) _ _) _ => some .pass
  | .Expr e _ => if isComp e = true then none else (cE n c e).map .ex
  | .Return none _ => some (.ret (.k .none))
  | .Return (some e) _ => (cE n c e).map .ret
  | .If t a b _ => if tOk t = true then (match cE n c t, rec a, rec b with
    | some t, some a, some b => some (.ife t a b)
    | _, _, _ => none) else none
  | .While t b [] _ => if tOk t = true then (match cE n c t, rec b with
    | some t, some b => some (.while_ t b)
    | _, _ => none) else none
  | .For tg iter b [] _ => if isPl iter = true then (match cI (cE n) c tg iter, cT (cE n) c 8 tg, rec b with
    | some it, some t, some b => some (.for_ t it b)
    | _, _, _ => none) else none
  | .Pass _ => some .pass
  | .Break _ => some .brk
  | .Continue _ => some .cont
  | .Raise (some (.Call (.Name x _) [.Constant (.str _) _ _] [] _)) none _ => if c.gl x = true then (c.exs.lookup x).map .raise else none
  | _ => none
def cSs : Nat → List Stmt → Option (List CS)
  | 0, _ => none
  | m + 1, ss => mapL (stepS n c (cSs m)) ss
end
end Cr
set_option Elab.async false
set_option linter.all false
set_option maxRecDepth 100000
set_option maxHeartbeats 4000000
namespace Cr
open PySem PySem.Spec PyProof.Rows L2
/-! ### what a context promises -/
structure Okg (X : Cx) (cf : Nat → List Sl → Cr.CR) (cv : Nat → Value) (c : Cc) : Prop where
  N : X.N = c.N
  nd : c.N.Nodup
  calm : X.calm = true
  gd : X.A.guards = some []
  un : X.A.units + 65 < cLine
  sys : ∃ o, X.K.lookup sysModules = some o
  fns : ∀ x i, c.fns.lookup x = some i → ∃ fa fd ps k, FnG X.prog X.w X.K X.mg X.base k fa fd ps (spC X.K cv (cf i)) ∧ Room k X.A ∧ X.mg x = some (.ref fa) ∧ PySem.W.keepIn X.K (.ref fa) = true ∧ Binds X.K fd ps [] ∧ ∀ n ks perm, (x, n, ks, perm) ∈ c.kw → KwB X.K fd ps n ks perm
  cst : ∀ x d, c.cst.lookup x = some d → ∃ v u, X.mg x = some u ∧ RelV v u ∧ ∀ H, Dv X.K H v d
  bl : ∀ x ∈ c.bl, X.mg x = none
  exs : ∀ x j, c.exs.lookup x = some j → ∃ C bmB B newId initId, cv j = .ref C ∧ ExcBaseFacts B newId initId bmB ∧ PySem.W.excIn X.K C bmB newId = true ∧ X.mg x = some (.ref C) ∧ PySem.W.keepIn X.K (.ref C) = true ∧ Raises X (.ref C)
structure Okc (X : Cx) (W : WX) (cf : Nat → List Sl → Cr.CR) (cv : Nat → Value) (c : Cc) : Prop extends Okg X cf cv c where
  sc : X.env.scope = c.sc
  kind : c.sc.kind = .function
  raw : ∀ x, c.raw.names.lookup x = some .local → c.sc.names.lookup x = some .local
  rawc : ∀ x, c.raw.names.lookup x = some .cell → c.sc.names.lookup x = some .cell ∧ X.fn x = true
  tk : Takes X W
theorem ixOf_at : ∀ {N : List Str} {x : Str} {i : Nat}, ixOf N x = some i → N[i]? = some x
  | [], _, _, h => by cases h
  | y :: r, x, i, h => by
    have h' : (if y = x then some 0 else (ixOf r x).map (· + 1)) = some i := h
    split at h'
    · rename_i e
      cases h'
      simp [e]
    · cases w : ixOf r x with
      | none => rw [w] at h'; cases h'
      | some k =>
        rw [w] at h'
        cases h'
        simpa using ixOf_at w
theorem okN_at {x : Str} (h : okN x = true) : (x == ("__debug__" : Str)) = false ∧ (x == ("__classdict__" : Str)) = false ∧ x ≠ ("__name__" : Str) := by
  unfold okN at h
  rw [Bool.and_eq_true, Bool.and_eq_true] at h
  obtain ⟨⟨h1, h2⟩, h3⟩ := h
  exact ⟨by simpa using h1, by simpa using h2, of_decide_eq_true h3⟩
section
variable {X : Cx} {W : WX} {cf : Nat → List Sl → Cr.CR} {cv : Nat → Value} {c : Cc}
theorem Okc.vis (O : Okc X W cf cv c) {x : Str} (h : c.vis x = true) : Vis X.env.scope x ∧ okN x = true := by
  unfold Cc.vis at h
  rw [Bool.and_eq_true] at h
  refine ⟨?_, h.2⟩
  rw [O.sc]
  have h1 := h.1
  split at h1
  · rename_i e; exact .inl e
  · rename_i e; exact .inr (.inl e)
  · rename_i e; exact .inr (.inr e)
  · cases h1
theorem Okc.gl (O : Okc X W cf cv c) {x : Str} (h : c.gl x = true) : Gl X x ∧ okN x = true := by
  unfold Cc.gl at h
  rw [Bool.and_eq_true] at h
  refine ⟨?_, h.2⟩
  show X.env.scope.names.lookup x = some .globalImplicit
  rw [O.sc]
  have h1 := h.1
  split at h1
  · rename_i e; exact e
  · cases h1
theorem Okc.sto (O : Okc X W cf cv c) {x : Str} (h : c.sto x = true) : Loc X.env.scope x ∧ (X.fn x = true ∨ X.env.scope.names.lookup x = some .local) ∧ okN x = true := by
  unfold Cc.sto at h
  rw [Bool.and_eq_true] at h
  have h1 := h.1
  split at h1
  · rename_i e
    have e' := O.raw x e
    rw [← O.sc] at e'
    exact ⟨.inl e', .inr e', h.2⟩
  · rename_i e
    obtain ⟨e1, e2⟩ := O.rawc x e
    rw [← O.sc] at e1
    exact ⟨.inr e1, .inl e2, h.2⟩
  · cases h1
theorem Okc.bi (O : Okc X W cf cv c) {x : Str} (h : c.bi x = true) : Gl X x ∧ X.mg x = none ∧ okN x = true := by
  unfold Cc.bi at h
  rw [Bool.and_eq_true] at h
  obtain ⟨h1, h2⟩ := O.gl h.1
  exact ⟨h1, O.bl x (of_decide_eq_true h.2), h2⟩
theorem Okc.var (O : Okc X W cf cv c) {x : Str} {i : Nat} {p : Pos} (h : c.vis x = true) (hi : ixOf c.N x = some i) : PE X (.Name x p) (tVar i) := by
  obtain ⟨h1, h2⟩ := O.vis h
  obtain ⟨h3, h4, _⟩ := okN_at h2
  exact pe_var (by rw [O.N]; exact ixOf_at hi) h1 h3 h4
/-! ### what is shown of a piece -/
structure Good (X : Cx) (W : WX) (cf : Nat → List Sl → Cr.CR) (cv : Nat → Value) (e : Expr) (ce : CE) : Prop where
  pe : PE X e (tE X.K W cv (evE cf ce))
  var : ∀ i, ce = .var i → PE X e (tVar i)
  ptB : tOk e = true → PT X e (tT X.K W cv fun ev => tstR (evE cf ce ev))
  pt : tOk e = true → PT X e (tT X.K W cv fun ev => tst ce (evE cf ce) ev)
theorem Good.op {e : Expr} {ce : CE} (g : Good X W cf cv e ce) : PE X e (tO X.K W cv fun ev => opd ce (evE cf ce) ev) := by
  cases ce with
  | var i => exact pe_Op (g.var i rfl)
  | _ => exact pe_Ov g.pe
theorem Good.arg {e : Expr} {ce : CE} (g : Good X W cf cv e ce) : PE X e (tO X.K W cv fun ev => argd ce (evE cf ce) ev) := by
  cases ce with
  | var i => exact pe_arg (g.var i rfl)
  | _ => exact pe_Ov g.pe
/-- a piece that is no test of its own -/
theorem Good.mk' {e : Expr} {ce : CE} (hp : plT e = true) (pe : PE X e (tE X.K W cv (evE cf ce))) (var : ∀ i, ce = .var i → PE X e (tVar i))
    (ht : ∀ ev, tst ce (evE cf ce) ev = (opd ce (evE cf ce) ev).bind fun o e => match o.get e with | some d => (match truD d with | some b => .ok b e | none => .er) | none => .er) : Good X W cf cv e ce := by
  have op : PE X e (tO X.K W cv fun ev => opd ce (evE cf ce) ev) := by
    cases ce with
    | var i => exact pe_Op (var i rfl)
    | _ => exact pe_Ov pe
  refine ⟨pe, var, fun _ => pt_B hp pe, fun _ => ?_⟩
  have h := pt_D hp op
  have e1 : (fun ev => tst ce (evE cf ce) ev) = fun ev => (opd ce (evE cf ce) ev).bind fun o e => match o.get e with | some d => (match truD d with | some b => .ok b e | none => .er) | none => .er := funext ht
  rw [e1]
  exact h
/-! ### lists -/
abbrev GoodF (X : Cx) (W : WX) (cf : Nat → List Sl → Cr.CR) (cv : Nat → Value) (f : Expr → Option CE) : Prop := ∀ e ce, f e = some ce → Good X W cf cv e ce
theorem mapL_cons {α β : Type} {f : α → Option β} {a : α} {r : List α} {l : List β} (h : mapL f (a :: r) = some l) : ∃ b m, f a = some b ∧ mapL f r = some m ∧ l = b :: m := by
  have h' : (match f a with | some b => (match mapL f r with | some l => some (b :: l) | none => none) | none => none) = some l := h
  cases w : f a with
  | none => rw [w] at h'; cases h'
  | some b =>
    cases w2 : mapL f r with
    | none => rw [w, w2] at h'; cases h'
    | some m => rw [w, w2] at h'; cases h'; exact ⟨b, m, rfl, rfl, rfl⟩
theorem mapL_nil {α β : Type} {f : α → Option β} {l : List β} (h : mapL f [] = some l) : l = [] := by cases h; rfl
theorem mapL_len {α β : Type} {f : α → Option β} : ∀ {a : List α} {l : List β}, mapL f a = some l → l.length = a.length
  | [], l, h => by cases h; rfl
  | a :: r, l, h => by
    obtain ⟨b, m, h1, h2, rfl⟩ := mapL_cons h
    exact congrArg Nat.succ (mapL_len h2)
theorem goodD {f : Expr → Option CE} (g : GoodF X W cf cv f) : ∀ {es : List Expr} {l : List CE}, es.all isPl = true → mapL f es = some l → PA X es (tDs X.K W cv fun ev => evL cf l ev)
  | [], l, _, h => by cases h; exact pa_D0
  | e :: es, l, hp, h => by
    rw [List.all_cons, Bool.and_eq_true] at hp
    obtain ⟨b, m, h1, h2, rfl⟩ := mapL_cons h
    exact pa_D1 hp.1 (g e b h1).pe (goodD g hp.2 h2)
theorem goodO {f : Expr → Option CE} (g : GoodF X W cf cv f) : ∀ {es : List Expr} {l : List CE}, es.all isPl = true → mapL f es = some l → PA X es (tOs X.K W cv fun ev => evO cf l ev)
  | [], l, _, h => by cases h; exact pa_O0
  | e :: es, l, hp, h => by
    rw [List.all_cons, Bool.and_eq_true] at hp
    obtain ⟨b, m, h1, h2, rfl⟩ := mapL_cons h
    exact pa_O1 hp.1 (g e b h1).op (goodO g hp.2 h2)
theorem goodA {f : Expr → Option CE} (g : GoodF X W cf cv f) : ∀ {es : List Expr} {l : List CE}, es.all isPl = true → mapL f es = some l → PA X es (tOs X.K W cv fun ev => evA cf l ev)
  | [], l, _, h => by cases h; exact pa_O0
  | e :: es, l, hp, h => by
    rw [List.all_cons, Bool.and_eq_true] at hp
    obtain ⟨b, m, h1, h2, rfl⟩ := mapL_cons h
    exact pa_O1 hp.1 (g e b h1).arg (goodA g hp.2 h2)
theorem goodR {f : Expr → Option CE} (g : GoodF X W cf cv f) : ∀ {es : List Expr} {l : List CE}, es.all isPl = true → mapL f es = some l → PA X es (tRs X.K W cv fun ev => evR cf l ev)
  | [], l, _, h => by cases h; exact pa_R0
  | e :: es, l, hp, h => by
    rw [List.all_cons, Bool.and_eq_true] at hp
    obtain ⟨b, m, h1, h2, rfl⟩ := mapL_cons h
    exact pa_R1 hp.1 (g e b h1).pe (goodR g hp.2 h2)
theorem goodK {f : Expr → Option CE} (g : GoodF X W cf cv f) : ∀ {kws : List Keyword} {l : List CE}, mapL f (kwE kws) = some l → PK X kws (tOs X.K W cv fun ev => evA cf l ev)
  | [], l, h => by cases h; exact pk_O0
  | ⟨n, v, p⟩ :: ks, l, h => by
    obtain ⟨b, m, h1, h2, rfl⟩ := mapL_cons h
    exact pk_O1 (g v b h1).arg (goodK g h2)
/-! ### targets -/
theorem tgtE {e : Expr} (h : ∀ t p, e ≠ .Starred t p) (es : List Expr) (env : Env) : assignEach (e :: es) env = (false, assign e env) :: assignEach es env := by
  cases e <;> first | rfl | exact absurd rfl (h _ _)
theorem sub_assign {o i : Expr} {pos : Pos} {env : Env} (h : isPl i = true) (v : Value) : assign (.Subscript o i pos) env v = (do
      let ov ← holding [v] (eval o env)
      let iv ← holding [v, ov] (eval i env)
      standAt pos
      holding [v, ov, iv] (setItem ov iv v)
      release [v, ov, iv] []) := by
  cases i <;> first | rfl | cases h
theorem cT_ok {rec : Cc → Expr → Option CE} (O : Okc X W cf cv c) (g : GoodF X W cf cv (rec c)) {S : List Nat} : ∀ (n : Nat) (e : Expr) (t : Tg), cT rec c n e = some t → (∀ j ∈ tgs t, j ∈ S) → PG X e (tA X.K W cv S fun r ev => evAsg cf t r ev) ∧ ∀ t' p, e ≠ .Starred t' p
  | 0, e, t, h, _ => by cases h
  | n + 1, e, t, h, hS => by
    cases e with
    | Name x p =>
      have h' : (if c.sto x = true then (ixOf c.N x).map Tg.name else none) = some t := h
      split at h'
      · rename_i hs
        cases w : ixOf c.N x with
        | none => rw [w] at h'; cases h'
        | some i =>
          rw [w] at h'
          cases h'
          obtain ⟨q1, q2, q3⟩ := O.sto hs
          exact ⟨pg_nameD (pg_name (by rw [O.N]; exact O.nd) (by rw [O.N]; exact ixOf_at w) q1 q2) (hS i (List.mem_singleton.mpr rfl)), fun _ _ q => by cases q⟩
      · cases h'
    | Tuple es k p =>
      have h' : (mapL (cT rec c n) es).map Tg.tup = some t := h
      cases w : mapL (cT rec c n) es with
      | none => rw [w] at h'; cases h'
      | some ts =>
        rw [w] at h'
        cases h'
        -- the parts
        have parts : ∀ (es : List Expr) (ts : List Tg), mapL (cT rec c n) es = some ts → (∀ j ∈ tgsL ts, j ∈ S) → PGs X es (tAs X.K W cv S fun rs ev => evAsgs cf ts rs ev) ∧ (assignEach es X.env).length = ts.length ∧ (assignEach es X.env).findIdx? (·.1) = none := by
          intro es
          induction es with
          | nil =>
            intro ts h _
            cases h
            refine ⟨?_, rfl, rfl⟩
            have := pgs_nilD (X := X) (K := X.K) (W := W) (cv := cv) (S := S)
            have e1 : (fun (rs : List Rv) (ev : Ev) => evAsgs cf [] rs ev) = fun rs e => match rs with | [] => .ok () e | _ => .er := by
              funext rs ev
              cases rs <;> rfl
            rw [e1]
            exact this
          | cons e es ih =>
            intro ts h hS
            obtain ⟨b, m, h1, h2, rfl⟩ := mapL_cons h
            obtain ⟨p1, p2⟩ := cT_ok O g n e b h1 fun j hj => hS j (List.mem_append_left _ hj)
            obtain ⟨q1, q2, q3⟩ := ih m h2 fun j hj => hS j (List.mem_append_right _ hj)
            refine ⟨?_, by rw [tgtE p2]; exact congrArg Nat.succ q2, ?_⟩
            · have := pgs_consD p1 q1 (by rw [tgtE p2]; rfl)
              have e1 : (fun (rs : List Rv) (ev : Ev) => evAsgs cf (b :: m) rs ev) = fun rs e => match rs with | r :: rs => (evAsg cf b r e).bind fun _ e => evAsgs cf m rs e | _ => .er := by
                funext rs ev
                cases rs <;> rfl
              rw [e1]
              exact this
            · rw [tgtE p2, List.findIdx?_cons, q3]
              rfl
        obtain ⟨q1, q2, q3⟩ := parts es ts w hS
        exact ⟨pg_tupD O.calm q1 q2 q3, fun _ _ q => by cases q⟩
    | Subscript o i p =>
      cases o with
      | Name x p2 =>
        have h' : (if c.vis x = true ∧ isPl i = true then (match ixOf c.N x, rec c i with | some k, some ce => some (Tg.sub k ce) | _, _ => none) else none) = some t := h
        split at h'
        · rename_i hs
          cases w : ixOf c.N x with
          | none => rw [w] at h'; cases h'
          | some k =>
            cases w2 : rec c i with
            | none => rw [w, w2] at h'; cases h'
            | some ce =>
              rw [w, w2] at h'
              cases h'
              exact ⟨pg_subD (O.var hs.1 w) (g i ce w2).op (sub_assign hs.2), fun _ _ q => by cases q⟩
        · cases h'
      | _ => cases h
    | _ => cases h
/-! ### iterators -/
theorem over_ok {rec : Cc → Expr → Option CE} (g : GoodF X W cf cv (rec c)) {tg e : Expr} {it : Cr.It} (h : cIo rec c e = some it) : PI X tg e (tI X.K W cv fun ev => evI cf it ev) := by
  unfold cIo at h
  split at h
  · cases w : rec c e with
    | none => rw [w] at h; cases h
    | some ce =>
      rw [w] at h
      cases h
      exact pi_overD (g e ce w).pe
  · cases h
theorem cI_ok {rec : Cc → Expr → Option CE} (O : Okc X W cf cv c) (g : GoodF X W cf cv (rec c)) {tg e : Expr} {it : Cr.It} (h : cI rec c tg e = some it) : PI X tg e (tI X.K W cv fun ev => evI cf it ev) := by
  unfold cI at h
  split at h
  · rename_i x p a pos
    split at h
    · rename_i e1
      subst e1
      split at h
      · rename_i hb
        obtain ⟨q1, q2, q3⟩ := O.bi hb.1
        cases w : rec c a with
        | none => rw [w] at h; cases h
        | some ce =>
          rw [w] at h
          cases h
          exact pi_rng1D q1 q2 hb.2 (g a ce w).op
      · cases h
    · split at h
      · rename_i e1
        subst e1
        split at h
        · rename_i hb
          obtain ⟨q1, q2, q3⟩ := O.bi hb.1
          cases w : rec c a with
          | none => rw [w] at h; cases h
          | some ce =>
            rw [w] at h
            cases h
            cases tg with
            | Tuple elts k tp => exact pi_enumD q1 q2 hb.2.1 (g a ce w).pe
            | _ => cases hb.2.2
        · cases h
      · exact over_ok g h
  · rename_i x p a b pos
    split at h
    · rename_i e1
      subst e1
      split at h
      · rename_i hb
        obtain ⟨q1, q2, q3⟩ := O.bi hb.1
        cases w : rec c a with
        | none => rw [w] at h; cases h
        | some ce =>
          cases w2 : rec c b with
          | none => rw [w, w2] at h; cases h
          | some ce2 =>
            rw [w, w2] at h
            cases h
            exact pi_rng2D q1 q2 hb.2.1 hb.2.2 (g a ce w).op (g b ce2 w2).op
      · cases h
    · split at h
      · rename_i e1
        subst e1
        split at h
        · rename_i hb
          obtain ⟨q1, q2, q3⟩ := O.bi hb.1
          cases w : rec c a with
          | none => rw [w] at h; cases h
          | some ce =>
            cases w2 : rec c b with
            | none => rw [w, w2] at h; cases h
            | some ce2 =>
              rw [w, w2] at h
              cases h
              cases tg with
              | Tuple elts k tp => exact pi_zipD q1 q2 hb.2.1 hb.2.2.1 (g a ce w).pe (g b ce2 w2).pe
              | _ => cases hb.2.2.2
        · cases h
      · exact over_ok g h
  · exact over_ok g h
end
end Cr
set_option Elab.async false
set_option linter.all false
set_option maxRecDepth 100000
set_option maxHeartbeats 4000000
namespace Cr
open PySem PySem.Spec PyProof.Rows L2
section
variable {X : Cx} {W : WX} {cf : Nat → List Sl → Cr.CR} {cv : Nat → Value} {c : Cc} {rec : Cc → Expr → Option CE}
/-! ### operators -/
theorem bin_ok {o : Operator} (h : binOk o = true) : OpR X (binaryOp o) (rBin X.K (binD o)) := by
  cases o <;> first | cases h | skip
  · exact bin_add
  · exact bin_sub
  · exact bin_mult
  · exact bin_mod
  · exact bin_pow
  · exact bin_fdiv
theorem cmp_ok (hu : X.A.units + 65 < cLine) (o : CmpOp) : OpR X (compareOp o) (rCm X.K (cmpD o)) := by
  cases o
  · exact cm_eq (by omega)
  · exact cm_ne (by omega)
  · exact cm_lt
  · exact cm_le
  · exact cm_gt
  · exact cm_ge
  · exact cm_is
  · exact cm_isNot
  · exact cm_in
  · exact cm_notIn
theorem blt_ok (O : Okg X cf cv c) {x : Str} {n : Nat} {f : Bt} (h : bltOf x n = some f) : (∃ id, bootBuiltins x = some (.builtin id) ∧ CallR X (.builtin id) (rMany X.K (bltD f))) ∨ ∃ T, bootBuiltins x = some (.type T) ∧ CallR X (.type T) (rMany X.K (bltD f)) := by
  unfold bltOf at h
  cases w : bltTab.find? fun p => decide (p.1 = x) && decide (p.2.1 = n) with
  | none => rw [w] at h; cases h
  | some p =>
    rw [w] at h
    have h1 := List.find?_some w
    have h2 := List.mem_of_find?_eq_some w
    rw [Bool.and_eq_true] at h1
    have ex : p.1 = x := of_decide_eq_true h1.1
    subst ex
    have ef : p.2.2 = f := Option.some.inj h
    subst ef
    have hu := O.un
    simp only [bltTab, List.mem_cons, List.not_mem_nil, or_false] at h2
    rcases h2 with rfl | rfl | rfl | rfl | rfl | rfl | rfl | rfl | rfl | rfl | rfl | rfl | rfl | rfl
    · exact .inl ⟨"len", by decide +kernel, bt_len⟩
    · exact .inl ⟨"sum", by decide +kernel, bt_sum O.calm⟩
    · exact .inl ⟨"min", by decide +kernel, bt_min O.calm (by omega)⟩
    · exact .inl ⟨"max", by decide +kernel, bt_max O.calm (by omega)⟩
    · exact .inl ⟨"min", by decide +kernel, bt_min2 O.calm⟩
    · exact .inl ⟨"max", by decide +kernel, bt_max2 O.calm⟩
    · exact .inl ⟨"all", by decide +kernel, bt_all O.calm⟩
    · exact .inl ⟨"any", by decide +kernel, bt_any O.calm⟩
    · exact .inr ⟨"tuple", by decide +kernel, bt_tuple⟩
    · exact .inr ⟨"list", by decide +kernel, bt_list⟩
    · exact .inr ⟨"int", by decide +kernel, bt_int⟩
    · exact .inl ⟨"abs", by decide +kernel, bt_abs⟩
    · exact .inl ⟨"repr", by decide +kernel, bt_repr O.gd (by omega) O.sys⟩
    · exact .inl ⟨"sorted", by decide +kernel, bt_sorted⟩
theorem ty_ok {x : Str} {t : Ty} (h : tyOf x = some t) : bootBuiltins x = some (.type t.n) := by
  unfold tyOf at h
  cases w : tyTab.find? fun p => decide (p.1 = x) with
  | none => rw [w] at h; cases h
  | some p =>
    rw [w] at h
    have h1 := List.find?_some w
    have h2 := List.mem_of_find?_eq_some w
    have ex : p.1 = x := of_decide_eq_true h1
    subst ex
    have ef : p.2 = t := Option.some.inj h
    subst ef
    simp only [tyTab, List.mem_cons, List.not_mem_nil, or_false] at h2
    rcases h2 with rfl | rfl | rfl | rfl | rfl <;> decide +kernel
theorem mm_ok {x : Str} {n : Nat} {m : Mm} (h : mmOf x n = some m) : m.nm = x := by
  unfold mmOf at h
  cases w : mmTab.find? fun p => decide (p.1 = x) && decide (p.2.1 = n) with
  | none => rw [w] at h; cases h
  | some p =>
    rw [w] at h
    have h1 := List.find?_some w
    have h2 := List.mem_of_find?_eq_some w
    rw [Bool.and_eq_true] at h1
    have ex : p.1 = x := of_decide_eq_true h1.1
    subst ex
    have ef : p.2.2 = m := Option.some.inj h
    subst ef
    simp only [mmTab, List.mem_cons, List.not_mem_nil, or_false] at h2
    rcases h2 with rfl | rfl | rfl | rfl | rfl <;> rfl
/-! ### and, or -/
structure GoodB (X : Cx) (W : WX) (cf : Nat → List Sl → Cr.CR) (cv : Nat → Value) (op : BoolOp) (es : List Expr) (ce : CE) : Prop where
  pe : ∀ pos, PE X (.BoolOp op es pos) (tE X.K W cv (evE cf ce))
  pw : ∀ pos, PW X (.BoolOp op es pos) (tT X.K W cv fun ev => tstR (evE cf ce ev))
theorem cB_ok (g : GoodF X W cf cv (rec c)) {op : BoolOp} : ∀ {es : List Expr} {ce : CE}, cB rec c op es = some ce → GoodB X W cf cv op es ce
  | [], ce, h => by cases h
  | [a], ce, h => by
    have h' : (if tOk a = true then rec c a else none) = some ce := h
    split at h'
    · rename_i ht
      have ga := g a ce h'
      refine ⟨fun pos => pe_one ga.pe, fun pos => ?_⟩
      cases op with
      | And => exact pw_and1 (ga.ptB ht)
      | Or => exact pw_or1 (ga.ptB ht)
    · cases h'
  | a :: b :: r, ce, h => by
    have h' : (if tOk a = true then (match rec c a, cB rec c op (b :: r) with
      | some x, some y => some (boE op x y)
      | _, _ => none) else none) = some ce := h
    split at h'
    · rename_i ht
      cases w : rec c a with
      | none => rw [w] at h'; cases h'
      | some x =>
        cases w2 : cB rec c op (b :: r) with
        | none => rw [w, w2] at h'; cases h'
        | some y =>
          rw [w, w2] at h'
          cases h'
          have ga := g a x w
          have gb := cB_ok g w2
          cases op with
          | And => exact ⟨fun pos => pe_andD ga.pe (gb.pe pos), fun pos => pw_andD (ga.ptB ht) (gb.pw pos)⟩
          | Or => exact ⟨fun pos => pe_orD ga.pe (gb.pe pos), fun pos => pw_orD (ga.ptB ht) (gb.pw pos)⟩
    · cases h'
theorem cB_head {op : BoolOp} {a b : Expr} {r : List Expr} {ce : CE} (h : cB rec c op (a :: b :: r) = some ce) : ∃ x y, ce = .and_ x y ∨ ce = .or_ x y := by
  have h' : (if tOk a = true then (match rec c a, cB rec c op (b :: r) with
      | some x, some y => some (boE op x y)
      | _, _ => none) else none) = some ce := h
  split at h'
  · split at h'
    · cases h'
      cases op
      · exact ⟨_, _, .inl rfl⟩
      · exact ⟨_, _, .inr rfl⟩
    · cases h'
  · cases h'
/-! ### calls -/
theorem call_ok (O : Okc X W cf cv c) (g : GoodF X W cf cv (rec c)) {x : Str} {p pos : Pos} {es : List Expr} {kws : List Keyword} {ce : CE} (h : cCall rec c x es kws = some ce) : Good X W cf cv (.Call (.Name x p) es kws pos) ce := by
  unfold cCall at h
  split at h
  · split at h
    · rename_i hg
      obtain ⟨gx, ox⟩ := O.gl hg.1
      obtain ⟨o1, o2, o3⟩ := okN_at ox
      split at h
      · rename_i f hf
        obtain ⟨fa, fd, ps, k, F, hr, hm, hk, hb, _⟩ := O.fns x f hf
        cases w : mapL (rec c) es with
        | none => rw [w] at h; cases h
        | some l =>
          rw [w] at h
          cases h
          refine Good.mk' rfl ?_ (fun i q => by cases q) fun ev => rfl
          cases es with
          | nil =>
            cases w
            exact pe_callD0 F hr O.gd gx hm hk hb O.tk o1
          | cons e es => exact pe_callD F hr O.gd gx hm hk hb O.tk (goodA g hg.2 w) o1 hg.2
      · split at h
        · rename_i hbl
          have hm := O.bl x hbl
          have blt : ∀ {f : Bt} {l : List CE} {e : Expr} {es : List Expr}, bltOf x (e :: es).length = some f → mapL (rec c) (e :: es) = some l → (e :: es).all isPl = true → Good X W cf cv (.Call (.Name x p) (e :: es) [] pos) (.blt f l) := fun {f l e es} hf hl hp => by
            refine Good.mk' rfl ?_ (fun i q => by cases q) fun ev => rfl
            rcases blt_ok O.toOkg hf with ⟨id, h1, h2⟩ | ⟨T, h1, h2⟩
            · exact pe_bltD h2 gx hm h1 hp (goodO g hp hl) o3 o1
            · exact pe_bltT h2 gx hm h1 hp (goodO g hp hl) o3 o1
          split at h
          · rename_i a t tp
            split at h
            · rename_i e1
              subst e1
              split at h
              · rename_i ht
                obtain ⟨q1, q2, q3⟩ := O.bi ht
                obtain ⟨o4, o5, o6⟩ := okN_at q3
                cases w : rec c a with
                | none => rw [w] at h; cases h
                | some pa =>
                  cases w2 : tyOf t with
                  | none => rw [w, w2] at h; cases h
                  | some ty =>
                    rw [w, w2] at h
                    cases h
                    have hp : isPl a = true := by
                      have := hg.2
                      rw [List.all_cons, Bool.and_eq_true] at this
                      exact this.1
                    exact Good.mk' rfl (pe_isi gx hm q1 q2 (ty_ok w2) o6 o4 hp (g a pa w).op) (fun i q => by cases q) fun ev => rfl
              · cases h
            · split at h
              · rename_i f l hf hl
                cases h
                exact blt hf hl hg.2
              · cases h
          · cases h
          · rename_i hne1 hne2
            split at h
            · rename_i f l hf hl
              cases h
              cases es with
              | nil => exact (hne2 rfl).elim
              | cons e es => exact blt hf hl hg.2
            · cases h
        · cases h
    · cases h
  · rename_i hne
    split at h
    · rename_i hg
      obtain ⟨gx, ox⟩ := O.gl hg.1
      obtain ⟨o1, o2, o3⟩ := okN_at ox
      split at h
      · rename_i f ks hf hks
        obtain ⟨fa, fd, ps, k, F, hr, hm, hk, hb, hkw⟩ := O.fns x f hf
        split at h
        · rename_i q hq
          have h1 := List.find?_some hq
          have h2 := List.mem_of_find?_eq_some hq
          rw [Bool.and_eq_true, Bool.and_eq_true] at h1
          obtain ⟨n1, n2, n3, n4⟩ := q
          have e1 : n1 = x := of_decide_eq_true h1.1.1
          have e2 : n2 = es.length := of_decide_eq_true h1.1.2
          have e3 : n3 = ks := of_decide_eq_true h1.2
          subst e1 e2 e3
          split at h
          · cases h
          · rename_i hp
            split at h
            · rename_i l m hl hm2
              cases h
              have kb := hkw _ _ _ h2
              refine Good.mk' rfl ?_ (fun i q => by cases q) fun ev => rfl
              have hlk : m.length = kws.length := by
                rw [mapL_len hm2]
                have : ∀ k : List Keyword, (kwE k).length = k.length := fun k => by
                  induction k with
                  | nil => rfl
                  | cons a r ih => obtain ⟨n, v, p⟩ := a; exact congrArg Nat.succ ih
                exact this kws
              have e4 : evE cf (.callk f n4 l m) = callkR cf f n4 es.length kws.length (fun ev => evA cf l ev) (fun ev => evA cf m ev) := by
                funext ev
                show ((evA cf l ev).bind fun o1 e => (evA cf m e).bind fun o2 e => if o1.length = l.length ∧ o2.length = m.length then callR cf f n4 (o1 ++ o2) e else .er) = _
                rw [mapL_len hl, hlk]
                rfl
              rw [e4]
              cases es with
              | nil =>
                cases hl
                exact pe_callkD0 F hr O.gd gx hm hk kb O.tk (goodK g hm2) hks hp o1
              | cons e es => exact pe_callkD F hr O.gd gx hm hk kb O.tk (goodA g hg.2 hl) (goodK g hm2) hks hp o1 hg.2
            · cases h
        · cases h
      · cases h
    · cases h
/-! ### ranges as values, new lists handed on, methods that look -/
theorem dv_rg {K : PySem.W.Frag} {H : Hp} (a b : Int) : DvAll K H (rgV a b) (rangeD a b) := by
  have go : ∀ l : List Nat, DvAll K H (l.map fun i => V.int (a + (i : Nat))) (l.map fun (i : Nat) => PyData.int (a + (i : Int))) := by
    intro l
    induction l with
    | nil => exact .nil
    | cons x l ih => exact .cons (.int _) ih
  exact go _
theorem rgOk_of {a b : Int} (h1 : ok63 a = true) (h2 : ok63 b = true) (h3 : b - a ≤ 1000000) : RgOk a b := by
  obtain ⟨a1, a2⟩ := of_decide_eq_true h1
  obtain ⟨b1, b2⟩ := of_decide_eq_true h2
  exact ⟨a1, a2, b1, b2, by omega⟩
theorem rg1_red {cx : List CE} {g : Ev → Rs Op} {f : List D → Option Rv} {h : Int → Int → Hp → VK → Prop} (hf : ∀ (H : Hp) (Z : Addr → Prop) (x : V) (d : D) (r : Rv) (Q : VK), Ct X.K Z H x d → f [d] = some r → (∀ v H', NewR X.K Z H v H' r → Q v H') → ∃ n, x = .int n ∧ h 0 n H Q)
    {σ : L2.St} {H : Hp} {Q : VK} (w : tE X.K W cv (fun e => (g e).bind fun o e => many [o] e f) σ H Q) : tO X.K W cv g σ H fun x H1 => ∃ n, x = .int n ∧ h 0 n H1 Q := by
  obtain ⟨F, e, Z, R, p⟩ := w
  refine ⟨F, e, Z, R, (Pst.bind (R1 := rO X.K) (R2 := rE X.K) (fun _ _ _ _ _ _ _ _ _ _ k _ q => trE k q) R p).mono fun x H1 ⟨o1, e1, Z1, R1, k1, q1, p1⟩ => ?_⟩
  obtain ⟨Z2, ds, r, hp, er, q⟩ := many_ok R1 (.cons q1 .nil) p1
  cases hp with
  | cons hx ht => cases ht; exact hf H1 Z2 x _ r Q hx er q
theorem rg2_red {g g2 : Ev → Rs Op} {f : List D → Option Rv} {h : Int → Int → Hp → VK → Prop} (hf : ∀ (H : Hp) (Z : Addr → Prop) (x y : V) (d d2 : D) (r : Rv) (Q : VK), Ct X.K Z H x d → Ct X.K Z H y d2 → f [d, d2] = some r → (∀ v H', NewR X.K Z H v H' r → Q v H') → ∃ i j, x = .int i ∧ y = .int j ∧ h i j H Q)
    {σ : L2.St} {H : Hp} {Q : VK} (w : tE X.K W cv (fun e => (g e).bind fun o e => (g2 e).bind fun o2 e => many [o, o2] e f) σ H Q) : tO X.K W cv g σ H fun x H1 => tO X.K W cv g2 σ H1 fun y H2 => ∃ i j, x = .int i ∧ y = .int j ∧ h i j H2 Q := by
  obtain ⟨F, e, Z, R, p⟩ := w
  refine ⟨F, e, Z, R, (Pst.bind (R1 := rO X.K) (R2 := rE X.K) (fun _ _ _ _ _ _ _ _ _ _ k _ q => trE k q) R p).mono fun x H1 ⟨o1, e1, Z1, R1, k1, q1, p1⟩ => ?_⟩
  refine ⟨F, e1, Z1, R1, (Pst.bind (R1 := rO X.K) (R2 := rE X.K) (fun _ _ _ _ _ _ _ _ _ _ k _ q => trE k q) R1 p1).mono fun y H2 ⟨o2, e2, Z2, R2, k2, q2, p2⟩ => ?_⟩
  obtain ⟨Z3, ds, r, hp, er, q⟩ := many_ok R2 (.cons (q1.keep R1 k2) (.cons q2 .nil)) p2
  cases hp with
  | cons hx ht =>
    cases ht with
    | cons hy ht => cases ht; exact hf H2 Z3 x y _ _ r Q hx hy er q
theorem lr1 (H : Hp) (Z : Addr → Prop) (x : V) (d : D) (r : Rv) (Q : VK) (hx : Ct X.K Z H x d) (e : bltD .listRange1 [d] = some r) (q : ∀ v H', NewR X.K Z H v H' r → Q v H') : ∃ n, x = .int n ∧ RgOk 0 n ∧ ∀ p, H p = none → Q (.ref p) (upd H p (.lst (rgV 0 n))) := by
  unfold bltD at e
  split at e <;> try (first | cases e | skip)
  all_goals try contradiction
  rename_i b _ he
  cases he
  split at e
  · rename_i hz
    cases e
    exact ⟨b, hx.int, rgOk_of rfl hz.1 (by omega), fun p n => q _ _ (.lst n (dv_rg 0 b))⟩
  · cases e
theorem tr1 (H : Hp) (Z : Addr → Prop) (x : V) (d : D) (r : Rv) (Q : VK) (hx : Ct X.K Z H x d) (e : bltD .tupRange1 [d] = some r) (q : ∀ v H', NewR X.K Z H v H' r → Q v H') : ∃ n, x = .int n ∧ RgOk 0 n ∧ ∀ p, H p = none → Q (.ref p) (upd H p (.tup (rgV 0 n))) := by
  unfold bltD at e
  split at e <;> try (first | cases e | skip)
  all_goals try contradiction
  rename_i b _ he
  cases he
  split at e
  · rename_i hz
    cases e
    exact ⟨b, hx.int, rgOk_of rfl hz.1 (by omega), fun p n => q _ _ (.tup n (dv_rg 0 b))⟩
  · cases e
theorem lr2 (H : Hp) (Z : Addr → Prop) (x y : V) (d d2 : D) (r : Rv) (Q : VK) (hx : Ct X.K Z H x d) (hy : Ct X.K Z H y d2) (e : bltD .listRange2 [d, d2] = some r) (q : ∀ v H', NewR X.K Z H v H' r → Q v H') : ∃ i j, x = .int i ∧ y = .int j ∧ RgOk i j ∧ ∀ p, H p = none → Q (.ref p) (upd H p (.lst (rgV i j))) := by
  unfold bltD at e
  split at e <;> try (first | cases e | skip)
  all_goals try contradiction
  rename_i a b _ he
  cases he
  split at e
  · rename_i hz
    cases e
    exact ⟨a, b, hx.int, hy.int, rgOk_of hz.1 hz.2.1 hz.2.2, fun p n => q _ _ (.lst n (dv_rg a b))⟩
  · cases e
theorem tr2 (H : Hp) (Z : Addr → Prop) (x y : V) (d d2 : D) (r : Rv) (Q : VK) (hx : Ct X.K Z H x d) (hy : Ct X.K Z H y d2) (e : bltD .tupRange2 [d, d2] = some r) (q : ∀ v H', NewR X.K Z H v H' r → Q v H') : ∃ i j, x = .int i ∧ y = .int j ∧ RgOk i j ∧ ∀ p, H p = none → Q (.ref p) (upd H p (.tup (rgV i j))) := by
  unfold bltD at e
  split at e <;> try (first | cases e | skip)
  all_goals try contradiction
  rename_i a b _ he
  cases he
  split at e
  · rename_i hz
    cases e
    exact ⟨a, b, hx.int, hy.int, rgOk_of hz.1 hz.2.1 hz.2.2, fun p n => q _ _ (.tup n (dv_rg a b))⟩
  · cases e
theorem isPl_call {f : Expr} {as : List Expr} {ks : List Keyword} {p : Pos} : isPl (.Call f as ks p) = true := rfl
theorem rg_ok (O : Okc X W cf cv c) (g : GoodF X W cf cv (rec c)) {x : Str} {p pos : Pos} {es : List Expr} {kws : List Keyword} {ce : CE} (h : cRg rec c x es kws = some ce) : Good X W cf cv (.Call (.Name x p) es kws pos) ce := by
  unfold cRg at h
  split at h
  · rename_i y p2 as p3
    split at h
    · rename_i hc
      obtain ⟨h1, h2, rfl, h3⟩ := hc
      obtain ⟨q1, q2, _⟩ := O.bi h1
      obtain ⟨q3, q4, _⟩ := O.bi h2
      split at h
      · rename_i f l hf hl
        cases h
        refine Good.mk' rfl ?_ (fun i q => by cases q) fun ev => rfl
        unfold rgOf at hf
        have one : ∀ {a : Expr}, as = [a] → ∃ ca, l = [ca] ∧ rec c a = some ca ∧ isPl a = true := fun {a} e => by
          subst e
          obtain ⟨b, m, w1, w2, e1⟩ := mapL_cons hl
          rw [mapL_nil w2] at e1
          rw [List.all_cons, Bool.and_eq_true] at h3
          exact ⟨b, e1, w1, h3.1⟩
        have two : ∀ {a b : Expr}, as = [a, b] → ∃ ca cb, l = [ca, cb] ∧ rec c a = some ca ∧ rec c b = some cb ∧ isPl a = true ∧ isPl b = true := fun {a b} e => by
          subst e
          obtain ⟨b1, m, w1, w2, e1⟩ := mapL_cons hl
          obtain ⟨b2, m2, w3, w4, e2⟩ := mapL_cons w2
          rw [mapL_nil w4] at e2
          rw [e2] at e1
          rw [List.all_cons, Bool.and_eq_true, List.all_cons, Bool.and_eq_true] at h3
          exact ⟨b1, b2, e1, w1, w3, h3.1, h3.2.1⟩
        have len1 : as.length = 1 → ∃ a, as = [a] := fun e => by
          match as, e with
          | [a], _ => exact ⟨a, rfl⟩
        have len2 : as.length = 2 → ∃ a b, as = [a, b] := fun e => by
          match as, e with
          | [a, b], _ => exact ⟨a, b, rfl⟩
        have ev1 : ∀ (ca : CE) (f : Bt), evE cf (.blt f [ca]) = fun e => (opd ca (evE cf ca) e).bind fun o e => many [o] e (bltD f) := fun ca f => by
          funext e
          show ((opd ca (evE cf ca) e).bind fun o e => (Rs.ok [] e).bind fun os e => .ok (o :: os) e).bind _ = _
          rw [bindR]
          rfl
        have ev2 : ∀ (ca cb : CE) (f : Bt), evE cf (.blt f [ca, cb]) = fun e => (opd ca (evE cf ca) e).bind fun o e => (opd cb (evE cf cb) e).bind fun o2 e => many [o, o2] e (bltD f) := fun ca cb f => by
          funext e
          show ((opd ca (evE cf ca) e).bind fun o e => ((opd cb (evE cf cb) e).bind fun o e => (Rs.ok [] e).bind fun os e => .ok (o :: os) e).bind fun os e => .ok (o :: os) e).bind _ = _
          rw [bindR]
          congr 1
          funext o e
          rw [bindR, bindR]
          rfl
        split at hf
        · rename_i hx
          subst hx
          split at hf
          · rename_i hn
            cases hf
            obtain ⟨a, rfl⟩ := len1 hn
            obtain ⟨ca, rfl, ha, hpa⟩ := one rfl
            rw [ev1]
            exact (pe_listRg O.calm q1 q2 (prg_1 q3 q4 (g a ca ha).op (star1 hpa _ _)) (star1 isPl_call _ _)).imp fun σ H Q w => rg1_red (cx := []) (h := fun a b H Q => RgOk a b ∧ ∀ q, H q = none → Q (.ref q) (upd H q (.lst (rgV a b)))) lr1 w
          · split at hf
            · rename_i hn
              cases hf
              obtain ⟨a, b, rfl⟩ := len2 hn
              obtain ⟨ca, cb, rfl, ha, hb, hpa, hpb⟩ := two rfl
              rw [ev2]
              exact (pe_listRg O.calm q1 q2 (prg_2 q3 q4 (g a ca ha).op (g b cb hb).op (star1 hpa _ _) (star1 hpb _ _) (backTo_any _ _ (starAll _ _ (by rw [List.all_cons, hpb]; rfl)))) (star1 isPl_call _ _)).imp fun σ H Q w => rg2_red (h := fun a b H Q => RgOk a b ∧ ∀ q, H q = none → Q (.ref q) (upd H q (.lst (rgV a b)))) lr2 w
            · cases hf
        · split at hf
          · rename_i hx
            subst hx
            split at hf
            · rename_i hn
              cases hf
              obtain ⟨a, rfl⟩ := len1 hn
              obtain ⟨ca, rfl, ha, hpa⟩ := one rfl
              rw [ev1]
              exact (pe_tupRg O.calm q1 q2 (prg_1 q3 q4 (g a ca ha).op (star1 hpa _ _)) (star1 isPl_call _ _)).imp fun σ H Q w => rg1_red (cx := []) (h := fun a b H Q => RgOk a b ∧ ∀ q, H q = none → Q (.ref q) (upd H q (.tup (rgV a b)))) tr1 w
            · split at hf
              · rename_i hn
                cases hf
                obtain ⟨a, b, rfl⟩ := len2 hn
                obtain ⟨ca, cb, rfl, ha, hb, hpa, hpb⟩ := two rfl
                rw [ev2]
                exact (pe_tupRg O.calm q1 q2 (prg_2 q3 q4 (g a ca ha).op (g b cb hb).op (star1 hpa _ _) (star1 hpb _ _) (backTo_any _ _ (starAll _ _ (by rw [List.all_cons, hpb]; rfl)))) (star1 isPl_call _ _)).imp fun σ H Q w => rg2_red (h := fun a b H Q => RgOk a b ∧ ∀ q, H q = none → Q (.ref q) (upd H q (.tup (rgV a b)))) tr2 w
              · cases hf
          · cases hf
      · cases h
    · cases h
  · cases h
theorem c1_ok (O : Okc X W cf cv c) (g : GoodF X W cf cv (rec c)) {x : Str} {p pos : Pos} {es : List Expr} {kws : List Keyword} {ce : CE} (h : cC1 rec c x es kws = some ce) : Good X W cf cv (.Call (.Name x p) es kws pos) ce := by
  unfold cC1 at h
  split at h
  · rename_i a
    split at h
    · rename_i hc
      obtain ⟨h1, h2, h3, h4⟩ := hc
      obtain ⟨gx, ox⟩ := O.gl h1
      obtain ⟨o1, o2, o3⟩ := okN_at ox
      split at h
      · rename_i f ca hf ha
        cases h
        obtain ⟨fa, fd, ps, k, F, hr, hm, hk, hb, _⟩ := O.fns x f hf
        exact Good.mk' rfl (pe_call1D F hr O.gd gx hm hk hb O.tk (g a ca ha).pe o1 h4) (fun i q => by cases q) fun ev => rfl
      · cases h
    · cases h
  · cases h
theorem ca_ok (O : Okc X W cf cv c) (g : GoodF X W cf cv (rec c)) {x : Str} {p pos : Pos} {es : List Expr} {kws : List Keyword} {ce : CE} (h : cCa rec c x es kws = some ce) : Good X W cf cv (.Call (.Name x p) es kws pos) ce := by
  unfold cCa at h
  split at h
  · rename_i e h1
    cases h
    exact rg_ok O g h1
  · split at h
    · rename_i e h1
      cases h
      exact c1_ok O g h1
    · exact call_ok O g h
theorem vm_ok {x : Str} {m : Vm} (h : vmOf x = some m) : m.nm = x := by
  unfold vmOf at h
  cases w : vmTab.find? fun p => decide (p.1 = x) with
  | none => rw [w] at h; cases h
  | some p =>
    rw [w] at h
    have h1 := List.find?_some w
    have h2 := List.mem_of_find?_eq_some w
    have ex : p.1 = x := of_decide_eq_true h1
    subst ex
    cases h
    simp only [vmTab, List.mem_cons, List.not_mem_nil, or_false] at h2
    rcases h2 with rfl | rfl <;> rfl
end
end Cr
set_option Elab.async false
set_option linter.all false
set_option maxRecDepth 100000
set_option maxHeartbeats 4000000
namespace Cr
open PySem PySem.Spec PyProof.Rows L2
section
variable {X : Cx} {W : WX} {cf : Nat → List Sl → Cr.CR} {cv : Nat → Value} {c : Cc} {rec : Cc → Expr → Option CE}
def condO (cf : Nat → List Sl → Cr.CR) (q : Option CE) : Ev → Rs Bool :=
  match q with
  | some q => fun e => tst q (evE cf q) e
  | none => fun e => .ok true e
abbrev compCx (X : Cx) (s : Shared) (H : Hp) (scope : Scope) (C : Addr) (cl : List (Str × Addr)) (fp : List Addr) : Cx := X.blk s H scope (compEnvC scope cl C X.env) fp
theorem Okc.blk (O : Okc X W cf cv c) {scope : Scope} {own : List (Str × Nat)} (hb : blkC c.N c.sc scope own = true) (s : Shared) (H : Hp) (C : Addr) (cl : List (Str × Addr)) (fp : List Addr) : Okc (compCx X s H scope C cl fp) WF cf cv { c with sc := relS scope c.sc, raw := scope } := by
  have hk : scope.kind = .function := (blkOk_by hb).kind
  refine ⟨⟨O.N, O.nd, O.calm, O.gd, O.un, O.sys, O.fns, O.cst, O.bl, O.exs⟩, ?_, hk, fun x h => ?_, fun x h => ⟨?_, ?_⟩, ?_⟩
  · show relS scope X.env.scope = relS scope c.sc
    rw [O.sc]
  · exact lookup_relS_keep (by decide) h
  · exact lookup_relS_keep (by decide) h
  · show (scope.names.lookup x == some NameKind.cell) = true
    have h' : scope.names.lookup x = some .cell := h
    rw [h']
    rfl
  · intro u s' ⟨_, _, _, _, _, _, _, _, _, _, _, _, _, _, _, _, w⟩
    exact w.elim
theorem attrBase {o : Expr} {m : Str} {env : Env} {w : Sem Value} (h : ∀ f as ks p, o ≠ .Call f as ks p) : attributeBase o m env w = w := by
  cases o <;> first | rfl | exact absurd rfl (h _ _ _ _)
theorem wipe_ok_own {own : List (Str × Nat)} {t : Tg} (h : (tgs t).all (fun j => decide (j ∈ own.map (·.2))) = true) : ∀ j ∈ tgs t, j ∈ own.map (·.2) := fun j hj => of_decide_eq_true (List.all_eq_true.mp h j hj)
/-- a comprehension's reading, for a value and for a name's store -/
theorem comp_red (O : Okc X W cf cv c) {it : Cr.It} {t : Tg} {q : Option CE} {f : CE} {own : List (Str × Nat)} (ht : ∀ j ∈ tgs t, j ∈ own.map (·.2)) {σ : L2.St} {H : Hp} {Q : VK} (w : tE X.K W cv (evE cf (.comp (own.map (·.2)) t it q f)) σ H Q) :
    tLc (tI X.K W cv fun ev => evI cf it ev) (tA X.K WF cv (own.map (·.2)) fun r ev => evAsg cf t r ev) (tT X.K WF cv (condO cf q)) (tE X.K WF cv (evE cf f)) (own.map (·.2)) σ H Q :=
  by cases q <;> exact lc_red (fun j hj => hj) w
abbrev GoodAll (cf : Nat → List Sl → Cr.CR) (cv : Nat → Value) (rec : Cc → Expr → Option CE) : Prop := ∀ (X : Cx) (W : WX) (c : Cc) (e : Expr) (ce : CE), Okc X W cf cv c → rec c e = some ce → Good X W cf cv e ce
structure CompOk (X : Cx) (W : WX) (cf : Nat → List Sl → Cr.CR) (cv : Nat → Value) (elt tg iter : Expr) (ifs : List Expr) (scope : Scope) (own : List (Str × Nat)) (t : Tg) (it : Cr.It) (q : Option CE) (f : CE) : Prop where
  blk : BlkOk X.N X.env.scope scope own
  pi : PI X tg iter (tI X.K W cv fun ev => evI cf it ev)
  pg : ∀ (s : Shared) (H : Hp) (C : Addr) (cl : List (Str × Addr)) (fp : List Addr), PG (compCx X s H scope C cl fp) tg (tA X.K WF cv (own.map (·.2)) fun r ev => evAsg cf t r ev)
  pt : ∀ (s : Shared) (H : Hp) (C : Addr) (cl : List (Str × Addr)) (fp : List Addr), PTs (compCx X s H scope C cl fp) ifs (tT X.K WF cv (condO cf q))
  pe : ∀ (s : Shared) (H : Hp) (C : Addr) (cl : List (Str × Addr)) (fp : List Addr), PE (compCx X s H scope C cl fp) elt (tE X.K WF cv (evE cf f))
  own : ∀ j ∈ tgs t, j ∈ own.map (·.2)
  pl : isPl iter = true
theorem comp_ok (O : Okc X W cf cv c) (G : GoodAll cf cv rec) {elt tg iter : Expr} {ifs : List Expr} {scope : Scope} {pos : Pos} {ce : CE} (h : stepE rec c (.ListComp elt [⟨tg, iter, ifs, 0⟩] scope pos) = some ce) :
    ∃ own t it q f, ce = .comp (own.map (·.2)) t it q f ∧ CompOk X W cf cv elt tg iter ifs scope own t it q f := by
  have h00 : cComp1 rec c elt tg iter ifs scope = some ce := h
  have h' : (if blkC c.N c.sc scope (ownOf c.N scope) = true ∧ isPl iter = true then
      (match cI rec c tg iter, cT rec { c with sc := relS scope c.sc, raw := scope } 8 tg, rec { c with sc := relS scope c.sc, raw := scope } elt with
      | some it, some t, some f => if (tgs t).all (fun j => decide (j ∈ (ownOf c.N scope).map (·.2))) = true then (match ifs with
        | [] => some (CE.comp ((ownOf c.N scope).map (·.2)) t it none f)
        | [q] => if tOk q = true then (rec { c with sc := relS scope c.sc, raw := scope } q).map fun q => .comp ((ownOf c.N scope).map (·.2)) t it (some q) f else none
        | _ => none) else none
      | _, _, _ => none) else none) = some ce := h00
  split at h'
  · rename_i hb
    split at h'
    · rename_i it t f h1 h2 h3
      split at h'
      · rename_i ht
        have hown := wipe_ok_own ht
        have hbk : BlkOk X.N X.env.scope scope (ownOf c.N scope) := by
          rw [O.N, O.sc]
          exact blkOk_by hb.1
        have pg : ∀ (s : Shared) (H : Hp) (C : Addr) (cl : List (Str × Addr)) (fp : List Addr), PG (compCx X s H scope C cl fp) tg (tA X.K WF cv ((ownOf c.N scope).map (·.2)) fun r ev => evAsg cf t r ev) := fun s H C cl fp =>
          (cT_ok (O.blk hb.1 s H C cl fp) (fun e ce => G _ _ _ e ce (O.blk hb.1 s H C cl fp)) 8 tg t h2 hown).1
        have pe : ∀ (s : Shared) (H : Hp) (C : Addr) (cl : List (Str × Addr)) (fp : List Addr), PE (compCx X s H scope C cl fp) elt (tE X.K WF cv (evE cf f)) := fun s H C cl fp =>
          (G _ _ _ elt f (O.blk hb.1 s H C cl fp) h3).pe
        have pi := cI_ok O (fun e ce => G X W c e ce O) h1
        split at h'
        · cases h'
          refine ⟨ownOf c.N scope, t, it, none, f, rfl, hbk, pi, pg, fun s H C cl fp => ⟨fun pins s σ H Q I ⟨F, e, Z, R, p⟩ => pts_nil.run pins s σ H Q I (p true H Z R .refl rfl)⟩, pe, hown, hb.2⟩
        · rename_i q
          split at h'
          · rename_i hq
            cases w : rec { c with sc := relS scope c.sc, raw := scope } q with
            | none => rw [w] at h'; cases h'
            | some cq =>
              rw [w] at h'
              cases h'
              exact ⟨ownOf c.N scope, t, it, some cq, f, rfl, hbk, pi, pg, fun s H C cl fp => pts_one ((G _ _ _ q cq (O.blk hb.1 s H C cl fp) w).pt hq), pe, hown, hb.2⟩
          · cases h'
        · cases h'
      · cases h'
    · cases h'
  · cases h'
theorem comp_shape {elt : Expr} {gens : List Comprehension} {scope : Scope} {p : Pos} {e : CE} (h : stepE rec c (.ListComp elt gens scope p) = some e) : ∃ tg iter ifs, gens = [⟨tg, iter, ifs, 0⟩] := by
  have h' : cComp rec c elt gens scope = some e := h
  unfold cComp at h'
  split at h'
  · rename_i tg iter ifs a
    split at h'
    · rename_i ha
      subst ha
      exact ⟨_, _, _, rfl⟩
    · cases h'
  · cases h'
theorem CompOk.val (O : Okc X W cf cv c) {elt tg iter : Expr} {ifs : List Expr} {scope : Scope} {own : List (Str × Nat)} {t : Tg} {it : Cr.It} {q : Option CE} {f : CE} {pos : Pos} (h : CompOk X W cf cv elt tg iter ifs scope own t it q f) :
    PE X (.ListComp elt [⟨tg, iter, ifs, 0⟩] scope pos) (tE X.K W cv (evE cf (.comp (own.map (·.2)) t it q f))) :=
  (pe_lc O.calm (by rw [O.N]; exact O.nd) h.pi h.blk h.pg h.pt h.pe (plSet h.pl _)).imp fun σ H Q w => comp_red O h.own w
theorem few_ok {e : Expr} {es : List Expr} {pos : Pos} {env : Env} (hp : (e :: es).all isPl = true) (hl : (e :: es).length < 30) : ((backTo pos (starEach (e :: es) env)).all (fun x => !x.1) && (backToKw pos (keywordEach [] env)).all (fun x => x.1.isSome)
      && decide ((e :: es).length + ([] : List Keyword).length + (if ([] : List Keyword).isEmpty then 0 else 1) < 30)) = true := by
  have a1 : (backTo pos (starEach (e :: es) env)).any (·.1) = false := backTo_any _ _ (starAll _ _ hp)
  have a2 : (backTo pos (starEach (e :: es) env)).all (fun x => !x.1) = true := by
    rw [List.all_eq_not_any_not]
    simp only [Bool.not_not]
    rw [a1]
    rfl
  rw [a2]
  have a3 : (backToKw pos (keywordEach [] env)).all (fun x => x.1.isSome) = true := rfl
  rw [a3]
  simpa using hl
theorem meth_ok (O : Okc X W cf cv c) (g : GoodF X W cf cv (rec c)) {o : Expr} {m : Str} {ap pos : Pos} {es : List Expr} {ce : CE} (h : cMeth rec c o m ap es pos = some ce) : Good X W cf cv (.Call (.Attribute o m ap) es [] pos) ce := by
  unfold cMeth at h
  split at h
  · rename_i e h1
    cases h
    unfold cVm at h1
    split at h1
    · cases h1
    · rename_i hno
      split at h1
      · rename_i e
        split at h1
        · rename_i hc
          split at h1
          · rename_i v a b h2 h3 h4
            cases h1
            have hn := vm_ok h2
            subst hn
            have hline : (ap.endLine == pos.line) = true := by simp [hc.2]
            have hb : attributeBase o v.nm X.env (eval o X.env) = eval o X.env := by
              cases o with
              | Call f as ks p =>
                cases as with
                | nil => exact absurd rfl (hno f ks p)
                | cons _ _ => cases f <;> rfl
              | _ => rfl
            exact Good.mk' rfl (pe_vmD (g o a h3).op (goodO g (es := [e]) (by rw [List.all_cons, hc.1]; rfl) (show mapL (rec c) [e] = some [b] by unfold mapL; rw [h4]; rfl)) hc.1 hb (few_ok (by rw [List.all_cons, hc.1]; rfl) (show [e].length < 30 by rw [List.length_singleton]; decide)) hline) (fun i q => (by cases q)) fun ev => rfl
          · cases h1
        · cases h1
      · cases h1
  · rename_i hno
    clear hno
    unfold cMm at h
    split at h
    · rename_i x p
      split at h
      · rename_i hc
        obtain ⟨hv, hp, hl, hline⟩ := hc
        split at h
        · rename_i i mm l h1 h2 h3
          cases h
          have hn := mm_ok h2
          subst hn
          have pv := O.var (p := p) hv h1
          have hb : attributeBase (.Name x p) mm.nm X.env (eval (.Name x p) X.env) = eval (.Name x p) X.env := rfl
          have hln : (ap.endLine == pos.line) = true := by simp [hline]
          refine Good.mk' rfl ?_ (fun i q => (by cases q)) fun ev => rfl
          cases es with
          | nil =>
            cases h3
            exact pe_mmD0 pv hb hln
          | cons e es => exact pe_mmD pv (goodD g hp h3) hp hb (few_ok hp hl) hln
        · cases h
      · cases h
    · cases h
theorem stepE_ok (G : GoodAll cf cv rec) {e : Expr} {ce : CE} (O : Okc X W cf cv c) (h : stepE rec c e = some ce) : Good X W cf cv e ce := by
  have g : GoodF X W cf cv (rec c) := fun e ce => G X W c e ce O
  have h0 := h
  unfold stepE at h
  split at h
  · cases h; exact Good.mk' rfl (pe_const pe_int fun _ => .int _) (fun i q => (by cases q)) fun ev => rfl
  · cases h; exact Good.mk' rfl (pe_const pe_bl fun _ => .bl _) (fun i q => (by cases q)) fun ev => rfl
  · cases h; exact Good.mk' rfl (pe_const pe_non fun _ => .non) (fun i q => (by cases q)) fun ev => rfl
  · cases h; exact Good.mk' rfl (pe_const pe_str fun _ => .str _) (fun i q => (by cases q)) fun ev => rfl
  · rename_i x p
    split at h
    · rename_i hv
      cases w : ixOf c.N x with
      | none => rw [w] at h; cases h
      | some i =>
        rw [w] at h
        cases h
        have pv := O.var (p := p) hv w
        exact Good.mk' rfl (pe_rd pv) (fun j q => by cases q; exact pv) fun ev => rfl
    · split at h
      · rename_i hg
        obtain ⟨gx, ox⟩ := O.gl hg
        obtain ⟨o1, o2, o3⟩ := okN_at ox
        cases w : c.cst.lookup x with
        | none => rw [w] at h; cases h
        | some d =>
          rw [w] at h
          cases h
          obtain ⟨v, u, h1, h2, h3⟩ := O.cst x d w
          exact Good.mk' rfl (pe_const (pe_glob gx h1 h2 o1) fun _ => h3 _) (fun i q => (by cases q)) fun ev => rfl
      · cases h
  · rename_i es k p
    split at h
    · rename_i hp
      cases w : mapL (rec c) es with
      | none => rw [w] at h; cases h
      | some l =>
        rw [w] at h
        cases h
        exact Good.mk' rfl (pe_tupD (goodD g hp w)) (fun i q => (by cases q)) fun ev => rfl
    · cases h
  · rename_i es p
    split at h
    · rename_i hp
      cases w : mapL (rec c) es with
      | none => rw [w] at h; cases h
      | some l =>
        rw [w] at h
        cases h
        exact Good.mk' rfl (pe_lstD (goodD g hp w)) (fun i q => (by cases q)) fun ev => rfl
    · cases h
  · cases h; exact Good.mk' rfl pe_dictD (fun i q => (by cases q)) fun ev => rfl
  · rename_i a o b p
    split at h
    · rename_i hb
      split at h
      · rename_i x y h1 h2
        cases h
        exact Good.mk' rfl ((pe_op (bin_ok hb) (g a x h1).op (g b y h2).op).imp fun σ H Q w => bin_red w) (fun i q => (by cases q)) fun ev => rfl
      · cases h
    · cases h
  · rename_i a p
    cases w : rec c a with
    | none => rw [w] at h; cases h
    | some x =>
      rw [w] at h
      cases h
      exact Good.mk' rfl ((pe_un un_negD (g a x w).op).imp fun σ H Q w => un_red w) (fun i q => (by cases q)) fun ev => rfl
  · rename_i a p
    split at h
    · rename_i ht
      cases w : rec c a with
      | none => rw [w] at h; cases h
      | some x =>
        rw [w] at h
        cases h
        exact ⟨pe_notD (g a x w).pe, (fun i q => by cases q), fun _ => pt_notD ((g a x w).ptB ht), fun _ => pt_notD ((g a x w).ptB ht)⟩
    · cases h
  · rename_i op a b r p
    have gb := cB_ok g h
    obtain ⟨x, y, hxy⟩ := cB_head h
    refine ⟨gb.pe p, fun i q => ?_, fun _ => (gb.pw p).pt, fun _ => ?_⟩
    · rcases hxy with rfl | rfl <;> cases q
    · rcases hxy with rfl | rfl <;> exact (gb.pw p).pt
  · rename_i t a b p
    split at h
    · rename_i ht
      split at h
      · rename_i x y z h1 h2 h3
        cases h
        exact ⟨pe_ifD ((g t x h1).pt ht) (g a y h2).pe (g b z h3).pe, (fun i q => by cases q), (fun q => by cases q), (fun q => by cases q)⟩
      · cases h
    · cases h
  · rename_i a o b p
    split at h
    · rename_i hp
      split at h
      · rename_i x y h1 h2
        cases h
        have pt := pt_cmpD (pos := p) (cmp_ok O.un o) (g a x h1).op (g b y h2).op hp
        exact ⟨pe_cmpD (cmp_ok O.un o) (g a x h1).op (g b y h2).op hp, (fun i q => by cases q), fun _ => pt, fun _ => pt⟩
      · cases h
    · cases h
  · rename_i a o o2 b d p
    split at h
    · rename_i hp
      split at h
      · rename_i x y z h1 h2 h3
        cases h
        have pt := pt_chainD (pos := p) (cmp_ok O.un o) (cmp_ok O.un o2) (g a x h1).op (g b y h2).op (g d z h3).op hp.1 hp.2
        exact ⟨pe_chainD (cmp_ok O.un o) (cmp_ok O.un o2) (g a x h1).op (g b y h2).op (g d z h3).op hp.1 hp.2, (fun i q => by cases q), fun _ => pt, fun _ => pt⟩
      · cases h
    · cases h
  · rename_i a k1 p1 p2 p3 p4
    cases w : rec c a with
    | none => rw [w] at h; cases h
    | some x =>
      rw [w] at h
      cases h
      exact Good.mk' rfl ((pe_revD (g a x w).op).imp fun σ H Q w => un_red w) (fun i q => (by cases q)) fun ev => rfl
  · rename_i a p1 p2
    cases w : rec c a with
    | none => rw [w] at h; cases h
    | some x =>
      rw [w] at h
      cases h
      exact Good.mk' rfl (pe_slcD (g a x w).op po_D0 po_D0) (fun i q => (by cases q)) fun ev => rfl
  · rename_i a l p1 p2
    split at h
    · rename_i x y h1 h2
      cases h
      exact Good.mk' rfl (pe_slcD (g a x h1).op (po_D1 (g l y h2).op) po_D0) (fun i q => (by cases q)) fun ev => rfl
    · cases h
  · rename_i a l p1 p2
    split at h
    · rename_i x y h1 h2
      cases h
      exact Good.mk' rfl (pe_slcD (g a x h1).op po_D0 (po_D1 (g l y h2).op)) (fun i q => (by cases q)) fun ev => rfl
    · cases h
  · rename_i a l l2 p1 p2
    split at h
    · rename_i x y z h1 h2 h3
      cases h
      exact Good.mk' rfl (pe_slcD (g a x h1).op (po_D1 (g l y h2).op) (po_D1 (g l2 z h3).op)) (fun i q => (by cases q)) fun ev => rfl
    · cases h
  · rename_i a i p _ _ _ _ _
    split at h
    · rename_i hp
      split at h
      · rename_i x y h1 h2
        cases h
        exact Good.mk' rfl ((pe_ix ix_D (g a x h1).op (g i y h2).op (plIx hp)).imp fun σ H Q w => bin_red w) (fun i q => (by cases q)) fun ev => rfl
      · cases h
    · cases h
  · exact ca_ok O g h
  · exact meth_ok O g h
  · rename_i elt gens scope p
    obtain ⟨tg, iter, ifs, rfl⟩ := comp_shape h0
    obtain ⟨own, t, it, q, f, rfl, C⟩ := comp_ok O G h0
    exact Good.mk' rfl (C.val O) (fun i q => (by cases q)) fun ev => rfl
  · cases h
theorem cE_ok (n : Nat) : GoodAll cf cv (cE n) := by
  induction n with
  | zero => intro X W c e ce O h; cases h
  | succ n ih => intro X W c e ce O h; exact stepE_ok ih O h
end
end Cr
set_option Elab.async false
set_option linter.all false
set_option maxRecDepth 100000
set_option maxHeartbeats 4000000
namespace Cr
open PySem PySem.Spec PyProof.Rows L2
section
variable {X : Cx} {W : WX} {cf : Nat → List Sl → Cr.CR} {cv : Nat → Value} {c : Cc}
theorem swP_ok {ts vs : List Expr} {k k2 : Nat} {p p2 : Pos} {env : Env} {r : Option (List Str)} (hk : env.scope.kind = .function) (h : swP ts vs env.scope = some r) : swappedStores [.Tuple ts k p] (.Tuple vs k2 p2) env = pure r := by
  have hb : env.blockKind = env.scope.kind := by unfold Env.blockKind; rw [hk]; rfl
  have ek : ∀ x, env.kindOf x = env.scope.names.lookup x := fun _ => rfl
  unfold swP at h
  unfold swappedStores
  simp only [hb, ek]
  split at h
  · rename_i h1
    cases h
    simp only [h1, if_true]
  · rename_i h1
    refine (if_neg h1).trans ?_
    split at h
    · rename_i h2
      cases h
      exact if_pos h2
    · rename_i h2
      refine (if_neg h2).trans ?_
      split at h
      · rename_i h3
        cases h
        exact if_pos h3
      · rename_i h3
        refine (if_neg h3).trans ?_
        split at h
        · rename_i h4
          cases h
          exact if_pos h4
        · rename_i h4
          refine (if_neg h4).trans ?_
          split at h
          · cases h
          · rename_i h5
            cases h
            exact if_neg h5
theorem sw_plain {v : Expr} {t : Option Expr} {l : Nat} {env : Env} (h : isComp v = false) : swapsWith v t l env = pure false := by
  cases v <;> first | rfl | cases h
theorem sws_plain {v t : Expr} {l : Nat} {env : Env} (h : isComp v = false) : swapsWithSole [t] v l env = pure false := sw_plain h
theorem sws_tup {v : Expr} {ts : List Expr} {k : Nat} {p : Pos} {l : Nat} {env : Env} : swapsWithSole [.Tuple ts k p] v l env = pure false := by
  show swapsWith v (some (.Tuple ts k p)) l env = pure false
  cases v <;> rfl
theorem bindOk (m : Rs Unit) : (m.bind fun _ e => Rs.ok () e) = m := by
  cases m <;> rfl
/-- a name's own comprehension -/
theorem setComp (O : Okc X W cf cv c) (n : Nat) {x : Str} {p pos : Pos} {elt tg iter : Expr} {ifs : List Expr} {scope : Scope} {cpos : Pos} {i : Nat} {ce : CE} (hs : c.sto x = true) (hi : ixOf c.N x = some i) (h : cE n c (.ListComp elt [⟨tg, iter, ifs, 0⟩] scope cpos) = some ce) :
    PS X (.Assign [.Name x p] (.ListComp elt [⟨tg, iter, ifs, 0⟩] scope cpos) pos) (tS X.K W cv fun e => (evE cf ce e).bind fun r e => (store i r.sl e).bind fun _ e => .ok .nx e) := by
  obtain ⟨q1, q2, q3⟩ := O.sto hs
  have hN : X.N.Nodup := by rw [O.N]; exact O.nd
  have hx : X.N[i]? = some x := by rw [O.N]; exact ixOf_at hi
  have hk : X.env.scope.kind = .function := by rw [O.sc]; exact O.kind
  have hb : X.env.blockKind = .function := by unfold Env.blockKind; rw [hk]; rfl
  have pg : PG X (.Name x p) (tA X.K W cv [i] fun r e => store i r.sl e) := pg_nameD (pg_name hN hx q1 q2) (List.mem_singleton.mpr rfl)
  by_cases sw : (X.env.kindOf x == some .local && p.line == cpos.line && !(scope.names.any fun (n, k) => n == x && (k == .local || k == .cell))) = true
  · have hsw : swapsWith (.ListComp elt [⟨tg, iter, ifs, 0⟩] scope cpos) (some (.Name x p)) pos.line X.env = pure true := by
      unfold swapsWith
      have : (X.env.blockKind == .function && X.env.kindOf x == some .local && p.line == cpos.line && !(scope.names.any fun (n, k) => n == x && (k == .local || k == .cell))) = true := by
        rw [hb]
        simpa using sw
      show (pure _ : Sem Bool) = pure true
      rw [show (Expr.pos (.ListComp elt [⟨tg, iter, ifs, 0⟩] scope cpos)) = cpos from rfl]
      rw [this]
    have hl : X.env.scope.names.lookup x = some .local := by
      rw [Bool.and_eq_true, Bool.and_eq_true] at sw
      have := sw.1.1
      have w : X.env.kindOf x = some .local := by simpa using this
      exact w
    cases n with
    | zero => cases h
    | succ n =>
      obtain ⟨own, t, it, q, f, rfl, C⟩ := comp_ok O (cE_ok n) h
      refine (ps_setLc O.calm hN hx hl hsw C.pi C.blk C.pg C.pt C.pe (plSet C.pl _)).imp fun D σ H w => ?_
      have w2 := asg_red (S := [i]) w
      have w3 := comp_red O C.own w2
      -- the store's reading
      exact (show ∀ {Q Q' : VK}, (∀ v H, Q v H → Q' v H) → tLc _ _ _ _ _ σ H Q → tLc _ _ _ _ _ σ H Q' from fun {Q Q'} hq => by
        rintro ⟨F, e, Z, R, p⟩
        refine ⟨F, e, Z, R, p.mono fun J H1 z => ?_⟩
        intro D hD
        obtain ⟨Wt, h0, turn⟩ := z D hD
        refine ⟨Wt, h0, fun i m H w => ?_⟩
        rcases turn i m H w with ⟨a, b⟩ | b
        · exact .inl ⟨a, hq _ _ b⟩
        · exact .inr b) (fun v H1 z => gName_red (List.mem_singleton.mpr rfl) z) w3
  · have hsw : swapsWithSole [.Name x p] (.ListComp elt [⟨tg, iter, ifs, 0⟩] scope cpos) pos.line X.env = pure false := by
      show swapsWith (.ListComp elt [⟨tg, iter, ifs, 0⟩] scope cpos) (some (.Name x p)) pos.line X.env = pure false
      unfold swapsWith
      have : (X.env.blockKind == .function && X.env.kindOf x == some .local && p.line == cpos.line && !(scope.names.any fun (n, k) => n == x && (k == .local || k == .cell))) = false := by
        rw [hb]
        have sw' := Bool.eq_false_iff.mpr sw
        show (true && _ && _ && _) = false
        rw [Bool.true_and]
        exact sw'
      show (pure _ : Sem Bool) = pure false
      rw [show (Expr.pos (.ListComp elt [⟨tg, iter, ifs, 0⟩] scope cpos)) = cpos from rfl]
      rw [this]
    exact ps_asgD ((cE_ok n X W c _ ce O h).pe) pg hsw rfl rfl
theorem cAsg_ok (O : Okc X W cf cv c) {n fuel : Nat} {tg v : Expr} {pos : Pos} {s : CS} (h : cAsg n c tg v = some s) : PS X (.Assign [tg] v pos) (tS X.K W cv (evS cf fuel s)) := by
  have g : GoodF X W cf cv (cE n c) := fun e ce => cE_ok n X W c e ce O
  have hN : X.N.Nodup := by rw [O.N]; exact O.nd
  unfold cAsg at h
  split at h
  · rename_i ts k p vs k2 p2
    split at h
    · rename_i hp
      split at h
      · rename_i l m h1 h2 h3
        cases h
        have hk : X.env.scope.kind = .function := by rw [O.sc]; exact O.kind
        have hw := swP_ok (k := k) (k2 := k2) (p := p) (p2 := p2) hk (by rw [O.sc]; exact h1)
        -- the targets
        have hT : cT (cE n) c 9 (.Tuple ts k p) = some (.tup l) := by
          show (mapL (cT (cE n) c 8) ts).map Tg.tup = _
          rw [h2]
          rfl
        have parts : ∀ (es : List Expr) (l : List Tg) (S : List Nat), mapL (cT (cE n) c 8) es = some l → (∀ j ∈ tgsL l, j ∈ S) → PGs X es (tAs X.K W cv S fun rs ev => evAsgs cf l rs ev) ∧ (assignEach es X.env).length = l.length ∧ (assignEach es X.env).findIdx? (·.1) = none := by
          intro es
          induction es with
          | nil =>
            intro l S h _
            cases h
            refine ⟨?_, rfl, rfl⟩
            have := pgs_nilD (X := X) (K := X.K) (W := W) (cv := cv) (S := S)
            have e1 : (fun (rs : List Rv) (ev : Ev) => evAsgs cf [] rs ev) = fun rs e => match rs with | [] => .ok () e | _ => .er := by
              funext rs ev
              cases rs <;> rfl
            rw [e1]
            exact this
          | cons e es ih =>
            intro l S h hS
            obtain ⟨b, m, h1, h2, rfl⟩ := mapL_cons h
            obtain ⟨p1, p2⟩ := cT_ok O g 8 e b h1 fun j hj => hS j (List.mem_append_left _ hj)
            obtain ⟨q1, q2, q3⟩ := ih m S h2 fun j hj => hS j (List.mem_append_right _ hj)
            refine ⟨?_, by rw [tgtE p2]; exact congrArg Nat.succ q2, ?_⟩
            · have := pgs_consD p1 q1 (by rw [tgtE p2]; rfl)
              have e1 : (fun (rs : List Rv) (ev : Ev) => evAsgs cf (b :: m) rs ev) = fun rs e => match rs with | r :: rs => (evAsg cf b r e).bind fun _ e => evAsgs cf m rs e | _ => .er := by
                funext rs ev
                cases rs <;> rfl
              rw [e1]
              exact this
            · rw [tgtE p2, List.findIdx?_cons, q3]
              rfl
        obtain ⟨q1, q2, q3⟩ := parts ts l (tgsL l) h2 fun j hj => hj
        exact ps_parT O.calm (goodR g hp h3) q1 q2 q3 hw
      · rename_i nm l m h1 h2 h3
        have hk : X.env.scope.kind = .function := by rw [O.sc]; exact O.kind
        have h1' : swP ts vs X.env.scope = some (some nm) := by rw [O.sc]; exact h1
        have hw := swP_ok (k := k) (k2 := k2) (p := p) (p2 := p2) hk h1'
        -- a name's own facts
        have nmT : ∀ {x : Str} {px : Pos} {t : Tg}, cT (cE n) c 8 (.Name x px) = some t → ∃ i, t = .name i ∧ c.sto x = true ∧ ixOf c.N x = some i := fun {x px t} h => by
          have h' : (if c.sto x = true then (ixOf c.N x).map Tg.name else none) = some t := h
          split at h'
          · rename_i hs
            cases w : ixOf c.N x with
            | none => rw [w] at h'; cases h'
            | some i => rw [w] at h'; cases h'; exact ⟨i, rfl, hs, rfl⟩
          · cases h'
        split at h
        · rename_i x px y py a b i j
          split at h
          · rename_i hij
            cases h
            obtain ⟨b1, m1, w1, w2, e1⟩ := mapL_cons h2
            obtain ⟨b2, m2, w3, w4, e2⟩ := mapL_cons w2
            have e3 := mapL_nil w4
            subst e3 e2
            cases e1
            obtain ⟨i', e4, s1, x1⟩ := nmT w1
            obtain ⟨j', e5, s2, x2⟩ := nmT w3
            cases e4
            cases e5
            -- the names are locals, both
            have loc : X.env.scope.names.lookup x = some .local ∧ X.env.scope.names.lookup y = some .local ∧ nm = [x, y] := by
              unfold swP at h1'
              split at h1'
              · cases h1'
              · split at h1'
                · cases h1'
                · split at h1'
                  · cases h1'
                  · rename_i hl
                    split at h1'
                    · cases h1'
                    · split at h1'
                      · cases h1'
                      · cases h1'
                        by_cases c1 : (X.env.scope.names.lookup x == some .local && px.line == ((some (px.line))).getD 0) = true
                        · by_cases c2 : (X.env.scope.names.lookup y == some .local && py.line == ((some (px.line))).getD 0) = true
                          · have d1 : X.env.scope.names.lookup x = some .local := by rw [Bool.and_eq_true] at c1; simpa using c1.1
                            have d2 : X.env.scope.names.lookup y = some .local := by rw [Bool.and_eq_true] at c2; simpa using c2.1
                            refine ⟨d1, d2, ?_⟩
                            simp only [List.filterMap_cons, List.filterMap_nil, List.head?_cons, Option.map_some, Expr.pos]
                            simp only [c1, c2, if_true]
                          · exfalso
                            apply hl
                            simp only [List.filterMap_cons, List.filterMap_nil, List.head?_cons, Option.map_some, Expr.pos]
                            simp only [c1, c2, if_true, if_false]
                            rfl
                        · exfalso
                          apply hl
                          simp only [List.filterMap_cons, List.filterMap_nil, List.head?_cons, Option.map_some, Expr.pos]
                          by_cases c2 : (X.env.scope.names.lookup y == some .local && py.line == ((some (px.line))).getD 0) = true
                          · simp only [c1, c2, if_true, if_false]
                            rfl
                          · simp only [c1, c2, if_false]
                            rfl
            obtain ⟨l1, l2, rfl⟩ := loc
            have := ps_par2D (pos := pos) O.calm hN (by rw [O.N]; exact ixOf_at x1) (by rw [O.N]; exact ixOf_at x2) hij l1 l2 (goodR g hp h3) hw
            have e6 : evS cf fuel (.par [.name i, .name j] m) = parS 2 (fun ev => evR cf m ev) (fun rs e => match rs with | [r, s] => (store i r.sl e).bind fun _ e => store j s.sl e | _ => .er) := by
              funext e
              unfold parS
              show (evR cf m e).bind _ = (evR cf m e).bind _
              congr 1
              funext rs e
              show (if rs.length = 2 ∧ 2 ≤ 1000 then (evAsgs cf [.name i, .name j] rs e).bind fun _ e => Rs.ok Fl.nx e else .er) = _
              cases rs with
              | nil => rfl
              | cons r rs =>
                cases rs with
                | nil => rfl
                | cons r2 rs =>
                  cases rs with
                  | cons _ _ => simp
                  | nil =>
                    show (if _ then ((store i r.sl e).bind fun _ e => (store j r2.sl e).bind fun _ e => Rs.ok () e).bind _ else _) = _
                    have : (fun (_ : Unit) (e : Ev) => (store j r2.sl e).bind fun _ e => Rs.ok () e) = fun _ e => store j r2.sl e := by funext _ e; exact bindOk _
                    rw [this]
            rw [e6]
            exact this
          · cases h
        · rename_i x px y py z pz a b d i j l'
          split at h
          · rename_i hij
            cases h
            obtain ⟨b1, m1, w1, w2, e1⟩ := mapL_cons h2
            obtain ⟨b2, m2, w3, w4, e2⟩ := mapL_cons w2
            obtain ⟨b3, m3, w5, w6, e3⟩ := mapL_cons w4
            have e4 := mapL_nil w6
            subst e4 e3 e2
            cases e1
            obtain ⟨i', e5, s1, x1⟩ := nmT w1
            obtain ⟨j', e6, s2, x2⟩ := nmT w3
            obtain ⟨k', e7, s3, x3⟩ := nmT w5
            cases e5
            cases e6
            cases e7
            have loc : X.env.scope.names.lookup x = some .local ∧ X.env.scope.names.lookup y = some .local ∧ X.env.scope.names.lookup z = some .local ∧ nm = [x, y, z] := by
              unfold swP at h1'
              split at h1'
              · cases h1'
              · split at h1'
                · cases h1'
                · split at h1'
                  · cases h1'
                  · rename_i hl
                    split at h1'
                    · cases h1'
                    · split at h1'
                      · cases h1'
                      · cases h1'
                        by_cases c1 : (X.env.scope.names.lookup x == some .local && px.line == ((some (px.line))).getD 0) = true <;> by_cases c2 : (X.env.scope.names.lookup y == some .local && py.line == ((some (px.line))).getD 0) = true <;> by_cases c3 : (X.env.scope.names.lookup z == some .local && pz.line == ((some (px.line))).getD 0) = true
                        · have d1 : X.env.scope.names.lookup x = some .local := by rw [Bool.and_eq_true] at c1; simpa using c1.1
                          have d2 : X.env.scope.names.lookup y = some .local := by rw [Bool.and_eq_true] at c2; simpa using c2.1
                          have d3 : X.env.scope.names.lookup z = some .local := by rw [Bool.and_eq_true] at c3; simpa using c3.1
                          refine ⟨d1, d2, d3, ?_⟩
                          simp only [List.filterMap_cons, List.filterMap_nil, List.head?_cons, Option.map_some, Expr.pos]
                          simp only [c1, c2, c3, if_true]
                        all_goals
                          exfalso
                          apply hl
                          simp only [List.filterMap_cons, List.filterMap_nil, List.head?_cons, Option.map_some, Expr.pos]
                          simp only [c1, c2, c3, if_true, if_false]
                          rfl
            obtain ⟨l1, l2, l3, rfl⟩ := loc
            have := ps_par3D (pos := pos) O.calm hN (by rw [O.N]; exact ixOf_at x1) (by rw [O.N]; exact ixOf_at x2) (by rw [O.N]; exact ixOf_at x3) hij.1 hij.2.1 hij.2.2 l1 l2 l3 (goodR g hp h3) hw
            have e8 : evS cf fuel (.par [.name i, .name j, .name l'] m) = parS 3 (fun ev => evR cf m ev) (fun rs e => match rs with | [r, s, t] => (store i r.sl e).bind fun _ e => (store j s.sl e).bind fun _ e => store l' t.sl e | _ => .er) := by
              funext e
              unfold parS
              show (evR cf m e).bind _ = (evR cf m e).bind _
              congr 1
              funext rs e
              show (if rs.length = 3 ∧ 3 ≤ 1000 then (evAsgs cf [.name i, .name j, .name l'] rs e).bind fun _ e => Rs.ok Fl.nx e else .er) = _
              cases rs with
              | nil => rfl
              | cons r rs =>
                cases rs with
                | nil => rfl
                | cons r2 rs =>
                  cases rs with
                  | nil => rfl
                  | cons r3 rs =>
                    cases rs with
                    | cons _ _ => simp
                    | nil =>
                      show (if _ then ((store i r.sl e).bind fun _ e => (store j r2.sl e).bind fun _ e => (store l' r3.sl e).bind fun _ e => Rs.ok () e).bind _ else _) = _
                      have : (fun (_ : Unit) (e : Ev) => (store l' r3.sl e).bind fun _ e => Rs.ok () e) = fun _ e => store l' r3.sl e := by funext _ e; exact bindOk _
                      rw [this]
            rw [e8]
            exact this
          · cases h
        · cases h
      · cases h
    · cases h
  · rename_i x p
    split at h
    · rename_i t e h1 h2
      cases h
      have h' : (if c.sto x = true then (ixOf c.N x).map Tg.name else none) = some t := h1
      split at h'
      · rename_i hs
        cases w : ixOf c.N x with
        | none => rw [w] at h'; cases h'
        | some i =>
          rw [w] at h'
          cases h'
          by_cases hc : isComp v = true
          · cases n with
            | zero => cases h2
            | succ n =>
              cases v with
              | ListComp elt gens scope cpos =>
                obtain ⟨tg, iter, ifs, rfl⟩ := comp_shape (rec := cE n) h2
                exact setComp O (n + 1) hs w h2
              | SetComp elt gens scope cpos => cases h2
              | DictComp kx vx gens scope cpos => cases h2
              | _ => cases hc
          · have hc' : isComp v = false := by simpa using hc
            obtain ⟨q1, q2, q3⟩ := O.sto hs
            exact ps_asgD (S := [i]) (g v e h2).pe (pg_nameD (pg_name hN (by rw [O.N]; exact ixOf_at w) q1 q2) (List.mem_singleton.mpr rfl)) (sws_plain hc') rfl rfl
      · cases h'
    · cases h
  · rename_i ts k p hn2
    split at h
    · rename_i t e h1 h2
      cases h
      obtain ⟨p1, p2⟩ := cT_ok O g 8 (.Tuple ts k p) t h1 fun j hj => hj
      refine ps_asgD (S := tgs t) (g v e h2).pe p1 sws_tup ?_ (by rw [tgtE p2]; rfl)
      cases v with
      | Tuple vs k2 p2 => exact absurd rfl (hn2 _ _ _)
      | _ => rfl
    · cases h
  · rename_i hn1 hn3 hn2
    split at h
    · cases h
    · rename_i hc
      have hc' : isComp v = false := by simpa using hc
      split at h
      · rename_i t e h1 h2
        cases h
        obtain ⟨p1, p2⟩ := cT_ok O g 8 tg t h1 fun j hj => hj
        refine ps_asgD (S := tgs t) (g v e h2).pe p1 (sws_plain hc') ?_ (by rw [tgtE p2]; rfl)
        cases tg with
        | Tuple ts k p =>
          cases v with
          | Tuple vs k2 p2 => exact absurd hn2 (by simp)
          | _ => rfl
        | Name x p => rfl
        | Subscript a i p => rfl
        | _ => cases h1
      · cases h
theorem evSs_cons {cf : Nat → List Sl → Cr.CR} {fuel : Nat} {s : CS} {r : List CS} : evSs cf fuel (s :: r) = fun e => (evS cf fuel s e).bind fun f e => match f with
    | .nx => evSs cf fuel r e
    | f => .ok f e := by
  funext e
  rfl
theorem stepS_ok (O : Okc X W cf cv c) (hp : PassesOwn (model X.prog X.w) X.A X.env X.xe) {n fuel : Nat} {rec : List Stmt → Option (List CS)} (hr : ∀ ss ir, rec ss = some ir → PSs X ss (tS X.K W cv (evSs cf fuel ir))) {s : Stmt} {ir : CS} (h : stepS n c rec s = some ir) : PS X s (tS X.K W cv (evS cf fuel ir)) := by
  have g : GoodF X W cf cv (cE n c) := fun e ce => cE_ok n X W c e ce O
  have hN : X.N.Nodup := by rw [O.N]; exact O.nd
  unfold stepS at h
  split at h
  · exact cAsg_ok O h
  · rename_i x p o e pos
    split at h
    · rename_i hc
      split at h
      · rename_i i ce h1 h2
        cases h
        obtain ⟨q1, q2, q3⟩ := O.sto hc.1
        have ho : o = .Add ∨ o = .Sub := by
          cases o <;> first | exact .inl rfl | exact .inr rfl | cases hc.2
        have := ps_augD (W := W) (cv := cv) (p := p) (pos := pos) ho hN (by rw [O.N]; exact ixOf_at h1) q1 (g e ce h2).op q2
        exact this
      · cases h
    · cases h
  · cases h; exact ps_docD
  · rename_i e pos _
    split at h
    · cases h
    · rename_i hc
      have hc' : isComp e = false := by simpa using hc
      cases w : cE n c e with
      | none => rw [w] at h; cases h
      | some ce =>
        rw [w] at h
        cases h
        exact ps_exD (g e ce w).pe (sw_plain hc')
  · cases h; exact ps_retND
  · rename_i e pos
    cases w : cE n c e with
    | none => rw [w] at h; cases h
    | some ce =>
      rw [w] at h
      cases h
      have ge := g e ce w
      cases ce with
      | var i => exact ps_retV (ge.var i rfl)
      | _ => exact ps_retD ge.pe
  · rename_i t a b pos
    split at h
    · rename_i ht
      split at h
      · rename_i ct ca cb h1 h2 h3
        cases h
        exact ps_ifD ((g t ct h1).pt ht) (hr a ca h2) (hr b cb h3)
      · cases h
    · cases h
  · rename_i t b pos
    split at h
    · rename_i ht
      split at h
      · rename_i ct cb h1 h2
        cases h
        exact ps_whileD (n := fuel) hp ((g t ct h1).pt ht) (hr b cb h2)
      · cases h
    · cases h
  · rename_i tg iter b pos
    split at h
    · rename_i hpl
      split at h
      · rename_i it t cb h1 h2 h3
        cases h
        exact ps_forD hp O.calm (cI_ok O g h1) (cT_ok O g 8 tg t h2 fun j hj => hj).1 (hr b cb h3) hpl
      · cases h
    · cases h
  · cases h; exact ps_passD
  · cases h; exact ps_brkD
  · cases h; exact ps_contD
  · rename_i x p m k p2 p3 pos
    split at h
    · rename_i hg
      obtain ⟨gx, ox⟩ := O.gl hg
      obtain ⟨o1, o2, o3⟩ := okN_at ox
      cases w : c.exs.lookup x with
      | none => rw [w] at h; cases h
      | some j =>
        rw [w] at h
        cases h
        obtain ⟨C, bmB, B, newId, initId, e1, F, q, gC, kC, r⟩ := O.exs x j w
        refine ps_raiseD O.calm O.tk ?_
        rw [e1]
        exact pmk_own F q gC kC r gx o1
    · cases h
  · cases h
theorem cSs_ok (O : Okc X W cf cv c) (hp : PassesOwn (model X.prog X.w) X.A X.env X.xe) {n fuel : Nat} : ∀ (m : Nat) (ss : List Stmt) (ir : List CS), cSs n c m ss = some ir → PSs X ss (tS X.K W cv (evSs cf fuel ir))
  | 0, ss, ir, h => by cases h
  | m + 1, ss, ir, h => by
    have h' : mapL (stepS n c (cSs n c m)) ss = some ir := h
    have : ∀ (ss : List Stmt) (ir : List CS), mapL (stepS n c (cSs n c m)) ss = some ir → PSs X ss (tS X.K W cv (evSs cf fuel ir)) := by
      intro ss
      induction ss with
      | nil => intro ir h; cases h; exact pss_nilD
      | cons s ss ih =>
        intro ir h
        obtain ⟨b, l, h1, h2, rfl⟩ := mapL_cons h
        rw [evSs_cons]
        exact pss_consD (stepS_ok O hp (fun ss ir => cSs_ok O hp m ss ir) h1) (ih l h2)
    exact this ss ir h'
end
end Cr
set_option Elab.async false
set_option linter.all false
set_option maxRecDepth 100000
set_option maxHeartbeats 4000000
namespace Cr
open PySem PySem.Spec PyProof.Rows L2
/-! ### a def's body -/
theorem outOk_at : ∀ {as e : List Sl}, outOk as e = true → as.length ≤ e.length → ∀ {i : Nat} {b : Bool} {d : D}, as[i]? = some (Sl.mu b d) → (∃ d', e[i]? = some (Sl.mu true d')) ∨ ∃ d', e[i]? = some (Sl.frz d')
  | [], _, _, _, i, b, d, h => by simp at h
  | _ :: _, [], _, hl, _, _, _, _ => by simp at hl
  | a :: as, s :: e, ho, hl, 0, b, d, h => by
    simp at h
    subst h
    cases s with
    | mu c d' =>
      cases c with
      | true => exact .inl ⟨d', by simp⟩
      | false => cases ho
    | frz d' => exact .inr ⟨d', by simp⟩
    | un => cases ho
    | val _ => cases ho
  | a :: as, s :: e, ho, hl, i + 1, b, d, h => by
    have ho' : outOk as e = true := by
      cases a with
      | mu c d' =>
        cases s with
        | mu c2 _ =>
          cases c2 with
          | true => exact ho
          | false => cases ho
        | frz _ => exact ho
        | un => cases ho
        | val _ => cases ho
      | un => cases s <;> exact ho
      | val _ => cases s <;> exact ho
      | frz _ => cases s <;> exact ho
    have := outOk_at ho' (by simpa using hl) (i := i) (by simpa using h)
    simpa using this
section
variable {K : PySem.W.Frag} {cv : Nat → Value}
theorem start_rel {as : List Sl} {vs : List V} {H : Hp} {Z : Addr → Prop} {la : Nat → Option Addr} {N : List Str} {m : Nat} (A : ArgR K as vs H Z la) (hm : N.length = as.length + m) : Rel K ⟨H, Z, la⟩ (as ++ List.replicate m .un) (L2.start N vs) H Z := by
  have e1 : as.length = vs.length := A.len
  have lo : ∀ {i : Nat} {s : Sl}, (as ++ List.replicate m .un)[i]? = some s → (i < as.length ∧ as[i]? = some s ∧ ∃ v, vs[i]? = some v ∧ (L2.start N vs)[i]? = some (some v)) ∨ s = .un := fun {i s} h => by
    by_cases hi : i < as.length
    · rw [List.getElem?_append_left hi] at h
      have hv : vs[i]? = some vs[i] := List.getElem?_eq_getElem (by omega)
      refine .inl ⟨hi, h, vs[i], hv, ?_⟩
      unfold L2.start
      rw [List.getElem?_append_left (by rw [List.length_map]; omega), List.getElem?_map, hv]
      rfl
    · rw [List.getElem?_append_right (by omega), List.getElem?_replicate] at h
      split at h <;> cases h
      exact .inr rfl
  refine ⟨?_, fun i s h => ?_, fun i j b d b' d' a h1 h2 h3 h4 => ?_, A.zs, fun a h _ => h, fun a h => .inl h, fun a o h _ => h, fun i a h => ?_, fun a h => h, A.zs⟩
  · unfold L2.start
    rw [List.length_append, List.length_replicate, List.length_append, List.length_map, List.length_replicate]
    omega
  · rcases lo h with ⟨hi, h1, v, h2, h3⟩ | rfl
    · rw [h3]
      rcases A.no i s h1 with ⟨d, rfl⟩ | ⟨b, d, rfl⟩
      · obtain ⟨v', w1, w2⟩ := A.val i d h1
        rw [h2] at w1
        cases w1
        exact ⟨v, rfl, w2⟩
      · obtain ⟨hb, a, w1, w2, w3, w4⟩ := A.mu i b d h1
        rw [h2] at w1
        cases w1
        subst hb
        exact ⟨a, rfl, w3, w4, fun _ => w2, fun q => by cases q⟩
    · trivial
  · rcases lo h1 with ⟨p1, p2, v, p3, p4⟩ | q
    · rcases lo h2 with ⟨q1, q2, w, q3, q4⟩ | q
      · obtain ⟨_, a1, r1, r2, _⟩ := A.mu i b d p2
        obtain ⟨_, a2, s1, s2, _⟩ := A.mu j b' d' q2
        rw [p4] at h3
        rw [q4] at h4
        cases h3
        cases h4
        rw [p3] at r1
        rw [q3] at s1
        cases r1
        cases s1
        exact A.inj i j _ r2 s2
      · cases q
    · cases q
  · obtain ⟨b, d, h1⟩ := A.lam i a h
    obtain ⟨_, a', r1, r2, r3, r4⟩ := A.mu i b d h1
    have h' : la i = some a := h
    rw [h'] at r2
    cases r2
    exact A.zs a r3
theorem end_bk {as e' : List Sl} {vs : List V} {H H' : Hp} {Z Z' : Addr → Prop} {la : Nat → Option Addr} {σ' : L2.St} {n : Nat} (A : ArgR K as vs H Z la) (R : Rel K ⟨H, Z, la⟩ e' σ' H' Z') (ho : outOk as e' = true) (hn : as.length = n) (hl : as.length ≤ e'.length) : Bk K la (e'.take n) H Z H' Z' := by
  refine ⟨fun a u h1 h2 => R.fr a u h1 h2, fun a h1 h2 => R.kz a h1 h2, R.zn, R.zs, R.th, fun i a h => ?_⟩
  obtain ⟨b, d, h1⟩ := A.lam i a h
  have hi : i < n := by rw [← hn]; exact (List.getElem?_eq_some_iff.mp h1).1
  rcases outOk_at ho hl h1 with ⟨d', q⟩ | ⟨d', q⟩
  · left
    obtain ⟨a', e1, z, c, f1, _⟩ := R.sl i _ q
    have := f1 rfl
    have h' : la i = some a' := this
    rw [h] at h'
    cases h'
    exact ⟨true, d', by rw [List.getElem?_take_of_lt hi]; exact q, z, c⟩
  · right
    obtain ⟨a', e1, f1, c⟩ := R.sl i _ q
    have h' : la i = some a' := f1
    rw [h] at h'
    cases h'
    exact ⟨d', by rw [List.getElem?_take_of_lt hi]; exact q, c⟩
theorem runD_red {cf : Nat → List Sl → Cr.CR} {fuel : Nat} {fd : FD} {N : List Str} {vs : List V} {H : Hp} {Q : VK} {E : XK} (hN : N.length = fd.nl) (hp : fd.np ≤ fd.nl) (h : spC K cv (runD cf fuel fd) vs H Q E) :
    vs.length = fd.np ∧ tS K (fun cls d _ H' => E cls d H') cv (evSs cf fuel fd.body) { nx := fun _ H' => Q .non H', rt := Q } (L2.start N vs) H := by
  obtain ⟨as, Z, la, A, h⟩ := h
  unfold runD at h
  split at h
  · rename_i hl
    refine ⟨A.len.symm.trans hl, ⟨H, Z, la⟩, as ++ List.replicate (fd.nl - fd.np) .un, Z, start_rel A (by omega), ?_⟩
    have len : ∀ {e' : Ev} {σ' : L2.St} {H' : Hp} {Z' : Addr → Prop}, Rel K ⟨H, Z, la⟩ e' σ' H' Z' → True := fun _ => trivial
    -- the slots' number stays
    generalize hm : evSs cf fuel fd.body (as ++ List.replicate (fd.nl - fd.np) .un) = m at h ⊢
    cases m with
    | er => exact h
    | ex x e' =>
      dsimp only at h
      split at h
      · rename_i ho
        have ho' : outOk as e' = true ∧ as.length ≤ e'.length := by
          rw [Bool.and_eq_true] at ho
          exact ⟨ho.1, of_decide_eq_true ho.2⟩
        exact fun σ' H' Z' R l => h H' Z' (end_bk A R ho'.1 hl ho'.2)
      · exact h.elim
    | ok f e' =>
      cases f with
      | bk => exact h.elim
      | ct => exact h.elim
      | nx =>
        dsimp only at h
        split at h
        · rename_i ho
          have ho' : outOk as e' = true ∧ as.length ≤ e'.length := by
            rw [Bool.and_eq_true] at ho
            exact ⟨ho.1, of_decide_eq_true ho.2⟩
          exact fun σ' H' Z' R l => h .non H' Z' (end_bk A R ho'.1 hl ho'.2) .non
        · exact h.elim
      | rt r =>
        dsimp only at h
        split at h
        · rename_i ho
          have ho' : outOk as e' = true ∧ as.length ≤ e'.length := by
            rw [Bool.and_eq_true] at ho
            exact ⟨ho.1, of_decide_eq_true ho.2⟩
          refine fun v σ' H' Z' R l rv => h v H' Z' (end_bk A R ho'.1 hl ho'.2) ?_
          cases r with
          | fz d => exact rv
          | fr d =>
            obtain ⟨a, e1, z, c, _, f⟩ := rv
            exact ⟨a, e1, z, c, f⟩
        · exact h.elim
  · exact h.elim
end
/-! ### THE RULE for a def -/
section
variable {P : Program} {w : World} {K : PySem.W.Frag} {mg : Str → Option Value} {base : Heap} {x qual : Str} {params : Arguments} {body : List Stmt} {scope : Scope} {f : Addr} {fd : FuncData} {cv : Nat → Value}
theorem fnG_of {N ps : List Str} {k : Nat} {sp : Sp} (F : FunD K x qual params body scope [] [] f fd) (S : FnScope N ps scope) (len : ∀ vs H Q E, sp vs H Q E → vs.length = ps.length)
    (hbody : ∀ (cdv : Value) (A : Around) (outer : List Env) (s : Shared) (H : Hp) (vs : List V) (Q : VK) (E : XK), Room k (A.deeper (envOfC qual scope s.heap.objs.size f cdv)) → (A.deeper (envOfC qual scope s.heap.objs.size f cdv)).guards = some [] → sp vs H Q E →
      ∃ t, PSs (cxOf (L2.CX P w) P w K mg base N qual scope f cdv A outer s H E) body t ∧ t { nx := fun _ H' => Q .non H', rt := Q } (L2.start N vs) H) : FnG P w K mg base (k + 1) f fd ps sp := by
  obtain ⟨oc, od, dV, kV, doc, pm, an, cdv, ct, osl, rfl, lk, hcd, _, _⟩ := F.ex
  refine ⟨len, fun A outer s H args us vs Q E hr hgd e0 hb r hsp => ?_⟩
  have hl := len _ _ _ _ hsp
  have KX : K.In s.heap := e0.mod.kin.keeps fun b o e => (e0.bs b o e).1
  have lim : s.heap.NoLimit := e0.mod.nolimit.keeps fun b o e => (e0.bs b o e).1
  have hkind : ∀ y ∈ ps.zip us, scope.names.lookup y.1 = some .local ∨ (scope.names.lookup y.1 = some .cell ∧ ((cellsFrom (s.heap.objs.size + 1) scope.names []).lookup y.1).isSome = true) := fun ⟨n, v⟩ hy => by
    rcases S.par n (List.of_mem_zip hy).1 with q | q
    · exact .inl q
    · exact .inr ⟨q, PySem.W.cellsFrom_some _ _ _ (.inl q)⟩
  refine codeAny_call_function hr.depth (KX _ _ lk) rfl S.co S.gen rfl (PySem.W.codeRec_of KX hcd) (hb _ _ _ _ ?_)
  refine wpAny_newFunctionEnv_cells S.kind hkind fun env he s1 x => ?_
  subst he
  refine ⟨lim.keeps x.toInCall.keep, codeAny_func ?_⟩
  obtain ⟨t, ht, hq⟩ := hbody cdv A outer s H vs Q E (hr.deeper _) hgd hsp
  have I : Inv (cxOf (L2.CX P w) P w K mg base N qual scope f cdv A outer s H E) [] (L2.start N vs) H s1 := inv_start S hr.hd e0 hl r x
  refine wpAny_mono (ht.run [] s1 (L2.start N vs) H _ I hq) (fun fl s' hs => ?_) fun e s' hs => hs
  cases fl with
  | ret u =>
    obtain ⟨v, σ', H', J, rv, q⟩ := hs
    exact ⟨v, H', J.os, J.bare, J.base, J.hok, rv, q⟩
  | next =>
    obtain ⟨σ', H', J, q⟩ := hs
    exact ⟨.non, H', J.os, J.bare, J.base, J.hok, rfl, q⟩
  | brk =>
    obtain ⟨_, _, _, q⟩ := hs
    exact False.elim q
  | cont =>
    obtain ⟨_, _, _, q⟩ := hs
    exact False.elim q
end
/-! ### a text's table of defs -/
/-- what all defs of a text share -/
structure Gt where
  fns : List (Str × Nat)
  kw : List (Str × Nat × List Str × List Nat)
  cst : List (Str × D)
  bl : List Str
  exs : List (Str × Nat)
  c1 : List Str
structure Ent where
  x : Str
  qual : Str
  params : Arguments
  body : List Stmt
  scope : Scope
  ps : List Str
  N : List Str
  kw : List (Nat × List Str × List Nat)
  ir : List CS
/-- of all things in a list -/
def AllP {α : Type} (P : α → Prop) : List α → Prop
  | [] => True
  | a :: r => P a ∧ AllP P r
theorem AllP.at {α : Type} {P : α → Prop} : ∀ {l : List α}, AllP P l → ∀ a ∈ l, P a
  | a :: r, h, b, hb => by
    rcases List.mem_cons.mp hb with e | hb
    · rw [e]; exact h.1
    · exact AllP.at h.2 b hb
theorem lk_mem {α : Type} : ∀ {l : List (Str × α)} {x : Str} {v : α}, l.lookup x = some v → (x, v) ∈ l
  | [], x, v, h => by cases h
  | (y, u) :: r, x, v, h => by
    rw [List.lookup_cons] at h
    cases q : x == y with
    | true =>
      rw [q] at h
      have e : x = y := by simpa using q
      subst e
      cases h
      exact List.mem_cons_self
    | false =>
      rw [q] at h
      exact List.mem_cons_of_mem _ (lk_mem h)
def ccOf (G : Gt) (e : Ent) : Cc := ⟨e.N, e.scope, e.scope, G.fns, G.kw, G.cst, G.bl, G.exs, G.c1⟩
def Ent.fd (e : Ent) : FD := ⟨e.ps.length, e.N.length, e.ir⟩
def entC (e : Ent) (G : Gt) : Bool := (match cSs 40 (ccOf G e) 40 e.body with | some _ => true | none => false)
/-- what is shown of an entry by looking at the text -/
structure EntT (G : Gt) (e : Ent) : Prop where
  sc : FnScope e.N e.ps e.scope
  ir : cSs 40 (ccOf G e) 40 e.body = some e.ir
  np : e.ps.length ≤ e.N.length
  binds : ∀ (kV doc pm : Value) (an : Option Addr) (cdv ct : Value) (us : List Value), us.length = e.ps.length → bindArgs (PySem.W.fnOf e.x e.qual e.params e.body e.scope .none kV doc pm an cdv ct) ⟨us, []⟩ = pure (e.ps.zip us)
  kwc : (G.kw.all fun p => !decide (p.1 = e.x) || decide (p.2 ∈ e.kw)) = true
  kw : AllP (fun q => ∀ (kV doc pm : Value) (an : Option Addr) (cdv ct : Value) (us ws : List Value), us.length = q.1 → ws.length = q.2.1.length → bindArgs (PySem.W.fnOf e.x e.qual e.params e.body e.scope .none kV doc pm an cdv ct) ⟨us, q.2.1.zip ws⟩ = pure (e.ps.zip (permV q.2.2 (us ++ ws)))) e.kw
theorem EntT.kwAt {G : Gt} {e : Ent} (T : EntT G e) {n : Nat} {ks : List Str} {perm : List Nat} (h : (e.x, n, ks, perm) ∈ G.kw) (kV doc pm : Value) (an : Option Addr) (cdv ct : Value) (us ws : List Value) (h1 : us.length = n) (h2 : ws.length = ks.length) : bindArgs (PySem.W.fnOf e.x e.qual e.params e.body e.scope .none kV doc pm an cdv ct) ⟨us, ks.zip ws⟩ = pure (e.ps.zip (permV perm (us ++ ws))) := by
  have c := List.all_eq_true.mp T.kwc _ h
  have m : (n, ks, perm) ∈ e.kw := by simpa using c
  exact T.kw.at _ m kV doc pm an cdv ct us ws h1 h2
/-- what is shown of the module behind the top -/
structure GtOk (K : PySem.W.Frag) (mg : Str → Option Value) (cv : Nat → Value) (G : Gt) (tab : List Ent) : Prop where
  fns : ∀ x i, G.fns.lookup x = some i → ∃ e fa fd, tab[i]? = some e ∧ e.x = x ∧ EntT G e ∧ FunD K e.x e.qual e.params e.body e.scope [] [] fa fd ∧ mg x = some (.ref fa)
  cst : ∀ x d, G.cst.lookup x = some d → ∃ v u, mg x = some u ∧ RelV v u ∧ ∀ H, Dv K H v d
  bl : ∀ x ∈ G.bl, mg x = none
  exs : ∀ x j, G.exs.lookup x = some j → ∃ C, cv j = .ref C ∧ PySem.W.excIn K C He.veBase "ValueError.__new__" = true ∧ mg x = some (.ref C) ∧ PySem.W.keepIn K (.ref C) = true ∧ PySem.W.subIn K (.ref C) (.type "BaseException") = some true ∧ PySem.W.typeIn K (.ref C) = some (.type "type")
  sys : ∃ o, K.lookup sysModules = some o
theorem GtOk.mk' {K : PySem.W.Frag} {mg : Str → Option Value} {cv : Nat → Value} {G : Gt} {tab : List Ent}
    (fns : AllP (fun p => ∃ e fa fd, tab[p.2]? = some e ∧ e.x = p.1 ∧ EntT G e ∧ FunD K e.x e.qual e.params e.body e.scope [] [] fa fd ∧ mg p.1 = some (.ref fa)) G.fns)
    (cst : AllP (fun p => ∃ v u, mg p.1 = some u ∧ RelV v u ∧ ∀ H, Dv K H v p.2) G.cst) (bl : AllP (fun x => mg x = none) G.bl)
    (exs : AllP (fun p => ∃ C, cv p.2 = .ref C ∧ PySem.W.excIn K C He.veBase "ValueError.__new__" = true ∧ mg p.1 = some (.ref C) ∧ PySem.W.keepIn K (.ref C) = true ∧ PySem.W.subIn K (.ref C) (.type "BaseException") = some true ∧ PySem.W.typeIn K (.ref C) = some (.type "type")) G.exs)
    (sys : ∃ o, K.lookup sysModules = some o) : GtOk K mg cv G tab :=
  ⟨fun x i h => fns.at _ (lk_mem h), fun x d h => cst.at _ (lk_mem h), fun x h => bl.at x h, fun x j h => exs.at _ (lk_mem h), sys⟩
theorem room_un {k : Nat} {A : Around} (r : Room k A) : A.units + 65 < cLine := by
  have := r.un
  omega
section
variable {P : Program} {w : World} {K : PySem.W.Frag} {mg : Str → Option Value} {base : Heap} {cv : Nat → Value} {G : Gt} {tab : List Ent} {fuel : Nat}
def ftOf (tab : List Ent) : Nat → Option FD := fun i => (tab[i]?).map Ent.fd
theorem binds_of {e : Ent} {f : Addr} {fd : FuncData} (T : EntT G e) (F : FunD K e.x e.qual e.params e.body e.scope [] [] f fd) : Binds K fd e.ps [] := F.bindsN T.binds
theorem kwb_of {e : Ent} {f : Addr} {fd : FuncData} (T : EntT G e) (F : FunD K e.x e.qual e.params e.body e.scope [] [] f fd) {n : Nat} {ks : List Str} {perm : List Nat} (h : (e.x, n, ks, perm) ∈ G.kw) : KwB K fd e.ps n ks perm := by
  obtain ⟨oc, od, dV, kV, doc, pm, an, cdv, ct, osl, rfl, lk, hcd, hD, hK⟩ := F.ex
  rcases hD with ⟨_, rfl⟩ | ⟨e, _⟩
  · exact fun s us ws _ h1 h2 => .of_eq (T.kwAt h kV doc pm an cdv ct us ws h1 h2)
  · exact absurd rfl e
theorem tab_ok (B : ExcBaseFacts "ValueError" "ValueError.__new__" "ValueError.__init__" He.veBase ∨ ∀ x, G.exs.lookup x = none) (ok : GtOk K mg cv G tab) : ∀ (n : Nat) (x : Str) (i : Nat) (e : Ent) (f : Addr) (fd : FuncData), G.fns.lookup x = some i → tab[i]? = some e → EntT G e → FunD K e.x e.qual e.params e.body e.scope [] [] f fd → FnG P w K mg base n f fd e.ps (spC K cv (callN (ftOf tab) fuel n i))
  | 0, x, i, e, f, fd, _, _, _, _ => ⟨fun vs H Q E ⟨as, Z, la, A, h⟩ => h.elim, fun A outer s H args us vs Q E _ _ _ _ _ ⟨as, Z, la, _, h⟩ => h.elim⟩
  | n + 1, x, i, e, f, fd, hx, hi, T, F => by
    have e1 : callN (ftOf tab) fuel (n + 1) i = runD (callN (ftOf tab) fuel n) fuel e.fd := by
      funext as
      show (match ftOf tab i with | some fd => runD (callN (ftOf tab) fuel n) fuel fd as | none => .er) = _
      unfold ftOf
      rw [hi]
      rfl
    rw [e1]
    refine fnG_of F T.sc (fun vs H Q E h => (runD_red (N := e.N) rfl T.np h).1) fun cdv A outer s H vs Q E hr hgd h => ⟨_, ?_, (runD_red (N := e.N) rfl T.np h).2⟩
    have O : Okc (cxOf (L2.CX P w) P w K mg base e.N e.qual e.scope f cdv A outer s H E) (fun cls d _ H' => E cls d H') (callN (ftOf tab) fuel n) cv (ccOf G e) := by
      refine ⟨⟨rfl, T.sc.nd, rfl, hgd, room_un hr, ok.sys, fun x i h => ?_, ok.cst, ok.bl, fun x j h => ?_⟩, rfl, T.sc.kind, fun x h => h, fun x h => ⟨h, rfl⟩, takes_of rfl rfl rfl rfl⟩
      · obtain ⟨e', fa, fd', h1, h2, h3, h4, h5⟩ := ok.fns x i h
        exact ⟨fa, fd', e'.ps, n, tab_ok B ok n x i e' fa fd' h h1 h3 h4, hr, h5, h4.kp, binds_of h3 h4, fun m ks perm hm => kwb_of h3 h4 (by rw [h2]; exact hm)⟩
      · obtain ⟨C, h1, h2, h3, h4, h5, h6⟩ := ok.exs x j h
        rcases B with B | B
        · exact ⟨C, He.veBase, _, _, _, h1, B, h2, h3, h4, raises_own h5 h6⟩
        · have h' : G.exs.lookup x = some j := h
          rw [B x] at h'
          cases h'
    exact cSs_ok O (passes_of rfl) 40 e.body e.ir T.ir
end
end Cr
set_option Elab.async false
set_option linter.all false
set_option maxRecDepth 100000
set_option maxHeartbeats 4000000
namespace Cr
open PySem PySem.Spec PyProof.Rows L2
/-! ### the head -/
def isLo (o : Obj) : Bool := match o.cls with
  | .type c => c == "list"
  | _ => false
/-- a part of the heap without its lists -/
def frL (g : Addr → Option Obj) (as : List Addr) : PySem.W.Frag := as.filterMap fun a => match g a with
  | some o => if isLo o = true then none else some (a, o)
  | none => none
theorem mem_lk : ∀ {l : List (Addr × Obj)} {a : Addr} {o : Obj}, l.lookup a = some o → (a, o) ∈ l
  | [], a, o, h => by cases h
  | (b, u) :: r, a, o, h => by
    rw [List.lookup_cons] at h
    cases q : a == b with
    | true =>
      rw [q] at h
      have e : a = b := beq_iff_eq.mp q
      subst e
      cases h
      exact List.mem_cons_self
    | false =>
      rw [q] at h
      exact List.mem_cons_of_mem _ (mem_lk h)
theorem frL_mem {g : Addr → Option Obj} {as : List Addr} {p : Addr × Obj} (h : p ∈ frL g as) : g p.1 = some p.2 ∧ isLo p.2 = false := by
  unfold frL at h
  obtain ⟨a, _, e⟩ := List.mem_filterMap.mp h
  cases w : g a with
  | none => rw [w] at e; cases e
  | some o =>
    rw [w] at e
    dsimp only at e
    split at e
    · cases e
    · rename_i hl
      cases e
      exact ⟨w, by simpa using hl⟩
theorem frL_at {g : Addr → Option Obj} {as : List Addr} {a : Addr} {o : Obj} (h : (frL g as).lookup a = some o) : g a = some o ∧ isLo o = false := frL_mem (p := (a, o)) (mem_lk h)
theorem frL_in {as : List Addr} {h : Heap} : (frL h.get? as).In h := fun _ _ e => (frL_at e).1
abbrev AlS : Type := Bool × He.AlD
def obsS (fa : List He.Fa) (fn : List He.DefD) (K : PySem.W.Frag) : AlS := ((K.lookup sysModules).isSome && K.all fun p => !isLo p.2, He.obsD fa fn K)
def valS (fn : List He.DefD) : AlS := (true, He.valD fn)
def SaysS (fa : List He.Fa) (fn : List He.DefD) (K : PySem.W.Frag) : Prop := obsS fa fn K = valS fn
def obsSG (n : Nat) (fa : List He.Fa) (fn : List He.DefD) (g : Addr → Option Obj) : AlS := obsS fa fn (frL g (sysModules :: He.asD g n))
def hookS (n : Nat) (fa : List He.Fa) (fn : List He.DefD) : PySem.W.Hook where
  α := AlS
  obs := fun s => obsSG n fa fn s.heap.get?
  val := fun _ => valS fn
  says := fun _ h => ∃ K : PySem.W.Frag, K.In h ∧ SaysS fa fn K
  of := fun _ _ e => ⟨_, frL_in, e⟩
  keeps := fun _ _ _ ⟨K, hK, c⟩ k => ⟨K, PySem.W.Frag.In.keeps hK k, c⟩
theorem obsSG_eq {n : Nat} {fa : List He.Fa} {fn : List He.DefD} {g : Addr → Option Obj} {s : Shared} (h : ∀ a, g a = s.heap.get? a) : obsSG n fa fn g = (hookS n fa fn).obs s := by
  have e : g = s.heap.get? := funext h
  rw [e] <;> rfl
section
variable {fa : List He.Fa} {fn : List He.DefD} {K : PySem.W.Frag}
theorem SaysS.d (c : SaysS fa fn K) : He.SaysD fa fn K := congrArg (fun z : AlS => z.2) c
theorem SaysS.sys (c : SaysS fa fn K) : ∃ o, K.lookup sysModules = some o := by
  have h := (Bool.and_eq_true_iff.mp (congrArg (fun z : AlS => z.1) c)).1
  exact Option.isSome_iff_exists.mp h
theorem SaysS.nol (c : SaysS fa fn K) {a : Addr} {o : Obj} (h : K.lookup a = some o) : isLo o = false := by
  have h1 := (Bool.and_eq_true_iff.mp (congrArg (fun z : AlS => z.1) c)).2
  have := List.all_eq_true.mp h1 (a, o) (mem_lk h)
  simpa using this
end
/-! ### the law's call -/
theorem law_callG {P : Program} {w : World} {K : PySem.W.Frag} {mg mb : Str → Option Value} {k : Nat} {fa a : Addr} {fd : FuncData} {x : Str} {sp : Sp} {s₁ : Shared} {vs : List Value} {ns : List Int}
    (KX : K.In s₁.heap) (nol : ∀ a o, K.lookup a = some o → isLo o = false) (hns : s₁.heap.Ns mainGlobals mg) (hb : s₁.heap.Ns builtinsNs mb) (hbb : ∀ x : Str, x ≠ "__name__" → mb x = bootBuiltins x) (hlim : s₁.heap.NoLimit) (hg : s₁.gens = #[])
    (ha : s₁.heap.get? a = some { cls := .type "list", data := .seq vs.toArray }) (hi : IntsAre vs ns) (hl : ns.length ≤ sizeLine) (hr : Room k callerA)
    (F : ∀ base : Heap, K.In base → base.Ns mainGlobals mg → FnG P w K mg base k fa fd [x] sp) (hbind : ∀ (s : Shared) (u : Value), BindsTo s fd ⟨[u], []⟩ [(x, u)])
    (hsp : ∀ H : Hp, Rd H a (.lst (ns.map V.int)) → sp [.ref a] H (fun v _ => v = .bl true) fun _ _ _ => False)
    (hCX : ∀ H e s', L2.CX P w [] H s₁ (fun _ _ _ => False) e s' → False) :
    codeAny (model P w) callerA (.call (.ref fa) ⟨[.ref a], []⟩) (fun r s' => r = .ok (.ret (.bool true)) ∧ OldK s₁.heap s'.heap ∧ s'.os = s₁.os ∧ AllBare s'.gens) s₁ := by
  have rv := vals_ints hi
  have hk : K.lookup a = none := by
    cases q : K.lookup a with
    | none => rfl
    | some o =>
      have e1 := KX a o q
      have e2 := nol a o q
      rw [ha] at e1
      cases e1
      cases e2
  let H : Hp := fun b => if b = a then some (.frz { cls := .type "list", data := .seq vs.toArray } (.lst (ns.map V.int))) else none
  have hHa : H a = some (.frz { cls := .type "list", data := .seq vs.toArray } (.lst (ns.map V.int))) := if_pos rfl
  have hHn : ∀ b, b ≠ a → H b = none := fun b q => if_neg q
  have hok : HOk P w H s₁.heap := fun b u z => by
    by_cases q : b = a
    · subst q
      rw [hHa] at z
      cases z
      exact ⟨ha, by rw [List.length_map]; exact hl, vs, _, rv, ha⟩
    · rw [hHn b q] at z
      cases z
  have off : ∀ {b : Addr} {o : Obj}, s₁.heap.get? b = some o → b ≠ a → (hidT s₁.heap H).get? b = some o := fun {b o} e q => hidT_get e (hHn b q)
  have noA : ∀ {b : Addr} {o : Obj} {es : Array DictEntry} {ep : Nat}, s₁.heap.get? b = some o → o.data = .dict es ep → b ≠ a := fun {b o es ep} e d q => by
    subst q
    rw [ha] at e
    cases e
    cases d
  have nsK : ∀ {b : Addr} {m : Str → Option Value}, s₁.heap.Ns b m → (hidT s₁.heap H).Ns b m := fun {b m} ⟨o, es, ep, e, d, r⟩ => ⟨o, es, ep, off e (noA e d), d, r⟩
  have hKb : K.In (hidT s₁.heap H) := fun b o e => off (KX b o e) fun q => by rw [q, hk] at e; cases e
  have hM : Mod K mg (hidT s₁.heap H) := ⟨hKb, nsK hns, ⟨mb, nsK hb, hbb⟩, let ⟨mc, h1, h2⟩ := hlim; ⟨mc, nsK h1, h2⟩⟩
  have e0 : Env0 P w K mg (hidT s₁.heap H) callerA [] s₁ H := ⟨rfl, hM, fun b o e => of_hidT e, Nat.le_of_eq (hidT_size _ _), trivial, fun b hb => absurd (show b ∈ ([] : List Addr) from hb) (by simp), hok, .of_eq hg⟩
  refine codeAny_mono ((F _ hKb (nsK hns)).run callerA [] s₁ H ⟨[.ref a], []⟩ [.ref a] [.ref a] _ _ hr rfl e0 (hbind s₁ (.ref a)) (.cons rfl .nil) (hsp H (.inr ⟨_, hHa⟩))) fun r s' h => ?_
  cases r with
  | error e => exact (hCX H e s' h).elim
  | ok fl =>
    cases fl with
    | next => exact False.elim h
    | brk => exact False.elim h
    | cont => exact False.elim h
    | ret u =>
      obtain ⟨v, H', os, bare, un, hok', r', q⟩ := h
      have q' : v = .bl true := q
      subst q'
      obtain rfl : u = Value.bool true := r'
      refine ⟨rfl, OldK.of_keep fun b o e => ?_, os, bare⟩
      by_cases q : b = a
      · subst q
        have z2 := un.frzs b _ _ hHa
        obtain ⟨e2, _⟩ := hok' b _ z2
        rw [ha] at e
        cases e
        exact e2
      · exact un.keep b o e (hHn b q) (fun z => absurd (show b ∈ ([] : List Addr) from z) (by simp)) (by simp)
theorem noCX {P : Program} {w : World} {H : Hp} {s : Shared} {e : Value} {s' : Shared} (h : L2.CX P w [] H s (fun _ _ _ => False) e s') : False := by
  obtain ⟨_, _, _, _, _, _, _, _, _, _, _, _, q⟩ := h
  exact q
/-! ### a text and its law -/
def Ent.dd (e : Ent) : He.DefD := ⟨(e.x, none), e.x, e.qual, e.params, e.body, e.scope, [], []⟩
theorem walkG {l : PySem.W.OpenLaw} {n k : Nat} {q : Program} {loose : List Str} {XP : (Str → Option Value) → Heap → Prop} {YP : World → Heap → Prop} {d : DefRec} {x : Str}
    (hn : l.most = some n) (hn2 : n ≤ sizeLine) (hdf : d.params.defaults = []) (hr : Room k callerA)
    (F : ∀ (w : World) (mg : Str → Option Value) (fa : Addr) (h : Heap), YP w h → h.Ns mainGlobals mg → mg d.name = some (.ref fa) →
      ∃ (K : PySem.W.Frag) (fd : FuncData) (sp : Sp), K.In h ∧ (∀ a o, K.lookup a = some o → isLo o = false) ∧ (∀ (s : Shared) (u : Value), BindsTo s fd ⟨[u], []⟩ [(x, u)]) ∧
        (∀ (H : Hp) (a : Addr) (ns : List Int), ns.length ≤ n → (∀ z ∈ ns, Builtin.Int.intBits z ≤ 1048576) → Rd H a (.lst (ns.map V.int)) → sp [.ref a] H (fun v _ => v = .bl true) fun _ _ _ => False) ∧
        ∀ base : Heap, K.In base → base.Ns mainGlobals mg → FnG l.prog w K mg base k fa fd [x] sp) :
    PySem.W.WalkO q loose XP YP l.row.toRowW d [] (fun f vs => PySem.call f vs) := by
  refine Att.attach_callB hn hdf fun w s₀ s₁ mg mb fa o pm cd doc a vs ns G Y ho hd hcd hmg hobj hints hlen hbits hg => ?_
  obtain ⟨K, fd, sp, KX, nol, hb, hsp, hF⟩ := F w mg fa _ Y G.T.g hmg
  exact law_callG KX nol G.T.g G.T.b G.T.builtins G.T.nolimit hg hobj hints (Nat.le_trans hlen hn2) hr hF hb (fun H hS => hsp H a ns hlen hbits hS) fun H e s' h => noCX h
/-- the scripts that are meant -/
def Scr (ns : List Int) : Prop := ns.length ≤ 63 ∧ ∀ z ∈ ns, Builtin.Int.intBits z ≤ 1048576
theorem sp_law {K : PySem.W.Frag} {cv : Nat → Value} {H : Hp} {a : Addr} {ns : List Int} {f : List Sl → Cr.CR} (hS : Rd H a (.lst (ns.map V.int))) (h : ∃ o, f [.val (.list (ns.map .int))] = .ret (.fz (.bool true)) o) : spC K cv f [.ref a] H (fun v _ => v = .bl true) fun _ _ _ => False := by
  obtain ⟨o, h⟩ := h
  have e : hid (fun _ => False) H = H := by
    funext b
    unfold hid
    simp
  refine ⟨[.val (.list (ns.map .int))], fun _ => False, fun _ => none, ⟨rfl, fun i d g => ?_, fun i b d g => ?_, fun i s g => ?_, fun i a w => (by cases w), fun i j a w => (by cases w), fun a w => w.elim⟩, ?_⟩
  · cases i with
    | zero =>
      cases g
      exact ⟨_, rfl, by rw [e]; exact .lst hS (ints_map ns)⟩
    | succ i => cases g
  · cases i with
    | zero => cases g
    | succ i => cases g
  · cases i with
    | zero => cases g; exact .inl ⟨_, rfl⟩
    | succ i => cases g
  · rw [h]
    intro v H' Z' _ rv
    cases rv
    rfl
end Cr
set_option Elab.async false
set_option linter.all false
set_option maxRecDepth 100000
set_option maxHeartbeats 4000000
/-! The pure layer: the core run over plain values, without a word on who owns a list. -/
namespace Cr
open PySem
inductive R (α : Type) where
  | ok (a : α)
  | ex (x : Nat)
  | er
def R.bind {α β : Type} (m : R α) (f : α → R β) : R β :=
  match m with
  | .ok a => f a
  | .ex x => .ex x
  | .er => .er
inductive Fo where
  | nx | bk | ct
  | rt (d : D)
abbrev PEnv := List (Option D)
abbrev PF := Fo × PEnv
abbrev RF := R PF
def pLook (p : PEnv) (i : Nat) : Option D := match p[i]? with | some o => o | none => none
abbrev Gtr := PEnv → Option D
def ret (d : D) (p : PEnv) : RF := .ok (.rt d, p)
def nxK (p : PEnv) : RF := .ok (.nx, p)
def onO {α : Type} (o : Option α) (k : α → RF) : RF := match o with | some a => k a | none => .er
def onR (o : Option Rv) (k : D → RF) : RF := match o with | some r => k r.d | none => .er
def onB (d : D) (k : Bool → RF) : RF := match d with | .bool b => k b | _ => .er
def onT (d : D) (k : List D → RF) : RF := match d with | .tuple b => k b | .list b => k b | _ => .er
def onI (d : D) (k : Int → RF) : RF := match d with | .int b => k b | _ => .er
def isLst : D → Bool
  | .list _ => true
  | _ => false
def bdV (m : RF) (k : D → PEnv → RF) : RF := m.bind fun r => match r.1 with | .rt d => k d r.2 | _ => .er
def bdS (m : RF) (k : PEnv → RF) : RF := m.bind fun r => match r.1 with | .nx => k r.2 | f => .ok (f, r.2)
def noExP (m : RF) : RF := match m with | .ok r => .ok r | _ => .er
def pO (a : CE) (f : (D → PEnv → RF) → RF) (p : PEnv) (K : Gtr → PEnv → RF) : RF :=
  match a with
  | .var i => onO (pLook p i) fun _ => K (fun p => pLook p i) p
  | _ => f fun d p => K (fun _ => some d) p
def pTst (a : CE) (f : (D → PEnv → RF) → RF) (p : PEnv) (K : Bool → PEnv → RF) : RF :=
  match a with
  | .and_ _ _ => f fun d p => onB d fun b => K b p
  | .or_ _ _ => f fun d p => onB d fun b => K b p
  | .not_ _ => f fun d p => onB d fun b => K b p
  | .cmp _ _ _ => f fun d p => onB d fun b => K b p
  | .chain _ _ _ _ _ => f fun d p => onB d fun b => K b p
  | a => pO a f p fun g p => onO (g p) fun d => onO (truD d) fun b => K b p
def pTwo (x y : Gtr) (p : PEnv) (f : D → D → Option Rv) (K : D → PEnv → RF) : RF := onO (x p) fun a => onO (y p) fun b => onR (f a b) fun r => K r p
def pGets : List Gtr → PEnv → Option (List D)
  | [], _ => some []
  | x :: r, p => match x p, pGets r p with
    | some d, some ds => some (d :: ds)
    | _, _ => none
def pWipe (p : PEnv) : List Nat → PEnv
  | [] => p
  | i :: r => (pWipe p r).set i none
def pUnwipe (p0 p : PEnv) : List Nat → PEnv
  | [] => p
  | i :: r => (pUnwipe p0 p r).set i (pLook p0 i)
def pcomp (own : List Nat) (step : D → PEnv → RF) : List D → List D → PEnv → RF
  | [], acc, p => ret (.list acc) p
  | x :: r, acc, p => (step x p).bind fun q => match q.1 with
    | .rt v => if acc.length < sizeLine then pcomp own step r (acc ++ [v]) (pWipe q.2 own) else .er
    | .nx => pcomp own step r acc (pWipe q.2 own)
    | _ => .er
def pfor (step : D → PEnv → RF) : List D → PEnv → RF
  | [], p => nxK p
  | x :: r, p => (step x p).bind fun q => match q.1 with
    | .nx => pfor step r q.2
    | .ct => pfor step r q.2
    | .bk => nxK q.2
    | .rt v => ret v q.2
/-- step: bk says that the loop is over -/
def pwhile (step : PEnv → RF) : Nat → PEnv → RF
  | 0, _ => .er
  | n + 1, p => (step p).bind fun q => match q.1 with
    | .nx => pwhile step n q.2
    | .ct => pwhile step n q.2
    | .bk => nxK q.2
    | .rt v => ret v q.2
/-! ### modes -/
inductive Am where
  | sv | mo | sm | le | rn | ro
  deriving DecidableEq, Inhabited
inductive Fsh where
  | z | f | u
  deriving DecidableEq, Inhabited
structure Sig where
  pm : List Am
  om : List Am
  fr : Fsh
  nl : List Nat
  deriving Inhabited
def pBack : List Am → List CE → PEnv → PEnv → PEnv
  | .le :: ms, .var i :: as, o :: os, p => pBack ms as os (p.set i o)
  | _ :: ms, _ :: as, _ :: os, p => pBack ms as os p
  | _, _, _, p => p
/-- places that never hold a list -/
def nlOk (nl : List Nat) (t : Tg) (d : D) : Bool := match t with
  | .name i => !(nl.contains i) || !isLst d
  | _ => true
def nlOks (nl : List Nat) : List Tg → List D → Bool
  | t :: ts, d :: ds => nlOk nl t d && nlOks nl ts ds
  | _, _ => true
def onC (m : R (D × PEnv)) (k : D → PEnv → RF) : RF := match m with | .ok r => k r.1 r.2 | .ex x => .ex x | .er => .er
section
variable (cf : Nat → List D → R (D × PEnv)) (sg : Nat → Sig)
mutual
def pE : CE → PEnv → (D → PEnv → RF) → RF
  | .k d, p, K => K d p
  | .edict, p, K => K (.dict []) p
  | .glob d, p, K => K d p
  | .var i, p, K => onO (pLook p i) fun d => K d p
  | .tup es, p, K => pL es p fun ds p => K (.tuple ds) p
  | .lst es, p, K => pL es p fun ds p => K (.list ds) p
  | .bin o a b, p, K => pO a (pE a p) p fun x p => pO b (pE b p) p fun y p => pTwo x y p (binD o) K
  | .neg a, p, K => pO a (pE a p) p fun x p => onO (x p) fun d => onI d fun i => K (.int (-i)) p
  | .cmp o a b, p, K => pO a (pE a p) p fun x p => pO b (pE b p) p fun y p => pTwo x y p (fun u v => (cmpD o u v).map fun b => .fz (.bool b)) K
  | .chain o q a b c, p, K => bdV (pO a (pE a p) p fun x p => pO b (pE b p) p fun y p => pTwo x y p (fun u v => (cmpD o u v).map fun b => .fz (.bool b)) fun d p => onB d fun t =>
      if t = true then pO c (pE c p) p fun z p => pTwo y z p (fun u v => (cmpD q u v).map fun b => .fz (.bool b)) ret else ret (.bool false) p) K
  | .and_ a b, p, K => bdV (pE a p fun d p => onB d fun t => if t = true then pE b p ret else ret (.bool false) p) K
  | .or_ a b, p, K => bdV (pE a p fun d p => onB d fun t => if t = true then ret (.bool true) p else pE b p ret) K
  | .not_ a, p, K => pE a p fun d p => onB d fun t => K (.bool (!t)) p
  | .ife c a b, p, K => bdV (pTst c (pE c p) p fun t p => if t = true then pE a p ret else pE b p ret) K
  | .idx a i, p, K => pO a (pE a p) p fun x p => pO i (pE i p) p fun y p => pTwo x y p (fun u v => (idxD u v).map .fz) K
  | .slc a lo hi, p, K => pO a (pE a p) p fun x p => pOpt lo p fun l p => pOpt hi p fun h p => onO (x p) fun d => onR (slcD d l h) fun r => K r p
  | .rev a, p, K => pO a (pE a p) p fun x p => onO (x p) fun d => onR (revD d) fun r => K r p
  | .call f es, p, K => pG es p fun gs p => onO (pGets gs p) fun as => onC (cf f as) fun d outs => K d (pBack (sg f).pm es outs p)
  | .call1 f a, p, K => pE a p fun d p => onC (cf f [d]) fun d _ => K d p
  | .callk f perm es ks, p, K => pG es p fun g1 p => pG ks p fun g2 p => onO (pGets (g1 ++ g2) p) fun as => onO (perm.mapM fun i => as[i]?) fun as => onC (cf f as) fun d _ => K d p
  | .isi a t, p, K => pO a (pE a p) p fun x p => onO (x p) fun d => K (.bool (isD d t)) p
  | .blt f es, p, K => pG es p fun gs p => onO (pGets gs p) fun ds => onR (bltD f ds) fun r => K r p
  | .vm m a es, p, K => pO a (pE a p) p fun x p => onO (x p) fun d => if isLst d = true then pG es p fun gs p => onO (pGets (x :: gs) p) fun ds => onR (match ds with | d :: r => vmD m d r | [] => none) fun r => K r p else .er
  | .mm m i es, p, K => onO (pLook p i) fun d => if isLst d = true then pL es p fun ds p => onO (pLook p i) fun d => onO (mmD m d ds) fun r => K r.2 (p.set i (some r.1)) else .er
  | .comp own t it c f, p, K => pI it p fun items p => bdV (noExP (pcomp own (fun x p => pAsg t x p fun p => pQ c p fun b p => if b = true then pE f p ret else nxK p) items [] (pWipe p own))) fun d p2 => K d (pUnwipe p p2 own)
def pL : List CE → PEnv → (List D → PEnv → RF) → RF
  | [], p, K => K [] p
  | a :: r, p, K => pE a p fun d p => pL r p fun ds p => K (d :: ds) p
def pG : List CE → PEnv → (List Gtr → PEnv → RF) → RF
  | [], p, K => K [] p
  | a :: r, p, K => pO a (pE a p) p fun g p => pG r p fun gs p => K (g :: gs) p
def pOpt : Option CE → PEnv → (Option Int → PEnv → RF) → RF
  | none, p, K => K none p
  | some a, p, K => pO a (pE a p) p fun x p => onO (x p) fun d => onI d fun i => K (some i) p
def pQ : Option CE → PEnv → (Bool → PEnv → RF) → RF
  | none, p, K => K true p
  | some q, p, K => pTst q (pE q p) p K
def pI : It → PEnv → (List D → PEnv → RF) → RF
  | .over a, p, K => pE a p fun d p => onO (itD d) fun l => K l p
  | .range1 a, p, K => pO a (pE a p) p fun x p => onO (x p) fun d => onI d fun b => if ok63 b = true then K (rangeD 0 b) p else .er
  | .range2 a b, p, K => pO a (pE a p) p fun x p => pO b (pE b p) p fun y p => onO (x p) fun d => onI d fun i => onO (y p) fun d => onI d fun j => if ok63 i = true ∧ ok63 j = true then K (rangeD i j) p else .er
  | .enum a, p, K => pE a p fun d p => onO (itD d) fun l => K (enumD l) p
  | .zip a b, p, K => pE a p fun d p => pE b p fun d2 p => onO (itD d) fun l => onO (itD d2) fun m => K (zipD l m) p
def pAsg : Tg → D → PEnv → (PEnv → RF) → RF
  | .name i, d, p, K => K (p.set i (some d))
  | .tup ts, d, p, K => onT d fun ds => if ds.length = ts.length then pAsgs ts ds p K else .er
  | .sub i a, d, p, K => onO (pLook p i) fun l => if isLst l = true then pO a (pE a p) p fun g p => onO (g p) fun k => onO (pLook p i) fun l => onO (putD l k d) fun l' => K (p.set i (some l')) else .er
def pAsgs : List Tg → List D → PEnv → (PEnv → RF) → RF
  | [], [], p, K => K p
  | t :: ts, d :: ds, p, K => pAsg t d p fun p => pAsgs ts ds p K
  | _, _, _, _ => .er
end
variable (nl : List Nat) (fuel : Nat)
mutual
def pS : CS → PEnv → (PEnv → RF) → RF
  | .asg t a, p, K => pE cf sg a p fun d p => if nlOk nl t d = true then pAsg cf sg t d p K else .er
  | .par ts es, p, K => pL cf sg es p fun ds p => if ds.length = ts.length ∧ ts.length ≤ 1000 then (if nlOks nl ts ds = true then pAsgs cf sg ts ds p K else .er) else .er
  | .aug i o a, p, K => onO (pLook p i) fun d => onI d fun n => pO a (pE cf sg a p) p fun y p => onO (y p) fun d => onI d fun m => (match o with
    | .Add => K (p.set i (some (.int (n + m))))
    | .Sub => K (p.set i (some (.int (n - m))))
    | _ => .er)
  | .ex a, p, K => pE cf sg a p fun _ p => K p
  | .ret a, p, _ => pE cf sg a p fun d p => ret d p
  | .ife c a b, p, K => bdS (pTst c (pE cf sg c p) p fun t p => if t = true then pSs a p nxK else pSs b p nxK) K
  | .while_ c b, p, K => bdS (pwhile (fun p => pTst c (pE cf sg c p) p fun t p => if t = true then pSs b p nxK else .ok (.bk, p)) fuel p) K
  | .for_ t it b, p, K => pI cf sg it p fun items p => bdS (pfor (fun x p => pAsg cf sg t x p fun p => pSs b p nxK) items p) K
  | .pass, p, K => K p
  | .brk, p, _ => .ok (.bk, p)
  | .cont, p, _ => .ok (.ct, p)
  | .raise x, _, _ => .ex x
def pSs : List CS → PEnv → (PEnv → RF) → RF
  | [], p, K => K p
  | s :: r, p, K => pS s p fun p => pSs r p K
end
end
/-- what a callee leaves: only places that it may change are told -/
def maskP : List Am → PEnv → PEnv
  | m :: ms, o :: os => (match m with | .le => o | _ => none) :: maskP ms os
  | _, _ => []
def endOf (pm : List Am) (r : PF) : Option (D × PEnv) := match r.1 with
  | .rt d => some (d, maskP pm r.2)
  | .nx => some (.none, maskP pm r.2)
  | _ => none
/-- a def's run -/
def endP (pm : List Am) (m : RF) : R (D × PEnv) := m.bind fun r => match endOf pm r with | some x => .ok x | none => .er
def runP (cf : Nat → List D → R (D × PEnv)) (sg : Nat → Sig) (g : Sig) (fuel : Nat) (fd : FD) (as : List D) : R (D × PEnv) :=
  if as.length = fd.np then endP g.pm (pSs cf sg g.nl fuel fd.body (as.map some ++ List.replicate (fd.nl - fd.np) none) nxK) else .er
def callP (ft : Nat → Option FD) (sg : Nat → Sig) (fuel : Nat) : Nat → Nat → List D → R (D × PEnv)
  | 0, _, _ => .er
  | n + 1, f, as => match ft f with
    | some fd => runP (callP ft sg fuel n) sg (sg f) fuel fd as
    | none => .er
end Cr
set_option Elab.async false
set_option linter.all false
set_option maxRecDepth 100000
set_option maxHeartbeats 4000000
/-! Who owns a list is seen by looking at the text alone. -/
namespace Cr
open PySem
abbrev Ms := List Am
def frzA : Am → Am
  | .sv => .sv | .mo => .sv | .sm => .sv | _ => .ro
def wkA : Am → Am
  | .sv => .sv | .mo => .sm | .sm => .sm | _ => .ro
def upA (a b : Am) : Bool := decide (a = b) || match a, b with
  | .sv, .sm => true | .mo, .sm => true | .le, .ro => true | .rn, .ro => true
  | _, _ => false
def joinA (a b : Am) : Option Am := if upA a b = true then some b else if upA b a = true then some a else match a, b with
  | .sv, .mo => some .sm | .mo, .sv => some .sm | .le, .rn => some .ro | .rn, .le => some .ro
  | _, _ => none
def upM : Ms → Ms → Bool
  | [], [] => true
  | a :: r, b :: s => upA a b && upM r s
  | _, _ => false
def joinM : Ms → Ms → Option Ms
  | [], [] => some []
  | a :: r, b :: s => match joinA a b, joinM r s with
    | some c, some t => some (c :: t)
    | _, _ => none
  | _, _ => none
def upF (a b : Fsh) : Bool := decide (a = b) || decide (b = .u)
def joinF (a b : Fsh) : Fsh := if a = b then a else .u
def mutA (m : Am) : Bool := decide (m = .le) || decide (m = .mo)
def joinR (a b : Option Ms) : Option Ms := match a, b with | some a, some b => (match joinM a b with | some m => if (upM a m && upM b m) = true then some m else none | none => none) | _, _ => none
mutual
def tchE (sg : Nat → Sig) : CE → List Nat
  | .k _ => [] | .edict => [] | .glob _ => [] | .var _ => []
  | .tup es => tchL sg es
  | .lst es => tchL sg es
  | .bin _ a b => tchE sg a ++ tchE sg b
  | .neg a => tchE sg a
  | .cmp _ a b => tchE sg a ++ tchE sg b
  | .chain _ _ a b c => tchE sg a ++ (tchE sg b ++ tchE sg c)
  | .and_ a b => tchE sg a ++ tchE sg b
  | .or_ a b => tchE sg a ++ tchE sg b
  | .not_ a => tchE sg a
  | .ife c a b => tchE sg c ++ (tchE sg a ++ tchE sg b)
  | .idx a i => tchE sg a ++ tchE sg i
  | .slc a lo hi => tchE sg a ++ (tchP sg lo ++ tchP sg hi)
  | .rev a => tchE sg a
  | .call f es => tchL sg es ++ leV (sg f).pm es
  | .call1 _ a => tchE sg a
  | .callk _ _ es ks => tchL sg es ++ tchL sg ks
  | .isi a _ => tchE sg a
  | .blt _ es => tchL sg es
  | .vm _ a es => tchE sg a ++ tchL sg es
  | .mm _ i es => tchL sg es ++ [i]
  | .comp own t it c f => tchI sg it ++ (tchT sg t ++ (tchP sg c ++ tchE sg f)).filter fun i => !own.contains i
def tchL (sg : Nat → Sig) : List CE → List Nat
  | [] => []
  | a :: r => tchE sg a ++ tchL sg r
def leV : List Am → List CE → List Nat
  | .le :: ms, .var i :: as => i :: leV ms as
  | _ :: ms, _ :: as => leV ms as
  | _, _ => []
def tchP (sg : Nat → Sig) : Option CE → List Nat
  | none => []
  | some a => tchE sg a
def tchI (sg : Nat → Sig) : It → List Nat
  | .over a => tchE sg a
  | .range1 a => tchE sg a
  | .range2 a b => tchE sg a ++ tchE sg b
  | .enum a => tchE sg a
  | .zip a b => tchE sg a ++ tchE sg b
def tchT (sg : Nat → Sig) : Tg → List Nat
  | .name i => [i]
  | .tup ts => tchTs sg ts
  | .sub i a => tchE sg a ++ [i]
def tchTs (sg : Nat → Sig) : List Tg → List Nat
  | [] => []
  | t :: r => tchT sg t ++ tchTs sg r
end
mutual
def tchS (sg : Nat → Sig) : CS → List Nat
  | .asg t a => tchE sg a ++ tchT sg t
  | .par ts es => tchL sg es ++ tchTs sg ts
  | .aug i _ a => tchE sg a ++ [i]
  | .ex a => tchE sg a
  | .ret a => tchE sg a ++ (match a with | .var i => [i] | _ => [])
  | .ife c a b => tchE sg c ++ (tchSs sg a ++ tchSs sg b)
  | .while_ c b => tchE sg c ++ tchSs sg b
  | .for_ t it b => tchI sg it ++ (tchT sg t ++ tchSs sg b)
  | .pass => [] | .brk => [] | .cont => [] | .raise _ => []
def tchSs (sg : Nat → Sig) : List CS → List Nat
  | [] => []
  | s :: r => tchS sg s ++ tchSs sg r
end
/-- surely a list -/
def isLE : CE → Bool
  | .lst _ => true
  | .comp _ _ _ _ _ => true
  | .bin .Add a _ => isLE a
  | .bin .Mult a _ => isLE a
  | _ => false
def binF (o : Operator) (a : CE) : Fsh := match o with
  | .Add => if isLE a = true then .f else .u
  | .Mult => if isLE a = true then .f else .u
  | _ => .z
def bltF : Bt → Fsh
  | .list => .f | .sorted => .f | .listRange1 => .f | .listRange2 => .f
  | _ => .z
def ckO (a : CE) (r : Option (Fsh × Ms)) (M : Ms) : Option Ms := match a with
  | .var _ => some M
  | _ => r.map (·.2)
/-- behind a call: the arguments' places -/
def ckArgs : List Am → List Am → List CE → Ms → Option Ms
  | [], [], [], M => some M
  | pm :: ps, om :: os, a :: as, M => match a with
    | .var i => (match pm with
      | .le => if mutA (M.getD i .sv) = true ∧ (om = .le ∨ om = .ro) then ckArgs ps os as (if om = .le then M else M.set i (wkA (M.getD i .sv))) else none
      | .rn => if om = .rn then ckArgs ps os as M else none
      | .ro => if om = .ro then ckArgs ps os as (M.set i (wkA (M.getD i .sv))) else none
      | .sv => if M.getD i .sv = .sv then ckArgs ps os as M else none
      | _ => none)
    | _ => if pm = .sv ∨ pm = .rn ∨ pm = .ro then ckArgs ps os as M else none
  | _, _, _, _ => none
/-- places that may be lent -/
def lentV : List CE → Ms → List Nat
  | .var i :: as, M => if M.getD i .sv = .sv then lentV as M else i :: lentV as M
  | _ :: as, M => lentV as M
  | [], _ => []
def varsSv : List CE → Ms → Bool
  | .var i :: as, M => decide (M.getD i .sv = .sv) && varsSv as M
  | _ :: as, M => varsSv as M
  | [], _ => true
def lpM (step : Ms → Option (Option Ms × List Ms)) (M1 : Ms) : Nat → Ms → Option Ms
  | 0, _ => none
  | n + 1, M => match step M with
    | none => none
    | some (o, bs) => if ((o.toList ++ bs).all (upM · M) && upM M1 M) = true then some M else
        (match (o.toList ++ bs).foldl (fun a b => match a with | some a => joinM a b | none => none) (some M) with
        | some M' => lpM step M1 n M'
        | none => none)
section
variable (sg : Nat → Sig)
mutual
def chkE : CE → Ms → Option (Fsh × Ms)
  | .k _, M => some (.z, M)
  | .edict, M => some (.z, M)
  | .glob _, M => some (.z, M)
  | .var i, M => some (.z, M.set i (frzA (M.getD i .sv)))
  | .tup es, M => if es.length ≤ 1000 then (chkL es M).map fun M => (.z, M) else none
  | .lst es, M => if es.length ≤ 1000 then (chkL es M).map fun M => (.f, M) else none
  | .bin o a b, M => (ckO a (chkE a M) M).bind fun M => (ckO b (chkE b M) M).map fun M => (binF o a, M)
  | .neg a, M => (ckO a (chkE a M) M).map fun M => (.z, M)
  | .cmp _ a b, M => (ckO a (chkE a M) M).bind fun M => (ckO b (chkE b M) M).map fun M => (.z, M)
  | .chain _ _ a b c, M => (ckO a (chkE a M) M).bind fun M => (ckO b (chkE b M) M).bind fun M => (joinR (some M) (ckO c (chkE c M) M)).map fun M => (.z, M)
  | .and_ a b, M => (chkE a M).bind fun r => (chkE b r.2).bind fun s => (joinR (some r.2) (some s.2)).map fun M => (joinF .z s.1, M)
  | .or_ a b, M => (chkE a M).bind fun r => (chkE b r.2).bind fun s => (joinR (some r.2) (some s.2)).map fun M => (joinF .z s.1, M)
  | .not_ a, M => (chkE a M).map fun r => (.z, r.2)
  | .ife c a b, M => (ckO c (chkE c M) M).bind fun M => (chkE a M).bind fun r => (chkE b M).bind fun s => (joinR (some r.2) (some s.2)).map fun M => (joinF r.1 s.1, M)
  | .idx a i, M => (ckO a (chkE a M) M).bind fun M => (ckO i (chkE i M) M).map fun M => (.z, M)
  | .slc a lo hi, M => (ckO a (chkE a M) M).bind fun M => (chkP lo M).bind fun M => (chkP hi M).map fun M => (.u, M)
  | .rev a, M => (ckO a (chkE a M) M).map fun M => (.u, M)
  | .call f es, M => (chkA es M).bind fun M => if (lentV es M).Nodup then (ckArgs (sg f).pm (sg f).om es M).map fun M => ((sg f).fr, M) else none
  | .call1 f a, M => (chkE a M).bind fun r => if r.1 = .f ∧ (sg f).pm = [.le] then some ((sg f).fr, r.2) else none
  | .callk f perm es ks, M => (chkA es M).bind fun M => (chkA ks M).bind fun M =>
      if varsSv (es ++ ks) M = true ∧ tchL sg es = [] ∧ tchL sg ks = [] ∧ perm ≠ [] ∧ perm.length = (sg f).pm.length ∧ ((sg f).pm.all fun m => decide (m = Am.sv) || decide (m = Am.rn) || decide (m = Am.ro)) = true then some ((sg f).fr, M) else none
  | .isi a _, M => (ckO a (chkE a M) M).map fun M => (.z, M)
  | .blt f es, M => (chkG es M).map fun M => (bltF f, M)
  | .vm _ a es, M => (ckO a (chkE a M) M).bind fun M => (chkG es M).map fun M => (.z, M)
  | .mm _ i es, M => if mutA (M.getD i .sv) = true then (chkL es M).bind fun M => if mutA (M.getD i .sv) = true then some (.z, M) else none else none
  | .comp own t it c f, M => (chkI it M).bind fun M1 => (lpM (fun M => if (own.all fun i => decide (M.getD i Am.sv = Am.sv) && decide (i < M.length)) = true then ((chkT t .z M).bind fun M => (chkP c M).bind fun M => (chkE f M).bind fun r =>
      if (own.all fun i => decide (M.getD i Am.sv = Am.sv) && decide (r.2.getD i Am.sv = Am.sv)) = true then some (some r.2, [M]) else none) else none) M1 4 M1).map fun M => (.f, M)
def chkL : List CE → Ms → Option Ms
  | [], M => some M
  | a :: r, M => (chkE a M).bind fun s => chkL r s.2
def chkG : List CE → Ms → Option Ms
  | [], M => some M
  | a :: r, M => (ckO a (chkE a M) M).bind fun M => chkG r M
/-- arguments -/
def chkA : List CE → Ms → Option Ms
  | [], M => some M
  | a :: r, M => if (match a with | .var i => !(tchL sg r).contains i || mutA (M.getD i .sv) | _ => true) = true then (ckO a (chkE a M) M).bind fun M => chkA r M else none
def chkR : List CE → Ms → Option (List Fsh × Ms)
  | [], M => some ([], M)
  | a :: r, M => (chkE a M).bind fun s => (chkR r s.2).map fun q => (s.1 :: q.1, q.2)
def chkP : Option CE → Ms → Option Ms
  | none, M => some M
  | some a, M => ckO a (chkE a M) M
def chkI : It → Ms → Option Ms
  | .over a, M => (chkE a M).map (·.2)
  | .range1 a, M => ckO a (chkE a M) M
  | .range2 a b, M => (ckO a (chkE a M) M).bind fun M => ckO b (chkE b M) M
  | .enum a, M => (chkE a M).map (·.2)
  | .zip a b, M => (chkE a M).bind fun r => (chkE b r.2).map (·.2)
def chkT : Tg → Fsh → Ms → Option Ms
  | .name i, fr, M => if (M.getD i .sv = .sv ∨ M.getD i .sv = .mo ∨ M.getD i .sv = .sm) ∧ i < M.length then some (M.set i (match fr with | .z => .sv | .f => .mo | .u => .sm)) else none
  | .tup ts, _, M => chkTz ts M
  | .sub i a, _, M => if mutA (M.getD i .sv) = true then (ckO a (chkE a M) M).bind fun M => if mutA (M.getD i .sv) = true then some M else none else none
def chkTz : List Tg → Ms → Option Ms
  | [], M => some M
  | t :: ts, M => (chkT t .z M).bind fun M => chkTz ts M
end
def adjF (nl : List Nat) (t : Tg) (fr : Fsh) : Fsh := match t, fr with
  | .name i, .u => if nl.contains i = true then .z else .u
  | _, fr => fr
def adjFs (nl : List Nat) : List Tg → List Fsh → List Fsh
  | t :: ts, f :: fs => adjF nl t f :: adjFs nl ts fs
  | _, fs => fs
def chkTs : List Tg → List Fsh → Ms → Option Ms
  | [], [], M => some M
  | t :: ts, f :: fs, M => (chkT sg t f M).bind fun M => chkTs ts fs M
  | _, _, _ => none
section
variable (np : Nat) (om : Ms) (rf : Fsh) (nl : List Nat)
def retOk (M : Ms) : Bool := (List.range np).all fun j => upA (M.getD j .sv) (om.getD j .sv)
mutual
def chkS : CS → Ms → Option (Option Ms × List Ms)
  | .asg t a, M => (chkE sg a M).bind fun r => (chkT sg t (adjF nl t r.1) r.2).map fun M => (some M, [])
  | .par ts es, M => (chkR sg es M).bind fun r => (chkTs sg ts (adjFs nl ts r.1) r.2).map fun M => (some M, [])
  | .aug i _ a, M => (ckO a (chkE sg a M) M).bind fun M => if (M.getD i .sv = .sv ∨ M.getD i .sv = .mo ∨ M.getD i .sv = .sm) ∧ i < M.length then some (some (M.set i .sv), []) else none
  | .ex a, M => (chkE sg a M).map fun r => (some r.2, [])
  | .ret a, M => match a with
    | .var i => if M.getD i .sv = .mo ∨ M.getD i .sv = .sm then (if np ≤ i ∧ retOk np om M = true ∧ upF (if M.getD i .sv = .mo then .f else .u) rf = true then some (none, []) else none)
      else if retOk np om (M.set i (frzA (M.getD i .sv))) = true ∧ upF .z rf = true then some (none, []) else none
    | a => (chkE sg a M).bind fun r => if retOk np om r.2 = true ∧ upF r.1 rf = true then some (none, []) else none
  | .ife c a b, M => (ckO c (chkE sg c M) M).bind fun M => (chkSs a M).bind fun r => (chkSs b M).bind fun s => (match r.1, s.1 with
    | some x, some y => (joinR (some x) (some y)).map fun m => (some m, r.2 ++ s.2)
    | some x, none => some (some x, r.2 ++ s.2)
    | none, y => some (y, r.2 ++ s.2))
  | .while_ c b, M => (lpM (fun M => (ckO c (chkE sg c M) M).bind fun M => (chkSs b M).map fun r => (r.1, M :: r.2)) M 4 M).map fun M => (some M, [])
  | .for_ t it b, M => (chkI sg it M).bind fun M => (lpM (fun M => (chkT sg t .z M).bind fun M => chkSs b M) M 4 M).map fun M => (some M, [])
  | .pass, M => some (some M, [])
  | .brk, M => some (none, [M])
  | .cont, M => some (none, [M])
  | .raise _, M => some (none, [])
def chkSs : List CS → Ms → Option (Option Ms × List Ms)
  | [], M => some (some M, [])
  | s :: r, M => (chkS s M).bind fun q => match q.1 with
    | some M => (chkSs r M).map fun u => (u.1, q.2 ++ u.2)
    | none => some (none, q.2)
end
end
def pmOk : Ms → Ms → Bool
  | [], [] => true
  | a :: r, b :: s => (match a, b with | .sv, .sv => true | .le, .le => true | .le, .ro => true | .rn, .rn => true | .ro, .ro => true | _, _ => false) && pmOk r s
  | _, _ => false
def chkF (g : Sig) (fd : FD) : Bool := decide (g.pm.length = fd.np) && pmOk g.pm g.om && decide (fd.np ≤ fd.nl) &&
  ((List.range fd.np).all fun j => match g.pm.getD j .sv with | .rn => !(tchSs sg fd.body).contains j | .ro => !(tchSs sg fd.body).contains j | _ => true) &&
  match chkSs sg fd.np g.om g.fr g.nl fd.body (g.pm ++ List.replicate (fd.nl - fd.np) .sv) with
  | some (o, []) => (match o with | some M => retOk fd.np g.om M && upF .z g.fr | none => true)
  | _ => false
end
end Cr
set_option Elab.async false
set_option linter.all false
set_option maxRecDepth 100000
set_option maxHeartbeats 4000000
/-! The pure layer tells what the core does. -/
namespace Cr
open PySem
def cont : Sl → Option D
  | .val d => some d
  | .mu _ d => some d
  | .frz d => some d
  | .un => none
def shp : Am → Sl → Bool
  | .sv, .un => true | .sv, .val _ => true
  | .mo, .mu false d => isLst d
  | .sm, .un => true | .sm, .val _ => true | .sm, .mu false d => isLst d
  | .le, .mu true d => isLst d
  | .rn, .val _ => true | .rn, .mu true d => isLst d
  | .ro, .val _ => true | .ro, .mu true d => isLst d | .ro, .frz _ => true
  | _, _ => false
def PSl (m : Am) (o : Option D) (s : Sl) : Prop := shp m s = true ∧ ∀ x, o = some x → cont s = some x
structure PRel (M : Ms) (p : PEnv) (c : Ev) : Prop where
  lp : p.length = c.length
  lm : M.length = c.length
  sl : ∀ i s, c[i]? = some s → PSl (M.getD i .sv) (pLook p i) s
def PFrz (s s' : Sl) : Prop := s' = s ∨ (∃ d, s = .mu true d ∧ s' = .frz d) ∨ ∃ d, s = .mu false d ∧ s' = .val d
def PShw (s s' : Sl) : Prop := (∀ d, s = .mu true d → ∃ d', s' = .mu true d' ∨ s' = .frz d') ∧ ∀ d, s = .frz d → s' = .frz d
def PWk (T : List Nat) (c c' : Ev) : Prop := c'.length = c.length ∧ ∀ i s, c[i]? = some s → ∃ s', c'[i]? = some s' ∧ (i ∉ T → PFrz s s') ∧ PShw s s'
theorem PFrz.rfl' {s : Sl} : PFrz s s := .inl rfl
theorem PShw.rfl' {s : Sl} : PShw s s := ⟨fun d h => ⟨d, .inl h⟩, fun d h => h⟩
theorem PFrz.trans {a b c : Sl} (h : PFrz a b) (g : PFrz b c) : PFrz a c := by
  rcases h with rfl | ⟨d, rfl, rfl⟩ | ⟨d, rfl, rfl⟩
  · exact g
  · rcases g with rfl | ⟨d', e, _⟩ | ⟨d', e, _⟩
    · exact .inr (.inl ⟨d, rfl, rfl⟩)
    · cases e
    · cases e
  · rcases g with rfl | ⟨d', e, _⟩ | ⟨d', e, _⟩
    · exact .inr (.inr ⟨d, rfl, rfl⟩)
    · cases e
    · cases e
theorem PShw.trans {a b c : Sl} (h : PShw a b) (g : PShw b c) : PShw a c := by
  refine ⟨fun d e => ?_, fun d e => g.2 d (h.2 d e)⟩
  obtain ⟨d', e1 | e1⟩ := h.1 d e
  · exact g.1 d' e1
  · exact ⟨d', .inr (g.2 d' e1)⟩
theorem PWk.refl {T : List Nat} {c : Ev} : PWk T c c := ⟨rfl, fun i s h => ⟨s, h, fun _ => .rfl', .rfl'⟩⟩
theorem PWk.trans {T1 T2 : List Nat} {a b c : Ev} (h : PWk T1 a b) (g : PWk T2 b c) : PWk (T1 ++ T2) a c := by
  refine ⟨g.1.trans h.1, fun i s e => ?_⟩
  obtain ⟨s1, e1, f1, w1⟩ := h.2 i s e
  obtain ⟨s2, e2, f2, w2⟩ := g.2 i s1 e1
  exact ⟨s2, e2, fun hi => (f1 fun q => hi (List.mem_append_left _ q)).trans (f2 fun q => hi (List.mem_append_right _ q)), w1.trans w2⟩
theorem PWk.mono {T T' : List Nat} {a b : Ev} (h : PWk T a b) (i : ∀ x, x ∈ T → x ∈ T') : PWk T' a b :=
  ⟨h.1, fun j s e => let ⟨s1, e1, f1, w1⟩ := h.2 j s e; ⟨s1, e1, fun q => f1 fun z => q (i _ z), w1⟩⟩
theorem pLook_set {p : PEnv} {i j : Nat} {o : Option D} : pLook (p.set i o) j = if i = j ∧ i < p.length then o else pLook p j := by
  unfold pLook
  rw [List.getElem?_set]
  by_cases h : i = j
  · subst h
    by_cases h2 : i < p.length
    · simp [h2]
    · simp [h2]
  · simp [h]
theorem getD_set {M : Ms} {i j : Nat} {m : Am} : (M.set i m).getD j .sv = if i = j ∧ i < M.length then m else M.getD j .sv := by
  rw [List.getD_eq_getElem?_getD, List.getD_eq_getElem?_getD, List.getElem?_set]
  by_cases h : i = j
  · subst h
    by_cases h2 : i < M.length
    · simp [h2]
    · simp [h2]
  · simp [h]
theorem PRel.set {M : Ms} {p : PEnv} {c : Ev} (h : PRel M p c) {i : Nat} {m : Am} {o : Option D} {s : Sl} (hs : PSl m o s) : PRel (M.set i m) (p.set i o) (c.set i s) := by
  refine ⟨by simp [h.lp], by simp [h.lm], fun j t e => ?_⟩
  rw [List.getElem?_set] at e
  rw [getD_set, pLook_set, h.lp, h.lm]
  by_cases q : i = j
  · subst q
    by_cases l : i < c.length
    · simp [l] at e
      subst e
      simpa [l] using hs
    · simp [l] at e
  · simp [q] at e ⊢
    exact h.sl j t e
theorem PRel.setM {M : Ms} {p : PEnv} {c : Ev} (h : PRel M p c) {i : Nat} {m : Am} {s s' : Sl} (hi : c[i]? = some s) (hm : shp m s' = true) (hc : cont s' = cont s) : PRel (M.set i m) p (c.set i s') := by
  refine ⟨by simp [h.lp], by simp [h.lm], fun j t e => ?_⟩
  rw [List.getElem?_set] at e
  rw [getD_set, h.lm]
  by_cases q : i = j
  · subst q
    have l : i < c.length := (List.getElem?_eq_some_iff.mp hi).1
    simp [l] at e
    subst e
    simp only [l, and_self, if_true]
    exact ⟨hm, fun x hx => hc.trans ((h.sl i s hi).2 x hx)⟩
  · simp [q] at e ⊢
    exact h.sl j t e
theorem pLook_lt {p : PEnv} {i : Nat} {d : D} (h : pLook p i = some d) : i < p.length := by
  unfold pLook at h
  split at h
  · rename_i o e
    exact (List.getElem?_eq_some_iff.mp e).1
  · cases h
theorem PRel.look {M : Ms} {p : PEnv} {c : Ev} (h : PRel M p c) {i : Nat} {d : D} (hd : pLook p i = some d) : ∃ s, c[i]? = some s ∧ cont s = some d ∧ shp (M.getD i .sv) s = true := by
  have l := pLook_lt hd
  rw [h.lp] at l
  refine ⟨c[i], List.getElem?_eq_getElem l, ?_, ?_⟩
  · exact (h.sl i _ (List.getElem?_eq_getElem l)).2 d hd
  · exact (h.sl i _ (List.getElem?_eq_getElem l)).1
theorem look_cont {c : Ev} {i : Nat} {s : Sl} (h : c[i]? = some s) : look c i = cont s := by
  unfold look
  rw [h]
  cases s <;> rfl
theorem PRel.lookC {M : Ms} {p : PEnv} {c : Ev} (h : PRel M p c) {i : Nat} {d : D} (hd : pLook p i = some d) : Cr.look c i = some d := by
  obtain ⟨s, e, f, _⟩ := h.look hd
  rw [look_cont e, f]
def frzS : Sl → Sl
  | .mu true d => .frz d
  | .mu false d => .val d
  | s => s
theorem shp_frz {m : Am} {s : Sl} (h : shp m s = true) (hc : (cont s).isSome = true) : shp (frzA m) (frzS s) = true := by
  cases m <;> cases s <;> first | rfl | (cases h; done) | (cases hc; done) | (rename_i b _; cases b <;> first | rfl | (cases h; done))
theorem cont_frz (s : Sl) : cont (frzS s) = cont s := by
  cases s <;> first | rfl | (rename_i b _; cases b <;> rfl)
theorem frz_frz (s : Sl) : PFrz s (frzS s) := by
  cases s with
  | mu b d => cases b with
    | true => exact .inr (.inl ⟨d, rfl, rfl⟩)
    | false => exact .inr (.inr ⟨d, rfl, rfl⟩)
  | _ => exact .inl rfl
theorem shw_frz (s : Sl) : PShw s (frzS s) := by
  cases s with
  | mu b d => cases b with
    | true => exact ⟨fun d' h => (by cases h; exact ⟨d, .inr rfl⟩), fun d' h => (by cases h)⟩
    | false => exact ⟨fun d' h => (by cases h), fun d' h => (by cases h)⟩
  | _ => exact .rfl'
theorem PWk.set {T : List Nat} {c : Ev} {i : Nat} {s s' : Sl} (hi : c[i]? = some s) (hf : i ∉ T → PFrz s s') (hw : PShw s s') : PWk T c (c.set i s') := by
  refine ⟨by simp, fun j t e => ?_⟩
  rw [List.getElem?_set]
  by_cases q : i = j
  · subst q
    rw [hi] at e
    cases e
    have l : i < c.length := (List.getElem?_eq_some_iff.mp hi).1
    exact ⟨s', by simp [l], hf, hw⟩
  · exact ⟨t, by simp [q, e], fun _ => .rfl', .rfl'⟩
theorem set_same {c : Ev} {i : Nat} {s : Sl} (h : c[i]? = some s) : c.set i s = c := by
  apply List.ext_getElem?
  intro j
  rw [List.getElem?_set]
  by_cases q : i = j
  · subst q
    have l : i < c.length := (List.getElem?_eq_some_iff.mp h).1
    rw [if_pos rfl, if_pos l, h]
  · simp [q]
theorem rdA_frz {c : Ev} {i : Nat} {s : Sl} {d : D} (h : c[i]? = some s) (hd : cont s = some d) : rdA i c = .ok (.fz d) (c.set i (frzS s)) := by
  unfold rdA
  rw [h]
  cases s with
  | un => cases hd
  | val d' => cases hd; simp [frzS, set_same h]
  | frz d' => cases hd; simp [frzS, set_same h]
  | mu b d' => cases hd; cases b <;> rfl
/-! ### modes go up -/
theorem upA_shp {a b : Am} (h : upA a b = true) {s : Sl} (hs : shp a s = true) : shp b s = true := by
  cases a <;> cases b <;> first | exact hs | (cases h; done) | (cases s <;> first | rfl | (cases hs; done) | (rename_i x _; cases x <;> first | exact hs | (cases hs; done)))
theorem upM_len : ∀ {M N : Ms}, upM M N = true → M.length = N.length
  | [], [], _ => rfl
  | [], _ :: _, h => by cases h
  | _ :: _, [], h => by cases h
  | a :: r, b :: s, h => by
    have h' : (upA a b && upM r s) = true := h
    rw [Bool.and_eq_true] at h'
    simp [upM_len h'.2]
theorem upM_at : ∀ {M N : Ms}, upM M N = true → ∀ i, upA (M.getD i .sv) (N.getD i .sv) = true
  | [], [], _, i => by simp [upA]
  | [], _ :: _, h, _ => by cases h
  | _ :: _, [], h, _ => by cases h
  | a :: r, b :: s, h, i => by
    have h' : (upA a b && upM r s) = true := h
    rw [Bool.and_eq_true] at h'
    cases i with
    | zero => exact h'.1
    | succ i => simpa using upM_at h'.2 i
theorem PRel.up {M N : Ms} {p : PEnv} {c : Ev} (h : PRel M p c) (u : upM M N = true) : PRel N p c :=
  ⟨h.lp, (upM_len u).symm.trans h.lm, fun i s e => ⟨upA_shp (upM_at u i) (h.sl i s e).1, (h.sl i s e).2⟩⟩
theorem joinR_up {a b : Option Ms} {M : Ms} (h : joinR a b = some M) : ∃ x y, a = some x ∧ b = some y ∧ upM x M = true ∧ upM y M = true := by
  unfold joinR at h
  split at h
  · rename_i x y
    split at h
    · rename_i m _
      split at h
      · rename_i q
        cases h
        rw [Bool.and_eq_true] at q
        exact ⟨_, _, rfl, rfl, q.1, q.2⟩
      · cases h
    · cases h
  · cases h
/-! ### runs beside one another -/
def Sd {α : Type} (m : Rs α) (c : Ev) (T : List Nat) (w : RF) (Q : α → Ev → Prop) : Prop :=
  w = .er ∨ (∃ a c', m = .ok a c' ∧ PWk T c c' ∧ Q a c') ∨ ∃ x c', m = .ex x c' ∧ w = .ex x ∧ PWk T c c'
section
variable {α β : Type} {m : Rs α} {c : Ev} {T T1 T2 : List Nat} {w w' : RF} {Q Q' : α → Ev → Prop}
theorem Sd.ok {a : α} (h : Q a c) : Sd (.ok a c) c [] w Q := .inr (.inl ⟨a, c, rfl, .refl, h⟩)
theorem Sd.er (h : w = .er) : Sd m c T w Q := .inl h
theorem Sd.bind {f : α → Ev → Rs β} {Q2 : β → Ev → Prop} (h : Sd m c T1 w Q) (g : ∀ a c', PWk T1 c c' → Q a c' → Sd (f a c') c' T2 w Q2) : Sd (m.bind f) c (T1 ++ T2) w Q2 := by
  rcases h with h | ⟨a, c1, rfl, k, q⟩ | ⟨x, c1, rfl, e, k⟩
  · exact .inl h
  · rcases g a c1 k q with h | ⟨b, c2, e, k2, q2⟩ | ⟨x, c2, e, e2, k2⟩
    · exact .inl h
    · exact .inr (.inl ⟨b, c2, e, k.trans k2, q2⟩)
    · exact .inr (.inr ⟨x, c2, e, e2, k.trans k2⟩)
  · exact .inr (.inr ⟨x, c1, rfl, e, k.mono fun _ h => List.mem_append_left _ h⟩)
theorem Sd.mono (h : Sd m c T w Q) (i : ∀ a c', PWk T c c' → Q a c' → Q' a c') : Sd m c T w Q' := by
  rcases h with h | ⟨a, c1, e, k, q⟩ | h
  · exact .inl h
  · exact .inr (.inl ⟨a, c1, e, k, i _ _ k q⟩)
  · exact .inr (.inr h)
theorem Sd.sub (h : Sd m c T1 w Q) (i : ∀ x, x ∈ T1 → x ∈ T2) : Sd m c T2 w Q := by
  rcases h with h | ⟨a, c1, e, k, q⟩ | ⟨x, c1, e, e2, k⟩
  · exact .inl h
  · exact .inr (.inl ⟨a, c1, e, k.mono i, q⟩)
  · exact .inr (.inr ⟨x, c1, e, e2, k.mono i⟩)
theorem Sd.eqT (h : Sd m c T1 w Q) (e : T1 = T2) : Sd m c T2 w Q := e ▸ h
theorem Sd.cg (h : Sd m c T w Q) (h1 : w = .er → w' = .er) (h2 : ∀ x, w = .ex x → w' = .ex x) : Sd m c T w' Q := by
  rcases h with h | h | ⟨x, c1, e, e2, k⟩
  · exact .inl (h1 h)
  · exact .inr (.inl h)
  · exact .inr (.inr ⟨x, c1, e, h2 x e2, k⟩)
theorem Sd.bdV {K : D → PEnv → RF} (h : Sd m c T w Q) : Sd m c T (bdV w K) Q := h.cg (fun e => by rw [e]; rfl) fun x e => by rw [e]; rfl
theorem Sd.bdS {K : PEnv → RF} (h : Sd m c T w Q) : Sd m c T (bdS w K) Q := h.cg (fun e => by rw [e]; rfl) fun x e => by rw [e]; rfl
theorem Sd.onO {γ : Type} {o : Option γ} {k : γ → RF} (h : ∀ a, o = some a → Sd m c T (k a) Q) : Sd m c T (onO o k) Q := by
  cases o with
  | none => exact .inl rfl
  | some a => exact h a rfl
end
def FrOk (f : Fsh) (r : Rv) : Prop := (∀ d, r = .fr d → isLst d = true) ∧ match f with
  | .z => ∃ d, r = .fz d
  | .f => ∃ d, r = .fr d
  | .u => True
theorem FrOk.fz {d : D} : FrOk .z (.fz d) := ⟨fun _ h => (by cases h), d, rfl⟩
theorem FrOk.up {f g : Fsh} {r : Rv} (h : FrOk f r) (u : upF f g = true) : FrOk g r := by
  refine ⟨h.1, ?_⟩
  unfold upF at u
  rw [Bool.or_eq_true, decide_eq_true_eq, decide_eq_true_eq] at u
  rcases u with rfl | rfl
  · exact h.2
  · trivial
theorem joinF_l (f g : Fsh) : upF f (joinF f g) = true := by cases f <;> cases g <;> rfl
theorem joinF_r (f g : Fsh) : upF g (joinF f g) = true := by cases f <;> cases g <;> rfl
theorem FrOk.joinL {f g : Fsh} {r : Rv} (h : FrOk f r) : FrOk (joinF f g) r := h.up (joinF_l f g)
theorem FrOk.joinR {f g : Fsh} {r : Rv} (h : FrOk g r) : FrOk (joinF f g) r := h.up (joinF_r f g)
/-! ### values -/
theorem frOk_map {α : Type} {o : Option α} {f : α → D} {r : Rv} (h : (o.map fun a => Rv.fz (f a)) = some r) : FrOk .z r := by
  cases o with
  | none => cases h
  | some a => cases h; exact .fz
theorem binD_frl {o : Operator} {a b : D} {r : Rv} (h : binD o a b = some r) : ∀ d, r = .fr d → isLst d = true := by
  intro d hd
  subst hd
  unfold binD at h
  split at h <;> first | (cases h; done) | (cases h; rfl) | (split at h <;> first | (cases h; done) | (cases h; rfl))
theorem binD_z {o : Operator} {a b : D} {r : Rv} (h : binD o a b = some r) (h1 : o ≠ .Add) (h2 : o ≠ .Mult) : ∃ d, r = .fz d := by
  unfold binD at h
  split at h <;> first | exact absurd rfl h1 | exact absurd rfl h2 | (cases h; done) | (cases h; exact ⟨_, rfl⟩) | (split at h <;> first | (cases h; done) | (cases h; exact ⟨_, rfl⟩))
theorem binD_f {o : Operator} {a b : D} {r : Rv} (h : binD o a b = some r) (h1 : isLst a = true) (h2 : o = .Add ∨ o = .Mult) : ∃ d, r = .fr d := by
  cases a with
  | list xs =>
    rcases h2 with rfl | rfl
    · cases b <;> first | (cases h; done) | skip
      unfold binD at h
      dsimp only at h
      split at h
      · cases h; exact ⟨_, rfl⟩
      · cases h
    · cases b <;> first | (cases h; done) | skip
      unfold binD at h
      dsimp only at h
      split at h
      · cases h; exact ⟨_, rfl⟩
      · cases h
  | _ => cases h1
theorem slcD_frl {a : D} {l h : Option Int} {r : Rv} (e : slcD a l h = some r) : FrOk .u r := by
  refine ⟨fun d hd => ?_, trivial⟩
  subst hd
  unfold slcD at e
  split at e <;> first | (cases e; done) | (cases e; rfl) | (split at e <;> cases e)
theorem revD_frl {a : D} {r : Rv} (e : revD a = some r) : FrOk .u r := by
  refine ⟨fun d hd => ?_, trivial⟩
  subst hd
  unfold revD at e
  split at e <;> first | (cases e; done) | (cases e; rfl)
theorem opt_bind {α β : Type} {o : Option α} {f : α → Option β} {b : β} (h : o.bind f = some b) : ∃ a, o = some a ∧ f a = some b := by
  cases o with
  | none => cases h
  | some a => exact ⟨a, rfl, h⟩
theorem opt_map {α β : Type} {o : Option α} {f : α → β} {b : β} (h : o.map f = some b) : ∃ a, o = some a ∧ f a = b := by
  cases o with
  | none => cases h
  | some a => exact ⟨a, rfl, by cases h; rfl⟩
theorem bltD_fr {f : Bt} {ds : List D} {r : Rv} (h : bltD f ds = some r) : FrOk (bltF f) r := by
  unfold bltD at h
  split at h
  all_goals first
    | (cases h; done)
    | (cases h; exact ⟨fun d e => (by first | (cases e; done) | (cases e; rfl)), _, rfl⟩)
    | (cases h; exact ⟨fun d e => (by first | (cases e; done) | (cases e; rfl)), _, rfl⟩)
    | (split at h <;> first | (cases h; done) | (cases h; exact ⟨fun d e => (by first | (cases e; done) | (cases e; rfl)), _, rfl⟩) | (cases h; exact ⟨fun d e => (by first | (cases e; done) | (cases e; rfl)), _, rfl⟩))
    | exact frOk_map h
    | (obtain ⟨l, _, h⟩ := opt_bind h; first | exact frOk_map h | (split at h <;> first | (cases h; done) | (cases h; exact ⟨fun d e => (by first | (cases e; done) | (cases e; rfl)), _, rfl⟩)))
theorem vmD_z {m : Vm} {d : D} {ds : List D} {r : Rv} (h : vmD m d ds = some r) : FrOk .z r := by
  unfold vmD at h
  split at h
  · split at h
    · exact frOk_map h
    · cases h
  · exact frOk_map h
  · cases h
end Cr
set_option Elab.async false
set_option linter.all false
set_option maxRecDepth 100000
set_option maxHeartbeats 4000000
namespace Cr
open PySem
/-! ### calls -/
def WkP (pm : Ms) (ss o : List Sl) : Prop := o.length = ss.length ∧ ∀ j s, ss[j]? = some s → ∃ s', o[j]? = some s' ∧ ((pm.getD j .sv = .rn ∨ pm.getD j .sv = .ro) → PFrz s s') ∧ PShw s s'
def AllSl (M : Ms) (ds : List (Option D)) (ss : List Sl) : Prop := ∀ j s, ss[j]? = some s → PSl (M.getD j .sv) (pLook ds j) s
def CalOk (cP : List D → R (D × PEnv)) (cC : List Sl → CR) (g : Sig) : Prop :=
  ∀ as ss, as.length = ss.length → ss.length = g.pm.length → AllSl g.pm (as.map some) ss →
   cP as = .er ∨ (∃ r o outs, cC ss = .ret r o ∧ cP as = .ok (r.d, outs) ∧ FrOk g.fr r ∧ outs.length = ss.length ∧ AllSl g.om outs o ∧ WkP g.pm ss o) ∨ ∃ x o, cC ss = .exc x o ∧ cP as = .ex x ∧ WkP g.pm ss o
def lendS : Sl → Sl
  | .mu _ d => .mu true d
  | .frz d => .val d
  | s => s
def ElR (c : Ev) (a : CE) (o : Op) (d : D) (s : Sl) : Prop :=
  (∃ i s0, a = .var i ∧ c[i]? = some s0 ∧ cont s0 = some d ∧ s = lendS s0 ∧ (o = .pl i ∨ (o = .vl d ∧ (s0 = .val d ∨ s0 = .frz d)))) ∨ ((∀ i, a ≠ .var i) ∧ o = .vl d ∧ s = .val d)
inductive CallR (c : Ev) : List CE → List Op → List D → List Sl → Prop where
  | nil : CallR c [] [] [] []
  | cons {a o d s es os ds ss} : ElR c a o d s → CallR c es os ds ss → CallR c (a :: es) (o :: os) (d :: ds) (s :: ss)
theorem CallR.len {c : Ev} {es : List CE} {os : List Op} {ds : List D} {ss : List Sl} (h : CallR c es os ds ss) : os.length = es.length ∧ ds.length = es.length ∧ ss.length = es.length := by
  induction h with
  | nil => exact ⟨rfl, rfl, rfl⟩
  | cons _ _ ih => simp [ih.1, ih.2.1, ih.2.2]
/-- an argument that has been looked at -/
def PArg (c : Ev) (a : CE) (o : Op) (g : Gtr) : Prop :=
  (∃ i, a = .var i ∧ (g = fun p => pLook p i) ∧ (o = .pl i ∨ ∃ d, o = .vl d ∧ (c[i]? = some (.val d) ∨ c[i]? = some (.frz d)))) ∨ ((∀ i, a ≠ .var i) ∧ ∃ d, o = .vl d ∧ g = fun _ => some d)
inductive PArgs (c : Ev) : List CE → List Op → List Gtr → Prop where
  | nil : PArgs c [] [] []
  | cons {a o g es os gs} : PArg c a o g → PArgs c es os gs → PArgs c (a :: es) (o :: os) (g :: gs)
theorem lendS_arg {c : Ev} {i : Nat} {s0 : Sl} {d : D} (h : c[i]? = some s0) (hd : cont s0 = some d) : argS (.pl i) c = some (lendS s0) := by
  unfold argS
  dsimp only
  rw [h]
  cases s0 with
  | un => cases hd
  | _ => rfl
theorem args_callR {M : Ms} {p : PEnv} {c : Ev} (R : PRel M p c) : ∀ {es : List CE} {os : List Op} {gs : List Gtr} {as : List D}, PArgs c es os gs → pGets gs p = some as → ∃ ss, argsS os c = some ss ∧ CallR c es os as ss
  | _, _, _, as, .nil, h => by
    cases h
    exact ⟨[], rfl, .nil⟩
  | _, _, _, as, .cons (a := a) (o := o) (g := g) (es := es) (os := os) (gs := gs) ha hr, h => by
    unfold pGets at h
    split at h
    · rename_i d ds e1 e2
      cases h
      obtain ⟨ss, h1, h2⟩ := args_callR R hr e2
      rcases ha with ⟨i, rfl, rfl, ho⟩ | ⟨hn, d', rfl, rfl⟩
      · obtain ⟨s0, q1, q2, _⟩ := R.look e1
        have key : argS o c = some (lendS s0) ∧ (o = .pl i ∨ (o = .vl d ∧ (s0 = .val d ∨ s0 = .frz d))) := by
          rcases ho with rfl | ⟨d', rfl, w | w⟩
          · exact ⟨lendS_arg q1 q2, .inl rfl⟩
          · rw [q1] at w
            cases w
            cases q2
            exact ⟨rfl, .inr ⟨rfl, .inl rfl⟩⟩
          · rw [q1] at w
            cases w
            cases q2
            exact ⟨rfl, .inr ⟨rfl, .inr rfl⟩⟩
        refine ⟨lendS s0 :: ss, ?_, .cons (.inl ⟨i, s0, rfl, q1, q2, rfl, key.2⟩) h2⟩
        unfold argsS
        rw [key.1, h1]
      · cases e1
        refine ⟨.val d :: ss, ?_, .cons (.inr ⟨hn, rfl, rfl⟩) h2⟩
        unfold argsS
        rw [h1]
        rfl
    · cases h
theorem not_mu {s : Sl} (h : shp .sv s = true) : ∀ b d, s ≠ .mu b d := by
  intro b d e
  subst e
  cases h
theorem lends_sub {M : Ms} {p : PEnv} {c : Ev} (R : PRel M p c) {es : List CE} {os : List Op} {ds : List D} {ss : List Sl} (h : CallR c es os ds ss) : (lends os c).Sublist (lentV es M) := by
  induction h with
  | nil => exact List.Sublist.refl _
  | cons ha hr ih =>
    rename_i a o d s es os ds ss
    rcases ha with ⟨i, s0, rfl, q1, q2, rfl, ho⟩ | ⟨hn, rfl, rfl⟩
    · have e1 : (lentV (.var i :: es) M) = if M.getD i .sv = .sv then lentV es M else i :: lentV es M := rfl
      have sl := R.sl i s0 q1
      have key : (lends (o :: os) c) = lends os c ∨ (lends (o :: os) c = i :: lends os c ∧ ∃ b d, s0 = .mu b d) := by
        rcases ho with rfl | ⟨rfl, _⟩
        · have e2 : lends (.pl i :: os) c = (match c[i]? with | some (.mu _ _) => i :: lends os c | _ => lends os c) := rfl
          rw [e2, q1]
          cases s0 with
          | mu b d => exact .inr ⟨rfl, b, d, rfl⟩
          | _ => exact .inl rfl
        · exact .inl rfl
      rw [e1]
      rcases key with k | ⟨k, b, d', rfl⟩
      · rw [k]
        split
        · exact ih
        · exact ih.cons _
      · rw [k]
        split
        · rename_i hm
          rw [hm] at sl
          exact absurd rfl (not_mu sl.1 b d')
        · exact ih.cons₂ _
    · have e1 : lentV (a :: es) M = lentV es M := by
        cases a with
        | var i => exact absurd rfl (hn i)
        | _ => rfl
      rw [e1]
      exact ih
theorem lends_sv {M : Ms} {p : PEnv} {c : Ev} (R : PRel M p c) {es : List CE} {os : List Op} {ds : List D} {ss : List Sl} (h : CallR c es os ds ss) (hv : varsSv es M = true) : lends os c = [] ∧ ss = ds.map .val := by
  induction h with
  | nil => exact ⟨rfl, rfl⟩
  | cons ha hr ih =>
    rename_i a o d s es os ds ss
    rcases ha with ⟨i, s0, rfl, q1, q2, rfl, ho⟩ | ⟨hn, rfl, rfl⟩
    · have hv' : (decide (M.getD i .sv = .sv) && varsSv es M) = true := hv
      rw [Bool.and_eq_true, decide_eq_true_eq] at hv'
      have sl := R.sl i s0 q1
      rw [hv'.1] at sl
      have hs : s0 = .val d := by
        cases s0 with
        | val d' => cases q2; rfl
        | un => cases q2
        | mu b d' => exact absurd rfl (not_mu sl.1 b d')
        | frz d' => cases sl.1
      subst hs
      have ih := ih hv'.2
      refine ⟨?_, by rw [ih.2]; rfl⟩
      rcases ho with rfl | ⟨rfl, _⟩
      · unfold lends
        rw [q1]
        exact ih.1
      · exact ih.1
    · have hv' : varsSv es M = true := by
        cases a with
        | var i => exact absurd rfl (hn i)
        | _ => exact hv
      have ih := ih hv'
      exact ⟨ih.1, by rw [ih.2]; rfl⟩
theorem shp_wk {m : Am} {s : Sl} (h : shp m s = true) : shp (wkA m) s = true := by
  cases m <;> cases s <;> first | rfl | (cases h; done) | exact h | (rename_i b _; cases b <;> first | exact h | (cases h; done))
theorem shp_isL {m : Am} {b : Bool} {d : D} (h : shp m (.mu b d) = true) : isLst d = true := by
  cases m <;> cases b <;> first | exact h | (cases h; done)
theorem shp_mu {m : Am} {b : Bool} {d d' : D} (h : shp m (.mu b d) = true) (hd : isLst d' = true) : shp m (.mu b d') = true := by
  cases m <;> cases b <;> first | exact hd | (cases h; done)
theorem mut_mu {m : Am} {s : Sl} (h : mutA m = true) (hs : shp m s = true) : ∃ b d, s = .mu b d := by
  cases m <;> first | (cases h; done) | (cases s <;> first | exact ⟨_, _, rfl⟩ | (cases hs; done))
/-- what the callee asks of its arguments holds -/
theorem ckArgs_sl {c : Ev} {es : List CE} {os : List Op} {ds : List D} {ss : List Sl} (h : CallR c es os ds ss) : ∀ {M : Ms} {p : PEnv} {pm om : Ms} {Mf : Ms}, PRel M p c → ckArgs pm om es M = some Mf → pm.length = es.length ∧ om.length = es.length ∧ AllSl pm (ds.map some) ss := by
  induction h with
  | nil =>
    intro M p pm om Mf R hk
    cases pm with
    | cons _ _ => cases om <;> cases hk
    | nil =>
      cases om with
      | cons _ _ => cases hk
      | nil => exact ⟨rfl, rfl, fun j s e => by simp at e⟩
  | cons ha hr ih =>
    rename_i a o d s es os ds ss
    intro M p pm om Mf R hk
    cases pm with
    | nil => cases om <;> cases hk
    | cons m pm =>
      cases om with
      | nil => cases hk
      | cons q om =>
        have fin : ∀ {M' : Ms}, PRel M' p c → ckArgs pm om es M' = some Mf → shp m s = true → cont s = some d → (m :: pm).length = (a :: es).length ∧ (q :: om).length = (a :: es).length ∧ AllSl (m :: pm) ((d :: ds).map some) (s :: ss) := by
          intro M' R' hk' hs hc
          obtain ⟨h1, h2, h3⟩ := ih R' hk'
          refine ⟨by simp [h1], by simp [h2], fun j t e => ?_⟩
          cases j with
          | zero => cases e; exact ⟨hs, fun x hx => by cases hx; exact hc⟩
          | succ j => exact h3 j t e
        rcases ha with ⟨i, s0, rfl, q1, q2, rfl, ho⟩ | ⟨hn, rfl, rfl⟩
        · have sl := (R.sl i s0 q1).1
          have cl : cont (lendS s0) = some d := by
            cases s0 with
            | un => cases q2
            | _ => exact q2
          have lv : (∃ d', lendS s0 = .val d') ∨ ∃ d', lendS s0 = .mu true d' ∧ isLst d' = true := by
            cases s0 with
            | un => cases q2
            | val d' => exact .inl ⟨_, rfl⟩
            | frz d' => exact .inl ⟨_, rfl⟩
            | mu b d' => exact .inr ⟨_, rfl, shp_isL sl⟩
          unfold ckArgs at hk
          dsimp only at hk
          cases m with
          | le =>
            dsimp only at hk
            split at hk
            · rename_i hm
              have sm : shp .le (lendS s0) = true := by
                obtain ⟨b, d', rfl⟩ := mut_mu hm.1 sl
                exact shp_isL sl
              refine fin (M' := if q = .le then M else M.set i (wkA (M.getD i .sv))) ?_ hk sm cl
              split
              · exact R
              · have := R.setM (i := i) (m := wkA (M.getD i .sv)) q1 (shp_wk sl) rfl
                rw [set_same q1] at this
                exact this
            · cases hk
          | rn =>
            dsimp only at hk
            split at hk
            · refine fin R hk ?_ cl
              rcases lv with ⟨d', e⟩ | ⟨d', e, z⟩ <;> rw [e] <;> first | rfl | exact z
            · cases hk
          | ro =>
            dsimp only at hk
            split at hk
            · have := R.setM (i := i) (m := wkA (M.getD i .sv)) q1 (shp_wk sl) rfl
              rw [set_same q1] at this
              refine fin this hk ?_ cl
              rcases lv with ⟨d', e⟩ | ⟨d', e, z⟩ <;> rw [e] <;> first | rfl | exact z
            · cases hk
          | sv =>
            dsimp only at hk
            split at hk
            · rename_i hm
              refine fin R hk ?_ cl
              rw [hm] at sl
              cases s0 with
              | un => cases q2
              | val d' => rfl
              | frz d' => cases sl
              | mu b d' => cases sl
            · cases hk
          | mo => cases hk
          | sm => cases hk
        · have hk' : (if m = .sv ∨ m = .rn ∨ m = .ro then ckArgs pm om es M else none) = some Mf := by
            cases a with
            | var i => exact absurd rfl (hn i)
            | _ => exact hk
          split at hk'
          · rename_i hm
            refine fin R hk' ?_ rfl
            rcases hm with rfl | rfl | rfl <;> rfl
          · cases hk'
theorem backG_at' {os : List Op} {o : List Sl} : ∀ (e : Ev) (k i : Nat), (backG os o k e)[i]? = (e[i]?).map (backS os o (k + i))
  | [], k, i => by simp [backG]
  | s :: r, k, 0 => by simp [backG]
  | s :: r, k, i + 1 => by
    have : (backG os o k (s :: r))[i + 1]? = (backG os o (k + 1) r)[i]? := rfl
    rw [this, backG_at' r (k + 1) i]
    simp
    congr 2
    omega
theorem back_getP {os : List Op} {o : List Sl} {e : Ev} {i : Nat} : (back os o e)[i]? = (e[i]?).map (backS os o i) := by
  show (backG os o 0 e)[i]? = _
  rw [backG_at' e 0 i]
  simp
theorem back_len {os : List Op} {o : List Sl} : ∀ (e : Ev) (k : Nat), (backG os o k e).length = e.length
  | [], _ => rfl
  | s :: r, k => by simp [backG, back_len r]
theorem backS_id {os : List Op} {o : List Sl} {i : Nat} {s : Sl} (h : lentAt os o i = none) : backS os o i s = s := by
  cases s with
  | mu b d => unfold backS; simp only [h]
  | _ => rfl
theorem backS_nm {os : List Op} {o : List Sl} {i : Nat} {s : Sl} (h : ∀ b d, s ≠ .mu b d) : backS os o i s = s := by
  cases s with
  | mu b d => exact absurd rfl (h b d)
  | _ => rfl
def vars : List CE → List Nat
  | .var i :: as => i :: vars as
  | _ :: as => vars as
  | [] => []
theorem vars_no {a : CE} {es : List CE} (h : ∀ i, a ≠ .var i) : vars (a :: es) = vars es := by
  cases a with
  | var i => exact absurd rfl (h i)
  | _ => rfl
theorem lent_other {c : Ev} {es : List CE} {os : List Op} {ds : List D} {ss : List Sl} (h : CallR c es os ds ss) {i : Nat} (hi : i ∉ vars es) : ∀ o, lentAt os o i = none := by
  induction h with
  | nil => intro o; cases o <;> rfl
  | cons ha hr ih =>
    rename_i a op d s es os ds ss
    intro o
    cases o with
    | nil => cases op <;> rfl
    | cons t o =>
      rcases ha with ⟨k, s0, rfl, q1, q2, rfl, ho⟩ | ⟨hn, rfl, rfl⟩
      · have hk1 : k ≠ i := fun e => hi (by rw [← e]; exact List.mem_cons_self)
        have hi' : i ∉ vars es := fun e => hi (List.mem_cons_of_mem _ e)
        rcases ho with rfl | ⟨rfl, _⟩
        · show (if k = i then some t else lentAt os o i) = none
          rw [if_neg hk1]
          exact ih hi' o
        · exact ih hi' o
      · exact ih (by rw [← vars_no hn]; exact hi) o
theorem ckArgs_cons {a : CE} {m q : Am} {pm om : Ms} {es : List CE} {M Mf : Ms} (h : ckArgs (m :: pm) (q :: om) (a :: es) M = some Mf) :
    ((∀ i, a ≠ .var i) ∧ m ≠ .le ∧ ckArgs pm om es M = some Mf) ∨ ∃ i M1, a = .var i ∧ ckArgs pm om es M1 = some Mf ∧
      ((M1 = M ∧ (m = .rn ∧ q = .rn ∨ m = .sv ∧ M.getD i .sv = .sv ∨ m = .le ∧ mutA (M.getD i .sv) = true ∧ q = .le)) ∨
       (M1 = M.set i (wkA (M.getD i .sv)) ∧ (m = .ro ∧ q = .ro ∨ m = .le ∧ mutA (M.getD i .sv) = true ∧ q = .ro))) := by
  cases a with
  | var i =>
    right
    unfold ckArgs at h
    dsimp only at h
    cases m with
    | le =>
      dsimp only at h
      split at h
      · rename_i hm
        rcases hm.2 with rfl | rfl
        · exact ⟨i, M, rfl, h, .inl ⟨rfl, .inr (.inr ⟨rfl, hm.1, rfl⟩)⟩⟩
        · exact ⟨i, _, rfl, h, .inr ⟨rfl, .inr ⟨rfl, hm.1, rfl⟩⟩⟩
      · cases h
    | rn =>
      dsimp only at h
      split at h
      · rename_i e; exact ⟨i, M, rfl, h, .inl ⟨rfl, .inl ⟨rfl, e⟩⟩⟩
      · cases h
    | ro =>
      dsimp only at h
      split at h
      · rename_i e; exact ⟨i, _, rfl, h, .inr ⟨rfl, .inl ⟨rfl, e⟩⟩⟩
      · cases h
    | sv =>
      dsimp only at h
      split at h
      · rename_i e; exact ⟨i, M, rfl, h, .inl ⟨rfl, .inr (.inl ⟨rfl, e⟩)⟩⟩
      · cases h
    | mo => cases h
    | sm => cases h
  | _ =>
    left
    unfold ckArgs at h
    dsimp only at h
    split at h
    · rename_i hm
      refine ⟨fun i e => (by cases e), ?_, h⟩
      rintro rfl
      rcases hm with e | e | e <;> cases e
    · cases h
theorem pBack_nv {a : CE} {m : Am} {pm : Ms} {es : List CE} {o : Option D} {outs p : PEnv} (h : (∀ i, a ≠ .var i) ∨ m ≠ .le) : pBack (m :: pm) (a :: es) (o :: outs) p = pBack pm es outs p := by
  cases m <;> cases a <;> first | rfl | (rcases h with h | h; exact absurd rfl (h _); exact absurd rfl h)
theorem pBack_len : ∀ {pm : Ms} {es : List CE} {outs p : PEnv}, (pBack pm es outs p).length = p.length
  | [], _, _, _ => by unfold pBack; rfl
  | m :: _, [], _, _ => by cases m <;> rfl
  | m :: _, a :: _, [], _ => by cases m <;> cases a <;> rfl
  | m :: pm, a :: es, o :: outs, p => by
    have ih : ∀ p, (pBack pm es outs p).length = p.length := fun p => pBack_len
    by_cases h : (∀ i, a ≠ .var i) ∨ m ≠ .le
    · rw [pBack_nv h, ih]
    · have h2 : (∃ i, a = .var i) ∧ m = .le := ⟨Classical.byContradiction fun q => h (.inl fun i e => q ⟨i, e⟩), Classical.byContradiction fun q => h (.inr q)⟩
      obtain ⟨⟨i, rfl⟩, rfl⟩ := h2
      show (pBack pm es outs (p.set i o)).length = _
      rw [ih, List.length_set]
theorem ck_other {i : Nat} : ∀ {es : List CE}, i ∉ vars es → ∀ {M pm om Mf : Ms} {p outs : PEnv}, ckArgs pm om es M = some Mf →
    Mf.getD i .sv = M.getD i .sv ∧ pLook (pBack pm es outs p) i = pLook p i ∧ Mf.length = M.length
  | [], _, M, pm, om, Mf, p, outs, hk => by
    cases pm with
    | cons _ _ => cases om <;> cases hk
    | nil =>
      cases om with
      | cons _ _ => cases hk
      | nil => cases hk; exact ⟨rfl, rfl, rfl⟩
  | a :: es, hi, M, pm, om, Mf, p, outs, hk => by
    cases pm with
    | nil => cases om <;> cases hk
    | cons m pm =>
      cases om with
      | nil => cases hk
      | cons q om =>
        cases outs with
        | nil =>
          have e1 : pBack (m :: pm) (a :: es) [] p = p := by cases m <;> cases a <;> rfl
          rw [e1]
          rcases ckArgs_cons hk with ⟨hn, _, hk2⟩ | ⟨k, M1, rfl, hk2, hM⟩
          · rw [vars_no hn] at hi
            have ih := ck_other hi (p := p) (outs := []) hk2
            exact ⟨ih.1, rfl, ih.2.2⟩
          · have hk1 : k ≠ i := fun e => hi (by rw [← e]; exact List.mem_cons_self)
            have hi' : i ∉ vars es := fun e => hi (List.mem_cons_of_mem _ e)
            have ih := ck_other hi' (p := p) (outs := []) hk2
            rcases hM with ⟨rfl, _⟩ | ⟨rfl, _⟩
            · exact ⟨ih.1, rfl, ih.2.2⟩
            · refine ⟨ih.1.trans ?_, rfl, ih.2.2.trans (by simp)⟩
              rw [getD_set, if_neg (fun e => hk1 e.1)]
        | cons o outs =>
          rcases ckArgs_cons hk with ⟨hn, hm, hk2⟩ | ⟨k, M1, rfl, hk2, hM⟩
          · rw [vars_no hn] at hi
            rw [pBack_nv (.inl hn)]
            exact ck_other hi hk2
          · have hk1 : k ≠ i := fun e => hi (by rw [← e]; exact List.mem_cons_self)
            have hi' : i ∉ vars es := fun e => hi (List.mem_cons_of_mem _ e)
            have e2 : pLook (pBack (m :: pm) (.var k :: es) (o :: outs) p) i = pLook p i := by
              by_cases hm : m = .le
              · subst hm
                show pLook (pBack pm es outs (p.set k o)) i = _
                rw [(ck_other hi' hk2).2.1, pLook_set, if_neg (fun e => hk1 e.1)]
              · rw [pBack_nv (.inr hm), (ck_other hi' hk2).2.1]
            have ih := ck_other hi' (p := p) (outs := []) hk2
            rcases hM with ⟨rfl, _⟩ | ⟨rfl, _⟩
            · exact ⟨ih.1, e2, ih.2.2⟩
            · refine ⟨ih.1.trans ?_, e2, ih.2.2.trans (by simp)⟩
              rw [getD_set, if_neg (fun e => hk1 e.1)]
theorem var_of_lends {c : Ev} {es : List CE} {os : List Op} {ds : List D} {ss : List Sl} (h : CallR c es os ds ss) {i : Nat} {b : Bool} {d : D} (hi : c[i]? = some (.mu b d)) (hv : i ∈ vars es) : i ∈ lends os c := by
  induction h with
  | nil => cases hv
  | cons ha hr ih =>
    rename_i a op d' s es os ds ss
    rcases ha with ⟨k, s0, rfl, q1, q2, rfl, ho⟩ | ⟨hn, rfl, rfl⟩
    · rcases ho with rfl | ⟨rfl, w⟩
      · have e2 : lends (.pl k :: os) c = (match c[k]? with | some (.mu _ _) => k :: lends os c | _ => lends os c) := rfl
        rw [e2]
        rcases List.mem_cons.mp hv with rfl | hv
        · rw [hi]
          exact List.mem_cons_self
        · have := ih hv
          split
          · exact List.mem_cons_of_mem _ this
          · exact this
      · rcases List.mem_cons.mp hv with rfl | hv
        · rw [hi] at q1
          cases q1
          rcases w with w | w <;> cases w
        · exact ih hv
    · rw [vars_no hn] at hv
      exact ih hv
/-- a place behind a call -/
theorem args_back {c : Ev} {es : List CE} {os : List Op} {ds : List D} {ss : List Sl} (h : CallR c es os ds ss) {i : Nat} {s0 : Sl} (hc : c[i]? = some s0) :
    ∀ {M pm om Mf : Ms} {p outs : PEnv} {o : List Sl}, ckArgs pm om es M = some Mf → M.length = c.length → p.length = c.length → (lends os c).Nodup → AllSl om outs o → outs.length = ss.length → WkP pm ss o → PSl (M.getD i .sv) (pLook p i) s0 →
      PSl (Mf.getD i .sv) (pLook (pBack pm es outs p) i) (backS os o i s0) ∧ (i ∉ leV pm es → PFrz s0 (backS os o i s0)) ∧ PShw s0 (backS os o i s0) := by
  induction h with
  | nil =>
    intro M pm om Mf p outs o hk lM lp nd ho lo wk sl
    cases pm with
    | cons _ _ => cases om <;> cases hk
    | nil =>
      cases om with
      | cons _ _ => cases hk
      | nil =>
        cases hk
        rw [backS_id (by cases o <;> rfl)]
        exact ⟨sl, fun _ => .rfl', .rfl'⟩
  | cons ha hr ih =>
    rename_i a op d s es os ds ss
    intro M pm om Mf p outs o hk lM lp nd ho lo wk sl
    cases pm with
    | nil => cases om <;> cases hk
    | cons m pm =>
      cases om with
      | nil => cases hk
      | cons q om =>
        cases outs with
        | nil => cases lo
        | cons u outs =>
          cases o with
          | nil => exact absurd wk.1 (by simp)
          | cons t o =>
            have lo' : outs.length = ss.length := by simpa using lo
            have ho' : AllSl om outs o := fun j s e => ho (j + 1) s e
            have wk' : WkP pm ss o := ⟨by simpa using wk.1, fun j s e => wk.2 (j + 1) s e⟩
            have hq : PSl q u t := ho 0 t rfl
            obtain ⟨t', e1, ft, wt⟩ := wk.2 0 s rfl
            cases e1
            rcases ckArgs_cons hk with ⟨hn, hm, hk2⟩ | ⟨k, M1, rfl, hk2, hM⟩
            · rcases ha with ⟨k, s1, rfl, _⟩ | ⟨_, rfl, rfl⟩
              · exact absurd rfl (hn k)
              rw [pBack_nv (.inl hn)]
              have e2 : backS (.vl d :: os) (t :: o) i s0 = backS os o i s0 := by cases s0 <;> rfl
              rw [e2]
              have := ih hk2 lM lp nd ho' lo' wk' sl
              refine ⟨this.1, fun hi => this.2.1 fun z => hi ?_, this.2.2⟩
              cases m <;> cases a <;> first | exact z | (exact List.mem_cons_of_mem _ z) 
            · rcases ha with ⟨k', s1, ek, q1, q2, rfl, hop⟩ | ⟨hn, _⟩
              rotate_left
              · exact absurd rfl (hn k)
              cases ek
              have lM1 : M1.length = c.length := by rcases hM with ⟨rfl, _⟩ | ⟨rfl, _⟩ <;> simpa using lM
              have nd' : (lends os c).Nodup := by
                rcases hop with rfl | ⟨rfl, _⟩
                · have e2 : lends (.pl k :: os) c = (match c[k]? with | some (.mu _ _) => k :: lends os c | _ => lends os c) := rfl
                  rw [e2] at nd
                  split at nd
                  · exact (List.nodup_cons.mp nd).2
                  · exact nd
                · exact nd
              by_cases hki : k = i
              · subst hki
                rw [hc] at q1
                cases q1
                have lk : k < c.length := (List.getElem?_eq_some_iff.mp hc).1
                cases s0 with
                | mu b d0 =>
                  cases q2
                  rcases hop with rfl | ⟨rfl, w⟩
                  rotate_left
                  · rcases w with w | w <;> cases w
                  have hni : k ∉ vars es := by
                    intro hv
                    have := var_of_lends hr hc hv
                    have e2 : lends (.pl k :: os) c = (match c[k]? with | some (.mu _ _) => k :: lends os c | _ => lends os c) := rfl
                    rw [e2, hc] at nd
                    exact (List.nodup_cons.mp nd).1 this
                  have l1 : lentAt (.pl k :: os) (t :: o) k = some t := if_pos rfl
                  have hb : backS (.pl k :: os) (t :: o) k (.mu b d) = (match (some t : Option Sl) with | some (.mu _ d') => .mu b d' | some (.frz d') => if b = true then .frz d' else .val d' | _ => .mu b d) := by
                    show (match lentAt (.pl k :: os) (t :: o) k with | some (.mu _ d') => Sl.mu b d' | some (.frz d') => if b = true then .frz d' else .val d' | _ => .mu b d) = _
                    rw [l1]
                  obtain ⟨d1, ht⟩ := wt.1 d rfl
                  have cko := ck_other hni (p := p) (outs := outs) hk2
                  have mM : M1.getD k .sv = M.getD k .sv ∨ M1.getD k .sv = wkA (M.getD k .sv) := by
                    rcases hM with ⟨rfl, _⟩ | ⟨rfl, _⟩
                    · exact .inl rfl
                    · right; rw [getD_set, if_pos ⟨rfl, by omega⟩]
                  -- the value behind the call
                  have hval : pLook (pBack (m :: pm) (.var k :: es) (u :: outs) p) k = if m = .le then u else pLook p k := by
                    by_cases hm : m = .le
                    · subst hm
                      show pLook (pBack pm es outs (p.set k u)) k = _
                      rw [(ck_other hni hk2).2.1, pLook_set, if_pos ⟨rfl, by omega⟩, if_pos rfl]
                    · rw [pBack_nv (.inr hm), cko.2.1, if_neg hm]
                  rw [hval, cko.1, hb]
                  have hcont : ∀ x, (if m = .le then u else pLook p k) = some x → x = d1 := by
                    intro x hx
                    split at hx
                    · have := hq.2 x hx
                      rcases ht with rfl | rfl <;> (cases this; rfl)
                    · rename_i hm
                      have hx2 := sl.2 x hx
                      cases hx2
                      have hmr : m = .rn ∨ m = .ro := by
                        rcases hM with ⟨_, h | h | h⟩ | ⟨_, h | h⟩
                        · exact .inl h.1
                        · rw [h.2] at sl; exact absurd rfl (not_mu sl.1 b d)
                        · exact absurd h.1 hm
                        · exact .inr h.1
                        · exact absurd h.1 hm
                      rcases ft hmr with e | ⟨d2, e, e'⟩ | ⟨d2, e, e'⟩
                      · rcases ht with rfl | rfl <;> cases e; rfl
                      · cases e
                        rcases ht with rfl | rfl <;> cases e'; rfl
                      · cases e
                  have hmode : (q = .le ∨ q = .rn) ∨ M1 = M.set k (wkA (M.getD k .sv)) := by
                    rcases hM with ⟨_, h | h | h⟩ | ⟨h, _⟩
                    · exact .inl (.inr h.2)
                    · rw [h.2] at sl; exact absurd rfl (not_mu sl.1 b d)
                    · exact .inl (.inl h.2.2)
                    · exact .inr h
                  rcases ht with rfl | rfl
                  · refine ⟨⟨?_, fun x hx => by rw [hcont x hx]; rfl⟩, fun hi => ?_, ?_⟩
                    · have s1 : ∀ m, shp m (.mu b d) = true → shp m (.mu b d1) = true := fun m h => shp_mu h (shp_isL hq.1)
                      rcases mM with e | e
                      · rw [e]; exact s1 _ sl.1
                      · rw [e]; exact s1 _ (shp_wk sl.1)
                    · have hmr : m = .rn ∨ m = .ro := by
                        rcases hM with ⟨_, h | h | h⟩ | ⟨_, h | h⟩
                        · exact .inl h.1
                        · rw [h.2] at sl; exact absurd rfl (not_mu sl.1 b d)
                        · exfalso; apply hi; rw [h.1]; exact List.mem_cons_self
                        · exact .inr h.1
                        · exfalso; apply hi; rw [h.1]; exact List.mem_cons_self
                      rcases ft hmr with e | ⟨d2, e, e'⟩ | ⟨d2, e, e'⟩
                      · cases e; exact .rfl'
                      · cases e'
                      · cases e'
                    · refine ⟨fun x e => ?_, fun x e => (by cases e)⟩
                      cases e
                      exact ⟨d1, .inl rfl⟩
                  · have hM1 : M1.getD k .sv = wkA (M.getD k .sv) := by
                      rcases hmode with h | rfl
                      · rcases h with rfl | rfl
                        · cases hq.1
                        · cases hq.1
                      · rw [getD_set, if_pos ⟨rfl, by omega⟩]
                    have key : ∀ s', s' = (if b = true then Sl.frz d1 else .val d1) → PSl (M1.getD k .sv) (if m = .le then u else pLook p k) s' ∧ (k ∉ leV (m :: pm) (.var k :: es) → PFrz (.mu b d) s') ∧ PShw (.mu b d) s' := by
                      rintro s' rfl
                      refine ⟨⟨?_, fun x hx => by rw [hcont x hx]; cases b <;> rfl⟩, fun hi => ?_, ?_⟩
                      · rw [hM1]
                        have := sl.1
                        generalize M.getD k .sv = mm at this
                        cases b <;> cases mm <;> first | rfl | (cases this; done)
                      · have hmr : m = .rn ∨ m = .ro := by
                          rcases hM with ⟨_, h | h | h⟩ | ⟨_, h | h⟩
                          · exact .inl h.1
                          · rw [h.2] at sl; exact absurd rfl (not_mu sl.1 b d)
                          · exfalso; apply hi; rw [h.1]; exact List.mem_cons_self
                          · exact .inr h.1
                          · exfalso; apply hi; rw [h.1]; exact List.mem_cons_self
                        rcases ft hmr with e | ⟨d2, e, e'⟩ | ⟨d2, e, e'⟩
                        · cases e
                        · cases e; cases e'
                          cases b
                          · exact .inr (.inr ⟨_, rfl, rfl⟩)
                          · exact .inr (.inl ⟨_, rfl, rfl⟩)
                        · cases e
                      · refine ⟨fun x e => ?_, fun x e => (by cases e)⟩
                        cases e
                        exact ⟨d1, .inr rfl⟩
                    exact key _ rfl
                | un => cases q2
                | val d0 =>
                  have e2 : ∀ op os o, backS (op :: os) o k (.val d0) = backS os (o.drop 1) k (.val d0) := fun _ _ _ => rfl
                  have hm : m ≠ .le := by
                    rintro rfl
                    have := sl.1
                    rcases hM with ⟨_, h | h | h⟩ | ⟨_, h | h⟩
                    · cases h.1
                    · cases h.1
                    · have h2 := h.2.1
                      generalize M.getD k .sv = mm at this h2
                      cases mm <;> first | (cases h2; done) | (cases this; done)
                    · cases h.1
                    · have h2 := h.2.1
                      generalize M.getD k .sv = mm at this h2
                      cases mm <;> first | (cases h2; done) | (cases this; done)
                  rw [pBack_nv (.inr hm)]
                  have sl1 : PSl (M1.getD k .sv) (pLook p k) (.val d0) := by
                    rcases hM with ⟨rfl, _⟩ | ⟨rfl, _⟩
                    · exact sl
                    · rw [getD_set, if_pos ⟨rfl, by omega⟩]; exact ⟨shp_wk sl.1, sl.2⟩
                  have := ih hk2 lM1 lp nd' ho' lo' wk' sl1
                  refine ⟨this.1, fun hi => this.2.1 fun z => hi ?_, this.2.2⟩
                  cases m <;> first | exact z | exact List.mem_cons_of_mem _ z
                | frz d0 =>
                  have hm : m ≠ .le := by
                    rintro rfl
                    have := sl.1
                    rcases hM with ⟨_, h | h | h⟩ | ⟨_, h | h⟩
                    · cases h.1
                    · cases h.1
                    · have h2 := h.2.1
                      generalize M.getD k .sv = mm at this h2
                      cases mm <;> first | (cases h2; done) | (cases this; done)
                    · cases h.1
                    · have h2 := h.2.1
                      generalize M.getD k .sv = mm at this h2
                      cases mm <;> first | (cases h2; done) | (cases this; done)
                  rw [pBack_nv (.inr hm)]
                  have sl1 : PSl (M1.getD k .sv) (pLook p k) (.frz d0) := by
                    rcases hM with ⟨rfl, _⟩ | ⟨rfl, _⟩
                    · exact sl
                    · rw [getD_set, if_pos ⟨rfl, by omega⟩]; exact ⟨shp_wk sl.1, sl.2⟩
                  have := ih hk2 lM1 lp nd' ho' lo' wk' sl1
                  refine ⟨this.1, fun hi => this.2.1 fun z => hi ?_, this.2.2⟩
                  cases m <;> first | exact z | exact List.mem_cons_of_mem _ z
              · have e2 : backS (op :: os) (t :: o) i s0 = backS os o i s0 := by
                  have : lentAt (op :: os) (t :: o) i = lentAt os o i := by
                    rcases hop with rfl | ⟨rfl, _⟩
                    · exact if_neg hki
                    · rfl
                  cases s0 with
                  | mu b d0 => unfold backS; rw [this]
                  | _ => rfl
                rw [e2]
                have sl1 : PSl (M1.getD i .sv) (pLook p i) s0 := by
                  rcases hM with ⟨rfl, _⟩ | ⟨rfl, _⟩
                  · exact sl
                  · rw [getD_set, if_neg (fun e => hki e.1)]; exact sl
                by_cases hm : m = .le
                · subst hm
                  have sl2 : PSl (M1.getD i .sv) (pLook (p.set k u) i) s0 := by rw [pLook_set, if_neg (fun e => hki e.1)]; exact sl1
                  have := ih hk2 lM1 (p := p.set k u) (by simpa using lp) nd' ho' lo' wk' sl2
                  exact ⟨this.1, fun hi => this.2.1 fun z => hi (List.mem_cons_of_mem _ z), this.2.2⟩
                · rw [pBack_nv (.inr hm)]
                  have := ih hk2 lM1 lp nd' ho' lo' wk' sl1
                  refine ⟨this.1, fun hi => this.2.1 fun z => hi ?_, this.2.2⟩
                  cases m <;> first | exact z | exact List.mem_cons_of_mem _ z
end Cr
set_option Elab.async false
set_option linter.all false
set_option maxRecDepth 100000
set_option maxHeartbeats 4000000
namespace Cr
open PySem
section
variable (cf : Nat → List Sl → CR) (cp : Nat → List D → R (D × PEnv)) (sg : Nat → Sig)
def OpR (g : Gtr) (o : Op) : Prop := ∀ M p c, PRel M p c → ∀ d, g p = some d → o.get c = some d
def SE (a : CE) : Prop := ∀ M fr M', chkE sg a M = some (fr, M') → ∀ p c K, PRel M p c → Sd (evE cf a c) c (tchE sg a) (pE cp sg a p K) fun r c' => FrOk fr r ∧ (isLE a = true → isLst r.d = true) ∧ ∃ p', PRel M' p' c' ∧ pE cp sg a p K = K r.d p'
def SO (a : CE) : Prop := ∀ M M', ckO a (chkE sg a M) M = some M' → ∀ p c K, PRel M p c → Sd (opd a (evE cf a) c) c (tchE sg a) (pO a (pE cp sg a p) p K) fun o c' => (isLE a = true → ∃ d, o = .vl d ∧ isLst d = true) ∧ ∃ g p', OpR g o ∧ PRel M' p' c' ∧ pO a (pE cp sg a p) p K = K g p'
def ST (a : CE) : Prop := ∀ M M', ckO a (chkE sg a M) M = some M' → ∀ p c K, PRel M p c → Sd (tst a (evE cf a) c) c (tchE sg a) (pTst a (pE cp sg a p) p K) fun b c' => ∃ p', PRel M' p' c' ∧ pTst a (pE cp sg a p) p K = K b p'
def SL (es : List CE) : Prop := ∀ M M', chkL sg es M = some M' → ∀ p c K, PRel M p c → Sd (evL cf es c) c (tchL sg es) (pL cp sg es p K) fun ds c' => ds.length = es.length ∧ ∃ p', PRel M' p' c' ∧ pL cp sg es p K = K ds p'
def OpsR (gs : List Gtr) (os : List Op) : Prop := ∀ M p c, PRel M p c → ∀ ds, pGets gs p = some ds → gets os c = some ds
def SG (es : List CE) : Prop := ∀ M M', chkG sg es M = some M' → ∀ p c K, PRel M p c → Sd (evO cf es c) c (tchL sg es) (pG cp sg es p K) fun os c' => ∃ gs p', OpsR gs os ∧ PRel M' p' c' ∧ pG cp sg es p K = K gs p'
def SA (es : List CE) : Prop := ∀ M M', chkA sg es M = some M' → ∀ p c K, PRel M p c → Sd (evA cf es c) c (tchL sg es) (pG cp sg es p K) fun os c' => ∃ gs p', PArgs c' es os gs ∧ PRel M' p' c' ∧ pG cp sg es p K = K gs p'
def FrsOk : List Fsh → List Rv → Prop
  | [], [] => True
  | f :: fs, r :: rs => FrOk f r ∧ FrsOk fs rs
  | _, _ => False
def SR (es : List CE) : Prop := ∀ M frs M', chkR sg es M = some (frs, M') → ∀ p c K, PRel M p c → Sd (evR cf es c) c (tchL sg es) (pL cp sg es p K) fun rs c' => FrsOk frs rs ∧ ∃ p', PRel M' p' c' ∧ pL cp sg es p K = K (rs.map Rv.d) p'
def SP (o : Option CE) : Prop := ∀ M M', chkP sg o M = some M' → ∀ p c K, PRel M p c → Sd (evOpt cf o c) c (tchP sg o) (pOpt cp sg o p K) fun i c' => ∃ p', PRel M' p' c' ∧ pOpt cp sg o p K = K i p'
def SI (it : It) : Prop := ∀ M M', chkI sg it M = some M' → ∀ p c K, PRel M p c → Sd (evI cf it c) c (tchI sg it) (pI cp sg it p K) fun l c' => ∃ p', PRel M' p' c' ∧ pI cp sg it p K = K l p'
def SAs (t : Tg) : Prop := ∀ M fr M', chkT sg t fr M = some M' → ∀ r p c K, FrOk fr r → PRel M p c → Sd (evAsg cf t r c) c (tchT sg t) (pAsg cp sg t r.d p K) fun _ c' => ∃ p', PRel M' p' c' ∧ pAsg cp sg t r.d p K = K p'
variable {cf cp sg}
variable {α : Type} {c : Ev} {w : RF}
theorem ite_some {β : Type} {q : Prop} [Decidable q] {x : Option β} {y : β} (h : (if q then x else none) = some y) : q ∧ x = some y := by
  split at h
  · exact ⟨by assumption, h⟩
  · cases h
theorem opd_nv {a : CE} (h : ∀ i, a ≠ .var i) (f : Ev → Rs Rv) (e : Ev) : opd a f e = (f e).bind fun r e => .ok (.vl r.d) e := by
  cases a with
  | var i => exact absurd rfl (h i)
  | _ => rfl
theorem pO_nv {a : CE} (h : ∀ i, a ≠ .var i) (f : (D → PEnv → RF) → RF) (p : PEnv) (K : Gtr → PEnv → RF) : pO a f p K = f fun d p => K (fun _ => some d) p := by
  cases a with
  | var i => exact absurd rfl (h i)
  | _ => rfl
theorem ckO_nv {a : CE} (h : ∀ i, a ≠ .var i) (r : Option (Fsh × Ms)) (M : Ms) : ckO a r M = r.map (·.2) := by
  cases a with
  | var i => exact absurd rfl (h i)
  | _ => rfl
theorem ckO_get {a : CE} (h : ∀ i, a ≠ .var i) {M M' : Ms} (hk : ckO a (chkE sg a M) M = some M') : ∃ fr, chkE sg a M = some (fr, M') := by
  rw [ckO_nv h] at hk
  obtain ⟨⟨fr, M1⟩, h1, rfl⟩ := opt_map hk
  exact ⟨fr, h1⟩
theorem Sd.bind0 {β : Type} {m : Rs α} {T : List Nat} {Q : α → Ev → Prop} {f : α → Ev → Rs β} {Q2 : β → Ev → Prop} (h : Sd m c T w Q) (g : ∀ a c', PWk T c c' → Q a c' → Sd (f a c') c' [] w Q2) : Sd (m.bind f) c T w Q2 :=
  (Sd.bind h g).eqT (List.append_nil T)
theorem so_of {a : CE} (h : SE cf cp sg a) : SO cf cp sg a := by
  intro M M' hk p c K R
  by_cases hv : ∃ i, a = .var i
  · obtain ⟨i, rfl⟩ := hv
    cases hk
    show Sd (match look c i with | some _ => Rs.ok (Op.pl i) c | none => .er) c [] (onO (pLook p i) fun _ => K (fun p => pLook p i) p) _
    refine .onO fun d hd => ?_
    rw [R.lookC hd]
    exact .ok ⟨fun h => (by cases h), _, _, fun M p c R d hd => PRel.lookC R hd, R, (by show onO (pLook p i) _ = _; rw [hd]; rfl)⟩
  · have hn : ∀ i, a ≠ .var i := fun i e => hv ⟨i, e⟩
    obtain ⟨fr, hk⟩ := ckO_get hn hk
    rw [opd_nv hn, pO_nv hn]
    exact (h M fr M' hk p c _ R).bind0 fun r c' _ ⟨_, hl, p', R', e⟩ => .ok ⟨fun q => ⟨r.d, rfl, hl q⟩, _, p', fun _ _ _ _ d hd => hd, R', e⟩
theorem st_of {a : CE} (h : SE cf cp sg a) : ST cf cp sg a := by
  intro M M' hk p c K R
  have gen : Sd ((opd a (evE cf a) c).bind fun o e => match o.get e with | some d => (match truD d with | some b => .ok b e | none => .er) | none => .er) c (tchE sg a) (pO a (pE cp sg a p) p fun g p => onO (g p) fun d => onO (truD d) fun b => K b p) fun b c' => ∃ p', PRel M' p' c' ∧ (pO a (pE cp sg a p) p fun g p => onO (g p) fun d => onO (truD d) fun b => K b p) = K b p' := by
    refine (so_of h M M' hk p c _ R).bind0 fun o c' _ ⟨_, g, p', ho, R', e⟩ => ?_
    rw [e]
    refine .onO fun d hd => .onO fun b hb => ?_
    rw [ho _ _ _ R' d hd]
    dsimp only
    rw [hb]
    refine .ok ⟨p', R', ?_⟩
    rw [hd]
    show onO (truD d) _ = _
    rw [hb]
    rfl
  have bl : (∀ i, a ≠ .var i) → Sd (tstR (evE cf a c)) c (tchE sg a) (pE cp sg a p fun d p => onB d fun b => K b p) fun b c' => ∃ p', PRel M' p' c' ∧ (pE cp sg a p fun d p => onB d fun b => K b p) = K b p' := by
    intro hn
    obtain ⟨fr, hk⟩ := ckO_get hn hk
    refine (h M fr M' hk p c _ R).bind0 fun r c' _ ⟨_, _, p', R', e⟩ => ?_
    rw [e]
    cases hd : r.d with
    | bool b => exact .ok ⟨p', R', rfl⟩
    | _ => exact .er rfl
  cases a <;> first | exact gen | exact bl fun i e => by cases e
theorem Sd.two {x y : Op} {g1 g2 : Gtr} {M : Ms} {p : PEnv} {f : D → D → Option Rv} {K : D → PEnv → RF} {Q : Rv → Ev → Prop} (R : PRel M p c) (h1 : OpR g1 x) (h2 : OpR g2 y)
    (q : ∀ a b r, x.get c = some a → y.get c = some b → f a b = some r → pTwo g1 g2 p f K = K r.d p → Q r c) : Sd (two x y c f) c [] (pTwo g1 g2 p f K) Q := by
  unfold pTwo
  refine .onO fun a ha => .onO fun b hb => ?_
  have e1 := h1 _ _ _ R a ha
  have e2 := h2 _ _ _ R b hb
  unfold Cr.two
  rw [e1, e2]
  dsimp only
  cases hf : f a b with
  | none => exact .er rfl
  | some r => exact .ok (q a b r e1 e2 hf (by unfold pTwo; simp only [ha, hb, hf, Cr.onO, onR]))
theorem Sd.one {x : Op} {g : Gtr} {M : Ms} {p : PEnv} {f : D → Option Rv} {k : D → RF} {Q : Rv → Ev → Prop} (R : PRel M p c) (h : OpR g x)
    (q : ∀ d, g p = some d → Sd (match f d with | some r => .ok r c | none => .er) c [] (k d) Q) : Sd (one x c f) c [] (Cr.onO (g p) k) Q := by
  refine .onO fun d hd => ?_
  unfold Cr.one
  rw [h _ _ _ R d hd]
  exact q d hd
theorem Sd.ite {m1 m2 : Rs α} {T : List Nat} {Q : α → Ev → Prop} {b : Bool} {w1 w2 : RF} (h1 : b = true → Sd m1 c T w1 Q) (h2 : b = false → Sd m2 c T w2 Q) : Sd (if b = true then m1 else m2) c T (if b = true then w1 else w2) Q := by
  cases b with
  | true => exact h1 rfl
  | false => exact h2 rfl
theorem Sd.tstR {m : Rs Rv} {T : List Nat} {Q : Bool → Ev → Prop} (h : Sd m c T w fun r c' => ∀ b, r.d = .bool b → Q b c') (hb : ∀ r c', m = .ok r c' → (∀ b, r.d ≠ .bool b) → w = .er) : Sd (Cr.tstR m) c T w Q := by
  rcases h with h | ⟨r, c', rfl, k, q⟩ | ⟨x, c', rfl, e, k⟩
  · exact .inl h
  · cases hd : r.d with
    | bool b => exact .inr (.inl ⟨b, c', by show (match r.d with | .bool b => Rs.ok b c' | _ => .er) = _; rw [hd], k, q b hd⟩)
    | _ => exact .inl (hb r c' rfl fun b e => by rw [hd] at e; cases e)
  · exact .inr (.inr ⟨x, c', rfl, e, k⟩)
/-! ### lists of expressions -/
theorem sl_of : ∀ {es : List CE}, (∀ a ∈ es, SE cf cp sg a) → SL cf cp sg es
  | [], _, M, M', hk, p, c, K, R => by
    cases hk
    exact .ok ⟨rfl, p, R, rfl⟩
  | a :: r, h, M, M', hk, p, c, K, R => by
    obtain ⟨⟨fr, M1⟩, h1, h2⟩ := opt_bind hk
    show Sd ((evE cf a c).bind fun v e => (evL cf r e).bind fun ds e => .ok (v.d :: ds) e) c (tchE sg a ++ tchL sg r) (pE cp sg a p fun d p => pL cp sg r p fun ds p => K (d :: ds) p) _
    refine (h a List.mem_cons_self M fr M1 h1 p c _ R).bind fun v c1 _ ⟨_, _, p1, R1, e1⟩ => ?_
    rw [e1]
    refine (sl_of (fun b hb => h b (List.mem_cons_of_mem _ hb)) M1 M' h2 p1 c1 _ R1).bind0 fun ds c2 _ ⟨hl, p2, R2, e2⟩ => .ok ⟨by simp [hl], p2, R2, e1.trans e2⟩
theorem sr_of : ∀ {es : List CE}, (∀ a ∈ es, SE cf cp sg a) → SR cf cp sg es
  | [], _, M, frs, M', hk, p, c, K, R => by
    cases hk
    exact .ok ⟨trivial, p, R, rfl⟩
  | a :: r, h, M, frs, M', hk, p, c, K, R => by
    obtain ⟨⟨fr, M1⟩, h1, h2⟩ := opt_bind hk
    obtain ⟨⟨fs, M2⟩, h3, h4⟩ := opt_map h2
    cases h4
    show Sd ((evE cf a c).bind fun v e => (evR cf r e).bind fun ds e => .ok (v :: ds) e) c (tchE sg a ++ tchL sg r) (pE cp sg a p fun d p => pL cp sg r p fun ds p => K (d :: ds) p) _
    refine (h a List.mem_cons_self M fr M1 h1 p c _ R).bind fun v c1 _ ⟨hf, _, p1, R1, e1⟩ => ?_
    rw [e1]
    refine (sr_of (fun b hb => h b (List.mem_cons_of_mem _ hb)) M1 fs M2 h3 p1 c1 _ R1).bind0 fun ds c2 _ ⟨hl, p2, R2, e2⟩ => .ok ⟨⟨hf, hl⟩, p2, R2, e1.trans e2⟩
theorem sg_of : ∀ {es : List CE}, (∀ a ∈ es, SE cf cp sg a) → SG cf cp sg es
  | [], _, M, M', hk, p, c, K, R => by
    cases hk
    exact .ok ⟨[], p, fun _ _ _ _ ds h => h, R, rfl⟩
  | a :: r, h, M, M', hk, p, c, K, R => by
    obtain ⟨M1, h1, h2⟩ := opt_bind hk
    show Sd ((opd a (evE cf a) c).bind fun o e => (evO cf r e).bind fun os e => .ok (o :: os) e) c (tchE sg a ++ tchL sg r) (pO a (pE cp sg a p) p fun g p => pG cp sg r p fun gs p => K (g :: gs) p) _
    refine (so_of (h a List.mem_cons_self) M M1 h1 p c _ R).bind fun v c1 _ ⟨_, g, p1, ho, R1, e1⟩ => ?_
    rw [e1]
    refine (sg_of (fun b hb => h b (List.mem_cons_of_mem _ hb)) M1 M' h2 p1 c1 _ R1).bind0 fun os c2 _ ⟨gs, p2, hos, R2, e2⟩ => .ok ⟨g :: gs, p2, ?_, R2, e1.trans e2⟩
    intro M p c R ds hd
    unfold pGets at hd
    split at hd
    · rename_i d ds' q1 q2
      cases hd
      unfold gets
      rw [ho _ _ _ R _ q1, hos _ _ _ R _ q2]
    · cases hd
theorem argd_nv {a : CE} (h : ∀ i, a ≠ .var i) (f : Ev → Rs Rv) (e : Ev) : argd a f e = (f e).bind fun r e => .ok (.vl r.d) e := by
  cases a with
  | var i => exact absurd rfl (h i)
  | _ => rfl
theorem PArg.keep {T : List Nat} {c' : Ev} {a : CE} {o : Op} {g : Gtr} (h : PArg c a o g) (k : PWk T c c') (hk : ∀ i, a = .var i → i ∉ T ∨ o = .pl i) : PArg c' a o g := by
  rcases h with ⟨i, rfl, rfl, ho⟩ | h
  · refine .inl ⟨i, rfl, rfl, ?_⟩
    rcases ho with rfl | ⟨d, rfl, q⟩
    · exact .inl rfl
    · right
      refine ⟨d, rfl, ?_⟩
      rcases hk i rfl with hi | hi
      rotate_left
      · cases hi
      rcases q with q | q
      · obtain ⟨s', e1, f1, _⟩ := k.2 i _ q
        left
        rcases f1 hi with rfl | ⟨_, e, _⟩ | ⟨_, e, _⟩
        · exact e1
        · cases e
        · cases e
      · obtain ⟨s', e1, f1, _⟩ := k.2 i _ q
        right
        rcases f1 hi with rfl | ⟨_, e, _⟩ | ⟨_, e, _⟩
        · exact e1
        · cases e
        · cases e
  · exact .inr h
theorem sa_of : ∀ {es : List CE}, (∀ a ∈ es, SE cf cp sg a) → SA cf cp sg es
  | [], _, M, M', hk, p, c, K, R => by
    cases hk
    exact .ok ⟨[], p, .nil, R, rfl⟩
  | a :: r, h, M, M', hk, p, c, K, R => by
    · obtain ⟨hq, hk⟩ := ite_some hk
      obtain ⟨M1, h1, h2⟩ := opt_bind hk
      show Sd ((argd a (evE cf a) c).bind fun o e => (evA cf r e).bind fun os e => .ok (o :: os) e) c (tchE sg a ++ tchL sg r) (pO a (pE cp sg a p) p fun g p => pG cp sg r p fun gs p => K (g :: gs) p) _
      have first : ∀ K, Sd (argd a (evE cf a) c) c (tchE sg a) (pO a (pE cp sg a p) p K) fun o c' => ∃ g p', PArg c' a o g ∧ (∀ i, a = .var i → i ∉ tchL sg r ∨ o = .pl i) ∧ PRel M1 p' c' ∧ pO a (pE cp sg a p) p K = K g p' := by
        intro K
        by_cases hv : ∃ i, a = .var i
        · obtain ⟨i, rfl⟩ := hv
          cases h1
          show Sd (match c[i]? with | some (.mu _ _) => Rs.ok (Op.pl i) c | some (.val d) => .ok (.vl d) c | some (.frz d) => .ok (.vl d) c | _ => .er) c [] (onO (pLook p i) fun _ => K (fun p => pLook p i) p) _
          refine .onO fun d hd => ?_
          obtain ⟨s, e1, e2, e3⟩ := R.look hd
          rw [e1]
          have fin : pO (.var i) (pE cp sg (.var i) p) p K = K (fun p => pLook p i) p := by show onO (pLook p i) _ = _; rw [hd]; rfl
          have hq' : i ∉ tchL sg r ∨ mutA (M.getD i .sv) = true := by
            rw [Bool.or_eq_true] at hq
            rcases hq with hq | hq
            · left; intro z; simp [z] at hq
            · exact .inr hq
          have nomu : mutA (M.getD i .sv) = true → ∃ b d, s = .mu b d := by
            intro hm
            generalize M.getD i .sv = mm at e3 hm
            cases mm <;> first | (cases hm; done) | (cases s <;> first | exact ⟨_, _, rfl⟩ | (cases e3; done))
          cases s with
          | un => cases e2
          | mu b d' => exact .ok ⟨_, p, .inl ⟨i, rfl, rfl, .inl rfl⟩, fun j e => (by cases e; exact .inr rfl), R, fin⟩
          | val d' =>
            refine .ok ⟨_, p, .inl ⟨i, rfl, rfl, .inr ⟨d', rfl, .inl e1⟩⟩, fun j e => ?_, R, fin⟩
            cases e
            rcases hq' with q | q
            · exact .inl q
            · obtain ⟨b, d, e⟩ := nomu q
              cases e
          | frz d' =>
            refine .ok ⟨_, p, .inl ⟨i, rfl, rfl, .inr ⟨d', rfl, .inr e1⟩⟩, fun j e => ?_, R, fin⟩
            cases e
            rcases hq' with q | q
            · exact .inl q
            · obtain ⟨b, d, e⟩ := nomu q
              cases e
        · have hn : ∀ i, a ≠ .var i := fun i e => hv ⟨i, e⟩
          obtain ⟨fr, hk⟩ := ckO_get hn h1
          rw [argd_nv hn, pO_nv hn]
          exact (h a List.mem_cons_self M fr M1 hk p c _ R).bind0 fun r c' _ ⟨_, _, p', R', e⟩ => .ok ⟨_, p', .inr ⟨hn, _, rfl, rfl⟩, fun i e => absurd e (hn i), R', e⟩
      refine (first _).bind fun v c1 _ ⟨g, p1, ho, hi, R1, e1⟩ => ?_
      rw [e1]
      refine (sa_of (fun b hb => h b (List.mem_cons_of_mem _ hb)) M1 M' h2 p1 c1 _ R1).bind0 fun os c2 k2 ⟨gs, p2, hos, R2, e2⟩ => .ok ⟨g :: gs, p2, .cons (ho.keep k2 hi) hos, R2, e1.trans e2⟩
theorem sp_of {o : Option CE} (h : ∀ a, o = some a → SE cf cp sg a) : SP cf cp sg o := by
  intro M M' hk p c K R
  cases o with
  | none =>
    cases hk
    exact .ok ⟨p, R, rfl⟩
  | some a =>
    show Sd ((opd a (evE cf a) c).bind fun x e => match x.get e with | some (.int i) => .ok (some i) e | _ => .er) c (tchE sg a) (pO a (pE cp sg a p) p fun x p => onO (x p) fun d => onI d fun i => K (some i) p) _
    refine (so_of (h a rfl) M M' hk p c _ R).bind0 fun o c1 _ ⟨_, g, p1, ho, R1, e1⟩ => ?_
    rw [e1]
    refine .onO fun d hd => ?_
    rw [ho _ _ _ R1 d hd]
    cases d with
    | int i => exact .ok ⟨p1, R1, e1.trans (by rw [hd]; rfl)⟩
    | _ => exact .er rfl
end
end Cr
set_option Elab.async false
set_option linter.all false
set_option maxRecDepth 100000
set_option maxHeartbeats 4000000
namespace Cr
open PySem
section
variable {cf : Nat → List Sl → CR} {cp : Nat → List D → R (D × PEnv)} {sg : Nat → Sig}
variable {α : Type} {c : Ev} {w : RF}
theorem nl_no {a : CE} {P : Prop} (h : isLE a = false) : isLE a = true → P := fun q => by rw [h] at q; cases q
theorem se_k (d : D) : SE cf cp sg (.k d) := fun M fr M' hk p c K R => by cases hk; exact .ok ⟨.fz, nl_no rfl, p, R, rfl⟩
theorem se_glob (d : D) : SE cf cp sg (.glob d) := fun M fr M' hk p c K R => by cases hk; exact .ok ⟨.fz, nl_no rfl, p, R, rfl⟩
theorem se_edict : SE cf cp sg .edict := fun M fr M' hk p c K R => by cases hk; exact .ok ⟨.fz, nl_no rfl, p, R, rfl⟩
theorem se_var (i : Nat) : SE cf cp sg (.var i) := fun M fr M' hk p c K R => by
  cases hk
  show Sd (rdA i c) c [] (onO (pLook p i) fun d => K d p) _
  refine .onO fun d hd => ?_
  obtain ⟨s, e1, e2, e3⟩ := R.look hd
  rw [rdA_frz e1 e2]
  refine .inr (.inl ⟨_, _, rfl, .set e1 (fun _ => frz_frz s) (shw_frz s), .fz, nl_no rfl, p, R.setM e1 (shp_frz e3 (by rw [e2]; rfl)) (cont_frz s), ?_⟩)
  show onO (pLook p i) _ = _
  rw [hd]
  rfl
theorem len_le {n m : Nat} (h : n ≤ 1000) (e : m = n) : m ≤ sizeLine := by
  have : (1000 : Nat) ≤ sizeLine := by decide
  omega
theorem se_tup {es : List CE} (h : SL cf cp sg es) : SE cf cp sg (.tup es) := fun M fr M' hk p c K R => by
  obtain ⟨hl, hk⟩ := ite_some hk
  obtain ⟨M1, h1, h2⟩ := opt_map hk
  obtain ⟨rfl, rfl⟩ := Prod.mk.inj h2
  show Sd ((evL cf es c).bind fun ds e => if ds.length ≤ sizeLine then .ok (Rv.fz (.tuple ds)) e else .er) c (tchL sg es) (pL cp sg es p fun ds p => K (.tuple ds) p) _
  refine (h M _ h1 p c _ R).bind0 fun ds c1 _ ⟨hd, p1, R1, e1⟩ => ?_
  rw [if_pos (len_le hl hd)]
  exact .ok ⟨.fz, nl_no rfl, p1, R1, e1⟩
theorem se_lst {es : List CE} (h : SL cf cp sg es) : SE cf cp sg (.lst es) := fun M fr M' hk p c K R => by
  obtain ⟨hl, hk⟩ := ite_some hk
  obtain ⟨M1, h1, h2⟩ := opt_map hk
  obtain ⟨rfl, rfl⟩ := Prod.mk.inj h2
  show Sd ((evL cf es c).bind fun ds e => if ds.length ≤ sizeLine then .ok (Rv.fr (.list ds)) e else .er) c (tchL sg es) (pL cp sg es p fun ds p => K (.list ds) p) _
  refine (h M _ h1 p c _ R).bind0 fun ds c1 _ ⟨hd, p1, R1, e1⟩ => ?_
  rw [if_pos (len_le hl hd)]
  exact .ok ⟨⟨fun d e => (by cases e; rfl), _, rfl⟩, fun _ => rfl, p1, R1, e1⟩
theorem FrOk.lst {r : Rv} (h : ∃ d, r = .fr d) (hl : ∀ d, r = .fr d → isLst d = true) : isLst r.d = true := by
  obtain ⟨d, rfl⟩ := h
  exact hl d rfl
theorem se_bin {o : Operator} {a b : CE} (ha : SE cf cp sg a) (hb : SE cf cp sg b) : SE cf cp sg (.bin o a b) := fun M fr M' hk p c K R => by
  obtain ⟨M1, h1, hk⟩ := opt_bind hk
  obtain ⟨M2, h2, h3⟩ := opt_map hk
  obtain ⟨rfl, rfl⟩ := Prod.mk.inj h3
  show Sd ((opd a (evE cf a) c).bind fun x e => (opd b (evE cf b) e).bind fun y e => two x y e (binD o)) c (tchE sg a ++ tchE sg b) (pO a (pE cp sg a p) p fun x p => pO b (pE cp sg b p) p fun y p => pTwo x y p (binD o) K) _
  refine (so_of ha M M1 h1 p c _ R).bind fun x c1 _ ⟨hl, g1, p1, o1, R1, e1⟩ => ?_
  rw [e1]
  refine (so_of hb M1 M2 h2 p1 c1 _ R1).bind0 fun y c2 _ ⟨_, g2, p2, o2, R2, e2⟩ => ?_
  rw [e2]
  refine .two R2 o1 o2 fun u v r hu hv hr ef => ?_
  have frl := binD_frl hr
  have hf : isLE a = true → (o = .Add ∨ o = .Mult) → ∃ d, r = .fr d := by
    intro hq ho
    obtain ⟨d, rfl, hd⟩ := hl hq
    cases hu
    exact binD_f hr hd ho
  refine ⟨⟨frl, ?_⟩, fun q => ?_, p2, R2, e1.trans (e2.trans ef)⟩
  · unfold binF
    cases o with
    | Add =>
      by_cases q : isLE a = true
      · simp only [q, if_true]; exact hf q (.inl rfl)
      · simp only [q]; trivial
    | Mult =>
      by_cases q : isLE a = true
      · simp only [q, if_true]; exact hf q (.inr rfl)
      · simp only [q]; trivial
    | _ => exact binD_z hr (fun e => by cases e) (fun e => by cases e)
  · cases o with
    | Add => exact FrOk.lst (hf q (.inl rfl)) frl
    | Mult => exact FrOk.lst (hf q (.inr rfl)) frl
    | _ => cases q
theorem se_neg {a : CE} (ha : SE cf cp sg a) : SE cf cp sg (.neg a) := fun M fr M' hk p c K R => by
  obtain ⟨M1, h1, h3⟩ := opt_map hk
  obtain ⟨rfl, rfl⟩ := Prod.mk.inj h3
  show Sd ((opd a (evE cf a) c).bind fun x e => one x e fun d => match d with | .int i => some (Rv.fz (.int (-i))) | _ => none) c (tchE sg a) (pO a (pE cp sg a p) p fun x p => onO (x p) fun d => onI d fun i => K (.int (-i)) p) _
  refine (so_of ha M M1 h1 p c _ R).bind0 fun x c1 _ ⟨hl, g1, p1, o1, R1, e1⟩ => ?_
  rw [e1]
  refine .one R1 o1 fun d hd => ?_
  cases d with
  | int i => exact .ok ⟨.fz, nl_no rfl, p1, R1, e1.trans (by rw [hd]; rfl)⟩
  | _ => exact .er rfl
theorem se_cmp {o : CmpOp} {a b : CE} (ha : SE cf cp sg a) (hb : SE cf cp sg b) : SE cf cp sg (.cmp o a b) := fun M fr M' hk p c K R => by
  obtain ⟨M1, h1, hk⟩ := opt_bind hk
  obtain ⟨M2, h2, h3⟩ := opt_map hk
  obtain ⟨rfl, rfl⟩ := Prod.mk.inj h3
  show Sd ((opd a (evE cf a) c).bind fun x e => (opd b (evE cf b) e).bind fun y e => two x y e fun u v => (cmpD o u v).map fun b => Rv.fz (.bool b)) c (tchE sg a ++ tchE sg b) (pO a (pE cp sg a p) p fun x p => pO b (pE cp sg b p) p fun y p => pTwo x y p (fun u v => (cmpD o u v).map fun b => Rv.fz (.bool b)) K) _
  refine (so_of ha M M1 h1 p c _ R).bind fun x c1 _ ⟨hl, g1, p1, o1, R1, e1⟩ => ?_
  rw [e1]
  refine (so_of hb M1 M2 h2 p1 c1 _ R1).bind0 fun y c2 _ ⟨_, g2, p2, o2, R2, e2⟩ => ?_
  rw [e2]
  exact .two R2 o1 o2 fun u v r hu hv hr ef => ⟨frOk_map hr, nl_no rfl, p2, R2, e1.trans (e2.trans ef)⟩
theorem se_idx {a b : CE} (ha : SE cf cp sg a) (hb : SE cf cp sg b) : SE cf cp sg (.idx a b) := fun M fr M' hk p c K R => by
  obtain ⟨M1, h1, hk⟩ := opt_bind hk
  obtain ⟨M2, h2, h3⟩ := opt_map hk
  obtain ⟨rfl, rfl⟩ := Prod.mk.inj h3
  show Sd ((opd a (evE cf a) c).bind fun x e => (opd b (evE cf b) e).bind fun y e => two x y e fun u v => (idxD u v).map Rv.fz) c (tchE sg a ++ tchE sg b) (pO a (pE cp sg a p) p fun x p => pO b (pE cp sg b p) p fun y p => pTwo x y p (fun u v => (idxD u v).map Rv.fz) K) _
  refine (so_of ha M M1 h1 p c _ R).bind fun x c1 _ ⟨hl, g1, p1, o1, R1, e1⟩ => ?_
  rw [e1]
  refine (so_of hb M1 M2 h2 p1 c1 _ R1).bind0 fun y c2 _ ⟨_, g2, p2, o2, R2, e2⟩ => ?_
  rw [e2]
  exact .two R2 o1 o2 fun u v r hu hv hr ef => ⟨frOk_map hr, nl_no rfl, p2, R2, e1.trans (e2.trans ef)⟩
theorem bdV_ret {m : RF} {d : D} {p : PEnv} {K : D → PEnv → RF} (h : m = ret d p) : bdV m K = K d p := by rw [h]; rfl
theorem se_chain {o q : CmpOp} {a b d : CE} (ha : SE cf cp sg a) (hb : SE cf cp sg b) (hd : SE cf cp sg d) : SE cf cp sg (.chain o q a b d) := fun M fr M' hk p c K R => by
  obtain ⟨M1, h1, hk⟩ := opt_bind hk
  obtain ⟨M2, h2, hk⟩ := opt_bind hk
  obtain ⟨M3, h3, h4⟩ := opt_map hk
  obtain ⟨rfl, rfl⟩ := Prod.mk.inj h4
  obtain ⟨x1, x2, q1, q2, u1, u2⟩ := joinR_up h3
  cases q1
  show Sd ((opd a (evE cf a) c).bind fun x e => (opd b (evE cf b) e).bind fun y e => (tstR (two x y e fun u v => (cmpD o u v).map fun b => Rv.fz (.bool b))).bind fun t e =>
      if t = true then (opd d (evE cf d) e).bind fun z e => two y z e fun u v => (cmpD q u v).map fun b => Rv.fz (.bool b) else .ok (Rv.fz (.bool false)) e) c (tchE sg a ++ (tchE sg b ++ tchE sg d)) (bdV (pO a (pE cp sg a p) p fun x p => pO b (pE cp sg b p) p fun y p => pTwo x y p (fun u v => (cmpD o u v).map fun b => Rv.fz (.bool b)) fun d2 p => onB d2 fun t =>
      if t = true then pO d (pE cp sg d p) p fun z p => pTwo y z p (fun u v => (cmpD q u v).map fun b => Rv.fz (.bool b)) ret else ret (.bool false) p) K) _
  refine Sd.mono (Q := fun r c' => ∃ p' t, r = .fz (.bool t) ∧ PRel M3 p' c' ∧ (pO a (pE cp sg a p) p fun x p => pO b (pE cp sg b p) p fun y p => pTwo x y p (fun u v => (cmpD o u v).map fun b => Rv.fz (.bool b)) fun d2 p => onB d2 fun t =>
      if t = true then pO d (pE cp sg d p) p fun z p => pTwo y z p (fun u v => (cmpD q u v).map fun b => Rv.fz (.bool b)) ret else ret (.bool false) p) = ret r.d p') (Sd.bdV ?_) fun r c' _ ⟨p', t, hr, R', e⟩ => ⟨by rw [hr]; exact .fz, nl_no rfl, p', R', bdV_ret e⟩
  refine (so_of ha M M1 h1 p c _ R).bind fun x c1 _ ⟨hl, g1, p1, o1, R1, e1⟩ => ?_
  rw [e1]
  refine (so_of hb M1 M2 h2 p1 c1 _ R1).bind fun y c2 _ ⟨_, g2, p2, o2, R2, e2⟩ => ?_
  rw [e2]
  refine (Sd.bind (T1 := []) (T2 := tchE sg d) (Q := fun t c' => c' = c2 ∧ pTwo g1 g2 p2 (fun u v => (cmpD o u v).map fun b => Rv.fz (.bool b)) (fun d2 p => onB d2 fun t =>
      if t = true then pO d (pE cp sg d p) p fun z p => pTwo g2 z p (fun u v => (cmpD q u v).map fun b => Rv.fz (.bool b)) ret else ret (.bool false) p) = if t = true then pO d (pE cp sg d p2) p2 fun z p => pTwo g2 z p (fun u v => (cmpD q u v).map fun b => Rv.fz (.bool b)) ret else ret (.bool false) p2) ?_ ?_).eqT (List.nil_append _)
  · refine Sd.bind0 (Q := fun r c' => c' = c2 ∧ ∃ b, r = .fz (.bool b) ∧ pTwo g1 g2 p2 (fun u v => (cmpD o u v).map fun b => Rv.fz (.bool b)) (fun d2 p => onB d2 fun t =>
      if t = true then pO d (pE cp sg d p) p fun z p => pTwo g2 z p (fun u v => (cmpD q u v).map fun b => Rv.fz (.bool b)) ret else ret (.bool false) p) = if b = true then pO d (pE cp sg d p2) p2 fun z p => pTwo g2 z p (fun u v => (cmpD q u v).map fun b => Rv.fz (.bool b)) ret else ret (.bool false) p2) ?_ ?_
    · refine .two R2 o1 o2 fun u v r hu hv hr ef => ⟨rfl, ?_⟩
      obtain ⟨b, _, rfl⟩ := opt_map hr
      exact ⟨b, rfl, ef⟩
    · rintro r c' _ ⟨rfl, b, rfl, e⟩
      exact .ok ⟨rfl, e⟩
  · rintro t c' _ ⟨rfl, e3⟩
    rw [e3]
    refine .ite (fun ht => ?_) fun ht => ?_
    · subst ht
      refine (so_of hd _ _ q2 p2 c' _ R2).bind0 fun z c3 _ ⟨_, g3, p3, o3, R3, e4⟩ => ?_
      rw [e4]
      refine .two R3 o2 o3 fun u v r hu hv hr ef => ?_
      obtain ⟨b, _, rfl⟩ := opt_map hr
      exact ⟨p3, b, rfl, R3.up u2, (if_pos rfl).trans ef⟩
    · subst ht
      exact (Sd.ok ⟨p2, false, rfl, R2.up u1, rfl⟩).sub (fun _ h => by cases h)
theorem onB_er {d : D} {k : Bool → RF} (h : ∀ b, d ≠ .bool b) : onB d k = .er := by
  cases d with
  | bool b => exact absurd rfl (h b)
  | _ => rfl
theorem se_and {a b : CE} (ha : SE cf cp sg a) (hb : SE cf cp sg b) : SE cf cp sg (.and_ a b) := fun M fr M' hk p c K R => by
  obtain ⟨⟨f1, M1⟩, h1, hk⟩ := opt_bind hk
  obtain ⟨⟨f2, M2⟩, h2, hk⟩ := opt_bind hk
  obtain ⟨M3, h3, h4⟩ := opt_map hk
  obtain ⟨rfl, rfl⟩ := Prod.mk.inj h4
  obtain ⟨x1, x2, q1, q2, u1, u2⟩ := joinR_up h3
  cases q1
  cases q2
  let W := pE cp sg a p fun d p => onB d fun t => if t = true then pE cp sg b p ret else ret (.bool false) p
  show Sd ((tstR (evE cf a c)).bind fun t e => if t = true then evE cf b e else .ok (Rv.fz (.bool false)) e) c (tchE sg a ++ tchE sg b) (bdV W K) _
  refine Sd.mono (Q := fun r c' => ∃ p', FrOk (joinF .z f2) r ∧ PRel M3 p' c' ∧ W = ret r.d p') (Sd.bdV ?_) fun r c' _ ⟨p', hf, R', e⟩ => ⟨hf, nl_no rfl, p', R', bdV_ret e⟩
  refine Sd.bind (Q := fun t c' => ∃ p', PRel M1 p' c' ∧ W = if t = true then pE cp sg b p' ret else ret (.bool false) p') ?_ ?_
  · refine .bind0 (ha M f1 M1 h1 p c _ R) fun r c1 _ ⟨_, _, p1, R1, e1⟩ => ?_
    cases hd : r.d with
    | bool t => exact .ok ⟨p1, R1, by show W = _; exact e1.trans (by rw [hd]; rfl)⟩
    | _ => exact .er (e1.trans (onB_er fun b e => by rw [hd] at e; cases e))
  · rintro t c1 _ ⟨p1, R1, e1⟩
    rw [e1]
    refine .ite (fun ht => ?_) fun ht => ?_
    · subst ht
      exact (hb M1 f2 M2 h2 p1 c1 _ R1).mono fun r c2 _ ⟨hf, _, p2, R2, e2⟩ => ⟨p2, hf.joinR, R2.up u2, e2⟩
    · subst ht
      exact (Sd.ok ⟨p1, FrOk.fz.joinL, R1.up u1, rfl⟩).sub (fun _ h => by cases h)
theorem se_or {a b : CE} (ha : SE cf cp sg a) (hb : SE cf cp sg b) : SE cf cp sg (.or_ a b) := fun M fr M' hk p c K R => by
  obtain ⟨⟨f1, M1⟩, h1, hk⟩ := opt_bind hk
  obtain ⟨⟨f2, M2⟩, h2, hk⟩ := opt_bind hk
  obtain ⟨M3, h3, h4⟩ := opt_map hk
  obtain ⟨rfl, rfl⟩ := Prod.mk.inj h4
  obtain ⟨x1, x2, q1, q2, u1, u2⟩ := joinR_up h3
  cases q1
  cases q2
  let W := pE cp sg a p fun d p => onB d fun t => if t = true then ret (.bool true) p else pE cp sg b p ret
  show Sd ((tstR (evE cf a c)).bind fun t e => if t = true then .ok (Rv.fz (.bool true)) e else evE cf b e) c (tchE sg a ++ tchE sg b) (bdV W K) _
  refine Sd.mono (Q := fun r c' => ∃ p', FrOk (joinF .z f2) r ∧ PRel M3 p' c' ∧ W = ret r.d p') (Sd.bdV ?_) fun r c' _ ⟨p', hf, R', e⟩ => ⟨hf, nl_no rfl, p', R', bdV_ret e⟩
  refine Sd.bind (Q := fun t c' => ∃ p', PRel M1 p' c' ∧ W = if t = true then ret (.bool true) p' else pE cp sg b p' ret) ?_ ?_
  · refine .bind0 (ha M f1 M1 h1 p c _ R) fun r c1 _ ⟨_, _, p1, R1, e1⟩ => ?_
    cases hd : r.d with
    | bool t => exact .ok ⟨p1, R1, by show W = _; exact e1.trans (by rw [hd]; rfl)⟩
    | _ => exact .er (e1.trans (onB_er fun b e => by rw [hd] at e; cases e))
  · rintro t c1 _ ⟨p1, R1, e1⟩
    rw [e1]
    refine .ite (fun ht => ?_) fun ht => ?_
    · subst ht
      exact (Sd.ok ⟨p1, FrOk.fz.joinL, R1.up u1, rfl⟩).sub (fun _ h => by cases h)
    · subst ht
      exact (hb M1 f2 M2 h2 p1 c1 _ R1).mono fun r c2 _ ⟨hf, _, p2, R2, e2⟩ => ⟨p2, hf.joinR, R2.up u2, e2⟩
theorem se_not {a : CE} (ha : SE cf cp sg a) : SE cf cp sg (.not_ a) := fun M fr M' hk p c K R => by
  obtain ⟨⟨f1, M1⟩, h1, h2⟩ := opt_map hk
  obtain ⟨rfl, rfl⟩ := Prod.mk.inj h2
  show Sd ((tstR (evE cf a c)).bind fun t e => .ok (Rv.fz (.bool (!t))) e) c (tchE sg a) (pE cp sg a p fun d p => onB d fun t => K (.bool (!t)) p) _
  refine Sd.bind0 (Q := fun t c' => ∃ p', PRel M1 p' c' ∧ (pE cp sg a p fun d p => onB d fun t => K (.bool (!t)) p) = K (.bool (!t)) p') ?_ fun t c1 _ ⟨p1, R1, e1⟩ => .ok ⟨.fz, nl_no rfl, p1, R1, e1⟩
  refine .bind0 (ha M f1 M1 h1 p c _ R) fun r c1 _ ⟨_, _, p1, R1, e1⟩ => ?_
  cases hd : r.d with
  | bool t => exact .ok ⟨p1, R1, e1.trans (by rw [hd]; rfl)⟩
  | _ => exact .er (e1.trans (onB_er fun b e => by rw [hd] at e; cases e))
theorem se_ife {q a b : CE} (hq : SE cf cp sg q) (ha : SE cf cp sg a) (hb : SE cf cp sg b) : SE cf cp sg (.ife q a b) := fun M fr M' hk p c K R => by
  obtain ⟨M0, h0, hk⟩ := opt_bind hk
  obtain ⟨⟨f1, M1⟩, h1, hk⟩ := opt_bind hk
  obtain ⟨⟨f2, M2⟩, h2, hk⟩ := opt_bind hk
  obtain ⟨M3, h3, h4⟩ := opt_map hk
  obtain ⟨rfl, rfl⟩ := Prod.mk.inj h4
  obtain ⟨x1, x2, q1, q2, u1, u2⟩ := joinR_up h3
  cases q1
  cases q2
  let W := pTst q (pE cp sg q p) p fun t p => if t = true then pE cp sg a p ret else pE cp sg b p ret
  show Sd ((tst q (evE cf q) c).bind fun t e => if t = true then evE cf a e else evE cf b e) c (tchE sg q ++ (tchE sg a ++ tchE sg b)) (bdV W K) _
  refine Sd.mono (Q := fun r c' => ∃ p', FrOk (joinF f1 f2) r ∧ PRel M3 p' c' ∧ W = ret r.d p') (Sd.bdV ?_) fun r c' _ ⟨p', hf, R', e⟩ => ⟨hf, nl_no rfl, p', R', bdV_ret e⟩
  refine (st_of hq M M0 h0 p c _ R).bind fun t c1 _ ⟨p1, R1, e1⟩ => ?_
  show Sd _ c1 _ W _
  have e1' : W = _ := e1
  rw [e1']
  refine .ite (fun ht => ?_) fun ht => ?_
  · subst ht
    exact ((ha M0 f1 M1 h1 p1 c1 _ R1).mono fun r c2 _ ⟨hf, _, p2, R2, e2⟩ => ⟨p2, hf.joinL, R2.up u1, e2⟩).sub fun _ h => List.mem_append_left _ h
  · subst ht
    exact ((hb M0 f2 M2 h2 p1 c1 _ R1).mono fun r c2 _ ⟨hf, _, p2, R2, e2⟩ => ⟨p2, hf.joinR, R2.up u2, e2⟩).sub fun _ h => List.mem_append_right _ h
theorem se_slc {a : CE} {lo hi : Option CE} (ha : SE cf cp sg a) (hl : SP cf cp sg lo) (hh : SP cf cp sg hi) : SE cf cp sg (.slc a lo hi) := fun M fr M' hk p c K R => by
  obtain ⟨M1, h1, hk⟩ := opt_bind hk
  obtain ⟨M2, h2, hk⟩ := opt_bind hk
  obtain ⟨M3, h3, h4⟩ := opt_map hk
  obtain ⟨rfl, rfl⟩ := Prod.mk.inj h4
  show Sd ((opd a (evE cf a) c).bind fun x e => (evOpt cf lo e).bind fun l e => (evOpt cf hi e).bind fun h e => one x e fun d => slcD d l h) c (tchE sg a ++ (tchP sg lo ++ tchP sg hi)) (pO a (pE cp sg a p) p fun x p => pOpt cp sg lo p fun l p => pOpt cp sg hi p fun h p => onO (x p) fun d => onR (slcD d l h) fun r => K r p) _
  refine (so_of ha M M1 h1 p c _ R).bind fun x c1 _ ⟨_, g1, p1, o1, R1, e1⟩ => ?_
  rw [e1]
  refine (hl M1 M2 h2 p1 c1 _ R1).bind fun l c2 _ ⟨p2, R2, e2⟩ => ?_
  rw [e2]
  refine (hh M2 M3 h3 p2 c2 _ R2).bind0 fun h c3 _ ⟨p3, R3, e3⟩ => ?_
  rw [e3]
  refine .one R3 o1 fun d hd => ?_
  cases hs : slcD d l h with
  | none => exact .er rfl
  | some r => exact .ok ⟨slcD_frl hs, nl_no rfl, p3, R3, e1.trans (e2.trans (e3.trans (by simp only [hd, onO, hs, onR])))⟩
theorem se_rev {a : CE} (ha : SE cf cp sg a) : SE cf cp sg (.rev a) := fun M fr M' hk p c K R => by
  obtain ⟨M1, h1, h4⟩ := opt_map hk
  obtain ⟨rfl, rfl⟩ := Prod.mk.inj h4
  show Sd ((opd a (evE cf a) c).bind fun x e => one x e revD) c (tchE sg a) (pO a (pE cp sg a p) p fun x p => onO (x p) fun d => onR (revD d) fun r => K r p) _
  refine (so_of ha M M1 h1 p c _ R).bind0 fun x c1 _ ⟨_, g1, p1, o1, R1, e1⟩ => ?_
  rw [e1]
  refine .one R1 o1 fun d hd => ?_
  cases hs : revD d with
  | none => exact .er rfl
  | some r => exact .ok ⟨revD_frl hs, nl_no rfl, p1, R1, e1.trans (by simp only [hd, onO, hs, onR])⟩
theorem se_isi {a : CE} {t : Ty} (ha : SE cf cp sg a) : SE cf cp sg (.isi a t) := fun M fr M' hk p c K R => by
  obtain ⟨M1, h1, h4⟩ := opt_map hk
  obtain ⟨rfl, rfl⟩ := Prod.mk.inj h4
  show Sd ((opd a (evE cf a) c).bind fun x e => one x e fun d => some (Rv.fz (.bool (isD d t)))) c (tchE sg a) (pO a (pE cp sg a p) p fun x p => onO (x p) fun d => K (.bool (isD d t)) p) _
  refine (so_of ha M M1 h1 p c _ R).bind0 fun x c1 _ ⟨_, g1, p1, o1, R1, e1⟩ => ?_
  rw [e1]
  refine .one R1 o1 fun d hd => ?_
  exact .ok ⟨.fz, nl_no rfl, p1, R1, e1.trans (by simp only [hd, onO]; rfl)⟩
theorem se_blt {f : Bt} {es : List CE} (h : SG cf cp sg es) : SE cf cp sg (.blt f es) := fun M fr M' hk p c K R => by
  obtain ⟨M1, h1, h4⟩ := opt_map hk
  obtain ⟨rfl, rfl⟩ := Prod.mk.inj h4
  show Sd ((evO cf es c).bind fun os e => many os e (bltD f)) c (tchL sg es) (pG cp sg es p fun gs p => onO (pGets gs p) fun ds => onR (bltD f ds) fun r => K r p) _
  refine (h M M1 h1 p c _ R).bind0 fun os c1 _ ⟨gs, p1, o1, R1, e1⟩ => ?_
  rw [e1]
  refine .onO fun ds hd => ?_
  unfold many
  rw [o1 _ _ _ R1 ds hd]
  dsimp only
  cases hs : bltD f ds with
  | none => exact .er rfl
  | some r => exact .ok ⟨bltD_fr hs, nl_no rfl, p1, R1, e1.trans (by simp only [hd, onO, hs, onR])⟩
theorem se_vm {m : Vm} {a : CE} {es : List CE} (ha : SE cf cp sg a) (h : SG cf cp sg es) : SE cf cp sg (.vm m a es) := fun M fr M' hk p c K R => by
  obtain ⟨M0, h0, hk⟩ := opt_bind hk
  obtain ⟨M1, h1, h4⟩ := opt_map hk
  obtain ⟨rfl, rfl⟩ := Prod.mk.inj h4
  show Sd ((opd a (evE cf a) c).bind fun x e => match x.get e with
    | some (.list _) => (evO cf es e).bind fun os e => many (x :: os) e fun ds => match ds with | d :: r => vmD m d r | [] => none
    | _ => .er) c (tchE sg a ++ tchL sg es) (pO a (pE cp sg a p) p fun x p => onO (x p) fun d => if isLst d = true then pG cp sg es p fun gs p => onO (pGets (x :: gs) p) fun ds => onR (match ds with | d :: r => vmD m d r | [] => none) fun r => K r p else .er) _
  refine (so_of ha M M0 h0 p c _ R).bind fun x c1 _ ⟨_, g, p1, o1, R1, e1⟩ => ?_
  rw [e1]
  refine .onO fun d0 hd0 => ?_
  rw [o1 _ _ _ R1 _ hd0]
  cases d0 with
  | list ds0 =>
    dsimp only
    rw [if_pos (show isLst (.list ds0) = true from rfl)]
    refine (h M0 M1 h1 p1 c1 _ R1).bind0 fun os c2 _ ⟨gs, p2, o2, R2, e2⟩ => ?_
    rw [e2]
    refine .onO fun ds hd => ?_
    have hg : gets (x :: os) c2 = some ds := by
      have hd' := hd
      unfold pGets at hd'
      split at hd'
      · rename_i d ds' q1 q2
        cases hd'
        unfold gets
        rw [o1 _ _ _ R2 _ q1, o2 _ _ _ R2 _ q2]
      · cases hd'
    unfold many
    rw [hg]
    dsimp only
    cases ds with
    | nil => exact .er rfl
    | cons d r =>
      dsimp only
      cases hs : vmD m d r with
      | none => exact .er rfl
      | some r =>
        refine .ok ⟨vmD_z hs, nl_no rfl, p2, R2, e1.trans ?_⟩
        refine (congrArg (fun o => onO o _) hd0).trans ?_
        exact (if_pos (e := (.er : RF)) (show isLst (PyData.list ds0) = true from rfl)).trans (e2.trans (by simp only [hd, onO, hs, onR]))
  | _ => exact .er rfl
theorem mmD_isL {m : Mm} {d : D} {ds : List D} {r : D × D} (h : mmD m d ds = some r) : isLst r.1 = true := by
  unfold mmD at h
  split at h <;> first
    | (cases h; done)
    | (cases h; rfl)
    | (split at h <;> first | (cases h; done) | (cases h; rfl) | (obtain ⟨_, _, h⟩ := opt_bind h; obtain ⟨_, _, rfl⟩ := opt_map h; rfl))
    | (obtain ⟨_, _, rfl⟩ := opt_map h; rfl)
theorem putD_isL {d k v r : D} (h : putD d k v = some r) : isLst r = true := by
  unfold putD at h
  split at h
  · obtain ⟨_, _, rfl⟩ := opt_map h; rfl
  · cases h
theorem shw_mu {b : Bool} {d d' : D} : PShw (.mu b d) (.mu b d') := by
  refine ⟨fun x e => ?_, fun x e => by cases e⟩
  cases e
  exact ⟨d', .inl rfl⟩
theorem setD_same {M : Ms} {i : Nat} : M.set i (M.getD i .sv) = M := by
  apply List.ext_getElem?
  intro j
  rw [List.getElem?_set]
  by_cases q : i = j
  · subst q
    by_cases l : i < M.length
    · rw [if_pos rfl, if_pos l, List.getD_eq_getElem?_getD, List.getElem?_eq_getElem l]
      rfl
    · rw [if_pos rfl, if_neg l, List.getElem?_eq_none (by omega)]
  · rw [if_neg q]
theorem PRel.set1 {M : Ms} {p : PEnv} {c : Ev} (h : PRel M p c) {i : Nat} {o : Option D} {s : Sl} (hs : PSl (M.getD i .sv) o s) : PRel M (p.set i o) (c.set i s) := by
  have := h.set (i := i) hs
  rw [setD_same] at this
  exact this
theorem se_mm {m : Mm} {i : Nat} {es : List CE} (h : SL cf cp sg es) : SE cf cp sg (.mm m i es) := fun M fr M' hk p c K R => by
  obtain ⟨hm, hk⟩ := ite_some hk
  obtain ⟨M1, h1, hk⟩ := opt_bind hk
  obtain ⟨hm1, hk⟩ := ite_some hk
  cases hk
  show Sd (match c[i]? with | some (.mu _ (.list _)) => (evL cf es c).bind fun ds e => mmAt m i ds e | _ => .er) c (tchL sg es ++ [i]) (onO (pLook p i) fun d => if isLst d = true then pL cp sg es p fun ds p => onO (pLook p i) fun d => onO (mmD m d ds) fun r => K r.2 (p.set i (some r.1)) else .er) _
  refine .onO fun d hd => ?_
  obtain ⟨s, e1, e2, e3⟩ := R.look hd
  obtain ⟨b, d', rfl⟩ := mut_mu hm e3
  cases e2
  rw [e1]
  cases d with
  | list xs =>
    dsimp only
    rw [if_pos (show isLst (.list xs) = true from rfl)]
    refine (h M _ h1 p c _ R).bind fun ds c1 _ ⟨_, p1, R1, ef⟩ => ?_
    rw [ef]
    refine .onO fun d hd1 => .onO fun r hr => ?_
    obtain ⟨s, q1, q2, q3⟩ := R1.look hd1
    obtain ⟨b1, d1, rfl⟩ := mut_mu hm1 q3
    cases q2
    unfold mmAt
    rw [q1]
    dsimp only
    rw [hr]
    refine .inr (.inl ⟨_, _, rfl, .set q1 (fun hi => absurd (List.mem_singleton.mpr rfl) hi) shw_mu, .fz, nl_no rfl, p1.set i (some r.1), R1.set1 ⟨shp_mu q3 (mmD_isL hr), fun x hx => by cases hx; rfl⟩, ?_⟩)
    show onO (pLook p i) _ = _
    rw [hd]
    exact ef.trans (by rw [hd1]; show onO (mmD m _ ds) _ = _; rw [hr]; rfl)
  | _ => exact .er rfl
/-! ### calls -/
theorem args_rel {M Mf : Ms} {p p' : PEnv} {pm om : Ms} {es : List CE} {os : List Op} {ds : List D} {ss o : List Sl} {outs : PEnv} (R : PRel M p c) (C : CallR c es os ds ss) (hk : ckArgs pm om es M = some Mf) (nd : (lends os c).Nodup)
    (ho : AllSl om outs o) (lo : outs.length = ss.length) (wk : WkP pm ss o) : PRel Mf (pBack pm es outs p) (back os o c) ∧ PWk (leV pm es) c (back os o c) := by
  have key : ∀ i s0, c[i]? = some s0 → _ := fun i s0 h => args_back C h hk R.lm R.lp nd ho lo wk (R.sl i s0 h)
  have lb : (back os o c).length = c.length := back_len c 0
  have lMf : Mf.length = M.length := by
    have gen : ∀ (es : List CE) {M Mf pm om : Ms}, ckArgs pm om es M = some Mf → Mf.length = M.length := by
      intro es
      induction es with
      | nil =>
        intro M Mf pm om hk
        cases pm with
        | cons _ _ => cases om <;> cases hk
        | nil =>
          cases om with
          | cons _ _ => cases hk
          | nil => cases hk; rfl
      | cons a es ih =>
        intro M Mf pm om hk
        cases pm with
        | nil => cases om <;> cases hk
        | cons m pm =>
          cases om with
          | nil => cases hk
          | cons q om =>
            rcases ckArgs_cons hk with ⟨_, _, hk⟩ | ⟨k, M1, rfl, hk, hM⟩
            · exact ih hk
            · rw [ih hk]
              rcases hM with ⟨rfl, _⟩ | ⟨rfl, _⟩ <;> simp
    exact gen es hk
  refine ⟨⟨by rw [pBack_len, lb, R.lp], by rw [lMf, lb, R.lm], fun i s e => ?_⟩, lb, fun i s e => ?_⟩
  · rw [back_getP] at e
    obtain ⟨s0, e0, rfl⟩ := opt_map e
    exact (key i s0 e0).1
  · exact ⟨backS os o i s, by rw [back_getP, e]; rfl, (key i s e).2.1, (key i s e).2.2⟩
theorem args_wk {es : List CE} {os : List Op} {ds : List D} {ss : List Sl} (h : CallR c es os ds ss) {i : Nat} {s0 : Sl} (hc : c[i]? = some s0) :
    ∀ (M pm om Mf : Ms) (o : List Sl), ckArgs pm om es M = some Mf → WkP pm ss o → shp (M.getD i .sv) s0 = true → i < M.length →
      (i ∉ leV pm es → PFrz s0 (backS os o i s0)) ∧ PShw s0 (backS os o i s0) := by
  by_cases hmu : ∃ b d, s0 = .mu b d
  rotate_left
  · intro M pm om Mf o _ _ _ _
    rw [backS_nm (fun b d e => hmu ⟨b, d, e⟩)]
    exact ⟨fun _ => .rfl', .rfl'⟩
  obtain ⟨b, d0, rfl⟩ := hmu
  induction h with
  | nil =>
    intro M pm om Mf o hk wk sl hl
    rw [backS_id (by cases o <;> rfl)]
    exact ⟨fun _ => .rfl', .rfl'⟩
  | cons ha hr ih =>
    rename_i a op d s es os ds ss
    intro M pm om Mf o hk wk sl hl
    cases pm with
    | nil => cases om <;> cases hk
    | cons m pm =>
      cases om with
      | nil => cases hk
      | cons q om =>
        cases o with
        | nil => exact absurd wk.1 (by simp)
        | cons t o =>
          have wk' : WkP pm ss o := ⟨by simpa using wk.1, fun j s e => wk.2 (j + 1) s e⟩
          obtain ⟨t', e1, ft, wt⟩ := wk.2 0 s rfl
          cases e1
          rcases ckArgs_cons hk with ⟨hn, hm, hk2⟩ | ⟨k, M1, rfl, hk2, hM⟩
          · rcases ha with ⟨k, s1, rfl, _⟩ | ⟨_, rfl, rfl⟩
            · exact absurd rfl (hn k)
            have := ih _ _ _ _ _ hk2 wk' sl hl
            refine ⟨fun hi => this.1 fun z => hi ?_, this.2⟩
            cases m <;> cases a <;> first | exact z | exact List.mem_cons_of_mem _ z
          · have sl1 : shp (M1.getD i .sv) (.mu b d0) = true := by
              rcases hM with ⟨rfl, _⟩ | ⟨rfl, _⟩
              · exact sl
              · rw [getD_set]
                split
                · rename_i q; rw [q.1]; exact shp_wk sl
                · exact sl
            have hl1 : i < M1.length := by rcases hM with ⟨rfl, _⟩ | ⟨rfl, _⟩ <;> simpa using hl
            have nxt := ih _ _ _ _ _ hk2 wk' sl1 hl1
            have lv : ∀ z, i ∈ leV pm es → i ∈ leV (m :: pm) (.var z :: es) := fun z h => by cases m <;> first | exact h | exact List.mem_cons_of_mem _ h
            rcases ha with ⟨k', s1, ek, q1, q2, rfl, hop⟩ | ⟨hn, _⟩
            rotate_left
            · exact absurd rfl (hn k)
            cases ek
            rcases hop with rfl | ⟨rfl, _⟩
            rotate_left
            · exact ⟨fun hi => nxt.1 fun z => hi (lv k z), nxt.2⟩
            by_cases hki : k = i
            · subst hki
              rw [hc] at q1
              cases q1
              have q2' := q2
              cases q2'
              have l1 : lentAt (.pl k :: os) (t :: o) k = some t := if_pos rfl
              have hb : backS (.pl k :: os) (t :: o) k (.mu b d0) = (match (some t : Option Sl) with | some (.mu _ d') => .mu b d' | some (.frz d') => if b = true then .frz d' else .val d' | _ => .mu b d0) := by
                show (match lentAt (.pl k :: os) (t :: o) k with | some (.mu _ d') => Sl.mu b d' | some (.frz d') => if b = true then .frz d' else .val d' | _ => .mu b d0) = _
                rw [l1]
              obtain ⟨d1, ht⟩ := wt.1 _ rfl
              have hmr : k ∉ leV (m :: pm) (.var k :: es) → m = .rn ∨ m = .ro := by
                intro hi
                rcases hM with ⟨_, h | h | h⟩ | ⟨_, h | h⟩
                · exact .inl h.1
                · rw [h.2] at sl; exact absurd rfl (not_mu sl b d0)
                · exfalso; apply hi; rw [h.1]; exact List.mem_cons_self
                · exact .inr h.1
                · exfalso; apply hi; rw [h.1]; exact List.mem_cons_self
              rw [hb]
              rcases ht with rfl | rfl
              · refine ⟨fun hi => ?_, shw_mu⟩
                rcases ft (hmr hi) with e | ⟨d2, e, e'⟩ | ⟨d2, e, e'⟩
                · cases e; exact .rfl'
                · cases e'
                · cases e'
              · dsimp only
                refine ⟨fun hi => ?_, fun x e => ?_, fun x e => by cases e⟩
                · rcases ft (hmr hi) with e | ⟨d2, e, e'⟩ | ⟨d2, e, e'⟩
                  · cases e
                  · cases e; cases e'
                    cases b
                    · exact .inr (.inr ⟨_, rfl, rfl⟩)
                    · exact .inr (.inl ⟨_, rfl, rfl⟩)
                  · cases e
                · cases e
                  exact ⟨d1, .inr rfl⟩
            · have e2 : backS (.pl k :: os) (t :: o) i (.mu b d0) = backS os o i (.mu b d0) := by
                have : lentAt (.pl k :: os) (t :: o) i = lentAt os o i := if_neg hki
                unfold backS
                rw [this]
              rw [e2]
              exact ⟨fun hi => nxt.1 fun z => hi (lv k z), nxt.2⟩
theorem se_call {f : Nat} {es : List CE} (hc : CalOk (cp f) (cf f) (sg f)) (h : SA cf cp sg es) : SE cf cp sg (.call f es) := fun M fr M' hk p c K R => by
  obtain ⟨M1, h1, hk⟩ := opt_bind hk
  obtain ⟨nd, hk⟩ := ite_some hk
  obtain ⟨M2, h2, h3⟩ := opt_map hk
  obtain ⟨rfl, rfl⟩ := Prod.mk.inj h3
  show Sd ((evA cf es c).bind fun os e => callR cf f [] os e) c (tchL sg es ++ leV (sg f).pm es) (pG cp sg es p fun gs p => onO (pGets gs p) fun as => onC (cp f as) fun d outs => K d (pBack (sg f).pm es outs p)) _
  refine (h M M1 h1 p c _ R).bind fun os c1 _ ⟨gs, p1, ha, R1, e1⟩ => ?_
  rw [e1]
  refine .onO fun as hg => ?_
  obtain ⟨ss, q1, C⟩ := args_callR R1 ha hg
  obtain ⟨l1, l2, sl⟩ := ckArgs_sl C R1 h2
  have nd' : (lends os c1).Nodup := (lends_sub R1 C).nodup nd
  unfold callR
  rw [q1]
  dsimp only
  rw [if_pos nd', if_pos rfl]
  have la : as.length = ss.length := C.len.2.1.trans C.len.2.2.symm
  rcases hc as ss la (C.len.2.2.trans l1.symm) sl with e | ⟨r, o, outs, e2, e3, fr, lo, ho, wk⟩ | ⟨x, o, e2, e3, wk⟩
  · rw [e]
    exact .er rfl
  · rw [e2, e3]
    obtain ⟨R2, k2⟩ := args_rel (p' := p1) R1 C h2 nd' ho lo wk
    refine .inr (.inl ⟨_, _, rfl, k2, fr, nl_no rfl, _, R2, ?_⟩)
    refine e1.trans ?_
    rw [hg]
    simp only [onO, e3, onC]
  · rw [e2, e3]
    refine .inr (.inr ⟨x, _, rfl, rfl, ?_⟩)
    refine ⟨back_len c1 0, fun i s e => ⟨backS os o i s, by rw [back_getP, e]; rfl, ?_⟩⟩
    exact args_wk C e _ _ _ _ _ h2 wk (R1.sl i s e).1 (by rw [R1.lm]; exact (List.getElem?_eq_some_iff.mp e).1)
theorem se_call1 {f : Nat} {a : CE} (hc : CalOk (cp f) (cf f) (sg f)) (ha : SE cf cp sg a) : SE cf cp sg (.call1 f a) := fun M fr M' hk p c K R => by
  obtain ⟨⟨f1, M1⟩, h1, hk⟩ := opt_bind hk
  obtain ⟨⟨hf, hpm⟩, hk⟩ := ite_some hk
  obtain ⟨rfl, rfl⟩ := Prod.mk.inj (Option.some.inj hk)
  have hf' : f1 = .f := hf
  subst hf'
  show Sd ((evE cf a c).bind fun r e => match r with
    | .fr d => (match cf f [.mu true d] with
      | .ret r _ => .ok r e
      | .exc x _ => .ex x e
      | .er => .er)
    | .fz _ => .er) c (tchE sg a) (pE cp sg a p fun d p => onC (cp f [d]) fun d _ => K d p) _
  refine .bind0 (ha M .f M1 h1 p c _ R) fun r c1 _ ⟨fo, _, p1, R1, e1⟩ => ?_
  obtain ⟨d, rfl⟩ := fo.2
  dsimp only
  rw [e1]
  have sl : AllSl (sg f).pm ([d].map some) [.mu true d] := by
    intro j s e
    rw [hpm]
    cases j with
    | zero => cases e; exact ⟨by cases hd : d <;> first | rfl | (have := fo.1 d rfl; rw [hd] at this; cases this), fun x hx => by cases hx; rfl⟩
    | succ j => cases e
  rcases hc [d] [.mu true d] rfl (by rw [hpm]; rfl) sl with e | ⟨r, o, outs, e2, e3, fr, lo, ho, wk⟩ | ⟨x, o, e2, e3, wk⟩
  · show Sd _ _ _ (onC (cp f [d]) _) _
    rw [e]
    exact .er rfl
  · rw [e2]
    refine .ok ⟨fr, nl_no rfl, p1, R1, ?_⟩
    refine e1.trans ?_
    show onC (cp f [d]) _ = _
    rw [e3]
    rfl
  · rw [e2]
    show Sd _ _ _ (onC (cp f [d]) _) _
    rw [e3]
    exact .inr (.inr ⟨x, _, rfl, rfl, .refl⟩)
theorem perm_len {α : Type} {xs ys : List α} : ∀ {perm : List Nat} {ys : List α}, (perm.mapM fun i => xs[i]?) = some ys → ys.length = perm.length
  | [], ys, h => by cases h; rfl
  | i :: perm, ys, h => by
    rw [List.mapM_cons] at h
    obtain ⟨y, _, h⟩ := opt_bind h
    obtain ⟨zs, h2, h⟩ := opt_bind h
    cases h
    simp [perm_len (ys := zs) h2]
theorem perm_map {xs : List D} : ∀ {perm : List Nat} {ys : List D}, (perm.mapM fun i => xs[i]?) = some ys → (perm.mapM fun i => (xs.map Sl.val)[i]?) = some (ys.map .val)
  | [], ys, h => by cases h; rfl
  | i :: perm, ys, h => by
    rw [List.mapM_cons] at h
    obtain ⟨y, h1, h⟩ := opt_bind h
    obtain ⟨zs, h2, h⟩ := opt_bind h
    cases h
    rw [List.mapM_cons, perm_map h2, List.getElem?_map, h1]
    rfl
theorem PArgs.append {es ks : List CE} {o1 o2 : List Op} {g1 g2 : List Gtr} (h : PArgs c es o1 g1) (k : PArgs c ks o2 g2) : PArgs c (es ++ ks) (o1 ++ o2) (g1 ++ g2) := by
  induction h with
  | nil => exact k
  | cons a _ ih => exact .cons a ih
theorem PArgs.keep {T : List Nat} {c' : Ev} {es : List CE} {os : List Op} {gs : List Gtr} (h : PArgs c es os gs) (k : PWk T c c') (hT : T = []) : PArgs c' es os gs := by
  induction h with
  | nil => exact .nil
  | cons a _ ih => exact .cons (a.keep k fun i _ => .inl (by rw [hT]; simp)) ih
theorem PArgs.len {es : List CE} {os : List Op} {gs : List Gtr} (h : PArgs c es os gs) : os.length = es.length := by
  induction h with
  | nil => rfl
  | cons _ _ ih => simp [ih]
theorem se_callk {f : Nat} {perm : List Nat} {es ks : List CE} (hc : CalOk (cp f) (cf f) (sg f)) (h : SA cf cp sg es) (hk' : SA cf cp sg ks) : SE cf cp sg (.callk f perm es ks) := fun M fr M' hk p c K R => by
  obtain ⟨M1, h1, hk⟩ := opt_bind hk
  obtain ⟨M2, h2, hk⟩ := opt_bind hk
  obtain ⟨⟨hv, t1, t2, hp, hl, hall⟩, hk⟩ := ite_some hk
  obtain ⟨rfl, rfl⟩ := Prod.mk.inj (Option.some.inj hk)
  show Sd ((evA cf es c).bind fun o1 e => (evA cf ks e).bind fun o2 e => if o1.length = es.length ∧ o2.length = ks.length then callR cf f perm (o1 ++ o2) e else .er) c (tchL sg es ++ tchL sg ks) (pG cp sg es p fun g1 p => pG cp sg ks p fun g2 p => onO (pGets (g1 ++ g2) p) fun as => onO (perm.mapM fun i => as[i]?) fun as => onC (cp f as) fun d _ => K d p) _
  refine (h M M1 h1 p c _ R).bind fun o1 c1 _ ⟨g1, p1, a1, R1, e1⟩ => ?_
  rw [e1]
  refine (hk' M1 M2 h2 p1 c1 _ R1).bind0 fun o2 c2 k2 ⟨g2, p2, a2, R2, e2⟩ => ?_
  rw [e2]
  have A := (a1.keep k2 t2).append a2
  rw [if_pos ⟨a1.len, a2.len⟩]
  refine .onO fun as hg => .onO fun as' hperm => ?_
  obtain ⟨ss, q1, C⟩ := args_callR R2 A hg
  obtain ⟨le, hss⟩ := lends_sv R2 C hv
  have hps : permS perm ss = some (as'.map .val) := by
    unfold permS
    rw [hss]
    exact perm_map hperm
  unfold callR
  rw [q1]
  dsimp only
  rw [if_pos (by rw [le]; exact List.nodup_nil), if_neg hp, if_pos le, hps]
  dsimp only
  have lp := perm_len (ys := as') hperm
  have sl : AllSl (sg f).pm (as'.map some) (as'.map .val) := by
    intro j s e
    rw [List.getElem?_map] at e
    obtain ⟨d, e', rfl⟩ := opt_map e
    have hj : j < (sg f).pm.length := by
      rw [← hl, ← lp]
      exact (List.getElem?_eq_some_iff.mp e').1
    refine ⟨?_, fun x hx => ?_⟩
    · have hm := List.all_eq_true.mp hall ((sg f).pm[j]) (List.getElem_mem hj)
      have hg : (sg f).pm.getD j .sv = (sg f).pm[j] := by rw [List.getD_eq_getElem?_getD, List.getElem?_eq_getElem hj]; rfl
      rw [hg]
      generalize (sg f).pm[j] = mm at hm
      cases mm <;> first | rfl | (cases hm; done)
    · have : pLook (as'.map some) j = some d := by unfold pLook; rw [List.getElem?_map, e']; rfl
      rw [this] at hx
      cases hx
      rfl
  rcases hc as' (as'.map .val) (by simp) (by rw [List.length_map, lp, hl]) sl with e | ⟨r, o, outs, e3, e4, fr, lo, ho, wk⟩ | ⟨x, o, e3, e4, wk⟩
  · rw [e]
    exact .er rfl
  · rw [e3, e4]
    refine .ok ⟨fr, nl_no rfl, p2, R2, e1.trans (e2.trans ?_)⟩
    rw [hg]
    simp only [onO, hperm, e4, onC]
  · rw [e3, e4]
    exact .inr (.inr ⟨x, _, rfl, rfl, .refl⟩)
end
end Cr
set_option Elab.async false
set_option linter.all false
set_option maxRecDepth 100000
set_option maxHeartbeats 4000000
namespace Cr
open PySem
section
variable {cf : Nat → List Sl → CR} {cp : Nat → List D → R (D × PEnv)} {sg : Nat → Sig}
variable {α : Type} {c : Ev} {w : RF}
/-! ### iterables -/
theorem si_over {a : CE} (ha : SE cf cp sg a) : SI cf cp sg (.over a) := fun M M' hk p c K R => by
  obtain ⟨⟨f1, M1⟩, h1, rfl⟩ := opt_map hk
  show Sd ((evE cf a c).bind fun r e => match itD r.d with | some l => .ok l e | none => .er) c (tchE sg a) (pE cp sg a p fun d p => onO (itD d) fun l => K l p) _
  refine (ha M f1 M1 h1 p c _ R).bind0 fun r c1 _ ⟨_, _, p1, R1, e1⟩ => ?_
  rw [e1]
  refine .onO fun l hl => ?_
  rw [hl]
  exact .ok ⟨p1, R1, e1.trans (by simp only [onO, hl])⟩
theorem si_enum {a : CE} (ha : SE cf cp sg a) : SI cf cp sg (.enum a) := fun M M' hk p c K R => by
  obtain ⟨⟨f1, M1⟩, h1, rfl⟩ := opt_map hk
  show Sd ((evE cf a c).bind fun r e => match itD r.d with | some l => .ok (enumD l) e | none => .er) c (tchE sg a) (pE cp sg a p fun d p => onO (itD d) fun l => K (enumD l) p) _
  refine (ha M f1 M1 h1 p c _ R).bind0 fun r c1 _ ⟨_, _, p1, R1, e1⟩ => ?_
  rw [e1]
  refine .onO fun l hl => ?_
  rw [hl]
  exact .ok ⟨p1, R1, e1.trans (by simp only [onO, hl])⟩
theorem si_zip {a b : CE} (ha : SE cf cp sg a) (hb : SE cf cp sg b) : SI cf cp sg (.zip a b) := fun M M' hk p c K R => by
  obtain ⟨⟨f1, M1⟩, h1, hk⟩ := opt_bind hk
  obtain ⟨⟨f2, M2⟩, h2, rfl⟩ := opt_map hk
  show Sd ((evE cf a c).bind fun r e => (evE cf b e).bind fun s e => match itD r.d, itD s.d with | some l, some m => .ok (zipD l m) e | _, _ => .er) c (tchE sg a ++ tchE sg b) (pE cp sg a p fun d p => pE cp sg b p fun d2 p => onO (itD d) fun l => onO (itD d2) fun m => K (zipD l m) p) _
  refine (ha M f1 M1 h1 p c _ R).bind fun r c1 _ ⟨_, _, p1, R1, e1⟩ => ?_
  rw [e1]
  refine (hb M1 f2 M2 h2 p1 c1 _ R1).bind0 fun s c2 _ ⟨_, _, p2, R2, e2⟩ => ?_
  rw [e2]
  refine .onO fun l hl => .onO fun m hm => ?_
  rw [hl, hm]
  exact .ok ⟨p2, R2, e1.trans (e2.trans (by simp only [onO, hl, hm]))⟩
theorem si_range1 {a : CE} (ha : SE cf cp sg a) : SI cf cp sg (.range1 a) := fun M M' hk p c K R => by
  show Sd ((opd a (evE cf a) c).bind fun x e => oneI x e fun d => match d with | .int b => if ok63 b = true then some (rangeD 0 b) else none | _ => none) c (tchE sg a) (pO a (pE cp sg a p) p fun x p => onO (x p) fun d => onI d fun b => if ok63 b = true then K (rangeD 0 b) p else .er) _
  refine (so_of ha M M' hk p c _ R).bind0 fun x c1 _ ⟨_, g1, p1, o1, R1, e1⟩ => ?_
  rw [e1]
  refine .onO fun d hd => ?_
  unfold oneI
  rw [o1 _ _ _ R1 d hd]
  cases d with
  | int b =>
    dsimp only [onI]
    by_cases q : ok63 b = true
    · rw [if_pos q, if_pos q]
      exact .ok ⟨p1, R1, e1.trans (by simp only [onO, hd, onI, q, if_true])⟩
    · rw [if_neg q, if_neg q]
      exact .er rfl
  | _ => exact .er rfl
theorem si_range2 {a b : CE} (ha : SE cf cp sg a) (hb : SE cf cp sg b) : SI cf cp sg (.range2 a b) := fun M M' hk p c K R => by
  obtain ⟨M1, h1, h2⟩ := opt_bind hk
  show Sd ((opd a (evE cf a) c).bind fun x e => (opd b (evE cf b) e).bind fun y e => match x.get e, y.get e with
    | some (.int i), some (.int j) => if ok63 i = true ∧ ok63 j = true then .ok (rangeD i j) e else .er
    | _, _ => .er) c (tchE sg a ++ tchE sg b) (pO a (pE cp sg a p) p fun x p => pO b (pE cp sg b p) p fun y p => onO (x p) fun d => onI d fun i => onO (y p) fun d => onI d fun j => if ok63 i = true ∧ ok63 j = true then K (rangeD i j) p else .er) _
  refine (so_of ha M M1 h1 p c _ R).bind fun x c1 _ ⟨_, g1, p1, o1, R1, e1⟩ => ?_
  rw [e1]
  refine (so_of hb M1 M' h2 p1 c1 _ R1).bind0 fun y c2 _ ⟨_, g2, p2, o2, R2, e2⟩ => ?_
  rw [e2]
  refine .onO fun d hd => ?_
  rw [o1 _ _ _ R2 d hd]
  cases d with
  | int i =>
    dsimp only [onI]
    refine .onO fun d2 hd2 => ?_
    rw [o2 _ _ _ R2 d2 hd2]
    cases d2 with
    | int j =>
      dsimp only
      by_cases q : ok63 i = true ∧ ok63 j = true
      · rw [if_pos q, if_pos q]
        exact .ok ⟨p2, R2, e1.trans (e2.trans (by simp only [onO, hd, hd2, onI, q, and_self, if_true]))⟩
      · rw [if_neg q, if_neg q]
        exact .er rfl
    | _ => exact .er rfl
  | _ => exact .er rfl
/-! ### targets -/
theorem store_ok {M : Ms} {p : PEnv} (R : PRel M p c) {i : Nat} (hm : M.getD i .sv = .sv ∨ M.getD i .sv = .mo ∨ M.getD i .sv = .sm) (hi : i < M.length) (s' : Sl) : store i s' c = .ok () (c.set i s') ∧ ∃ s, c[i]? = some s ∧ PShw s s' := by
  have l : i < c.length := by rw [← R.lm]; exact hi
  have e := List.getElem?_eq_getElem l
  have sl := (R.sl i _ e).1
  generalize c[i] = s at e sl
  unfold store
  rw [e]
  have key : (∀ d, s ≠ .mu true d) ∧ ∀ d, s ≠ .frz d := by
    rcases hm with hm | hm | hm <;> rw [hm] at sl <;> refine ⟨fun d e => ?_, fun d e => ?_⟩ <;> subst e <;> cases sl
  refine ⟨?_, s, rfl, fun d e => absurd e (key.1 d), fun d e => absurd e (key.2 d)⟩
  cases s with
  | mu b d =>
    cases b with
    | true => exact absurd rfl (key.1 d)
    | false => rfl
  | frz d => exact absurd rfl (key.2 d)
  | _ => rfl
theorem sas_name (i : Nat) : SAs cf cp sg (.name i) := fun M fr M' hk r p c K hf R => by
  obtain ⟨⟨hm, hi⟩, hk⟩ := ite_some hk
  cases hk
  obtain ⟨e, s, es, hw⟩ := store_ok R hm hi r.sl
  show Sd (store i r.sl c) c [i] (K (p.set i (some r.d))) _
  rw [e]
  refine .inr (.inl ⟨(), _, rfl, .set es (fun q => absurd (List.mem_singleton.mpr rfl) q) hw, p.set i (some r.d), R.set ⟨?_, fun x hx => ?_⟩, rfl⟩)
  · cases fr with
    | z => obtain ⟨d, rfl⟩ := hf.2; rfl
    | f => obtain ⟨d, rfl⟩ := hf.2; exact hf.1 d rfl
    | u =>
      cases r with
      | fz d => rfl
      | fr d => exact hf.1 d rfl
  · cases hx
    cases r <;> rfl
theorem sasz_of : ∀ {ts : List Tg}, (∀ t ∈ ts, SAs cf cp sg t) → ∀ M M', chkTz sg ts M = some M' → ∀ (ds : List D) p c K, PRel M p c → Sd (evAsgs cf ts (ds.map .fz) c) c (tchTs sg ts) (pAsgs cp sg ts ds p K) fun _ c' => ∃ p', PRel M' p' c' ∧ pAsgs cp sg ts ds p K = K p'
  | [], _, M, M', hk, ds, p, c, K, R => by
    cases hk
    cases ds with
    | nil => exact .ok ⟨p, R, rfl⟩
    | cons _ _ => exact .er rfl
  | t :: ts, h, M, M', hk, ds, p, c, K, R => by
    obtain ⟨M1, h1, h2⟩ := opt_bind hk
    cases ds with
    | nil => exact .er rfl
    | cons d ds =>
      show Sd ((evAsg cf t (.fz d) c).bind fun _ e => evAsgs cf ts (ds.map .fz) e) c (tchT sg t ++ tchTs sg ts) (pAsg cp sg t d p fun p => pAsgs cp sg ts ds p K) _
      refine (h t List.mem_cons_self M .z M1 h1 (.fz d) p c _ .fz R).bind fun _ c1 _ ⟨p1, R1, e1⟩ => ?_
      rw [e1]
      exact (sasz_of (fun t ht => h t (List.mem_cons_of_mem _ ht)) M1 M' h2 ds p1 c1 K R1).mono fun _ c2 _ ⟨p2, R2, e2⟩ => ⟨p2, R2, e1.trans e2⟩
theorem sas_tup {ts : List Tg} (h : ∀ t ∈ ts, SAs cf cp sg t) : SAs cf cp sg (.tup ts) := fun M fr M' hk r p c K hf R => by
  show Sd (match r.d with | .tuple ds => if ds.length = ts.length then evAsgs cf ts (ds.map .fz) c else .er | .list ds => if ds.length = ts.length then evAsgs cf ts (ds.map .fz) c else .er | _ => .er) c (tchTs sg ts) (onT r.d fun ds => if ds.length = ts.length then pAsgs cp sg ts ds p K else .er) fun _ c' => ∃ p', PRel M' p' c' ∧ (onT r.d fun ds => if ds.length = ts.length then pAsgs cp sg ts ds p K else .er) = K p'
  cases r.d with
  | tuple ds =>
    dsimp only [onT]
    by_cases q : ds.length = ts.length
    · rw [if_pos q, if_pos q]
      exact sasz_of h M M' hk ds p c K R
    · rw [if_neg q, if_neg q]
      exact .er rfl
  | list ds =>
    dsimp only [onT]
    by_cases q : ds.length = ts.length
    · rw [if_pos q, if_pos q]
      exact sasz_of h M M' hk ds p c K R
    · rw [if_neg q, if_neg q]
      exact .er rfl
  | _ => exact .er rfl
theorem sas_sub {i : Nat} {a : CE} (ha : SE cf cp sg a) : SAs cf cp sg (.sub i a) := fun M fr M' hk r p c K hf R => by
  obtain ⟨hm, hk⟩ := ite_some hk
  obtain ⟨M1, h1, hk⟩ := opt_bind hk
  obtain ⟨hm1, hk⟩ := ite_some hk
  cases hk
  show Sd (subE i (opd a (evE cf a)) r c) c (tchE sg a ++ [i]) (onO (pLook p i) fun l => if isLst l = true then pO a (pE cp sg a p) p fun g p => onO (g p) fun k => onO (pLook p i) fun l => onO (putD l k r.d) fun l' => K (p.set i (some l')) else .er) _
  refine .onO fun d hd => ?_
  obtain ⟨s, e1, e2, e3⟩ := R.look hd
  obtain ⟨b, d', rfl⟩ := mut_mu hm e3
  cases e2
  unfold subE
  rw [e1]
  cases d with
  | list xs =>
    dsimp only
    rw [if_pos (show isLst (.list xs) = true from rfl)]
    refine (so_of ha M _ h1 p c _ R).bind fun o c1 _ ⟨_, g, p1, o1, R1, ef⟩ => ?_
    rw [ef]
    refine .onO fun k hk => .onO fun l hl => .onO fun l' hp => ?_
    rw [o1 _ _ _ R1 k hk]
    obtain ⟨s, q1, q2, q3⟩ := R1.look hl
    obtain ⟨b1, d1, rfl⟩ := mut_mu hm1 q3
    cases q2
    dsimp only
    unfold setAt
    rw [q1]
    dsimp only
    rw [hp]
    refine .inr (.inl ⟨_, _, rfl, .set q1 (fun hi => absurd (List.mem_singleton.mpr rfl) hi) shw_mu, p1.set i (some l'), R1.set1 ⟨shp_mu q3 (putD_isL hp), fun x hx => by cases hx; rfl⟩, ?_⟩)
    show onO (pLook p i) _ = _
    rw [hd]
    exact ef.trans (by simp only [hk, hl, hp, onO])
  | _ => exact .er rfl
theorem sats_of : ∀ {ts : List Tg}, (∀ t ∈ ts, SAs cf cp sg t) → ∀ frs M M', chkTs sg ts frs M = some M' → ∀ (rs : List Rv) p c K, FrsOk frs rs → PRel M p c → Sd (evAsgs cf ts rs c) c (tchTs sg ts) (pAsgs cp sg ts (rs.map Rv.d) p K) fun _ c' => ∃ p', PRel M' p' c' ∧ pAsgs cp sg ts (rs.map Rv.d) p K = K p'
  | [], _, frs, M, M', hk, rs, p, c, K, hf, R => by
    cases frs with
    | cons _ _ => cases hk
    | nil =>
      cases hk
      cases rs with
      | nil => exact .ok ⟨p, R, rfl⟩
      | cons _ _ => cases hf
  | t :: ts, h, frs, M, M', hk, rs, p, c, K, hf, R => by
    cases frs with
    | nil => cases hk
    | cons f fs =>
      cases rs with
      | nil => cases hf
      | cons r rs =>
        obtain ⟨M1, h1, h2⟩ := opt_bind hk
        show Sd ((evAsg cf t r c).bind fun _ e => evAsgs cf ts rs e) c (tchT sg t ++ tchTs sg ts) (pAsg cp sg t r.d p fun p => pAsgs cp sg ts (rs.map Rv.d) p K) _
        refine (h t List.mem_cons_self M f M1 h1 r p c _ hf.1 R).bind fun _ c1 _ ⟨p1, R1, e1⟩ => ?_
        rw [e1]
        exact (sats_of (fun t ht => h t (List.mem_cons_of_mem _ ht)) fs M1 M' h2 rs p1 c1 K hf.2 R1).mono fun _ c2 _ ⟨p2, R2, e2⟩ => ⟨p2, R2, e1.trans e2⟩
/-! ### list comprehensions -/
theorem wipe_ok {M : Ms} {p : PEnv} (R : PRel M p c) : ∀ {own : List Nat}, (∀ i ∈ own, M.getD i .sv = .sv ∧ i < M.length) → ∃ c', wipeE c own = some c' ∧ PRel M (pWipe p own) c' ∧ PWk own c c'
  | [], _ => ⟨c, rfl, R, .refl⟩
  | i :: r, h => by
    obtain ⟨c1, h1, R1, k1⟩ := wipe_ok R (own := r) fun j hj => h j (List.mem_cons_of_mem _ hj)
    obtain ⟨hm, hl⟩ := h i List.mem_cons_self
    have l : i < c1.length := by rw [← R1.lm]; exact hl
    have e := List.getElem?_eq_getElem l
    have sl := (R1.sl i _ e).1
    rw [hm] at sl
    have wm : PWk (i :: r) c c1 := k1.mono fun x hx => List.mem_cons_of_mem _ hx
    have fin : ∀ s, c1[i]? = some s → (∀ d, s ≠ .mu true d) → (∀ d, s ≠ .frz d) → PRel M ((pWipe p r).set i none) (c1.set i .un) ∧ PWk (i :: r) c (c1.set i .un) := by
      intro s es n1 n2
      refine ⟨R1.set1 ⟨by rw [hm]; rfl, fun x hx => by cases hx⟩, ?_⟩
      have : PWk [i] c1 (c1.set i .un) := .set es (fun q => absurd (List.mem_singleton.mpr rfl) q) ⟨fun d e => absurd e (n1 d), fun d e => absurd e (n2 d)⟩
      exact (k1.trans this).mono fun x hx => by
        rcases List.mem_append.mp hx with hx | hx
        · exact List.mem_cons_of_mem _ hx
        · rw [List.mem_singleton.mp hx]; exact List.mem_cons_self
    generalize c1[i] = s at e sl
    have hw : wipeE c (i :: r) = (match c1[i]? with | some .un => some c1 | some (.val _) => some (c1.set i .un) | _ => none) := by
      show ((wipeE c r).bind fun e' => match e'[i]? with | some .un => some e' | some (.val _) => some (e'.set i .un) | _ => none) = _
      rw [h1]
      rfl
    rw [hw, e]
    cases s with
    | un =>
      have := fin .un e (fun d q => by cases q) (fun d q => by cases q)
      rw [set_same e] at this
      exact ⟨_, rfl, this⟩
    | val d => exact ⟨_, rfl, fin _ e (fun d q => by cases q) (fun d q => by cases q)⟩
    | mu b d => cases sl
    | frz d => cases sl
theorem unwipe_get {c0 : Ev} {i : Nat} : ∀ {own : List Nat} {c2 : Ev}, (unwipe c0 c2 own)[i]? = if i ∈ own ∧ i < c2.length then some (c0[i]?.getD .un) else c2[i]?
  | [], c2 => by simp [unwipe]
  | j :: r, c2 => by
    have ih := unwipe_get (c0 := c0) (i := i) (own := r) (c2 := c2)
    have hl : (unwipe c0 c2 r).length = c2.length := by
      clear ih
      induction r with
      | nil => rfl
      | cons k r ih => simp [unwipe, ih]
    show ((unwipe c0 c2 r).set j (c0[j]?.getD .un))[i]? = _
    rw [List.getElem?_set, hl, ih]
    by_cases q : j = i
    · subst q
      by_cases l : j < c2.length
      · simp [l]
      · simp [l]
    · have : i ∈ j :: r ↔ i ∈ r := by
        rw [List.mem_cons]
        exact ⟨fun h => h.elim (fun e => absurd e.symm q) id, .inr⟩
      simp [q, this]
theorem unwipe_lenP {c0 c2 : Ev} : ∀ {own : List Nat}, (unwipe c0 c2 own).length = c2.length
  | [] => rfl
  | k :: r => by simp [unwipe, unwipe_lenP (own := r)]
theorem unwipe_rel {M : Ms} {p1 p2 : PEnv} {c1 c2 : Ev} (R1 : PRel M p1 c1) (R2 : PRel M p2 c2) : ∀ {own : List Nat}, PRel M (pUnwipe p1 p2 own) (unwipe c1 c2 own)
  | [] => R2
  | i :: r => by
    have ih := unwipe_rel R1 R2 (own := r)
    show PRel M ((pUnwipe p1 p2 r).set i (pLook p1 i)) ((unwipe c1 c2 r).set i (c1[i]?.getD .un))
    by_cases l : i < c1.length
    · refine ih.set1 ?_
      have e := List.getElem?_eq_getElem l
      rw [e]
      exact R1.sl i _ e
    · have l2 : ¬ i < (unwipe c1 c2 r).length := by rw [← ih.lm, R1.lm]; exact l
      have l3 : ¬ i < (pUnwipe p1 p2 r).length := by rw [ih.lp]; exact l2
      rw [List.set_eq_of_length_le (by omega), List.set_eq_of_length_le (by omega)]
      exact ih
theorem bind_assoc {β γ : Type} {m : Rs α} {f : α → Ev → Rs β} {g : β → Ev → Rs γ} : (m.bind f).bind g = m.bind fun a e => (f a e).bind g := by cases m <;> rfl
theorem bind_ite {β : Type} {b : Bool} {x y : Rs α} {f : α → Ev → Rs β} : (if b = true then x else y).bind f = if b = true then x.bind f else y.bind f := by cases b <;> rfl
theorem sd_comp {own : List Nat} {asg : D → Ev → Rs Unit} {cC : Ev → Rs Bool} {fC : Ev → Rs Rv} {st : D → PEnv → RF} {Mh : Ms} {T : List Nat} (hown : ∀ i ∈ own, Mh.getD i .sv = .sv ∧ i < Mh.length)
    (hs : ∀ x p c, PRel Mh p c → Sd ((asg x c).bind fun _ e => (cC e).bind fun b e => if b = true then (fC e).bind fun v e => .ok (some v.d) e else .ok none e) c T (st x p) fun o c' => ∃ p', PRel Mh p' c' ∧ st x p = match o with | some v => .ok (.rt v, p') | none => .ok (.nx, p')) :
    ∀ (items acc : List D) (p : PEnv) (c : Ev), PRel Mh p c → Sd (compL own asg cC fC items acc c) c (T ++ own) (pcomp own st items acc p) fun r c' => ∃ p', PRel Mh p' c' ∧ pcomp own st items acc p = ret (.list r) p'
  | [], acc, p, c, R => (Sd.ok ⟨p, R, rfl⟩).sub fun _ h => by cases h
  | x :: r, acc, p, c, R => by
    have e0 : compL own asg cC fC (x :: r) acc c = ((asg x c).bind fun _ e => (cC e).bind fun b e => if b = true then (fC e).bind fun v e => .ok (some v.d) e else .ok none e).bind fun o e => match o with
        | some v => if acc.length < sizeLine then wipeK own e fun e => compL own asg cC fC r (acc ++ [v]) e else .er
        | none => wipeK own e fun e => compL own asg cC fC r acc e := by
      rw [bind_assoc]
      show ((asg x c).bind fun _ e => (cC e).bind fun b e => if b = true then (fC e).bind fun v e => if acc.length < sizeLine then wipeK own e fun e => compL own asg cC fC r (acc ++ [v.d]) e else .er
        else wipeK own e fun e => compL own asg cC fC r acc e) = _
      congr
      funext _ e
      rw [bind_assoc]
      congr
      funext b e
      rw [bind_ite, bind_assoc]
      rfl
    rw [e0]
    have e1 : pcomp own st (x :: r) acc p = (st x p).bind fun q => match q.1 with
      | .rt v => if acc.length < sizeLine then pcomp own st r (acc ++ [v]) (pWipe q.2 own) else .er
      | .nx => pcomp own st r acc (pWipe q.2 own)
      | _ => .er := rfl
    rw [e1]
    refine (Sd.bind (T1 := T) (T2 := own ++ (T ++ own)) ((hs x p c R).cg (fun e => by rw [e]; rfl) fun x e => by rw [e]; rfl) fun o c1 _ ⟨p1, R1, ef⟩ => ?_).sub fun z hz => by
      simp only [List.mem_append] at hz ⊢
      rcases hz with h | h | h | h <;> simp [h]
    rw [ef]
    cases o with
    | some v =>
      show Sd _ c1 _ (if acc.length < sizeLine then pcomp own st r (acc ++ [v]) (pWipe p1 own) else .er) _
      dsimp only
      split
      · obtain ⟨c2, hw, R2, k2⟩ := wipe_ok R1 hown
        unfold wipeK
        rw [hw]
        rcases sd_comp hown hs r (acc ++ [v]) _ c2 R2 with h | ⟨a, c3, h1, k3, p3, R3, h2⟩ | ⟨x, c3, h1, h2, k3⟩
        · exact .inl h
        · exact .inr (.inl ⟨a, c3, h1, k2.trans k3, p3, R3, h2⟩)
        · exact .inr (.inr ⟨x, c3, h1, h2, k2.trans k3⟩)
      · exact .er rfl
    | none =>
      show Sd _ c1 _ (pcomp own st r acc (pWipe p1 own)) _
      dsimp only
      obtain ⟨c2, hw, R2, k2⟩ := wipe_ok R1 hown
      unfold wipeK
      rw [hw]
      rcases sd_comp hown hs r acc _ c2 R2 with h | ⟨a, c3, h1, k3, p3, R3, h2⟩ | ⟨x, c3, h1, h2, k3⟩
      · exact .inl h
      · exact .inr (.inl ⟨a, c3, h1, k2.trans k3, p3, R3, h2⟩)
      · exact .inr (.inr ⟨x, c3, h1, h2, k2.trans k3⟩)
theorem lpM_spec {step : Ms → Option (Option Ms × List Ms)} {M1 : Ms} : ∀ (n : Nat) {M Mh : Ms}, lpM step M1 n M = some Mh → ∃ o bs, step Mh = some (o, bs) ∧ (∀ x ∈ o.toList ++ bs, upM x Mh = true) ∧ upM M1 Mh = true
  | 0, _, _, h => by cases h
  | n + 1, M, Mh, h => by
    unfold lpM at h
    cases hs : step M with
    | none => rw [hs] at h; cases h
    | some q =>
      obtain ⟨o, bs⟩ := q
      rw [hs] at h
      dsimp only at h
      split at h
      · rename_i hq
        cases h
        rw [Bool.and_eq_true] at hq
        exact ⟨o, bs, hs, fun x hx => List.all_eq_true.mp hq.1 x hx, hq.2⟩
      · split at h
        · exact lpM_spec n h
        · cases h
theorem se_comp {own : List Nat} {t : Tg} {it : It} {q : Option CE} {f : CE} (hi : SI cf cp sg it) (ht : SAs cf cp sg t) (hq : ∀ a, q = some a → SE cf cp sg a) (hf : SE cf cp sg f) : SE cf cp sg (.comp own t it q f) := fun M fr M' hk p c K R => by
  have hk0 : ((chkI sg it M).bind fun M1 => (lpM (fun (M : Ms) => if (own.all fun i => decide (M.getD i Am.sv = Am.sv) && decide (i < M.length)) = true then ((chkT sg t Fsh.z M).bind fun M => (chkP sg q M).bind fun M => (chkE sg f M).bind fun r =>
      if (own.all fun i => decide (M.getD i Am.sv = Am.sv) && decide (r.2.getD i Am.sv = Am.sv)) = true then some (some r.2, [M]) else none) else none) M1 4 M1).map fun M => (Fsh.f, M)) = some (fr, M') := hk
  obtain ⟨M1, h1, hk⟩ := opt_bind hk0
  obtain ⟨Mh, hl, he⟩ := opt_map hk
  obtain ⟨rfl, rfl⟩ := Prod.mk.inj he
  obtain ⟨o, bs, hs, hup, hM1⟩ := lpM_spec 4 hl
  obtain ⟨hown, hs⟩ := ite_some hs
  obtain ⟨M2, h2, hs⟩ := opt_bind hs
  obtain ⟨M3, h3, hs⟩ := opt_bind hs
  obtain ⟨⟨f4, M4⟩, h4, hs⟩ := opt_bind hs
  obtain ⟨hown2, hs⟩ := ite_some hs
  cases hs
  have own' : ∀ i ∈ own, Mh.getD i .sv = .sv ∧ i < Mh.length := fun i hi => by
    have := List.all_eq_true.mp hown i hi
    rw [Bool.and_eq_true, decide_eq_true_eq, decide_eq_true_eq] at this
    exact this
  have u3 : upM M3 Mh = true := hup M3 (by simp)
  have u4 : upM M4 Mh = true := hup M4 (by simp)
  let st : D → PEnv → RF := fun x p => pAsg cp sg t x p fun p => pQ cp sg q p fun b p => if b = true then pE cp sg f p ret else nxK p
  let cC : Ev → Rs Bool := fun e => match q with | some q => tst q (evE cf q) e | none => .ok true e
  let Tb := tchT sg t ++ (tchP sg q ++ tchE sg f)
  have hst : ∀ x p c, PRel Mh p c → Sd ((evAsg cf t (.fz x) c).bind fun _ e => (cC e).bind fun b e => if b = true then (evE cf f e).bind fun v e => .ok (some v.d) e else .ok none e) c Tb (st x p) fun o c' => ∃ p', PRel Mh p' c' ∧ st x p = match o with | some v => .ok (.rt v, p') | none => .ok (.nx, p') := by
    intro x p c R
    have body : ∀ p c, PRel M3 p c → Sd ((evE cf f c).bind fun v e => .ok (some v.d) e) c (tchE sg f) (pE cp sg f p ret) fun o c' => ∃ p', PRel Mh p' c' ∧ pE cp sg f p ret = match o with | some v => .ok (.rt v, p') | none => .ok (.nx, p') := by
      intro p c R
      exact (hf M3 f4 M4 h4 p c _ R).bind0 fun v c1 _ ⟨_, _, p1, R1, e1⟩ => .ok ⟨p1, R1.up u4, e1⟩
    have hA := ht Mh .z M2 h2 (.fz x) p c (fun p => pQ cp sg q p fun b p => if b = true then pE cp sg f p ret else nxK p) .fz R
    refine Sd.bind (T1 := tchT sg t) (T2 := tchP sg q ++ tchE sg f) hA fun _ c1 _ ⟨p1, R1, e1⟩ => ?_
    have e1' : st x p = _ := e1
    rw [e1']
    cases q with
    | none =>
      cases h3
      refine (Sd.bind (T1 := []) (T2 := tchE sg f) (Q := fun b c' => b = true ∧ c' = c1) (.ok ⟨rfl, rfl⟩) ?_)
      rintro b c' _ ⟨rfl, rfl⟩
      rw [if_pos rfl]
      exact body p1 c' R1
    | some q =>
      refine (st_of (hq q rfl) M2 M3 h3 p1 c1 (fun b p => if b = true then pE cp sg f p ret else nxK p) R1).bind fun b c2 _ ⟨p2, R2, e2⟩ => ?_
      have e2' : pQ cp sg (some q) p1 (fun b p => if b = true then pE cp sg f p ret else nxK p) = _ := e2
      rw [e2', e2]
      refine .ite (fun hb => ?_) fun hb => ?_
      · subst hb
        exact body p2 c2 R2
      · subst hb
        exact (Sd.ok ⟨p2, R2.up u3, rfl⟩).sub fun _ h => by cases h
  let W : PEnv → List D → RF := fun p items => noExP (pcomp own st items [] (pWipe p own))
  have ev : evE cf (.comp own t it q f) c = ((evI cf it c).bind fun items e => wipeK own e fun e1 => (noEx (compL own (fun d e => evAsg cf t (.fz d) e) cC (evE cf f) items [] e1)).bind fun acc e2 => .ok (Rv.fr (.list acc)) (unwipe e e2 own)) := by cases q <;> rfl
  rw [ev]
  show Sd ((evI cf it c).bind fun items e => wipeK own e fun e1 => (noEx (compL own (fun d e => evAsg cf t (.fz d) e) cC (evE cf f) items [] e1)).bind fun acc e2 => .ok (Rv.fr (.list acc)) (unwipe e e2 own)) c (tchI sg it ++ Tb.filter fun i => !own.contains i) (pI cp sg it p fun items p => bdV (W p items) fun d p2 => K d (pUnwipe p p2 own)) _
  refine (hi M M1 h1 p c _ R).bind fun items c1 _ ⟨p1, R1, e1⟩ => ?_
  rw [e1]
  have Rh := R1.up hM1
  obtain ⟨c2, hw, R2, k2⟩ := wipe_ok Rh own'
  unfold wipeK
  rw [hw]
  dsimp only
  rcases sd_comp own' hst items [] _ c2 R2 with h | ⟨acc, c3, h, k3, p3, R3, e3⟩ | ⟨x, c3, h, e3, _⟩
  · exact .er (by show bdV (noExP (pcomp own st items [] (pWipe p1 own))) _ = _; rw [h]; rfl)
  · rw [h]
    have hW : W p1 items = ret (.list acc) p3 := by show noExP _ = _; rw [e3]; rfl
    refine .inr (.inl ⟨_, _, rfl, ?_, ⟨fun d e => by cases e; rfl, _, rfl⟩, fun _ => rfl, pUnwipe p1 p3 own, unwipe_rel Rh R3, ?_⟩)
    · have k := k2.trans k3
      refine ⟨by rw [unwipe_lenP, k.1], fun i s e => ?_⟩
      rw [unwipe_get]
      by_cases hio : i ∈ own
      · have l : i < c3.length := by rw [k.1]; exact (List.getElem?_eq_some_iff.mp e).1
        exact ⟨s, by rw [if_pos ⟨hio, l⟩, e]; rfl, fun _ => .rfl', .rfl'⟩
      · rw [if_neg fun h => hio h.1]
        obtain ⟨s', e', f', w'⟩ := k.2 i s e
        refine ⟨s', e', fun hn => f' fun hm => ?_, w'⟩
        rcases List.mem_append.mp hm with hm | hm
        · exact hio hm
        · rcases List.mem_append.mp hm with hm | hm
          · exact hn (List.mem_filter.mpr ⟨hm, by simp [hio]⟩)
          · exact hio hm
    · exact e1.trans (bdV_ret hW)
  · exact .er (by show bdV (noExP (pcomp own st items [] (pWipe p1 own))) _ = _; rw [e3]; rfl)
/-! ### all expressions -/
variable (hc : ∀ f, CalOk (cp f) (cf f) (sg f))
include hc
mutual
theorem sE : ∀ a : CE, SE cf cp sg a
  | .k d => se_k d
  | .edict => se_edict
  | .glob d => se_glob d
  | .var i => se_var i
  | .tup es => se_tup (sl_of (sEs es))
  | .lst es => se_lst (sl_of (sEs es))
  | .bin _ a b => se_bin (sE a) (sE b)
  | .neg a => se_neg (sE a)
  | .cmp _ a b => se_cmp (sE a) (sE b)
  | .chain _ _ a b d => se_chain (sE a) (sE b) (sE d)
  | .and_ a b => se_and (sE a) (sE b)
  | .or_ a b => se_or (sE a) (sE b)
  | .not_ a => se_not (sE a)
  | .ife q a b => se_ife (sE q) (sE a) (sE b)
  | .idx a b => se_idx (sE a) (sE b)
  | .slc a lo hi => se_slc (sE a) (sp_of (sEo lo)) (sp_of (sEo hi))
  | .rev a => se_rev (sE a)
  | .call f es => se_call (hc f) (sa_of (sEs es))
  | .call1 f a => se_call1 (hc f) (sE a)
  | .callk f _ es ks => se_callk (hc f) (sa_of (sEs es)) (sa_of (sEs ks))
  | .isi a _ => se_isi (sE a)
  | .blt _ es => se_blt (sg_of (sEs es))
  | .vm _ a es => se_vm (sE a) (sg_of (sEs es))
  | .mm _ _ es => se_mm (sl_of (sEs es))
  | .comp _ t it q f => se_comp (sI it) (sT t) (sEo q) (sE f)
theorem sEs : ∀ es : List CE, ∀ a ∈ es, SE cf cp sg a
  | [], _, h => by cases h
  | b :: r, a, h => by
    rcases List.mem_cons.mp h with e | h
    · rw [e]; exact sE b
    · exact sEs r a h
theorem sEo : ∀ o : Option CE, ∀ a, o = some a → SE cf cp sg a
  | none, _, h => by cases h
  | some b, a, h => by cases h; exact sE b
theorem sI : ∀ it : It, SI cf cp sg it
  | .over a => si_over (sE a)
  | .range1 a => si_range1 (sE a)
  | .range2 a b => si_range2 (sE a) (sE b)
  | .enum a => si_enum (sE a)
  | .zip a b => si_zip (sE a) (sE b)
theorem sT : ∀ t : Tg, SAs cf cp sg t
  | .name i => sas_name i
  | .tup ts => sas_tup (sTs ts)
  | .sub _ a => sas_sub (sE a)
theorem sTs : ∀ ts : List Tg, ∀ t ∈ ts, SAs cf cp sg t
  | [], _, h => by cases h
  | b :: r, a, h => by
    rcases List.mem_cons.mp h with e | h
    · rw [e]; exact sT b
    · exact sTs r a h
end
end
end Cr
set_option Elab.async false
set_option linter.all false
set_option maxRecDepth 100000
set_option maxHeartbeats 4000000
namespace Cr
open PySem
section
variable (cf : Nat → List Sl → CR) (cp : Nat → List D → R (D × PEnv)) (sg : Nat → Sig) (np : Nat) (om : Ms) (rf : Fsh) (nl : List Nat) (fuel : Nat)
/-- what a statement ends with -/
def FlQ (o : Option Ms) (bs : List Ms) (w : RF) (K : PEnv → RF) : Fl → Ev → Prop
  | .nx, c' => ∃ M' p', o = some M' ∧ PRel M' p' c' ∧ w = K p'
  | .bk, c' => ∃ M' p', M' ∈ bs ∧ PRel M' p' c' ∧ w = .ok (.bk, p')
  | .ct, c' => ∃ M' p', M' ∈ bs ∧ PRel M' p' c' ∧ w = .ok (.ct, p')
  | .rt r, c' => ∃ p', p'.length = c'.length ∧ (∀ j s, j < np → c'[j]? = some s → PSl (om.getD j .sv) (pLook p' j) s) ∧ FrOk rf r ∧ w = .ok (.rt r.d, p')
def SS (s : CS) : Prop := ∀ M o bs, chkS sg np om rf nl s M = some (o, bs) → ∀ p c K, PRel M p c → Sd (evS cf fuel s c) c (tchS sg s) (pS cp sg nl fuel s p K) (FlQ np om rf o bs (pS cp sg nl fuel s p K) K)
def SSs (ss : List CS) : Prop := ∀ M o bs, chkSs sg np om rf nl ss M = some (o, bs) → ∀ p c K, PRel M p c → Sd (evSs cf fuel ss c) c (tchSs sg ss) (pSs cp sg nl fuel ss p K) (FlQ np om rf o bs (pSs cp sg nl fuel ss p K) K)
variable {cf cp sg np om rf nl fuel}
variable {c : Ev} {w : RF}
theorem adj_ok {t : Tg} {r : Rv} {f : Fsh} (h : FrOk f r) (hn : nlOk nl t r.d = true) : FrOk (adjF nl t f) r := by
  unfold adjF
  split
  · rename_i i
    split
    · rename_i hc
      refine ⟨h.1, ?_⟩
      have hn' : (!(nl.contains i) || !isLst r.d) = true := hn
      rw [hc] at hn'
      cases r with
      | fz d => exact ⟨d, rfl⟩
      | fr d =>
        have := h.1 d rfl
        rw [show (Rv.fr d).d = d from rfl, this] at hn'
        cases hn'
    · exact h
  · exact h
theorem adjs_ok : ∀ {ts : List Tg} {fs : List Fsh} {rs : List Rv}, FrsOk fs rs → nlOks nl ts (rs.map Rv.d) = true → FrsOk (adjFs nl ts fs) rs
  | [], fs, rs, h, _ => by cases fs <;> exact h
  | t :: ts, [], rs, h, _ => h
  | t :: ts, f :: fs, [], h, _ => h.elim
  | t :: ts, f :: fs, r :: rs, h, hn => by
    have hn' : (nlOk nl t r.d && nlOks nl ts (rs.map Rv.d)) = true := hn
    rw [Bool.and_eq_true] at hn'
    exact ⟨adj_ok h.1 hn'.1, adjs_ok h.2 hn'.2⟩
section
variable (hc : ∀ f, CalOk (cp f) (cf f) (sg f))
include hc
theorem ss_asg (t : Tg) (a : CE) : SS cf cp sg np om rf nl fuel (.asg t a) := fun M o bs hk p c K R => by
  obtain ⟨⟨f, M1⟩, h1, hk⟩ := opt_bind hk
  obtain ⟨M2, h2, hk⟩ := opt_map hk
  obtain ⟨rfl, rfl⟩ := Prod.mk.inj hk
  show Sd ((evE cf a c).bind fun r e => (evAsg cf t r e).bind fun _ e => .ok .nx e) c (tchE sg a ++ tchT sg t) (pE cp sg a p fun d p => if nlOk nl t d = true then pAsg cp sg t d p K else .er) (FlQ np om rf (some M2) [] (pE cp sg a p fun d p => if nlOk nl t d = true then pAsg cp sg t d p K else .er) K)
  refine (sE hc a M f M1 h1 p c _ R).bind fun r c1 _ ⟨hf, _, p1, R1, e1⟩ => ?_
  rw [e1]
  by_cases hn : nlOk nl t r.d = true
  · rw [if_pos hn]
    exact (sT hc t M1 _ M2 h2 r p1 c1 K (adj_ok hf hn) R1).bind0 fun _ c2 _ ⟨p2, R2, e2⟩ => .ok ⟨M2, p2, rfl, R2, e2⟩
  · rw [if_neg hn]
    exact .er rfl
theorem ss_par (ts : List Tg) (es : List CE) : SS cf cp sg np om rf nl fuel (.par ts es) := fun M o bs hk p c K R => by
  obtain ⟨⟨fs, M1⟩, h1, hk⟩ := opt_bind hk
  obtain ⟨M2, h2, hk⟩ := opt_map hk
  obtain ⟨rfl, rfl⟩ := Prod.mk.inj hk
  let W := pL cp sg es p fun ds p => if ds.length = ts.length ∧ ts.length ≤ 1000 then (if nlOks nl ts ds = true then pAsgs cp sg ts ds p K else .er) else .er
  show Sd ((evR cf es c).bind fun rs e => if rs.length = ts.length ∧ ts.length ≤ 1000 then (evAsgs cf ts rs e).bind fun _ e => .ok .nx e else .er) c (tchL sg es ++ tchTs sg ts) W (FlQ np om rf (some M2) [] W K)
  refine (sr_of (sEs hc es) M fs M1 h1 p c _ R).bind fun rs c1 _ ⟨hf, p1, R1, e1⟩ => ?_
  have e1' : W = _ := e1
  rw [e1', e1]
  by_cases hl : rs.length = ts.length ∧ ts.length ≤ 1000
  · rw [if_pos hl, if_pos (by rw [List.length_map]; exact hl)]
    by_cases hn : nlOks nl ts (rs.map Rv.d) = true
    · rw [if_pos hn]
      exact (sats_of (sTs hc ts) _ M1 M2 h2 rs p1 c1 K (adjs_ok hf hn) R1).bind0 fun _ c2 _ ⟨p2, R2, e2⟩ => .ok ⟨M2, p2, rfl, R2, e2⟩
    · rw [if_neg hn]
      exact .er rfl
  · rw [if_neg hl, if_neg (by rw [List.length_map]; exact hl)]
    exact .er rfl
theorem ss_aug (i : Nat) (op : Operator) (a : CE) : SS cf cp sg np om rf nl fuel (.aug i op a) := fun M o bs hk p c K R => by
  obtain ⟨M1, h1, hk⟩ := opt_bind hk
  obtain ⟨⟨hm, hi⟩, hk⟩ := ite_some hk
  obtain ⟨rfl, rfl⟩ := Prod.mk.inj (Option.some.inj hk)
  let W := onO (pLook p i) fun d => onI d fun n => pO a (pE cp sg a p) p fun y p => onO (y p) fun d => onI d fun m => (match (generalizing := false) op with
    | .Add => K (p.set i (some (.int (n + m))))
    | .Sub => K (p.set i (some (.int (n - m))))
    | _ => .er)
  show Sd (match look c i with
    | some (.int n) => (opd a (evE cf a) c).bind fun y e => match y.get e with
      | some (.int m) => (match (generalizing := false) op with
        | .Add => (store i (.val (.int (n + m))) e).bind fun _ e => .ok .nx e
        | .Sub => (store i (.val (.int (n - m))) e).bind fun _ e => .ok .nx e
        | _ => .er)
      | _ => .er
    | _ => .er) c (tchE sg a ++ [i]) W (FlQ np om rf (some (M1.set i .sv)) [] W K)
  cases hd : pLook p i with
  | none => exact .er (by show onO (pLook p i) _ = _; rw [hd]; rfl)
  | some d =>
    rw [R.lookC hd]
    cases d with
    | int n =>
      have eW : W = pO a (pE cp sg a p) p fun y p => onO (y p) fun d => onI d fun m => (match (generalizing := false) op with
        | .Add => K (p.set i (some (.int (n + m))))
        | .Sub => K (p.set i (some (.int (n - m))))
        | _ => .er) := by show onO (pLook p i) _ = _; rw [hd]; rfl
      rw [eW]
      dsimp only
      refine (so_of (sE hc a) M M1 h1 p c _ R).bind fun y c1 _ ⟨_, g, p1, o1, R1, e1⟩ => ?_
      rw [e1]
      cases hy : g p1 with
      | none => exact .er rfl
      | some d =>
        rw [o1 _ _ _ R1 d hy]
        cases d with
        | int m =>
          have fin : ∀ z, Sd ((store i (.val (.int z)) c1).bind fun _ e => .ok Fl.nx e) c1 [i] (K (p1.set i (some (.int z)))) (FlQ np om rf (some (M1.set i .sv)) [] (K (p1.set i (some (.int z)))) K) := by
            intro z
            obtain ⟨e, s, es, hw⟩ := store_ok R1 hm hi (.val (.int z))
            rw [e]
            exact .inr (.inl ⟨_, _, rfl, .set es (fun q => absurd (List.mem_singleton.mpr rfl) q) hw, _, p1.set i (some (.int z)), rfl, R1.set ⟨rfl, fun x hx => by cases hx; rfl⟩, rfl⟩)
          cases op with
          | Add => exact fin (n + m)
          | Sub => exact fin (n - m)
          | _ => exact .er rfl
        | _ => exact .er rfl
    | _ => exact .er (by show onO (pLook p i) _ = _; rw [hd]; rfl)
theorem ss_ex (a : CE) : SS cf cp sg np om rf nl fuel (.ex a) := fun M o bs hk p c K R => by
  obtain ⟨⟨f, M1⟩, h1, hk⟩ := opt_map hk
  obtain ⟨rfl, rfl⟩ := Prod.mk.inj hk
  show Sd ((evE cf a c).bind fun _ e => .ok .nx e) c (tchE sg a) (pE cp sg a p fun _ p => K p) (FlQ np om rf (some M1) [] (pE cp sg a p fun _ p => K p) K)
  refine (sE hc a M f M1 h1 p c _ R).bind0 fun r c1 _ ⟨hf, _, p1, R1, e1⟩ => .ok ⟨M1, p1, rfl, R1, e1⟩
theorem ret_ok {M : Ms} {p : PEnv} {c : Ev} (R : PRel M p c) (h : retOk np om M = true) : ∀ j s, j < np → c[j]? = some s → PSl (om.getD j .sv) (pLook p j) s := by
  intro j s hj e
  have := List.all_eq_true.mp h j (List.mem_range.mpr hj)
  exact ⟨upA_shp this (R.sl j s e).1, (R.sl j s e).2⟩
theorem ss_ret (a : CE) : SS cf cp sg np om rf nl fuel (.ret a) := fun M o bs hk p c K R => by
  show Sd ((evRet a (evE cf a) c).bind fun r e => .ok (.rt r) e) c (tchE sg a ++ (match (generalizing := false) a with | .var i => [i] | _ => [])) (pE cp sg a p fun d p => ret d p) (FlQ np om rf o bs (pE cp sg a p fun d p => ret d p) K)
  have gen : ∀ M1 f, chkE sg a M = some (f, M1) → retOk np om M1 = true → upF f rf = true → Sd ((evE cf a c).bind fun r e => .ok (.rt r) e) c (tchE sg a) (pE cp sg a p fun d p => ret d p) (FlQ np om rf o bs (pE cp sg a p fun d p => ret d p) K) := by
    intro M1 f h1 h2 h3
    exact (sE hc a M f M1 h1 p c _ R).bind0 fun r c1 _ ⟨hf, _, p1, R1, e1⟩ => .ok ⟨p1, R1.lp, ret_ok hc R1 h2, hf.up h3, e1⟩
  by_cases hv : ∃ i, a = .var i
  · obtain ⟨i, rfl⟩ := hv
    have hk0 : (if M.getD i .sv = .mo ∨ M.getD i .sv = .sm then (if np ≤ i ∧ retOk np om M = true ∧ upF (if M.getD i .sv = .mo then .f else .u) rf = true then some (none, []) else none)
      else if retOk np om (M.set i (frzA (M.getD i .sv))) = true ∧ upF .z rf = true then some (none, []) else none) = some (o, bs) := hk
    by_cases hm : M.getD i .sv = .mo ∨ M.getD i .sv = .sm
    · rw [if_pos hm] at hk0
      obtain ⟨⟨hi, hr, hf⟩, hk0⟩ := ite_some hk0
      show Sd _ c [i] (onO (pLook p i) fun d => ret d p) (FlQ np om rf o bs (onO (pLook p i) fun d => ret d p) K)
      cases hd : pLook p i with
      | none => exact .er rfl
      | some d =>
        obtain ⟨s, e1, e2, e3⟩ := R.look hd
        have other : ∀ s', ∀ j t, j < np → (c.set i s')[j]? = some t → PSl (om.getD j .sv) (pLook p j) t := by
          intro s' j t hj e
          rw [List.getElem?_set, if_neg (by omega)] at e
          exact ret_ok hc R hr j t hj e
        have frzi : ∀ s', (∀ d, s ≠ .mu true d) → (∀ d, s ≠ .frz d) → PWk [i] c (c.set i s') := fun s' n1 n2 =>
          .set e1 (fun q => absurd (List.mem_singleton.mpr rfl) q) ⟨fun d e => absurd e (n1 d), fun d e => absurd e (n2 d)⟩
        cases s with
        | un => cases e2
        | frz d' => rcases hm with hm | hm <;> rw [hm] at e3 <;> cases e3
        | val d' =>
          cases e2
          have hsm : M.getD i .sv = .sm := by
            rcases hm with hm | hm
            · rw [hm] at e3; cases e3
            · exact hm
          have : evRet (.var i) (evE cf (.var i)) c = .ok (.fz d) c := by
            show (match c[i]? with | some (.mu false d) => Rs.ok (Rv.fr d) (c.set i .un) | _ => evE cf (.var i) c) = _
            rw [e1]
            have := rdA_frz e1 (d := d) rfl
            rw [show frzS (.val d) = .val d from rfl, set_same e1] at this
            exact this
          rw [this]
          refine .inr (.inl ⟨_, _, rfl, .refl, p, R.lp, ret_ok hc R hr, ⟨fun d e => (by cases e), ?_⟩, rfl⟩)
          rw [hsm] at hf
          have hf' : upF .u rf = true := hf
          cases rf <;> first | trivial | (cases hf'; done)
        | mu b d' =>
          cases b with
          | true => rcases hm with hm | hm <;> rw [hm] at e3 <;> cases e3
          | false =>
            cases e2
            have : evRet (.var i) (evE cf (.var i)) c = .ok (.fr d) (c.set i .un) := by
              show (match c[i]? with | some (.mu false d) => Rs.ok (Rv.fr d) (c.set i .un) | _ => evE cf (.var i) c) = _
              rw [e1]
            rw [this]
            have hl : isLst d = true := shp_isL e3
            refine .inr (.inl ⟨_, _, rfl, frzi .un (fun _ e => by cases e) (fun _ e => by cases e), p, by rw [List.length_set]; exact R.lp, other .un, ⟨fun d' e => (by cases e; exact hl), ?_⟩, rfl⟩)
            rcases hm with hm | hm
            · rw [hm] at hf
              have hf' : upF .f rf = true := hf
              cases rf <;> first | exact ⟨_, rfl⟩ | trivial | (cases hf'; done)
            · rw [hm] at hf
              have hf' : upF .u rf = true := hf
              cases rf <;> first | trivial | (cases hf'; done)
    · rw [if_neg hm] at hk0
      obtain ⟨⟨hr, hf⟩, hk0⟩ := ite_some hk0
      have : evRet (.var i) (evE cf (.var i)) c = evE cf (.var i) c := by
        show (match c[i]? with | some (.mu false d) => Rs.ok (Rv.fr d) (c.set i .un) | _ => evE cf (.var i) c) = _
        split
        · rename_i d e
          have := (R.sl i _ e).1
          generalize M.getD i .sv = mm at this hm
          cases mm <;> first | (cases this; done) | exact absurd (.inl rfl) hm | exact absurd (.inr rfl) hm
        · rfl
      rw [this]
      exact (gen _ _ rfl hr hf).sub fun _ h => List.mem_append_left _ h
  · have hn : ∀ i, a ≠ .var i := fun i e => hv ⟨i, e⟩
    have e1 : evRet a (evE cf a) c = evE cf a c := by
      cases a with
      | var i => exact absurd rfl (hn i)
      | _ => rfl
    have e2 : (match (generalizing := false) a with | .var i => [i] | _ => ([] : List Nat)) = [] := by
      cases a with
      | var i => exact absurd rfl (hn i)
      | _ => rfl
    have hk0 : ((chkE sg a M).bind fun r => if retOk np om r.2 = true ∧ upF r.1 rf = true then some (none, []) else none) = some (o, bs) := by
      cases a with
      | var i => exact absurd rfl (hn i)
      | _ => exact hk
    rw [e1, e2, List.append_nil]
    obtain ⟨⟨f, M1⟩, h1, hk0⟩ := opt_bind hk0
    obtain ⟨⟨h2, h3⟩, _⟩ := ite_some hk0
    exact gen M1 f h1 h2 h3
end
end
end Cr
set_option Elab.async false
set_option linter.all false
set_option maxRecDepth 100000
set_option maxHeartbeats 4000000
namespace Cr
open PySem
section
variable {cf : Nat → List Sl → CR} {cp : Nat → List D → R (D × PEnv)} {sg : Nat → Sig} {np : Nat} {om : Ms} {rf : Fsh} {nl : List Nat} {fuel : Nat}
variable {c : Ev} {w : RF}
/-- behind a join -/
theorem flq_join {o : Option Ms} {bs : List Ms} {w : RF} {K : PEnv → RF} {o' : Option Ms} {bs' : List Ms} (ho : ∀ M p c, o = some M → PRel M p c → ∃ M', o' = some M' ∧ PRel M' p c) (hb : ∀ M ∈ bs, M ∈ bs') {f : Fl} {c : Ev} (h : FlQ np om rf o bs w nxK f c) : FlQ np om rf o' bs' (bdS w K) K f c := by
  cases f with
  | nx =>
    obtain ⟨M, p, h1, h2, h3⟩ := h
    obtain ⟨M', q1, q2⟩ := ho M p c h1 h2
    exact ⟨M', p, q1, q2, by rw [h3]; rfl⟩
  | bk =>
    obtain ⟨M, p, h1, h2, h3⟩ := h
    exact ⟨M, p, hb M h1, h2, by rw [h3]; rfl⟩
  | ct =>
    obtain ⟨M, p, h1, h2, h3⟩ := h
    exact ⟨M, p, hb M h1, h2, by rw [h3]; rfl⟩
  | rt r =>
    obtain ⟨p, h1, h2, h3, h4⟩ := h
    exact ⟨p, h1, h2, h3, by rw [h4]; rfl⟩
theorem ss_pass : SS cf cp sg np om rf nl fuel .pass := fun M o bs hk p c K R => by
  cases hk
  exact .ok ⟨M, p, rfl, R, rfl⟩
theorem ss_brk : SS cf cp sg np om rf nl fuel .brk := fun M o bs hk p c K R => by
  cases hk
  exact .ok ⟨M, p, List.mem_singleton.mpr rfl, R, rfl⟩
theorem ss_cont : SS cf cp sg np om rf nl fuel .cont := fun M o bs hk p c K R => by
  cases hk
  exact .ok ⟨M, p, List.mem_singleton.mpr rfl, R, rfl⟩
theorem ss_raise (x : Nat) : SS cf cp sg np om rf nl fuel (.raise x) := fun M o bs hk p c K R => .inr (.inr ⟨x, c, rfl, rfl, .refl⟩)
theorem sss_nil : SSs cf cp sg np om rf nl fuel [] := fun M o bs hk p c K R => by
  cases hk
  exact .ok ⟨M, p, rfl, R, rfl⟩
theorem flq_mono {o : Option Ms} {bs bs' : List Ms} {w w' : RF} {K K' : PEnv → RF} {f : Fl} {c : Ev} (hf : f ≠ .nx) (hb : ∀ M ∈ bs, M ∈ bs') (e : w = w') {o' : Option Ms} (h : FlQ np om rf o bs w K f c) : FlQ np om rf o' bs' w' K' f c := by
  subst e
  cases f with
  | nx => exact absurd rfl hf
  | bk => obtain ⟨M, p, h1, h2, h3⟩ := h; exact ⟨M, p, hb M h1, h2, h3⟩
  | ct => obtain ⟨M, p, h1, h2, h3⟩ := h; exact ⟨M, p, hb M h1, h2, h3⟩
  | rt r => exact h
theorem sss_cons {s : CS} {r : List CS} (hs : SS cf cp sg np om rf nl fuel s) (hr : SSs cf cp sg np om rf nl fuel r) : SSs cf cp sg np om rf nl fuel (s :: r) := fun M o bs hk p c K R => by
  obtain ⟨⟨o1, b1⟩, h1, hk⟩ := opt_bind hk
  dsimp only at hk
  let W := pS cp sg nl fuel s p fun p => pSs cp sg nl fuel r p K
  show Sd ((evS cf fuel s c).bind fun f e => match f with | .nx => evSs cf fuel r e | f => .ok f e) c (tchS sg s ++ tchSs sg r) W (FlQ np om rf o bs W K)
  refine (hs M o1 b1 h1 p c (fun p => pSs cp sg nl fuel r p K) R).bind fun f c1 _ hf => ?_
  have esc : ∀ f, f ≠ .nx → (∀ M ∈ b1, M ∈ bs) → FlQ np om rf o1 b1 W (fun p => pSs cp sg nl fuel r p K) f c1 → Sd (.ok f c1) c1 (tchSs sg r) W (FlQ np om rf o bs W K) := fun f hn hb h => (Sd.ok (flq_mono hn hb rfl h)).sub fun _ h => by cases h
  have hb1 : ∀ M ∈ b1, M ∈ bs := by
    intro M1 hM
    cases o1 with
    | none => cases hk; exact hM
    | some M2 =>
      obtain ⟨⟨o2, b2⟩, h2, hk⟩ := opt_map hk
      obtain ⟨rfl, rfl⟩ := Prod.mk.inj hk
      exact List.mem_append_left _ hM
  cases f with
  | nx =>
    obtain ⟨M2, p1, q1, R1, e1⟩ := hf
    subst q1
    obtain ⟨⟨o2, b2⟩, h2, hk⟩ := opt_map hk
    obtain ⟨rfl, rfl⟩ := Prod.mk.inj hk
    have e1' : W = _ := e1
    rw [e1', e1]
    refine (hr M2 o2 b2 h2 p1 c1 K R1).mono fun f c2 _ hf => ?_
    cases f with
    | nx => exact hf
    | bk => obtain ⟨M, p, h1, h2, h3⟩ := hf; exact ⟨M, p, List.mem_append_right _ h1, h2, h3⟩
    | ct => obtain ⟨M, p, h1, h2, h3⟩ := hf; exact ⟨M, p, List.mem_append_right _ h1, h2, h3⟩
    | rt r => exact hf
  | bk => exact esc .bk (fun e => by cases e) hb1 hf
  | ct => exact esc .ct (fun e => by cases e) hb1 hf
  | rt r => exact esc (.rt r) (fun e => by cases e) hb1 hf
section
variable (hc : ∀ f, CalOk (cp f) (cf f) (sg f))
include hc
theorem ss_ife {q : CE} {a b : List CS} (ha : SSs cf cp sg np om rf nl fuel a) (hb : SSs cf cp sg np om rf nl fuel b) : SS cf cp sg np om rf nl fuel (.ife q a b) := fun M o bs hk p c K R => by
  obtain ⟨M0, h0, hk⟩ := opt_bind hk
  obtain ⟨⟨o1, b1⟩, h1, hk⟩ := opt_bind hk
  obtain ⟨⟨o2, b2⟩, h2, hk⟩ := opt_bind hk
  let W := pTst q (pE cp sg q p) p fun t p => if t = true then pSs cp sg nl fuel a p nxK else pSs cp sg nl fuel b p nxK
  show Sd ((tst q (evE cf q) c).bind fun t e => if t = true then evSs cf fuel a e else evSs cf fuel b e) c (tchE sg q ++ (tchSs sg a ++ tchSs sg b)) (bdS W K) (FlQ np om rf o bs (bdS W K) K)
  have key : ((∀ M p c, o1 = some M → PRel M p c → ∃ M', o = some M' ∧ PRel M' p c) ∧ ∀ M p c, o2 = some M → PRel M p c → ∃ M', o = some M' ∧ PRel M' p c) ∧ bs = b1 ++ b2 := by
    cases o1 with
    | none =>
      cases hk
      exact ⟨⟨fun _ _ _ h => (by cases h), fun M p c h R => ⟨M, h, R⟩⟩, rfl⟩
    | some x =>
      cases o2 with
      | none =>
        cases hk
        exact ⟨⟨fun M p c h R => ⟨M, h, R⟩, fun _ _ _ h => (by cases h)⟩, rfl⟩
      | some y =>
        obtain ⟨m, h3, h4⟩ := opt_map hk
        obtain ⟨rfl, rfl⟩ := Prod.mk.inj h4
        obtain ⟨x1, x2, q1, q2, u1, u2⟩ := joinR_up h3
        cases q1
        cases q2
        exact ⟨⟨fun M p c h R => (by cases h; exact ⟨m, rfl, R.up u1⟩), fun M p c h R => (by cases h; exact ⟨m, rfl, R.up u2⟩)⟩, rfl⟩
  obtain ⟨⟨k1, k2⟩, rfl⟩ := key
  refine Sd.mono (Q := fun f c' => FlQ np om rf o (b1 ++ b2) (bdS W K) K f c') (Sd.bdS ?_) fun f c' _ h => h
  refine (st_of (sE hc q) M M0 h0 p c _ R).bind fun t c1 _ ⟨p1, R1, e1⟩ => ?_
  show Sd _ c1 _ W _
  have e1' : W = _ := e1
  rw [e1']
  refine .ite (fun ht => ?_) fun ht => ?_
  · subst ht
    refine ((ha M0 o1 b1 h1 p1 c1 nxK R1).mono fun f c2 _ hf => ?_).sub fun _ h => List.mem_append_left _ h
    exact flq_join k1 (fun _ h => List.mem_append_left _ h) hf
  · subst ht
    refine ((hb M0 o2 b2 h2 p1 c1 nxK R1).mono fun f c2 _ hf => ?_).sub fun _ h => List.mem_append_right _ h
    exact flq_join k2 (fun _ h => List.mem_append_right _ h) hf
/-- a loop's turns -/
theorem sd_for {asg : D → Ev → Rs Unit} {body : Ev → Rs Fl} {st : D → PEnv → RF} {Mh : Ms} {T : List Nat} {o : Option Ms} {bs : List Ms} (hup : ∀ x ∈ o.toList ++ bs, upM x Mh = true)
    (hs : ∀ x p c, PRel Mh p c → Sd ((asg x c).bind fun _ e => body e) c T (st x p) (FlQ np om rf o bs (st x p) nxK)) :
    ∀ (items : List D) (p : PEnv) (c : Ev), PRel Mh p c → Sd (forL asg body items c) c T (pfor st items p) (FlQ np om rf (some Mh) [] (pfor st items p) nxK)
  | [], p, c, R => (Sd.ok ⟨Mh, p, rfl, R, rfl⟩).sub fun _ h => by cases h
  | x :: r, p, c, R => by
    have e0 : forL asg body (x :: r) c = ((asg x c).bind fun _ e => body e).bind fun f e => match f with
        | .nx => forL asg body r e
        | .ct => forL asg body r e
        | .bk => .ok .nx e
        | .rt v => .ok (.rt v) e := by
      rw [bind_assoc]; rfl
    rw [e0]
    have e1 : pfor st (x :: r) p = (st x p).bind fun q => match q.1 with
      | .nx => pfor st r q.2
      | .ct => pfor st r q.2
      | .bk => nxK q.2
      | .rt v => ret v q.2 := rfl
    rw [e1]
    refine (Sd.bind (T1 := T) (T2 := T) ((hs x p c R).cg (fun e => by rw [e]; rfl) fun x e => by rw [e]; rfl) fun f c1 _ hf => ?_).sub fun z hz => by
      rcases List.mem_append.mp hz with h | h <;> exact h
    cases f with
    | nx =>
      obtain ⟨M', p1, h1, R1, ef⟩ := hf
      rw [ef]
      exact sd_for hup hs r p1 c1 (R1.up (hup M' (by rw [h1]; simp)))
    | ct =>
      obtain ⟨M', p1, h1, R1, ef⟩ := hf
      rw [ef]
      exact sd_for hup hs r p1 c1 (R1.up (hup M' (by simp [h1])))
    | bk =>
      obtain ⟨M', p1, h1, R1, ef⟩ := hf
      rw [ef]
      exact (Sd.ok ⟨Mh, p1, rfl, R1.up (hup M' (by simp [h1])), rfl⟩).sub fun _ h => by cases h
    | rt v =>
      obtain ⟨p1, h1, h2, h3, ef⟩ := hf
      rw [ef]
      exact (Sd.ok ⟨p1, h1, h2, h3, rfl⟩).sub fun _ h => by cases h
theorem flq_bds {o : Option Ms} {w : RF} {K : PEnv → RF} {f : Fl} {c : Ev} {M : Ms} (h : FlQ np om rf (some M) [] w nxK f c) : FlQ np om rf (some M) [] (bdS w K) K f c :=
  flq_join (fun M' p c h R => ⟨M', h, R⟩) (fun _ h => h) h
theorem ss_for {t : Tg} {it : It} {b : List CS} (hb : SSs cf cp sg np om rf nl fuel b) : SS cf cp sg np om rf nl fuel (.for_ t it b) := fun M o bs hk p c K R => by
  have hk0 : ((chkI sg it M).bind fun M => (lpM (fun M => (chkT sg t .z M).bind fun M => chkSs sg np om rf nl b M) M 4 M).map fun M => (some M, ([] : List Ms))) = some (o, bs) := hk
  obtain ⟨M1, h1, hk⟩ := opt_bind hk0
  obtain ⟨Mh, hl, he⟩ := opt_map hk
  obtain ⟨rfl, rfl⟩ := Prod.mk.inj he
  obtain ⟨o1, b1, hs, hup, hM1⟩ := lpM_spec 4 hl
  obtain ⟨M2, h2, h3⟩ := opt_bind hs
  let st : D → PEnv → RF := fun x p => pAsg cp sg t x p fun p => pSs cp sg nl fuel b p nxK
  let W : PEnv → List D → RF := fun p items => pfor st items p
  show Sd ((evI cf it c).bind fun items e => forL (fun d e => evAsg cf t (.fz d) e) (fun e => evSs cf fuel b e) items e) c (tchI sg it ++ (tchT sg t ++ tchSs sg b)) (pI cp sg it p fun items p => bdS (W p items) K) (FlQ np om rf (some Mh) [] (pI cp sg it p fun items p => bdS (W p items) K) K)
  refine (sI hc it M M1 h1 p c _ R).bind fun items c1 _ ⟨p1, R1, e1⟩ => ?_
  rw [e1]
  refine Sd.mono (Q := fun f c' => FlQ np om rf (some Mh) [] (W p1 items) nxK f c') (Sd.bdS ?_) fun f c' _ h => flq_bds hc (o := none) h
  refine sd_for hc hup (fun x p c R => ?_) items p1 c1 (R1.up hM1)
  have hA := sT hc t Mh .z M2 h2 (.fz x) p c (fun p => pSs cp sg nl fuel b p nxK) .fz R
  refine Sd.bind (T1 := tchT sg t) (T2 := tchSs sg b) hA fun _ c2 _ ⟨p2, R2, e2⟩ => ?_
  show Sd _ _ _ (st x p) _
  have e2' : st x p = _ := e2
  rw [e2']
  exact hb M2 o1 b1 h3 p2 c2 nxK R2
theorem sd_while {cond : Ev → Rs Bool} {body : Ev → Rs Fl} {st : PEnv → RF} {Mh : Ms} {T : List Nat} {o : Option Ms} {bs : List Ms} (hup : ∀ x ∈ o.toList ++ bs, upM x Mh = true)
    (hs : ∀ p c, PRel Mh p c → Sd ((cond c).bind fun b e => if b = true then body e else .ok .bk e) c T (st p) (FlQ np om rf o bs (st p) nxK)) :
    ∀ (n : Nat) (p : PEnv) (c : Ev), PRel Mh p c → Sd (whileL cond body n c) c T (pwhile st n p) (FlQ np om rf (some Mh) [] (pwhile st n p) nxK)
  | 0, p, c, R => .er rfl
  | n + 1, p, c, R => by
    have e0 : whileL cond body (n + 1) c = ((cond c).bind fun b e => if b = true then body e else .ok .bk e).bind fun f e => match f with
        | .nx => whileL cond body n e
        | .ct => whileL cond body n e
        | .bk => .ok .nx e
        | .rt v => .ok (.rt v) e := by
      rw [bind_assoc]
      show ((cond c).bind fun b e => if b = true then (body e).bind fun f e => match f with
        | .nx => whileL cond body n e
        | .ct => whileL cond body n e
        | .bk => .ok .nx e
        | .rt v => .ok (.rt v) e
        else .ok .nx e) = _
      congr
      funext b e
      rw [bind_ite]
      rfl
    rw [e0]
    have e1 : pwhile st (n + 1) p = (st p).bind fun q => match q.1 with
      | .nx => pwhile st n q.2
      | .ct => pwhile st n q.2
      | .bk => nxK q.2
      | .rt v => ret v q.2 := rfl
    rw [e1]
    refine (Sd.bind (T1 := T) (T2 := T) ((hs p c R).cg (fun e => by rw [e]; rfl) fun x e => by rw [e]; rfl) fun f c1 _ hf => ?_).sub fun z hz => by
      rcases List.mem_append.mp hz with h | h <;> exact h
    cases f with
    | nx =>
      obtain ⟨M', p1, h1, R1, ef⟩ := hf
      rw [ef]
      exact sd_while hup hs n p1 c1 (R1.up (hup M' (by rw [h1]; simp)))
    | ct =>
      obtain ⟨M', p1, h1, R1, ef⟩ := hf
      rw [ef]
      exact sd_while hup hs n p1 c1 (R1.up (hup M' (by simp [h1])))
    | bk =>
      obtain ⟨M', p1, h1, R1, ef⟩ := hf
      rw [ef]
      exact (Sd.ok ⟨Mh, p1, rfl, R1.up (hup M' (by simp [h1])), rfl⟩).sub fun _ h => by cases h
    | rt v =>
      obtain ⟨p1, h1, h2, h3, ef⟩ := hf
      rw [ef]
      exact (Sd.ok ⟨p1, h1, h2, h3, rfl⟩).sub fun _ h => by cases h
theorem ss_while {q : CE} {b : List CS} (hb : SSs cf cp sg np om rf nl fuel b) : SS cf cp sg np om rf nl fuel (.while_ q b) := fun M o bs hk p c K R => by
  have hk0 : ((lpM (fun M => (ckO q (chkE sg q M) M).bind fun M => (chkSs sg np om rf nl b M).map fun r => (r.1, M :: r.2)) M 4 M).map fun M => (some M, ([] : List Ms))) = some (o, bs) := hk
  obtain ⟨Mh, hl, he⟩ := opt_map hk0
  obtain ⟨rfl, rfl⟩ := Prod.mk.inj he
  obtain ⟨o1, b1, hs, hup, hM1⟩ := lpM_spec 4 hl
  obtain ⟨M2, h2, hs⟩ := opt_bind hs
  obtain ⟨⟨o3, b3⟩, h3, hs⟩ := opt_map hs
  obtain ⟨rfl, rfl⟩ := Prod.mk.inj hs
  let st : PEnv → RF := fun p => pTst q (pE cp sg q p) p fun t p => if t = true then pSs cp sg nl fuel b p nxK else .ok (.bk, p)
  show Sd (whileL (fun e => tst q (evE cf q) e) (fun e => evSs cf fuel b e) fuel c) c (tchE sg q ++ tchSs sg b) (bdS (pwhile st fuel p) K) (FlQ np om rf (some Mh) [] (bdS (pwhile st fuel p) K) K)
  refine Sd.mono (Q := fun f c' => FlQ np om rf (some Mh) [] (pwhile st fuel p) nxK f c') (Sd.bdS ?_) fun f c' _ h => flq_bds hc (o := none) h
  refine sd_while hc hup (fun p c R => ?_) fuel p c (R.up hM1)
  have hA := st_of (sE hc q) Mh M2 h2 p c (fun t p => if t = true then pSs cp sg nl fuel b p nxK else .ok (.bk, p)) R
  refine Sd.bind (T1 := tchE sg q) (T2 := tchSs sg b) hA fun t c2 _ ⟨p2, R2, e2⟩ => ?_
  show Sd _ _ _ (st p) _
  have e2' : st p = _ := e2
  rw [e2']
  refine .ite (fun ht => ?_) fun ht => ?_
  · subst ht
    refine (hb M2 o3 b3 h3 p2 c2 nxK R2).mono fun f c3 _ hf => ?_
    cases f with
    | nx => exact hf
    | bk => obtain ⟨M, p, h1, h2, h3⟩ := hf; exact ⟨M, p, List.mem_cons_of_mem _ h1, h2, h3⟩
    | ct => obtain ⟨M, p, h1, h2, h3⟩ := hf; exact ⟨M, p, List.mem_cons_of_mem _ h1, h2, h3⟩
    | rt r => exact hf
  · subst ht
    exact (Sd.ok ⟨M2, p2, List.mem_cons_self, R2, rfl⟩).sub fun _ h => by cases h
mutual
theorem sS : ∀ s : CS, SS cf cp sg np om rf nl fuel s
  | .asg t a => ss_asg hc t a
  | .par ts es => ss_par hc ts es
  | .aug i o a => ss_aug hc i o a
  | .ex a => ss_ex hc a
  | .ret a => ss_ret hc a
  | .ife q a b => ss_ife hc (sSs a) (sSs b)
  | .while_ q b => ss_while hc (sSs b)
  | .for_ t it b => ss_for hc (sSs b)
  | .pass => ss_pass
  | .brk => ss_brk
  | .cont => ss_cont
  | .raise x => ss_raise x
theorem sSs : ∀ ss : List CS, SSs cf cp sg np om rf nl fuel ss
  | [] => sss_nil
  | s :: r => sss_cons (sS s) (sSs r)
end
end
/-! ### defs -/
theorem pmOk_len : ∀ {a b : Ms}, pmOk a b = true → a.length = b.length
  | [], [], _ => rfl
  | [], _ :: _, h => by cases h
  | _ :: _, [], h => by cases h
  | a :: r, b :: s, h => by
    have h' : (_ && pmOk r s) = true := h
    rw [Bool.and_eq_true] at h'
    simp [pmOk_len h'.2]
theorem pmOk_at : ∀ {a b : Ms}, pmOk a b = true → ∀ j, j < a.length → (a.getD j .sv = .sv ∨ a.getD j .sv = .le ∨ a.getD j .sv = .rn ∨ a.getD j .sv = .ro)
  | [], [], _, j, hj => by cases hj
  | [], _ :: _, h, _, _ => by cases h
  | _ :: _, [], h, _, _ => by cases h
  | a :: r, b :: s, h, j, hj => by
    have h' : (_ && pmOk r s) = true := h
    rw [Bool.and_eq_true] at h'
    cases j with
    | zero => cases a <;> first | (simp; done) | (cases b <;> cases h'.1)
    | succ j => exact pmOk_at h'.2 j (by simpa using hj)
theorem mask_len : ∀ {pm : List Am} {p : PEnv}, pm.length ≤ p.length → (maskP pm p).length = pm.length
  | [], p, _ => by cases p <;> rfl
  | _ :: _, [], h => by cases h
  | m :: pm, o :: p, h => by
    show (_ :: maskP pm p).length = _
    simp [mask_len (pm := pm) (p := p) (by simpa using h)]
theorem mask_look : ∀ {pm : List Am} {p : PEnv} {j : Nat} {x : D}, pLook (maskP pm p) j = some x → pLook p j = some x
  | [], p, j, x, h => by cases p <;> cases h
  | _ :: _, [], j, x, h => by cases h
  | m :: pm, o :: p, 0, x, h => by cases m <;> first | exact h | cases h
  | m :: pm, o :: p, j + 1, x, h => mask_look (pm := pm) (p := p) (j := j) h
theorem outOk_wk : ∀ {ss e : List Sl}, ss.length ≤ e.length → (∀ (j : Nat) (s : Sl), ss[j]? = some s → ∃ s', e[j]? = some s' ∧ ((∃ b d, s = Sl.mu b d) → (∃ d, s' = Sl.mu true d) ∨ ∃ d, s' = Sl.frz d)) → outOk ss e = true
  | [], _, _, _ => by unfold outOk; rfl
  | s :: ss, [], h, _ => by cases h
  | s :: ss, t :: e, hl, h => by
    have ih := outOk_wk (ss := ss) (e := e) (by simpa using hl) fun j s q => h (j + 1) s q
    obtain ⟨s', q, hq⟩ := h 0 s rfl
    cases q
    cases s with
    | mu b d => rcases hq ⟨b, d, rfl⟩ with ⟨d', rfl⟩ | ⟨d', rfl⟩ <;> exact ih
    | un => cases t <;> exact ih
    | val d => cases t <;> exact ih
    | frz d => cases t <;> exact ih
theorem fd_ok (hc : ∀ f, CalOk (cp f) (cf f) (sg f)) {g : Sig} {fd : FD} (h : chkF sg g fd = true) : CalOk (runP cp sg g fuel fd) (runD cf fuel fd) g := by
  intro as ss la lp sl
  unfold chkF at h
  rw [Bool.and_eq_true, Bool.and_eq_true, Bool.and_eq_true, Bool.and_eq_true, decide_eq_true_eq, decide_eq_true_eq] at h
  obtain ⟨⟨⟨⟨h1, h2⟩, h3⟩, h4⟩, h5⟩ := h
  have lss : ss.length = fd.np := lp.trans h1
  have las : as.length = fd.np := la.trans lss
  unfold runP runD
  rw [if_pos las, if_pos lss]
  let c0 : Ev := ss ++ List.replicate (fd.nl - fd.np) .un
  let p0 : PEnv := as.map some ++ List.replicate (fd.nl - fd.np) none
  let M0 : Ms := g.pm ++ List.replicate (fd.nl - fd.np) .sv
  have R0 : PRel M0 p0 c0 := by
    refine ⟨by simp [p0, c0, la], by simp [M0, c0, lp], fun i s e => ?_⟩
    by_cases hi : i < ss.length
    · have e' : ss[i]? = some s := by rw [List.getElem?_append_left hi] at e; exact e
      have := sl i s e'
      have q1 : M0.getD i .sv = g.pm.getD i .sv := by
        rw [List.getD_eq_getElem?_getD, List.getD_eq_getElem?_getD, List.getElem?_append_left (by omega)]
      have q2 : pLook p0 i = pLook (as.map some) i := by
        unfold pLook
        rw [List.getElem?_append_left (by simp; omega)]
      rw [q1, q2]
      exact this
    · rw [List.getElem?_append_right (by omega), List.getElem?_replicate] at e
      split at e <;> cases e
      have q1 : M0.getD i .sv = .sv := by
        rw [List.getD_eq_getElem?_getD, List.getElem?_append_right (by omega), List.getElem?_replicate]
        split <;> rfl
      have q2 : pLook p0 i = none := by
        unfold pLook
        rw [List.getElem?_append_right (by simp; omega), List.getElem?_replicate]
        split
        · rename_i o e
          split at e <;> cases e
          rfl
        · rfl
      rw [q1, q2]
      exact ⟨rfl, fun x hx => by cases hx⟩
  have nomf : ∀ j s, ss[j]? = some s → (∀ d, s ≠ .frz d ∨ g.pm.getD j .sv = .ro) ∧ ((∃ b d, s = .mu b d) → ∃ d, s = .mu true d) := by
    intro j s e
    have hj : j < g.pm.length := by rw [← lp]; exact (List.getElem?_eq_some_iff.mp e).1
    have q := (sl j s e).1
    rcases pmOk_at h2 j hj with m | m | m | m <;> rw [m] at q ⊢ <;> refine ⟨fun d => ?_, ?_⟩
    all_goals first
      | exact .inr rfl
      | (left; rintro rfl; cases q; done)
      | (rintro ⟨b, d, rfl⟩; cases b <;> first | exact ⟨d, rfl⟩ | (cases q; done))
  have wkp : ∀ {c'}, PWk (tchSs sg fd.body) c0 c' → c'.length = c0.length ∧ WkP g.pm ss (c'.take fd.np) ∧ (outOk ss c' && decide (ss.length ≤ c'.length)) = true := by
    intro c' k
    have l0 : c0.length = ss.length + (fd.nl - fd.np) := by simp [c0]
    have at0 : ∀ {j s}, ss[j]? = some s → c0[j]? = some s := fun {j s} e => by
      have : j < ss.length := (List.getElem?_eq_some_iff.mp e).1
      show (ss ++ _)[j]? = _
      rw [List.getElem?_append_left this, e]
    refine ⟨k.1, ⟨by rw [List.length_take, k.1]; omega, fun j s e => ?_⟩, ?_⟩
    · obtain ⟨s', e', f', w'⟩ := k.2 j s (at0 e)
      have hj : j < fd.np := by rw [← lss]; exact (List.getElem?_eq_some_iff.mp e).1
      refine ⟨s', by rw [List.getElem?_take_of_lt hj]; exact e', fun hm => f' fun hmem => ?_, w'⟩
      have := List.all_eq_true.mp h4 j (List.mem_range.mpr hj)
      rcases hm with hm | hm <;> rw [hm] at this <;> simp [hmem] at this
    · rw [Bool.and_eq_true, decide_eq_true_eq]
      refine ⟨outOk_wk (by rw [k.1]; omega) fun j s e => ?_, by rw [k.1]; omega⟩
      obtain ⟨s', e', f', w'⟩ := k.2 j s (at0 e)
      refine ⟨s', e', fun hm => ?_⟩
      obtain ⟨d, rfl⟩ := (nomf j s e).2 hm
      obtain ⟨d', q | q⟩ := w'.1 d rfl
      · exact .inl ⟨d', q⟩
      · exact .inr ⟨d', q⟩
  cases hq : chkSs sg fd.np g.om g.fr g.nl fd.body (g.pm ++ List.replicate (fd.nl - fd.np) .sv) with
  | none => rw [hq] at h5; cases h5
  | some r =>
    obtain ⟨o, bs⟩ := r
    rw [hq] at h5
    cases bs with
    | cons _ _ => cases h5
    | nil =>
      have hfin : ∀ M, o = some M → retOk fd.np g.om M = true ∧ upF .z g.fr = true := by
        rintro M rfl
        have h5' : (retOk fd.np g.om M && upF .z g.fr) = true := h5
        rwa [Bool.and_eq_true] at h5'
      have outs : ∀ {p' : PEnv} {c' : Ev}, p'.length = c'.length → c'.length = c0.length → (∀ j s, j < fd.np → c'[j]? = some s → PSl (g.om.getD j .sv) (pLook p' j) s) → (maskP g.pm p').length = ss.length ∧ AllSl g.om (maskP g.pm p') (c'.take fd.np) := by
        intro p' c' l1 l2 hp
        have l0 : c0.length = ss.length + (fd.nl - fd.np) := by simp [c0]
        refine ⟨by rw [mask_len (by omega)]; exact lp.symm, fun j s e => ?_⟩
        by_cases hj : j < fd.np
        · rw [List.getElem?_take_of_lt hj] at e
          have := hp j s hj e
          refine ⟨this.1, fun x hx => this.2 x (mask_look hx)⟩
        · rw [List.getElem?_take_eq_none (by omega)] at e
          cases e
      rcases sSs (np := fd.np) (om := g.om) (rf := g.fr) (nl := g.nl) (fuel := fuel) hc fd.body M0 o [] hq p0 c0 nxK R0 with h | ⟨f, c', e, k, q⟩ | ⟨x, c', e, e2, k⟩
      · left
        show endP g.pm (pSs cp sg g.nl fuel fd.body p0 nxK) = _
        rw [h]
        rfl
      · right; left
        obtain ⟨k0, k1, k2⟩ := wkp k
        have e' : evSs cf fuel fd.body (ss ++ List.replicate (fd.nl - fd.np) .un) = .ok f c' := e
        rw [e']
        cases f with
        | bk => obtain ⟨_, _, h, _⟩ := q; cases h
        | ct => obtain ⟨_, _, h, _⟩ := q; cases h
        | nx =>
          obtain ⟨M', p', hM, R', ew⟩ := q
          have ew' : pSs cp sg g.nl fuel fd.body (as.map some ++ List.replicate (fd.nl - fd.np) none) nxK = .ok (.nx, p') := ew
          dsimp only
          rw [if_pos k2]
          obtain ⟨o1, o2⟩ := outs R'.lp k0 (ret_ok hc R' (hfin M' hM).1)
          exact ⟨_, _, _, rfl, by rw [ew']; rfl, FrOk.fz.up (hfin M' hM).2, o1, o2, k1⟩
        | rt r =>
          obtain ⟨p', lpc, hp, hf, ew⟩ := q
          have ew' : pSs cp sg g.nl fuel fd.body (as.map some ++ List.replicate (fd.nl - fd.np) none) nxK = .ok (.rt r.d, p') := ew
          dsimp only
          rw [if_pos k2]
          obtain ⟨o1, o2⟩ := outs lpc k0 hp
          exact ⟨_, _, _, rfl, by rw [ew']; rfl, hf, o1, o2, k1⟩
      · right; right
        obtain ⟨k0, k1, k2⟩ := wkp k
        have e' : evSs cf fuel fd.body (ss ++ List.replicate (fd.nl - fd.np) .un) = .ex x c' := e
        have ew' : pSs cp sg g.nl fuel fd.body (as.map some ++ List.replicate (fd.nl - fd.np) none) nxK = .ex x := e2
        rw [e', ew']
        dsimp only
        rw [if_pos k2]
        exact ⟨x, _, rfl, rfl, k1⟩
end
/-- a table of defs: what the pure layer tells of a def is what the core does -/
theorem call_okP {ft : Nat → Option FD} {sg : Nat → Sig} {fuel : Nat} (h : ∀ f fd, ft f = some fd → chkF sg (sg f) fd = true) : ∀ n f, CalOk (callP ft sg fuel n f) (callN ft fuel n f) (sg f)
  | 0, f => fun as ss _ _ _ => .inl rfl
  | n + 1, f => by
    intro as ss
    have e1 : callP ft sg fuel (n + 1) f as = (match ft f with | some fd => runP (callP ft sg fuel n) sg (sg f) fuel fd as | none => .er) := rfl
    have e2 : callN ft fuel (n + 1) f ss = (match ft f with | some fd => runD (callN ft fuel n) fuel fd ss | none => .er) := rfl
    rw [e1, e2]
    cases hf : ft f with
    | none => exact fun _ _ _ => .inl rfl
    | some fd => exact fd_ok (call_okP h n) (h f fd hf) as ss
end Cr
set_option Elab.async false
set_option linter.all false
set_option maxRecDepth 100000
set_option maxHeartbeats 4000000
/-! What comes behind may be drawn into a run's branches. -/
namespace Cr
open PySem
section
variable {cp : Nat → List D → R (D × PEnv)} {sg : Nat → Sig} {h : RF → RF}
structure Hh (h : RF → RF) : Prop where
  er : h .er = .er
  ex : ∀ x, h (.ex x) = .ex x
def NE (cp : Nat → List D → R (D × PEnv)) (sg : Nat → Sig) (h : RF → RF) (a : CE) : Prop := ∀ p K, pE cp sg a p (fun d p => h (K d p)) = h (pE cp sg a p K)
variable (H : Hh h)
include H
theorem h_onO {α : Type} {o : Option α} {k k' : α → RF} (e : ∀ a, k' a = h (k a)) : onO o k' = h (onO o k) := by
  cases o with
  | none => exact H.er.symm
  | some a => exact e a
theorem h_onR {o : Option Rv} {k k' : D → RF} (e : ∀ a, k' a = h (k a)) : onR o k' = h (onR o k) := by
  cases o with
  | none => exact H.er.symm
  | some a => exact e a.d
theorem h_onB {d : D} {k k' : Bool → RF} (e : ∀ a, k' a = h (k a)) : onB d k' = h (onB d k) := by
  cases d with
  | bool b => exact e b
  | _ => exact H.er.symm
theorem h_onI {d : D} {k k' : Int → RF} (e : ∀ a, k' a = h (k a)) : onI d k' = h (onI d k) := by
  cases d with
  | int b => exact e b
  | _ => exact H.er.symm
theorem h_onT {d : D} {k k' : List D → RF} (e : ∀ a, k' a = h (k a)) : onT d k' = h (onT d k) := by
  cases d with
  | tuple b => exact e b
  | list b => exact e b
  | _ => exact H.er.symm
theorem h_ite {q : Prop} [Decidable q] {x y : RF} {x' : RF} (e : x' = h x) (hy : y = .er) : (if q then x' else y) = h (if q then x else y) := by
  split
  · exact e
  · rw [hy, H.er]
theorem h_onC {m : R (D × PEnv)} {k k' : D → PEnv → RF} (e : ∀ d p, k' d p = h (k d p)) : onC m k' = h (onC m k) := by
  cases m with
  | ok r => exact e _ _
  | ex x => exact (H.ex x).symm
  | er => exact H.er.symm
theorem h_bdV {m : RF} {k k' : D → PEnv → RF} (e : ∀ d p, k' d p = h (k d p)) : bdV m k' = h (bdV m k) := by
  cases m with
  | ok r =>
    obtain ⟨f, p⟩ := r
    cases f with
    | rt d => exact e d p
    | _ => exact H.er.symm
  | ex x => exact (H.ex x).symm
  | er => exact H.er.symm
theorem n_pO {a : CE} (n : NE cp sg h a) {p : PEnv} {K K' : Gtr → PEnv → RF} (e : ∀ g p, K' g p = h (K g p)) : pO a (pE cp sg a p) p K' = h (pO a (pE cp sg a p) p K) := by
  have e' : K' = fun g p => h (K g p) := by funext g p; exact e g p
  subst e'
  by_cases hv : ∃ i, a = .var i
  · obtain ⟨i, rfl⟩ := hv
    exact h_onO H fun _ => rfl
  · have hn : ∀ i, a ≠ .var i := fun i e => hv ⟨i, e⟩
    rw [pO_nv hn, pO_nv hn]
    exact n p fun d p => K (fun _ => some d) p
theorem n_pE {a : CE} (n : NE cp sg h a) {p : PEnv} {K K' : D → PEnv → RF} (e : ∀ d p, K' d p = h (K d p)) : pE cp sg a p K' = h (pE cp sg a p K) := by
  have e' : K' = fun g p => h (K g p) := by funext g p; exact e g p
  subst e'
  exact n p K
theorem n_two {x y : Gtr} {p : PEnv} {f : D → D → Option Rv} {K K' : D → PEnv → RF} (e : ∀ d p, K' d p = h (K d p)) : pTwo x y p f K' = h (pTwo x y p f K) :=
  h_onO H fun _ => h_onO H fun _ => h_onR H fun _ => e _ _
theorem n_tst {a : CE} (n : NE cp sg h a) {p : PEnv} {K K' : Bool → PEnv → RF} (e : ∀ d p, K' d p = h (K d p)) : pTst a (pE cp sg a p) p K' = h (pTst a (pE cp sg a p) p K) := by
  have g1 : (pO a (pE cp sg a p) p fun g p => onO (g p) fun d => onO (truD d) fun b => K' b p) = h (pO a (pE cp sg a p) p fun g p => onO (g p) fun d => onO (truD d) fun b => K b p) :=
    n_pO H n fun _ _ => h_onO H fun _ => h_onO H fun _ => e _ _
  have g2 : (pE cp sg a p fun d p => onB d fun b => K' b p) = h (pE cp sg a p fun d p => onB d fun b => K b p) := n_pE H n fun _ _ => h_onB H fun _ => e _ _
  cases a <;> first | exact g1 | exact g2
theorem n_L : ∀ {es : List CE}, (∀ a ∈ es, NE cp sg h a) → ∀ {p : PEnv} {K K' : List D → PEnv → RF}, (∀ d p, K' d p = h (K d p)) → pL cp sg es p K' = h (pL cp sg es p K)
  | [], _, p, K, K', e => e _ _
  | a :: r, n, p, K, K', e => n_pE H (n a List.mem_cons_self) fun _ _ => n_L (fun b hb => n b (List.mem_cons_of_mem _ hb)) fun _ _ => e _ _
theorem n_G : ∀ {es : List CE}, (∀ a ∈ es, NE cp sg h a) → ∀ {p : PEnv} {K K' : List Gtr → PEnv → RF}, (∀ d p, K' d p = h (K d p)) → pG cp sg es p K' = h (pG cp sg es p K)
  | [], _, p, K, K', e => e _ _
  | a :: r, n, p, K, K', e => n_pO H (n a List.mem_cons_self) fun _ _ => n_G (fun b hb => n b (List.mem_cons_of_mem _ hb)) fun _ _ => e _ _
theorem n_P : ∀ {o : Option CE}, (∀ a, o = some a → NE cp sg h a) → ∀ {p : PEnv} {K K' : Option Int → PEnv → RF}, (∀ d p, K' d p = h (K d p)) → pOpt cp sg o p K' = h (pOpt cp sg o p K)
  | none, _, p, K, K', e => e _ _
  | some a, n, p, K, K', e => by
    show (pO a (pE cp sg a p) p fun x p => onO (x p) fun d => onI d fun i => K' (some i) p) = h (pO a (pE cp sg a p) p fun x p => onO (x p) fun d => onI d fun i => K (some i) p)
    exact n_pO H (n a rfl) fun g p => h_onO H fun d => h_onI H fun i => e _ _
def NI (cp : Nat → List D → R (D × PEnv)) (sg : Nat → Sig) (h : RF → RF) (it : It) : Prop := ∀ p (K K' : List D → PEnv → RF), (∀ d p, K' d p = h (K d p)) → pI cp sg it p K' = h (pI cp sg it p K)
def NT (cp : Nat → List D → R (D × PEnv)) (sg : Nat → Sig) (h : RF → RF) (t : Tg) : Prop := ∀ d p (K K' : PEnv → RF), (∀ p, K' p = h (K p)) → pAsg cp sg t d p K' = h (pAsg cp sg t d p K)
theorem n_As : ∀ {ts : List Tg}, (∀ t ∈ ts, NT cp sg h t) → ∀ {ds : List D} {p : PEnv} {K K' : PEnv → RF}, (∀ p, K' p = h (K p)) → pAsgs cp sg ts ds p K' = h (pAsgs cp sg ts ds p K)
  | [], _, [], p, K, K', e => e _
  | [], _, _ :: _, p, K, K', e => H.er.symm
  | _ :: _, _, [], p, K, K', e => H.er.symm
  | t :: ts, n, d :: ds, p, K, K', e => n t List.mem_cons_self d p _ _ fun _ => n_As (fun b hb => n b (List.mem_cons_of_mem _ hb)) fun _ => e _
mutual
theorem nE : ∀ a : CE, NE cp sg h a
  | .k d => fun p K => rfl
  | .edict => fun p K => rfl
  | .glob d => fun p K => rfl
  | .var i => fun p K => h_onO H fun _ => rfl
  | .tup es => fun p K => n_L H (nEs es) fun _ _ => rfl
  | .lst es => fun p K => n_L H (nEs es) fun _ _ => rfl
  | .bin _ a b => fun p K => n_pO H (nE a) fun _ _ => n_pO H (nE b) fun _ _ => n_two H fun _ _ => rfl
  | .neg a => fun p K => n_pO H (nE a) fun _ _ => h_onO H fun _ => h_onI H fun _ => rfl
  | .cmp _ a b => fun p K => n_pO H (nE a) fun _ _ => n_pO H (nE b) fun _ _ => n_two H fun _ _ => rfl
  | .chain _ _ a b d => fun p K => h_bdV H fun _ _ => rfl
  | .and_ a b => fun p K => h_bdV H fun _ _ => rfl
  | .or_ a b => fun p K => h_bdV H fun _ _ => rfl
  | .not_ a => fun p K => n_pE H (nE a) fun _ _ => h_onB H fun _ => rfl
  | .ife q a b => fun p K => h_bdV H fun _ _ => rfl
  | .idx a b => fun p K => n_pO H (nE a) fun _ _ => n_pO H (nE b) fun _ _ => n_two H fun _ _ => rfl
  | .slc a lo hi => fun p K => n_pO H (nE a) fun _ _ => n_P H (nEo lo) fun _ _ => n_P H (nEo hi) fun _ _ => h_onO H fun _ => h_onR H fun _ => rfl
  | .rev a => fun p K => n_pO H (nE a) fun _ _ => h_onO H fun _ => h_onR H fun _ => rfl
  | .call f es => fun p K => n_G H (nEs es) fun _ _ => h_onO H fun _ => h_onC H fun _ _ => rfl
  | .call1 f a => fun p K => n_pE H (nE a) fun _ _ => h_onC H fun _ _ => rfl
  | .callk f _ es ks => fun p K => n_G H (nEs es) fun _ _ => n_G H (nEs ks) fun _ _ => h_onO H fun _ => h_onO H fun _ => h_onC H fun _ _ => rfl
  | .isi a _ => fun p K => n_pO H (nE a) fun _ _ => h_onO H fun _ => rfl
  | .blt _ es => fun p K => n_G H (nEs es) fun _ _ => h_onO H fun _ => h_onR H fun _ => rfl
  | .vm _ a es => fun p K => n_pO H (nE a) fun _ _ => h_onO H fun _ => h_ite H (n_G H (nEs es) fun _ _ => h_onO H fun _ => h_onR H fun _ => rfl) rfl
  | .mm _ _ es => fun p K => h_onO H fun _ => h_ite H (n_L H (nEs es) fun _ _ => h_onO H fun _ => h_onO H fun _ => rfl) rfl
  | .comp _ t it q f => fun p K => nI it p _ _ fun _ _ => h_bdV H fun _ _ => rfl
theorem nEs : ∀ es : List CE, ∀ a ∈ es, NE cp sg h a
  | [], _, m => by cases m
  | b :: r, a, m => by
    rcases List.mem_cons.mp m with e | m
    · rw [e]; exact nE b
    · exact nEs r a m
theorem nEo : ∀ o : Option CE, ∀ a, o = some a → NE cp sg h a
  | none, _, m => by cases m
  | some b, a, m => by cases m; exact nE b
theorem nI : ∀ it : It, NI cp sg h it
  | .over a => fun p K K' e => by
    refine n_pE H (nE a) (fun d p => ?_)
    exact h_onO H fun l => e _ _
  | .range1 a => fun p K K' e => by
    show (pO a (pE cp sg a p) p fun x p => onO (x p) fun d => onI d fun b => if ok63 b = true then K' (rangeD 0 b) p else .er) = h (pO a (pE cp sg a p) p fun x p => onO (x p) fun d => onI d fun b => if ok63 b = true then K (rangeD 0 b) p else .er)
    exact n_pO H (nE a) fun g p => h_onO H fun d => h_onI H fun i => h_ite H (e _ _) rfl
  | .range2 a b => fun p K K' e => by
    show (pO a (pE cp sg a p) p fun x p => pO b (pE cp sg b p) p fun y p => onO (x p) fun d => onI d fun i => onO (y p) fun d => onI d fun j => if ok63 i = true ∧ ok63 j = true then K' (rangeD i j) p else .er) = h (pO a (pE cp sg a p) p fun x p => pO b (pE cp sg b p) p fun y p => onO (x p) fun d => onI d fun i => onO (y p) fun d => onI d fun j => if ok63 i = true ∧ ok63 j = true then K (rangeD i j) p else .er)
    exact n_pO H (nE a) fun g p => n_pO H (nE b) fun g2 p => h_onO H fun d => h_onI H fun i => h_onO H fun d => h_onI H fun j => h_ite H (e _ _) rfl
  | .enum a => fun p K K' e => by
    refine n_pE H (nE a) (fun d p => ?_)
    exact h_onO H fun l => e _ _
  | .zip a b => fun p K K' e => by
    refine n_pE H (nE a) (fun d p => ?_)
    refine n_pE H (nE b) (fun d p => ?_)
    refine h_onO H fun l => ?_
    exact h_onO H fun l => e _ _
theorem nT : ∀ t : Tg, NT cp sg h t
  | .name i => fun d p K K' e => e _
  | .tup ts => fun d p K K' e => by
    refine h_onT H fun l => ?_
    exact h_ite H (n_As H (nTs ts) e) rfl
  | .sub _ a => fun d p K K' e => by
    refine h_onO H fun l => ?_
    refine h_ite H ?_ rfl
    refine n_pO H (nE a) (fun g p => ?_)
    refine h_onO H fun l => ?_
    refine h_onO H fun l => ?_
    exact h_onO H fun l => e _
theorem nTs : ∀ ts : List Tg, ∀ t ∈ ts, NT cp sg h t
  | [], _, m => by cases m
  | b :: r, a, m => by
    rcases List.mem_cons.mp m with e | m
    · rw [e]; exact nT b
    · exact nTs r a m
end
end
section
variable {cp : Nat → List D → R (D × PEnv)} {sg : Nat → Sig} {nl : List Nat} {fuel : Nat} {K0 : PEnv → RF}
theorem Hb : Hh fun m => bdS m K0 := ⟨rfl, fun _ => rfl⟩
def NS (cp : Nat → List D → R (D × PEnv)) (sg : Nat → Sig) (nl : List Nat) (fuel : Nat) (K0 : PEnv → RF) (s : CS) : Prop := ∀ p (K K' : PEnv → RF), (∀ p, K' p = bdS (K p) K0) → pS cp sg nl fuel s p K' = bdS (pS cp sg nl fuel s p K) K0
theorem bds_bds {m : RF} {K K' : PEnv → RF} (e : ∀ p, K' p = bdS (K p) K0) : bdS m K' = bdS (bdS m K) K0 := by
  cases m with
  | ok r =>
    obtain ⟨f, p⟩ := r
    cases f with
    | nx => exact e p
    | _ => rfl
  | ex x => rfl
  | er => rfl
theorem nS : ∀ s : CS, NS cp sg nl fuel K0 s
  | .asg t a => fun p K K' e => by
    refine n_pE Hb (nE Hb a) (fun d p => ?_)
    exact h_ite Hb (nT Hb t _ _ _ _ e) rfl
  | .par ts es => fun p K K' e => by
    refine n_L Hb (nEs Hb es) (fun d p => ?_)
    refine h_ite Hb ?_ rfl
    exact h_ite Hb (n_As Hb (nTs Hb ts) e) rfl
  | .aug i o a => fun p K K' e => by
    refine h_onO Hb fun d => ?_
    refine h_onI Hb fun d => ?_
    refine n_pO Hb (nE Hb a) (fun g p => ?_)
    refine h_onO Hb fun d => ?_
    refine h_onI Hb fun d => ?_
    cases o <;> first | exact e _ | rfl
  | .ex a => fun p K K' e => by
    exact n_pE Hb (nE Hb a) (fun d p => e _)
  | .ret a => fun p K K' e => n_pE Hb (nE Hb a) fun _ _ => rfl
  | .ife q a b => fun p K K' e => bds_bds e
  | .while_ q b => fun p K K' e => bds_bds e
  | .for_ t it b => fun p K K' e => by
    exact nI Hb it p _ _ fun _ _ => bds_bds e
  | .pass => fun p K K' e => e p
  | .brk => fun p K K' e => rfl
  | .cont => fun p K K' e => rfl
  | .raise x => fun p K K' e => rfl
theorem nSs : ∀ (ss : List CS) p (K K' : PEnv → RF), (∀ p, K' p = bdS (K p) K0) → pSs cp sg nl fuel ss p K' = bdS (pSs cp sg nl fuel ss p K) K0
  | [], p, K, K', e => e p
  | s :: r, p, K, K', e => nS s p _ _ fun p => nSs r p K K' e
theorem bds_in (ss : List CS) (p : PEnv) (K : PEnv → RF) : bdS (pSs cp sg nl fuel ss p nxK) K = pSs cp sg nl fuel ss p K := (nSs ss p nxK K fun _ => rfl).symm
end
end Cr
set_option Elab.async false
set_option linter.all false
set_option maxRecDepth 100000
set_option maxHeartbeats 4000000
/-! Typed runs: plain Lean functions beside the pure layer's runs. -/
namespace Cr
open PySem
/-! ### values -/
abbrev eL {α : Type} (f : α → D) (xs : List α) : D := .list (xs.map f)
abbrev eT {α : Type} (f : α → D) (xs : List α) : D := .tuple (xs.map f)
abbrev e2 {α β : Type} (f : α → D) (g : β → D) (p : α × β) : D := .tuple [f p.1, g p.2]
abbrev e3 {α β γ : Type} (f : α → D) (g : β → D) (h : γ → D) (p : α × β × γ) : D := .tuple [f p.1, g p.2.1, h p.2.2]
abbrev e4 {α β γ δ : Type} (f : α → D) (g : β → D) (h : γ → D) (k : δ → D) (p : α × β × γ × δ) : D := .tuple [f p.1, g p.2.1, h p.2.2.1, k p.2.2.2]
def eO {α : Type} (f : α → D) : Option α → D
  | none => .none
  | some a => f a
abbrev eN (_ : Unit) : D := .none
abbrev eD (d : D) : D := d
/-! ### operations that may fail -/
def ofO {α : Type} (o : Option α) : R α := match o with | some a => .ok a | none => .er
@[irreducible] def mulR (a b : Int) : R Int := if mulOk a b = true then .ok (a * b) else .er
@[irreducible] def divR (a b : Int) : R Int := if 0 < b ∧ b.natAbs.log2 < 9000 then .ok (a / b) else .er
@[irreducible] def modR (a b : Int) : R Int := if 0 < b then .ok (a % b) else .er
@[irreducible] def powR (a b : Int) : R Int := if 0 ≤ b ∧ b ≤ 1000 ∧ a.natAbs < 2 ^ 64 then .ok (a ^ b.toNat) else .er
@[irreducible] def catR {α : Type} (a b : List α) : R (List α) := if a.length + b.length ≤ sizeLine then .ok (a ++ b) else .er
@[irreducible] def catS (a b : Str) : R Str := if a.length + b.length ≤ sizeLine then .ok (a ++ b) else .er
@[irreducible] def repR {α : Type} (a : List α) (k : Int) : R (List α) := if k < 1000000 ∧ -1000000 < k ∧ a.length * k.toNat ≤ sizeLine then .ok (List.replicate k.toNat a).flatten else .er
def atR {α : Type} (a : List α) (i : Int) : R α := ofO (L2.atI a i)
@[irreducible] def appR {α : Type} (a : List α) (x : α) : R (List α) := if a.length < sizeLine then .ok (a ++ [x]) else .er
@[irreducible] def extR {α : Type} (a b : List α) : R (List α) := if a.length + b.length ≤ sizeLine then .ok (a ++ b) else .er
def popR {α : Type} (a : List α) : R (List α × α) := match a[a.length - 1]? with | some y => .ok (a.dropLast, y) | none => .er
def popAtR {α : Type} (a : List α) (i : Int) : R (List α × α) := if -(2 ^ 63) ≤ i ∧ i < 2 ^ 63 then (match L2.ixN a.length i with | some k => (match a[k]? with | some y => .ok (a.eraseIdx k, y) | none => .er) | none => .er) else .er
def putR {α : Type} (a : List α) (i : Int) (x : α) : R (List α) := match L2.ixN a.length i with | some j => .ok (a.set j x) | none => .er
def minR (a : List Int) : R Int := ofO (minI a)
def maxR (a : List Int) : R Int := ofO (maxI a)
@[irreducible] def sortR (a : List Int) : R (List Int) := if a.length < 64 then .ok (sortI a) else .er
def rngI (a b : Int) : List Int := (List.range (b - a).toNat).map fun (i : Nat) => a + (i : Int)
@[irreducible] def rng1R (b : Int) : R (List Int) := if ok63 b = true then .ok (rngI 0 b) else .er
@[irreducible] def rng2R (a b : Int) : R (List Int) := if ok63 a = true ∧ ok63 b = true then .ok (rngI a b) else .er
@[irreducible] def reprR (d : D) : R Str := if d.showable = true ∧ d.shown.length ≤ sizeLine ∧ d.depth ≤ 60 then .ok d.shown else .er
def eqR (a b : D) : R Bool := ofO (eqD a b)
def neR (a b : D) : R Bool := ofO ((eqD a b).map (!·))
def cmpR (o : CmpOp) (a b : D) : R Bool := ofO (cmpD o a b)
def rvR (o : Option Rv) : R D := match o with | some r => .ok r.d | none => .er
def truR (d : D) : R Bool := ofO (truD d)
def intR : D → R Int
  | .int i => .ok i
  | _ => .er
def boolR : D → R Bool
  | .bool i => .ok i
  | _ => .er
def tupR (n : Nat) : D → R (List D)
  | .tuple l => if l.length = n then .ok l else .er
  | .list l => if l.length = n then .ok l else .er
  | _ => .er
def seqR (d : D) : R (List D) := ofO (itD d)
def enumT {α : Type} (a : List α) : List (Int × α) := a.zipIdx.map fun p => ((p.2 : Int), p.1)
/-- a loop's turn: on, out, back from the def -/
inductive Lp (σ ρ : Type) where
  | nx (s : σ)
  | bk (s : σ)
  | rt (r : ρ)
def noX {α : Type} : R α → R α
  | .ok a => .ok a
  | _ => .er
def forT {σ α : Type} (f : σ → α → R σ) : List α → σ → R σ
  | [], s => .ok s
  | x :: r, s => (f s x).bind fun s => forT f r s
def forF {σ ρ α : Type} (f : σ → α → R (Lp σ ρ)) : List α → σ → R (Lp σ ρ)
  | [], s => .ok (.nx s)
  | x :: r, s => (f s x).bind fun q => match q with
    | .nx s => forF f r s
    | .bk s => .ok (.nx s)
    | .rt v => .ok (.rt v)
def whileT {σ : Type} (f : σ → R (Lp σ Empty)) : Nat → σ → R σ
  | 0, _ => .er
  | n + 1, s => (f s).bind fun q => match q with
    | .nx s => whileT f n s
    | .bk s => .ok s
def whileF {σ ρ : Type} (f : σ → R (Lp σ ρ)) : Nat → σ → R (Lp σ ρ)
  | 0, _ => .er
  | n + 1, s => (f s).bind fun q => match q with
    | .nx s => whileF f n s
    | .bk s => .ok (.nx s)
    | .rt v => .ok (.rt v)
def mapG {α β : Type} (f : α → R β) : List α → R (List β)
  | [] => .ok []
  | x :: r => (f x).bind fun y => (mapG f r).bind fun ys => .ok (y :: ys)
def filG {α β : Type} (f : α → R (Option β)) : List α → R (List β)
  | [] => .ok []
  | x :: r => (f x).bind fun y => (filG f r).bind fun ys => .ok (match y with | some y => y :: ys | none => ys)
def mapSG {σ α β : Type} (f : σ → α → R (β × σ)) : List α → σ → R (List β × σ)
  | [], s => .ok ([], s)
  | x :: r, s => (f s x).bind fun q => (mapSG f r q.2).bind fun ys => .ok (q.1 :: ys.1, ys.2)
def filSG {σ α β : Type} (f : σ → α → R (Option β × σ)) : List α → σ → R (List β × σ)
  | [], s => .ok ([], s)
  | x :: r, s => (f s x).bind fun q => (filSG f r q.2).bind fun ys => .ok ((match q.1 with | some y => y :: ys.1 | none => ys.1), ys.2)
/-- list comprehensions -/
def mapR {α β : Type} (xs : List α) (f : α → R β) : R (List β) := if xs.length ≤ sizeLine then noX (mapG f xs) else .er
def filR {α β : Type} (xs : List α) (f : α → R (Option β)) : R (List β) := if xs.length ≤ sizeLine then noX (filG f xs) else .er
def mapS {σ α β : Type} (xs : List α) (s : σ) (f : σ → α → R (β × σ)) : R (List β × σ) := if xs.length ≤ sizeLine then noX (mapSG f xs s) else .er
def filS {σ α β : Type} (xs : List α) (s : σ) (f : σ → α → R (Option β × σ)) : R (List β × σ) := if xs.length ≤ sizeLine then noX (filSG f xs s) else .er
/-! ### beside one another -/
def Sim {α β : Type} (p : R α) (t : R β) (Φ : β → α → Prop) : Prop := match t with
  | .ok b => ∃ a, p = .ok a ∧ Φ b a
  | .ex x => p = .ex x
  | .er => True
section
variable {α β γ : Type} {p : R α} {t : R β} {Φ : β → α → Prop}
theorem Sim.bind' {δ : Type} {f : α → R γ} {g : β → R δ} {Ψ : δ → γ → Prop} (h : Sim p t Φ) (k : ∀ b a, Φ b a → Sim (f a) (g b) Ψ) : Sim (p.bind f) (t.bind g) Ψ := by
  cases t with
  | ok b =>
    obtain ⟨a, rfl, q⟩ := h
    exact k b a q
  | ex x => have h' : p = .ex x := h; subst h'; exact rfl
  | er => trivial
theorem Sim.mono' {Ψ : β → α → Prop} (h : Sim p t Φ) (k : ∀ b a, Φ b a → Ψ b a) : Sim p t Ψ := by
  cases t with
  | ok b => obtain ⟨a, e, q⟩ := h; exact ⟨a, e, k b a q⟩
  | ex x => exact h
  | er => trivial
theorem Sim.er' : Sim p (.er : R β) Φ := trivial
end
section
variable {cp : Nat → List D → R (D × PEnv)} {sg : Nat → Sig} {nl : List Nat} {fuel : Nat} {β : Type} {T : R β} {Φ : β → PF → Prop} {p : PEnv}
theorem onO_s {α : Type} {a : α} {k : α → RF} : onO (some a) k = k a := rfl
theorem onR_s {v : Rv} {k : D → RF} : onR (some v) k = k v.d := rfl
/-! ### expressions that give a value at once -/
def PV (cp : Nat → List D → R (D × PEnv)) (sg : Nat → Sig) (p : PEnv) (e : CE) (d : D) : Prop := ∀ K, pE cp sg e p K = K d p
theorem pv_k {d : D} : PV cp sg p (.k d) d := fun K => rfl
theorem pv_g {d : D} : PV cp sg p (.glob d) d := fun K => rfl
theorem pv_ed : PV cp sg p .edict (.dict []) := fun K => rfl
theorem pv_v {i : Nat} {d : D} (h : pLook p i = some d) : PV cp sg p (.var i) d := fun K => by
  show onO (pLook p i) _ = _
  rw [h]; rfl
theorem pv_look {i : Nat} {d : D} (h : PV cp sg p (.var i) d) : pLook p i = some d := by
  have := h ret
  have this : onO (pLook p i) (fun d => ret d p) = ret d p := this
  cases q : pLook p i with
  | none => rw [q] at this; cases this
  | some x => rw [q] at this; cases this; rfl
theorem ov {a : CE} {d : D} (h : PV cp sg p a d) {K : Gtr → PEnv → RF} {r : RF} (k : ∀ g, g p = some d → K g p = r) : pO a (pE cp sg a p) p K = r := by
  by_cases hv : ∃ i, a = .var i
  · obtain ⟨i, rfl⟩ := hv
    have e := pv_look h
    show onO (pLook p i) _ = _
    rw [e]
    exact k _ e
  · have hn : ∀ i, a ≠ .var i := fun i e => hv ⟨i, e⟩
    rw [pO_nv hn, h]
    exact k _ rfl
theorem pv_bin {o : Operator} {a b : CE} {x y d : D} (ha : PV cp sg p a x) (hb : PV cp sg p b y) (h : binD o x y = some (.fz d)) : PV cp sg p (.bin o a b) d := fun K =>
  ov ha fun g1 e1 => ov hb fun g2 e2 => by simp only [pTwo, e1, e2, onO, onR, h]; rfl
theorem pv_add {a b : CE} {x y : Int} (ha : PV cp sg p a (.int x)) (hb : PV cp sg p b (.int y)) : PV cp sg p (.bin .Add a b) (.int (x + y)) := pv_bin ha hb rfl
theorem pv_sub {a b : CE} {x y : Int} (ha : PV cp sg p a (.int x)) (hb : PV cp sg p b (.int y)) : PV cp sg p (.bin .Sub a b) (.int (x - y)) := pv_bin ha hb rfl
theorem pv_neg {a : CE} {x : Int} (ha : PV cp sg p a (.int x)) : PV cp sg p (.neg a) (.int (-x)) := fun K =>
  ov ha fun g e => by rw [e]; rfl
theorem pv_cmp {o : CmpOp} {a b : CE} {x y : D} {t : Bool} (ha : PV cp sg p a x) (hb : PV cp sg p b y) (h : cmpD o x y = some t) : PV cp sg p (.cmp o a b) (.bool t) := fun K =>
  ov ha fun g1 e1 => ov hb fun g2 e2 => by simp only [pTwo, e1, e2, onO, onR, h, Option.map]; rfl
theorem eqI (x y : Int) : cmpD .Eq (.int x) (.int y) = some (decide (x = y)) := by
  show (if SeqAt.shaped (.int x) = true ∧ SeqAt.shaped (.int y) = true then some (PyData.eqv (.int x) (.int y)) else none) = _
  rw [if_pos ⟨rfl, rfl⟩]
  congr 1
theorem neI (x y : Int) : cmpD .NotEq (.int x) (.int y) = some (!decide (x = y)) := by
  have := eqI x y
  show (eqD (.int x) (.int y)).map _ = _
  have e : eqD (.int x) (.int y) = some (decide (x = y)) := this
  rw [e]; rfl
theorem isO {α : Type} {f : α → D} (hf : ∀ a, cmpD .Is (f a) .none = some false) (o : Option α) : cmpD .Is (eO f o) .none = some o.isNone := by
  cases o with
  | none => rfl
  | some a => exact hf a
theorem isNotO {α : Type} {f : α → D} (hf : ∀ a, cmpD .IsNot (f a) .none = some true) (o : Option α) : cmpD .IsNot (eO f o) .none = some o.isSome := by
  cases o with
  | none => rfl
  | some a => exact hf a
theorem pv_idx {a b : CE} {x y d : D} (ha : PV cp sg p a x) (hb : PV cp sg p b y) (h : idxD x y = some d) : PV cp sg p (.idx a b) d := fun K =>
  ov ha fun g1 e1 => ov hb fun g2 e2 => by simp only [pTwo, e1, e2, onO, onR, h, Option.map]; rfl
theorem pv_isi {a : CE} {ty : Ty} {x : D} (ha : PV cp sg p a x) : PV cp sg p (.isi a ty) (.bool (isD x ty)) := fun K =>
  ov ha fun g e => by rw [e]; rfl
theorem pv_rev {a : CE} {x d : D} {r : Rv} (ha : PV cp sg p a x) (h : revD x = some r) (hd : r.d = d) : PV cp sg p (.rev a) d := fun K =>
  ov ha fun g e => by subst hd; simp only [e, onO, onR, h]
def PVs (cp : Nat → List D → R (D × PEnv)) (sg : Nat → Sig) (p : PEnv) : List CE → List D → Prop
  | [], [] => True
  | a :: r, d :: ds => PV cp sg p a d ∧ PVs cp sg p r ds
  | _, _ => False
theorem pvL : ∀ {es : List CE} {ds : List D}, PVs cp sg p es ds → ∀ K, pL cp sg es p K = K ds p
  | [], [], _, K => rfl
  | [], _ :: _, h, _ => h.elim
  | _ :: _, [], h, _ => h.elim
  | a :: r, d :: ds, h, K => by
    show pE cp sg a p _ = _
    rw [h.1]
    exact pvL h.2 _
theorem pvG : ∀ {es : List CE} {ds : List D}, PVs cp sg p es ds → ∀ {K : List Gtr → PEnv → RF} {r : RF}, (∀ gs, pGets gs p = some ds → K gs p = r) → pG cp sg es p K = r
  | [], [], _, K, r, k => k [] rfl
  | [], _ :: _, h, _, _, _ => h.elim
  | _ :: _, [], h, _, _, _ => h.elim
  | a :: es, d :: ds, h, K, r, k => by
    show pO a (pE cp sg a p) p _ = _
    refine ov h.1 fun g e => pvG h.2 fun gs e2 => k (g :: gs) ?_
    unfold pGets
    rw [e, e2]
theorem pv_tup {es : List CE} {ds : List D} (h : PVs cp sg p es ds) : PV cp sg p (.tup es) (.tuple ds) := fun K => pvL h _
theorem pv_lst {es : List CE} {ds : List D} (h : PVs cp sg p es ds) : PV cp sg p (.lst es) (.list ds) := fun K => pvL h _
theorem pv_blt {f : Bt} {es : List CE} {ds : List D} {r : Rv} {d : D} (h : PVs cp sg p es ds) (hb : bltD f ds = some r) (hd : r.d = d) : PV cp sg p (.blt f es) d := fun K =>
  pvG h fun gs e => by subst hd; simp only [e, onO, onR, hb]
theorem pv_and {a b : CE} {x y : Bool} (ha : PV cp sg p a (.bool x)) (hb : PV cp sg p b (.bool y)) : PV cp sg p (.and_ a b) (.bool (x && y)) := fun K => by
  show bdV (pE cp sg a p _) K = _
  rw [ha]
  cases x with
  | true => show bdV (pE cp sg b p ret) K = _; rw [hb]; rfl
  | false => rfl
theorem pv_or {a b : CE} {x y : Bool} (ha : PV cp sg p a (.bool x)) (hb : PV cp sg p b (.bool y)) : PV cp sg p (.or_ a b) (.bool (x || y)) := fun K => by
  show bdV (pE cp sg a p _) K = _
  rw [ha]
  cases x with
  | false => show bdV (pE cp sg b p ret) K = _; rw [hb]; rfl
  | true => rfl
theorem pv_not {a : CE} {x : Bool} (ha : PV cp sg p a (.bool x)) : PV cp sg p (.not_ a) (.bool (!x)) := fun K => by
  show pE cp sg a p _ = _
  rw [ha]
  rfl
theorem pv_chain {o q : CmpOp} {a b c : CE} {x y z : D} {s t : Bool} (ha : PV cp sg p a x) (hb : PV cp sg p b y) (hc : PV cp sg p c z) (h1 : cmpD o x y = some s) (h2 : cmpD q y z = some t) : PV cp sg p (.chain o q a b c) (.bool (s && t)) := fun K => by
  have key : pO a (pE cp sg a p) p (fun x p => pO b (pE cp sg b p) p fun y p => pTwo x y p (fun u v => (cmpD o u v).map fun b => .fz (.bool b)) fun d p => onB d fun t =>
      if t = true then pO c (pE cp sg c p) p fun z p => pTwo y z p (fun u v => (cmpD q u v).map fun b => .fz (.bool b)) ret else ret (.bool false) p) = ret (.bool (s && t)) p :=
    ov ha fun g1 e1 => ov hb fun g2 e2 => by
      simp only [pTwo, e1, e2, onO_s, onR_s, h1, Option.map_some]
      cases s with
      | false => rfl
      | true =>
        show (pO c (pE cp sg c p) p fun z p => onO (g2 p) fun a => onO (z p) fun b => onR (Option.map (fun b => Rv.fz (PyData.bool b)) (cmpD q a b)) fun r => ret r p) = _
        exact ov hc fun g3 e3 => by simp only [e2, e3, onO_s, onR_s, h2, Option.map_some]; rfl
  show bdV _ K = _
  rw [key]
  rfl
theorem pt_b {a : CE} {x : Bool} (ha : PV cp sg p a (.bool x)) {K : Bool → PEnv → RF} : pTst a (pE cp sg a p) p K = K x p := by
  have g1 : (pO a (pE cp sg a p) p fun g p => onO (g p) fun d => onO (truD d) fun b => K b p) = K x p := ov ha fun g e => by rw [e]; rfl
  have g2 : (pE cp sg a p fun d p => onB d fun b => K b p) = K x p := by rw [ha]; rfl
  cases a <;> first | exact g1 | exact g2
theorem pt_t {a : CE} {x : D} {b : Bool} (ha : PV cp sg p a x) (hx : truD x = some b) (hn : ∀ K : Bool → PEnv → RF, pTst a (pE cp sg a p) p K = pO a (pE cp sg a p) p fun g p => onO (g p) fun d => onO (truD d) fun b => K b p) {K : Bool → PEnv → RF} : pTst a (pE cp sg a p) p K = K b p := by
  rw [hn]
  exact ov ha fun g e => by rw [e]; show onO (truD x) _ = _; rw [hx]; rfl
theorem pv_ife {c a b : CE} {x : Bool} {α : Type} {f : α → D} {u v : α} (hc : PV cp sg p c (.bool x)) (ha : PV cp sg p a (f u)) (hb : PV cp sg p b (f v)) : PV cp sg p (.ife c a b) (f (if x = true then u else v)) := fun K => by
  show bdV (pTst c (pE cp sg c p) p _) K = _
  rw [pt_b hc]
  cases x with
  | true => show bdV (pE cp sg a p ret) K = _; rw [ha]; rfl
  | false => show bdV (pE cp sg b p ret) K = _; rw [hb]; rfl
/-- bounds of a slice -/
def PB (cp : Nat → List D → R (D × PEnv)) (sg : Nat → Sig) (p : PEnv) : Option CE → Option Int → Prop
  | none, none => True
  | some a, some i => PV cp sg p a (.int i)
  | _, _ => False
theorem pvB : ∀ {o : Option CE} {i : Option Int}, PB cp sg p o i → ∀ K, pOpt cp sg o p K = K i p
  | none, none, _, K => rfl
  | none, some _, h, _ => h.elim
  | some _, none, h, _ => h.elim
  | some a, some i, h, K => by
    show (pO a (pE cp sg a p) p fun x p => onO (x p) fun d => onI d fun i => K (some i) p) = _
    exact ov h fun g e => by rw [e]; rfl
theorem pv_slc {a : CE} {l h : Option CE} {i j : Option Int} {x d : D} {r : Rv} (ha : PV cp sg p a x) (hl : PB cp sg p l i) (hh : PB cp sg p h j) (hs : slcD x i j = some r) (hd : r.d = d) : PV cp sg p (.slc a l h) d := fun K =>
  ov ha fun g e => by
    subst hd
    rw [pvB hl, pvB hh]
    simp only [e, onO, onR, hs]
/-! total operations on typed values -/
section
variable {α : Type} {f : α → D}
theorem len_L (xs : List α) : bltD .len [eL f xs] = some (.fz (.int xs.length)) := by show some _ = _; rw [List.length_map]
theorem len_T (xs : List α) : bltD .len [eT f xs] = some (.fz (.int xs.length)) := by show some _ = _; rw [List.length_map]
theorem cut_map (xs : List α) (lo hi : Option Int) : cutD (xs.map f) lo hi = (cutD xs lo hi).map f := by
  unfold cutD
  rw [List.map_take, List.map_drop, List.length_map]
theorem slc_L (xs : List α) (lo hi : Option Int) : slcD (eL f xs) lo hi = some (.fr (eL f (cutD xs lo hi))) := by show some _ = _; rw [cut_map]
theorem slc_T (xs : List α) (lo hi : Option Int) : slcD (eT f xs) lo hi = some (.fz (eT f (cutD xs lo hi))) := by show some _ = _; rw [cut_map]
theorem rev_L (xs : List α) : revD (eL f xs) = some (.fr (eL f xs.reverse)) := by show some _ = _; rw [← List.map_reverse]
theorem rev_T (xs : List α) : revD (eT f xs) = some (.fz (eT f xs.reverse)) := by show some _ = _; rw [← List.map_reverse]
theorem ints_mapT : ∀ xs : List Int, intsD (xs.map PyData.int) = some xs
  | [] => rfl
  | x :: xs => by show (intsD (xs.map PyData.int)).map _ = _; rw [ints_mapT xs]; rfl
theorem bools_mapT : ∀ xs : List Bool, boolsD (xs.map PyData.bool) = some xs
  | [] => rfl
  | x :: xs => by show (boolsD (xs.map PyData.bool)).map _ = _; rw [bools_mapT xs]; rfl
theorem sum_L (xs : List Int) : bltD .sum [eL .int xs] = some (.fz (.int xs.sum)) := by show (intsD _).map _ = _; rw [ints_mapT]; rfl
theorem sum_T (xs : List Int) : bltD .sum [eT .int xs] = some (.fz (.int xs.sum)) := by show (intsD _).map _ = _; rw [ints_mapT]; rfl
theorem all_L (xs : List Bool) : bltD .all [eL .bool xs] = some (.fz (.bool (xs.all id))) := by show (boolsD _).map _ = _; rw [bools_mapT]; rfl
theorem any_L (xs : List Bool) : bltD .any [eL .bool xs] = some (.fz (.bool (xs.any id))) := by show (boolsD _).map _ = _; rw [bools_mapT]; rfl
theorem at_map (xs : List α) (i : Int) : L2.atI (xs.map f) i = (L2.atI xs i).map f := by
  unfold L2.atI L2.ixN
  simp only [List.length_map]
  split <;> simp <;> rfl
theorem tru_L (xs : List α) : truD (eL f xs) = some (!xs.isEmpty) := by show some _ = _; rw [List.isEmpty_map]
theorem tru_T (xs : List α) : truD (eT f xs) = some (!xs.isEmpty) := by show some _ = _; rw [List.isEmpty_map]
theorem enum_map (xs : List α) : enumD (xs.map f) = (enumT xs).map (e2 .int f) := by
  unfold enumD enumT
  rw [List.zipIdx_map, List.map_map, List.map_map]
  rfl
theorem zip_map {β : Type} {g : β → D} (xs : List α) (ys : List β) : zipD (xs.map f) (ys.map g) = (xs.zip ys).map (e2 f g) := by
  unfold zipD
  rw [List.zip_map, List.map_map]
  rfl
theorem rng_map (a b : Int) : rangeD a b = (rngI a b).map .int := by
  unfold rangeD rngI
  rw [List.map_map]
  rfl
end
/-! ### steps of expressions -/
theorem s_pv {e : CE} {d : D} {K : D → PEnv → RF} (h : PV cp sg p e d) (r : Sim (K d p) T Φ) : Sim (pE cp sg e p K) T Φ := by rw [h]; exact r
theorem s_bin {o : Operator} {a b : CE} {K : D → PEnv → RF} (r : Sim (pO a (pE cp sg a p) p fun x p => pO b (pE cp sg b p) p fun y p => pTwo x y p (binD o) K) T Φ) : Sim (pE cp sg (.bin o a b) p K) T Φ := r
theorem s_cmp {o : CmpOp} {a b : CE} {K : D → PEnv → RF} (r : Sim (pO a (pE cp sg a p) p fun x p => pO b (pE cp sg b p) p fun y p => pTwo x y p (fun u v => (cmpD o u v).map fun b => .fz (.bool b)) K) T Φ) : Sim (pE cp sg (.cmp o a b) p K) T Φ := r
theorem s_idx {a b : CE} {K : D → PEnv → RF} (r : Sim (pO a (pE cp sg a p) p fun x p => pO b (pE cp sg b p) p fun y p => pTwo x y p (fun u v => (idxD u v).map .fz) K) T Φ) : Sim (pE cp sg (.idx a b) p K) T Φ := r
theorem s_neg {a : CE} {K : D → PEnv → RF} (r : Sim (pO a (pE cp sg a p) p fun x p => onO (x p) fun d => onI d fun i => K (.int (-i)) p) T Φ) : Sim (pE cp sg (.neg a) p K) T Φ := r
theorem s_isi {a : CE} {ty : Ty} {K : D → PEnv → RF} (r : Sim (pO a (pE cp sg a p) p fun x p => onO (x p) fun d => K (.bool (isD d ty)) p) T Φ) : Sim (pE cp sg (.isi a ty) p K) T Φ := r
theorem s_rev {a : CE} {K : D → PEnv → RF} (r : Sim (pO a (pE cp sg a p) p fun x p => onO (x p) fun d => onR (revD d) fun r => K r p) T Φ) : Sim (pE cp sg (.rev a) p K) T Φ := r
theorem s_slc {a : CE} {l h : Option CE} {K : D → PEnv → RF} (r : Sim (pO a (pE cp sg a p) p fun x p => pOpt cp sg l p fun l p => pOpt cp sg h p fun h p => onO (x p) fun d => onR (slcD d l h) fun r => K r p) T Φ) : Sim (pE cp sg (.slc a l h) p K) T Φ := r
theorem s_tup {es : List CE} {K : D → PEnv → RF} (r : Sim (pL cp sg es p fun ds p => K (.tuple ds) p) T Φ) : Sim (pE cp sg (.tup es) p K) T Φ := r
theorem s_lst {es : List CE} {K : D → PEnv → RF} (r : Sim (pL cp sg es p fun ds p => K (.list ds) p) T Φ) : Sim (pE cp sg (.lst es) p K) T Φ := r
theorem s_blt {f : Bt} {es : List CE} {K : D → PEnv → RF} (r : Sim (pG cp sg es p fun gs p => onO (pGets gs p) fun ds => onR (bltD f ds) fun r => K r p) T Φ) : Sim (pE cp sg (.blt f es) p K) T Φ := r
theorem s_vm {m : Vm} {a : CE} {es : List CE} {K : D → PEnv → RF} (r : Sim (pO a (pE cp sg a p) p fun x p => onO (x p) fun d => if isLst d = true then pG cp sg es p fun gs p => onO (pGets (x :: gs) p) fun ds => onR (match ds with | d :: r => vmD m d r | [] => none) fun r => K r p else .er) T Φ) : Sim (pE cp sg (.vm m a es) p K) T Φ := r
theorem s_call {f : Nat} {es : List CE} {K : D → PEnv → RF} (r : Sim (pG cp sg es p fun gs p => onO (pGets gs p) fun as => onC (cp f as) fun d outs => K d (pBack (sg f).pm es outs p)) T Φ) : Sim (pE cp sg (.call f es) p K) T Φ := r
theorem s_callk {f : Nat} {perm : List Nat} {es ks : List CE} {K : D → PEnv → RF} (r : Sim (pG cp sg es p fun g1 p => pG cp sg ks p fun g2 p => onO (pGets (g1 ++ g2) p) fun as => onO (perm.mapM fun i => as[i]?) fun as => onC (cp f as) fun d _ => K d p) T Φ) : Sim (pE cp sg (.callk f perm es ks) p K) T Φ := r
theorem s_not {a : CE} {K : D → PEnv → RF} (r : Sim (pE cp sg a p fun d p => onB d fun t => K (.bool (!t)) p) T Φ) : Sim (pE cp sg (.not_ a) p K) T Φ := r
theorem s_and {a b : CE} {K : D → PEnv → RF} (r : Sim (bdV (pE cp sg a p fun d p => onB d fun t => if t = true then pE cp sg b p ret else ret (.bool false) p) K) T Φ) : Sim (pE cp sg (.and_ a b) p K) T Φ := r
theorem s_or {a b : CE} {K : D → PEnv → RF} (r : Sim (bdV (pE cp sg a p fun d p => onB d fun t => if t = true then ret (.bool true) p else pE cp sg b p ret) K) T Φ) : Sim (pE cp sg (.or_ a b) p K) T Φ := r
theorem s_ife {c a b : CE} {K : D → PEnv → RF} (r : Sim (bdV (pTst c (pE cp sg c p) p fun t p => if t = true then pE cp sg a p ret else pE cp sg b p ret) K) T Φ) : Sim (pE cp sg (.ife c a b) p K) T Φ := r
theorem s_chain {o q : CmpOp} {a b c : CE} {K : D → PEnv → RF} (r : Sim (bdV (pO a (pE cp sg a p) p fun x p => pO b (pE cp sg b p) p fun y p => pTwo x y p (fun u v => (cmpD o u v).map fun b => .fz (.bool b)) fun d p => onB d fun t =>
      if t = true then pO c (pE cp sg c p) p fun z p => pTwo y z p (fun u v => (cmpD q u v).map fun b => .fz (.bool b)) ret else ret (.bool false) p) K) T Φ) : Sim (pE cp sg (.chain o q a b c) p K) T Φ := r
theorem s_mm {m : Mm} {i : Nat} {es : List CE} {d : D} {K : D → PEnv → RF} (h : pLook p i = some d) (hl : isLst d = true) (r : Sim (pL cp sg es p fun ds p => onO (pLook p i) fun d => onO (mmD m d ds) fun r => K r.2 (p.set i (some r.1))) T Φ) : Sim (pE cp sg (.mm m i es) p K) T Φ := by
  show Sim (onO (pLook p i) _) T Φ
  rw [h]
  show Sim (if isLst d = true then _ else _) T Φ
  rw [if_pos hl]
  exact r
/-! operands -/
theorem o_v {i : Nat} {d : D} {f : (D → PEnv → RF) → RF} {K : Gtr → PEnv → RF} (h : pLook p i = some d) (r : Sim (K (fun p => pLook p i) p) T Φ) : Sim (pO (.var i) f p K) T Φ := by
  show Sim (onO (pLook p i) _) T Φ
  rw [h]
  exact r
def isV : CE → Bool
  | .var _ => true
  | _ => false
theorem nv_of {a : CE} (h : isV a = false) : ∀ i, a ≠ .var i := by
  intro i e
  subst e
  cases h
theorem o_e {a : CE} {K : Gtr → PEnv → RF} (h : isV a = false) (r : Sim (pE cp sg a p fun d p => K (fun _ => some d) p) T Φ) : Sim (pO a (pE cp sg a p) p K) T Φ := by
  rw [pO_nv (nv_of h)]
  exact r
theorem o_c {a : CE} {d : D} {K : Gtr → PEnv → RF} (h : isV a = false) (hp : PV cp sg p a d) (r : Sim (K (fun _ => some d) p) T Φ) : Sim (pO a (pE cp sg a p) p K) T Φ := by
  rw [pO_nv (nv_of h), hp]
  exact r
theorem s_two {x y : Gtr} {a b : D} {f : D → D → Option Rv} {K : D → PEnv → RF} (h1 : x p = some a) (h2 : y p = some b) (r : Sim (onR (f a b) fun r => K r p) T Φ) : Sim (pTwo x y p f K) T Φ := by
  unfold pTwo
  rw [h1, h2]
  exact r
theorem s_onO {α : Type} {o : Option α} {a : α} {k : α → RF} (h : o = some a) (r : Sim (k a) T Φ) : Sim (onO o k) T Φ := by rw [h]; exact r
theorem s_tot {o : Option Rv} {v : Rv} {d : D} {k : D → RF} (h : o = some v) (hd : v.d = d) (r : Sim (k d) T Φ) : Sim (onR o k) T Φ := by rw [h]; show Sim (k v.d) T Φ; rw [hd]; exact r
theorem s_onI {i : Int} {k : Int → RF} (r : Sim (k i) T Φ) : Sim (onI (.int i) k) T Φ := r
theorem s_onB {i : Bool} {k : Bool → RF} (r : Sim (k i) T Φ) : Sim (onB (.bool i) k) T Φ := r
theorem s_onT {i : List D} {k : List D → RF} (r : Sim (k i) T Φ) : Sim (onT (.tuple i) k) T Φ := r
theorem s_if {c : Prop} [Decidable c] {x y : RF} {T1 T2 : R β} (h1 : c → Sim x T1 Φ) (h2 : ¬ c → Sim y T2 Φ) : Sim (if c then x else y) (if c then T1 else T2) Φ := by
  split
  · exact h1 (by assumption)
  · exact h2 (by assumption)
theorem s_ifb {c : Bool} {x y : RF} {T1 T2 : R β} (h1 : Sim x T1 Φ) (h2 : Sim y T2 Φ) : Sim (if c = true then x else y) (if c = true then T1 else T2) Φ := by
  cases c with
  | true => exact h1
  | false => exact h2
theorem s_ngt {c : Prop} [Decidable c] {x y : RF} (h : ¬ c) (r : Sim y T Φ) : Sim (if c then x else y) T Φ := by rw [if_neg h]; exact r
theorem s_pos {c : Prop} [Decidable c] {x y : RF} (h : c) (r : Sim x T Φ) : Sim (if c then x else y) T Φ := by rw [if_pos h]; exact r
/-! a step that may fail -/
section
variable {α : Type} {f : α → D} {K : D → RF}
theorem q_of {o : Option Rv} {t : R α} (h : o.map Rv.d = (match t with | .ok a => some (f a) | _ => none)) (hx : ∀ x, t ≠ .ex x) {T : α → R β} (r : ∀ a, Sim (K (f a)) (T a) Φ) : Sim (onR o K) (t.bind T) Φ := by
  cases t with
  | ok a =>
    obtain ⟨v, rfl, e⟩ := opt_map h
    show Sim (K v.d) (T a) Φ
    rw [e]
    exact r a
  | ex x => exact absurd rfl (hx x)
  | er => trivial
theorem q_mul {a b : Int} {T : Int → R β} (r : ∀ c, Sim (K (.int c)) (T c) Φ) : Sim (onR (binD .Mult (.int a) (.int b)) K) ((mulR a b).bind T) Φ :=
  q_of (f := .int) (by unfold mulR; show (if mulOk a b = true then some (Rv.fz (.int (a * b))) else none).map Rv.d = _; split <;> rfl) (fun x => by unfold mulR; split <;> exact fun h => by cases h) r
theorem q_div {a b : Int} {T : Int → R β} (r : ∀ c, Sim (K (.int c)) (T c) Φ) : Sim (onR (binD .FloorDiv (.int a) (.int b)) K) ((divR a b).bind T) Φ :=
  q_of (f := .int) (by unfold divR; show (if 0 < b ∧ b.natAbs.log2 < 9000 then some (Rv.fz (.int (a / b))) else none).map Rv.d = _; split <;> rfl) (fun x => by unfold divR; split <;> exact fun h => by cases h) r
theorem q_mod {a b : Int} {T : Int → R β} (r : ∀ c, Sim (K (.int c)) (T c) Φ) : Sim (onR (binD .Mod (.int a) (.int b)) K) ((modR a b).bind T) Φ :=
  q_of (f := .int) (by unfold modR; show (if 0 < b then some (Rv.fz (.int (a % b))) else none).map Rv.d = _; split <;> rfl) (fun x => by unfold modR; split <;> exact fun h => by cases h) r
theorem q_pow {a b : Int} {T : Int → R β} (r : ∀ c, Sim (K (.int c)) (T c) Φ) : Sim (onR (binD .Pow (.int a) (.int b)) K) ((powR a b).bind T) Φ :=
  q_of (f := .int) (by unfold powR; show (if 0 ≤ b ∧ b ≤ 1000 ∧ a.natAbs < 2 ^ 64 then some (Rv.fz (.int (a ^ b.toNat))) else none).map Rv.d = _; split <;> rfl) (fun x => by unfold powR; split <;> exact fun h => by cases h) r
theorem q_catL {a b : List α} {T : List α → R β} (r : ∀ c, Sim (K (eL f c)) (T c) Φ) : Sim (onR (binD .Add (eL f a) (eL f b)) K) ((catR a b).bind T) Φ :=
  q_of (f := eL f) (by unfold catR; show (if (a.map f).length + (b.map f).length ≤ sizeLine then some (Rv.fr (.list (a.map f ++ b.map f))) else none).map Rv.d = _; rw [List.length_map, List.length_map, ← List.map_append]; split <;> rfl) (fun x => by unfold catR; split <;> exact fun h => by cases h) r
theorem q_catT {a b : List α} {T : List α → R β} (r : ∀ c, Sim (K (eT f c)) (T c) Φ) : Sim (onR (binD .Add (eT f a) (eT f b)) K) ((catR a b).bind T) Φ :=
  q_of (f := eT f) (by unfold catR; show (if (a.map f).length + (b.map f).length ≤ sizeLine then some (Rv.fz (.tuple (a.map f ++ b.map f))) else none).map Rv.d = _; rw [List.length_map, List.length_map, ← List.map_append]; split <;> rfl) (fun x => by unfold catR; split <;> exact fun h => by cases h) r
theorem q_catS {a b : Str} {T : Str → R β} (r : ∀ c, Sim (K (.str c)) (T c) Φ) : Sim (onR (binD .Add (.str a) (.str b)) K) ((catS a b).bind T) Φ :=
  q_of (f := .str) (by unfold catS; show (if a.length + b.length ≤ sizeLine then some (Rv.fz (.str (a ++ b))) else none).map Rv.d = _; split <;> rfl) (fun x => by unfold catS; split <;> exact fun h => by cases h) r
theorem rep_map (a : List α) (k : Nat) : repD (a.map f) k = ((List.replicate k a).flatten).map f := by
  unfold repD
  rw [List.map_flatten, List.map_replicate]
theorem q_repL {a : List α} {k : Int} {T : List α → R β} (r : ∀ c, Sim (K (eL f c)) (T c) Φ) : Sim (onR (binD .Mult (eL f a) (.int k)) K) ((repR a k).bind T) Φ :=
  q_of (f := eL f) (by unfold repR; show (if k < 1000000 ∧ -1000000 < k ∧ (a.map f).length * k.toNat ≤ sizeLine then some (Rv.fr (.list (repD (a.map f) k.toNat))) else none).map Rv.d = _; rw [List.length_map, rep_map]; split <;> rfl) (fun x => by unfold repR; split <;> exact fun h => by cases h) r
theorem q_repT {a : List α} {k : Int} {T : List α → R β} (r : ∀ c, Sim (K (eT f c)) (T c) Φ) : Sim (onR (binD .Mult (eT f a) (.int k)) K) ((repR a k).bind T) Φ :=
  q_of (f := eT f) (by unfold repR; show (if k < 1000000 ∧ -1000000 < k ∧ (a.map f).length * k.toNat ≤ sizeLine then some (Rv.fz (.tuple (repD (a.map f) k.toNat))) else none).map Rv.d = _; rw [List.length_map, rep_map]; split <;> rfl) (fun x => by unfold repR; split <;> exact fun h => by cases h) r
theorem ofO_nx {α : Type} (o : Option α) (x : Nat) : ofO o ≠ .ex x := by cases o <;> exact fun h => by cases h
theorem q_o {o : Option Rv} {o' : Option α} (h : o = o'.map fun a => Rv.fz (f a)) {T : α → R β} (r : ∀ a, Sim (K (f a)) (T a) Φ) : Sim (onR o K) ((ofO o').bind T) Φ := by
  subst h
  cases o' with
  | none => trivial
  | some a => exact r a
theorem q_idxL {a : List α} {i : Int} {T : α → R β} (r : ∀ c, Sim (K (f c)) (T c) Φ) : Sim (onR ((idxD (eL f a) (.int i)).map .fz) K) ((atR a i).bind T) Φ :=
  q_o (by show (L2.atI (a.map f) i).map _ = _; rw [at_map, Option.map_map]; rfl) r
theorem q_idxT {a : List α} {i : Int} {T : α → R β} (r : ∀ c, Sim (K (f c)) (T c) Φ) : Sim (onR ((idxD (eT f a) (.int i)).map .fz) K) ((atR a i).bind T) Φ :=
  q_o (by show (L2.atI (a.map f) i).map _ = _; rw [at_map, Option.map_map]; rfl) r
theorem q_cmp {o : CmpOp} {a b : D} {T : Bool → R β} (r : ∀ c, Sim (K (.bool c)) (T c) Φ) : Sim (onR ((cmpD o a b).map fun b => .fz (.bool b)) K) ((cmpR o a b).bind T) Φ :=
  q_o (f := .bool) rfl r
theorem q_minL {a : List Int} {T : Int → R β} (r : ∀ c, Sim (K (.int c)) (T c) Φ) : Sim (onR (bltD .min [eL .int a]) K) ((minR a).bind T) Φ :=
  q_o (f := .int) (by show (intsD _).bind _ = _; rw [ints_mapT]; rfl) r
theorem q_minT {a : List Int} {T : Int → R β} (r : ∀ c, Sim (K (.int c)) (T c) Φ) : Sim (onR (bltD .min [eT .int a]) K) ((minR a).bind T) Φ :=
  q_o (f := .int) (by show (intsD _).bind _ = _; rw [ints_mapT]; rfl) r
theorem q_maxL {a : List Int} {T : Int → R β} (r : ∀ c, Sim (K (.int c)) (T c) Φ) : Sim (onR (bltD .max [eL .int a]) K) ((maxR a).bind T) Φ :=
  q_o (f := .int) (by show (intsD _).bind _ = _; rw [ints_mapT]; rfl) r
theorem q_maxT {a : List Int} {T : Int → R β} (r : ∀ c, Sim (K (.int c)) (T c) Φ) : Sim (onR (bltD .max [eT .int a]) K) ((maxR a).bind T) Φ :=
  q_o (f := .int) (by show (intsD _).bind _ = _; rw [ints_mapT]; rfl) r
theorem q_sort {a : List Int} {T : List Int → R β} (r : ∀ c, Sim (K (eL .int c)) (T c) Φ) : Sim (onR (bltD .sorted [eL .int a]) K) ((sortR a).bind T) Φ :=
  q_of (f := eL .int) (by unfold sortR; show ((intsD _).bind _).map _ = _; rw [ints_mapT]; show (if a.length < 64 then some (Rv.fr (.list ((sortI a).map .int))) else none).map Rv.d = _; split <;> rfl) (fun x => by unfold sortR; split <;> exact fun h => by cases h) r
theorem q_repr {a : D} {T : Str → R β} (r : ∀ c, Sim (K (.str c)) (T c) Φ) : Sim (onR (bltD .repr [a]) K) ((reprR a).bind T) Φ :=
  q_of (f := .str) (by unfold reprR; show (if a.showable = true ∧ a.shown.length ≤ sizeLine ∧ a.depth ≤ 60 then some (Rv.fz (.str a.shown)) else none).map Rv.d = _; split <;> rfl) (fun x => by unfold reprR; split <;> exact fun h => by cases h) r
theorem q_any {o : Option Rv} {T : D → R β} (r : ∀ c, Sim (K c) (T c) Φ) : Sim (onR o K) ((rvR o).bind T) Φ := by
  cases o with
  | none => trivial
  | some v => exact r v.d
theorem q_opt {γ : Type} {o : Option γ} {k : γ → RF} {T : γ → R β} (r : ∀ c, Sim (k c) (T c) Φ) : Sim (onO o k) ((ofO o).bind T) Φ := by
  cases o with
  | none => trivial
  | some v => exact r v
theorem q_int {d : D} {k : Int → RF} {T : Int → R β} (r : ∀ c, Sim (k c) (T c) Φ) : Sim (onI d k) ((intR d).bind T) Φ := by
  cases d <;> first | exact r _ | trivial
theorem q_bool {d : D} {k : Bool → RF} {T : Bool → R β} (r : ∀ c, Sim (k c) (T c) Φ) : Sim (onB d k) ((boolR d).bind T) Φ := by
  cases d <;> first | exact r _ | trivial
theorem erase_map : ∀ (a : List α) (j : Nat), (a.map f).eraseIdx j = (a.eraseIdx j).map f
  | [], _ => rfl
  | _ :: _, 0 => rfl
  | x :: a, j + 1 => by show f x :: (a.map f).eraseIdx j = _; rw [erase_map a j]; rfl
theorem set_map : ∀ (a : List α) (j : Nat) (x : α), (a.map f).set j (f x) = (a.set j x).map f
  | [], _, _ => rfl
  | _ :: _, 0, _ => rfl
  | y :: a, j + 1, x => by show f y :: (a.map f).set j (f x) = _; rw [set_map a j x]; rfl
theorem q_app {a : List α} {x : α} {k : D × D → RF} {T : List α → R β} (r : ∀ c, Sim (k (eL f c, .none)) (T c) Φ) : Sim (onO (mmD .append (eL f a) [f x]) k) ((appR a x).bind T) Φ := by
  have e : mmD .append (eL f a) [f x] = if a.length < sizeLine then some (eL f (a ++ [x]), .none) else none := by
    show (if (a.map f).length < sizeLine then some (PyData.list (a.map f ++ [f x]), PyData.none) else none) = _
    rw [List.length_map]
    have e2 : eL f (a ++ [x]) = .list (a.map f ++ [f x]) := by show PyData.list ((a ++ [x]).map f) = _; rw [List.map_append]; rfl
    rw [e2]
  rw [e]
  unfold appR
  split
  · exact r _
  · trivial
theorem q_ext {a b : List α} {k : D × D → RF} {T : List α → R β} (r : ∀ c, Sim (k (eL f c, .none)) (T c) Φ) : Sim (onO (mmD .extend (eL f a) [eL f b]) k) ((extR a b).bind T) Φ := by
  have e : mmD .extend (eL f a) [eL f b] = if a.length + b.length ≤ sizeLine then some (eL f (a ++ b), .none) else none := by
    show (if (a.map f).length + (b.map f).length ≤ sizeLine then some (PyData.list (a.map f ++ b.map f), PyData.none) else none) = _
    rw [List.length_map, List.length_map, ← List.map_append]
  rw [e]
  unfold extR
  split
  · exact r _
  · trivial
theorem q_pop {a : List α} {k : D × D → RF} {T : List α × α → R β} (r : ∀ c : List α × α, Sim (k (eL f c.1, f c.2)) (T c) Φ) : Sim (onO (mmD .pop (eL f a) []) k) ((popR a).bind T) Φ := by
  have e : mmD .pop (eL f a) [] = (a[a.length - 1]?).map fun y => (eL f a.dropLast, f y) := by
    show ((a.map f)[(a.map f).length - 1]?).map _ = _
    rw [List.length_map, List.getElem?_map, Option.map_map, ← List.map_dropLast]
    rfl
  rw [e]
  unfold popR
  cases a[a.length - 1]? with
  | none => trivial
  | some y => exact r (_, y)
theorem q_popAt {a : List α} {i : Int} {k : D × D → RF} {T : List α × α → R β} (r : ∀ c : List α × α, Sim (k (eL f c.1, f c.2)) (T c) Φ) : Sim (onO (mmD .popAt (eL f a) [.int i]) k) ((popAtR a i).bind T) Φ := by
  have e : mmD .popAt (eL f a) [.int i] = if -(2 ^ 63) ≤ i ∧ i < 2 ^ 63 then (L2.ixN (a.map f).length i).bind fun k => ((a.map f)[k]?).map fun y => (.list ((a.map f).eraseIdx k), y) else none := rfl
  rw [e, List.length_map]
  unfold popAtR
  split
  · cases L2.ixN a.length i with
    | none => trivial
    | some j =>
      show Sim (onO (((a.map f)[j]?).map _) k) _ _
      rw [List.getElem?_map]
      cases h : a[j]? with
      | none => simp [h]; trivial
      | some y =>
        simp only [h]
        have : (a.map f).eraseIdx j = (a.eraseIdx j).map f := erase_map a j
        show Sim (k (.list ((a.map f).eraseIdx j), f y)) _ _
        rw [this]
        exact r (_, y)
  · trivial
theorem q_revm {a : List α} {k : D × D → RF} (r : Sim (k (eL f a.reverse, .none)) T Φ) : Sim (onO (mmD .reverse (eL f a) []) k) T Φ := by
  have e : mmD .reverse (eL f a) [] = some (eL f a.reverse, .none) := by show some (PyData.list (a.map f).reverse, _) = _; rw [← List.map_reverse]
  rw [e]
  exact r
theorem q_put {a : List α} {i : Int} {x : α} {k : D → RF} {T : List α → R β} (r : ∀ c, Sim (k (eL f c)) (T c) Φ) : Sim (onO (putD (eL f a) (.int i) (f x)) k) ((putR a i x).bind T) Φ := by
  have e : putD (eL f a) (.int i) (f x) = (L2.ixN a.length i).map fun j => eL f (a.set j x) := by
    show (L2.ixN (a.map f).length i).map _ = _
    rw [List.length_map]
    congr
    funext j
    rw [set_map]
  rw [e]
  unfold putR
  cases L2.ixN a.length i with
  | none => trivial
  | some j => exact r _
end
/-! calls -/
theorem s_gets {gs : List Gtr} {ds : List D} {k : List D → RF} (h : pGets gs p = some ds) (r : Sim (k ds) T Φ) : Sim (onO (pGets gs p) k) T Φ := by rw [h]; exact r
theorem s_onC {α : Type} {m : R (D × PEnv)} {t : R α} {F : α → D × PEnv} {k : D → PEnv → RF} {T : α → R β} (h : Sim m t fun b r => r = F b) (r : ∀ b, Sim (k (F b).1 (F b).2) (T b) Φ) : Sim (onC m k) (t.bind T) Φ := by
  cases t with
  | ok b => obtain ⟨a, rfl, rfl⟩ := h; exact r b
  | ex x => have h' : m = .ex x := h; subst h'; exact rfl
  | er => trivial
/-! a value made on several ways -/
theorem s_join {α : Type} {m : RF} {t : R α} {k : D → PEnv → RF} {d : α → D} {q : α → PEnv} {T : α → R β} (h : Sim m t fun b r => r = (.rt (d b), q b)) (r : ∀ b, Sim (k (d b) (q b)) (T b) Φ) : Sim (bdV m k) (t.bind T) Φ := by
  cases t with
  | ok b => obtain ⟨a, rfl, rfl⟩ := h; exact r b
  | ex x => have h' : m = .ex x := h; subst h'; exact rfl
  | er => trivial
theorem s_leaf {α : Type} {d : D} {b : α} {Ψ : α → PF → Prop} (h : Ψ b (.rt d, p)) : Sim (ret d p) (.ok b) Ψ := ⟨_, rfl, h⟩
theorem s_nx {α : Type} {b : α} {Ψ : α → PF → Prop} (h : Ψ b (.nx, p)) : Sim (nxK p) (.ok b) Ψ := ⟨_, rfl, h⟩
/-! tests -/
theorem s_tb {a : CE} {x : Bool} {K : Bool → PEnv → RF} (h : PV cp sg p a (.bool x)) (r : Sim (K x p) T Φ) : Sim (pTst a (pE cp sg a p) p K) T Φ := by rw [pt_b h]; exact r
def boolF : CE → Bool
  | .and_ _ _ => true | .or_ _ _ => true | .not_ _ => true | .cmp _ _ _ => true | .chain _ _ _ _ _ => true
  | _ => false
theorem s_te {a : CE} {K : Bool → PEnv → RF} (h : boolF a = true) (r : Sim (pE cp sg a p fun d p => onB d fun b => K b p) T Φ) : Sim (pTst a (pE cp sg a p) p K) T Φ := by
  cases a <;> first | exact r | cases h
theorem s_to {a : CE} {K : Bool → PEnv → RF} (h : boolF a = false) (r : Sim (pO a (pE cp sg a p) p fun g p => onO (g p) fun d => onO (truD d) fun b => K b p) T Φ) : Sim (pTst a (pE cp sg a p) p K) T Φ := by
  cases a <;> first | exact r | cases h
/-! statements -/
theorem s_c {s : CS} {r : List CS} {K : PEnv → RF} (h : Sim (pS cp sg nl fuel s p fun p => pSs cp sg nl fuel r p K) T Φ) : Sim (pSs cp sg nl fuel (s :: r) p K) T Φ := h
theorem s_0 {K : PEnv → RF} (h : Sim (K p) T Φ) : Sim (pSs cp sg nl fuel [] p K) T Φ := h
theorem s_asg {t : Tg} {a : CE} {K : PEnv → RF} (r : Sim (pE cp sg a p fun d p => if nlOk nl t d = true then pAsg cp sg t d p K else .er) T Φ) : Sim (pS cp sg nl fuel (.asg t a) p K) T Φ := r
theorem s_name {i : Nat} {d : D} {K : PEnv → RF} (h : nlOk nl (.name i) d = true) (r : Sim (K (p.set i (some d))) T Φ) : Sim (if nlOk nl (.name i) d = true then pAsg cp sg (.name i) d p K else .er) T Φ := by rw [if_pos h]; exact r
theorem s_tgt {t : Tg} {d : D} {K : PEnv → RF} (h : nlOk nl t d = true) (r : Sim (pAsg cp sg t d p K) T Φ) : Sim (if nlOk nl t d = true then pAsg cp sg t d p K else .er) T Φ := by rw [if_pos h]; exact r
theorem a_n {i : Nat} {d : D} {K : PEnv → RF} (r : Sim (K (p.set i (some d))) T Φ) : Sim (pAsg cp sg (.name i) d p K) T Φ := r
theorem a_t {ts : List Tg} {ds : List D} {K : PEnv → RF} (h : ds.length = ts.length) (r : Sim (pAsgs cp sg ts ds p K) T Φ) : Sim (pAsg cp sg (.tup ts) (.tuple ds) p K) T Φ := by
  show Sim (if ds.length = ts.length then _ else _) T Φ
  rw [if_pos h]
  exact r
theorem a_tL {ts : List Tg} {ds : List D} {K : PEnv → RF} (h : ds.length = ts.length) (r : Sim (pAsgs cp sg ts ds p K) T Φ) : Sim (pAsg cp sg (.tup ts) (.list ds) p K) T Φ := by
  show Sim (if ds.length = ts.length then _ else _) T Φ
  rw [if_pos h]
  exact r
theorem a_tD {ts : List Tg} {d : D} {K : PEnv → RF} {T : List D → R β} (r : ∀ ds, ds.length = ts.length → Sim (pAsgs cp sg ts ds p K) (T ds) Φ) : Sim (pAsg cp sg (.tup ts) d p K) ((tupR ts.length d).bind T) Φ := by
  show Sim (onT d fun ds => if ds.length = ts.length then _ else _) _ Φ
  have go : ∀ l : List D, Sim (if l.length = ts.length then pAsgs cp sg ts l p K else .er) ((if l.length = ts.length then .ok l else .er : R (List D)).bind T) Φ := by
    intro l
    by_cases h : l.length = ts.length
    · rw [if_pos h, if_pos h]
      exact r l h
    · rw [if_neg h, if_neg h]
      trivial
  cases d with
  | tuple l => exact go l
  | list l => exact go l
  | _ => trivial
theorem a_s {i : Nat} {a : CE} {d l : D} {K : PEnv → RF} (h : pLook p i = some l) (hl : isLst l = true) (r : Sim (pO a (pE cp sg a p) p fun g p => onO (g p) fun k => onO (pLook p i) fun l => onO (putD l k d) fun l' => K (p.set i (some l'))) T Φ) : Sim (pAsg cp sg (.sub i a) d p K) T Φ := by
  show Sim (onO (pLook p i) _) T Φ
  rw [h]
  show Sim (if isLst l = true then _ else _) T Φ
  rw [if_pos hl]
  exact r
theorem a_c {t : Tg} {ts : List Tg} {d : D} {ds : List D} {K : PEnv → RF} (r : Sim (pAsg cp sg t d p fun p => pAsgs cp sg ts ds p K) T Φ) : Sim (pAsgs cp sg (t :: ts) (d :: ds) p K) T Φ := r
theorem a_0 {K : PEnv → RF} (r : Sim (K p) T Φ) : Sim (pAsgs cp sg [] [] p K) T Φ := r
theorem s_par {ts : List Tg} {es : List CE} {K : PEnv → RF} (r : Sim (pL cp sg es p fun ds p => if ds.length = ts.length ∧ ts.length ≤ 1000 then (if nlOks nl ts ds = true then pAsgs cp sg ts ds p K else .er) else .er) T Φ) : Sim (pS cp sg nl fuel (.par ts es) p K) T Φ := r
theorem l_0 {K : List D → PEnv → RF} (r : Sim (K [] p) T Φ) : Sim (pL cp sg [] p K) T Φ := r
theorem l_c {a : CE} {es : List CE} {K : List D → PEnv → RF} (r : Sim (pE cp sg a p fun d p => pL cp sg es p fun ds p => K (d :: ds) p) T Φ) : Sim (pL cp sg (a :: es) p K) T Φ := r
theorem g_0 {K : List Gtr → PEnv → RF} (r : Sim (K [] p) T Φ) : Sim (pG cp sg [] p K) T Φ := r
theorem g_c {a : CE} {es : List CE} {K : List Gtr → PEnv → RF} (r : Sim (pO a (pE cp sg a p) p fun g p => pG cp sg es p fun gs p => K (g :: gs) p) T Φ) : Sim (pG cp sg (a :: es) p K) T Φ := r
theorem b_0 {K : Option Int → PEnv → RF} (r : Sim (K none p) T Φ) : Sim (pOpt cp sg none p K) T Φ := r
theorem b_1 {a : CE} {K : Option Int → PEnv → RF} (r : Sim (pO a (pE cp sg a p) p fun x p => onO (x p) fun d => onI d fun i => K (some i) p) T Φ) : Sim (pOpt cp sg (some a) p K) T Φ := r
theorem s_aug {i : Nat} {o : Operator} {a : CE} {d : D} {n : Int} {K : PEnv → RF} (h : pLook p i = some (.int n)) (r : Sim (pO a (pE cp sg a p) p fun y p => onO (y p) fun d => onI d fun m => (match o with
    | .Add => K (p.set i (some (.int (n + m))))
    | .Sub => K (p.set i (some (.int (n - m))))
    | _ => .er)) T Φ) : Sim (pS cp sg nl fuel (.aug i o a) p K) T Φ := by
  show Sim (onO (pLook p i) _) T Φ
  rw [h]
  exact r
theorem s_ex {a : CE} {K : PEnv → RF} (r : Sim (pE cp sg a p fun _ p => K p) T Φ) : Sim (pS cp sg nl fuel (.ex a) p K) T Φ := r
theorem s_ret {a : CE} {K : PEnv → RF} (r : Sim (pE cp sg a p fun d p => ret d p) T Φ) : Sim (pS cp sg nl fuel (.ret a) p K) T Φ := r
theorem s_pass {K : PEnv → RF} (r : Sim (K p) T Φ) : Sim (pS cp sg nl fuel .pass p K) T Φ := r
theorem s_brk {K : PEnv → RF} {b : β} (h : Φ b (.bk, p)) : Sim (pS cp sg nl fuel .brk p K) (.ok b) Φ := ⟨_, rfl, h⟩
theorem s_cont {K : PEnv → RF} {b : β} (h : Φ b (.ct, p)) : Sim (pS cp sg nl fuel .cont p K) (.ok b) Φ := ⟨_, rfl, h⟩
theorem s_raise {K : PEnv → RF} {x : Nat} : Sim (pS cp sg nl fuel (.raise x) p K) (.ex x : R β) Φ := rfl
/-- both branches go their own way to the end -/
theorem s_ifS {c : CE} {a b : List CS} {K : PEnv → RF} (r : Sim (pTst c (pE cp sg c p) p fun t p => if t = true then pSs cp sg nl fuel a p K else pSs cp sg nl fuel b p K) T Φ) : Sim (pS cp sg nl fuel (.ife c a b) p K) T Φ := by
  show Sim (bdS (pTst c (pE cp sg c p) p fun t p => if t = true then pSs cp sg nl fuel a p nxK else pSs cp sg nl fuel b p nxK) K) T Φ
  rw [← n_tst Hb (nE Hb c) (K' := fun t p => if t = true then pSs cp sg nl fuel a p K else pSs cp sg nl fuel b p K) (fun t p => by cases t <;> simp [bds_in])]
  exact r
/-- the branches meet again -/
theorem s_ifJ {c : CE} {a b : List CS} {K : PEnv → RF} {α : Type} {t : R α} {S : α → PEnv → Prop} {T : α → R β}
    (h : Sim (pTst c (pE cp sg c p) p fun t p => if t = true then pSs cp sg nl fuel a p nxK else pSs cp sg nl fuel b p nxK) t fun b r => r.1 = .nx ∧ S b r.2) (r : ∀ b p, S b p → Sim (K p) (T b) Φ) : Sim (pS cp sg nl fuel (.ife c a b) p K) (t.bind T) Φ := by
  show Sim (bdS _ K) _ Φ
  cases t with
  | ok b =>
    obtain ⟨⟨f, q⟩, e, h1, h2⟩ := h
    cases h1
    rw [e]
    exact r b q h2
  | ex x =>
    have h' : _ = R.ex x := h
    rw [h']
    exact rfl
  | er => trivial
theorem s_for {t : Tg} {it : It} {b : List CS} {K : PEnv → RF} (r : Sim (pI cp sg it p fun items p => bdS (pfor (fun x p => pAsg cp sg t x p fun p => pSs cp sg nl fuel b p nxK) items p) K) T Φ) : Sim (pS cp sg nl fuel (.for_ t it b) p K) T Φ := r
theorem s_while {c : CE} {b : List CS} {K : PEnv → RF} (r : Sim (bdS (pwhile (fun p => pTst c (pE cp sg c p) p fun t p => if t = true then pSs cp sg nl fuel b p nxK else .ok (.bk, p)) fuel p) K) T Φ) : Sim (pS cp sg nl fuel (.while_ c b) p K) T Φ := r
section
variable {α σ ρ : Type} {φ : α → D} {st : D → PEnv → RF} {K : PEnv → RF} {S : σ → PEnv → Prop}
theorem sim_forT {f : σ → α → R σ} : ∀ (xs : List α) (s : σ) (p : PEnv), S s p → (∀ x s p, x ∈ xs → S s p → Sim (st (φ x) p) (f s x) fun s' r => (r.1 = .nx ∨ r.1 = .ct) ∧ S s' r.2) → Sim (pfor st (xs.map φ) p) (forT f xs s) fun s' r => r.1 = .nx ∧ S s' r.2
  | [], s, p, h0, _ => ⟨_, rfl, rfl, h0⟩
  | x :: xs, s, p, h0, h => by
    show Sim ((st (φ x) p).bind _) ((f s x).bind _) _
    refine (h x s p List.mem_cons_self h0).bind' fun s' r ⟨h1, h2⟩ => ?_
    have ih := sim_forT xs s' r.2 h2 fun x s p hx => h x s p (List.mem_cons_of_mem _ hx)
    rcases h1 with h1 | h1 <;> rw [h1] <;> exact ih
theorem w_for {f : σ → α → R σ} {xs : List α} {s : σ} {T : σ → R β} (h0 : S s p) (h : ∀ x s p, x ∈ xs → S s p → Sim (st (φ x) p) (f s x) fun s' r => (r.1 = .nx ∨ r.1 = .ct) ∧ S s' r.2) (r : ∀ s p, S s p → Sim (K p) (T s) Φ) : Sim (bdS (pfor st (xs.map φ) p) K) ((forT f xs s).bind T) Φ := by
  refine (sim_forT xs s p h0 h).bind' fun s' q ⟨h1, h2⟩ => ?_
  obtain ⟨fl, q⟩ := q
  cases h1
  exact r s' q h2
theorem sim_forF {Θ : ρ → PF → Prop} {f : σ → α → R (Lp σ ρ)} : ∀ (xs : List α) (s : σ) (p : PEnv), S s p → (∀ x s p, x ∈ xs → S s p → Sim (st (φ x) p) (f s x) fun l r => match l with | .nx s' => (r.1 = .nx ∨ r.1 = .ct) ∧ S s' r.2 | .bk s' => r.1 = .bk ∧ S s' r.2 | .rt v => (∃ d, r.1 = .rt d) ∧ Θ v r) →
    Sim (pfor st (xs.map φ) p) (forF f xs s) fun l r => match l with | .nx s' => r.1 = .nx ∧ S s' r.2 | .bk s' => False | .rt v => (∃ d, r.1 = .rt d) ∧ Θ v r
  | [], s, p, h0, _ => ⟨_, rfl, rfl, h0⟩
  | x :: xs, s, p, h0, h => by
    show Sim ((st (φ x) p).bind _) ((f s x).bind _) _
    refine (h x s p List.mem_cons_self h0).bind' fun l r hl => ?_
    obtain ⟨fl, q⟩ := r
    cases l with
    | nx s' =>
      obtain ⟨h1, h2⟩ := hl
      have ih := sim_forF xs s' q h2 fun x s p hx => h x s p (List.mem_cons_of_mem _ hx)
      rcases h1 with h1 | h1 <;> cases h1 <;> exact ih
    | bk s' =>
      obtain ⟨h1, h2⟩ := hl
      cases h1
      exact ⟨_, rfl, rfl, h2⟩
    | rt v =>
      obtain ⟨⟨d, h1⟩, h2⟩ := hl
      cases h1
      exact ⟨_, rfl, ⟨d, rfl⟩, h2⟩
theorem w_forF {Θ : ρ → PF → Prop} {f : σ → α → R (Lp σ ρ)} {xs : List α} {s : σ} {T : Lp σ ρ → R β} (h0 : S s p)
    (h : ∀ x s p, x ∈ xs → S s p → Sim (st (φ x) p) (f s x) fun l r => match l with | .nx s' => (r.1 = .nx ∨ r.1 = .ct) ∧ S s' r.2 | .bk s' => r.1 = .bk ∧ S s' r.2 | .rt v => (∃ d, r.1 = .rt d) ∧ Θ v r)
    (r : ∀ s p, S s p → Sim (K p) (T (.nx s)) Φ) (rr : ∀ v d p, Θ v (.rt d, p) → Sim (ret d p) (T (.rt v)) Φ) : Sim (bdS (pfor st (xs.map φ) p) K) ((forF f xs s).bind T) Φ := by
  refine (sim_forF xs s p h0 h).bind' fun l q hl => ?_
  obtain ⟨fl, q⟩ := q
  cases l with
  | nx s' => obtain ⟨h1, h2⟩ := hl; cases h1; exact r s' q h2
  | bk s' => exact hl.elim
  | rt v => obtain ⟨⟨d, h1⟩, h2⟩ := hl; cases h1; exact rr v d q h2
theorem sim_whileF {Θ : ρ → PF → Prop} {wst : PEnv → RF} {f : σ → R (Lp σ ρ)} (h : ∀ s p, S s p → Sim (wst p) (f s) fun l r => match l with | .nx s' => (r.1 = .nx ∨ r.1 = .ct) ∧ S s' r.2 | .bk s' => r.1 = .bk ∧ S s' r.2 | .rt v => (∃ d, r.1 = .rt d) ∧ Θ v r) : ∀ (n : Nat) (s : σ) (p : PEnv), S s p →
    Sim (pwhile wst n p) (whileF f n s) fun l r => match l with | .nx s' => r.1 = .nx ∧ S s' r.2 | .bk s' => False | .rt v => (∃ d, r.1 = .rt d) ∧ Θ v r
  | 0, s, p, h0 => trivial
  | n + 1, s, p, h0 => by
    show Sim ((wst p).bind _) ((f s).bind _) _
    refine (h s p h0).bind' fun l r hl => ?_
    obtain ⟨fl, q⟩ := r
    cases l with
    | nx s' =>
      obtain ⟨h1, h2⟩ := hl
      have ih := sim_whileF h n s' q h2
      rcases h1 with h1 | h1 <;> cases h1 <;> exact ih
    | bk s' =>
      obtain ⟨h1, h2⟩ := hl
      cases h1
      exact ⟨_, rfl, rfl, h2⟩
    | rt v =>
      obtain ⟨⟨d, h1⟩, h2⟩ := hl
      cases h1
      exact ⟨_, rfl, ⟨d, rfl⟩, h2⟩
theorem w_whileF {Θ : ρ → PF → Prop} {wst : PEnv → RF} {f : σ → R (Lp σ ρ)} {s : σ} {T : Lp σ ρ → R β} (h0 : S s p)
    (h : ∀ s p, S s p → Sim (wst p) (f s) fun l r => match l with | .nx s' => (r.1 = .nx ∨ r.1 = .ct) ∧ S s' r.2 | .bk s' => r.1 = .bk ∧ S s' r.2 | .rt v => (∃ d, r.1 = .rt d) ∧ Θ v r)
    (r : ∀ s p, S s p → Sim (K p) (T (.nx s)) Φ) (rr : ∀ v d p, Θ v (.rt d, p) → Sim (ret d p) (T (.rt v)) Φ) : Sim (bdS (pwhile wst fuel p) K) ((whileF f fuel s).bind T) Φ := by
  refine (sim_whileF h fuel s p h0).bind' fun l q hl => ?_
  obtain ⟨fl, q⟩ := q
  cases l with
  | nx s' => obtain ⟨h1, h2⟩ := hl; cases h1; exact r s' q h2
  | bk s' => exact hl.elim
  | rt v => obtain ⟨⟨d, h1⟩, h2⟩ := hl; cases h1; exact rr v d q h2
end
/-! iterables -/
theorem i_over {a : CE} {K : List D → PEnv → RF} (r : Sim (pE cp sg a p fun d p => onO (itD d) fun l => K l p) T Φ) : Sim (pI cp sg (.over a) p K) T Φ := r
theorem i_enum {a : CE} {K : List D → PEnv → RF} (r : Sim (pE cp sg a p fun d p => onO (itD d) fun l => K (enumD l) p) T Φ) : Sim (pI cp sg (.enum a) p K) T Φ := r
theorem i_zip {a b : CE} {K : List D → PEnv → RF} (r : Sim (pE cp sg a p fun d p => pE cp sg b p fun d2 p => onO (itD d) fun l => onO (itD d2) fun m => K (zipD l m) p) T Φ) : Sim (pI cp sg (.zip a b) p K) T Φ := r
theorem i_r1 {a : CE} {K : List D → PEnv → RF} (r : Sim (pO a (pE cp sg a p) p fun x p => onO (x p) fun d => onI d fun b => if ok63 b = true then K (rangeD 0 b) p else .er) T Φ) : Sim (pI cp sg (.range1 a) p K) T Φ := r
theorem i_r2 {a b : CE} {K : List D → PEnv → RF} (r : Sim (pO a (pE cp sg a p) p fun x p => pO b (pE cp sg b p) p fun y p => onO (x p) fun d => onI d fun i => onO (y p) fun d => onI d fun j => if ok63 i = true ∧ ok63 j = true then K (rangeD i j) p else .er) T Φ) : Sim (pI cp sg (.range2 a b) p K) T Φ := r
theorem it_L {α : Type} {f : α → D} {xs : List α} {k : List D → RF} (r : Sim (k (xs.map f)) T Φ) : Sim (onO (itD (eL f xs)) k) T Φ := r
theorem it_T {α : Type} {f : α → D} {xs : List α} {k : List D → RF} (r : Sim (k (xs.map f)) T Φ) : Sim (onO (itD (eT f xs)) k) T Φ := r
theorem it_D {d : D} {k : List D → RF} {T : List D → R β} (r : ∀ l : List D, Sim (k (l.map eD)) (T l) Φ) : Sim (onO (itD d) k) ((seqR d).bind T) Φ :=
  q_opt fun l => by have := r l; rw [List.map_id'] at this; exact this
theorem q_r1 {b : Int} {k : List D → RF} {T : List Int → R β} (r : ∀ l : List Int, Sim (k (l.map .int)) (T l) Φ) : Sim (if ok63 b = true then k (rangeD 0 b) else .er) ((rng1R b).bind T) Φ := by
  unfold rng1R
  split
  · rw [rng_map]; exact r _
  · trivial
theorem q_r2 {a b : Int} {k : List D → RF} {T : List Int → R β} (r : ∀ l : List Int, Sim (k (l.map .int)) (T l) Φ) : Sim (if ok63 a = true ∧ ok63 b = true then k (rangeD a b) else .er) ((rng2R a b).bind T) Φ := by
  unfold rng2R
  split
  · rw [rng_map]; exact r _
  · trivial
theorem en_m {α : Type} {f : α → D} {xs : List α} {k : List D → RF} (r : Sim (k ((enumT xs).map (e2 .int f))) T Φ) : Sim (k (enumD (xs.map f))) T Φ := by rw [enum_map]; exact r
theorem zp_m {α γ : Type} {f : α → D} {g : γ → D} {xs : List α} {ys : List γ} {k : List D → RF} (r : Sim (k ((xs.zip ys).map (e2 f g))) T Φ) : Sim (k (zipD (xs.map f) (ys.map g))) T Φ := by rw [zip_map]; exact r
/-! comprehensions -/
theorem s_comp {own : List Nat} {t : Tg} {it : It} {c : Option CE} {f : CE} {K : D → PEnv → RF} (r : Sim (pI cp sg it p fun items p => bdV (noExP (pcomp own (fun x p => pAsg cp sg t x p fun p => pQ cp sg c p fun b p => if b = true then pE cp sg f p ret else nxK p) items [] (pWipe p own))) fun d p2 => K d (pUnwipe p p2 own)) T Φ) : Sim (pE cp sg (.comp own t it c f) p K) T Φ := r
theorem q_none {K : Bool → PEnv → RF} (r : Sim (K true p) T Φ) : Sim (pQ cp sg none p K) T Φ := r
theorem q_some {q : CE} {K : Bool → PEnv → RF} (r : Sim (pTst q (pE cp sg q p) p K) T Φ) : Sim (pQ cp sg (some q) p K) T Φ := r
theorem s_tt {x y : RF} (r : Sim x T Φ) : Sim (if true = true then x else y) T Φ := r
section
variable {α γ σ : Type} {φ : α → D} {ψ : γ → D} {own : List Nat} {st : D → PEnv → RF} {S : σ → PEnv → Prop}
theorem sim_filS {f : σ → α → R (Option γ × σ)} : ∀ (xs : List α) (acc : List γ) (s : σ) (p : PEnv), S s p → acc.length + xs.length ≤ sizeLine →
    (∀ x s p, x ∈ xs → S s p → Sim (st (φ x) p) (f s x) fun y r => (match y.1 with | some v => r.1 = .rt (ψ v) | none => r.1 = .nx) ∧ S y.2 (pWipe r.2 own)) →
    Sim (pcomp own st (xs.map φ) (acc.map ψ) p) (filSG f xs s) fun ys r => r.1 = Fo.rt (.list ((acc ++ ys.1).map ψ)) ∧ S ys.2 r.2
  | [], acc, s, p, h0, _, _ => ⟨_, rfl, by simp, h0⟩
  | x :: xs, acc, s, p, h0, hl, h => by
    show Sim ((st (φ x) p).bind _) ((f s x).bind _) _
    refine (h x s p List.mem_cons_self h0).bind' fun y r hy => ?_
    obtain ⟨y, s'⟩ := y
    obtain ⟨fl, q⟩ := r
    obtain ⟨h1, h2⟩ := hy
    rw [List.length_cons] at hl
    have h' : ∀ x s p, x ∈ xs → S s p → _ := fun x s p hx => h x s p (List.mem_cons_of_mem _ hx)
    cases y with
    | some v =>
      cases h1
      dsimp only
      rw [if_pos (by rw [List.length_map]; omega)]
      have ih := sim_filS xs (acc ++ [v]) s' _ h2 (by rw [List.length_append]; simp; omega) h'
      rw [List.map_append] at ih
      have := ih.bind' (f := fun a => .ok a) (g := fun ys => .ok (v :: ys.1, ys.2)) (Ψ := fun ys r => r.1 = Fo.rt (.list ((acc ++ ys.1).map ψ)) ∧ S ys.2 r.2) fun b a ⟨q1, q2⟩ => ⟨a, rfl, by rw [q1]; simp, q2⟩
      have e : ∀ m : RF, (m.bind fun a => .ok a) = m := fun m => by cases m <;> rfl
      rw [e] at this
      exact this
    | none =>
      cases h1
      dsimp only
      have ih := sim_filS xs acc s' _ h2 (by omega) h'
      have := ih.bind' (f := fun a => .ok a) (g := fun ys => .ok (ys.1, ys.2)) (Ψ := fun ys r => r.1 = Fo.rt (.list ((acc ++ ys.1).map ψ)) ∧ S ys.2 r.2) fun b a ⟨q1, q2⟩ => ⟨a, rfl, q1, q2⟩
      have e : ∀ m : RF, (m.bind fun a => .ok a) = m := fun m => by cases m <;> rfl
      rw [e] at this
      exact this
theorem sim_noX {α β : Type} {p : RF} {t : R β} {Ψ : β → PF → Prop} (h : Sim p t Ψ) : Sim (noExP p) (noX t) Ψ := by
  cases t with
  | ok b => obtain ⟨a, rfl, q⟩ := h; exact ⟨a, rfl, q⟩
  | ex x => trivial
  | er => trivial
theorem c_filS {f : σ → α → R (Option γ × σ)} {xs : List α} {s : σ} {p0 : PEnv} {k : D → PEnv → RF} {T : List γ × σ → R β} (h0 : S s p0)
    (h : ∀ x s p, x ∈ xs → S s p → Sim (st (φ x) p) (f s x) fun y r => (match y.1 with | some v => r.1 = .rt (ψ v) | none => r.1 = .nx) ∧ S y.2 (pWipe r.2 own))
    (r : ∀ ys s p, S s p → Sim (k (eL ψ ys) p) (T (ys, s)) Φ) : Sim (bdV (noExP (pcomp own st (xs.map φ) [] p0)) k) ((filS xs s f).bind T) Φ := by
  unfold filS
  split
  · have := sim_noX (α := Nat) (sim_filS (ψ := ψ) (own := own) xs [] s p0 h0 (by simpa using (by assumption)) h)
    refine this.bind' fun b a ⟨q1, q2⟩ => ?_
    obtain ⟨fl, q⟩ := a
    cases q1
    exact r b.1 b.2 q q2
  · trivial
theorem filS_mapS {f : σ → α → R (γ × σ)} : ∀ (xs : List α) (s : σ), filSG (fun s x => (f s x).bind fun q => .ok (some q.1, q.2)) xs s = mapSG f xs s
  | [], s => rfl
  | x :: xs, s => by
    show (((f s x).bind _).bind _) = ((f s x).bind _)
    cases f s x with
    | ok q => show ((filSG _ xs q.2).bind _) = _; rw [filS_mapS xs q.2]; rfl
    | ex _ => rfl
    | er => rfl
theorem c_mapS {f : σ → α → R (γ × σ)} {xs : List α} {s : σ} {p0 : PEnv} {k : D → PEnv → RF} {T : List γ × σ → R β} (h0 : S s p0)
    (h : ∀ x s p, x ∈ xs → S s p → Sim (st (φ x) p) (f s x) fun y r => r.1 = .rt (ψ y.1) ∧ S y.2 (pWipe r.2 own))
    (r : ∀ ys s p, S s p → Sim (k (eL ψ ys) p) (T (ys, s)) Φ) : Sim (bdV (noExP (pcomp own st (xs.map φ) [] p0)) k) ((mapS xs s f).bind T) Φ := by
  have e : mapS xs s f = filS xs s (fun s x => (f s x).bind fun q => .ok (some q.1, q.2)) := by unfold mapS filS; rw [filS_mapS]
  rw [e]
  refine c_filS h0 (fun x s p hx hs => ?_) r
  have := (h x s p hx hs).bind' (f := fun a => .ok a) (g := fun q => .ok (some q.1, q.2)) (Ψ := fun y r => (match y.1 with | some v => r.1 = .rt (ψ v) | none => r.1 = .nx) ∧ S y.2 (pWipe r.2 own)) fun b a ⟨q1, q2⟩ => ⟨a, rfl, q1, q2⟩
  have e : ∀ m : RF, (m.bind fun a => .ok a) = m := fun m => by cases m <;> rfl
  rw [e] at this
  exact this
theorem filG_S {f : α → R (Option γ)} : ∀ (xs : List α), filSG (fun (s : Unit) x => (f x).bind fun q => .ok (q, s)) xs () = (filG f xs).bind fun ys => .ok (ys, ())
  | [] => rfl
  | x :: xs => by
    show (((f x).bind _).bind _) = ((f x).bind _).bind _
    cases f x with
    | ok q =>
      show ((filSG _ xs ()).bind _) = _
      rw [filG_S xs]
      show _ = ((filG f xs).bind _).bind _
      cases filG f xs <;> rfl
    | ex _ => rfl
    | er => rfl
theorem c_fil {f : α → R (Option γ)} {xs : List α} {p0 : PEnv} {k : D → PEnv → RF} {T : List γ → R β}
    (h : ∀ x, x ∈ xs → Sim (st (φ x) p0) (f x) fun y r => (match y with | some v => r.1 = .rt (ψ v) | none => r.1 = .nx) ∧ pWipe r.2 own = p0)
    (r : ∀ ys, Sim (k (eL ψ ys) p0) (T ys) Φ) : Sim (bdV (noExP (pcomp own st (xs.map φ) [] p0)) k) ((filR xs f).bind T) Φ := by
  have e : (filR xs f).bind T = (filS xs () (fun (s : Unit) x => (f x).bind fun q => .ok (q, s))).bind fun ys => T ys.1 := by
    unfold filR filS
    rw [filG_S]
    split
    · cases filG f xs <;> rfl
    · rfl
  rw [e]
  refine c_filS (S := fun _ p => p = p0) rfl (fun x s p hx hs => ?_) (fun ys s p hp => by subst hp; exact r ys)
  subst hs
  have := (h x hx).bind' (f := fun a => .ok a) (g := fun q => .ok (q, s)) (Ψ := fun y r => (match y.1 with | some v => r.1 = .rt (ψ v) | none => r.1 = .nx) ∧ pWipe r.2 own = p) fun b a ⟨q1, q2⟩ => ⟨a, rfl, q1, q2⟩
  have e : ∀ m : RF, (m.bind fun a => .ok a) = m := fun m => by cases m <;> rfl
  rw [e] at this
  exact this
theorem mapG_fil {f : α → R γ} : ∀ (xs : List α), filG (fun x => (f x).bind fun q => .ok (some q)) xs = mapG f xs
  | [] => rfl
  | x :: xs => by
    show (((f x).bind _).bind _) = ((f x).bind _)
    cases f x with
    | ok q => show ((filG _ xs).bind _) = _; rw [mapG_fil xs]; rfl
    | ex _ => rfl
    | er => rfl
theorem c_map {f : α → R γ} {xs : List α} {p0 : PEnv} {k : D → PEnv → RF} {T : List γ → R β}
    (h : ∀ x, x ∈ xs → Sim (st (φ x) p0) (f x) fun y r => r.1 = .rt (ψ y) ∧ pWipe r.2 own = p0)
    (r : ∀ ys, Sim (k (eL ψ ys) p0) (T ys) Φ) : Sim (bdV (noExP (pcomp own st (xs.map φ) [] p0)) k) ((mapR xs f).bind T) Φ := by
  have e : mapR xs f = filR xs (fun x => (f x).bind fun q => .ok (some q)) := by unfold mapR filR; rw [mapG_fil]
  rw [e]
  refine c_fil (fun x hx => ?_) r
  have := (h x hx).bind' (f := fun a => .ok a) (g := fun q => .ok (some q)) (Ψ := fun y r => (match y with | some v => r.1 = .rt (ψ v) | none => r.1 = .nx) ∧ pWipe r.2 own = p0) fun b a ⟨q1, q2⟩ => ⟨a, rfl, q1, q2⟩
  have e : ∀ m : RF, (m.bind fun a => .ok a) = m := fun m => by cases m <;> rfl
  rw [e] at this
  exact this
end
/-! defs -/
theorem fn_ok {α : Type} {t : R α} {F : α → D × PEnv} {g : Sig} {fd : FD} {as : List D} (hl : as.length = fd.np) (h : Sim (pSs cp sg g.nl fuel fd.body (as.map some ++ List.replicate (fd.nl - fd.np) none) nxK) t fun b r => endOf g.pm r = some (F b)) : Sim (runP cp sg g fuel fd as) t fun b r => r = F b := by
  unfold runP
  rw [if_pos hl]
  cases t with
  | ok b =>
    obtain ⟨a, e, q⟩ := h
    refine ⟨F b, ?_, rfl⟩
    rw [e]
    show (match endOf g.pm a with | some x => R.ok x | none => .er) = _
    rw [q]
  | ex x =>
    have h' : _ = R.ex x := h
    show endP _ _ = _
    rw [h']
    rfl
  | er => trivial
end
end Cr
set_option Elab.async false
set_option linter.all false
set_option maxRecDepth 100000
set_option maxHeartbeats 4000000
/-! More typed rules: those in which the places come out told. -/
namespace Cr
open PySem
def fuelT : Nat := 2 ^ 64
/-- behind a loop that may leave the def -/
def lpB {σ ρ β : Type} (m : R (Lp σ ρ)) (k : σ → R β) (r : ρ → R β) : R β := m.bind fun l => match l with | .nx s => k s | .bk _ => .er | .rt v => r v
@[reducible] def optB {α β : Type} (o : Option α) (a : R β) (f : α → R β) : R β := match o with | none => a | some x => f x
@[elab_as_elim] theorem optCs {α : Type} {motive : Option α → Prop} (o : Option α) (h0 : motive none) (h1 : ∀ a, motive (some a)) : motive o := by cases o; exact h0; exact h1 _
abbrev e1 {α : Type} (f : α → D) (p : α) : D := .tuple [f p]
def unp2 {α : Type} : List α → R (α × α)
  | [a, b] => .ok (a, b)
  | _ => .er
def unp3 {α : Type} : List α → R (α × α × α)
  | [a, b, c] => .ok (a, b, c)
  | _ => .er
def unp4 {α : Type} : List α → R (α × α × α × α)
  | [a, b, c, d] => .ok (a, b, c, d)
  | _ => .er
def unpD (n : Nat) (d : D) : R (List D) := tupR n d
section
variable {cp : Nat → List D → R (D × PEnv)} {sg : Nat → Sig} {nl : List Nat} {fuel : Nat} {β : Type} {T : R β} {Φ : β → PF → Prop} {p p' : PEnv}
/-! packed ends -/
def callK (K : D → PEnv → RF) (pm : List Am) (es : List CE) (p : PEnv) (d : D) (outs : PEnv) : RF := K d (pBack pm es outs p)
def callK0 (K : D → PEnv → RF) (p : PEnv) (d : D) (_ : PEnv) : RF := K d p
def mmK (K : D → PEnv → RF) (i : Nat) (p : PEnv) (r : D × D) : RF := K r.2 (p.set i (some r.1))
def putK (K : PEnv → RF) (i : Nat) (p : PEnv) (d : D) : RF := K (p.set i (some d))
def compK (K : D → PEnv → RF) (p : PEnv) (own : List Nat) (d : D) (p2 : PEnv) : RF := K d (pUnwipe p p2 own)
theorem s_callP {f : Nat} {es : List CE} {K : D → PEnv → RF} (r : Sim (pG cp sg es p fun gs p => onO (pGets gs p) fun as => onC (cp f as) (callK K (sg f).pm es p)) T Φ) : Sim (pE cp sg (.call f es) p K) T Φ := r
theorem s_callkP {f : Nat} {perm : List Nat} {es ks : List CE} {K : D → PEnv → RF} (r : Sim (pG cp sg es p fun g1 p => pG cp sg ks p fun g2 p => onO (pGets (g1 ++ g2) p) fun as => onO (perm.mapM fun i => as[i]?) fun as => onC (cp f as) (callK0 K p)) T Φ) : Sim (pE cp sg (.callk f perm es ks) p K) T Φ := r
theorem s_callX {α : Type} {m : R (D × PEnv)} {t : R α} {F : α → D × PEnv} {K : D → PEnv → RF} {pm : List Am} {es : List CE} {T : α → R β} {d : α → D} {q : α → PEnv} (h : Sim m t fun b r => r = F b) (hd : ∀ b, (F b).1 = d b) (hq : ∀ b, pBack pm es (F b).2 p = q b) (r : ∀ b, Sim (K (d b) (q b)) (T b) Φ) : Sim (onC m (callK K pm es p)) (t.bind T) Φ :=
  s_onC h fun b => by
    show Sim (K (F b).1 (pBack pm es (F b).2 p)) _ _
    rw [hd, hq]
    exact r b
theorem s_onC2 {α : Type} {m : R (D × PEnv)} {t : R α} {F : α → D × PEnv} {K : D → PEnv → RF} {T : α → R β} {d : α → D} (h : Sim m t fun b r => r = F b) (hd : ∀ b, (F b).1 = d b) (r : ∀ b, Sim (K (d b) p) (T b) Φ) : Sim (onC m (callK0 K p)) (t.bind T) Φ :=
  s_onC h fun b => by
    show Sim (K (F b).1 p) _ _
    rw [hd]
    exact r b
theorem s_cmpT {o : CmpOp} {a b : D} {t : Bool} {K : D → RF} (h : cmpD o a b = some t) (r : Sim (K (.bool t)) T Φ) : Sim (onR ((cmpD o a b).map fun b => .fz (.bool b)) K) T Φ := by rw [h]; exact r
theorem s_nameX {i : Nat} {d : D} {K : PEnv → RF} (h : nlOk nl (.name i) d = true) (hp : p.set i (some d) = p') (r : Sim (K p') T Φ) : Sim (if nlOk nl (.name i) d = true then pAsg cp sg (.name i) d p K else .er) T Φ := by subst hp; exact s_name h r
theorem nl_1 {nl : List Nat} {i : Nat} {d : D} (h : nl.contains i = false) : nlOk nl (.name i) d = true := by show (!(nl.contains i) || !isLst d) = true; rw [h]; rfl
theorem nl_2 {nl : List Nat} {i : Nat} {d : D} (h : isLst d = false) : nlOk nl (.name i) d = true := by show (!(nl.contains i) || !isLst d) = true; rw [h]; simp
theorem nls_c {nl : List Nat} {t : Tg} {ts : List Tg} {d : D} {ds : List D} (h : nlOk nl t d = true) (h2 : nlOks nl ts ds = true) : nlOks nl (t :: ts) (d :: ds) = true := by show (nlOk nl t d && nlOks nl ts ds) = true; rw [h, h2]; rfl
theorem isL_O {α : Type} {f : α → D} (h : ∀ a, isLst (f a) = false) (o : Option α) : isLst (eO f o) = false := by
  cases o with
  | none => rfl
  | some a => exact h a
theorem a_nX {i : Nat} {d : D} {K : PEnv → RF} (hp : p.set i (some d) = p') (r : Sim (K p') T Φ) : Sim (pAsg cp sg (.name i) d p K) T Φ := by subst hp; exact r
theorem s_env {b : List CS} {K : PEnv → RF} (hp : p = p') (r : Sim (pSs cp sg nl fuel b p' K) T Φ) : Sim (pSs cp sg nl fuel b p K) T Φ := by subst hp; exact r
/-! changes of a list -/
theorem s_mmP {m : Mm} {i : Nat} {es : List CE} {d : D} {K : D → PEnv → RF} (h : pLook p i = some d) (hl : isLst d = true) (r : Sim (pL cp sg es p fun ds p => onO (pLook p i) fun d => onO (mmD m d ds) (mmK K i p)) T Φ) : Sim (pE cp sg (.mm m i es) p K) T Φ := s_mm h hl r
section
variable {α : Type} {f : α → D} {K : D → PEnv → RF} {i : Nat}
theorem q_appX {a : List α} {x : α} {T : List α → R β} {q : List α → PEnv} (hp : ∀ c, p.set i (some (eL f c)) = q c) (r : ∀ c, Sim (K .none (q c)) (T c) Φ) : Sim (onO (mmD .append (eL f a) [f x]) (mmK K i p)) ((appR a x).bind T) Φ :=
  q_app fun c => by show Sim (K .none (p.set i (some (eL f c)))) _ _; rw [hp]; exact r c
theorem q_extX {a b : List α} {T : List α → R β} {q : List α → PEnv} (hp : ∀ c, p.set i (some (eL f c)) = q c) (r : ∀ c, Sim (K .none (q c)) (T c) Φ) : Sim (onO (mmD .extend (eL f a) [eL f b]) (mmK K i p)) ((extR a b).bind T) Φ :=
  q_ext fun c => by show Sim (K .none (p.set i (some (eL f c)))) _ _; rw [hp]; exact r c
theorem q_popX {a : List α} {T : List α × α → R β} {q : List α × α → PEnv} (hp : ∀ c : List α × α, p.set i (some (eL f c.1)) = q c) (r : ∀ c : List α × α, Sim (K (f c.2) (q c)) (T c) Φ) : Sim (onO (mmD .pop (eL f a) []) (mmK K i p)) ((popR a).bind T) Φ :=
  q_pop fun c => by show Sim (K (f c.2) (p.set i (some (eL f c.1)))) _ _; rw [hp]; exact r c
theorem q_popAtX {a : List α} {j : Int} {T : List α × α → R β} {q : List α × α → PEnv} (hp : ∀ c : List α × α, p.set i (some (eL f c.1)) = q c) (r : ∀ c : List α × α, Sim (K (f c.2) (q c)) (T c) Φ) : Sim (onO (mmD .popAt (eL f a) [.int j]) (mmK K i p)) ((popAtR a j).bind T) Φ :=
  q_popAt fun c => by show Sim (K (f c.2) (p.set i (some (eL f c.1)))) _ _; rw [hp]; exact r c
theorem q_revX {a : List α} (hp : p.set i (some (eL f a.reverse)) = p') (r : Sim (K .none p') T Φ) : Sim (onO (mmD .reverse (eL f a) []) (mmK K i p)) T Φ :=
  q_revm (by show Sim (K .none (p.set i (some (eL f a.reverse)))) _ _; rw [hp]; exact r)
end
theorem a_sP {i : Nat} {a : CE} {d l : D} {K : PEnv → RF} (h : pLook p i = some l) (hl : isLst l = true) (r : Sim (pO a (pE cp sg a p) p fun g p => onO (g p) fun k => onO (pLook p i) fun l => onO (putD l k d) (putK K i p)) T Φ) : Sim (pAsg cp sg (.sub i a) d p K) T Φ := a_s h hl r
theorem q_putX {α : Type} {f : α → D} {K : PEnv → RF} {i : Nat} {a : List α} {j : Int} {x : α} {T : List α → R β} {q : List α → PEnv} (hp : ∀ c, p.set i (some (eL f c)) = q c) (r : ∀ c, Sim (K (q c)) (T c) Φ) : Sim (onO (putD (eL f a) (.int j) (f x)) (putK K i p)) ((putR a j x).bind T) Φ :=
  q_put fun c => by show Sim (K (p.set i (some (eL f c)))) _ _; rw [hp]; exact r c
theorem s_augA {i : Nat} {a : CE} {n : Int} {K : PEnv → RF} (h : pLook p i = some (.int n)) (r : Sim (pO a (pE cp sg a p) p fun y p => onO (y p) fun d => onI d fun m => putK K i p (.int (n + m))) T Φ) : Sim (pS cp sg nl fuel (.aug i .Add a) p K) T Φ := s_aug (d := .int n) h r
theorem s_augS {i : Nat} {a : CE} {n : Int} {K : PEnv → RF} (h : pLook p i = some (.int n)) (r : Sim (pO a (pE cp sg a p) p fun y p => onO (y p) fun d => onI d fun m => putK K i p (.int (n - m))) T Φ) : Sim (pS cp sg nl fuel (.aug i .Sub a) p K) T Φ := s_aug (d := .int n) h r
theorem s_putK {K : PEnv → RF} {i : Nat} {d : D} (hp : p.set i (some d) = p') (r : Sim (K p') T Φ) : Sim (putK K i p d) T Φ := by subst hp; exact r
/-! tuples taken apart -/
section
variable {α : Type} {f : α → D} {K : PEnv → RF} {ts : List Tg}
theorem a_u2 {xs : List α} {T : α × α → R β} (hl : ts.length = 2) (r : ∀ q : α × α, Sim (pAsgs cp sg ts [f q.1, f q.2] p K) (T q) Φ) : Sim (pAsg cp sg (.tup ts) (eT f xs) p K) ((unp2 xs).bind T) Φ := by
  match xs with
  | [a, b] => exact a_t (ds := [f a, f b]) hl.symm (r (a, b))
  | [] => trivial
  | [_] => trivial
  | _ :: _ :: _ :: _ => trivial
theorem a_u3 {xs : List α} {T : α × α × α → R β} (hl : ts.length = 3) (r : ∀ q : α × α × α, Sim (pAsgs cp sg ts [f q.1, f q.2.1, f q.2.2] p K) (T q) Φ) : Sim (pAsg cp sg (.tup ts) (eT f xs) p K) ((unp3 xs).bind T) Φ := by
  match xs with
  | [a, b, c] => exact a_t (ds := [f a, f b, f c]) hl.symm (r (a, b, c))
  | [] => trivial
  | [_] => trivial
  | [_, _] => trivial
  | _ :: _ :: _ :: _ :: _ => trivial
theorem a_u4 {xs : List α} {T : α × α × α × α → R β} (hl : ts.length = 4) (r : ∀ q : α × α × α × α, Sim (pAsgs cp sg ts [f q.1, f q.2.1, f q.2.2.1, f q.2.2.2] p K) (T q) Φ) : Sim (pAsg cp sg (.tup ts) (eT f xs) p K) ((unp4 xs).bind T) Φ := by
  match xs with
  | [a, b, c, d] => exact a_t (ds := [f a, f b, f c, f d]) hl.symm (r (a, b, c, d))
  | [] => trivial
  | [_] => trivial
  | [_, _] => trivial
  | [_, _, _] => trivial
  | _ :: _ :: _ :: _ :: _ :: _ => trivial
theorem a_l2 {xs : List α} {T : α × α → R β} (hl : ts.length = 2) (r : ∀ q : α × α, Sim (pAsgs cp sg ts [f q.1, f q.2] p K) (T q) Φ) : Sim (pAsg cp sg (.tup ts) (eL f xs) p K) ((unp2 xs).bind T) Φ := by
  match xs with
  | [a, b] => exact a_tL (ds := [f a, f b]) hl.symm (r (a, b))
  | [] => trivial
  | [_] => trivial
  | _ :: _ :: _ :: _ => trivial
theorem a_l3 {xs : List α} {T : α × α × α → R β} (hl : ts.length = 3) (r : ∀ q : α × α × α, Sim (pAsgs cp sg ts [f q.1, f q.2.1, f q.2.2] p K) (T q) Φ) : Sim (pAsg cp sg (.tup ts) (eL f xs) p K) ((unp3 xs).bind T) Φ := by
  match xs with
  | [a, b, c] => exact a_tL (ds := [f a, f b, f c]) hl.symm (r (a, b, c))
  | [] => trivial
  | [_] => trivial
  | [_, _] => trivial
  | _ :: _ :: _ :: _ :: _ => trivial
theorem a_l4 {xs : List α} {T : α × α × α × α → R β} (hl : ts.length = 4) (r : ∀ q : α × α × α × α, Sim (pAsgs cp sg ts [f q.1, f q.2.1, f q.2.2.1, f q.2.2.2] p K) (T q) Φ) : Sim (pAsg cp sg (.tup ts) (eL f xs) p K) ((unp4 xs).bind T) Φ := by
  match xs with
  | [a, b, c, d] => exact a_tL (ds := [f a, f b, f c, f d]) hl.symm (r (a, b, c, d))
  | [] => trivial
  | [_] => trivial
  | [_, _] => trivial
  | [_, _, _] => trivial
  | _ :: _ :: _ :: _ :: _ :: _ => trivial
end
/-- a tuple of any parts, taken apart -/
def unpD2 (d : D) : R (D × D) := match d with | .tuple l => unp2 l | .list l => unp2 l | _ => .er
def unpD3 (d : D) : R (D × D × D) := match d with | .tuple l => unp3 l | .list l => unp3 l | _ => .er
def unpD4 (d : D) : R (D × D × D × D) := match d with | .tuple l => unp4 l | .list l => unp4 l | _ => .er
section
variable {K : PEnv → RF} {ts : List Tg}
theorem eT_D (l : List D) : eT eD l = .tuple l := by show PyData.tuple (l.map fun d => d) = _; rw [List.map_id']
theorem eL_D (l : List D) : eL eD l = .list l := by show PyData.list (l.map fun d => d) = _; rw [List.map_id']
theorem a_d2 {d : D} {T : D × D → R β} (hl : ts.length = 2) (r : ∀ q : D × D, Sim (pAsgs cp sg ts [q.1, q.2] p K) (T q) Φ) : Sim (pAsg cp sg (.tup ts) d p K) ((unpD2 d).bind T) Φ := by
  cases d with
  | tuple l => rw [← eT_D l, show unpD2 (eT eD l) = unp2 l from by rw [eT_D]; rfl]; exact a_u2 hl r
  | list l => rw [← eL_D l, show unpD2 (eL eD l) = unp2 l from by rw [eL_D]; rfl]; exact a_l2 hl r
  | _ => trivial
theorem a_d3 {d : D} {T : D × D × D → R β} (hl : ts.length = 3) (r : ∀ q : D × D × D, Sim (pAsgs cp sg ts [q.1, q.2.1, q.2.2] p K) (T q) Φ) : Sim (pAsg cp sg (.tup ts) d p K) ((unpD3 d).bind T) Φ := by
  cases d with
  | tuple l => rw [← eT_D l, show unpD3 (eT eD l) = unp3 l from by rw [eT_D]; rfl]; exact a_u3 hl r
  | list l => rw [← eL_D l, show unpD3 (eL eD l) = unp3 l from by rw [eL_D]; rfl]; exact a_l3 hl r
  | _ => trivial
theorem a_d4 {d : D} {T : D × D × D × D → R β} (hl : ts.length = 4) (r : ∀ q : D × D × D × D, Sim (pAsgs cp sg ts [q.1, q.2.1, q.2.2.1, q.2.2.2] p K) (T q) Φ) : Sim (pAsg cp sg (.tup ts) d p K) ((unpD4 d).bind T) Φ := by
  cases d with
  | tuple l => rw [← eT_D l, show unpD4 (eT eD l) = unp4 l from by rw [eT_D]; rfl]; exact a_u4 hl r
  | list l => rw [← eL_D l, show unpD4 (eL eD l) = unp4 l from by rw [eL_D]; rfl]; exact a_l4 hl r
  | _ => trivial
end
/-! comprehensions -/
theorem s_compP {own : List Nat} {t : Tg} {it : It} {c : Option CE} {f : CE} {K : D → PEnv → RF} (r : Sim (pI cp sg it p fun items p => bdV (noExP (pcomp own (fun x p => pAsg cp sg t x p fun p => pQ cp sg c p fun b p => if b = true then pE cp sg f p ret else nxK p) items [] (pWipe p own))) (compK K p own)) T Φ) : Sim (pE cp sg (.comp own t it c f) p K) T Φ := r
section
variable {α γ σ : Type} {φ : α → D} {ψ : γ → D} {own : List Nat} {st : D → PEnv → RF} {K : D → PEnv → RF} {p0 pe : PEnv}
theorem c_mapX {f : α → R γ} {xs : List α} {T : List γ → R β} (h0 : pWipe p own = p0) (he : pUnwipe p p0 own = pe)
    (h : ∀ x, x ∈ xs → Sim (st (φ x) p0) (f x) fun y r => r.1 = .rt (ψ y) ∧ pWipe r.2 own = p0)
    (r : ∀ ys, Sim (K (eL ψ ys) pe) (T ys) Φ) : Sim (bdV (noExP (pcomp own st (xs.map φ) [] (pWipe p own))) (compK K p own)) ((mapR xs f).bind T) Φ := by
  subst h0 he
  exact c_map h r
theorem c_filX {f : α → R (Option γ)} {xs : List α} {T : List γ → R β} (h0 : pWipe p own = p0) (he : pUnwipe p p0 own = pe)
    (h : ∀ x, x ∈ xs → Sim (st (φ x) p0) (f x) fun y r => (match y with | some v => r.1 = .rt (ψ v) | none => r.1 = .nx) ∧ pWipe r.2 own = p0)
    (r : ∀ ys, Sim (K (eL ψ ys) pe) (T ys) Φ) : Sim (bdV (noExP (pcomp own st (xs.map φ) [] (pWipe p own))) (compK K p own)) ((filR xs f).bind T) Φ := by
  subst h0 he
  exact c_fil h r
theorem c_mapSX {w pe : σ → PEnv} {f : σ → α → R (γ × σ)} {xs : List α} {s : σ} {T : List γ × σ → R β} (h0 : pWipe p own = w s) (he : ∀ s, pUnwipe p (w s) own = pe s)
    (h : ∀ x s, x ∈ xs → Sim (st (φ x) (w s)) (f s x) fun y r => r.1 = .rt (ψ y.1) ∧ pWipe r.2 own = w y.2)
    (r : ∀ b : List γ × σ, Sim (K (eL ψ b.1) (pe b.2)) (T b) Φ) : Sim (bdV (noExP (pcomp own st (xs.map φ) [] (pWipe p own))) (compK K p own)) ((mapS xs s f).bind T) Φ :=
  c_mapS (S := fun s p => p = w s) h0 (fun x s p hx hs => by subst hs; exact h x s hx) fun ys s p hs => by subst hs; show Sim (K (eL ψ ys) (pUnwipe _ (w s) own)) _ _; rw [he]; exact r (ys, s)
theorem c_filSX {w pe : σ → PEnv} {f : σ → α → R (Option γ × σ)} {xs : List α} {s : σ} {T : List γ × σ → R β} (h0 : pWipe p own = w s) (he : ∀ s, pUnwipe p (w s) own = pe s)
    (h : ∀ x s, x ∈ xs → Sim (st (φ x) (w s)) (f s x) fun y r => (match y.1 with | some v => r.1 = .rt (ψ v) | none => r.1 = .nx) ∧ pWipe r.2 own = w y.2)
    (r : ∀ b : List γ × σ, Sim (K (eL ψ b.1) (pe b.2)) (T b) Φ) : Sim (bdV (noExP (pcomp own st (xs.map φ) [] (pWipe p own))) (compK K p own)) ((filS xs s f).bind T) Φ :=
  c_filS (S := fun s p => p = w s) h0 (fun x s p hx hs => by subst hs; exact h x s hx) fun ys s p hs => by subst hs; show Sim (K (eL ψ ys) (pUnwipe _ (w s) own)) _ _; rw [he]; exact r (ys, s)
end
/-! ways that meet again, loops: places told by a function of the state and of what is left over -/
section
variable {cp : Nat → List D → R (D × PEnv)} {sg : Nat → Sig} {nl : List Nat} {fuel : Nat} {β : Type} {T : R β} {Φ : β → PF → Prop} {p p' : PEnv}
theorem s_ifJX {c : CE} {a b : List CS} {K : PEnv → RF} {α γ : Type} {w : α → γ → PEnv} {t : R α} {T : α → R β}
    (h : Sim (pTst c (pE cp sg c p) p fun t p => if t = true then pSs cp sg nl fuel a p nxK else pSs cp sg nl fuel b p nxK) t fun b r => r.1 = .nx ∧ ∃ g, r.2 = w b g) (r : ∀ b g, Sim (K (w b g)) (T b) Φ) : Sim (pS cp sg nl fuel (.ife c a b) p K) (t.bind T) Φ :=
  s_ifJ (S := fun b p => ∃ g, p = w b g) h fun b p ⟨g, e⟩ => e ▸ r b g
variable {α σ ρ γ : Type} {φ : α → D} {st : D → PEnv → RF} {K : PEnv → RF} {w : σ → γ → PEnv}
theorem w_forX {f : σ → α → R σ} {xs : List α} {s : σ} {T : σ → R β} (g0 : γ) (h0 : p = w s g0) (h : ∀ x s g, x ∈ xs → Sim (st (φ x) (w s g)) (f s x) fun s' r => (r.1 = .nx ∨ r.1 = .ct) ∧ ∃ g, r.2 = w s' g) (r : ∀ s g, Sim (K (w s g)) (T s) Φ) : Sim (bdS (pfor st (xs.map φ) p) K) ((forT f xs s).bind T) Φ :=
  w_for (S := fun s p => ∃ g, p = w s g) ⟨g0, h0⟩ (fun x s p hx ⟨g, e⟩ => e ▸ h x s g hx) fun s p ⟨g, e⟩ => e ▸ r s g
theorem w_forFX {Θ : ρ → PF → Prop} {f : σ → α → R (Lp σ ρ)} {xs : List α} {s : σ} {T : Lp σ ρ → R β} (g0 : γ) (h0 : p = w s g0)
    (h : ∀ x s g, x ∈ xs → Sim (st (φ x) (w s g)) (f s x) fun l r => match l with | .nx s' => (r.1 = .nx ∨ r.1 = .ct) ∧ ∃ g, r.2 = w s' g | .bk s' => r.1 = .bk ∧ ∃ g, r.2 = w s' g | .rt v => (∃ d, r.1 = .rt d) ∧ Θ v r)
    (r : ∀ s g, Sim (K (w s g)) (T (.nx s)) Φ) (rr : ∀ v d p, Θ v (.rt d, p) → Sim (ret d p) (T (.rt v)) Φ) : Sim (bdS (pfor st (xs.map φ) p) K) ((forF f xs s).bind T) Φ :=
  w_forF (S := fun s p => ∃ g, p = w s g) ⟨g0, h0⟩ (fun x s p hx ⟨g, e⟩ => e ▸ h x s g hx) (fun s p ⟨g, e⟩ => e ▸ r s g) rr
theorem w_whileFX {Θ : ρ → PF → Prop} {wst : PEnv → RF} {f : σ → R (Lp σ ρ)} {s : σ} {T : Lp σ ρ → R β} (g0 : γ) (h0 : p = w s g0)
    (h : ∀ s g, Sim (wst (w s g)) (f s) fun l r => match l with | .nx s' => (r.1 = .nx ∨ r.1 = .ct) ∧ ∃ g, r.2 = w s' g | .bk s' => r.1 = .bk ∧ ∃ g, r.2 = w s' g | .rt v => (∃ d, r.1 = .rt d) ∧ Θ v r)
    (r : ∀ s g, Sim (K (w s g)) (T (.nx s)) Φ) (rr : ∀ v d p, Θ v (.rt d, p) → Sim (ret d p) (T (.rt v)) Φ) : Sim (bdS (pwhile wst fuel p) K) ((whileF f fuel s).bind T) Φ :=
  w_whileF (S := fun s p => ∃ g, p = w s g) ⟨g0, h0⟩ (fun s p ⟨g, e⟩ => e ▸ h s g) (fun s p ⟨g, e⟩ => e ▸ r s g) rr
end
end
/-! packed loops and comprehensions -/
def forK (st : D → PEnv → RF) (K : PEnv → RF) (items : List D) (p : PEnv) : RF := bdS (pfor st items p) K
def cmpK (own : List Nat) (st : D → PEnv → RF) (K : D → PEnv → RF) (items : List D) (p : PEnv) : RF := bdV (noExP (pcomp own st items [] (pWipe p own))) (compK K p own)
section
variable {cp : Nat → List D → R (D × PEnv)} {sg : Nat → Sig} {nl : List Nat} {fuel : Nat} {β : Type} {T : R β} {Φ : β → PF → Prop} {p p' : PEnv}
theorem s_forP {t : Tg} {it : It} {b : List CS} {K : PEnv → RF} (r : Sim (pI cp sg it p (forK (fun x p => pAsg cp sg t x p fun p => pSs cp sg nl fuel b p nxK) K)) T Φ) : Sim (pS cp sg nl fuel (.for_ t it b) p K) T Φ := r
theorem s_compQ {own : List Nat} {t : Tg} {it : It} {c : Option CE} {f : CE} {K : D → PEnv → RF} (r : Sim (pI cp sg it p (cmpK own (fun x p => pAsg cp sg t x p fun p => pQ cp sg c p fun b p => if b = true then pE cp sg f p ret else nxK p) K)) T Φ) : Sim (pE cp sg (.comp own t it c f) p K) T Φ := r
section
variable {Kl : List D → PEnv → RF}
theorem i_r1P {a : CE} (r : Sim (pO a (pE cp sg a p) p fun x p => onO (x p) fun d => onI d fun b => if ok63 b = true then Kl (rangeD 0 b) p else .er) T Φ) : Sim (pI cp sg (.range1 a) p Kl) T Φ := r
theorem q_r1P {b : Int} {T : List Int → R β} (r : ∀ l : List Int, Sim (Kl (l.map .int) p) (T l) Φ) : Sim (if ok63 b = true then Kl (rangeD 0 b) p else .er) ((rng1R b).bind T) Φ := q_r1 (k := fun l => Kl l p) r
theorem q_r2P {a b : Int} {T : List Int → R β} (r : ∀ l : List Int, Sim (Kl (l.map .int) p) (T l) Φ) : Sim (if ok63 a = true ∧ ok63 b = true then Kl (rangeD a b) p else .er) ((rng2R a b).bind T) Φ := q_r2 (k := fun l => Kl l p) r
theorem en_mP {α : Type} {f : α → D} {xs : List α} (r : Sim (Kl ((enumT xs).map (e2 .int f)) p) T Φ) : Sim (Kl (enumD (xs.map f)) p) T Φ := en_m (k := fun l => Kl l p) r
theorem zp_mP {α γ : Type} {f : α → D} {g : γ → D} {xs : List α} {ys : List γ} (r : Sim (Kl ((xs.zip ys).map (e2 f g)) p) T Φ) : Sim (Kl (zipD (xs.map f) (ys.map g)) p) T Φ := zp_m (k := fun l => Kl l p) r
end
section
variable {α σ ρ γ : Type} {φ : α → D} {st : D → PEnv → RF} {K : PEnv → RF} {w : σ → γ → PEnv}
theorem w_forY {f : σ → α → R σ} {xs : List α} {s : σ} {T : σ → R β} (g0 : γ) (h0 : p = w s g0) (h : ∀ x s g, x ∈ xs → Sim (st (φ x) (w s g)) (f s x) fun s' r => (r.1 = .nx ∨ r.1 = .ct) ∧ ∃ g, r.2 = w s' g) (r : ∀ s g, Sim (K (w s g)) (T s) Φ) : Sim (forK st K (xs.map φ) p) ((forT f xs s).bind T) Φ := w_forX g0 h0 h r
theorem w_forFY {Θ : ρ → PF → Prop} {f : σ → α → R (Lp σ ρ)} {xs : List α} {s : σ} {T : Lp σ ρ → R β} (g0 : γ) (h0 : p = w s g0)
    (h : ∀ x s g, x ∈ xs → Sim (st (φ x) (w s g)) (f s x) fun l r => match l with | .nx s' => (r.1 = .nx ∨ r.1 = .ct) ∧ ∃ g, r.2 = w s' g | .bk s' => r.1 = .bk ∧ ∃ g, r.2 = w s' g | .rt v => (∃ d, r.1 = .rt d) ∧ Θ v r)
    (r : ∀ s g, Sim (K (w s g)) (T (.nx s)) Φ) (rr : ∀ v d p, Θ v (.rt d, p) → Sim (ret d p) (T (.rt v)) Φ) : Sim (forK st K (xs.map φ) p) ((forF f xs s).bind T) Φ := w_forFX g0 h0 h r rr
end
section
variable {α γ σ : Type} {φ : α → D} {ψ : γ → D} {own : List Nat} {st : D → PEnv → RF} {K : D → PEnv → RF} {p0 pe : PEnv}
theorem c_mapY {f : α → R γ} {xs : List α} {T : List γ → R β} (h0 : pWipe p own = p0) (he : pUnwipe p p0 own = pe)
    (h : ∀ x, x ∈ xs → Sim (st (φ x) p0) (f x) fun y r => r.1 = .rt (ψ y) ∧ pWipe r.2 own = p0)
    (r : ∀ ys, Sim (K (eL ψ ys) pe) (T ys) Φ) : Sim (cmpK own st K (xs.map φ) p) ((mapR xs f).bind T) Φ := c_mapX h0 he h r
theorem c_filY {f : α → R (Option γ)} {xs : List α} {T : List γ → R β} (h0 : pWipe p own = p0) (he : pUnwipe p p0 own = pe)
    (h : ∀ x, x ∈ xs → Sim (st (φ x) p0) (f x) fun y r => (match y with | some v => r.1 = .rt (ψ v) | none => r.1 = .nx) ∧ pWipe r.2 own = p0)
    (r : ∀ ys, Sim (K (eL ψ ys) pe) (T ys) Φ) : Sim (cmpK own st K (xs.map φ) p) ((filR xs f).bind T) Φ := c_filX h0 he h r
theorem c_mapSY {w pe : σ → PEnv} {f : σ → α → R (γ × σ)} {xs : List α} {s : σ} {T : List γ × σ → R β} (h0 : pWipe p own = w s) (he : ∀ s, pUnwipe p (w s) own = pe s)
    (h : ∀ x s, x ∈ xs → Sim (st (φ x) (w s)) (f s x) fun y r => r.1 = .rt (ψ y.1) ∧ pWipe r.2 own = w y.2)
    (r : ∀ b : List γ × σ, Sim (K (eL ψ b.1) (pe b.2)) (T b) Φ) : Sim (cmpK own st K (xs.map φ) p) ((mapS xs s f).bind T) Φ := c_mapSX h0 he h r
theorem c_filSY {w pe : σ → PEnv} {f : σ → α → R (Option γ × σ)} {xs : List α} {s : σ} {T : List γ × σ → R β} (h0 : pWipe p own = w s) (he : ∀ s, pUnwipe p (w s) own = pe s)
    (h : ∀ x s, x ∈ xs → Sim (st (φ x) (w s)) (f s x) fun y r => (match y.1 with | some v => r.1 = .rt (ψ v) | none => r.1 = .nx) ∧ pWipe r.2 own = w y.2)
    (r : ∀ b : List γ × σ, Sim (K (eL ψ b.1) (pe b.2)) (T b) Φ) : Sim (cmpK own st K (xs.map φ) p) ((filS xs s f).bind T) Φ := c_filSX h0 he h r
end
end
def strR : D → R Str
  | .str i => .ok i
  | _ => .er
section
variable {β : Type} {Φ : β → PF → Prop}
theorem q_coI {p : D → RF} {T : Int → R β} (d : D) (r : ∀ c, Sim (p (.int c)) (T c) Φ) : Sim (p d) ((intR d).bind T) Φ := by
  cases d <;> first | exact r _ | trivial
theorem q_coB {p : D → RF} {T : Bool → R β} (d : D) (r : ∀ c, Sim (p (.bool c)) (T c) Φ) : Sim (p d) ((boolR d).bind T) Φ := by
  cases d <;> first | exact r _ | trivial
theorem q_coS {p : D → RF} {T : Str → R β} (d : D) (r : ∀ c, Sim (p (.str c)) (T c) Φ) : Sim (p d) ((strR d).bind T) Φ := by
  cases d <;> first | exact r _ | trivial
end
/-! ranges as values, methods that look, new lists handed on -/
@[irreducible] def lrR (b : Int) : R (List Int) := if ok63 b = true ∧ b ≤ 1000000 then .ok (rngI 0 b) else .er
@[irreducible] def lr2R (a b : Int) : R (List Int) := if ok63 a = true ∧ ok63 b = true ∧ b - a ≤ 1000000 then .ok (rngI a b) else .er
@[irreducible] def idxR (xs : List Int) (y : Int) : R Int := ofO ((xs.findIdx? fun x => decide (x = y)).map fun n => (n : Int))
section
variable {cp : Nat → List D → R (D × PEnv)} {sg : Nat → Sig} {nl : List Nat} {fuel : Nat} {β : Type} {T : R β} {Φ : β → PF → Prop} {p p' : PEnv}
theorem q_lr1 {b : Int} {K : D → RF} {T : List Int → R β} (r : ∀ c, Sim (K (eL .int c)) (T c) Φ) : Sim (onR (bltD .listRange1 [.int b]) K) ((lrR b).bind T) Φ :=
  q_of (f := eL .int) (by unfold lrR; show (if ok63 b = true ∧ b ≤ 1000000 then some (Rv.fr (.list (rangeD 0 b))) else none).map Rv.d = _; split <;> first | rfl | (rw [rng_map]; rfl)) (fun x => by unfold lrR; split <;> exact fun h => by cases h) r
theorem q_lr2 {a b : Int} {K : D → RF} {T : List Int → R β} (r : ∀ c, Sim (K (eL .int c)) (T c) Φ) : Sim (onR (bltD .listRange2 [.int a, .int b]) K) ((lr2R a b).bind T) Φ :=
  q_of (f := eL .int) (by unfold lr2R; show (if ok63 a = true ∧ ok63 b = true ∧ b - a ≤ 1000000 then some (Rv.fr (.list (rangeD a b))) else none).map Rv.d = _; split <;> first | rfl | (rw [rng_map]; rfl)) (fun x => by unfold lr2R; split <;> exact fun h => by cases h) r
theorem q_tr1 {b : Int} {K : D → RF} {T : List Int → R β} (r : ∀ c, Sim (K (eT .int c)) (T c) Φ) : Sim (onR (bltD .tupRange1 [.int b]) K) ((lrR b).bind T) Φ :=
  q_of (f := eT .int) (by unfold lrR; show (if ok63 b = true ∧ b ≤ 1000000 then some (Rv.fz (.tuple (rangeD 0 b))) else none).map Rv.d = _; split <;> first | rfl | (rw [rng_map]; rfl)) (fun x => by unfold lrR; split <;> exact fun h => by cases h) r
theorem q_tr2 {a b : Int} {K : D → RF} {T : List Int → R β} (r : ∀ c, Sim (K (eT .int c)) (T c) Φ) : Sim (onR (bltD .tupRange2 [.int a, .int b]) K) ((lr2R a b).bind T) Φ :=
  q_of (f := eT .int) (by unfold lr2R; show (if ok63 a = true ∧ ok63 b = true ∧ b - a ≤ 1000000 then some (Rv.fz (.tuple (rangeD a b))) else none).map Rv.d = _; split <;> first | rfl | (rw [rng_map]; rfl)) (fun x => by unfold lr2R; split <;> exact fun h => by cases h) r
theorem all_scal : ∀ xs : List Int, (xs.map PyData.int).all isScal = true
  | [] => rfl
  | x :: xs => by rw [List.map_cons, List.all_cons, all_scal xs]; rfl
theorem idx_map (y : Int) : ∀ xs : List Int, (xs.map PyData.int).findIdx? (fun x => PyData.eqv x (.int y)) = xs.findIdx? fun x => decide (x = y)
  | [] => rfl
  | x :: xs => by
    rw [List.map_cons, List.findIdx?_cons, List.findIdx?_cons, idx_map y xs]
    rfl
theorem q_idx {xs : List Int} {y : Int} {K : D → RF} {T : Int → R β} (r : ∀ c, Sim (K (.int c)) (T c) Φ) : Sim (onR (vmD .index (eL .int xs) [.int y]) K) ((idxR xs y).bind T) Φ := by
  unfold idxR
  refine q_o (f := PyData.int) ?_ r
  show (if isScal (.int y) = true ∧ (xs.map PyData.int).all isScal = true then _ else none) = _
  rw [if_pos ⟨rfl, all_scal xs⟩, idx_map]
  cases xs.findIdx? fun x => decide (x = y) <;> rfl
theorem cnt_L {xs : List Int} {y : Int} : vmD .count (eL .int xs) [.int y] = some (.fz (.int (xs.count y : Nat))) := by
  show (intsD (xs.map PyData.int)).map _ = _
  rw [ints_mapT]
  rfl
theorem s_vmP {m : Vm} {a : CE} {es : List CE} {K : D → PEnv → RF} (r : Sim (pO a (pE cp sg a p) p fun x p => onO (x p) fun d => if isLst d = true then pG cp sg es p fun gs p => onO (pGets (x :: gs) p) fun ds => onR (match ds with | d :: r => vmD m d r | [] => none) fun r => K r p else .er) T Φ) : Sim (pE cp sg (.vm m a es) p K) T Φ := r
theorem s_call1P {f : Nat} {a : CE} {K : D → PEnv → RF} (r : Sim (pE cp sg a p fun d p => onC (cp f [d]) (callK0 K p)) T Φ) : Sim (pE cp sg (.call1 f a) p K) T Φ := r
end
section
variable {cp : Nat → List D → R (D × PEnv)} {sg : Nat → Sig} {nl : List Nat} {fuel : Nat} {β : Type} {T : R β} {Φ : β → PF → Prop} {p p' : PEnv}
variable {α σ ρ γ : Type} {φ : α → D} {st : D → PEnv → RF} {K : PEnv → RF} {w : σ → γ → PEnv}
theorem w_forFZ {Θ : ρ → PF → Prop} {f : σ → α → R (Lp σ ρ)} {xs : List α} {s : σ} {Tn : σ → R β} {Tr : ρ → R β} (g0 : γ) (h0 : p = w s g0)
    (h : ∀ x s g, x ∈ xs → Sim (st (φ x) (w s g)) (f s x) fun l r => match l with | .nx s' => (r.1 = .nx ∨ r.1 = .ct) ∧ ∃ g, r.2 = w s' g | .bk s' => r.1 = .bk ∧ ∃ g, r.2 = w s' g | .rt v => (∃ d, r.1 = .rt d) ∧ Θ v r)
    (r : ∀ s g, Sim (K (w s g)) (Tn s) Φ) (rr : ∀ v d p, Θ v (.rt d, p) → Sim (ret d p) (Tr v) Φ) : Sim (forK st K (xs.map φ) p) (lpB (forF f xs s) Tn Tr) Φ :=
  w_forFX (T := fun l => match l with | .nx s => Tn s | .bk _ => .er | .rt v => Tr v) g0 h0 h r rr
theorem w_whileFZ {Θ : ρ → PF → Prop} {wst : PEnv → RF} {f : σ → R (Lp σ ρ)} {s : σ} {Tn : σ → R β} {Tr : ρ → R β} (g0 : γ) (h0 : p = w s g0)
    (h : ∀ s g, Sim (wst (w s g)) (f s) fun l r => match l with | .nx s' => (r.1 = .nx ∨ r.1 = .ct) ∧ ∃ g, r.2 = w s' g | .bk s' => r.1 = .bk ∧ ∃ g, r.2 = w s' g | .rt v => (∃ d, r.1 = .rt d) ∧ Θ v r)
    (r : ∀ s g, Sim (K (w s g)) (Tn s) Φ) (rr : ∀ v d p, Θ v (.rt d, p) → Sim (ret d p) (Tr v) Φ) : Sim (bdS (pwhile wst fuel p) K) (lpB (whileF f fuel s) Tn Tr) Φ :=
  w_whileFX (T := fun l => match l with | .nx s => Tn s | .bk _ => .er | .rt v => Tr v) g0 h0 h r rr
end
end Cr
set_option Elab.async false
set_option linter.all false
set_option maxRecDepth 100000
set_option maxHeartbeats 4000000
/-! Base of the mathematics: runs that end, vectors, sizes. -/
namespace Cr
open PySem
theorem mulOk_l {i j : Int} (h1 : -(2 ^ 64) < i) (h2 : i < 2 ^ 64) : mulOk i j = true := by
  unfold mulOk
  rw [Bool.or_eq_true, Bool.or_eq_true]
  exact .inl (.inl (decide_eq_true ⟨h1, h2⟩))
theorem mulOk_r {i j : Int} (h1 : -(2 ^ 64) < j) (h2 : j < 2 ^ 64) : mulOk i j = true := by
  unfold mulOk
  rw [Bool.or_eq_true, Bool.or_eq_true]
  exact .inl (.inr (decide_eq_true ⟨h1, h2⟩))
theorem log2_lt' {n k : Nat} (h : n < 2 ^ k) (hk : 0 < k) : n.log2 < k := by
  by_cases h0 : n = 0
  · subst h0; simpa using hk
  · exact (Nat.log2_lt h0).mpr h
theorem mulOk_b {i j : Int} (a b : Nat) (h1 : i.natAbs < 2 ^ a) (h2 : j.natAbs < 2 ^ b) (ha : 0 < a) (hb : 0 < b) (hab : a + b < 100000000) : mulOk i j = true := by
  have e1 := log2_lt' h1 ha
  have e2 := log2_lt' h2 hb
  unfold mulOk
  rw [Bool.or_eq_true]
  right
  exact decide_eq_true (by omega)
theorem ok63_of {i : Int} (h1 : -(2 ^ 62) ≤ i) (h2 : i < 2 ^ 62) : ok63 i = true := decide_eq_true ⟨h1, h2⟩
/-! ### what repr shows -/
structure Shw (b h : Nat) (d : D) : Prop where
  sh : d.showable = true
  ln : d.shown.length ≤ b
  dp : d.depth ≤ h
theorem Shw.mono {b h b' h' : Nat} {d : D} (s : Shw b h d) (hb : b ≤ b') (hh : h ≤ h') : Shw b' h' d := ⟨s.sh, Nat.le_trans s.ln hb, Nat.le_trans s.dp hh⟩
theorem shw_none : Shw 5 0 .none := ⟨rfl, by simp only [PyData.shown]; decide, by simp [PyData.depth]⟩
theorem shw_bool (b : Bool) : Shw 5 0 (.bool b) := ⟨rfl, by cases b <;> (simp only [PyData.shown]; decide), by simp [PyData.depth]⟩
theorem shw_int {i : Int} {k : Nat} (hk : 0 < k) (hk2 : k < 1920) (h : i.natAbs < 2 ^ k) : Shw (k + 1) 0 (.int i) := by
  have hl : i.natAbs.log2 < k := log2_lt' h hk
  refine ⟨?_, ?_, by simp [PyData.depth]⟩
  · simp only [PyData.showable]
    exact decide_eq_true (by omega)
  · simp only [PyData.shown]
    rw [ofString_length]
    exact int_text_length_le hk hl
theorem textFrom_le : ∀ (ts : List Str) (k : Nat) (acc : Str), (textFrom k acc ts).length ≤ acc.length + piled ts
  | [], k, acc => Nat.le_add_right _ _
  | t :: r, k, acc => by
    have ih := textFrom_le r (k + 1) (acc ++ (if k > 0 then ", " else "" : String) ++ t)
    have e : (acc ++ (if k > 0 then ", " else "" : String) ++ t).length = acc.length + (if k > 0 then 2 else 0) + t.length := by
      rw [strLen_append, strLen_append]
      split <;> rfl
    rw [piled_cons]
    show (textFrom (k + 1) (acc ++ (if k > 0 then ", " else "" : String) ++ t) r).length ≤ _
    have e2 : (if k > 0 then 2 else 0) ≤ 2 := by split <;> omega
    omega
theorem listText_le (ts : List Str) : (listText ts).length ≤ 2 + piled ts := by
  have h := textFrom_le ts 0 "["
  have hX : (listText ts).length = (textFrom 0 "[" ts).length + 1 := by
    show (textFrom 0 "[" ts ++ "]").length = _
    rw [strLen_append]; rfl
  have e : (("[" : Str)).length = 1 := rfl
  omega
theorem tupleText_le (ts : List Str) : (tupleText ts).length ≤ 3 + piled ts := by
  have hX : (tupleText ts).length = 1 + (Str.join ", " ts).length + (if ts.length == 1 then ",)" else ")" : String).length := by
    unfold tupleText
    rw [strLen_append, strLen_append]
    split <;> rfl
  have e2 : (if ts.length == 1 then ",)" else ")" : String).length ≤ 2 := by split <;> decide
  by_cases h : ts = []
  · subst h
    have e3 : (Str.join ", " ([] : List Str)).length = 0 := rfl
    omega
  · have := join_length_add ts h
    omega
theorem piled_shown {b h : Nat} : ∀ {ds : List D}, (∀ x ∈ ds, Shw b h x) → piled (PyData.shownAll ds) ≤ ds.length * (b + 2) ∧ PyData.showableAll ds = true ∧ PyData.depthAll ds ≤ h
  | [], _ => ⟨by simp [PyData.shownAll, piled], rfl, by simp [PyData.depthAll]⟩
  | d :: ds, hd => by
    obtain ⟨h1, h2, h3⟩ := piled_shown (ds := ds) fun x hx => hd x (List.mem_cons_of_mem _ hx)
    have h0 := hd d List.mem_cons_self
    refine ⟨?_, ?_, ?_⟩
    · simp only [PyData.shownAll]
      rw [piled_cons, List.length_cons, Nat.succ_mul]
      have := h0.ln
      omega
    · simp only [PyData.showableAll, h0.sh, h2]
      rfl
    · simp only [PyData.depthAll]
      have := h0.dp
      omega
theorem shw_tuple {b h n : Nat} {ds : List D} (hd : ∀ x ∈ ds, Shw b h x) (hn : ds.length ≤ n) : Shw (3 + n * (b + 2)) (h + 1) (.tuple ds) := by
  obtain ⟨h1, h2, h3⟩ := piled_shown hd
  refine ⟨by simp only [PyData.showable]; exact h2, ?_, ?_⟩
  · simp only [PyData.shown]
    have := tupleText_le (PyData.shownAll ds)
    have e : ds.length * (b + 2) ≤ n * (b + 2) := Nat.mul_le_mul_right _ hn
    omega
  · simp only [PyData.depth]
    omega
theorem shw_list {b h n : Nat} {ds : List D} (hd : ∀ x ∈ ds, Shw b h x) (hn : ds.length ≤ n) : Shw (3 + n * (b + 2)) (h + 1) (.list ds) := by
  obtain ⟨h1, h2, h3⟩ := piled_shown hd
  refine ⟨by simp only [PyData.showable]; exact h2, ?_, ?_⟩
  · simp only [PyData.shown]
    have := listText_le (PyData.shownAll ds)
    have e : ds.length * (b + 2) ≤ n * (b + 2) := Nat.mul_le_mul_right _ hn
    omega
  · simp only [PyData.depth]
    omega
theorem shw_dict : Shw 5 1 (.dict []) := ⟨rfl, by simp only [PyData.shown, PyData.shownKv]; decide, by simp [PyData.depth, PyData.depthKv]⟩
theorem sIx_p {n d : Nat} {k : Int} (h0 : 0 ≤ k) : HT.sIx n d (some k) = min k.toNat n := by
  show (if k < 0 then (k + (n : Int)).toNat else min k.toNat n) = _
  rw [if_neg (by omega)]
theorem cut_to {α : Type} {xs : List α} {k : Int} (h0 : 0 ≤ k) : cutD xs none (some k) = xs.take k.toNat := by
  unfold cutD
  rw [sIx_p h0]
  show (xs.drop 0).take (min k.toNat xs.length - 0) = _
  rw [List.drop_zero, Nat.sub_zero]
  by_cases h : k.toNat ≤ xs.length
  · rw [Nat.min_eq_left h]
  · rw [Nat.min_eq_right (by omega), List.take_length, List.take_of_length_le (by omega)]
theorem cut_from {α : Type} {xs : List α} {k : Int} (h0 : 0 ≤ k) : cutD xs (some k) none = xs.drop k.toNat := by
  unfold cutD
  rw [sIx_p h0]
  show (xs.drop (min k.toNat xs.length)).take (xs.length - min k.toNat xs.length) = _
  rw [List.take_of_length_le (by rw [List.length_drop]; omega)]
  by_cases h : k.toNat ≤ xs.length
  · rw [Nat.min_eq_left h]
  · rw [Nat.min_eq_right (by omega), List.drop_length, List.drop_of_length_le (by omega)]
theorem sz {n : Nat} (h : n ≤ 1000000) : n ≤ sizeLine := Nat.le_trans h (by rw [sizeLine_eq]; decide)
end Cr
set_option Elab.async false
set_option linter.all false
set_option maxRecDepth 100000
set_option maxHeartbeats 4000000
/-! Vectors: lists told by their length and by what stands at each place. -/
namespace Cr
open PySem
section
variable {α β γ σ ρ : Type}
@[simp] theorem R_bind_ok (a : α) (f : α → R β) : (R.ok a).bind f = f a := rfl
@[simp] theorem R_bind_er (f : α → R β) : (R.er : R α).bind f = .er := rfl
@[simp] theorem R_bind_ex (x : Nat) (f : α → R β) : (R.ex x : R α).bind f = .ex x := rfl
@[simp] theorem R_bind_assoc (m : R α) (f : α → R β) (g : β → R γ) : (m.bind f).bind g = m.bind fun a => (f a).bind g := by cases m <;> rfl
@[simp] theorem R_bind_id (m : R α) : (m.bind fun a => R.ok a) = m := by cases m <;> rfl
/-- a run that ends so -/
def Ok (t : R α) (P : α → Prop) : Prop := ∃ a, t = .ok a ∧ P a
theorem Ok.bind {t : R α} {P : α → Prop} {f : α → R β} {Q : β → Prop} (h : Ok t P) (k : ∀ a, P a → Ok (f a) Q) : Ok (t.bind f) Q := by
  obtain ⟨a, rfl, p⟩ := h; exact k a p
theorem Ok.mono {t : R α} {P Q : α → Prop} (h : Ok t P) (k : ∀ a, P a → Q a) : Ok t Q := by
  obtain ⟨a, e, p⟩ := h; exact ⟨a, e, k a p⟩
theorem Ok.ok {a : α} {P : α → Prop} (h : P a) : Ok (.ok a) P := ⟨a, rfl, h⟩
theorem Ok.ite {c : Bool} {x y : R α} {P : α → Prop} (h1 : c = true → Ok x P) (h2 : c = false → Ok y P) : Ok (if c = true then x else y) P := by
  cases c with
  | true => exact h1 rfl
  | false => exact h2 rfl
theorem Ok.beq {t : R α} {a : α} {f : α → R β} {Q : β → Prop} (e : t = .ok a) (k : Ok (f a) Q) : Ok (t.bind f) Q := by subst e; exact k
theorem Ok.eq {t : R α} {a : α} (e : t = .ok a) : Ok t (· = a) := ⟨a, e, rfl⟩
theorem Ok.get {t : R α} {a : α} (h : Ok t (· = a)) : t = .ok a := by obtain ⟨_, e, rfl⟩ := h; exact e
/-! ### whole numbers -/
def Sm (k : Nat) (x : Int) : Prop := x.natAbs < 2 ^ k
theorem Sm.mono {k l : Nat} {x : Int} (h : Sm k x) (hl : k ≤ l) : Sm l x := Nat.lt_of_lt_of_le h (Nat.pow_le_pow_right (by decide) hl)
theorem Sm.add {k : Nat} {x y : Int} (h : Sm k x) (h' : Sm k y) : Sm (k + 1) (x + y) := by
  unfold Sm at *; rw [Nat.pow_succ]; omega
theorem Sm.sub {k : Nat} {x y : Int} (h : Sm k x) (h' : Sm k y) : Sm (k + 1) (x - y) := by
  unfold Sm at *; rw [Nat.pow_succ]; omega
theorem Sm.neg {k : Nat} {x : Int} (h : Sm k x) : Sm k (-x) := by unfold Sm at *; omega
theorem Sm.mul {k l : Nat} {x y : Int} (h : Sm k x) (h' : Sm l y) : Sm (k + l) (x * y) := by
  unfold Sm at *
  rw [Int.natAbs_mul, Nat.pow_add]
  exact Nat.mul_lt_mul'' h h'
theorem Sm.of {k : Nat} {x b : Int} (h1 : -b ≤ x) (h2 : x ≤ b) (hb : b < 2 ^ k) : Sm k x := by
  have e : ((2 ^ k : Nat) : Int) = 2 ^ k := by rw [Int.natCast_pow]; rfl
  rw [← e] at hb
  unfold Sm
  omega
theorem Sm.of0 {k : Nat} {x b : Int} (h1 : 0 ≤ x) (h2 : x ≤ b) (hb : b < 2 ^ k) : Sm k x := Sm.of (by omega) h2 hb
theorem m_mul_l {a b : Int} (h : -18446744073709551616 < a) (h2 : a < 18446744073709551616) : mulR a b = .ok (a * b) := by
  unfold mulR; rw [if_pos (mulOk_l (by omega) (by omega))]
theorem m_mul_r {a b : Int} (h : -18446744073709551616 < b) (h2 : b < 18446744073709551616) : mulR a b = .ok (a * b) := by
  unfold mulR; rw [if_pos (mulOk_r (by omega) (by omega))]
theorem m_mul_b (k l : Nat) {a b : Int} (h : Sm k a) (h2 : Sm l b) (hk : 0 < k) (hl : 0 < l) (hkl : k + l < 100000000) : mulR a b = .ok (a * b) := by
  unfold mulR; rw [if_pos (mulOk_b k l h h2 hk hl hkl)]
theorem m_div {a b : Int} (h : 0 < b) (h2 : b < 2 ^ 1000) : divR a b = .ok (a / b) := by
  have h3 : b.natAbs < 2 ^ 1000 := by omega
  have h4 : b.natAbs.log2 < 9000 := Nat.lt_trans (log2_lt' h3 (by decide)) (by decide)
  unfold divR
  rw [if_pos ⟨h, h4⟩]
theorem m_mod {a b : Int} (h : 0 < b) : modR a b = .ok (a % b) := by unfold modR; rw [if_pos h]
theorem m_pow {a b c : Int} (h1 : 0 ≤ b ∧ b ≤ 1000 ∧ a.natAbs < 2 ^ 64) (h4 : a ^ b.toNat = c) : powR a b = .ok c := by
  unfold powR; rw [if_pos h1, h4]
theorem m_pow10 (n : Nat) (hn : n ≤ 1000) : powR 10 (n : Int) = .ok (10 ^ n) := m_pow ⟨by omega, by omega, by decide⟩ (by rw [Int.toNat_natCast])
theorem dT {p : Prop} [Decidable p] (h : p) : decide p = true := decide_eq_true h
theorem dF {p : Prop} [Decidable p] (h : ¬ p) : decide p = false := decide_eq_false h
/-! ### vectors -/
def vec (n : Nat) (f : Nat → α) : List α := (List.range n).map f
@[simp] theorem vec_len (n : Nat) (f : Nat → α) : (vec n f).length = n := by unfold vec; rw [List.length_map, List.length_range]
theorem vec_get? (n : Nat) (f : Nat → α) (i : Nat) : (vec n f)[i]? = if i < n then some (f i) else none := by
  unfold vec
  rw [List.getElem?_map]
  by_cases h : i < n
  · rw [List.getElem?_range h, if_pos h]; rfl
  · rw [List.getElem?_eq_none (by rw [List.length_range]; omega), if_neg h]; rfl
theorem vec_congr {n : Nat} {f g : Nat → α} (h : ∀ i, i < n → f i = g i) : vec n f = vec n g := by
  unfold vec
  exact List.map_congr_left fun i hi => h i (List.mem_range.mp hi)
theorem vec_ext {n : Nat} {xs : List α} {f : Nat → α} (h1 : xs.length = n) (h2 : ∀ i, i < n → xs[i]? = some (f i)) : xs = vec n f := by
  apply List.ext_getElem?
  intro i
  rw [vec_get?]
  by_cases h : i < n
  · rw [h2 i h, if_pos h]
  · rw [List.getElem?_eq_none (by omega), if_neg h]
theorem vec_of [Inhabited α] (xs : List α) : xs = vec xs.length fun i => xs.getD i default := by
  refine vec_ext rfl fun i h => ?_
  rw [List.getD_eq_getElem?_getD, List.getElem?_eq_getElem h]; rfl
theorem vec_succ (n : Nat) (f : Nat → α) : vec (n + 1) f = vec n f ++ [f n] := by
  unfold vec; rw [List.range_succ, List.map_append]; rfl
theorem vec_cons (n : Nat) (f : Nat → α) : vec (n + 1) f = f 0 :: vec n fun i => f (i + 1) := by
  unfold vec
  rw [List.range_succ_eq_map]
  simp [List.map_map, Function.comp_def]
@[simp] theorem vec_zero (f : Nat → α) : vec 0 f = [] := rfl
theorem vec_map (n : Nat) (f : Nat → α) (g : α → β) : (vec n f).map g = vec n fun i => g (f i) := by unfold vec; rw [List.map_map]; rfl
theorem mem_vec {n : Nat} {f : Nat → α} {x : α} : x ∈ vec n f ↔ ∃ i, i < n ∧ f i = x := by
  unfold vec
  rw [List.mem_map]
  constructor
  · rintro ⟨i, h, e⟩; exact ⟨i, List.mem_range.mp h, e⟩
  · rintro ⟨i, h, e⟩; exact ⟨i, List.mem_range.mpr h, e⟩
theorem vec_zip (n : Nat) (f : Nat → α) (g : Nat → β) : (vec n f).zip (vec n g) = vec n fun i => (f i, g i) := by
  apply vec_ext (by rw [List.length_zip, vec_len, vec_len, Nat.min_self])
  intro i h
  rw [List.getElem?_zip_eq_some, vec_get?, vec_get?, if_pos h, if_pos h]
  exact ⟨rfl, rfl⟩
theorem vec_zip2 (n m : Nat) (f : Nat → α) (g : Nat → β) : (vec n f).zip (vec m g) = vec (min n m) fun i => (f i, g i) := by
  apply vec_ext (by rw [List.length_zip, vec_len, vec_len])
  intro i h
  rw [List.getElem?_zip_eq_some, vec_get?, vec_get?, if_pos (by omega), if_pos (by omega)]
  exact ⟨rfl, rfl⟩
theorem vec_enum (n : Nat) (f : Nat → α) : enumT (vec n f) = vec n fun i => ((i : Int), f i) := by
  apply vec_ext (by unfold enumT; rw [List.length_map, List.length_zipIdx, vec_len])
  intro i h
  unfold enumT
  rw [List.getElem?_map, List.getElem?_zipIdx, vec_get?, if_pos h]
  simp
theorem vec_rev (n : Nat) (f : Nat → α) : (vec n f).reverse = vec n fun i => f (n - 1 - i) := by
  apply vec_ext (by rw [List.length_reverse, vec_len])
  intro i h
  rw [List.getElem?_reverse (by rw [vec_len]; exact h), vec_len, vec_get?, if_pos (by omega)]
theorem vec_take (n k : Nat) (f : Nat → α) (h : k ≤ n) : (vec n f).take k = vec k f := by
  apply vec_ext (by rw [List.length_take, vec_len]; omega)
  intro i hi
  rw [List.getElem?_take_of_lt hi, vec_get?, if_pos (by omega)]
theorem vec_drop (n k : Nat) (f : Nat → α) : (vec n f).drop k = vec (n - k) fun i => f (k + i) := by
  apply vec_ext (by rw [List.length_drop, vec_len])
  intro i hi
  rw [List.getElem?_drop, vec_get?, if_pos (by omega)]
theorem vec_append (n m : Nat) (f g : Nat → α) : vec n f ++ vec m g = vec (n + m) fun i => if i < n then f i else g (i - n) := by
  apply vec_ext (by rw [List.length_append, vec_len, vec_len])
  intro i h
  by_cases hi : i < n
  · rw [List.getElem?_append_left (by rw [vec_len]; exact hi), vec_get?, if_pos hi, if_pos hi]
  · rw [List.getElem?_append_right (by rw [vec_len]; omega), vec_len, vec_get?, if_pos (by omega), if_neg hi]
theorem rng_vec (a b : Int) : rngI a b = vec (b - a).toNat fun i => a + (i : Int) := rfl
/-! ### looks -/
theorem m_atI {n : Nat} {f : Nat → α} {i : Int} (h0 : 0 ≤ i) (h : i < n) : L2.atI (vec n f) i = some (f i.toNat) := by
  unfold L2.atI L2.ixN
  rw [vec_len, if_pos h0, if_pos (by omega), Option.bind_some, vec_get?, if_pos (by omega)]
theorem m_at {n : Nat} {f : Nat → α} {i : Int} (h0 : 0 ≤ i) (h : i < n) : atR (vec n f) i = .ok (f i.toNat) := by
  unfold atR; rw [m_atI h0 h]; rfl
theorem m_atNeg {n : Nat} {f : Nat → α} {i : Int} (h0 : i < 0) (h : 0 ≤ i + n) : atR (vec n f) i = .ok (f (i + n).toNat) := by
  unfold atR L2.atI L2.ixN
  rw [vec_len, if_neg (by omega)]
  rw [if_pos (by omega), Option.bind_some, vec_get?, if_pos (by omega)]
  rfl
theorem m_at0 (x : α) (xs : List α) : atR (x :: xs) 0 = .ok x := by
  unfold atR L2.atI L2.ixN
  rw [if_pos (by decide), if_pos (by rw [List.length_cons]; omega)]
  rfl
theorem m_at31 (x y z : α) : atR [x, y, z] 1 = .ok y := rfl
theorem m_at32 (x y z : α) : atR [x, y, z] 2 = .ok z := rfl
theorem m_put30 (x y z w : α) : putR [x, y, z] 0 w = .ok [w, y, z] := rfl
theorem m_put32 (x y z w : α) : putR [x, y, z] 2 w = .ok [x, y, w] := rfl
theorem m_put {n : Nat} {f : Nat → α} {i : Int} {x : α} (h0 : 0 ≤ i) (h : i < n) : putR (vec n f) i x = .ok (vec n fun j => if j = i.toNat then x else f j) := by
  have e : L2.ixN (vec n f).length i = some i.toNat := by
    unfold L2.ixN
    rw [vec_len, if_pos h0, if_pos (by omega)]
  unfold putR
  rw [e]
  show R.ok _ = R.ok _
  congr 1
  apply vec_ext (by rw [List.length_set, vec_len])
  intro j hj
  rw [List.getElem?_set, vec_len, vec_get?]
  by_cases c : i.toNat = j
  · rw [if_pos c, if_pos (by omega), if_pos c.symm]
  · rw [if_neg c, if_pos hj, if_neg (fun q => c q.symm)]
theorem m_app {xs : List α} {x : α} (h : xs.length < 1000000) : appR xs x = .ok (xs ++ [x]) := by
  unfold appR
  rw [if_pos (Nat.lt_of_lt_of_le h (sz (Nat.le_refl _)))]
theorem m_app_vec {n : Nat} {f : Nat → α} (h : n < 1000000) : appR (vec n f) (f n) = .ok (vec (n + 1) f) := by
  rw [m_app (by rw [vec_len]; exact h), vec_succ]
theorem m_ext {xs ys : List α} (h : xs.length + ys.length ≤ 1000000) : extR xs ys = .ok (xs ++ ys) := by
  unfold extR; rw [if_pos (sz h)]
theorem m_cat {xs ys : List α} (h : xs.length + ys.length ≤ 1000000) : catR xs ys = .ok (xs ++ ys) := by
  unfold catR; rw [if_pos (sz h)]
theorem rep_vec (x : α) (k : Nat) : (List.replicate k [x]).flatten = vec k fun _ => x := by
  rw [show (List.replicate k [x]).flatten = List.replicate k x by
    induction k with
    | zero => rfl
    | succ k ih => rw [List.replicate_succ, List.flatten_cons, ih, List.replicate_succ]; rfl]
  apply vec_ext (List.length_replicate ..)
  intro i h
  rw [List.getElem?_replicate, if_pos h]
theorem m_rep {x : α} {k : Int} (h0 : 0 ≤ k) (h : k < 1000000) : repR [x] k = .ok (vec k.toNat fun _ => x) := by
  unfold repR
  rw [if_pos ⟨h, by omega, by show 1 * k.toNat ≤ _; exact sz (by omega)⟩, rep_vec]
theorem m_rng {b : Int} (h0 : 0 ≤ b) (h : b < 4611686018427387904) : rng1R b = .ok (vec b.toNat fun i => (i : Int)) := by
  unfold rng1R
  rw [if_pos (ok63_of (by omega) (by omega)), rng_vec]
  congr 1
  rw [Int.sub_zero]
  exact vec_congr fun i _ => by omega
theorem m_rngL {b : Int} (n : Nat) (e : b = n) (h : n ≤ 1000000) : rng1R b = .ok (vec n fun i => (i : Int)) := by
  subst e
  rw [m_rng (by omega) (by omega), Int.toNat_natCast]
theorem m_rngL2 {a b : Int} (n : Nat) (e : b - a = n) (h0 : 0 ≤ a) (h : b ≤ 1000000) : rng2R a b = .ok (vec n fun i => a + (i : Int)) := by
  unfold rng2R
  rw [if_pos ⟨ok63_of (by omega) (by omega), ok63_of (by omega) (by omega)⟩, rng_vec, e, Int.toNat_natCast]
theorem m_rng2 {a b : Int} (h0 : 0 ≤ a) (ha : a < 4611686018427387904) (h1 : 0 ≤ b) (h : b < 4611686018427387904) : rng2R a b = .ok (vec (b - a).toNat fun i => a + (i : Int)) := by
  unfold rng2R
  rw [if_pos ⟨ok63_of (by omega) (by omega), ok63_of (by omega) (by omega)⟩, rng_vec]
theorem m_cut_to {n : Nat} {f : Nat → α} {k : Int} (h0 : 0 ≤ k) (h : k ≤ n) : cutD (vec n f) none (some k) = vec k.toNat f := by
  rw [cut_to h0, vec_take _ _ _ (by omega)]
theorem m_cut_from {n : Nat} {f : Nat → α} {k : Int} (h0 : 0 ≤ k) : cutD (vec n f) (some k) none = vec (n - k.toNat) fun i => f (k.toNat + i) := by
  rw [cut_from h0, vec_drop]
/-! ### comprehensions -/
theorem mapG_map (f : α → β) (k : β → R γ) : ∀ xs : List α, mapG k (xs.map f) = mapG (fun x => k (f x)) xs
  | [] => rfl
  | x :: xs => by show (k (f x)).bind _ = (k (f x)).bind _; rw [mapG_map f k xs]
theorem mapG_congr {f g : α → R β} : ∀ {xs : List α}, (∀ x ∈ xs, f x = g x) → mapG f xs = mapG g xs
  | [], _ => rfl
  | x :: xs, h => by show (f x).bind _ = (g x).bind _; rw [h x List.mem_cons_self, mapG_congr fun y hy => h y (List.mem_cons_of_mem _ hy)]
theorem mapG_ok (h : α → β) : ∀ xs : List α, mapG (fun x => R.ok (h x)) xs = .ok (xs.map h)
  | [] => rfl
  | x :: xs => by show (mapG _ xs).bind _ = _; rw [mapG_ok h xs]; rfl
/-- each place's run, the place being told to be one -/
def mapV (n : Nat) (k : ∀ i, i < n → R β) : R (List β) := if n ≤ sizeLine then noX (mapG (fun i => if h : i < n then k i h else .er) (List.range n)) else .er
theorem m_mapR (n : Nat) (f : Nat → α) (g : α → R β) : mapR (vec n f) g = mapV n fun i _ => g (f i) := by
  unfold mapR mapV
  rw [vec_len]
  unfold vec
  rw [mapG_map, mapG_congr (g := fun i => if h : i < n then g (f i) else .er) fun i hi => by rw [dif_pos (List.mem_range.mp hi)]]
theorem mapV_ok {n : Nat} {h : Nat → β} (hn : n ≤ 1000000) : mapV n (fun i _ => R.ok (h i)) = .ok (vec n h) := by
  unfold mapV
  rw [if_pos (sz hn), mapG_congr (g := fun i => R.ok (h i)) fun i hi => by rw [dif_pos (List.mem_range.mp hi)], mapG_ok]
  rfl
theorem m_map {n : Nat} {f : Nat → α} {g : α → R β} {h : Nat → β} (hn : n ≤ 1000000) (e : ∀ i, i < n → g (f i) = .ok (h i)) : mapR (vec n f) g = .ok (vec n h) := by
  unfold mapR
  rw [if_pos (sz (by rw [vec_len]; exact hn))]
  unfold vec
  rw [mapG_map, mapG_congr (g := fun i => R.ok (h i)) fun i hi => e i (List.mem_range.mp hi), mapG_ok]
  rfl
theorem m_mapL {xs : List α} {g : α → R β} {h : α → β} (hn : xs.length ≤ 1000000) (e : ∀ x ∈ xs, g x = .ok (h x)) : mapR xs g = .ok (xs.map h) := by
  unfold mapR
  rw [if_pos (sz hn), mapG_congr e, mapG_ok]
  rfl
theorem filG_ok {f : α → R (Option β)} (h : α → Option β) : ∀ {xs : List α}, (∀ x ∈ xs, f x = .ok (h x)) → filG f xs = .ok (xs.filterMap h)
  | [], _ => rfl
  | x :: xs, e => by
    show (f x).bind _ = _
    rw [e x List.mem_cons_self, R_bind_ok, filG_ok h fun y hy => e y (List.mem_cons_of_mem _ hy), R_bind_ok, List.filterMap_cons]
    cases h x <;> rfl
theorem m_fil {xs : List α} {f : α → R (Option β)} (h : α → Option β) (hn : xs.length ≤ 1000000) (e : ∀ x ∈ xs, f x = .ok (h x)) : filR xs f = .ok (xs.filterMap h) := by
  unfold filR
  rw [if_pos (sz hn), filG_ok h e]
  rfl
/-- a comprehension that changes a state -/
theorem mapSG_ok {f : σ → α → R (β × σ)} (J : Nat → σ → Prop) (Q : Nat → β → Prop) : ∀ (n k : Nat) (h : Nat → α) (s : σ), J k s → (∀ i s, i < n → J (k + i) s → Ok (f s (h i)) fun r => Q (k + i) r.1 ∧ J (k + i + 1) r.2) →
    Ok (mapSG f (vec n h) s) fun r => r.1.length = n ∧ (∀ i x, r.1[i]? = some x → Q (k + i) x) ∧ J (k + n) r.2
  | 0, k, h, s, h0, hs => ⟨_, rfl, rfl, fun i x e => (by cases e), h0⟩
  | n + 1, k, h, s, h0, hs => by
    rw [vec_cons]
    show Ok ((f s (h 0)).bind fun q => (mapSG f (vec n fun i => h (i + 1)) q.2).bind fun ys => .ok (q.1 :: ys.1, ys.2)) _
    refine Ok.bind (hs 0 s (by omega) h0) fun q ⟨q1, q2⟩ => ?_
    refine Ok.bind (mapSG_ok J Q n (k + 1) (fun i => h (i + 1)) q.2 q2 fun i s hi hj => ?_) fun ys ⟨y1, y2, y3⟩ => Ok.ok ⟨by simp [y1], fun i x e => ?_, ?_⟩
    · have := hs (i + 1) s (by omega) (by rw [show k + (i + 1) = k + 1 + i by omega]; exact hj)
      rw [show k + (i + 1) = k + 1 + i by omega] at this
      exact this
    · cases i with
      | zero => cases e; exact q1
      | succ i => have := y2 i x (by simpa using e); rw [show k + (i + 1) = k + 1 + i by omega]; exact this
    · rw [show k + (n + 1) = k + 1 + n by omega]; exact y3
theorem m_mapS {n : Nat} {h : Nat → α} {s : σ} {f : σ → α → R (β × σ)} [Inhabited β] (J : Nat → σ → Prop) (Q : Nat → β → Prop) (hn : n ≤ 1000000) (h0 : J 0 s) (hs : ∀ i s, i < n → J i s → Ok (f s (h i)) fun r => Q i r.1 ∧ J (i + 1) r.2) :
    Ok (mapS (vec n h) s f) fun r => ∃ g : Nat → β, r.1 = vec n g ∧ (∀ i, i < n → Q i (g i)) ∧ J n r.2 := by
  unfold mapS
  rw [if_pos (sz (by rw [vec_len]; exact hn))]
  obtain ⟨r, e, r1, r2, r3⟩ := mapSG_ok J Q n 0 h s h0 fun i s hi hj => by rw [Nat.zero_add] at *; exact hs i s hi hj
  rw [e]
  refine ⟨r, rfl, fun i => r.1.getD i default, ?_, fun i hi => ?_, by rw [Nat.zero_add] at r3; exact r3⟩
  · rw [← r1]; exact vec_of _
  · have := r2 i (r.1.getD i default) (by rw [List.getD_eq_getElem?_getD, List.getElem?_eq_getElem (by omega)]; rfl)
    rw [Nat.zero_add] at this
    exact this
/-! ### loops -/
theorem forT_cons {f : σ → α → R σ} {x : α} {xs : List α} {s : σ} : forT f (x :: xs) s = (f s x).bind fun s => forT f xs s := rfl
theorem forT_append {f : σ → α → R σ} : ∀ (xs ys : List α) (s : σ), forT f (xs ++ ys) s = (forT f xs s).bind fun s => forT f ys s
  | [], ys, s => rfl
  | x :: xs, ys, s => by
    show (f s x).bind _ = ((f s x).bind _).bind _
    rw [R_bind_assoc]
    congr 1
    funext s
    exact forT_append xs ys s
theorem m_forO {n : Nat} {h : Nat → α} {s : σ} {f : σ → α → R σ} (J : Nat → σ → Prop) (h0 : J 0 s) (hs : ∀ i s, i < n → J i s → Ok (f s (h i)) (J (i + 1))) : Ok (forT f (vec n h) s) (J n) := by
  induction n with
  | zero => exact ⟨s, rfl, h0⟩
  | succ n ih =>
    rw [vec_succ, forT_append]
    refine Ok.bind (ih fun i s hi => hs i s (by omega)) fun s' hj => ?_
    show Ok ((f s' (h n)).bind fun s => .ok s) _
    rw [R_bind_id]
    exact hs n s' (by omega) hj
theorem m_for {n : Nat} {h : Nat → α} {f : σ → α → R σ} (S : Nat → σ) (hs : ∀ i, i < n → f (S i) (h i) = .ok (S (i + 1))) : forT f (vec n h) (S 0) = .ok (S n) := by
  induction n with
  | zero => rfl
  | succ n ih =>
    rw [vec_succ, forT_append, ih fun i hi => hs i (by omega), R_bind_ok]
    show (f (S n) (h n)).bind _ = _
    rw [hs n (by omega)]
    rfl
/-- a list made item by item -/
theorem m_forApp {n : Nat} {h : Nat → α} {f : List β → α → R (List β)} (g : Nat → β) (hn : n ≤ 1000000) (hs : ∀ i s, i < n → f s (h i) = appR s (g i)) : forT f (vec n h) [] = .ok (vec n g) :=
  m_for (S := fun i => vec i g) fun i hi => by rw [hs i _ hi, m_app_vec (by omega)]
/-- .. with a state -/
theorem m_forAppO {n : Nat} {h : Nat → α} {f : σ × List β → α → R (σ × List β)} {s : σ} [Inhabited β] (J : Nat → σ → Prop) (Q : Nat → β → Prop) (hn : n ≤ 1000000) (h0 : J 0 s)
    (hs : ∀ i s xs, i < n → xs.length = i → J i s → Ok (f (s, xs) (h i)) fun r => ∃ y, r.2 = xs ++ [y] ∧ Q i y ∧ J (i + 1) r.1) :
    Ok (forT f (vec n h) (s, [])) fun r => ∃ g : Nat → β, r.2 = vec n g ∧ (∀ i, i < n → Q i (g i)) ∧ J n r.1 := by
  refine (m_forO (fun k r => k ≤ n → r.2.length = k ∧ (∀ i x, r.2[i]? = some x → Q i x) ∧ J k r.1) (fun _ => ⟨rfl, (fun i x e => by cases e), h0⟩) fun i r hi hj => ?_).mono fun r hr => ?_
  · obtain ⟨j1, j2, j3⟩ := hj (by omega)
    obtain ⟨s', xs⟩ := r
    have j1' : xs.length = i := j1
    obtain ⟨r, e, y, e1, q, j⟩ := hs i s' xs hi j1' j3
    refine ⟨r, e, fun _ => ?_⟩
    rw [e1]
    refine ⟨by simp [j1'], fun k x ek => ?_, j⟩
    by_cases hk : k < i
    · rw [List.getElem?_append_left (by omega)] at ek
      exact j2 k x ek
    · rw [List.getElem?_append_right (by omega)] at ek
      have hk2 : k = i := by
        by_cases c : k = i
        · exact c
        · rw [List.getElem?_eq_none (by simp; omega)] at ek; cases ek
      subst hk2
      rw [j1', Nat.sub_self] at ek
      cases ek
      exact q
  · obtain ⟨r1, r2, r3⟩ := hr (Nat.le_refl _)
    refine ⟨fun i => r.2.getD i default, by rw [← r1]; exact vec_of _, fun i hi => ?_, r3⟩
    have e : r.2[i]? = some (r.2.getD i default) := by rw [List.getD_eq_getElem?_getD, List.getElem?_eq_getElem (by omega)]; rfl
    exact r2 i _ e
/-- a loop that may leave the def, and does not -/
theorem m_forFO {n : Nat} {h : Nat → α} {s : σ} {f : σ → α → R (Lp σ ρ)} (J : Nat → σ → Prop) (h0 : J 0 s) (hs : ∀ i s, i < n → J i s → Ok (f s (h i)) fun l => ∃ s', l = .nx s' ∧ J (i + 1) s') : Ok (forF f (vec n h) s) fun l => ∃ s', l = .nx s' ∧ J n s' := by
  have go : ∀ (m k : Nat) (h : Nat → α) (s : σ), J k s → (∀ i s, i < m → J (k + i) s → Ok (f s (h i)) fun l => ∃ s', l = .nx s' ∧ J (k + i + 1) s') → Ok (forF f (vec m h) s) fun l => ∃ s', l = .nx s' ∧ J (k + m) s' := by
    intro m
    induction m with
    | zero => intro k h s h0 _; exact ⟨_, rfl, s, rfl, h0⟩
    | succ m ih =>
      intro k h s h0 hs
      rw [vec_cons]
      show Ok ((f s (h 0)).bind _) _
      refine Ok.bind (hs 0 s (by omega) h0) fun l ⟨s', e, j⟩ => ?_
      subst e
      have := ih (k + 1) (fun i => h (i + 1)) s' j fun i s hi hj => by
        have := hs (i + 1) s (by omega) (by rw [show k + (i + 1) = k + 1 + i by omega]; exact hj)
        rw [show k + (i + 1) = k + 1 + i by omega] at this
        exact this
      rw [show k + 1 + m = k + (m + 1) by omega] at this
      exact this
  have := go n 0 h s h0 fun i s hi hj => by rw [Nat.zero_add] at *; exact hs i s hi hj
  rw [Nat.zero_add] at this
  exact this
theorem vec2_of {n m : Nat} {G : Nat → List α} {P : Nat → Nat → α → Prop} [Inhabited α] (h : ∀ i, i < n → ∃ g : Nat → α, G i = vec m g ∧ ∀ j, j < m → P i j (g j)) : ∃ g : Nat → Nat → α, vec n G = vec n (fun i => vec m (g i)) ∧ ∀ i j, i < n → j < m → P i j (g i j) := by
  have at' : ∀ i j, i < n → j < m → ∀ g : Nat → α, G i = vec m g → (G i).getD j default = g j := fun i j hi hj g e => by
    rw [e, List.getD_eq_getElem?_getD, vec_get?, if_pos hj]; rfl
  refine ⟨fun i j => (G i).getD j default, vec_congr fun i hi => ?_, fun i j hi hj => ?_⟩
  · obtain ⟨g, e, _⟩ := h i hi
    exact e.trans (vec_congr fun j hj => (at' i j hi hj g e).symm)
  · obtain ⟨g, e, q⟩ := h i hi
    dsimp only
    rw [at' i j hi hj g e]
    exact q j hj
/-! ### least ones -/
def mn (n : Nat) (f : Nat → Int) : Int := match n with
  | 0 => 0
  | n + 1 => (vec n fun i => f (i + 1)).foldl (fun a b => if b < a then b else a) (f 0)
theorem fold_min (l : List Int) : ∀ a : Int, (l.foldl (fun a b => if b < a then b else a) a ∈ a :: l) ∧ ∀ y ∈ a :: l, l.foldl (fun a b => if b < a then b else a) a ≤ y := by
  induction l with
  | nil => intro a; exact ⟨List.mem_cons_self, fun y hy => by simp at hy; subst hy; exact Int.le_refl _⟩
  | cons b l ih =>
    intro a
    obtain ⟨h1, h2⟩ := ih (if b < a then b else a)
    show (l.foldl _ (if b < a then b else a) ∈ _) ∧ _
    constructor
    · rcases List.mem_cons.mp h1 with h | h
      · show l.foldl _ (if b < a then b else a) ∈ _
        rw [h]
        split
        · exact List.mem_cons_of_mem _ List.mem_cons_self
        · exact List.mem_cons_self
      · exact List.mem_cons_of_mem _ (List.mem_cons_of_mem _ h)
    · intro y hy
      have h3 := h2 (if b < a then b else a) List.mem_cons_self
      show l.foldl _ (if b < a then b else a) ≤ y
      rcases List.mem_cons.mp hy with h | h
      · subst h
        refine Int.le_trans h3 ?_
        split <;> omega
      · rcases List.mem_cons.mp h with h | h
        · subst h
          refine Int.le_trans h3 ?_
          split <;> omega
        · exact h2 y (List.mem_cons_of_mem _ h)
theorem mn_le {n : Nat} {f : Nat → Int} {i : Nat} (h : i < n) : mn n f ≤ f i := by
  cases n with
  | zero => omega
  | succ n =>
    apply (fold_min (vec n fun i => f (i + 1)) (f 0)).2
    cases i with
    | zero => exact List.mem_cons_self
    | succ i => exact List.mem_cons_of_mem _ (mem_vec.mpr ⟨i, by omega, rfl⟩)
theorem mn_at {n : Nat} {f : Nat → Int} (h : 0 < n) : ∃ i, i < n ∧ mn n f = f i := by
  cases n with
  | zero => omega
  | succ n =>
    have := (fold_min (vec n fun i => f (i + 1)) (f 0)).1
    rcases List.mem_cons.mp this with h | h
    · exact ⟨0, by omega, h⟩
    · obtain ⟨i, hi, e⟩ := mem_vec.mp h
      exact ⟨i + 1, by omega, e.symm⟩
theorem mn_eq {n : Nat} {f : Nat → Int} {v : Int} (h : ∀ i, i < n → v ≤ f i) (h2 : ∃ i, i < n ∧ f i = v) : mn n f = v := by
  obtain ⟨i, hi, e⟩ := h2
  obtain ⟨j, hj, e2⟩ := mn_at (f := f) (show 0 < n by omega)
  have := mn_le (f := f) hi
  have := h j hj
  omega
theorem mn_congr {n : Nat} {f g : Nat → Int} (h : ∀ i, i < n → f i = g i) : mn n f = mn n g := by
  cases n with
  | zero => rfl
  | succ n =>
    show (vec n fun i => f (i + 1)).foldl _ (f 0) = (vec n fun i => g (i + 1)).foldl _ (g 0)
    rw [h 0 (by omega), vec_congr (f := fun i => f (i + 1)) (g := fun i => g (i + 1)) fun i hi => h (i + 1) (by omega)]
theorem m_min {n : Nat} {f : Nat → Int} (h : 0 < n) : minR (vec n f) = .ok (mn n f) := by
  cases n with
  | zero => omega
  | succ n => unfold minR; rw [vec_cons]; rfl
/-! ### sums -/
def sm (n : Nat) (f : Nat → Int) : Int := (vec n f).sum
@[simp] theorem sm_zero (f : Nat → Int) : sm 0 f = 0 := rfl
theorem sm_succ (n : Nat) (f : Nat → Int) : sm (n + 1) f = sm n f + f n := by
  unfold sm; rw [vec_succ, List.sum_append]; simp
theorem sm_congr {n : Nat} {f g : Nat → Int} (h : ∀ i, i < n → f i = g i) : sm n f = sm n g := by
  unfold sm; rw [vec_congr h]
theorem sum_vec (n : Nat) (f : Nat → Int) : (vec n f).sum = sm n f := rfl
end
/-! ### tables -/
abbrev tb (n m : Nat) (f : Nat → Nat → Int) : List (List Int) := vec n fun i => vec m fun j => f i j
theorem tb_congr {n m : Nat} {f g : Nat → Nat → Int} (h : ∀ i j, i < n → j < m → f i j = g i j) : tb n m f = tb n m g := vec_congr fun i hi => vec_congr fun j hj => h i j hi hj
theorem reprR_of {b h : Nat} {d : D} (s : Shw b h d) (hb : b ≤ 16000000) (hh : h ≤ 60) : reprR d = .ok d.shown := by
  unfold reprR
  rw [if_pos ⟨s.sh, Nat.le_trans s.ln (Nat.le_trans hb (by rw [sizeLine_eq]; decide)), Nat.le_trans s.dp hh⟩]
theorem cmp_neS (a b : Str) : cmpR .NotEq (.str a) (.str b) = .ok (!decide (a = b)) := rfl
theorem cmp_eqS (a b : Str) : cmpR .Eq (.str a) (.str b) = .ok (decide (a = b)) := rfl
/-- a value that repr shows -/
def Sh (d : D) : Prop := ∃ b h, Shw b h d ∧ b ≤ 16000000 ∧ h ≤ 60
theorem Sh.repr {d : D} (s : Sh d) : reprR d = .ok d.shown := by obtain ⟨b, h, s, hb, hh⟩ := s; exact reprR_of s hb hh
end Cr
set_option Elab.async false
set_option linter.all false
set_option maxRecDepth 100000
set_option maxHeartbeats 4000000
/-! Loops that look for something; sums of gains. -/
namespace Cr
open PySem
section
variable {α β γ σ ρ : Type}
/-- nothing found: on; found: out -/
def lpO : Option ρ → Lp Unit ρ
  | none => .nx ()
  | some r => .rt r
theorem m_forS {f : Unit → α → R (Lp Unit ρ)} (g : α → Option ρ) : ∀ (xs : List α), (∀ x ∈ xs, f () x = .ok (lpO (g x))) → forF f xs () = .ok (lpO (xs.findSome? g))
  | [], _ => rfl
  | x :: xs, h => by
    show (f () x).bind _ = _
    rw [h x List.mem_cons_self, R_bind_ok, List.findSome?_cons]
    cases g x with
    | none => exact m_forS g xs fun y hy => h y (List.mem_cons_of_mem _ hy)
    | some r => rfl
theorem lp_on (o : Option ρ) : lpB (R.ok (lpO o)) (fun _ => .ok (.nx ())) (fun v => .ok (.rt v)) = (.ok (lpO o) : R (Lp Unit ρ)) := by cases o <;> rfl
theorem lp_end (o : Option ρ) (d : ρ) : lpB (R.ok (lpO o)) (fun _ => .ok d) (fun v => .ok v) = .ok (o.getD d) := by cases o <;> rfl
theorem lp_if (c : Bool) (r : ρ) : (if c = true then .ok (.rt r) else .ok (.nx ()) : R (Lp Unit ρ)) = .ok (lpO (if c = true then some r else none)) := by cases c <;> rfl
/-- what a search finds over places -/
theorem find_vec_none {n : Nat} {h : Nat → α} {g : α → Option ρ} : (vec n h).findSome? g = none ↔ ∀ i, i < n → g (h i) = none := by
  rw [List.findSome?_eq_none_iff]
  constructor
  · intro w i hi; exact w _ (mem_vec.mpr ⟨i, hi, rfl⟩)
  · rintro w x hx
    obtain ⟨i, hi, rfl⟩ := mem_vec.mp hx
    exact w i hi
/-- a search that says no: all hold, or one does not -/
theorem search_getD {xs : List α} {g : α → Option Bool} (hg : ∀ x ∈ xs, g x = none ∨ g x = some false) {P : Prop} [Decidable P] (hp : P ↔ ∀ x ∈ xs, g x = none) : (xs.findSome? g).getD true = decide P := by
  cases h : xs.findSome? g with
  | none =>
    rw [List.findSome?_eq_none_iff] at h
    rw [Option.getD_none, decide_eq_true (hp.mpr h)]
  | some b =>
    obtain ⟨x, hx, e⟩ := List.exists_of_findSome?_eq_some h
    have hb : b = false := by rcases hg x hx with q | q <;> rw [q] at e <;> cases e; rfl
    subst hb
    rw [Option.getD_some]
    symm
    refine decide_eq_false fun w => ?_
    rw [hp.mp w x hx] at e
    cases e
end
/-! ### equality of data -/
structure EqE {α : Type} (k : Nat) (f : α → D) : Prop where
  cl : ∀ a, (f a).canLay0 = true
  dp : ∀ a, (f a).depth ≤ k
  eq : ∀ a b, (PyData.eqv (f a) (f b) = true) ↔ a = b
  ns : ∀ a s, f a ≠ .str s
theorem eqE_int : EqE 0 PyData.int := ⟨fun a => by simp [PyData.canLay0], fun a => by simp [PyData.depth], fun a b => by simp [PyData.eqv], fun a s h => by cases h⟩
theorem eqE_bool : EqE 0 PyData.bool := ⟨fun a => by simp [PyData.canLay0], fun a => by simp [PyData.depth], fun a b => by cases a <;> cases b <;> simp [PyData.eqv], fun a s h => by cases h⟩
section
variable {α β : Type} {k l : Nat} {f : α → D} {g : β → D}
theorem eqv_all (h : EqE k f) : ∀ xs ys : List α, PyData.eqvAll (xs.map f) (ys.map f) = true ↔ xs = ys
  | [], [] => by simp [PyData.eqvAll]
  | [], _ :: _ => by simp [PyData.eqvAll]
  | _ :: _, [] => by simp [PyData.eqvAll]
  | x :: xs, y :: ys => by
    rw [List.map_cons, List.map_cons, PyData.eqvAll, Bool.and_eq_true, h.eq, eqv_all h xs ys]
    simp
theorem cl_all (h : EqE k f) : ∀ xs : List α, PyData.canLayAll0 (xs.map f) = true
  | [] => rfl
  | x :: xs => by rw [List.map_cons, PyData.canLayAll0, h.cl, cl_all h xs]; rfl
theorem dp_all (h : EqE k f) : ∀ xs : List α, PyData.depthAll (xs.map f) ≤ k
  | [] => by simp [PyData.depthAll]
  | x :: xs => by
    rw [List.map_cons, PyData.depthAll]
    have := h.dp x
    have := dp_all h xs
    omega
theorem EqE.L (h : EqE k f) : EqE (k + 1) (eL f) := ⟨fun a => by simp only [PyData.canLay0]; exact cl_all h a, fun a => by simp only [PyData.depth]; have := dp_all h a; omega, fun a b => by rw [show PyData.eqv (eL f a) (eL f b) = PyData.eqvAll (a.map f) (b.map f) by simp only [PyData.eqv]]; exact eqv_all h a b, fun a s h => by cases h⟩
theorem EqE.T (h : EqE k f) : EqE (k + 1) (eT f) := ⟨fun a => by simp only [PyData.canLay0]; exact cl_all h a, fun a => by simp only [PyData.depth]; have := dp_all h a; omega, fun a b => by rw [show PyData.eqv (eT f a) (eT f b) = PyData.eqvAll (a.map f) (b.map f) by simp only [PyData.eqv]]; exact eqv_all h a b, fun a s h => by cases h⟩
theorem twoS_no {a b : D} (h : ∀ s, a ≠ .str s) : twoS a b = none := by
  cases a <;> first | rfl | exact absurd rfl (h _)
theorem EqE.ne (h : EqE k f) (hk : k ≤ 60) [DecidableEq α] (a b : α) : cmpR .NotEq (f a) (f b) = .ok (!decide (a = b)) := by
  have e : eqD (f a) (f b) = some (decide (a = b)) := by
    unfold eqD
    rw [twoS_no (h.ns a)]
    have sh : ∀ a, SeqAt.shaped (f a) = true := fun a => by
      unfold SeqAt.shaped
      rw [h.cl a, decide_eq_true (Nat.le_trans (h.dp a) (by omega))]; rfl
    show (if SeqAt.shaped (f a) = true ∧ SeqAt.shaped (f b) = true then some (PyData.eqv (f a) (f b)) else none) = _
    rw [if_pos ⟨sh a, sh b⟩]
    congr 1
    rw [Bool.eq_iff_iff, h.eq, decide_eq_true_iff]
  show ofO ((eqD (f a) (f b)).map (!·)) = _
  rw [e]; rfl
theorem EqE.eqq (h : EqE k f) (hk : k ≤ 60) [DecidableEq α] (a b : α) : cmpR .Eq (f a) (f b) = .ok (decide (a = b)) := by
  have e := h.ne hk a b
  have e2 : ofO ((eqD (f a) (f b)).map (!·)) = .ok (!decide (a = b)) := e
  show ofO (eqD (f a) (f b)) = _
  cases q : eqD (f a) (f b) with
  | none => rw [q] at e2; cases e2
  | some c =>
    rw [q] at e2
    have : (!c) = !decide (a = b) := by injection e2
    have : c = decide (a = b) := by cases c <;> cases hd : decide (a = b) <;> simp_all
    rw [this]; rfl
end
theorem ne_nil (ys : List Int) : cmpR .NotEq (eL PyData.int ys) (eL eD ([] : List D)) = .ok (!ys.isEmpty) := by
  have := EqE.ne eqE_int.L (by decide) ys []
  rw [show (eL eD ([] : List D)) = eL PyData.int ([] : List Int) from rfl, this]
  cases ys <;> rfl
/-! ### checks -/
/-- whether something holds -/
noncomputable def pb (p : Prop) : Bool := @decide p (Classical.propDecidable p)
theorem pb_iff {p : Prop} : pb p = true ↔ p := @decide_eq_true_iff p (Classical.propDecidable p)
theorem pb_dec {p : Prop} [Decidable p] : decide p = pb p := by
  rw [Bool.eq_iff_iff, pb_iff, decide_eq_true_iff]
theorem pb_t {p : Prop} (h : p) : pb p = true := pb_iff.mpr h
theorem pb_f {p : Prop} (h : ¬ p) : pb p = false := by
  cases e : pb p with
  | false => rfl
  | true => exact absurd (pb_iff.mp e) h
theorem pb_congr {p q : Prop} (h : p ↔ q) : pb p = pb q := by rw [Bool.eq_iff_iff, pb_iff, pb_iff]; exact h
/-- on, or out with False -/
def ckL (b : Bool) : Lp Unit Bool := if b = true then .nx () else .rt false
section
variable {α : Type}
theorem ck_if (b : Bool) : (if b = true then .ok (.rt false) else .ok (.nx ()) : R (Lp Unit Bool)) = .ok (ckL (!b)) := by cases b <;> rfl
theorem ck_or (b : Bool) (t : R (Lp Unit Bool)) {c : Bool} (h : b = false → t = .ok (ckL c)) : (if b = true then .ok (.rt false) else t) = .ok (ckL (!b && c)) := by
  cases b with
  | true => rfl
  | false => exact h rfl
theorem ck_for {n : Nat} {h : Nat → α} {f : Unit → α → R (Lp Unit Bool)} (P : Nat → Prop) (e : ∀ i, i < n → f () (h i) = .ok (ckL (pb (P i)))) : forF f (vec n h) () = .ok (ckL (pb (∀ i, i < n → P i))) := by
  have go : ∀ (m k : Nat) (h : Nat → α) (P : Nat → Prop), (∀ i, i < m → f () (h i) = .ok (ckL (pb (P i)))) → forF f (vec m h) () = .ok (ckL (pb (∀ i, i < m → P i))) := by
    intro m
    induction m with
    | zero => intro k h P _; rw [pb_t (fun i hi => absurd hi (by omega))]; rfl
    | succ m ih =>
      intro k h P e
      rw [vec_cons]
      show (f () (h 0)).bind _ = _
      rw [e 0 (by omega), R_bind_ok]
      by_cases h0 : P 0
      · rw [pb_t h0]
        show forF f (vec m fun i => h (i + 1)) () = _
        rw [ih (k + 1) (fun i => h (i + 1)) (fun i => P (i + 1)) fun i hi => e (i + 1) (by omega)]
        congr 2
        exact pb_congr ⟨fun w i hi => by
          cases i with
          | zero => exact h0
          | succ i => exact w i (by omega), fun w i hi => w (i + 1) (by omega)⟩
      · rw [pb_f h0, pb_f (fun w => h0 (w 0 (by omega)))]
        rfl
  exact go n 0 h P e
theorem ck_on (b : Bool) : lpB (R.ok (ckL b)) (fun _ => .ok (.nx ())) (fun v => .ok (.rt v)) = (.ok (ckL b) : R (Lp Unit Bool)) := by cases b <;> rfl
theorem ck_end (b : Bool) : lpB (R.ok (ckL b)) (fun _ => .ok true) (fun v => .ok v) = .ok b := by cases b <;> rfl
theorem fil_ok {n : Nat} {h : Nat → α} {g : α → R (Option Int)} (c : Nat → Bool) (hn : n ≤ 1000000) (e : ∀ i, i < n → g (h i) = .ok (if c i = true then some 1 else none)) : ∃ ys : List Int, filR (vec n h) g = .ok ys ∧ (ys.isEmpty = true ↔ ∀ i, i < n → c i = false) := by
  refine ⟨(vec n fun i => i).filterMap fun i => if c i = true then some 1 else none, ?_, ?_⟩
  · unfold filR
    rw [if_pos (sz (by rw [vec_len]; exact hn))]
    have go : ∀ l : List Nat, (∀ i ∈ l, i < n) → filG g (l.map h) = .ok (l.filterMap fun i => if c i = true then some 1 else none) := by
      intro l
      induction l with
      | nil => intro _; rfl
      | cons i l ih =>
        intro hl
        show (g (h i)).bind _ = _
        rw [e i (hl i List.mem_cons_self), R_bind_ok, ih fun j hj => hl j (List.mem_cons_of_mem _ hj), R_bind_ok, List.filterMap_cons]
        cases c i <;> rfl
    unfold vec
    rw [go _ fun i hi => List.mem_range.mp hi]
    simp [noX]
  · rw [List.isEmpty_iff, List.filterMap_eq_nil_iff]
    constructor
    · intro w i hi
      have := w i (mem_vec.mpr ⟨i, hi, rfl⟩)
      cases hc : c i with
      | false => rfl
      | true => rw [hc] at this; cases this
    · intro w x hx
      obtain ⟨i, hi, rfl⟩ := mem_vec.mp hx
      rw [w i hi]
      rfl
/-- a list of what does not hold, empty or not -/
theorem ck_fil {n : Nat} {h : Nat → α} {g : α → R (Option Int)} (P : Nat → Prop) (Q : Nat → Prop) [∀ i, Decidable (Q i)] (hn : n ≤ 1000000) (e : ∀ i, i < n → g (h i) = if decide (Q i) = true then .ok (some 1) else .ok none) (hq : ∀ i, i < n → (Q i ↔ ¬ P i)) :
    ((filR (vec n h) g).bind fun ys => cmpR .NotEq ((eL PyData.int) ys) ((eL eD) ([] : List D))) = .ok (!pb (∀ i, i < n → P i)) := by
  obtain ⟨ys, e1, e2⟩ := fil_ok (n := n) (h := h) (g := g) (fun i => decide (Q i)) hn fun i hi => by
    rw [e i hi]; split <;> rfl
  rw [e1, R_bind_ok, ne_nil]
  congr 2
  rw [Bool.eq_iff_iff, e2, pb_iff]
  constructor
  · intro w i hi
    have := of_decide_eq_false (w i hi)
    exact Classical.byContradiction fun c => this ((hq i hi).mpr c)
  · intro w i hi
    exact decide_eq_false fun c => (hq i hi).mp c (w i hi)
end
/-! ### sums of gains -/
theorem sm_nonneg {n : Nat} {f : Nat → Int} (h : ∀ i, i < n → 0 ≤ f i) : 0 ≤ sm n f := by
  induction n with
  | zero => simp
  | succ n ih =>
    rw [sm_succ]
    have := ih fun i hi => h i (by omega)
    have := h n (by omega)
    omega
theorem sm_sub (n : Nat) (f g : Nat → Int) : sm n (fun i => f i - g i) = sm n f - sm n g := by
  induction n with
  | zero => rfl
  | succ n ih => rw [sm_succ, sm_succ, sm_succ, ih]; omega
theorem sm_add (n : Nat) (f g : Nat → Int) : sm n (fun i => f i + g i) = sm n f + sm n g := by
  induction n with
  | zero => rfl
  | succ n ih => rw [sm_succ, sm_succ, sm_succ, ih]; omega
theorem sm_const0 (n : Nat) : sm n (fun _ => 0) = 0 := by
  induction n with
  | zero => rfl
  | succ n ih => rw [sm_succ, ih]; rfl
/-- crossing sum less straight one of neighbours -/
def gn (f : Nat → Nat → Int) (i j : Nat) : Int := f i (j + 1) + f (i + 1) j - (f i j + f (i + 1) (j + 1))
/-- all entries below a power -/
def Sml (k n m : Nat) (f : Nat → Nat → Int) : Prop := ∀ i j, i < n → j < m → Sm k (f i j)
/-- no crossing of neighbours pays -/
def Stg (n m : Nat) (f : Nat → Nat → Int) : Prop := ∀ i j, i + 1 < n → j + 1 < m → 0 ≤ gn f i j
/-- the crossing sum less the straight one of any rows and columns -/
def gx (f : Nat → Nat → Int) (i k j l : Nat) : Int := f i l + f k j - (f i j + f k l)
theorem gx_row (f : Nat → Nat → Int) (i j : Nat) : ∀ n, gx f i (i + 1) j (j + n) = sm n fun b => gn f i (j + b)
  | 0 => by unfold gx; simp
  | n + 1 => by
    rw [sm_succ, ← gx_row f i j n]
    unfold gx gn
    have : j + (n + 1) = j + n + 1 := by omega
    rw [this]
    omega
theorem gx_sum (f : Nat → Nat → Int) (i j n : Nat) : ∀ m, gx f i (i + m) j (j + n) = sm m fun a => sm n fun b => gn f (i + a) (j + b)
  | 0 => by unfold gx; simp; omega
  | m + 1 => by
    rw [sm_succ, ← gx_sum f i j n m, ← gx_row]
    unfold gx
    have : i + (m + 1) = i + m + 1 := by omega
    rw [this]
    omega
/-- no crossing pays at all -/
def Mng (n m : Nat) (f : Nat → Nat → Int) : Prop := ∀ i k j l, i < k → k < n → j < l → l < m → 0 ≤ gx f i k j l
theorem gn_gx (f : Nat → Nat → Int) (i j : Nat) : gn f i j = gx f i (i + 1) j (j + 1) := by unfold gn gx; omega
end Cr
set_option Elab.async false
set_option linter.all false
set_option maxRecDepth 100000
set_option maxHeartbeats 4000000
namespace Cr
open PySem
def t_w_feed_LI_I (a0 : (List Int)) (a1 : Int) : R (List Int) :=
  (mulR (977 : Int) a1).bind fun v1 => ((if (decide (a1 < (a0.length : Int))) = true then (atR a0 a1).bind fun v2 => .ok v2 else .ok (v1 + (cutD a0 none (some (1 : Int))).sum)) : R Int).bind fun s3 => (powR (10 : Int) (18 : Int)).bind fun v5 => (mulR s3 (19 : Int)).bind fun v6 => (mulR (7 : Int) a1).bind fun v7 => (powR (10 : Int) (39 : Int)).bind fun v8 => (modR (v6 + v7) (v8 + (23 : Int))).bind fun v9 => .ok [(if (s3 - v5) > (0 : Int) then (s3 - v5) else (0 : Int)), v9, (0 : Int)]
def t_w_draw_LI_I (a0 : (List Int)) (a1 : Int) : R (Int × (List Int)) :=
  (atR a0 (0 : Int)).bind fun v1 => if (decide ((0 : Int) < v1)) = true then (atR a0 (0 : Int)).bind fun v2 => (divR v2 a1).bind fun v3 => (atR a0 (0 : Int)).bind fun v4 => (mulR v3 a1).bind fun v5 => (putR a0 (0 : Int) v3).bind fun v6 => .ok ((v4 - v5), v6) else (atR a0 (2 : Int)).bind fun v7 => (putR a0 (2 : Int) (v7 + (1 : Int))).bind fun v8 => (atR v8 (1 : Int)).bind fun v9 => (atR v8 (2 : Int)).bind fun v10 => (mulR (6700417 : Int) v10).bind fun v11 => (mulR (v9 + v11) (v9 + v11)).bind fun v12 => (mulR v12 (v9 + v11)).bind fun v13 => (atR v8 (2 : Int)).bind fun v14 => (mulR (15485863 : Int) v14).bind fun v15 => (powR (10 : Int) (43 : Int)).bind fun v16 => (modR (v13 + v15) (v16 + (57 : Int))).bind fun v17 => (mulR v17 v17).bind fun v18 => (powR (10 : Int) (38 : Int)).bind fun v19 => (modR (v18 + (32452843 : Int)) (v19 + (133 : Int))).bind fun v20 => (powR (10 : Int) (9 : Int)).bind fun v21 => (divR v20 v21).bind fun v22 => (modR v22 a1).bind fun v23 => .ok (v23, v8)
def t_w_one_LI_LI (a0 : (List Int)) (a1 : (List Int)) : R (Int × (List Int)) :=
  (t_w_draw_LI_I a0 (a1.length : Int)).bind fun r1 => (atR a1 r1.1).bind fun v2 => .ok (v2, r1.2)
def t_w_numbers_LI_I_I_LI (a0 : (List Int)) (a1 : Int) (a2 : Int) (a3 : (List Int)) : R ((List (List Int)) × (List Int)) :=
  (t_w_one_LI_LI a0 a3).bind fun r1 => (rng1R a1).bind fun l2 => (forT (fun (s3 : ((List Int) × (List (List Int)))) x4 => (rng1R a2).bind fun l6 => (mapS l6 s3.1 fun s8 x7 => (t_w_draw_LI_I s8 (2 : Int)).bind fun r10 => (mulR (2 : Int) r10.1).bind fun v11 => (t_w_draw_LI_I r10.2 (r1.1 + (1 : Int))).bind fun r12 => (mulR ((1 : Int) - v11) r12.1).bind fun v13 => .ok (v13, r12.2)).bind fun ys9 => (appR s3.2 ys9.1).bind fun v14 => .ok (ys9.2, v14)) l2 (r1.2, ([] : (List (List Int))))).bind fun s15 => .ok (s15.2, s15.1)
def t_w_built_LI_LI_LLI (a0 : (List Int)) (a1 : (List Int)) (a2 : (List (List Int))) : R (List (List Int)) :=
  (forT (fun (s1 : (List (List Int))) x2 => (forT (fun (s4 : (List Int)) x5 => (mapR (cutD a2 none (some x2.1)) fun x7 => .ok (cutD x7 none (some (x5.1 + (1 : Int)))).sum).bind fun ys9 => (appR s4 ((x2.2 + x5.2) - ys9.sum)).bind fun v10 => .ok v10) (enumT a1) [x2.2]).bind fun s11 => (appR s1 s11).bind fun v13 => .ok v13) (enumT a0) ([] : (List (List Int)))).bind fun s14 => .ok s14
def t_w_sized_LI_I_I (a0 : (List Int)) (a1 : Int) (a2 : Int) : R ((List (List Int)) × (List Int)) :=
  (powR (10 : Int) (6 : Int)).bind fun v1 => (powR (10 : Int) (15 : Int)).bind fun v2 => (t_w_one_LI_LI a0 [(3 : Int), (3 : Int), (10 : Int), v1, v2]).bind fun r3 => (powR (10 : Int) (9 : Int)).bind fun v4 => (t_w_one_LI_LI r3.2 [(1 : Int), (2 : Int), (3 : Int), (8 : Int), v4]).bind fun r5 => (rng1R a1).bind fun l6 => (mapS l6 r5.2 fun s8 x7 => (mulR (2 : Int) r3.1).bind fun v10 => (t_w_draw_LI_I s8 (v10 + (1 : Int))).bind fun r11 => .ok ((r11.1 - r3.1), r11.2)).bind fun ys9 => (rng1R (a2 - (1 : Int))).bind fun l12 => (mapS l12 ys9.2 fun s14 x13 => (mulR (2 : Int) r3.1).bind fun v16 => (t_w_draw_LI_I s14 (v16 + (1 : Int))).bind fun r17 => .ok ((r17.1 - r3.1), r17.2)).bind fun ys15 => (rng1R (a1 - (1 : Int))).bind fun l18 => (forT (fun (s19 : ((List Int) × (List (List Int)))) x20 => (rng1R (a2 - (1 : Int))).bind fun l22 => (mapS l22 s19.1 fun s24 x23 => (((t_w_draw_LI_I s24 (3 : Int)).bind fun r26 => if (decide ((0 : Int) < r26.1)) = true then (t_w_draw_LI_I r26.2 (r5.1 + (1 : Int))).bind fun r27 => .ok (r27.1, r27.2) else .ok ((0 : Int), r26.2)) : R (Int × (List Int))).bind fun v28 => .ok (v28.1, v28.2)).bind fun ys25 => (appR s19.2 ys25.1).bind fun v29 => .ok (ys25.2, v29)) l18 (ys15.2, ([] : (List (List Int))))).bind fun s30 => (t_w_built_LI_LI_LLI ys9.1 ys15.1 s30.2).bind fun r32 => .ok (r32, s30.1)
def t_w_any_LI_I_I (a0 : (List Int)) (a1 : Int) (a2 : Int) : R ((List (List Int)) × (List Int)) :=
  (t_w_draw_LI_I a0 (3 : Int)).bind fun r1 => if (decide (r1.1 = (0 : Int))) = true then (t_w_sized_LI_I_I r1.2 a1 a2).bind fun r2 => .ok (r2.1, r2.2) else (powR (10 : Int) (12 : Int)).bind fun v3 => (powR (10 : Int) (28 : Int)).bind fun v4 => (t_w_numbers_LI_I_I_LI r1.2 a1 a2 [(1 : Int), (2 : Int), (4 : Int), (100 : Int), v3, v4]).bind fun r5 => .ok (r5.1, r5.2)
def t_w_wide_LI_I_I (a0 : (List Int)) (a1 : Int) (a2 : Int) : R ((List (List Int)) × (List Int)) :=
  (((t_w_draw_LI_I a0 (5 : Int)).bind fun r1 => if (decide (r1.1 = (0 : Int))) = true then (powR (10 : Int) (29 : Int)).bind fun v2 => (t_w_numbers_LI_I_I_LI r1.2 a1 a2 [v2]).bind fun r3 => .ok (r3.1, r3.2) else (t_w_any_LI_I_I r1.2 a1 a2).bind fun r4 => .ok (r4.1, r4.2)) : R ((List (List Int)) × (List Int))).bind fun v5 => .ok (v5.1, v5.2)
def t_w_sums_TTI_TTI_I_I (a0 : (List (List Int))) (a1 : (List (List Int))) (a2 : Int) (a3 : Int) : R (List Int) :=
  (rng1R (a1.length : Int)).bind fun l1 => (mapR l1 fun x2 => (atR a0 a2).bind fun v5 => (atR v5 x2).bind fun v6 => (atR a1 x2).bind fun v7 => (atR v7 a3).bind fun v8 => .ok (v6 + v8)).bind fun ys4 => .ok ys4
def t_is_row_of_TTI_I_I (a0 : (List (List Int))) (a1 : Int) (a2 : Int) : R Bool :=
  .ok ((isD ((eT (eT PyData.int)) a0) .tuple) && ((decide (a1 ≤ (a0.length : Int))) && (decide ((a0.length : Int) ≤ a2))))
def t_is_row_of_TI_I_I (a0 : (List Int)) (a1 : Int) (a2 : Int) : R Bool :=
  .ok ((isD ((eT PyData.int) a0) .tuple) && ((decide (a1 ≤ (a0.length : Int))) && (decide ((a0.length : Int) ≤ a2))))
def t_is_integer_I (a0 : Int) : R Bool :=
  .ok ((isD (PyData.int a0) .int) && (!(isD (PyData.int a0) .bool)))
def t_are_integers_TI_I (a0 : (List Int)) (a1 : Int) : R Bool :=
  (((t_is_row_of_TI_I_I a0 a1 a1).bind fun r1 => if r1 = true then (mapR a0 fun x2 => (t_is_integer_I x2).bind fun r5 => .ok r5).bind fun ys4 => .ok (ys4.all id) else .ok false) : R Bool).bind fun v6 => .ok v6
def t_is_table_form_TTI (a0 : (List (List Int))) : R Bool :=
  (((t_is_row_of_TTI_I_I a0 (1 : Int) (8 : Int)).bind fun r1 => if (!r1) = true then .ok true else (atR a0 (0 : Int)).bind fun v2 => (t_is_row_of_TI_I_I v2 (1 : Int) (8 : Int)).bind fun r3 => .ok (!r3)) : R Bool).bind fun v4 => if v4 = true then .ok false else (mapR a0 fun x5 => (atR a0 (0 : Int)).bind fun v8 => (t_are_integers_TI_I x5 (v8.length : Int)).bind fun r9 => .ok r9).bind fun ys7 => .ok (ys7.all id)
def t_need_table_TTI (a0 : (List (List Int))) : R Unit :=
  (t_is_table_form_TTI a0).bind fun r1 => if (!r1) = true then .ex 2 else .ok ()
def t_need_two_TTI_TTI (a0 : (List (List Int))) (a1 : (List (List Int))) : R Unit :=
  (t_need_table_TTI a0).bind fun r1 => (t_need_table_TTI a1).bind fun r2 => (atR a0 (0 : Int)).bind fun v3 => if (!decide ((v3.length : Int) = (a1.length : Int))) = true then .ex 7 else .ok ()
def t_columns_of_TTI (a0 : (List (List Int))) : R (List (List Int)) :=
  (atR a0 (0 : Int)).bind fun v1 => (rng1R (v1.length : Int)).bind fun l2 => (mapR l2 fun x3 => (mapR a0 fun x6 => (atR x6 x3).bind fun v9 => .ok v9).bind fun ys8 => .ok ys8).bind fun ys5 => .ok ys5
def t_sums_by_TI_TI (a0 : (List Int)) (a1 : (List Int)) : R (List Int) :=
  (mapR (a0.zip a1) fun x1 => .ok (x1.1 + x1.2)).bind fun ys3 => .ok ys3
def t_least_sums_TTI_TTI (a0 : (List (List Int))) (a1 : (List (List Int))) : R (List (List Int)) :=
  (t_columns_of_TTI a1).bind fun r1 => (mapR a0 fun x2 => (mapR r1 fun x5 => (t_sums_by_TI_TI x2 x5).bind fun r8 => (minR r8).bind fun v9 => .ok v9).bind fun ys7 => .ok ys7).bind fun ys4 => .ok ys4
def t_product_TTI_TTI (a0 : (List (List Int))) (a1 : (List (List Int))) : R (List (List Int)) :=
  (t_need_two_TTI_TTI a0 a1).bind fun r1 => (t_least_sums_TTI_TTI a0 a1).bind fun r2 => .ok r2
def t_law_LI (a0 : (List Int)) : R Bool :=
  (rng1R (if (if (5 : Int) < (a0.length : Int) then (5 : Int) else (a0.length : Int)) > (1 : Int) then (if (5 : Int) < (a0.length : Int) then (5 : Int) else (a0.length : Int)) else (1 : Int))).bind fun l1 => (lpB (forF (ρ := Bool) (fun (s2 : Unit) x3 => (t_w_feed_LI_I a0 x3).bind fun r5 => (rng1R (3 : Int)).bind fun l6 => (mapS l6 r5 fun s8 x7 => (t_w_draw_LI_I s8 (8 : Int)).bind fun r10 => .ok (((1 : Int) + r10.1), r10.2)).bind fun ys9 => (unp3 ys9.1).bind fun u11 => (t_w_wide_LI_I_I ys9.2 u11.1 u11.2.1).bind fun r12 => (t_w_wide_LI_I_I r12.2 u11.2.1 u11.2.2).bind fun r13 => (rng1R u11.1).bind fun l14 => (forT (fun (s15 : (List (List Int))) x16 => (rng1R u11.2.2).bind fun l18 => (mapR l18 fun x19 => (t_w_sums_TTI_TTI_I_I r12.1 r13.1 x16 x19).bind fun r22 => (minR r22).bind fun v23 => .ok v23).bind fun ys21 => (appR s15 ys21).bind fun v24 => .ok v24) l14 ([] : (List (List Int)))).bind fun s25 => (((t_product_TTI_TTI r12.1 r13.1).bind fun r27 => (reprR ((eT (eT PyData.int)) r27)).bind fun v28 => (reprR ((eT (eT PyData.int)) s25)).bind fun v29 => (cmpR .NotEq (PyData.str v28) (PyData.str v29)).bind fun v30 => if v30 = true then .ok true else (t_product_TTI_TTI r12.1 r13.1).bind fun r31 => (reprR ((eT (eT PyData.int)) r31)).bind fun v32 => (reprR ((eT (eT PyData.int)) s25)).bind fun v33 => (cmpR .NotEq (PyData.str v32) (PyData.str v33)).bind fun v34 => .ok v34) : R Bool).bind fun v35 => if v35 = true then .ok (.rt false) else .ok (.nx ())) l1 ()) (fun s36 => .ok true) fun v => .ok v)
end Cr
set_option Elab.async false
set_option linter.all false
set_option maxRecDepth 100000
set_option maxHeartbeats 4000000
/-! What the law's draws give. -/
namespace Cr
open PySem
/-- a feed: n draws are still to come -/
def Fd (n : Nat) (s : List Int) : Prop := ∃ f0 f1 f2 : Int, s = [f0, f1, f2] ∧ 0 ≤ f0 ∧ f0.natAbs.log2 ≤ 2000000 ∧ 0 ≤ f1 ∧ f1 < 10 ^ 39 + 23 ∧ 0 ≤ f2 ∧ f2 + n ≤ 10 ^ 18
theorem Fd.mono {n m : Nat} {s : List Int} (h : Fd n s) (hm : m ≤ n) : Fd m s := by
  obtain ⟨a, b, c, e, h1, hb, h2, h3, h4, h5⟩ := h
  exact ⟨a, b, c, e, h1, hb, h2, h3, h4, by omega⟩
theorem log2_mono {a b : Nat} (h : a ≤ b) : a.log2 ≤ b.log2 := by
  by_cases ha : a = 0
  · subst ha; simp
  · exact (Nat.le_log2 (by omega)).mpr (Nat.le_trans (Nat.log2_self_le ha) h)
theorem log2_add {a b : Nat} : (a + b).log2 ≤ max a.log2 b.log2 + 1 := by
  by_cases hab : a + b = 0
  · have : a = 0 ∧ b = 0 := by omega
    rw [this.1, this.2]; simp
  · have h1 : a < 2 ^ (max a.log2 b.log2 + 1) := Nat.lt_of_lt_of_le Nat.lt_log2_self (Nat.pow_le_pow_right (by decide) (by omega))
    have h2 : b < 2 ^ (max a.log2 b.log2 + 1) := Nat.lt_of_lt_of_le Nat.lt_log2_self (Nat.pow_le_pow_right (by decide) (by omega))
    have h3 : a + b < 2 ^ (max a.log2 b.log2 + 1 + 1) := by rw [Nat.pow_succ]; omega
    have := (Nat.log2_lt hab).mpr h3
    omega
theorem bits_log {z : Int} (h : Builtin.Int.intBits z ≤ 1048576) : z.natAbs.log2 ≤ 1048576 := by
  unfold Builtin.Int.intBits at h
  split at h
  · rename_i h0
    have : z = 0 := by simpa using h0
    subst this
    decide
  · omega
theorem m_mul_log {a b : Int} (h : a.natAbs.log2 + b.natAbs.log2 < 100000000) : mulR a b = .ok (a * b) := by
  unfold mulR mulOk
  rw [if_pos]
  rw [Bool.or_eq_true]
  exact .inr (decide_eq_true h)
theorem p10_18 : powR 10 18 = .ok 1000000000000000000 := m_pow (by decide) (by decide)
theorem p10_39 : powR 10 39 = .ok (10 ^ 39) := m_pow (by decide) (by rfl)
theorem p10_43 : powR 10 43 = .ok (10 ^ 43) := m_pow (by decide) (by rfl)
theorem p10_38 : powR 10 38 = .ok (10 ^ 38) := m_pow (by decide) (by rfl)
theorem p10_9 : powR 10 9 = .ok 1000000000 := m_pow (by decide) (by decide)
theorem p10_6 : powR 10 6 = .ok 1000000 := m_pow (by decide) (by decide)
theorem p10_15 : powR 10 15 = .ok 1000000000000000 := m_pow (by decide) (by decide)
theorem p10_12 : powR 10 12 = .ok 1000000000000 := m_pow (by decide) (by decide)
theorem p10_28 : powR 10 28 = .ok 10000000000000000000000000000 := m_pow (by decide) (by decide)
theorem p10_29 : powR 10 29 = .ok 100000000000000000000000000000 := m_pow (by decide) (by decide)
theorem d_feed {ns : List Int} {k : Int} (hs : Scr ns) (hk : 0 ≤ k) (hk2 : k < 1000) : Ok (t_w_feed_LI_I ns k) (Fd 100000000) := by
  unfold t_w_feed_LI_I
  rw [m_mul_l (by decide) (by decide), R_bind_ok]
  have hb : ∀ z ∈ ns, z.natAbs.log2 ≤ 1048576 := fun z hz => bits_log (hs.2 z hz)
  have e : ns = vec ns.length fun i => ns.getD i default := vec_of ns
  have hg : ∀ i, i < ns.length → ns.getD i default ∈ ns := fun i hi => by
    have : ns.getD i default = ns[i] := by rw [List.getD_eq_getElem?_getD, List.getElem?_eq_getElem hi]; rfl
    rw [this]; exact List.getElem_mem hi
  refine Ok.bind (P := fun c => c.natAbs.log2 ≤ 1100000) (Ok.ite (fun h => ?_) fun h => Ok.ok ?_) fun c hc => ?_
  · have h' : k < (ns.length : Int) := of_decide_eq_true h
    rw [e, m_at (by omega) (by omega)]
    exact Ok.ok (Nat.le_trans (hb _ (hg _ (by omega))) (by decide))
  · have hsum : (cutD ns none (some (1 : Int))).sum.natAbs.log2 ≤ 1048576 := by
      rw [cut_to (by decide)]
      cases ns with
      | nil => decide
      | cons z r =>
        show (([z] : List Int).sum).natAbs.log2 ≤ _
        have : ([z] : List Int).sum = z := by simp
        rw [this]
        exact hb z List.mem_cons_self
    have h1 : (977 * k).natAbs.log2 ≤ 64 := by
      have : (977 * k).natAbs < 2 ^ 64 := by omega
      exact Nat.le_of_lt (log2_lt' this (by decide))
    have h2 : (977 * k + (cutD ns none (some (1 : Int))).sum).natAbs ≤ (977 * k).natAbs + (cutD ns none (some (1 : Int))).sum.natAbs := Int.natAbs_add_le _ _
    have h3 := log2_mono h2
    have h4 := @log2_add (977 * k).natAbs (cutD ns none (some (1 : Int))).sum.natAbs
    omega
  rw [p10_18, R_bind_ok, m_mul_r (by decide) (by decide), R_bind_ok, m_mul_l (by decide) (by decide), R_bind_ok, p10_39, R_bind_ok, m_mod (by decide), R_bind_ok]
  refine Ok.ok ⟨_, _, _, rfl, ?_, ?_, Int.emod_nonneg _ (by decide), Int.emod_lt_of_pos _ (by decide), by decide, by decide⟩
  · split <;> omega
  · split
    · have : (c - 1000000000000000000).natAbs ≤ c.natAbs := by omega
      have := log2_mono this
      omega
    · decide
theorem p1000 : (2 ^ 200 : Int) < 2 ^ 1000 := by with_unfolding_all decide
theorem d_draw {n : Nat} {s : List Int} {m : Int} (h : Fd (n + 1) s) (hm : 0 < m) (hm2 : m < 2 ^ 200) : Ok (t_w_draw_LI_I s m) fun r => 0 ≤ r.1 ∧ r.1 < m ∧ Fd n r.2 := by
  obtain ⟨f0, f1, f2, rfl, h0, hb, h1, h2, h3, h4⟩ := h
  have hm3 : m < 2 ^ 1000 := Int.lt_trans hm2 p1000
  have hm4 : m.natAbs.log2 < 200 := log2_lt' (by omega) (by decide)
  have hle : f0 / m ≤ f0 := Int.ediv_le_self m h0
  have hge : 0 ≤ f0 / m := Int.ediv_nonneg h0 (by omega)
  have hb2 : (f0 / m).natAbs.log2 ≤ 2000000 := Nat.le_trans (log2_mono (show (f0 / m).natAbs ≤ f0.natAbs by omega)) hb
  unfold t_w_draw_LI_I
  rw [m_at0, R_bind_ok]
  refine Ok.ite (fun hf => ?_) fun hf => ?_
  · rw [R_bind_ok, m_div hm hm3, R_bind_ok, R_bind_ok, m_mul_log (by omega), R_bind_ok, m_put30, R_bind_ok]
    have e1 : f0 - f0 / m * m = f0 % m := by
      have := Int.emod_add_mul_ediv f0 m
      rw [Int.mul_comm] at this
      omega
    refine Ok.ok ⟨?_, ?_, f0 / m, f1, f2, rfl, hge, hb2, h1, h2, h3, by omega⟩
    · show 0 ≤ f0 - f0 / m * m; rw [e1]; exact Int.emod_nonneg _ (by omega)
    · show f0 - f0 / m * m < m; rw [e1]; exact Int.emod_lt_of_pos _ hm
  · rw [m_at32, R_bind_ok, m_put32, R_bind_ok, m_at31, R_bind_ok, m_at32, R_bind_ok, m_mul_l (by decide) (by decide), R_bind_ok]
    have s1 : Sm 140 (f1 + 6700417 * (f2 + 1)) := Sm.of0 (b := 2 ^ 139) (by omega) (by omega) (by decide)
    have s2 := s1.mul s1
    rw [m_mul_b 140 140 s1 s1 (by decide) (by decide) (by decide), R_bind_ok, m_mul_b (140 + 140) 140 s2 s1 (by decide) (by decide) (by decide), R_bind_ok, R_bind_ok, m_mul_l (by decide) (by decide), R_bind_ok, p10_43, R_bind_ok, m_mod (by decide), R_bind_ok]
    generalize (f1 + 6700417 * (f2 + 1)) * (f1 + 6700417 * (f2 + 1)) * (f1 + 6700417 * (f2 + 1)) + 15485863 * (f2 + 1) = w
    have n1 := Int.emod_nonneg w (show (10 ^ 43 + 57 : Int) ≠ 0 by decide)
    have n2 := Int.emod_lt_of_pos w (show (0 : Int) < 10 ^ 43 + 57 by decide)
    have s3 : Sm 150 (w % (10 ^ 43 + 57)) := Sm.of0 (b := 10 ^ 43 + 57) n1 (by omega) (by decide)
    rw [m_mul_b 150 150 s3 s3 (by decide) (by decide) (by decide), R_bind_ok, p10_38, R_bind_ok, m_mod (by decide), R_bind_ok, p10_9, R_bind_ok, m_div (by decide) (by decide), R_bind_ok, m_mod hm, R_bind_ok]
    exact Ok.ok ⟨Int.emod_nonneg _ (by omega), Int.emod_lt_of_pos _ hm, f0, f1, f2 + 1, rfl, h0, hb, h1, h2, by omega, by omega⟩
/-- one of some things -/
theorem d_one {n : Nat} {s : List Int} {xs : List Int} (P : Int → Prop) (h : Fd (n + 1) s) (h0 : 0 < xs.length) (h1 : xs.length < 1000000) (hp : ∀ x ∈ xs, P x) : Ok (t_w_one_LI_LI s xs) fun r => P r.1 ∧ Fd n r.2 := by
  unfold t_w_one_LI_LI
  refine Ok.bind (d_draw h (by omega) (by omega)) fun r ⟨r1, r2, r3⟩ => ?_
  rw [vec_of xs] at *
  rw [vec_len] at r2
  rw [m_at r1 r2, R_bind_ok]
  exact Ok.ok ⟨hp _ (mem_vec.mpr ⟨_, by omega, rfl⟩), r3⟩
/-! ### tables of parts -/
def sh0 (t : Nat → Int) : Nat → Int
  | 0 => 0
  | j + 1 => t j
/-- the table of a first column, a first row less its first entry, and gains -/
def pt (l t : Nat → Int) (g : Nat → Nat → Int) (i j : Nat) : Int := l i + sh0 t j - sm i fun a => sm j fun b => g a b
theorem gn_pt (l t : Nat → Int) (g : Nat → Nat → Int) (i j : Nat) : gn (pt l t g) i j = g i j := by
  unfold gn pt
  rw [sm_succ, sm_succ]
  rw [sm_congr (n := i) (f := fun a => sm (j + 1) fun b => g a b) (g := fun a => (sm j fun b => g a b) + g a j) fun a _ => sm_succ _ _, sm_add, sm_succ]
  omega
theorem sm_bd {n : Nat} {f : Nat → Int} {B : Int} (h : ∀ i, i < n → 0 ≤ f i ∧ f i ≤ B) : 0 ≤ sm n f ∧ sm n f ≤ n * B := by
  induction n with
  | zero => simp
  | succ n ih =>
    have h1 := ih fun i hi => h i (by omega)
    have h2 := h n (by omega)
    rw [sm_succ]
    have e : ((n + 1 : Nat) : Int) * B = n * B + B := by rw [Int.natCast_add, Int.add_mul]; simp
    omega
theorem pt_bd {n m : Nat} {l t : Nat → Int} {g : Nat → Nat → Int} {B C : Int} (hn : n ≤ 8) (hm : m ≤ 8) (hl : ∀ i, i < n → -B ≤ l i ∧ l i ≤ B) (ht : ∀ i, i + 1 < m → -B ≤ t i ∧ t i ≤ B) (hB : 0 ≤ B) (hC : 0 ≤ C) (hg : ∀ i j, i + 1 < n → j + 1 < m → 0 ≤ g i j ∧ g i j ≤ C)
    (i j : Nat) (hi : i < n) (hj : j < m) : -(2 * B + 64 * C) ≤ pt l t g i j ∧ pt l t g i j ≤ 2 * B := by
  unfold pt
  have h1 := hl i hi
  have h2 : -B ≤ sh0 t j ∧ sh0 t j ≤ B := by
    cases j with
    | zero => show -B ≤ 0 ∧ 0 ≤ B; omega
    | succ j => exact ht j (by omega)
  have h3 := sm_bd (n := i) (f := fun a => sm j fun b => g a b) (B := 8 * C) fun a ha => by
    have := sm_bd (n := j) (f := fun b => g a b) (B := C) fun b hb => hg a b (by omega) (by omega)
    have e : (j : Int) * C ≤ 8 * C := Int.mul_le_mul_of_nonneg_right (by omega) hC
    show 0 ≤ sm j (fun b => g a b) ∧ sm j (fun b => g a b) ≤ 8 * C
    omega
  have e : (i : Int) * (8 * C) ≤ 8 * (8 * C) := Int.mul_le_mul_of_nonneg_right (by omega) (by omega)
  omega
theorem d_built {n m k : Nat} {l t : Nat → Int} {g : Nat → Nat → Int} (hn : n ≤ 1000) (hm : m ≤ 1000) (hk : n ≤ k + 1) : t_w_built_LI_LI_LLI (vec n l) (vec m t) (vec k fun a => vec m (g a)) = .ok (tb n (m + 1) (pt l t g)) := by
  unfold t_w_built_LI_LI_LLI
  rw [vec_enum n l, vec_enum m t]
  rw [m_forApp (g := fun i => vec (m + 1) fun j => pt l t g i j) (by omega), R_bind_ok]
  intro i s hi
  dsimp only
  have e : forT (fun (s9 : List Int) (x10 : Int × Int) => (mapR (cutD (vec k fun a => vec m (g a)) none (some (i : Int))) fun x14 => .ok (cutD x14 none (some (x10.1 + (1 : Int)))).sum).bind fun ys16 => (appR s9 ((l i + x10.2) - ys16.sum)).bind fun v17 => .ok v17) (vec m fun j => ((j : Int), t j)) [l i] = .ok (vec (m + 1) fun j => pt l t g i j) := by
    have := m_for (n := m) (h := fun j => ((j : Int), t j)) (f := fun (s9 : List Int) (x10 : Int × Int) => (mapR (cutD (vec k fun a => vec m (g a)) none (some (i : Int))) fun x14 => .ok (cutD x14 none (some (x10.1 + (1 : Int)))).sum).bind fun ys16 => (appR s9 ((l i + x10.2) - ys16.sum)).bind fun v17 => .ok v17) (S := fun j => vec (j + 1) fun j => pt l t g i j) fun j hj => by
      dsimp only
      rw [m_cut_to (by omega) (by omega), m_map (h := fun a => sm (j + 1) fun b => g a b) (by omega) (fun a ha => by rw [m_cut_to (by omega) (by omega)]; rfl), R_bind_ok, R_bind_id]
      rw [← m_app_vec (by omega)]
      rfl
    have e0 : (vec (0 + 1) fun j => pt l t g i j) = [l i] := by
      show [pt l t g i 0] = _
      unfold pt
      have : (sm i fun a => sm 0 fun b => g a b) = 0 := sm_const0 i
      rw [this]
      show [l i + 0 - 0] = _
      rw [Int.add_zero, Int.sub_zero]
    rw [e0] at this
    exact this
  rw [e, R_bind_ok, R_bind_id]
/-- a list of numbers around 0 -/
theorem d_some {c n k : Nat} {s : List Int} {z : Int} (h : Fd (c + n) s) (hz : 0 ≤ z) (hz2 : z ≤ 1000000000000000) (hn : n ≤ 1000) :
    Ok (mapS (vec n fun i => (i : Int)) s fun s8 x7 => (mulR (2 : Int) z).bind fun v10 => (t_w_draw_LI_I s8 (v10 + (1 : Int))).bind fun r11 => .ok ((r11.1 - z), r11.2)) fun r => ∃ g : Nat → Int, r.1 = vec n g ∧ (∀ i, i < n → -z ≤ g i ∧ g i ≤ z) ∧ Fd c r.2 := by
  refine (m_mapS (fun i s => Fd (c + (n - i)) s) (fun i x => -z ≤ x ∧ x ≤ z) (by omega) h fun i s hi hj => ?_).mono fun r ⟨g, h1, h2, h3⟩ => ⟨g, h1, h2, h3.mono (by omega)⟩
  rw [m_mul_l (by decide) (by decide), R_bind_ok]
  refine Ok.bind (d_draw (n := c + (n - (i + 1))) (hj.mono (by omega)) (by omega) (by omega)) fun r ⟨r1, r2, r3⟩ => Ok.ok ⟨⟨?_, ?_⟩, r3⟩
  · show -z ≤ r.1 - z; omega
  · show r.1 - z ≤ z; omega
theorem d_sized {c : Nat} {s : List Int} {n m : Nat} (h : Fd (c + 200) s) (hn : 1 ≤ n) (hn2 : n ≤ 8) (hm : 1 ≤ m) (hm2 : m ≤ 8) : Ok (t_w_sized_LI_I_I s n m) fun r => ∃ f, r.1 = tb n m f ∧ Sml 60 n m f ∧ Stg n m f ∧ Fd c r.2 := by
  obtain ⟨m, rfl⟩ : ∃ k, m = k + 1 := ⟨m - 1, by omega⟩
  have e1 : ((m + 1 : Nat) : Int) - 1 = m := by omega
  have e2 : (n : Int) - 1 = ((n - 1 : Nat) : Int) := by omega
  unfold t_w_sized_LI_I_I
  rw [p10_6, R_bind_ok, p10_15, R_bind_ok, e1, e2]
  refine Ok.bind (d_one (n := c + 199) (fun x => 1 ≤ x ∧ x ≤ 1000000000000000) (h.mono (by omega)) (by simp) (by simp) (by simp)) fun r3 ⟨z1, h3⟩ => ?_
  rw [p10_9, R_bind_ok]
  refine Ok.bind (d_one (n := c + 198) (fun x => 1 ≤ x ∧ x ≤ 1000000000) (h3.mono (by omega)) (by simp) (by simp) (by simp)) fun r5 ⟨z2, h5⟩ => ?_
  simp only [m_rng (show (0 : Int) ≤ (n : Int) by omega) (by omega), m_rng (show (0 : Int) ≤ (m : Int) by omega) (by omega), m_rng (show (0 : Int) ≤ ((n - 1 : Nat) : Int) by omega) (by omega), R_bind_ok, Int.toNat_natCast]
  refine Ok.bind (d_some (c := c + 190) (k := 0) (h5.mono (by omega)) (by omega) z1.2 (by omega)) fun r9 ⟨l, el, hl, h9⟩ => ?_
  refine Ok.bind (d_some (c := c + 180) (k := 0) (h9.mono (by omega)) (by omega) z1.2 (by omega)) fun r15 ⟨t, et, ht, h15⟩ => ?_
  have key := m_forAppO (n := n - 1) (h := fun i => (i : Int)) (s := r15.2) (f := fun (s19 : ((List Int) × (List (List Int)))) (x20 : Int) => (mapS (vec m fun i => (i : Int)) s19.1 fun s24 x23 => (((t_w_draw_LI_I s24 (3 : Int)).bind fun r26 => if (decide ((0 : Int) < r26.1)) = true then (t_w_draw_LI_I r26.2 (r5.1 + (1 : Int))).bind fun r27 => .ok (r27.1, r27.2) else .ok ((0 : Int), r26.2)) : R (Int × (List Int))).bind fun v28 => .ok (v28.1, v28.2)).bind fun ys25 => (appR s19.2 ys25.1).bind fun v29 => .ok (ys25.2, v29))
    (fun i s => Fd (c + 2 * 8 * (n - 1 - i)) s) (fun i xs => ∃ g : Nat → Int, xs = vec m g ∧ ∀ j, j < m → 0 ≤ g j ∧ g j ≤ 1000000000) (by omega) (h15.mono (by omega)) fun i s xs hi hxs hj => by
      refine Ok.bind (m_mapS (fun j s => Fd (c + 2 * 8 * (n - 1 - (i + 1)) + 2 * (m - j)) s) (fun j x => 0 ≤ x ∧ x ≤ 1000000000) (by omega) (hj.mono (by omega)) fun j s hj2 hs => ?_) fun r ⟨g, e, hg, hf⟩ => ?_
      · rw [R_bind_assoc]
        refine Ok.bind (d_draw (n := c + 2 * 8 * (n - 1 - (i + 1)) + 2 * (m - (j + 1)) + 1) (hs.mono (by omega)) (by decide) (by decide)) fun r ⟨q1, q2, q3⟩ => ?_
        cases hd : decide ((0 : Int) < r.1) with
        | true =>
          rw [if_pos rfl, R_bind_assoc]
          exact Ok.bind (d_draw q3 (by omega) (by omega)) fun r ⟨w1, w2, w3⟩ => Ok.ok ⟨⟨w1, by show r.1 ≤ _; omega⟩, w3⟩
        | false => exact Ok.ok ⟨⟨by show (0 : Int) ≤ 0; decide, by show (0 : Int) ≤ _; decide⟩, q3.mono (by omega)⟩
      · dsimp only
        rw [m_app (by omega), R_bind_ok]
        exact Ok.ok ⟨_, rfl, ⟨g, e, hg⟩, hf.mono (by omega)⟩
  refine Ok.bind key fun r30 ⟨G, eG, hG, h30⟩ => ?_
  obtain ⟨g, g1, g2⟩ := vec2_of (P := fun _ _ x => 0 ≤ x ∧ x ≤ 1000000000) hG
  rw [el, et, eG, g1, d_built (by omega) (by omega) (by omega), R_bind_ok]
  refine Ok.ok ⟨pt l t g, rfl, fun i j hi hj => ?_, fun i j hi hj => ?_, h30.mono (by omega)⟩
  · have := pt_bd (n := n) (m := m + 1) (l := l) (t := t) (g := g) (B := 1000000000000000) (C := 1000000000) hn2 hm2 (fun i hi => by have := hl i hi; omega) (fun i hi => by have := ht i (by omega); omega) (by decide) (by decide) (fun i j hi hj => g2 i j (by omega) (by omega)) i j hi hj
    exact Sm.of (b := 3000000000000000) (by omega) (by omega) (by decide)
  · rw [gn_pt]
    exact (g2 i j (by omega) (by omega)).1
theorem d_numbers {c : Nat} {s : List Int} {n m : Nat} {xs : List Int} (h : Fd (c + 200) s) (hn2 : n ≤ 8) (hm2 : m ≤ 8) (h0 : 0 < xs.length) (h1 : xs.length < 1000) (hp : ∀ x ∈ xs, 0 ≤ x ∧ x ≤ 10 ^ 29) : Ok (t_w_numbers_LI_I_I_LI s n m xs) fun r => ∃ f, r.1 = tb n m f ∧ Sml 100 n m f ∧ Fd c r.2 := by
  unfold t_w_numbers_LI_I_I_LI
  simp only [m_rng (show (0 : Int) ≤ (n : Int) by omega) (by omega), m_rng (show (0 : Int) ≤ (m : Int) by omega) (by omega), R_bind_ok, Int.toNat_natCast]
  refine Ok.bind (d_one (n := c + 199) (fun x => 0 ≤ x ∧ x ≤ 10 ^ 29) (h.mono (by omega)) h0 (by omega) hp) fun r1 ⟨z1, h1⟩ => ?_
  refine Ok.bind (m_forAppO (fun i s => Fd (c + 2 * 8 * (n - i)) s) (fun i xs => ∃ g : Nat → Int, xs = vec m g ∧ ∀ j, j < m → Sm 100 (g j)) (by omega) (h1.mono (by omega)) fun i s xs hi hxs hj => ?_) fun r ⟨G, eG, hG, hf⟩ => ?_
  · refine Ok.bind (m_mapS (fun j s => Fd (c + 2 * 8 * (n - (i + 1)) + 2 * (m - j)) s) (fun j x => Sm 100 x) (by omega) (hj.mono (by omega)) fun j s hj2 hs => ?_) fun r ⟨g, e, hg, hf⟩ => ?_
    · refine Ok.bind (d_draw (n := c + 2 * 8 * (n - (i + 1)) + 2 * (m - (j + 1)) + 1) (hs.mono (by omega)) (by decide) (by decide)) fun r ⟨q1, q2, q3⟩ => ?_
      rw [m_mul_l (by decide) (by decide), R_bind_ok]
      refine Ok.bind (d_draw q3 (by omega) (by omega)) fun r2 ⟨w1, w2, w3⟩ => ?_
      have hs : Sm 100 r2.1 := Sm.of0 (b := 10 ^ 29) w1 (by omega) (by decide)
      rw [m_mul_l (by omega) (by omega), R_bind_ok]
      refine Ok.ok ⟨?_, w3⟩
      have : r.1 = 0 ∨ r.1 = 1 := by omega
      rcases this with e | e
      · show Sm 100 ((1 - 2 * r.1) * r2.1)
        rw [e]
        show Sm 100 (1 * r2.1)
        rw [Int.one_mul]; exact hs
      · show Sm 100 ((1 - 2 * r.1) * r2.1)
        rw [e]
        show Sm 100 (-1 * r2.1)
        rw [Int.neg_mul, Int.one_mul]; exact hs.neg
    · dsimp only
      rw [m_app (by omega), R_bind_ok]
      exact Ok.ok ⟨_, rfl, ⟨g, e, hg⟩, hf.mono (by omega)⟩
  · obtain ⟨g, g1, g2⟩ := vec2_of (P := fun _ _ x => Sm 100 x) hG
    exact Ok.ok ⟨g, eG.trans g1, g2, hf.mono (by omega)⟩
theorem Sml.mono {k l n m : Nat} {f : Nat → Nat → Int} (h : Sml k n m f) (hl : k ≤ l) : Sml l n m f := fun i j hi hj => (h i j hi hj).mono hl
theorem d_any {c : Nat} {s : List Int} {n m : Nat} (h : Fd (c + 201) s) (hn : 1 ≤ n) (hn2 : n ≤ 8) (hm : 1 ≤ m) (hm2 : m ≤ 8) : Ok (t_w_any_LI_I_I s n m) fun r => ∃ f, r.1 = tb n m f ∧ Sml 100 n m f ∧ Fd c r.2 := by
  unfold t_w_any_LI_I_I
  refine Ok.bind (d_draw (n := c + 200) h (by decide) (by decide)) fun r ⟨_, _, h1⟩ => Ok.ite (fun _ => ?_) fun _ => ?_
  · exact Ok.bind (d_sized h1 hn hn2 hm hm2) fun r ⟨f, e, hf, _, h2⟩ => Ok.ok ⟨f, e, hf.mono (by decide), h2⟩
  · rw [p10_12, R_bind_ok, p10_28, R_bind_ok]
    exact Ok.bind (d_numbers h1 hn2 hm2 (by simp) (by simp) (by simp)) fun r ⟨f, e, hf, h2⟩ => Ok.ok ⟨f, e, hf, h2⟩
theorem d_wide {c : Nat} {s : List Int} {n m : Nat} (h : Fd (c + 202) s) (hn : 1 ≤ n) (hn2 : n ≤ 8) (hm : 1 ≤ m) (hm2 : m ≤ 8) : Ok (t_w_wide_LI_I_I s n m) fun r => ∃ f, r.1 = tb n m f ∧ Sml 100 n m f ∧ Fd c r.2 := by
  unfold t_w_wide_LI_I_I
  refine Ok.bind (P := fun r => ∃ f, r.1 = tb n m f ∧ Sml 100 n m f ∧ Fd c r.2) ?_ fun r h => Ok.ok h
  refine Ok.bind (d_draw (n := c + 201) h (by decide) (by decide)) fun r ⟨_, _, h1⟩ => Ok.ite (fun _ => ?_) fun _ => ?_
  · rw [p10_29, R_bind_ok]
    exact Ok.bind (d_numbers (h1.mono (by omega)) hn2 hm2 (by simp) (by simp) (by simp)) fun r ⟨f, e, hf, h2⟩ => Ok.ok ⟨f, e, hf, h2⟩
  · exact Ok.bind (d_any h1 hn hn2 hm hm2) fun r ⟨f, e, hf, h2⟩ => Ok.ok ⟨f, e, hf, h2⟩
/-! ### what the program asks of tables -/
theorem all_vec_true (n : Nat) : (vec n fun _ => true).all id = true := by
  rw [List.all_eq_true]
  intro x hx
  obtain ⟨_, _, rfl⟩ := mem_vec.mp hx
  rfl
theorem f_ints {n : Nat} {f : Nat → Int} {m : Int} (hm : m = n) (hn : n ≤ 1000) : t_are_integers_TI_I (vec n f) m = .ok true := by
  subst hm
  have e : t_is_row_of_TI_I_I (vec n f) n n = .ok true := by
    unfold t_is_row_of_TI_I_I
    rw [vec_len, dT (Int.le_refl _)]; rfl
  unfold t_are_integers_TI_I
  rw [e, R_bind_ok, if_pos rfl, m_map (h := fun _ => true) (by omega) (fun i hi => by rfl), R_bind_ok, R_bind_ok, all_vec_true]
theorem f_form {n m : Nat} {f : Nat → Nat → Int} (hn : 1 ≤ n) (hn2 : n ≤ 8) (hm : 1 ≤ m) (hm2 : m ≤ 8) : t_is_table_form_TTI (tb n m f) = .ok true := by
  have e1 : t_is_row_of_TTI_I_I (tb n m f) 1 8 = .ok true := by
    unfold t_is_row_of_TTI_I_I
    rw [vec_len, dT (show (1 : Int) ≤ n by omega), dT (show (n : Int) ≤ 8 by omega)]; rfl
  have e2 : ∀ i, t_is_row_of_TI_I_I (vec m fun j => f i j) 1 8 = .ok true := fun i => by
    unfold t_is_row_of_TI_I_I
    rw [vec_len, dT (show (1 : Int) ≤ m by omega), dT (show (m : Int) ≤ 8 by omega)]; rfl
  unfold t_is_table_form_TTI
  rw [e1, R_bind_ok, if_neg (by decide), m_at (by decide) (by omega), R_bind_ok, e2, R_bind_ok, R_bind_ok, if_neg (by decide)]
  rw [m_map (h := fun _ => true) (by omega) (fun i hi => by rw [R_bind_ok, f_ints (by rw [vec_len]) (by omega)]; rfl), R_bind_ok, all_vec_true]
theorem f_need {n m : Nat} {f : Nat → Nat → Int} (hn : 1 ≤ n) (hn2 : n ≤ 8) (hm : 1 ≤ m) (hm2 : m ≤ 8) : t_need_table_TTI (tb n m f) = .ok () := by
  unfold t_need_table_TTI
  rw [f_form hn hn2 hm hm2]; rfl
end Cr
set_option Elab.async false
set_option linter.all false
set_option maxRecDepth 100000
set_option maxHeartbeats 4000000
/-! Products. -/
namespace Cr
open PySem
/-- least sums over a middle -/
def pr (k : Nat) (f g : Nat → Nat → Int) (i j : Nat) : Int := mn k fun a => f i a + g a j
theorem f_columns {n m : Nat} {f : Nat → Nat → Int} (hn : 1 ≤ n) (hn2 : n ≤ 8) (hm2 : m ≤ 8) : t_columns_of_TTI (tb n m f) = .ok (tb m n fun j i => f i j) := by
  unfold t_columns_of_TTI
  rw [m_at (by decide) (by omega), R_bind_ok, vec_len, m_rng (by omega) (by omega), R_bind_ok, Int.toNat_natCast]
  rw [m_map (h := fun j => vec n fun i => f i j) (by omega), R_bind_ok]
  intro j hj
  rw [m_map (h := fun i => f i j) (by omega), R_bind_ok]
  intro i hi
  rw [m_at (by omega) (by omega), R_bind_ok, Int.toNat_natCast]
theorem f_sums_by {n : Nat} {f g : Nat → Int} (hn : n ≤ 1000) : t_sums_by_TI_TI (vec n f) (vec n g) = .ok (vec n fun i => f i + g i) := by
  unfold t_sums_by_TI_TI
  rw [vec_zip, m_map (h := fun i => f i + g i) (by omega), R_bind_ok]
  intro i hi
  rfl
theorem f_least_sums {n k m : Nat} {f g : Nat → Nat → Int} (hn2 : n ≤ 8) (hk : 1 ≤ k) (hk2 : k ≤ 8) (hm2 : m ≤ 8) : t_least_sums_TTI_TTI (tb n k f) (tb k m g) = .ok (tb n m (pr k f g)) := by
  unfold t_least_sums_TTI_TTI
  rw [f_columns hk hk2 hm2, R_bind_ok, m_map (h := fun i => vec m fun j => pr k f g i j) (by omega), R_bind_ok]
  intro i hi
  rw [m_map (h := fun j => pr k f g i j) (by omega), R_bind_ok]
  intro j hj
  rw [f_sums_by (by omega), R_bind_ok, m_min (by omega), R_bind_ok]
  rfl
theorem f_need_two {n k m : Nat} {f g : Nat → Nat → Int} (hn : 1 ≤ n) (hn2 : n ≤ 8) (hk : 1 ≤ k) (hk2 : k ≤ 8) (hm : 1 ≤ m) (hm2 : m ≤ 8) : t_need_two_TTI_TTI (tb n k f) (tb k m g) = .ok () := by
  unfold t_need_two_TTI_TTI
  rw [f_need hn hn2 hk hk2, R_bind_ok, f_need hk hk2 hm hm2, R_bind_ok, m_at (by decide) (by omega), R_bind_ok, vec_len, vec_len, dT rfl]
  rfl
theorem f_product {n k m : Nat} {f g : Nat → Nat → Int} (hn : 1 ≤ n) (hn2 : n ≤ 8) (hk : 1 ≤ k) (hk2 : k ≤ 8) (hm : 1 ≤ m) (hm2 : m ≤ 8) : t_product_TTI_TTI (tb n k f) (tb k m g) = .ok (tb n m (pr k f g)) := by
  unfold t_product_TTI_TTI
  rw [f_need_two hn hn2 hk hk2 hm hm2, R_bind_ok, f_least_sums hn2 hk hk2 hm2, R_bind_ok]
theorem pr_sml {l n k m : Nat} {f g : Nat → Nat → Int} (hk : 1 ≤ k) (hf : Sml l n k f) (hg : Sml l k m g) : Sml (l + 1) n m (pr k f g) := fun i j hi hj => by
  obtain ⟨a, ha, e⟩ := mn_at (n := k) (f := fun a => f i a + g a j) (by omega)
  unfold pr
  rw [e]
  exact (hf i a hi ha).add (hg a j ha hj)
/-! ### what repr shows of tables -/
theorem shw_ints {n k : Nat} {f : Nat → Int} (h : ∀ i, i < n → Sm k (f i)) (hk : 0 < k) (hk2 : k < 1920) : ∀ x ∈ (vec n f).map PyData.int, Shw (k + 1) 0 x := by
  intro x hx
  obtain ⟨y, hy, rfl⟩ := List.mem_map.mp hx
  obtain ⟨i, hi, rfl⟩ := mem_vec.mp hy
  exact shw_int hk hk2 (h i hi)
theorem shw_tb {n m k : Nat} {f : Nat → Nat → Int} (h : Sml k n m f) (hk : 0 < k) (hk2 : k < 1920) : Shw (3 + n * (3 + m * (k + 1 + 2) + 2)) 2 (eT (eT PyData.int) (tb n m f)) := by
  refine shw_tuple (b := 3 + m * (k + 1 + 2)) (h := 1) (n := n) ?_ (by rw [List.length_map, vec_len]; exact Nat.le_refl _)
  intro x hx
  obtain ⟨y, hy, rfl⟩ := List.mem_map.mp hx
  obtain ⟨i, hi, rfl⟩ := mem_vec.mp hy
  exact shw_tuple (shw_ints (fun j hj => h i j hi hj) hk hk2) (by rw [List.length_map, vec_len]; exact Nat.le_refl _)
theorem sh_tb {n m k : Nat} {f : Nat → Nat → Int} (h : Sml k n m f) (hn : n ≤ 100) (hm : m ≤ 100) (hk : 0 < k) (hk2 : k < 1000) : Sh (eT (eT PyData.int) (tb n m f)) := by
  refine ⟨_, _, shw_tb h hk (by omega), ?_, by decide⟩
  have h1 : m * (k + 1 + 2) ≤ 100 * 1002 := Nat.mul_le_mul hm (by omega)
  have h2 : n * (3 + m * (k + 1 + 2) + 2) ≤ 100 * (3 + 100 * 1002 + 2) := Nat.mul_le_mul hn (by omega)
  omega
end Cr
set_option Elab.async false
set_option linter.all false
set_option maxRecDepth 100000
set_option maxHeartbeats 4000000
namespace Cr
open PySem
def t_w_table_LI_I_I (a0 : (List Int)) (a1 : Int) (a2 : Int) : R ((List (List Int)) × (List Int)) :=
  (t_w_draw_LI_I a0 a1).bind fun r1 => (t_w_draw_LI_I r1.2 a2).bind fun r2 => (t_w_sized_LI_I_I r2.2 ((1 : Int) + r1.1) ((1 : Int) + r2.1)).bind fun r3 => .ok (r3.1, r3.2)
def t_w_set_TTI_I_I_I (a0 : (List (List Int))) (a1 : Int) (a2 : Int) (a3 : Int) : R (List (List Int)) :=
  (atR a0 a1).bind fun v1 => (catR (cutD v1 none (some a2)) [a3]).bind fun v2 => (catR v2 (cutD v1 (some (a2 + (1 : Int))) none)).bind fun v3 => (catR (cutD a0 none (some a1)) [v3]).bind fun v4 => (catR v4 (cutD a0 (some (a1 + (1 : Int))) none)).bind fun v5 => .ok v5
def t_w_loose_LI_I_I (a0 : (List Int)) (a1 : Int) (a2 : Int) : R ((List (List Int)) × (List Int)) :=
  (t_w_table_LI_I_I a0 a1 a2).bind fun r1 => (t_w_draw_LI_I r1.2 (3 : Int)).bind fun r2 => if (decide (r2.1 = (0 : Int))) = true then .ok (r1.1, r2.2) else if (decide (r2.1 = (1 : Int))) = true then (t_w_draw_LI_I r2.2 (r1.1.length : Int)).bind fun r3 => (atR r1.1 (0 : Int)).bind fun v4 => (t_w_draw_LI_I r3.2 (v4.length : Int)).bind fun r5 => (atR r1.1 r3.1).bind fun v6 => (atR v6 r5.1).bind fun v7 => (t_w_draw_LI_I r5.2 (7 : Int)).bind fun r8 => (t_w_set_TTI_I_I_I r1.1 r3.1 r5.1 ((v7 + r8.1) - (3 : Int))).bind fun r9 => .ok (r9, r8.2) else (powR (10 : Int) (12 : Int)).bind fun v10 => (t_w_one_LI_LI r2.2 [(2 : Int), (4 : Int), (10 : Int), v10]).bind fun r11 => (mapS r1.1 r11.2 fun s13 x12 => (mapS x12 s13 fun s16 x15 => (mulR (2 : Int) r11.1).bind fun v18 => (t_w_draw_LI_I s16 (v18 + (1 : Int))).bind fun r19 => .ok ((r19.1 - r11.1), r19.2)).bind fun ys17 => .ok (ys17.1, ys17.2)).bind fun ys14 => .ok (ys14.1, ys14.2)
def t_w_any_LI (a0 : (List Int)) : R ((List (List Int)) × (List Int)) :=
  (t_w_one_LI_LI a0 [(3 : Int), (5 : Int), (8 : Int)]).bind fun r1 => (t_w_loose_LI_I_I r1.2 r1.1 r1.1).bind fun r2 => (((t_w_draw_LI_I r2.2 (5 : Int)).bind fun r3 => if (decide (r3.1 = (0 : Int))) = true then (powR (10 : Int) (12 : Int)).bind fun v4 => (powR (10 : Int) (12 : Int)).bind fun v5 => (t_w_draw_LI_I r3.2 v5).bind fun r6 => (mapR r2.1 fun x7 => (mapR x7 fun x10 => (mulR x10 (v4 + r6.1)).bind fun v13 => .ok v13).bind fun ys12 => .ok ys12).bind fun ys9 => .ok (r6.2, ys9) else .ok (r3.2, r2.1)) : R ((List Int) × (List (List Int)))).bind fun s14 => .ok (s14.2, s14.1)
def t_width_TTI (a0 : (List (List Int))) : R Int :=
  (atR a0 (0 : Int)).bind fun v1 => .ok (v1.length : Int)
def t_lifted_table_TTI_LI_LI (a0 : (List (List Int))) (a1 : (List Int)) (a2 : (List Int)) : R (List (List Int)) :=
  (forT (fun (s1 : (List (List Int))) x2 => (mapR (x2.1.zip a2) fun x4 => .ok ((x4.1 + x2.2) + x4.2)).bind fun ys6 => (appR s1 ys6).bind fun v7 => .ok v7) (a0.zip a1) ([] : (List (List Int)))).bind fun s8 => .ok s8
def t_column_of_TTI_I (a0 : (List (List Int))) (a1 : Int) : R (List Int) :=
  (mapR a0 fun x1 => (atR x1 a1).bind fun v4 => .ok v4).bind fun ys3 => .ok ys3
def t_turned_table_TTI (a0 : (List (List Int))) : R (List (List Int)) :=
  (t_width_TTI a0).bind fun r1 => (rng1R r1).bind fun l2 => (mapR l2 fun x3 => (t_column_of_TTI_I a0 x3).bind fun r6 => .ok r6).bind fun ys5 => .ok ys5
def t_reduced_parts_TTI (a0 : (List (List Int))) : R ((List (List Int)) × (List Int) × (List Int)) :=
  (mapR a0 fun x1 => (minR x1).bind fun v4 => .ok v4).bind fun ys3 => (mapR ys3 fun x5 => .ok (-x5)).bind fun ys7 => (t_width_TTI a0).bind fun r8 => (repR [(0 : Int)] r8).bind fun v9 => (t_lifted_table_TTI_LI_LI a0 ys7 v9).bind fun r10 => (t_turned_table_TTI r10).bind fun r11 => (mapR r11 fun x12 => (minR x12).bind fun v15 => .ok v15).bind fun ys14 => (repR [(0 : Int)] (a0.length : Int)).bind fun v16 => (mapR ys14 fun x17 => .ok (-x17)).bind fun ys19 => (t_lifted_table_TTI_LI_LI r10 v16 ys19).bind fun r20 => .ok (r20, ys3, ys14)
def t_reduced_TTI (a0 : (List (List Int))) : R ((List (List Int)) × (List Int) × (List Int)) :=
  (t_need_table_TTI a0).bind fun r1 => (t_reduced_parts_TTI a0).bind fun r2 => .ok r2
def t_need_numbers_TI_I (a0 : (List Int)) (a1 : Int) : R Unit :=
  (t_are_integers_TI_I a0 a1).bind fun r1 => if (!r1) = true then .ex 5 else .ok ()
def t_lifted_table_TTI_TI_TI (a0 : (List (List Int))) (a1 : (List Int)) (a2 : (List Int)) : R (List (List Int)) :=
  (forT (fun (s1 : (List (List Int))) x2 => (mapR (x2.1.zip a2) fun x4 => .ok ((x4.1 + x2.2) + x4.2)).bind fun ys6 => (appR s1 ys6).bind fun v7 => .ok v7) (a0.zip a1) ([] : (List (List Int)))).bind fun s8 => .ok s8
def t_lifted_TTI_TI_TI (a0 : (List (List Int))) (a1 : (List Int)) (a2 : (List Int)) : R (List (List Int)) :=
  (t_need_table_TTI a0).bind fun r1 => (t_need_numbers_TI_I a1 (a0.length : Int)).bind fun r2 => (t_width_TTI a0).bind fun r3 => (t_need_numbers_TI_I a2 r3).bind fun r4 => (t_lifted_table_TTI_TI_TI a0 a1 a2).bind fun r5 => .ok r5
def t_gain_of_TTI_I_I_I_I (a0 : (List (List Int))) (a1 : Int) (a2 : Int) (a3 : Int) (a4 : Int) : R Int :=
  (atR a0 a1).bind fun v1 => (atR v1 a3).bind fun v2 => (atR a0 a2).bind fun v3 => (atR v3 a4).bind fun v4 => (atR a0 a1).bind fun v5 => (atR v5 a4).bind fun v6 => (atR a0 a2).bind fun v7 => (atR v7 a3).bind fun v8 => .ok ((v6 + v8) - (v2 + v4))
def t_gain_at_TTI_I_I (a0 : (List (List Int))) (a1 : Int) (a2 : Int) : R Int :=
  (t_gain_of_TTI_I_I_I_I a0 a1 (a1 + (1 : Int)) a2 (a2 + (1 : Int))).bind fun r1 => .ok r1
def t_gains_of_TTI (a0 : (List (List Int))) : R (List (List Int)) :=
  (rng1R ((a0.length : Int) - (1 : Int))).bind fun l1 => (forT (fun (s2 : (List (List Int))) x3 => (t_width_TTI a0).bind fun r5 => (rng1R (r5 - (1 : Int))).bind fun l6 => (mapR l6 fun x7 => (t_gain_at_TTI_I_I a0 x3 x7).bind fun r10 => .ok r10).bind fun ys9 => (appR s2 ys9).bind fun v11 => .ok v11) l1 ([] : (List (List Int)))).bind fun s12 => .ok s12
def t_first_paying_TTI (a0 : (List (List Int))) : R (Option (Int × Int)) :=
  (t_gains_of_TTI a0).bind fun r1 => (lpB (forF (ρ := (Option (Int × Int))) (fun (s2 : Unit) x3 => (lpB (forF (ρ := (Option (Int × Int))) (fun (s5 : Unit) x6 => if (decide (x6.2 < (0 : Int))) = true then .ok (.rt (some (x3.1, x6.1))) else .ok (.nx ())) (enumT x3.2) ()) (fun s8 => .ok (.nx ())) fun v => .ok (.rt v))) (enumT r1) ()) (fun s10 => .ok (none : (Option (Int × Int)))) fun v => .ok v)
def t_is_straight_table_TTI (a0 : (List (List Int))) : R Bool :=
  (t_first_paying_TTI a0).bind fun r1 => .ok r1.isNone
def t_is_straight_TTI (a0 : (List (List Int))) : R Bool :=
  (t_need_table_TTI a0).bind fun r1 => (t_is_straight_table_TTI a0).bind fun r2 => .ok r2
def t_law_LI_v2 (a0 : (List Int)) : R Bool :=
  (rng1R (3 : Int)).bind fun l1 => (lpB (forF (ρ := Bool) (fun (s2 : Unit) x3 => (t_w_feed_LI_I a0 x3).bind fun r5 => (t_w_any_LI r5).bind fun r6 => (mapR r6.1 fun x7 => (minR x7).bind fun v10 => .ok v10).bind fun ys9 => (mapR (r6.1.zip ys9) fun x11 => (mapR x11.1 fun x14 => .ok (x14 - x11.2)).bind fun ys16 => .ok ys16).bind fun ys13 => (atR r6.1 (0 : Int)).bind fun v17 => (rng1R (v17.length : Int)).bind fun l18 => (mapR l18 fun x19 => (mapR ys13 fun x22 => (atR x22 x19).bind fun v25 => .ok v25).bind fun ys24 => (minR ys24).bind fun v26 => .ok v26).bind fun ys21 => (mapR ys13 fun x27 => (mapR (x27.zip ys21) fun x30 => .ok (x30.1 - x30.2)).bind fun ys32 => .ok ys32).bind fun ys29 => (reprR ((eT (eT PyData.int)) r6.1)).bind fun v33 => (t_reduced_TTI r6.1).bind fun r34 => (((reprR ((e3 (eT (eT PyData.int)) (eT PyData.int) (eT PyData.int)) r34)).bind fun v35 => (reprR ((e3 (eT (eT PyData.int)) (eT PyData.int) (eT PyData.int)) (ys29, ys9, ys21))).bind fun v36 => (cmpR .NotEq (PyData.str v35) (PyData.str v36)).bind fun v37 => if v37 = true then .ok true else (t_reduced_TTI r6.1).bind fun r38 => (reprR ((e3 (eT (eT PyData.int)) (eT PyData.int) (eT PyData.int)) r38)).bind fun v39 => (reprR ((e3 (eT (eT PyData.int)) (eT PyData.int) (eT PyData.int)) (ys29, ys9, ys21))).bind fun v40 => (cmpR .NotEq (PyData.str v39) (PyData.str v40)).bind fun v41 => .ok v41) : R Bool).bind fun v42 => if v42 = true then .ok (.rt false) else (((filR r34.1 fun x43 => (minR x43).bind fun v46 => if (!decide (v46 = (0 : Int))) = true then .ok (some (1 : Int)) else .ok none).bind fun ys45 => (cmpR .NotEq ((eL PyData.int) ys45) ((eL eD) ([] : (List D)))).bind fun v47 => if v47 = true then .ok true else (atR r6.1 (0 : Int)).bind fun v48 => (rng1R (v48.length : Int)).bind fun l49 => (filR l49 fun x50 => (mapR r34.1 fun x53 => (atR x53 x50).bind fun v56 => .ok v56).bind fun ys55 => (minR ys55).bind fun v57 => if (!decide (v57 = (0 : Int))) = true then .ok (some (1 : Int)) else .ok none).bind fun ys52 => (cmpR .NotEq ((eL PyData.int) ys52) ((eL eD) ([] : (List D)))).bind fun v58 => .ok v58) : R Bool).bind fun v59 => if v59 = true then .ok (.rt false) else (((t_lifted_TTI_TI_TI r34.1 r34.2.1 r34.2.2).bind fun r60 => (reprR ((eT (eT PyData.int)) r60)).bind fun v61 => (cmpR .NotEq (PyData.str v61) (PyData.str v33)).bind fun v62 => if v62 = true then .ok true else (reprR ((eT (eT PyData.int)) r6.1)).bind fun v63 => (cmpR .NotEq (PyData.str v63) (PyData.str v33)).bind fun v64 => .ok v64) : R Bool).bind fun v65 => if v65 = true then .ok (.rt false) else (t_is_straight_TTI r34.1).bind fun r66 => (reprR (PyData.bool r66)).bind fun v67 => (t_is_straight_TTI r6.1).bind fun r68 => (reprR (PyData.bool r68)).bind fun v69 => (cmpR .NotEq (PyData.str v67) (PyData.str v69)).bind fun v70 => if v70 = true then .ok (.rt false) else (t_reduced_TTI r34.1).bind fun r71 => (reprR ((e3 (eT (eT PyData.int)) (eT PyData.int) (eT PyData.int)) r71)).bind fun v72 => (repR [(0 : Int)] (ys9.length : Int)).bind fun v73 => (repR [(0 : Int)] (ys21.length : Int)).bind fun v74 => (reprR ((e3 (eT (eT PyData.int)) (eT PyData.int) (eT PyData.int)) (ys29, v73, v74))).bind fun v75 => (cmpR .NotEq (PyData.str v72) (PyData.str v75)).bind fun v76 => if v76 = true then .ok (.rt false) else .ok (.nx ())) l1 ()) (fun s77 => .ok true) fun v => .ok v)
end Cr
set_option Elab.async false
set_option linter.all false
set_option maxRecDepth 100000
set_option maxHeartbeats 4000000
namespace Cr
open PySem
def t_w_any_LI_v2 (a0 : (List Int)) : R ((List (List Int)) × (List Int)) :=
  (t_w_one_LI_LI a0 [(3 : Int), (5 : Int), (8 : Int)]).bind fun r1 => (t_w_loose_LI_I_I r1.2 r1.1 r1.1).bind fun r2 => (((t_w_draw_LI_I r2.2 (5 : Int)).bind fun r3 => if (decide (r3.1 = (0 : Int))) = true then (powR (10 : Int) (14 : Int)).bind fun v4 => (powR (10 : Int) (14 : Int)).bind fun v5 => (mulR (3 : Int) v5).bind fun v6 => (t_w_draw_LI_I r3.2 v6).bind fun r7 => (mapR r2.1 fun x8 => (mapR x8 fun x11 => (mulR x11 (v4 + r7.1)).bind fun v14 => .ok v14).bind fun ys13 => .ok ys13).bind fun ys10 => .ok (r7.2, ys10) else .ok (r3.2, r2.1)) : R ((List Int) × (List (List Int)))).bind fun s15 => .ok (s15.2, s15.1)
def t_w_sums_LI (a0 : (List Int)) : R ((List (List Int)) × (List Int)) :=
  (t_w_draw_LI_I a0 (8 : Int)).bind fun r1 => (rng1R ((1 : Int) + r1.1)).bind fun l2 => (mapS l2 r1.2 fun s4 x3 => (t_w_draw_LI_I s4 (99 : Int)).bind fun r6 => .ok ((r6.1 - (49 : Int)), r6.2)).bind fun ys5 => (t_w_draw_LI_I ys5.2 (8 : Int)).bind fun r7 => (rng1R ((1 : Int) + r7.1)).bind fun l8 => (mapS l8 r7.2 fun s10 x9 => (t_w_draw_LI_I s10 (99 : Int)).bind fun r12 => .ok (r12.1, r12.2)).bind fun ys11 => (mapR ys5.1 fun x13 => (mapR ys11.1 fun x16 => .ok (x13 + x16)).bind fun ys18 => .ok ys18).bind fun ys15 => (t_w_draw_LI_I ys11.2 (2 : Int)).bind fun r19 => if (decide (r19.1 = (0 : Int))) = true then .ok (ys15, r19.2) else (t_w_draw_LI_I r19.2 (ys5.1.length : Int)).bind fun r20 => (t_w_draw_LI_I r20.2 (ys11.1.length : Int)).bind fun r21 => (atR ys15 r20.1).bind fun v22 => (atR v22 r21.1).bind fun v23 => (t_w_draw_LI_I r21.2 (3 : Int)).bind fun r24 => (t_w_set_TTI_I_I_I ys15 r20.1 r21.1 ((v23 + r24.1) - (1 : Int))).bind fun r25 => .ok (r25, r24.2)
def t_mirrored_table_TTI (a0 : (List (List Int))) : R (List (List Int)) :=
  .ok a0.reverse
def t_mirrored_TTI (a0 : (List (List Int))) : R (List (List Int)) :=
  (t_need_table_TTI a0).bind fun r1 => (t_mirrored_table_TTI a0).bind fun r2 => .ok r2
def t_w_straight_TTI (a0 : (List (List Int))) : R Bool :=
  (lpB (forF (ρ := Bool) (fun (s1 : Unit) x2 => (lpB (forF (ρ := Bool) (fun (s4 : Unit) x5 => (rng1R (x2.2.length : Int)).bind fun l7 => (lpB (forF (ρ := Bool) (fun (s8 : Unit) x9 => (rng2R (x9 + (1 : Int)) (x2.2.length : Int)).bind fun l11 => (filR l11 fun x12 => (atR x2.2 x9).bind fun v15 => (atR x5 x12).bind fun v16 => (atR x2.2 x12).bind fun v17 => (atR x5 x9).bind fun v18 => if (decide ((v17 + v18) < (v15 + v16))) = true then .ok (some (1 : Int)) else .ok none).bind fun ys14 => (cmpR .NotEq ((eL PyData.int) ys14) ((eL eD) ([] : (List D)))).bind fun v19 => if v19 = true then .ok (.rt false) else .ok (.nx ())) l7 ()) (fun s20 => .ok (.nx ())) fun v => .ok (.rt v))) (cutD a0 (some (x2.1 + (1 : Int))) none) ()) (fun s22 => .ok (.nx ())) fun v => .ok (.rt v))) (enumT a0) ()) (fun s24 => .ok true) fun v => .ok v)
def t_is_crooked_TTI (a0 : (List (List Int))) : R Bool :=
  (t_need_table_TTI a0).bind fun r1 => (t_mirrored_table_TTI a0).bind fun r2 => (t_is_straight_table_TTI r2).bind fun r3 => .ok r3
def t_law_LI_v3 (a0 : (List Int)) : R Bool :=
  (rng1R (3 : Int)).bind fun l1 => (lpB (forF (ρ := Bool) (fun (s2 : Unit) x3 => (t_w_feed_LI_I a0 x3).bind fun r5 => (t_w_any_LI_v2 r5).bind fun r6 => (t_w_table_LI_I_I r6.2 (8 : Int) (8 : Int)).bind fun r7 => (t_w_sums_LI r7.2).bind fun r8 => (lpB (forF (ρ := Bool) (fun (s9 : Unit) x10 => (t_mirrored_TTI x10).bind fun r12 => (t_mirrored_TTI x10).bind fun r13 => (t_mirrored_TTI x10.reverse).bind fun r14 => (reprR ((eL (eT (eT PyData.int))) [r12, r13, r14])).bind fun v15 => (reprR ((eL (eT (eT PyData.int))) [x10.reverse, x10.reverse, x10])).bind fun v16 => (cmpR .NotEq (PyData.str v15) (PyData.str v16)).bind fun v17 => if v17 = true then .ok (.rt false) else (t_w_straight_TTI x10.reverse).bind fun r18 => (t_is_crooked_TTI x10).bind fun r19 => (t_is_crooked_TTI x10).bind fun r20 => (t_is_straight_TTI x10.reverse).bind fun r21 => (reprR ((eL PyData.bool) [r19, r20, r21])).bind fun v22 => (repR [r18] (3 : Int)).bind fun v23 => (reprR ((eL PyData.bool) v23)).bind fun v24 => (cmpR .NotEq (PyData.str v22) (PyData.str v24)).bind fun v25 => if v25 = true then .ok (.rt false) else (forT (fun (s26 : Bool) x27 => ((if s26 = true then (mapR x27 fun x29 => (atR x27 (0 : Int)).bind fun v32 => .ok (x29 - v32)).bind fun ys31 => (atR x10 (0 : Int)).bind fun v33 => (mapR v33 fun x34 => (atR x10 (0 : Int)).bind fun v37 => (atR v37 (0 : Int)).bind fun v38 => .ok (x34 - v38)).bind fun ys36 => (cmpR .Eq ((eL PyData.int) ys31) ((eL PyData.int) ys36)).bind fun v39 => .ok v39 else .ok false) : R Bool).bind fun v40 => .ok v40) x10 true).bind fun s41 => (((t_is_crooked_TTI x10).bind fun r43 => if r43 = true then (t_is_straight_TTI x10).bind fun r44 => .ok r44 else .ok false) : R Bool).bind fun v45 => (cmpR .NotEq (PyData.bool v45) (PyData.bool s41)).bind fun v46 => if v46 = true then .ok (.rt false) else .ok (.nx ())) [r6.1, r7.1.reverse, r8.1] ()) (fun s47 => .ok (.nx ())) fun v => .ok (.rt v))) l1 ()) (fun s49 => .ok true) fun v => .ok v)
end Cr
set_option Elab.async false
set_option linter.all false
set_option maxRecDepth 100000
set_option maxHeartbeats 4000000
/-! Tables: gains, straight ones, turned ones. -/
namespace Cr
open PySem
section
variable {n m : Nat} {f : Nat → Nat → Int}
theorem f_width (hn : 1 ≤ n) : t_width_TTI (tb n m f) = .ok (m : Int) := by
  unfold t_width_TTI
  rw [m_at (by decide) (by omega), R_bind_ok, vec_len]
theorem m_at2 {i j : Int} {β : Type} {k : Int → R β} (hi0 : 0 ≤ i) (hi : i < n) (hj0 : 0 ≤ j) (hj : j < m) : ((atR (tb n m f) i).bind fun v => (atR v j).bind k) = k (f i.toNat j.toNat) := by
  rw [m_at hi0 hi, R_bind_ok, m_at hj0 hj, R_bind_ok]
theorem f_gain_of {i k j l : Nat} (hi : i < n) (hk : k < n) (hj : j < m) (hl : l < m) : t_gain_of_TTI_I_I_I_I (tb n m f) i k j l = .ok (gx f i k j l) := by
  unfold t_gain_of_TTI_I_I_I_I
  rw [m_at2 (by omega) (by omega) (by omega) (by omega), m_at2 (by omega) (by omega) (by omega) (by omega), m_at2 (by omega) (by omega) (by omega) (by omega), m_at2 (by omega) (by omega) (by omega) (by omega)]
  simp only [Int.toNat_natCast]
  rfl
theorem f_gain_at {i j : Nat} (hi : i + 1 < n) (hj : j + 1 < m) : t_gain_at_TTI_I_I (tb n m f) i j = .ok (gn f i j) := by
  unfold t_gain_at_TTI_I_I
  rw [show (i : Int) + 1 = ((i + 1 : Nat) : Int) by omega, show (j : Int) + 1 = ((j + 1 : Nat) : Int) by omega, f_gain_of (by omega) hi (by omega) hj, R_bind_ok, gn_gx]
theorem f_gains_of (hn : 1 ≤ n) (hn2 : n ≤ 1000) (hm : 1 ≤ m) (hm2 : m ≤ 1000) : t_gains_of_TTI (tb n m f) = .ok (tb (n - 1) (m - 1) (gn f)) := by
  unfold t_gains_of_TTI
  rw [vec_len, m_rngL (n - 1) (by omega) (by omega), R_bind_ok, m_forApp (g := fun i => vec (m - 1) fun j => gn f i j) (by omega), R_bind_ok]
  intro i s hi
  rw [f_width hn, R_bind_ok, m_rngL (m - 1) (by omega) (by omega), R_bind_ok, m_map (h := fun j => gn f i j) (by omega), R_bind_ok, R_bind_id]
  intro j hj
  rw [f_gain_at (by omega) (by omega), R_bind_ok]
/-- the first place of neighbours at which a crossing pays -/
def fpay (n m : Nat) (f : Nat → Nat → Int) : Option (Int × Int) := ((vec (n - 1) fun i => i).findSome? fun i => (vec (m - 1) fun j => j).findSome? fun j => if gn f i j < 0 then some (some ((i : Int), (j : Int))) else none).getD none
theorem findSome_vec {α ρ : Type} {n : Nat} {h : Nat → α} {g : α → Option ρ} : (vec n h).findSome? g = (vec n fun i => i).findSome? fun i => g (h i) := by
  rw [show vec n h = (vec n fun i => i).map h from (vec_map _ _ _).symm, List.findSome?_map]
  rfl
theorem f_first_paying (hn : 1 ≤ n) (hn2 : n ≤ 1000) (hm : 1 ≤ m) (hm2 : m ≤ 1000) : t_first_paying_TTI (tb n m f) = .ok (fpay n m f) := by
  unfold t_first_paying_TTI
  rw [f_gains_of hn hn2 hm hm2, R_bind_ok, vec_enum]
  rw [m_forS (g := fun (x : Int × List Int) => (enumT x.2).findSome? fun (y : Int × Int) => if y.2 < 0 then some (some (x.1, y.1)) else none), lp_end]
  · unfold fpay
    rw [findSome_vec]
    simp only [vec_enum]
    congr 2
    congr 1
    funext i
    rw [findSome_vec]
  · intro x hx
    rw [m_forS (g := fun (y : Int × Int) => if y.2 < 0 then some (some (x.1, y.1)) else none), lp_on]
    intro y hy
    rw [lp_if]
    by_cases h : y.2 < 0
    · rw [decide_eq_true h]; simp [h]
    · rw [decide_eq_false h]; simp [h]
theorem fpay_none : fpay n m f = none ↔ Stg n m f := by
  have key : ((vec (n - 1) fun i => i).findSome? fun i => (vec (m - 1) fun j => j).findSome? fun j => if gn f i j < 0 then some (some ((i : Int), (j : Int))) else none) = none ↔ Stg n m f := by
    rw [find_vec_none]
    constructor
    · intro h i j hi hj
      have := find_vec_none.mp (h i (by omega)) j (by omega)
      by_cases c : gn f i j < 0
      · rw [if_pos c] at this; cases this
      · omega
    · intro h i hi
      rw [find_vec_none]
      intro j hj
      rw [if_neg (by have := h i j (by omega) (by omega); omega)]
  rw [← key]
  unfold fpay
  cases h : (vec (n - 1) fun i => i).findSome? fun i => (vec (m - 1) fun j => j).findSome? fun j => if gn f i j < 0 then some (some ((i : Int), (j : Int))) else none with
  | none => simp
  | some o =>
    obtain ⟨x, hx, e⟩ := List.exists_of_findSome?_eq_some h
    obtain ⟨y, hy, e⟩ := List.exists_of_findSome?_eq_some e
    split at e
    · cases e; simp
    · cases e
theorem f_is_straight_table (hn : 1 ≤ n) (hn2 : n ≤ 1000) (hm : 1 ≤ m) (hm2 : m ≤ 1000) : t_is_straight_table_TTI (tb n m f) = .ok (pb (Stg n m f)) := by
  unfold t_is_straight_table_TTI
  rw [f_first_paying hn hn2 hm hm2, R_bind_ok]
  congr 1
  rw [Bool.eq_iff_iff, Option.isNone_iff_eq_none, fpay_none, pb_iff]
theorem f_is_straight (hn : 1 ≤ n) (hn2 : n ≤ 8) (hm : 1 ≤ m) (hm2 : m ≤ 8) : t_is_straight_TTI (tb n m f) = .ok (pb (Stg n m f)) := by
  unfold t_is_straight_TTI
  rw [f_need hn hn2 hm hm2, R_bind_ok, f_is_straight_table hn (by omega) hm (by omega), R_bind_ok]
/-! ### the law's own look at all crossings -/
theorem stg_mng : Stg n m f ↔ Mng n m f := by
  constructor
  · intro h i k j l hik hk hjl hl
    obtain ⟨a, rfl⟩ : ∃ a, k = i + a := ⟨k - i, by omega⟩
    obtain ⟨b, rfl⟩ : ∃ b, l = j + b := ⟨l - j, by omega⟩
    rw [gx_sum]
    exact sm_nonneg fun x hx => sm_nonneg fun y hy => h _ _ (by omega) (by omega)
  · intro h i j hi hj
    rw [gn_gx]
    exact h i (i + 1) j (j + 1) (by omega) hi (by omega) hj
theorem vec_from {α : Type} {n : Nat} {f : Nat → α} {k : Nat} (i : Nat) (e : k = n - (i + 1)) : cutD (vec n f) (some ((i : Int) + 1)) none = vec k fun a => f (i + 1 + a) := by
  rw [show (i : Int) + 1 = ((i + 1 : Nat) : Int) by omega, m_cut_from (by omega), Int.toNat_natCast, e]
theorem w_straight (hn2 : n ≤ 1000) (hm2 : m ≤ 1000) : t_w_straight_TTI (tb n m f) = .ok (pb (Stg n m f)) := by
  unfold t_w_straight_TTI
  rw [vec_enum]
  rw [ck_for (P := fun i => ∀ a, a < n - (i + 1) → ∀ j, j < m → ∀ b, b < m - (j + 1) → 0 ≤ gx f i (i + 1 + a) j (j + 1 + b)), ck_end]
  · congr 1
    refine pb_congr (Iff.trans ?_ stg_mng.symm)
    constructor
    · intro h i k j l hik hk hjl hl
      have := h i (by omega) (k - (i + 1)) (by omega) j (by omega) (l - (j + 1)) (by omega)
      rw [show i + 1 + (k - (i + 1)) = k by omega, show j + 1 + (l - (j + 1)) = l by omega] at this
      exact this
    · intro h i hi a ha j hj b hb
      exact h _ _ _ _ (by omega) (by omega) (by omega) (by omega)
  · intro i hi
    dsimp only
    rw [vec_from i rfl]
    rw [ck_for (P := fun a => ∀ j, j < m → ∀ b, b < m - (j + 1) → 0 ≤ gx f i (i + 1 + a) j (j + 1 + b)), ck_on]
    intro a ha
    rw [vec_len, m_rngL m rfl (by omega), R_bind_ok]
    rw [ck_for (P := fun j => ∀ b, b < m - (j + 1) → 0 ≤ gx f i (i + 1 + a) j (j + 1 + b)), ck_on]
    intro j hj
    rw [m_rngL2 (m - (j + 1)) (by omega) (by omega) (by omega), R_bind_ok]
    rw [← R_bind_assoc, ck_fil (P := fun b => 0 ≤ gx f i (i + 1 + a) j (j + 1 + b)) (Q := fun b => f i (j + 1 + b) + f (i + 1 + a) j < f i j + f (i + 1 + a) (j + 1 + b)) (by omega), R_bind_ok, ck_if, Bool.not_not]
    · intro b hb
      rw [m_at (by omega) (by omega), R_bind_ok, m_at (by omega) (by omega), R_bind_ok, m_at (by omega) (by omega), R_bind_ok, m_at (by omega) (by omega), R_bind_ok]
      rw [show ((j : Int) + 1 + (b : Int)).toNat = j + 1 + b by omega, Int.toNat_natCast]
    · intro b hb
      unfold gx
      omega
end
end Cr
set_option Elab.async false
set_option linter.all false
set_option maxRecDepth 100000
set_option maxHeartbeats 4000000
namespace Cr
open PySem
def t_w_lifted_LI_TTI (a0 : (List Int)) (a1 : (List (List Int))) : R ((List (List Int)) × (List Int)) :=
  (powR (10 : Int) (20 : Int)).bind fun v1 => (t_w_one_LI_LI a0 [(1 : Int), (10 : Int), v1]).bind fun r2 => (mapS a1 r2.2 fun s4 x3 => (t_w_draw_LI_I s4 (r2.1 + (1 : Int))).bind fun r6 => .ok (r6.1, r6.2)).bind fun ys5 => (atR a1 (0 : Int)).bind fun v7 => (mapS v7 ys5.2 fun s9 x8 => (t_w_draw_LI_I s9 (r2.1 + (1 : Int))).bind fun r11 => .ok (r11.1, r11.2)).bind fun ys10 => (mapR (a1.zip ys5.1) fun x12 => (mapR (x12.1.zip ys10.1) fun x15 => .ok ((x15.1 + x12.2) + x15.2)).bind fun ys17 => .ok ys17).bind fun ys14 => .ok (ys14, ys10.2)
def t_middle_in_LI_B (a0 : (List Int)) (a1 : Bool) : R Int :=
  if a1 = true then (minR a0).bind fun v1 => (idxR a0.reverse v1).bind fun v2 => .ok (((a0.length : Int) - (1 : Int)) - v2) else (minR a0).bind fun v3 => (idxR a0 v3).bind fun v4 => .ok v4
def t_middle_rows_TTI_TTI_B (a0 : (List (List Int))) (a1 : (List (List Int))) (a2 : Bool) : R (List (List Int)) :=
  (t_columns_of_TTI a1).bind fun r1 => (mapR a0 fun x2 => (mapR r1 fun x5 => (t_sums_by_TI_TI x2 x5).bind fun r8 => (t_middle_in_LI_B r8 a2).bind fun r9 => .ok r9).bind fun ys7 => .ok ys7).bind fun ys4 => .ok ys4
def t_middles_TTI_TTI (a0 : (List (List Int))) (a1 : (List (List Int))) : R (List (List Int)) :=
  (t_need_two_TTI_TTI a0 a1).bind fun r1 => (t_middle_rows_TTI_TTI_B a0 a1 false).bind fun r2 => .ok r2
def t_last_middles_TTI_TTI (a0 : (List (List Int))) (a1 : (List (List Int))) : R (List (List Int)) :=
  (t_need_two_TTI_TTI a0 a1).bind fun r1 => (t_middle_rows_TTI_TTI_B a0 a1 true).bind fun r2 => .ok r2
def t_w_never_falls_LLI (a0 : (List (List Int))) : R Bool :=
  (lpB (forF (ρ := Bool) (fun (s1 : Unit) x2 => (filR (x2.2.zip (cutD x2.2 (some (1 : Int)) none)) fun x4 => if (decide (x4.2 < x4.1)) = true then .ok (some (1 : Int)) else .ok none).bind fun ys6 => (cmpR .NotEq ((eL PyData.int) ys6) ((eL eD) ([] : (List D)))).bind fun v7 => if v7 = true then .ok (.rt false) else ((if (decide ((0 : Int) < x2.1)) = true then (atR a0 (x2.1 - (1 : Int))).bind fun v8 => (filR (v8.zip x2.2) fun x9 => if (decide (x9.2 < x9.1)) = true then .ok (some (1 : Int)) else .ok none).bind fun ys11 => (cmpR .NotEq ((eL PyData.int) ys11) ((eL eD) ([] : (List D)))).bind fun v12 => .ok v12 else .ok false) : R Bool).bind fun v13 => if v13 = true then .ok (.rt false) else .ok (.nx ())) (enumT a0) ()) (fun s14 => .ok true) fun v => .ok v)
def t_law_LI_v5 (a0 : (List Int)) : R Bool :=
  (rng1R (if (if (5 : Int) < (a0.length : Int) then (5 : Int) else (a0.length : Int)) > (1 : Int) then (if (5 : Int) < (a0.length : Int) then (5 : Int) else (a0.length : Int)) else (1 : Int))).bind fun l1 => (lpB (forF (ρ := Bool) (fun (s2 : Unit) x3 => (t_w_feed_LI_I a0 x3).bind fun r5 => (rng1R (3 : Int)).bind fun l6 => (mapS l6 r5 fun s8 x7 => (t_w_draw_LI_I s8 (8 : Int)).bind fun r10 => .ok (((1 : Int) + r10.1), r10.2)).bind fun ys9 => (unp3 ys9.1).bind fun u11 => (t_w_sized_LI_I_I ys9.2 u11.1 u11.2.1).bind fun r12 => (t_w_sized_LI_I_I r12.2 u11.2.1 u11.2.2).bind fun r13 => (((t_w_draw_LI_I r13.2 (2 : Int)).bind fun r14 => if (decide (r14.1 = (0 : Int))) = true then (t_w_lifted_LI_TTI r14.2 r12.1).bind fun r15 => (t_w_lifted_LI_TTI r15.2 r13.1).bind fun r16 => .ok (r15.1, r16.1) else .ok (r12.1, r13.1)) : R ((List (List Int)) × (List (List Int)))).bind fun s17 => (t_product_TTI_TTI s17.1 s17.2).bind fun r19 => (((t_w_straight_TTI r19).bind fun r20 => if (!r20) = true then .ok true else (t_is_straight_TTI r19).bind fun r21 => .ok (!decide (r21 = true))) : R Bool).bind fun v22 => if v22 = true then .ok (.rt false) else (t_middles_TTI_TTI s17.1 s17.2).bind fun r23 => (t_last_middles_TTI_TTI s17.1 s17.2).bind fun r24 => (lpB (forF (ρ := Bool) (fun (s25 : Unit) x26 => ((if (!decide ((x26.length : Int) = u11.1)) = true then .ok true else (t_w_never_falls_LLI x26).bind fun r28 => .ok (!r28)) : R Bool).bind fun v29 => if v29 = true then .ok (.rt false) else .ok (.nx ())) [r23, r24] ()) (fun s30 => .ok (.nx ())) fun v => .ok (.rt v))) l1 ()) (fun s32 => .ok true) fun v => .ok v)
end Cr
set_option Elab.async false
set_option linter.all false
set_option maxRecDepth 100000
set_option maxHeartbeats 4000000
/-! Middles of products. -/
namespace Cr
open PySem
theorem exists_first {P : Nat → Prop} : ∀ n, P n → ∃ i, i ≤ n ∧ P i ∧ ∀ j, j < i → ¬ P j := by
  intro n
  induction n using Nat.strongRecOn with
  | ind n ih =>
    intro h
    by_cases c : ∃ j, j < n ∧ P j
    · obtain ⟨j, hj, pj⟩ := c
      obtain ⟨i, h1, h2, h3⟩ := ih j hj pj
      exact ⟨i, by omega, h2, h3⟩
    · exact ⟨n, Nat.le_refl _, h, fun j hj pj => c ⟨j, hj, pj⟩⟩
/-- the first, the last place of the least -/
def FM (n : Nat) (f : Nat → Int) (i : Nat) : Prop := i < n ∧ f i = mn n f ∧ ∀ j, j < i → mn n f < f j
def LM (n : Nat) (f : Nat → Int) (i : Nat) : Prop := i < n ∧ f i = mn n f ∧ ∀ j, i < j → j < n → mn n f < f j
theorem fm_ex {n : Nat} {f : Nat → Int} (h : 0 < n) : ∃ i, FM n f i := by
  obtain ⟨i, hi, e⟩ := mn_at (f := f) h
  obtain ⟨j, h1, h2, h3⟩ := exists_first (P := fun j => f j = mn n f) i e.symm
  refine ⟨j, by omega, h2, fun k hk => ?_⟩
  have a1 := h3 k hk
  have a2 := mn_le (f := f) (show k < n by omega)
  omega
theorem lm_ex {n : Nat} {f : Nat → Int} (h : 0 < n) : ∃ i, LM n f i := by
  obtain ⟨i, hi, e⟩ := mn_at (f := f) h
  obtain ⟨j, h1, h2, h3⟩ := exists_first (P := fun j => j < n ∧ f (n - 1 - j) = mn n f) (n - 1 - i) ⟨by omega, by rw [show n - 1 - (n - 1 - i) = i by omega]; exact e.symm⟩
  refine ⟨n - 1 - j, by omega, h2.2, fun k hk hk2 => ?_⟩
  have a1 := h3 (n - 1 - k) (by omega)
  have a2 := mn_le (f := f) (show k < n by omega)
  have a3 : f k ≠ mn n f := fun q => a1 ⟨by omega, by rw [show n - 1 - (n - 1 - k) = k by omega]; exact q⟩
  omega
theorem m_idx {n : Nat} {f : Nat → Int} {y : Int} {i : Nat} (hi : i < n) (e : f i = y) (h : ∀ j, j < i → f j ≠ y) : idxR (vec n f) y = .ok (i : Int) := by
  have : (vec n f).findIdx? (fun x => decide (x = y)) = some i := by
    rw [List.findIdx?_eq_some_iff_getElem]
    have at' : ∀ (j : Nat) (hj : j < (vec n f).length), (vec n f)[j] = f j := fun j hj => by
      have := vec_get? n f j
      rw [List.getElem?_eq_getElem hj, if_pos (by rw [vec_len] at hj; exact hj)] at this
      exact Option.some.inj this
    refine ⟨by rw [vec_len]; exact hi, by rw [at' i (by rw [vec_len]; exact hi)]; exact decide_eq_true e, fun j hj => ?_⟩
    rw [at' j (by rw [vec_len]; omega)]
    simpa using h j hj
  unfold idxR
  rw [this]
  rfl
theorem f_first {n : Nat} {f : Nat → Int} {i : Nat} (h : FM n f i) : t_middle_in_LI_B (vec n f) false = .ok (i : Int) := by
  unfold t_middle_in_LI_B
  rw [if_neg (by decide), m_min (by have := h.1; omega), R_bind_ok, m_idx h.1 h.2.1 (fun j hj => by have := h.2.2 j hj; omega), R_bind_ok]
theorem f_last {n : Nat} {f : Nat → Int} {i : Nat} (h : LM n f i) : t_middle_in_LI_B (vec n f) true = .ok (i : Int) := by
  obtain ⟨h1, h2, h3⟩ := h
  unfold t_middle_in_LI_B
  rw [if_pos rfl, m_min (by omega), R_bind_ok, vec_rev, m_idx (i := n - 1 - i) (by omega) (by rw [show n - 1 - (n - 1 - i) = i by omega]; exact h2) (fun j hj => by have := h3 (n - 1 - j) (by omega) (by omega); omega), R_bind_ok, vec_len]
  congr 1
  omega
/-- tables of choices -/
theorem choose2 {n m : Nat} {P : Nat → Nat → Nat → Prop} (h : ∀ i j, i < n → j < m → ∃ a, P i j a) : ∃ μ : Nat → Nat → Nat, ∀ i j, i < n → j < m → P i j (μ i j) := by
  refine ⟨fun i j => if c : i < n ∧ j < m then (h i j c.1 c.2).choose else 0, fun i j hi hj => ?_⟩
  dsimp only
  rw [dif_pos ⟨hi, hj⟩]
  exact (h i j hi hj).choose_spec
section
variable {n k m : Nat} {f g : Nat → Nat → Int}
theorem f_middle_rows (b : Bool) {μ : Nat → Nat → Nat} (hn2 : n ≤ 8) (hk : 1 ≤ k) (hk2 : k ≤ 8) (hm2 : m ≤ 8) (e : ∀ i j, i < n → j < m → t_middle_in_LI_B (vec k fun a => f i a + g a j) b = .ok (μ i j : Int)) :
    t_middle_rows_TTI_TTI_B (tb n k f) (tb k m g) b = .ok (tb n m fun i j => (μ i j : Int)) := by
  unfold t_middle_rows_TTI_TTI_B
  rw [f_columns hk hk2 hm2, R_bind_ok, m_map (h := fun i => vec m fun j => (μ i j : Int)) (by omega), R_bind_ok]
  intro i hi
  rw [m_map (h := fun j => (μ i j : Int)) (by omega), R_bind_ok]
  intro j hj
  rw [f_sums_by (by omega), R_bind_ok, e i j hi hj, R_bind_ok]
theorem f_middles (hn : 1 ≤ n) (hn2 : n ≤ 8) (hk : 1 ≤ k) (hk2 : k ≤ 8) (hm : 1 ≤ m) (hm2 : m ≤ 8) : ∃ μ : Nat → Nat → Nat, t_middles_TTI_TTI (tb n k f) (tb k m g) = .ok (tb n m fun i j => (μ i j : Int)) ∧ ∀ i j, i < n → j < m → FM k (fun a => f i a + g a j) (μ i j) := by
  obtain ⟨μ, hμ⟩ := choose2 (n := n) (m := m) (P := fun i j a => FM k (fun a => f i a + g a j) a) fun i j _ _ => fm_ex (by omega)
  refine ⟨μ, ?_, hμ⟩
  unfold t_middles_TTI_TTI
  rw [f_need_two hn hn2 hk hk2 hm hm2, R_bind_ok, f_middle_rows false hn2 hk hk2 hm2 (fun i j hi hj => f_first (hμ i j hi hj)), R_bind_ok]
theorem f_last_middles (hn : 1 ≤ n) (hn2 : n ≤ 8) (hk : 1 ≤ k) (hk2 : k ≤ 8) (hm : 1 ≤ m) (hm2 : m ≤ 8) : ∃ μ : Nat → Nat → Nat, t_last_middles_TTI_TTI (tb n k f) (tb k m g) = .ok (tb n m fun i j => (μ i j : Int)) ∧ ∀ i j, i < n → j < m → LM k (fun a => f i a + g a j) (μ i j) := by
  obtain ⟨μ, hμ⟩ := choose2 (n := n) (m := m) (P := fun i j a => LM k (fun a => f i a + g a j) a) fun i j _ _ => lm_ex (by omega)
  refine ⟨μ, ?_, hμ⟩
  unfold t_last_middles_TTI_TTI
  rw [f_need_two hn hn2 hk hk2 hm hm2, R_bind_ok, f_middle_rows true hn2 hk hk2 hm2 (fun i j hi hj => f_last (hμ i j hi hj)), R_bind_ok]
/-- the product of straight tables is straight -/
theorem pr_mng (hk : 1 ≤ k) (hf : Mng n k f) (hg : Mng k m g) : Mng n m (pr k f g) := by
  intro i i' j j' hi hi' hj hj'
  unfold gx
  obtain ⟨a, ha, ea⟩ := mn_at (n := k) (f := fun a => f i a + g a j') (by omega)
  obtain ⟨b, hb, eb⟩ := mn_at (n := k) (f := fun a => f i' a + g a j) (by omega)
  have e1 : pr k f g i j' = f i a + g a j' := ea
  have e2 : pr k f g i' j = f i' b + g b j := eb
  rw [e1, e2]
  have le : ∀ x y c, c < k → pr k f g x y ≤ f x c + g c y := fun x y c hc => mn_le (f := fun a => f x a + g a y) hc
  rcases Nat.lt_trichotomy a b with h | h | h
  · have p1 := le i j a ha
    have p2 := le i' j' b hb
    have q := hg a b j j' h hb hj hj'
    unfold gx at q
    omega
  · subst h
    have p1 := le i j a ha
    have p2 := le i' j' a ha
    omega
  · have p1 := le i j b hb
    have p2 := le i' j' a ha
    have q := hf i i' b a hi hi' h ha
    unfold gx at q
    omega
theorem fm_mono {s t : Nat → Int} {a b : Nat} (h : ∀ x y, x < y → y < k → t y - t x ≤ s y - s x) (ha : FM k s a) (hb : FM k t b) : a ≤ b := by
  obtain ⟨a1, a2, a3⟩ := ha
  obtain ⟨b1, b2, b3⟩ := hb
  by_cases c : a ≤ b
  · exact c
  · have := a3 b (by omega)
    have := h b a (by omega) a1
    have := mn_le (f := t) a1
    omega
theorem lm_mono {s t : Nat → Int} {a b : Nat} (h : ∀ x y, x < y → y < k → t y - t x ≤ s y - s x) (ha : LM k s a) (hb : LM k t b) : a ≤ b := by
  obtain ⟨a1, a2, a3⟩ := ha
  obtain ⟨b1, b2, b3⟩ := hb
  by_cases c : a ≤ b
  · exact c
  · have := b3 a (by omega) a1
    have := h b a (by omega) a1
    have := mn_le (f := s) b1
    omega
/-- never falls along rows and columns -/
def NF (n m : Nat) (F : Nat → Nat → Int) : Prop := (∀ i j, i < n → j + 1 < m → F i j ≤ F i (j + 1)) ∧ ∀ i j, i + 1 < n → j < m → F i j ≤ F (i + 1) j
theorem nf_of {μ : Nat → Nat → Nat} {C : Nat → (Nat → Int) → Nat → Prop} (hC : ∀ {s t : Nat → Int} {a b : Nat}, (∀ x y, x < y → y < k → t y - t x ≤ s y - s x) → C k s a → C k t b → a ≤ b)
    (hf : Mng n k f) (hg : Mng k m g) (h : ∀ i j, i < n → j < m → C k (fun a => f i a + g a j) (μ i j)) : NF n m fun i j => (μ i j : Int) := by
  refine ⟨fun i j hi hj => ?_, fun i j hi hj => ?_⟩
  · have := hC (fun x y hxy hy => by have := hg x y j (j + 1) hxy hy (by omega) hj; unfold gx at this; omega) (h i j hi (by omega)) (h i (j + 1) hi hj)
    dsimp only; omega
  · have := hC (fun x y hxy hy => by have := hf i (i + 1) x y (by omega) hi hxy hy; unfold gx at this; omega) (h i j (by omega) hj) (h (i + 1) j hi hj)
    dsimp only; omega
end
/-! ### a law's loop over its cells -/
theorem law_loop {n : Nat} {f : Unit → Int → R (Lp Unit Bool)} (h : ∀ k, k < n → Ok (f () (k : Int)) (· = .nx ())) : lpB (forF f (vec n fun i => (i : Int)) ()) (fun _ => .ok true) (fun v => .ok v) = .ok true := by
  rw [ck_for (P := fun _ => True), ck_end, pb_t (fun _ _ => trivial)]
  intro i hi
  rw [(h i hi).get, pb_t trivial]; rfl
theorem d_three {c : Nat} {s : List Int} (h : Fd (c + 3) s) : Ok (mapS (vec 3 fun i => (i : Int)) s fun s8 x7 => (t_w_draw_LI_I s8 (8 : Int)).bind fun r10 => .ok (((1 : Int) + r10.1), r10.2)) fun r => ∃ a b d : Nat, unp3 r.1 = .ok ((a : Int), (b : Int), (d : Int)) ∧ 1 ≤ a ∧ a ≤ 8 ∧ 1 ≤ b ∧ b ≤ 8 ∧ 1 ≤ d ∧ d ≤ 8 ∧ Fd c r.2 := by
  refine (m_mapS (n := 3) (fun i s => Fd (c + 3 - i) s) (fun _ (x : Int) => ∃ a : Nat, x = a ∧ 1 ≤ a ∧ a ≤ 8) (by decide) h fun i s hi hf => ?_).mono fun r9 ⟨g, e9, hg, h9⟩ => ?_
  · refine Ok.bind (d_draw (n := c + 3 - (i + 1)) (hf.mono (by omega)) (by decide) (by decide)) fun r ⟨q1, q2, q3⟩ => Ok.ok ⟨⟨(1 + r.1).toNat, ?_, ?_, ?_⟩, q3⟩
    · show 1 + r.1 = _; omega
    · show 1 ≤ (1 + r.1).toNat; omega
    · show (1 + r.1).toNat ≤ 8; omega
  · obtain ⟨a, ea, a1, a2⟩ := hg 0 (by decide)
    obtain ⟨b, eb, b1, b2⟩ := hg 1 (by decide)
    obtain ⟨d, ed, c1, c2⟩ := hg 2 (by decide)
    refine ⟨a, b, d, ?_, a1, a2, b1, b2, c1, c2, h9.mono (by omega)⟩
    rw [e9]
    show R.ok (g 0, g 1, g 2) = _
    rw [ea, eb, ed]
/-- how many cells -/
theorem cells (n : Nat) (lo hi : Nat) (h : lo ≤ hi) : ∃ k : Nat, k ≤ hi ∧ (if (if (hi : Int) < (n : Int) then (hi : Int) else (n : Int)) > (lo : Int) then (if (hi : Int) < (n : Int) then (hi : Int) else (n : Int)) else (lo : Int)) = k := by
  split <;> split <;> first | exact ⟨hi, Nat.le_refl _, rfl⟩ | exact ⟨lo, h, rfl⟩ | exact ⟨n, by omega, rfl⟩
/-- draws for each place -/
theorem d_list {α : Type} {c n : Nat} {h : Nat → α} {s : List Int} {z : Int} (hs : Fd (c + n) s) (hz : 0 ≤ z) (hz2 : z < 2 ^ 199) (hn : n ≤ 1000) : Ok (mapS (vec n h) s fun s4 _ => (t_w_draw_LI_I s4 (z + (1 : Int))).bind fun r6 => .ok (r6.1, r6.2)) fun r => ∃ g : Nat → Int, r.1 = vec n g ∧ (∀ i, i < n → 0 ≤ g i ∧ g i ≤ z) ∧ Fd c r.2 := by
  refine (m_mapS (fun i s => Fd (c + (n - i)) s) (fun i (x : Int) => 0 ≤ x ∧ x ≤ z) (by omega) hs fun i s hi hj => ?_).mono fun r ⟨g, h1, h2, h3⟩ => ⟨g, h1, h2, h3.mono (by omega)⟩
  refine Ok.bind (d_draw (n := c + (n - (i + 1))) (hj.mono (by omega)) (by omega) (by omega)) fun r ⟨r1, r2, r3⟩ => Ok.ok ⟨⟨r1, ?_⟩, r3⟩
  show r.1 ≤ z; omega
end Cr
set_option Elab.async false
set_option linter.all false
set_option maxRecDepth 100000
set_option maxHeartbeats 0
namespace Cr.k29
open PySem PySem.Spec PyProof.Rows L2
def top (i : Nat) : Stmt := PySem.Challenge.pw_straightleast_k29_middles_never_fall.main.body.getD i (.Pass ⟨0, 0, 0, 0⟩)
def gt : Gt := ⟨[(("is_integer" : Str), (0 : Nat)), (("is_row_of" : Str), (1 : Nat)), (("are_integers" : Str), (2 : Nat)), (("columns_of" : Str), (3 : Nat)), (("sums_by" : Str), (4 : Nat)), (("least_sums" : Str), (5 : Nat)), (("middle_in" : Str), (6 : Nat)), (("middle_rows" : Str), (7 : Nat)), (("width" : Str), (8 : Nat)), (("gain_of" : Str), (9 : Nat)), (("gain_at" : Str), (10 : Nat)), (("gains_of" : Str), (11 : Nat)), (("first_paying" : Str), (12 : Nat)), (("is_straight_table" : Str), (13 : Nat)), (("is_table_form" : Str), (14 : Nat)), (("need_table" : Str), (15 : Nat)), (("need_two" : Str), (16 : Nat)), (("product" : Str), (17 : Nat)), (("middles" : Str), (18 : Nat)), (("last_middles" : Str), (19 : Nat)), (("is_straight" : Str), (20 : Nat)), (("_law_feed" : Str), (21 : Nat)), (("_law_draw" : Str), (22 : Nat)), (("_law_one" : Str), (23 : Nat)), (("_law_built" : Str), (24 : Nat)), (("_law_sized" : Str), (25 : Nat)), (("_law_straight" : Str), (26 : Nat)), (("_law_lifted" : Str), (27 : Nat)), (("_law_never_falls" : Str), (28 : Nat)), (("law" : Str), (29 : Nat))], [], [("MOST_ROWS", .int (8))], ["isinstance", "int", "bool", "tuple", "len", "all", "range", "zip", "min", "enumerate", "sum", "max"], [("BadTable", 2), ("BadSizes", 7)], []⟩
def ir_is_integer : List CS := [.ret (.and_ (.isi (.var 0) .int) (.not_ (.isi (.var 0) .bool)))]
def e_is_integer : Ent := ⟨"is_integer", "is_integer", defArgs (top 5), defBody (top 5), defScope (top 5), ["thing"], ["thing"], [], ir_is_integer⟩
def ir_is_row_of : List CS := [.ret (.and_ (.isi (.var 0) .tuple) (.chain .LtE .LtE (.var 1) (.blt .len [(.var 0)]) (.var 2)))]
def e_is_row_of : Ent := ⟨"is_row_of", "is_row_of", defArgs (top 6), defBody (top 6), defScope (top 6), ["thing", "least", "most"], ["thing", "least", "most"], [], ir_is_row_of⟩
def ir_are_integers : List CS := [.ret (.and_ (.call 1 [(.var 0), (.var 1), (.var 1)]) (.blt .all [(.comp [2] (.name 2) (.over (.var 0)) none (.call 0 [(.var 2)]))]))]
def e_are_integers : Ent := ⟨"are_integers", "are_integers", defArgs (top 7), defBody (top 7), defScope (top 7), ["thing", "many"], ["thing", "many", "one"], [], ir_are_integers⟩
def ir_columns_of : List CS := [.ret (.comp [1] (.name 1) (.range1 (.blt .len [(.idx (.var 0) (.k (.int (0))))])) none (.blt .tuple [(.comp [2] (.name 2) (.over (.var 0)) none (.idx (.var 2) (.var 1)))]))]
def e_columns_of : Ent := ⟨"columns_of", "columns_of", defArgs (top 9), defBody (top 9), defScope (top 9), ["table"], ["table", "column", "row"], [], ir_columns_of⟩
def ir_sums_by : List CS := [.ret (.comp [2, 3] (.tup [(.name 2), (.name 3)]) (.zip (.var 0) (.var 1)) none (.bin .Add (.var 2) (.var 3)))]
def e_sums_by : Ent := ⟨"sums_by", "sums_by", defArgs (top 10), defBody (top 10), defScope (top 10), ["row", "line"], ["row", "line", "entry", "number"], [], ir_sums_by⟩
def ir_least_sums : List CS := [.asg (.name 2) (.call 3 [(.var 1)]), .ret (.blt .tuple [(.comp [3] (.name 3) (.over (.var 0)) none (.blt .tuple [(.comp [4] (.name 4) (.over (.var 2)) none (.blt .min [(.call 4 [(.var 3), (.var 4)])]))]))])]
def e_least_sums : Ent := ⟨"least_sums", "least_sums", defArgs (top 11), defBody (top 11), defScope (top 11), ["one", "other"], ["one", "other", "lines", "row", "line"], [], ir_least_sums⟩
def ir_middle_in : List CS := [.ife (.var 1) [.ret (.bin .Sub (.bin .Sub (.blt .len [(.var 0)]) (.k (.int (1)))) (.vm .index (.rev (.var 0)) [(.blt .min [(.var 0)])]))] [], .ret (.vm .index (.var 0) [(.blt .min [(.var 0)])])]
def e_middle_in : Ent := ⟨"middle_in", "middle_in", defArgs (top 12), defBody (top 12), defScope (top 12), ["sums", "is_last"], ["sums", "is_last"], [], ir_middle_in⟩
def ir_middle_rows : List CS := [.asg (.name 3) (.call 3 [(.var 1)]), .ret (.comp [4] (.name 4) (.over (.var 0)) none (.comp [5] (.name 5) (.over (.var 3)) none (.call 6 [(.call 4 [(.var 4), (.var 5)]), (.var 2)])))]
def e_middle_rows : Ent := ⟨"middle_rows", "middle_rows", defArgs (top 13), defBody (top 13), defScope (top 13), ["one", "other", "is_last"], ["one", "other", "is_last", "lines", "row", "line"], [], ir_middle_rows⟩
def ir_width : List CS := [.ret (.blt .len [(.idx (.var 0) (.k (.int (0))))])]
def e_width : Ent := ⟨"width", "width", defArgs (top 15), defBody (top 15), defScope (top 15), ["table"], ["table"], [], ir_width⟩
def ir_gain_of : List CS := [.asg (.name 5) (.bin .Add (.idx (.idx (.var 0) (.var 1)) (.var 3)) (.idx (.idx (.var 0) (.var 2)) (.var 4))), .ret (.bin .Sub (.bin .Add (.idx (.idx (.var 0) (.var 1)) (.var 4)) (.idx (.idx (.var 0) (.var 2)) (.var 3))) (.var 5))]
def e_gain_of : Ent := ⟨"gain_of", "gain_of", defArgs (top 16), defBody (top 16), defScope (top 16), ["table", "row", "other", "column", "last"], ["table", "row", "other", "column", "last", "straight"], [], ir_gain_of⟩
def ir_gain_at : List CS := [.ret (.call 9 [(.var 0), (.var 1), (.bin .Add (.var 1) (.k (.int (1)))), (.var 2), (.bin .Add (.var 2) (.k (.int (1))))])]
def e_gain_at : Ent := ⟨"gain_at", "gain_at", defArgs (top 17), defBody (top 17), defScope (top 17), ["table", "row", "column"], ["table", "row", "column"], [], ir_gain_at⟩
def ir_gains_of : List CS := [.asg (.name 1) (.lst []), .for_ (.name 2) (.range1 (.bin .Sub (.blt .len [(.var 0)]) (.k (.int (1))))) [.ex (.mm .append 1 [(.blt .tuple [(.comp [3] (.name 3) (.range1 (.bin .Sub (.call 8 [(.var 0)]) (.k (.int (1))))) none (.call 10 [(.var 0), (.var 2), (.var 3)]))])])], .ret (.blt .tuple [(.var 1)])]
def e_gains_of : Ent := ⟨"gains_of", "gains_of", defArgs (top 18), defBody (top 18), defScope (top 18), ["table"], ["table", "found", "row", "column"], [], ir_gains_of⟩
def ir_first_paying : List CS := [.for_ (.tup [(.name 1), (.name 2)]) (.enum (.call 11 [(.var 0)])) [.for_ (.tup [(.name 3), (.name 4)]) (.enum (.var 2)) [.ife (.cmp .Lt (.var 4) (.k (.int (0)))) [.ret (.tup [(.var 1), (.var 3)])] []]], .ret (.k (.none))]
def e_first_paying : Ent := ⟨"first_paying", "first_paying", defArgs (top 19), defBody (top 19), defScope (top 19), ["table"], ["table", "row", "gains", "column", "gain"], [], ir_first_paying⟩
def ir_is_straight_table : List CS := [.ret (.cmp .Is (.call 12 [(.var 0)]) (.k (.none)))]
def e_is_straight_table : Ent := ⟨"is_straight_table", "is_straight_table", defArgs (top 20), defBody (top 20), defScope (top 20), ["table"], ["table"], [], ir_is_straight_table⟩
def ir_is_table_form : List CS := [.ife (.or_ (.not_ (.call 1 [(.var 0), (.k (.int (1))), (.glob (.int (8)))])) (.not_ (.call 1 [(.idx (.var 0) (.k (.int (0)))), (.k (.int (1))), (.glob (.int (8)))]))) [.ret (.k (.bool false))] [], .ret (.blt .all [(.comp [1] (.name 1) (.over (.var 0)) none (.call 2 [(.var 1), (.blt .len [(.idx (.var 0) (.k (.int (0))))])]))])]
def e_is_table_form : Ent := ⟨"is_table_form", "is_table_form", defArgs (top 23), defBody (top 23), defScope (top 23), ["thing"], ["thing", "row"], [], ir_is_table_form⟩
def ir_need_table : List CS := [.ife (.not_ (.call 14 [(.var 0)])) [.raise 2] []]
def e_need_table : Ent := ⟨"need_table", "need_table", defArgs (top 24), defBody (top 24), defScope (top 24), ["table"], ["table"], [], ir_need_table⟩
def ir_need_two : List CS := [.ex (.call 15 [(.var 0)]), .ex (.call 15 [(.var 1)]), .ife (.cmp .NotEq (.blt .len [(.idx (.var 0) (.k (.int (0))))]) (.blt .len [(.var 1)])) [.raise 7] []]
def e_need_two : Ent := ⟨"need_two", "need_two", defArgs (top 26), defBody (top 26), defScope (top 26), ["table", "other"], ["table", "other"], [], ir_need_two⟩
def ir_product : List CS := [.ex (.call 16 [(.var 0), (.var 1)]), .ret (.call 5 [(.var 0), (.var 1)])]
def e_product : Ent := ⟨"product", "product", defArgs (top 27), defBody (top 27), defScope (top 27), ["table", "other"], ["table", "other"], [], ir_product⟩
def ir_middles : List CS := [.ex (.call 16 [(.var 0), (.var 1)]), .ret (.call 7 [(.var 0), (.var 1), (.k (.bool false))])]
def e_middles : Ent := ⟨"middles", "middles", defArgs (top 28), defBody (top 28), defScope (top 28), ["table", "other"], ["table", "other"], [], ir_middles⟩
def ir_last_middles : List CS := [.ex (.call 16 [(.var 0), (.var 1)]), .ret (.call 7 [(.var 0), (.var 1), (.k (.bool true))])]
def e_last_middles : Ent := ⟨"last_middles", "last_middles", defArgs (top 29), defBody (top 29), defScope (top 29), ["table", "other"], ["table", "other"], [], ir_last_middles⟩
def ir_is_straight : List CS := [.ex (.call 15 [(.var 0)]), .ret (.call 13 [(.var 0)])]
def e_is_straight : Ent := ⟨"is_straight", "is_straight", defArgs (top 31), defBody (top 31), defScope (top 31), ["table"], ["table"], [], ir_is_straight⟩
def ir__law_feed : List CS := [.asg (.name 2) (.bin .Add (.bin .Mult (.k (.int (977))) (.var 1)) (.blt .sum [(.slc (.var 0) none (some (.k (.int (1)))))])), .ife (.cmp .Lt (.var 1) (.blt .len [(.var 0)])) [.asg (.name 2) (.idx (.var 0) (.var 1))] [], .ret (.lst [(.blt .max2 [(.k (.int (0))), (.bin .Sub (.var 2) (.bin .Pow (.k (.int (10))) (.k (.int (18)))))]), (.bin .Mod (.blt .int [(.bin .Add (.bin .Mult (.var 2) (.k (.int (19)))) (.bin .Mult (.k (.int (7))) (.var 1)))]) (.bin .Add (.bin .Pow (.k (.int (10))) (.k (.int (39)))) (.k (.int (23))))), (.k (.int (0)))])]
def e__law_feed : Ent := ⟨"_law_feed", "_law_feed", defArgs (top 33), defBody (top 33), defScope (top 33), ["_law_script", "_law_k"], ["_law_script", "_law_k", "_law_cell"], [], ir__law_feed⟩
def ir__law_draw : List CS := [.ife (.cmp .Gt (.idx (.var 0) (.k (.int (0)))) (.k (.int (0)))) [.asg (.name 3) (.bin .FloorDiv (.idx (.var 0) (.k (.int (0)))) (.var 1)), .asg (.name 4) (.bin .Sub (.idx (.var 0) (.k (.int (0)))) (.bin .Mult (.var 3) (.var 1))), .asg (.sub 0 (.k (.int (0)))) (.var 3), .ret (.var 4)] [], .asg (.sub 0 (.k (.int (2)))) (.bin .Add (.idx (.var 0) (.k (.int (2)))) (.k (.int (1)))), .asg (.name 2) (.bin .Add (.idx (.var 0) (.k (.int (1)))) (.bin .Mult (.k (.int (6700417))) (.idx (.var 0) (.k (.int (2)))))), .asg (.name 2) (.bin .Mod (.blt .int [(.bin .Add (.bin .Mult (.bin .Mult (.var 2) (.var 2)) (.var 2)) (.bin .Mult (.k (.int (15485863))) (.idx (.var 0) (.k (.int (2))))))]) (.bin .Add (.bin .Pow (.k (.int (10))) (.k (.int (43)))) (.k (.int (57))))), .asg (.name 2) (.bin .Mod (.blt .int [(.bin .Add (.bin .Mult (.var 2) (.var 2)) (.k (.int (32452843))))]) (.bin .Add (.bin .Pow (.k (.int (10))) (.k (.int (38)))) (.k (.int (133))))), .ret (.bin .Mod (.blt .int [(.bin .FloorDiv (.var 2) (.bin .Pow (.k (.int (10))) (.k (.int (9)))))]) (.var 1))]
def e__law_draw : Ent := ⟨"_law_draw", "_law_draw", defArgs (top 34), defBody (top 34), defScope (top 34), ["_law_feed_here", "_law_many"], ["_law_feed_here", "_law_many", "_law_stir", "_law_rest", "_law_got"], [], ir__law_draw⟩
def ir__law_one : List CS := [.ret (.idx (.var 1) (.call 22 [(.var 0), (.blt .len [(.var 1)])]))]
def e__law_one : Ent := ⟨"_law_one", "_law_one", defArgs (top 35), defBody (top 35), defScope (top 35), ["_law_feed_here", "_law_things"], ["_law_feed_here", "_law_things"], [], ir__law_one⟩
def ir__law_built : List CS := [.asg (.name 3) (.lst []), .for_ (.tup [(.name 4), (.name 5)]) (.enum (.var 0)) [.asg (.name 6) (.lst [(.var 5)]), .for_ (.tup [(.name 7), (.name 8)]) (.enum (.var 1)) [.asg (.name 9) (.blt .sum [(.comp [10] (.name 10) (.over (.slc (.var 2) none (some (.var 4)))) none (.blt .sum [(.slc (.var 10) none (some (.bin .Add (.var 7) (.k (.int (1))))))]))]), .ex (.mm .append 6 [(.bin .Sub (.bin .Add (.var 5) (.var 8)) (.var 9))])], .ex (.mm .append 3 [(.blt .tuple [(.var 6)])])], .ret (.blt .tuple [(.var 3)])]
def e__law_built : Ent := ⟨"_law_built", "_law_built", defArgs (top 36), defBody (top 36), defScope (top 36), ["_law_left", "_law_top", "_law_gains"], ["_law_left", "_law_top", "_law_gains", "_law_rows", "_law_at", "_law_first", "_law_row", "_law_to", "_law_more", "_law_below", "_law_line"], [], ir__law_built⟩
def ir__law_sized : List CS := [.par [(.name 7), (.name 8)] [(.call 23 [(.var 0), (.lst [(.k (.int (3))), (.k (.int (3))), (.k (.int (10))), (.bin .Pow (.k (.int (10))) (.k (.int (6)))), (.bin .Pow (.k (.int (10))) (.k (.int (15))))])]), (.call 23 [(.var 0), (.lst [(.k (.int (1))), (.k (.int (2))), (.k (.int (3))), (.k (.int (8))), (.bin .Pow (.k (.int (10))) (.k (.int (9))))])])], .asg (.name 3) (.comp [9] (.name 9) (.range1 (.var 1)) none (.bin .Sub (.call 22 [(.var 0), (.bin .Add (.bin .Mult (.k (.int (2))) (.var 7)) (.k (.int (1))))]) (.var 7))), .asg (.name 4) (.comp [9] (.name 9) (.range1 (.bin .Sub (.var 2) (.k (.int (1))))) none (.bin .Sub (.call 22 [(.var 0), (.bin .Add (.bin .Mult (.k (.int (2))) (.var 7)) (.k (.int (1))))]) (.var 7))), .asg (.name 5) (.lst []), .for_ (.name 6) (.range1 (.bin .Sub (.var 1) (.k (.int (1))))) [.ex (.mm .append 5 [(.comp [9] (.name 9) (.range1 (.bin .Sub (.var 2) (.k (.int (1))))) none (.ife (.cmp .Gt (.call 22 [(.var 0), (.k (.int (3)))]) (.k (.int (0)))) (.call 22 [(.var 0), (.bin .Add (.var 8) (.k (.int (1))))]) (.k (.int (0)))))])], .ret (.call 24 [(.var 3), (.var 4), (.var 5)])]
def e__law_sized : Ent := ⟨"_law_sized", "_law_sized", defArgs (top 37), defBody (top 37), defScope (top 37), ["_law_feed_here", "_law_rows", "_law_columns"], ["_law_feed_here", "_law_rows", "_law_columns", "_law_left", "_law_top", "_law_gains", "_law_at", "_law_size", "_law_steep", "_law_turn"], [], ir__law_sized⟩
def ir__law_straight : List CS := [.for_ (.tup [(.name 1), (.name 2)]) (.enum (.var 0)) [.for_ (.name 3) (.over (.slc (.var 0) (some (.bin .Add (.var 1) (.k (.int (1))))) none)) [.for_ (.name 4) (.range1 (.blt .len [(.var 2)])) [.ife (.cmp .NotEq (.comp [5] (.name 5) (.range2 (.bin .Add (.var 4) (.k (.int (1)))) (.blt .len [(.var 2)])) (some (.cmp .Gt (.bin .Add (.idx (.var 2) (.var 4)) (.idx (.var 3) (.var 5))) (.bin .Add (.idx (.var 2) (.var 5)) (.idx (.var 3) (.var 4))))) (.k (.int (1)))) (.lst [])) [.ret (.k (.bool false))] []]]], .ret (.k (.bool true))]
def e__law_straight : Ent := ⟨"_law_straight", "_law_straight", defArgs (top 38), defBody (top 38), defScope (top 38), ["_law_table"], ["_law_table", "_law_at", "_law_row", "_law_line", "_law_to", "_law_other"], [], ir__law_straight⟩
def ir__law_lifted : List CS := [.asg (.name 2) (.call 23 [(.var 0), (.lst [(.k (.int (1))), (.k (.int (10))), (.bin .Pow (.k (.int (10))) (.k (.int (20))))])]), .par [(.name 3), (.name 4)] [(.comp [5] (.name 5) (.over (.var 1)) none (.call 22 [(.var 0), (.bin .Add (.var 2) (.k (.int (1))))])), (.comp [6] (.name 6) (.over (.idx (.var 1) (.k (.int (0))))) none (.call 22 [(.var 0), (.bin .Add (.var 2) (.k (.int (1))))]))], .ret (.blt .tuple [(.comp [5, 7] (.tup [(.name 5), (.name 7)]) (.zip (.var 1) (.var 3)) none (.blt .tuple [(.comp [6, 8] (.tup [(.name 6), (.name 8)]) (.zip (.var 5) (.var 4)) none (.bin .Add (.bin .Add (.var 6) (.var 7)) (.var 8)))]))])]
def e__law_lifted : Ent := ⟨"_law_lifted", "_law_lifted", defArgs (top 39), defBody (top 39), defScope (top 39), ["_law_feed_here", "_law_table"], ["_law_feed_here", "_law_table", "_law_size", "_law_rows", "_law_columns", "_law_row", "_law_entry", "_law_more", "_law_above"], [], ir__law_lifted⟩
def ir__law_never_falls : List CS := [.for_ (.tup [(.name 1), (.name 2)]) (.enum (.var 0)) [.ife (.cmp .NotEq (.comp [3, 4] (.tup [(.name 3), (.name 4)]) (.zip (.var 2) (.slc (.var 2) (some (.k (.int (1)))) none)) (some (.cmp .Gt (.var 3) (.var 4))) (.k (.int (1)))) (.lst [])) [.ret (.k (.bool false))] [], .ife (.and_ (.cmp .Gt (.var 1) (.k (.int (0)))) (.cmp .NotEq (.comp [5, 6] (.tup [(.name 5), (.name 6)]) (.zip (.idx (.var 0) (.bin .Sub (.var 1) (.k (.int (1))))) (.var 2)) (some (.cmp .Gt (.var 5) (.var 6))) (.k (.int (1)))) (.lst []))) [.ret (.k (.bool false))] []], .ret (.k (.bool true))]
def e__law_never_falls : Ent := ⟨"_law_never_falls", "_law_never_falls", defArgs (top 40), defBody (top 40), defScope (top 40), ["_law_rows"], ["_law_rows", "_law_at", "_law_row", "_law_one_here", "_law_more", "_law_above", "_law_below"], [], ir__law_never_falls⟩
def ir_law : List CS := [.for_ (.name 1) (.range1 (.blt .max2 [(.k (.int (1))), (.blt .min2 [(.blt .len [(.var 0)]), (.k (.int (5)))])])) [.asg (.name 2) (.call 21 [(.var 0), (.var 1)]), .asg (.tup [(.name 5), (.name 6), (.name 7)]) (.comp [10] (.name 10) (.range1 (.k (.int (3)))) none (.bin .Add (.k (.int (1))) (.call 22 [(.var 2), (.k (.int (8)))]))), .par [(.name 8), (.name 9)] [(.call 25 [(.var 2), (.var 5), (.var 6)]), (.call 25 [(.var 2), (.var 6), (.var 7)])], .ife (.cmp .Eq (.call 22 [(.var 2), (.k (.int (2)))]) (.k (.int (0)))) [.par [(.name 8), (.name 9)] [(.call 27 [(.var 2), (.var 8)]), (.call 27 [(.var 2), (.var 9)])]] [], .asg (.name 3) (.call 17 [(.var 8), (.var 9)]), .ife (.or_ (.not_ (.call 26 [(.var 3)])) (.cmp .IsNot (.call 20 [(.var 3)]) (.k (.bool true)))) [.ret (.k (.bool false))] [], .for_ (.name 4) (.over (.lst [(.call 18 [(.var 8), (.var 9)]), (.call 19 [(.var 8), (.var 9)])])) [.ife (.or_ (.cmp .NotEq (.blt .len [(.var 4)]) (.var 5)) (.not_ (.call 28 [(.var 4)]))) [.ret (.k (.bool false))] []]], .ret (.k (.bool true))]
def e_law : Ent := ⟨"law", "law", defArgs (top 41), defBody (top 41), defScope (top 41), ["_law_script"], ["_law_script", "_law_k", "_law_feed_here", "_law_told", "_law_found", "_law_rows", "_law_many", "_law_columns", "_law_one_here", "_law_other", "_law_turn"], [], ir_law⟩
def tab : List Ent := [e_is_integer, e_is_row_of, e_are_integers, e_columns_of, e_sums_by, e_least_sums, e_middle_in, e_middle_rows, e_width, e_gain_of, e_gain_at, e_gains_of, e_first_paying, e_is_straight_table, e_is_table_form, e_need_table, e_need_two, e_product, e_middles, e_last_middles, e_is_straight, e__law_feed, e__law_draw, e__law_one, e__law_built, e__law_sized, e__law_straight, e__law_lifted, e__law_never_falls, e_law]
theorem t_is_integer : EntT gt e_is_integer := ⟨⟨rfl, rfl, rfl, by decide +kernel, rfl, by decide +kernel, by decide +kernel⟩, by kernel_rfl, by decide, fun _ _ _ _ _ _ us hl => match us, hl with | [_], _ => rfl, by decide +kernel, trivial⟩
theorem t_is_row_of : EntT gt e_is_row_of := ⟨⟨rfl, rfl, rfl, by decide +kernel, rfl, by decide +kernel, by decide +kernel⟩, by kernel_rfl, by decide, fun _ _ _ _ _ _ us hl => match us, hl with | [_, _, _], _ => rfl, by decide +kernel, trivial⟩
theorem t_are_integers : EntT gt e_are_integers := ⟨⟨rfl, rfl, rfl, by decide +kernel, rfl, by decide +kernel, by decide +kernel⟩, by kernel_rfl, by decide, fun _ _ _ _ _ _ us hl => match us, hl with | [_, _], _ => rfl, by decide +kernel, trivial⟩
theorem t_columns_of : EntT gt e_columns_of := ⟨⟨rfl, rfl, rfl, by decide +kernel, rfl, by decide +kernel, by decide +kernel⟩, by kernel_rfl, by decide, fun _ _ _ _ _ _ us hl => match us, hl with | [_], _ => rfl, by decide +kernel, trivial⟩
theorem t_sums_by : EntT gt e_sums_by := ⟨⟨rfl, rfl, rfl, by decide +kernel, rfl, by decide +kernel, by decide +kernel⟩, by kernel_rfl, by decide, fun _ _ _ _ _ _ us hl => match us, hl with | [_, _], _ => rfl, by decide +kernel, trivial⟩
theorem t_least_sums : EntT gt e_least_sums := ⟨⟨rfl, rfl, rfl, by decide +kernel, rfl, by decide +kernel, by decide +kernel⟩, by kernel_rfl, by decide, fun _ _ _ _ _ _ us hl => match us, hl with | [_, _], _ => rfl, by decide +kernel, trivial⟩
theorem t_middle_in : EntT gt e_middle_in := ⟨⟨rfl, rfl, rfl, by decide +kernel, rfl, by decide +kernel, by decide +kernel⟩, by kernel_rfl, by decide, fun _ _ _ _ _ _ us hl => match us, hl with | [_, _], _ => rfl, by decide +kernel, trivial⟩
theorem t_middle_rows : EntT gt e_middle_rows := ⟨⟨rfl, rfl, rfl, by decide +kernel, rfl, by decide +kernel, by decide +kernel⟩, by kernel_rfl, by decide, fun _ _ _ _ _ _ us hl => match us, hl with | [_, _, _], _ => rfl, by decide +kernel, trivial⟩
theorem t_width : EntT gt e_width := ⟨⟨rfl, rfl, rfl, by decide +kernel, rfl, by decide +kernel, by decide +kernel⟩, by kernel_rfl, by decide, fun _ _ _ _ _ _ us hl => match us, hl with | [_], _ => rfl, by decide +kernel, trivial⟩
theorem t_gain_of : EntT gt e_gain_of := ⟨⟨rfl, rfl, rfl, by decide +kernel, rfl, by decide +kernel, by decide +kernel⟩, by kernel_rfl, by decide, fun _ _ _ _ _ _ us hl => match us, hl with | [_, _, _, _, _], _ => rfl, by decide +kernel, trivial⟩
theorem t_gain_at : EntT gt e_gain_at := ⟨⟨rfl, rfl, rfl, by decide +kernel, rfl, by decide +kernel, by decide +kernel⟩, by kernel_rfl, by decide, fun _ _ _ _ _ _ us hl => match us, hl with | [_, _, _], _ => rfl, by decide +kernel, trivial⟩
theorem t_gains_of : EntT gt e_gains_of := ⟨⟨rfl, rfl, rfl, by decide +kernel, rfl, by decide +kernel, by decide +kernel⟩, by kernel_rfl, by decide, fun _ _ _ _ _ _ us hl => match us, hl with | [_], _ => rfl, by decide +kernel, trivial⟩
theorem t_first_paying : EntT gt e_first_paying := ⟨⟨rfl, rfl, rfl, by decide +kernel, rfl, by decide +kernel, by decide +kernel⟩, by kernel_rfl, by decide, fun _ _ _ _ _ _ us hl => match us, hl with | [_], _ => rfl, by decide +kernel, trivial⟩
theorem t_is_straight_table : EntT gt e_is_straight_table := ⟨⟨rfl, rfl, rfl, by decide +kernel, rfl, by decide +kernel, by decide +kernel⟩, by kernel_rfl, by decide, fun _ _ _ _ _ _ us hl => match us, hl with | [_], _ => rfl, by decide +kernel, trivial⟩
theorem t_is_table_form : EntT gt e_is_table_form := ⟨⟨rfl, rfl, rfl, by decide +kernel, rfl, by decide +kernel, by decide +kernel⟩, by kernel_rfl, by decide, fun _ _ _ _ _ _ us hl => match us, hl with | [_], _ => rfl, by decide +kernel, trivial⟩
theorem t_need_table : EntT gt e_need_table := ⟨⟨rfl, rfl, rfl, by decide +kernel, rfl, by decide +kernel, by decide +kernel⟩, by kernel_rfl, by decide, fun _ _ _ _ _ _ us hl => match us, hl with | [_], _ => rfl, by decide +kernel, trivial⟩
theorem t_need_two : EntT gt e_need_two := ⟨⟨rfl, rfl, rfl, by decide +kernel, rfl, by decide +kernel, by decide +kernel⟩, by kernel_rfl, by decide, fun _ _ _ _ _ _ us hl => match us, hl with | [_, _], _ => rfl, by decide +kernel, trivial⟩
theorem t_product : EntT gt e_product := ⟨⟨rfl, rfl, rfl, by decide +kernel, rfl, by decide +kernel, by decide +kernel⟩, by kernel_rfl, by decide, fun _ _ _ _ _ _ us hl => match us, hl with | [_, _], _ => rfl, by decide +kernel, trivial⟩
theorem t_middles : EntT gt e_middles := ⟨⟨rfl, rfl, rfl, by decide +kernel, rfl, by decide +kernel, by decide +kernel⟩, by kernel_rfl, by decide, fun _ _ _ _ _ _ us hl => match us, hl with | [_, _], _ => rfl, by decide +kernel, trivial⟩
theorem t_last_middles : EntT gt e_last_middles := ⟨⟨rfl, rfl, rfl, by decide +kernel, rfl, by decide +kernel, by decide +kernel⟩, by kernel_rfl, by decide, fun _ _ _ _ _ _ us hl => match us, hl with | [_, _], _ => rfl, by decide +kernel, trivial⟩
theorem t_is_straight : EntT gt e_is_straight := ⟨⟨rfl, rfl, rfl, by decide +kernel, rfl, by decide +kernel, by decide +kernel⟩, by kernel_rfl, by decide, fun _ _ _ _ _ _ us hl => match us, hl with | [_], _ => rfl, by decide +kernel, trivial⟩
theorem t__law_feed : EntT gt e__law_feed := ⟨⟨rfl, rfl, rfl, by decide +kernel, rfl, by decide +kernel, by decide +kernel⟩, by kernel_rfl, by decide, fun _ _ _ _ _ _ us hl => match us, hl with | [_, _], _ => rfl, by decide +kernel, trivial⟩
theorem t__law_draw : EntT gt e__law_draw := ⟨⟨rfl, rfl, rfl, by decide +kernel, rfl, by decide +kernel, by decide +kernel⟩, by kernel_rfl, by decide, fun _ _ _ _ _ _ us hl => match us, hl with | [_, _], _ => rfl, by decide +kernel, trivial⟩
theorem t__law_one : EntT gt e__law_one := ⟨⟨rfl, rfl, rfl, by decide +kernel, rfl, by decide +kernel, by decide +kernel⟩, by kernel_rfl, by decide, fun _ _ _ _ _ _ us hl => match us, hl with | [_, _], _ => rfl, by decide +kernel, trivial⟩
theorem t__law_built : EntT gt e__law_built := ⟨⟨rfl, rfl, rfl, by decide +kernel, rfl, by decide +kernel, by decide +kernel⟩, by kernel_rfl, by decide, fun _ _ _ _ _ _ us hl => match us, hl with | [_, _, _], _ => rfl, by decide +kernel, trivial⟩
theorem t__law_sized : EntT gt e__law_sized := ⟨⟨rfl, rfl, rfl, by decide +kernel, rfl, by decide +kernel, by decide +kernel⟩, by kernel_rfl, by decide, fun _ _ _ _ _ _ us hl => match us, hl with | [_, _, _], _ => rfl, by decide +kernel, trivial⟩
theorem t__law_straight : EntT gt e__law_straight := ⟨⟨rfl, rfl, rfl, by decide +kernel, rfl, by decide +kernel, by decide +kernel⟩, by kernel_rfl, by decide, fun _ _ _ _ _ _ us hl => match us, hl with | [_], _ => rfl, by decide +kernel, trivial⟩
theorem t__law_lifted : EntT gt e__law_lifted := ⟨⟨rfl, rfl, rfl, by decide +kernel, rfl, by decide +kernel, by decide +kernel⟩, by kernel_rfl, by decide, fun _ _ _ _ _ _ us hl => match us, hl with | [_, _], _ => rfl, by decide +kernel, trivial⟩
theorem t__law_never_falls : EntT gt e__law_never_falls := ⟨⟨rfl, rfl, rfl, by decide +kernel, rfl, by decide +kernel, by decide +kernel⟩, by kernel_rfl, by decide, fun _ _ _ _ _ _ us hl => match us, hl with | [_], _ => rfl, by decide +kernel, trivial⟩
theorem t_law : EntT gt e_law := ⟨⟨rfl, rfl, rfl, by decide +kernel, rfl, by decide +kernel, by decide +kernel⟩, by kernel_rfl, by decide, fun _ _ _ _ _ _ us hl => match us, hl with | [_], _ => rfl, by decide +kernel, trivial⟩
def fa : List He.Fa := [.glo "is_integer", .glo "is_row_of", .glo "are_integers", .glo "columns_of", .glo "sums_by", .glo "least_sums", .glo "middle_in", .glo "middle_rows", .glo "width", .glo "gain_of", .glo "gain_at", .glo "gains_of", .glo "first_paying", .glo "is_straight_table", .glo "is_table_form", .glo "need_table", .glo "need_two", .glo "product", .glo "middles", .glo "last_middles", .glo "is_straight", .glo "_law_feed", .glo "_law_draw", .glo "_law_one", .glo "_law_built", .glo "_law_sized", .glo "_law_straight", .glo "_law_lifted", .glo "_law_never_falls", .glo "law", .free "isinstance", .free "int", .free "bool", .free "tuple", .free "len", .free "all", .free "range", .free "zip", .free "min", .free "enumerate", .free "sum", .free "max", .int "MOST_ROWS" (8), .exc "BadTable", .exc "BadSizes", .glo "BadTable", .glo "BadSizes"]
def fn : List He.DefD := tab.map Ent.dd
def cv (K : PySem.W.Frag) (i : Nat) : Value := .ref (He.ga K ((["LeastError", "BadRows", "BadTable", "NotStraight", "BadSquare", "BadNumbers", "BadNumber", "BadSizes", "BadIndexes", "BadIndex", "BadParts", "BadChain", "BadWay", "BadPairing", "BadStocks", "BadWishes", "BadFilling", "BadTour", "BadClimb", "BadOrder", "BadStrands", "BadCounts", "BadWord", "BadText", "BadTree", "BadHouses", "BadPosts", "NothingToUndo", "Full", "BadCommand", "TooMany"] : List Str).getD i ""))
abbrev Rw : PySem.W.OpenRow := PySem.W.OpenLaw.row PySem.Challenge.rw_straightleast_k29_middles_never_fall
abbrev hk : PySem.W.Hook := hookS 5 fa fn
def ob (s : PySem.W.SharedT) : AlS := obsSG 5 fa fn (HandSHeadRun.getT s)
theorem ob_eq (s : PySem.W.SharedT) : ob s = hk.obs s.abs := obsSG_eq (HandSHeadRun.getT_eq s)
theorem run (w : World) : HandSHeadRun.RunEq Rw (PySem.W.view Rw.prog [41]) hk ob 3000 ("LeastError" :: "BadTable" :: "BadSizes" :: "is_integer" :: "is_row_of" :: "are_integers" :: "columns_of" :: "sums_by" :: "least_sums" :: "middle_in" :: "middle_rows" :: "width" :: "gain_of" :: "gain_at" :: "gains_of" :: "first_paying" :: "is_straight_table" :: "MOST_ROWS" :: "is_table_form" :: "need_table" :: "need_two" :: "product" :: "middles" :: "last_middles" :: "is_straight" :: "_law_feed" :: "_law_draw" :: "_law_one" :: "_law_built" :: "_law_sized" :: "_law_straight" :: "_law_lifted" :: "_law_never_falls" :: [] : List Str) w := by
  intro os
  kernel_rfl
theorem gtok {K : PySem.W.Frag} {h : Heap} {mg : Str → Option Value} (X : K.In h) (Gh : h.Ns mainGlobals mg) (c : SaysS fa fn K) : GtOk K mg (cv K) gt tab := by
  obtain ⟨fd_is_integer, F_is_integer⟩ := c.d.def_ 0 (d := e_is_integer.dd) rfl
  obtain ⟨fd_is_row_of, F_is_row_of⟩ := c.d.def_ 1 (d := e_is_row_of.dd) rfl
  obtain ⟨fd_are_integers, F_are_integers⟩ := c.d.def_ 2 (d := e_are_integers.dd) rfl
  obtain ⟨fd_columns_of, F_columns_of⟩ := c.d.def_ 3 (d := e_columns_of.dd) rfl
  obtain ⟨fd_sums_by, F_sums_by⟩ := c.d.def_ 4 (d := e_sums_by.dd) rfl
  obtain ⟨fd_least_sums, F_least_sums⟩ := c.d.def_ 5 (d := e_least_sums.dd) rfl
  obtain ⟨fd_middle_in, F_middle_in⟩ := c.d.def_ 6 (d := e_middle_in.dd) rfl
  obtain ⟨fd_middle_rows, F_middle_rows⟩ := c.d.def_ 7 (d := e_middle_rows.dd) rfl
  obtain ⟨fd_width, F_width⟩ := c.d.def_ 8 (d := e_width.dd) rfl
  obtain ⟨fd_gain_of, F_gain_of⟩ := c.d.def_ 9 (d := e_gain_of.dd) rfl
  obtain ⟨fd_gain_at, F_gain_at⟩ := c.d.def_ 10 (d := e_gain_at.dd) rfl
  obtain ⟨fd_gains_of, F_gains_of⟩ := c.d.def_ 11 (d := e_gains_of.dd) rfl
  obtain ⟨fd_first_paying, F_first_paying⟩ := c.d.def_ 12 (d := e_first_paying.dd) rfl
  obtain ⟨fd_is_straight_table, F_is_straight_table⟩ := c.d.def_ 13 (d := e_is_straight_table.dd) rfl
  obtain ⟨fd_is_table_form, F_is_table_form⟩ := c.d.def_ 14 (d := e_is_table_form.dd) rfl
  obtain ⟨fd_need_table, F_need_table⟩ := c.d.def_ 15 (d := e_need_table.dd) rfl
  obtain ⟨fd_need_two, F_need_two⟩ := c.d.def_ 16 (d := e_need_two.dd) rfl
  obtain ⟨fd_product, F_product⟩ := c.d.def_ 17 (d := e_product.dd) rfl
  obtain ⟨fd_middles, F_middles⟩ := c.d.def_ 18 (d := e_middles.dd) rfl
  obtain ⟨fd_last_middles, F_last_middles⟩ := c.d.def_ 19 (d := e_last_middles.dd) rfl
  obtain ⟨fd_is_straight, F_is_straight⟩ := c.d.def_ 20 (d := e_is_straight.dd) rfl
  obtain ⟨fd__law_feed, F__law_feed⟩ := c.d.def_ 21 (d := e__law_feed.dd) rfl
  obtain ⟨fd__law_draw, F__law_draw⟩ := c.d.def_ 22 (d := e__law_draw.dd) rfl
  obtain ⟨fd__law_one, F__law_one⟩ := c.d.def_ 23 (d := e__law_one.dd) rfl
  obtain ⟨fd__law_built, F__law_built⟩ := c.d.def_ 24 (d := e__law_built.dd) rfl
  obtain ⟨fd__law_sized, F__law_sized⟩ := c.d.def_ 25 (d := e__law_sized.dd) rfl
  obtain ⟨fd__law_straight, F__law_straight⟩ := c.d.def_ 26 (d := e__law_straight.dd) rfl
  obtain ⟨fd__law_lifted, F__law_lifted⟩ := c.d.def_ 27 (d := e__law_lifted.dd) rfl
  obtain ⟨fd__law_never_falls, F__law_never_falls⟩ := c.d.def_ 28 (d := e__law_never_falls.dd) rfl
  obtain ⟨fd_law, F_law⟩ := c.d.def_ 29 (d := e_law.dd) rfl
  exact GtOk.mk' (⟨⟨e_is_integer, _, fd_is_integer, rfl, rfl, t_is_integer, F_is_integer, He.glo_ok X Gh (c.d.fact 0 (f := .glo "is_integer") rfl)⟩, ⟨⟨e_is_row_of, _, fd_is_row_of, rfl, rfl, t_is_row_of, F_is_row_of, He.glo_ok X Gh (c.d.fact 1 (f := .glo "is_row_of") rfl)⟩, ⟨⟨e_are_integers, _, fd_are_integers, rfl, rfl, t_are_integers, F_are_integers, He.glo_ok X Gh (c.d.fact 2 (f := .glo "are_integers") rfl)⟩, ⟨⟨e_columns_of, _, fd_columns_of, rfl, rfl, t_columns_of, F_columns_of, He.glo_ok X Gh (c.d.fact 3 (f := .glo "columns_of") rfl)⟩, ⟨⟨e_sums_by, _, fd_sums_by, rfl, rfl, t_sums_by, F_sums_by, He.glo_ok X Gh (c.d.fact 4 (f := .glo "sums_by") rfl)⟩, ⟨⟨e_least_sums, _, fd_least_sums, rfl, rfl, t_least_sums, F_least_sums, He.glo_ok X Gh (c.d.fact 5 (f := .glo "least_sums") rfl)⟩, ⟨⟨e_middle_in, _, fd_middle_in, rfl, rfl, t_middle_in, F_middle_in, He.glo_ok X Gh (c.d.fact 6 (f := .glo "middle_in") rfl)⟩, ⟨⟨e_middle_rows, _, fd_middle_rows, rfl, rfl, t_middle_rows, F_middle_rows, He.glo_ok X Gh (c.d.fact 7 (f := .glo "middle_rows") rfl)⟩, ⟨⟨e_width, _, fd_width, rfl, rfl, t_width, F_width, He.glo_ok X Gh (c.d.fact 8 (f := .glo "width") rfl)⟩, ⟨⟨e_gain_of, _, fd_gain_of, rfl, rfl, t_gain_of, F_gain_of, He.glo_ok X Gh (c.d.fact 9 (f := .glo "gain_of") rfl)⟩, ⟨⟨e_gain_at, _, fd_gain_at, rfl, rfl, t_gain_at, F_gain_at, He.glo_ok X Gh (c.d.fact 10 (f := .glo "gain_at") rfl)⟩, ⟨⟨e_gains_of, _, fd_gains_of, rfl, rfl, t_gains_of, F_gains_of, He.glo_ok X Gh (c.d.fact 11 (f := .glo "gains_of") rfl)⟩, ⟨⟨e_first_paying, _, fd_first_paying, rfl, rfl, t_first_paying, F_first_paying, He.glo_ok X Gh (c.d.fact 12 (f := .glo "first_paying") rfl)⟩, ⟨⟨e_is_straight_table, _, fd_is_straight_table, rfl, rfl, t_is_straight_table, F_is_straight_table, He.glo_ok X Gh (c.d.fact 13 (f := .glo "is_straight_table") rfl)⟩, ⟨⟨e_is_table_form, _, fd_is_table_form, rfl, rfl, t_is_table_form, F_is_table_form, He.glo_ok X Gh (c.d.fact 14 (f := .glo "is_table_form") rfl)⟩, ⟨⟨e_need_table, _, fd_need_table, rfl, rfl, t_need_table, F_need_table, He.glo_ok X Gh (c.d.fact 15 (f := .glo "need_table") rfl)⟩, ⟨⟨e_need_two, _, fd_need_two, rfl, rfl, t_need_two, F_need_two, He.glo_ok X Gh (c.d.fact 16 (f := .glo "need_two") rfl)⟩, ⟨⟨e_product, _, fd_product, rfl, rfl, t_product, F_product, He.glo_ok X Gh (c.d.fact 17 (f := .glo "product") rfl)⟩, ⟨⟨e_middles, _, fd_middles, rfl, rfl, t_middles, F_middles, He.glo_ok X Gh (c.d.fact 18 (f := .glo "middles") rfl)⟩, ⟨⟨e_last_middles, _, fd_last_middles, rfl, rfl, t_last_middles, F_last_middles, He.glo_ok X Gh (c.d.fact 19 (f := .glo "last_middles") rfl)⟩, ⟨⟨e_is_straight, _, fd_is_straight, rfl, rfl, t_is_straight, F_is_straight, He.glo_ok X Gh (c.d.fact 20 (f := .glo "is_straight") rfl)⟩, ⟨⟨e__law_feed, _, fd__law_feed, rfl, rfl, t__law_feed, F__law_feed, He.glo_ok X Gh (c.d.fact 21 (f := .glo "_law_feed") rfl)⟩, ⟨⟨e__law_draw, _, fd__law_draw, rfl, rfl, t__law_draw, F__law_draw, He.glo_ok X Gh (c.d.fact 22 (f := .glo "_law_draw") rfl)⟩, ⟨⟨e__law_one, _, fd__law_one, rfl, rfl, t__law_one, F__law_one, He.glo_ok X Gh (c.d.fact 23 (f := .glo "_law_one") rfl)⟩, ⟨⟨e__law_built, _, fd__law_built, rfl, rfl, t__law_built, F__law_built, He.glo_ok X Gh (c.d.fact 24 (f := .glo "_law_built") rfl)⟩, ⟨⟨e__law_sized, _, fd__law_sized, rfl, rfl, t__law_sized, F__law_sized, He.glo_ok X Gh (c.d.fact 25 (f := .glo "_law_sized") rfl)⟩, ⟨⟨e__law_straight, _, fd__law_straight, rfl, rfl, t__law_straight, F__law_straight, He.glo_ok X Gh (c.d.fact 26 (f := .glo "_law_straight") rfl)⟩, ⟨⟨e__law_lifted, _, fd__law_lifted, rfl, rfl, t__law_lifted, F__law_lifted, He.glo_ok X Gh (c.d.fact 27 (f := .glo "_law_lifted") rfl)⟩, ⟨⟨e__law_never_falls, _, fd__law_never_falls, rfl, rfl, t__law_never_falls, F__law_never_falls, He.glo_ok X Gh (c.d.fact 28 (f := .glo "_law_never_falls") rfl)⟩, ⟨⟨e_law, _, fd_law, rfl, rfl, t_law, F_law, He.glo_ok X Gh (c.d.fact 29 (f := .glo "law") rfl)⟩, trivial⟩⟩⟩⟩⟩⟩⟩⟩⟩⟩⟩⟩⟩⟩⟩⟩⟩⟩⟩⟩⟩⟩⟩⟩⟩⟩⟩⟩⟩⟩)
    (⟨(let ⟨t, ht⟩ := He.int_ok X Gh (c.d.fact 42 (f := .int "MOST_ROWS" (8)) rfl); ⟨.int (8), _, ht, ⟨t, rfl⟩, fun _ => .int _⟩), trivial⟩)
    (⟨He.free_ok X Gh (c.d.fact 30 (f := .free "isinstance") rfl), ⟨He.free_ok X Gh (c.d.fact 31 (f := .free "int") rfl), ⟨He.free_ok X Gh (c.d.fact 32 (f := .free "bool") rfl), ⟨He.free_ok X Gh (c.d.fact 33 (f := .free "tuple") rfl), ⟨He.free_ok X Gh (c.d.fact 34 (f := .free "len") rfl), ⟨He.free_ok X Gh (c.d.fact 35 (f := .free "all") rfl), ⟨He.free_ok X Gh (c.d.fact 36 (f := .free "range") rfl), ⟨He.free_ok X Gh (c.d.fact 37 (f := .free "zip") rfl), ⟨He.free_ok X Gh (c.d.fact 38 (f := .free "min") rfl), ⟨He.free_ok X Gh (c.d.fact 39 (f := .free "enumerate") rfl), ⟨He.free_ok X Gh (c.d.fact 40 (f := .free "sum") rfl), ⟨He.free_ok X Gh (c.d.fact 41 (f := .free "max") rfl), trivial⟩⟩⟩⟩⟩⟩⟩⟩⟩⟩⟩⟩)
    (⟨(let ⟨a1, a2, a3, a4⟩ := He.exc_ok (c.d.fact 43 (f := .exc "BadTable") rfl); ⟨_, rfl, a1, He.glo_ok X Gh (c.d.fact 45 (f := .glo "BadTable") rfl), a2, a3, a4⟩), ⟨(let ⟨a1, a2, a3, a4⟩ := He.exc_ok (c.d.fact 44 (f := .exc "BadSizes") rfl); ⟨_, rfl, a1, He.glo_ok X Gh (c.d.fact 46 (f := .glo "BadSizes") rfl), a2, a3, a4⟩), trivial⟩⟩) c.sys
abbrev fuel : Nat := fuelT
def cf : Nat → Nat → List Sl → Cr.CR := callN (ftOf tab) fuel
/-- what is left: the core's run of the law answers True -/
def Goal : Prop := ∀ ns : List Int, Scr ns → ∃ o, cf 13 29 [.val (.list (ns.map .int))] = .ret (.fz (.bool true)) o
theorem holds (goal : Goal) : PySem.Challenge.rw_straightleast_k29_middles_never_fall.Holds := by
  w_on; o_law
  refine HandSHeadRun.head_any (r := PySem.W.OpenLaw.row PySem.Challenge.rw_straightleast_k29_middles_never_fall) (q := PySem.W.view (PySem.W.OpenLaw.row PySem.Challenge.rw_straightleast_k29_middles_never_fall).prog [41]) (H := hk) (ob := ob) (M := 3000) (loose := ("LeastError" :: "BadTable" :: "BadSizes" :: "is_integer" :: "is_row_of" :: "are_integers" :: "columns_of" :: "sums_by" :: "least_sums" :: "middle_in" :: "middle_rows" :: "width" :: "gain_of" :: "gain_at" :: "gains_of" :: "first_paying" :: "is_straight_table" :: "MOST_ROWS" :: "is_table_form" :: "need_table" :: "need_two" :: "product" :: "middles" :: "last_middles" :: "is_straight" :: "_law_feed" :: "_law_draw" :: "_law_one" :: "_law_built" :: "_law_sized" :: "_law_straight" :: "_law_lifted" :: "_law_never_falls" :: [] : List Str)) (d := HandSHeadRun.topDef (PySem.W.OpenLaw.row PySem.Challenge.rw_straightleast_k29_middles_never_fall).prog 41) (kwd := []) ob_eq
    (by kernel_rfl) (fun s => by kernel_rfl) run (by kernel_rfl) (by kernel_rfl) (by kernel_rfl) (by rfl) (by first | assumption | decide +kernel) (by decide +kernel) ⟨rfl, rfl, rfl, rfl, rfl, by decide +kernel⟩ ?hw ?hc
  case hw => w_witness2
  case hc =>
    refine walkG (l := PySem.Challenge.rw_straightleast_k29_middles_never_fall) (n := 63) (k := 13) (x := "_law_script") rfl (by decide) (by kernel_rfl) ⟨rfl, by decide, by decide⟩ ?F
    intro w mg fa' h Y Gh hmg0
    obtain ⟨K, KX, c⟩ := Y
    have hmg : mg ("law" : PySem.Str) = some (.ref fa') := by
      have e : (HandSHeadRun.topDef (PySem.W.OpenLaw.row PySem.Challenge.rw_straightleast_k29_middles_never_fall).prog 41).name = ("law" : PySem.Str) := by kernel_rfl
      rw [← e]
      exact hmg0
    obtain ⟨fd, F⟩ := c.d.def_ 29 (d := e_law.dd) rfl
    have e := hmg.symm.trans (He.glo_ok KX Gh (c.d.fact 29 (f := .glo "law") rfl))
    cases e
    have b := binds_of t_law F
    refine ⟨K, fd, spC K (cv K) (cf 13 29), KX, fun a o => c.nol, fun s u => ?_, fun H a ns hl hb hS => sp_law hS (goal ns ⟨hl, hb⟩), fun base KB GB => ?_⟩
    · have b' := FunD.bindsA F t_law.binds s [u] rfl
      exact b'
    · exact tab_ok (.inl PySem.F.excBase_ValueError) (gtok KB GB c) 13 "law" 29 e_law _ fd rfl rfl t_law F
end Cr.k29
set_option Elab.async false
set_option linter.all false
set_option maxRecDepth 100000
set_option maxHeartbeats 4000000
namespace Cr.k29
open PySem
def sgL : List Sig := [⟨[.sv], [.sv], .z, [0]⟩,
  ⟨[.sv, .sv, .sv], [.sv, .sv, .sv], .z, [0, 1, 2]⟩,
  ⟨[.sv, .sv], [.sv, .sv], .z, [0, 1, 2]⟩,
  ⟨[.sv], [.sv], .f, [0, 1, 2]⟩,
  ⟨[.sv, .sv], [.sv, .sv], .f, [0, 1, 2, 3]⟩,
  ⟨[.sv, .sv], [.sv, .sv], .z, [0, 1, 3, 4]⟩,
  ⟨[.rn, .sv], [.rn, .sv], .z, [1]⟩,
  ⟨[.sv, .sv, .sv], [.sv, .sv, .sv], .f, [0, 1, 2, 4, 5]⟩,
  ⟨[.sv], [.sv], .z, [0]⟩,
  ⟨[.sv, .sv, .sv, .sv, .sv], [.sv, .sv, .sv, .sv, .sv], .z, [0, 1, 2, 3, 4, 5]⟩,
  ⟨[.sv, .sv, .sv], [.sv, .sv, .sv], .z, [0, 1, 2]⟩,
  ⟨[.sv], [.sv], .z, [0, 2, 3]⟩,
  ⟨[.sv], [.sv], .z, [0, 1, 2, 3, 4]⟩,
  ⟨[.sv], [.sv], .z, [0]⟩,
  ⟨[.sv], [.sv], .z, [0, 1]⟩,
  ⟨[.sv], [.sv], .z, [0]⟩,
  ⟨[.sv, .sv], [.sv, .sv], .z, [0, 1]⟩,
  ⟨[.sv, .sv], [.sv, .sv], .z, [0, 1]⟩,
  ⟨[.sv, .sv], [.sv, .sv], .f, [0, 1]⟩,
  ⟨[.sv, .sv], [.sv, .sv], .f, [0, 1]⟩,
  ⟨[.sv], [.sv], .z, [0]⟩,
  ⟨[.rn, .sv], [.rn, .sv], .f, [1, 2]⟩,
  ⟨[.le, .sv], [.le, .sv], .z, [1, 2, 3, 4]⟩,
  ⟨[.le, .rn], [.le, .rn], .z, []⟩,
  ⟨[.ro, .ro, .rn], [.ro, .ro, .rn], .z, [4, 5, 7, 8, 9]⟩,
  ⟨[.le, .sv, .sv], [.le, .sv, .sv], .z, [1, 2, 6, 7, 8, 9]⟩,
  ⟨[.sv], [.sv], .z, [0, 1, 2, 3, 4, 5]⟩,
  ⟨[.le, .sv], [.le, .sv], .z, [1, 2, 5, 6, 7, 8]⟩,
  ⟨[.ro], [.ro], .z, [1, 3, 4, 5, 6]⟩,
  ⟨[.rn], [.rn], .z, [1, 3, 5, 6, 7, 8, 9, 10]⟩]
def sg (i : Nat) : Sig := sgL.getD i ⟨[], [], .z, []⟩
theorem sg_ok : ∀ f fd, ftOf tab f = some fd → chkF sg (sg f) fd = true := by
  have h : ((List.range tab.length).all fun i => match ftOf tab i with | some fd => chkF sg (sg i) fd | none => true) = true := by decide +kernel
  intro f fd e
  have hf : f < tab.length := by
    unfold ftOf at e
    obtain ⟨x, hx, _⟩ := opt_map e
    exact (List.getElem?_eq_some_iff.mp hx).1
  have := List.all_eq_true.mp h f (List.mem_range.mpr hf)
  rw [e] at this
  exact this
abbrev cp : Nat → Nat → List D → R (D × PEnv) := callP (ftOf tab) sg fuelT
abbrev F_w_feed_LI_I (b : (List Int)) : D × PEnv := (((eL PyData.int) b), [none, none])
theorem l_w_feed_LI_I (m : Nat) (a0 : (List Int)) (a1 : Int) : Sim (cp (m + 1) 21 [((eL PyData.int) a0), (PyData.int a1)]) (t_w_feed_LI_I a0 a1) fun b r => r = F_w_feed_LI_I b := by
  refine fn_ok (cp := cp m) (g := sg 21) (fd := ⟨2, 3, ir__law_feed⟩) (F := F_w_feed_LI_I) rfl ?_
  show Sim (pSs (cp m) sg [1, 2] fuelT ir__law_feed [some ((eL PyData.int) a0), some (PyData.int a1), none] nxK) (t_w_feed_LI_I a0 a1) fun b r => endOf [.rn, .sv] r = some (F_w_feed_LI_I b)
  unfold ir__law_feed t_w_feed_LI_I
  exact s_c (s_asg (s_bin (o_e rfl (s_bin (o_c (d := (PyData.int (977 : Int))) rfl pv_k (o_v (d := (PyData.int a1)) rfl (s_two (a := (PyData.int (977 : Int))) (b := (PyData.int a1)) rfl rfl (q_mul fun v1 => o_c (d := (PyData.int (cutD a0 none (some (1 : Int))).sum)) rfl (pv_blt (ds := [((eL PyData.int) (cutD a0 none (some (1 : Int))))]) ⟨(pv_slc (x := ((eL PyData.int) a0)) (i := none) (j := (some (1 : Int))) (pv_v rfl) trivial pv_k (slc_L _ _ _) rfl), trivial⟩ (sum_L _) rfl) (s_two (a := (PyData.int v1)) (b := (PyData.int (cutD a0 none (some (1 : Int))).sum)) rfl rfl (s_tot (d := (PyData.int (v1 + (cutD a0 none (some (1 : Int))).sum))) rfl rfl (s_nameX (d := (PyData.int (v1 + (cutD a0 none (some (1 : Int))).sum))) (p' := [some ((eL PyData.int) a0), some (PyData.int a1), some (PyData.int (v1 + (cutD a0 none (some (1 : Int))).sum))]) (nl_2 rfl) rfl (s_c (s_ifJX (w := fun (s3 : Int) (g4 : Unit) => [some ((eL PyData.int) a0), some (PyData.int a1), some (PyData.int s3)]) (s_tb (pv_cmp (pv_v rfl) (pv_blt (ds := [((eL PyData.int) a0)]) ⟨(pv_v rfl), trivial⟩ (len_L _) rfl) rfl) (s_ifb (s_c (s_asg (s_idx (o_v (d := ((eL PyData.int) a0)) rfl (o_v (d := (PyData.int a1)) rfl (s_two (a := ((eL PyData.int) a0)) (b := (PyData.int a1)) rfl rfl (q_idxL (f := PyData.int) (a := a0) fun v2 => s_nameX (d := (PyData.int v2)) (p' := [some ((eL PyData.int) a0), some (PyData.int a1), some (PyData.int v2)]) (nl_2 rfl) rfl (s_0 (s_nx ⟨rfl, (), rfl⟩))))))))) (s_0 (s_nx ⟨rfl, (), rfl⟩)))) fun s3 g4 => s_c (s_ret (s_lst (l_c (s_blt (g_c (o_c (d := (PyData.int (0 : Int))) rfl pv_k (g_c (o_e rfl (s_bin (o_v (d := (PyData.int s3)) rfl (o_e rfl (s_bin (o_c (d := (PyData.int (10 : Int))) rfl pv_k (o_c (d := (PyData.int (18 : Int))) rfl pv_k (s_two (a := (PyData.int (10 : Int))) (b := (PyData.int (18 : Int))) rfl rfl (q_pow fun v5 => s_two (a := (PyData.int s3)) (b := (PyData.int v5)) rfl rfl (s_tot (d := (PyData.int (s3 - v5))) rfl rfl (g_0 (s_gets (ds := [(PyData.int (0 : Int)), (PyData.int (s3 - v5))]) rfl (s_tot (d := (PyData.int (if (s3 - v5) > (0 : Int) then (s3 - v5) else (0 : Int)))) rfl rfl (l_c (s_bin (o_e rfl (s_blt (g_c (o_e rfl (s_bin (o_e rfl (s_bin (o_v (d := (PyData.int s3)) rfl (o_c (d := (PyData.int (19 : Int))) rfl pv_k (s_two (a := (PyData.int s3)) (b := (PyData.int (19 : Int))) rfl rfl (q_mul fun v6 => o_e rfl (s_bin (o_c (d := (PyData.int (7 : Int))) rfl pv_k (o_v (d := (PyData.int a1)) rfl (s_two (a := (PyData.int (7 : Int))) (b := (PyData.int a1)) rfl rfl (q_mul fun v7 => s_two (a := (PyData.int v6)) (b := (PyData.int v7)) rfl rfl (s_tot (d := (PyData.int (v6 + v7))) rfl rfl (g_0 (s_gets (ds := [(PyData.int (v6 + v7))]) rfl (s_tot (d := (PyData.int (v6 + v7))) rfl rfl (o_e rfl (s_bin (o_e rfl (s_bin (o_c (d := (PyData.int (10 : Int))) rfl pv_k (o_c (d := (PyData.int (39 : Int))) rfl pv_k (s_two (a := (PyData.int (10 : Int))) (b := (PyData.int (39 : Int))) rfl rfl (q_pow fun v8 => o_c (d := (PyData.int (23 : Int))) rfl pv_k (s_two (a := (PyData.int v8)) (b := (PyData.int (23 : Int))) rfl rfl (s_tot (d := (PyData.int (v8 + (23 : Int)))) rfl rfl (s_two (a := (PyData.int (v6 + v7))) (b := (PyData.int (v8 + (23 : Int)))) rfl rfl (q_mod fun v9 => l_c (s_pv (d := (PyData.int (0 : Int))) pv_k (l_0 (s_leaf rfl))))))))))))))))))))))))))))))))))))))))))))))))))))))))))))))))))))))
abbrev F_w_draw_LI_I (b : (Int × (List Int))) : D × PEnv := ((PyData.int b.1), [some ((eL PyData.int) b.2), none])
theorem l_w_draw_LI_I (m : Nat) (a0 : (List Int)) (a1 : Int) : Sim (cp (m + 1) 22 [((eL PyData.int) a0), (PyData.int a1)]) (t_w_draw_LI_I a0 a1) fun b r => r = F_w_draw_LI_I b := by
  refine fn_ok (cp := cp m) (g := sg 22) (fd := ⟨2, 5, ir__law_draw⟩) (F := F_w_draw_LI_I) rfl ?_
  show Sim (pSs (cp m) sg [1, 2, 3, 4] fuelT ir__law_draw [some ((eL PyData.int) a0), some (PyData.int a1), none, none, none] nxK) (t_w_draw_LI_I a0 a1) fun b r => endOf [.le, .sv] r = some (F_w_draw_LI_I b)
  unfold ir__law_draw t_w_draw_LI_I
  exact s_c (s_ifS (s_te rfl (s_cmp (o_e rfl (s_idx (o_v (d := ((eL PyData.int) a0)) rfl (o_c (d := (PyData.int (0 : Int))) rfl pv_k (s_two (a := ((eL PyData.int) a0)) (b := (PyData.int (0 : Int))) rfl rfl (q_idxL (f := PyData.int) (a := a0) fun v1 => o_c (d := (PyData.int (0 : Int))) rfl pv_k (s_two (a := (PyData.int v1)) (b := (PyData.int (0 : Int))) rfl rfl (s_cmpT (t := (decide ((0 : Int) < v1))) rfl (s_onB (s_ifb (s_c (s_asg (s_bin (o_e rfl (s_idx (o_v (d := ((eL PyData.int) a0)) rfl (o_c (d := (PyData.int (0 : Int))) rfl pv_k (s_two (a := ((eL PyData.int) a0)) (b := (PyData.int (0 : Int))) rfl rfl (q_idxL (f := PyData.int) (a := a0) fun v2 => o_v (d := (PyData.int a1)) rfl (s_two (a := (PyData.int v2)) (b := (PyData.int a1)) rfl rfl (q_div fun v3 => s_nameX (d := (PyData.int v3)) (p' := [some ((eL PyData.int) a0), some (PyData.int a1), none, some (PyData.int v3), none]) (nl_2 rfl) rfl (s_c (s_asg (s_bin (o_e rfl (s_idx (o_v (d := ((eL PyData.int) a0)) rfl (o_c (d := (PyData.int (0 : Int))) rfl pv_k (s_two (a := ((eL PyData.int) a0)) (b := (PyData.int (0 : Int))) rfl rfl (q_idxL (f := PyData.int) (a := a0) fun v4 => o_e rfl (s_bin (o_v (d := (PyData.int v3)) rfl (o_v (d := (PyData.int a1)) rfl (s_two (a := (PyData.int v3)) (b := (PyData.int a1)) rfl rfl (q_mul fun v5 => s_two (a := (PyData.int v4)) (b := (PyData.int v5)) rfl rfl (s_tot (d := (PyData.int (v4 - v5))) rfl rfl (s_nameX (d := (PyData.int (v4 - v5))) (p' := [some ((eL PyData.int) a0), some (PyData.int a1), none, some (PyData.int v3), some (PyData.int (v4 - v5))]) (nl_2 rfl) rfl (s_c (s_asg (s_pv (d := (PyData.int v3)) (pv_v rfl) (s_tgt rfl (a_sP (l := ((eL PyData.int) a0)) rfl rfl (o_c (d := (PyData.int (0 : Int))) rfl pv_k (s_onO (a := (PyData.int (0 : Int))) rfl (s_onO (a := ((eL PyData.int) a0)) rfl (q_putX (f := PyData.int) (a := a0) (x := v3) (q := fun v6 => [some ((eL PyData.int) v6), some (PyData.int a1), none, some (PyData.int v3), some (PyData.int (v4 - v5))]) (fun _ => rfl) fun v6 => s_c (s_ret (s_pv (d := (PyData.int (v4 - v5))) (pv_v rfl) (s_leaf rfl))))))))))))))))))))))))))))))))))))))) (s_0 (s_c (s_asg (s_bin (o_e rfl (s_idx (o_v (d := ((eL PyData.int) a0)) rfl (o_c (d := (PyData.int (2 : Int))) rfl pv_k (s_two (a := ((eL PyData.int) a0)) (b := (PyData.int (2 : Int))) rfl rfl (q_idxL (f := PyData.int) (a := a0) fun v7 => o_c (d := (PyData.int (1 : Int))) rfl pv_k (s_two (a := (PyData.int v7)) (b := (PyData.int (1 : Int))) rfl rfl (s_tot (d := (PyData.int (v7 + (1 : Int)))) rfl rfl (s_tgt rfl (a_sP (l := ((eL PyData.int) a0)) rfl rfl (o_c (d := (PyData.int (2 : Int))) rfl pv_k (s_onO (a := (PyData.int (2 : Int))) rfl (s_onO (a := ((eL PyData.int) a0)) rfl (q_putX (f := PyData.int) (a := a0) (x := (v7 + (1 : Int))) (q := fun v8 => [some ((eL PyData.int) v8), some (PyData.int a1), none, none, none]) (fun _ => rfl) fun v8 => s_c (s_asg (s_bin (o_e rfl (s_idx (o_v (d := ((eL PyData.int) v8)) rfl (o_c (d := (PyData.int (1 : Int))) rfl pv_k (s_two (a := ((eL PyData.int) v8)) (b := (PyData.int (1 : Int))) rfl rfl (q_idxL (f := PyData.int) (a := v8) fun v9 => o_e rfl (s_bin (o_c (d := (PyData.int (6700417 : Int))) rfl pv_k (o_e rfl (s_idx (o_v (d := ((eL PyData.int) v8)) rfl (o_c (d := (PyData.int (2 : Int))) rfl pv_k (s_two (a := ((eL PyData.int) v8)) (b := (PyData.int (2 : Int))) rfl rfl (q_idxL (f := PyData.int) (a := v8) fun v10 => s_two (a := (PyData.int (6700417 : Int))) (b := (PyData.int v10)) rfl rfl (q_mul fun v11 => s_two (a := (PyData.int v9)) (b := (PyData.int v11)) rfl rfl (s_tot (d := (PyData.int (v9 + v11))) rfl rfl (s_nameX (d := (PyData.int (v9 + v11))) (p' := [some ((eL PyData.int) v8), some (PyData.int a1), some (PyData.int (v9 + v11)), none, none]) (nl_2 rfl) rfl (s_c (s_asg (s_bin (o_e rfl (s_blt (g_c (o_e rfl (s_bin (o_e rfl (s_bin (o_e rfl (s_bin (o_v (d := (PyData.int (v9 + v11))) rfl (o_v (d := (PyData.int (v9 + v11))) rfl (s_two (a := (PyData.int (v9 + v11))) (b := (PyData.int (v9 + v11))) rfl rfl (q_mul fun v12 => o_v (d := (PyData.int (v9 + v11))) rfl (s_two (a := (PyData.int v12)) (b := (PyData.int (v9 + v11))) rfl rfl (q_mul fun v13 => o_e rfl (s_bin (o_c (d := (PyData.int (15485863 : Int))) rfl pv_k (o_e rfl (s_idx (o_v (d := ((eL PyData.int) v8)) rfl (o_c (d := (PyData.int (2 : Int))) rfl pv_k (s_two (a := ((eL PyData.int) v8)) (b := (PyData.int (2 : Int))) rfl rfl (q_idxL (f := PyData.int) (a := v8) fun v14 => s_two (a := (PyData.int (15485863 : Int))) (b := (PyData.int v14)) rfl rfl (q_mul fun v15 => s_two (a := (PyData.int v13)) (b := (PyData.int v15)) rfl rfl (s_tot (d := (PyData.int (v13 + v15))) rfl rfl (g_0 (s_gets (ds := [(PyData.int (v13 + v15))]) rfl (s_tot (d := (PyData.int (v13 + v15))) rfl rfl (o_e rfl (s_bin (o_e rfl (s_bin (o_c (d := (PyData.int (10 : Int))) rfl pv_k (o_c (d := (PyData.int (43 : Int))) rfl pv_k (s_two (a := (PyData.int (10 : Int))) (b := (PyData.int (43 : Int))) rfl rfl (q_pow fun v16 => o_c (d := (PyData.int (57 : Int))) rfl pv_k (s_two (a := (PyData.int v16)) (b := (PyData.int (57 : Int))) rfl rfl (s_tot (d := (PyData.int (v16 + (57 : Int)))) rfl rfl (s_two (a := (PyData.int (v13 + v15))) (b := (PyData.int (v16 + (57 : Int)))) rfl rfl (q_mod fun v17 => s_nameX (d := (PyData.int v17)) (p' := [some ((eL PyData.int) v8), some (PyData.int a1), some (PyData.int v17), none, none]) (nl_2 rfl) rfl (s_c (s_asg (s_bin (o_e rfl (s_blt (g_c (o_e rfl (s_bin (o_e rfl (s_bin (o_v (d := (PyData.int v17)) rfl (o_v (d := (PyData.int v17)) rfl (s_two (a := (PyData.int v17)) (b := (PyData.int v17)) rfl rfl (q_mul fun v18 => o_c (d := (PyData.int (32452843 : Int))) rfl pv_k (s_two (a := (PyData.int v18)) (b := (PyData.int (32452843 : Int))) rfl rfl (s_tot (d := (PyData.int (v18 + (32452843 : Int)))) rfl rfl (g_0 (s_gets (ds := [(PyData.int (v18 + (32452843 : Int)))]) rfl (s_tot (d := (PyData.int (v18 + (32452843 : Int)))) rfl rfl (o_e rfl (s_bin (o_e rfl (s_bin (o_c (d := (PyData.int (10 : Int))) rfl pv_k (o_c (d := (PyData.int (38 : Int))) rfl pv_k (s_two (a := (PyData.int (10 : Int))) (b := (PyData.int (38 : Int))) rfl rfl (q_pow fun v19 => o_c (d := (PyData.int (133 : Int))) rfl pv_k (s_two (a := (PyData.int v19)) (b := (PyData.int (133 : Int))) rfl rfl (s_tot (d := (PyData.int (v19 + (133 : Int)))) rfl rfl (s_two (a := (PyData.int (v18 + (32452843 : Int)))) (b := (PyData.int (v19 + (133 : Int)))) rfl rfl (q_mod fun v20 => s_nameX (d := (PyData.int v20)) (p' := [some ((eL PyData.int) v8), some (PyData.int a1), some (PyData.int v20), none, none]) (nl_2 rfl) rfl (s_c (s_ret (s_bin (o_e rfl (s_blt (g_c (o_e rfl (s_bin (o_v (d := (PyData.int v20)) rfl (o_e rfl (s_bin (o_c (d := (PyData.int (10 : Int))) rfl pv_k (o_c (d := (PyData.int (9 : Int))) rfl pv_k (s_two (a := (PyData.int (10 : Int))) (b := (PyData.int (9 : Int))) rfl rfl (q_pow fun v21 => s_two (a := (PyData.int v20)) (b := (PyData.int v21)) rfl rfl (q_div fun v22 => g_0 (s_gets (ds := [(PyData.int v22)]) rfl (s_tot (d := (PyData.int v22)) rfl rfl (o_v (d := (PyData.int a1)) rfl (s_two (a := (PyData.int v22)) (b := (PyData.int a1)) rfl rfl (q_mod fun v23 => s_leaf rfl)))))))))))))))))))))))))))))))))))))))))))))))))))))))))))))))))))))))))))))))))))))))))))))))))))))))))))))))))))))))))))))))))))))))))))))))))
abbrev F_w_one_LI_LI (b : (Int × (List Int))) : D × PEnv := ((PyData.int b.1), [some ((eL PyData.int) b.2), none])
theorem l_w_one_LI_LI (m : Nat) (a0 : (List Int)) (a1 : (List Int)) : Sim (cp (m + 3) 23 [((eL PyData.int) a0), ((eL PyData.int) a1)]) (t_w_one_LI_LI a0 a1) fun b r => r = F_w_one_LI_LI b := by
  refine fn_ok (cp := cp (m + 2)) (g := sg 23) (fd := ⟨2, 2, ir__law_one⟩) (F := F_w_one_LI_LI) rfl ?_
  show Sim (pSs (cp (m + 2)) sg [] fuelT ir__law_one [some ((eL PyData.int) a0), some ((eL PyData.int) a1)] nxK) (t_w_one_LI_LI a0 a1) fun b r => endOf [.le, .rn] r = some (F_w_one_LI_LI b)
  unfold ir__law_one t_w_one_LI_LI
  exact s_c (s_ret (s_idx (o_v (d := ((eL PyData.int) a1)) rfl (o_e rfl (s_callP (g_c (o_v (d := ((eL PyData.int) a0)) rfl (g_c (o_c (d := (PyData.int (a1.length : Int))) rfl (pv_blt (ds := [((eL PyData.int) a1)]) ⟨(pv_v rfl), trivial⟩ (len_L _) rfl) (g_0 (s_gets (ds := [((eL PyData.int) a0), (PyData.int (a1.length : Int))]) rfl (s_callX (d := fun r1 => (PyData.int r1.1)) (q := fun r1 => [some ((eL PyData.int) r1.2), some ((eL PyData.int) a1)]) (l_w_draw_LI_I _ a0 (a1.length : Int)) (fun _ => rfl) (fun _ => rfl) fun r1 => s_two (a := ((eL PyData.int) a1)) (b := (PyData.int r1.1)) rfl rfl (q_idxL (f := PyData.int) (a := a1) fun v2 => s_leaf rfl)))))))))))))
abbrev F_w_built_LI_LI_LLI (b : (List (List Int))) : D × PEnv := (((eT (eT PyData.int)) b), [none, none, none])
theorem l_w_built_LI_LI_LLI (m : Nat) (a0 : (List Int)) (a1 : (List Int)) (a2 : (List (List Int))) : Sim (cp (m + 1) 24 [((eL PyData.int) a0), ((eL PyData.int) a1), ((eL (eL PyData.int)) a2)]) (t_w_built_LI_LI_LLI a0 a1 a2) fun b r => r = F_w_built_LI_LI_LLI b := by
  refine fn_ok (cp := cp m) (g := sg 24) (fd := ⟨3, 11, ir__law_built⟩) (F := F_w_built_LI_LI_LLI) rfl ?_
  show Sim (pSs (cp m) sg [4, 5, 7, 8, 9] fuelT ir__law_built [some ((eL PyData.int) a0), some ((eL PyData.int) a1), some ((eL (eL PyData.int)) a2), none, none, none, none, none, none, none, none] nxK) (t_w_built_LI_LI_LLI a0 a1 a2) fun b r => endOf [.ro, .ro, .rn] r = some (F_w_built_LI_LI_LLI b)
  unfold ir__law_built t_w_built_LI_LI_LLI
  exact s_c (s_asg (s_pv (d := ((eL eD) ([] : (List D)))) (pv_lst (ds := []) trivial) (s_nameX (d := ((eL eD) ([] : (List D)))) (p' := [some ((eL PyData.int) a0), some ((eL PyData.int) a1), some ((eL (eL PyData.int)) a2), some ((eL eD) ([] : (List D))), none, none, none, none, none, none, none]) (nl_1 rfl) rfl (s_c (s_forP (i_enum (s_pv (d := ((eL PyData.int) a0)) (pv_v rfl) (it_L (f := PyData.int) (xs := a0) (en_mP (w_forY (φ := (e2 PyData.int PyData.int)) (w := fun (s1 : (List (List Int))) (g3 : Option D × Option D × Option D × Option D × Option D × Option D) => [some ((eL PyData.int) a0), some ((eL PyData.int) a1), some ((eL (eL PyData.int)) a2), some ((eL (eT PyData.int)) s1), g3.1, g3.2.1, g3.2.2.1, g3.2.2.2.1, g3.2.2.2.2.1, g3.2.2.2.2.2, none]) (s := ([] : (List (List Int)))) (none, none, none, none, none, none) rfl (fun x2 s1 g3 _ => a_t (ds := [(PyData.int x2.1), (PyData.int x2.2)]) rfl (a_c (a_nX (p' := [some ((eL PyData.int) a0), some ((eL PyData.int) a1), some ((eL (eL PyData.int)) a2), some ((eL (eT PyData.int)) s1), some (PyData.int x2.1), g3.2.1, g3.2.2.1, g3.2.2.2.1, g3.2.2.2.2.1, g3.2.2.2.2.2, none]) rfl (a_c (a_nX (p' := [some ((eL PyData.int) a0), some ((eL PyData.int) a1), some ((eL (eL PyData.int)) a2), some ((eL (eT PyData.int)) s1), some (PyData.int x2.1), some (PyData.int x2.2), g3.2.2.1, g3.2.2.2.1, g3.2.2.2.2.1, g3.2.2.2.2.2, none]) rfl (a_0 (s_c (s_asg (s_pv (d := ((eL PyData.int) [x2.2])) (pv_lst (ds := [(PyData.int x2.2)]) ⟨(pv_v rfl), trivial⟩) (s_nameX (d := ((eL PyData.int) [x2.2])) (p' := [some ((eL PyData.int) a0), some ((eL PyData.int) a1), some ((eL (eL PyData.int)) a2), some ((eL (eT PyData.int)) s1), some (PyData.int x2.1), some (PyData.int x2.2), some ((eL PyData.int) [x2.2]), g3.2.2.2.1, g3.2.2.2.2.1, g3.2.2.2.2.2, none]) (nl_1 rfl) rfl (s_c (s_forP (i_enum (s_pv (d := ((eL PyData.int) a1)) (pv_v rfl) (it_L (f := PyData.int) (xs := a1) (en_mP (w_forY (φ := (e2 PyData.int PyData.int)) (w := fun (s4 : (List Int)) (g6 : Option D × Option D × Option D) => [some ((eL PyData.int) a0), some ((eL PyData.int) a1), some ((eL (eL PyData.int)) a2), some ((eL (eT PyData.int)) s1), some (PyData.int x2.1), some (PyData.int x2.2), some ((eL PyData.int) s4), g6.1, g6.2.1, g6.2.2, none]) (s := [x2.2]) (g3.2.2.2.1, g3.2.2.2.2.1, g3.2.2.2.2.2) rfl (fun x5 s4 g6 _ => a_t (ds := [(PyData.int x5.1), (PyData.int x5.2)]) rfl (a_c (a_nX (p' := [some ((eL PyData.int) a0), some ((eL PyData.int) a1), some ((eL (eL PyData.int)) a2), some ((eL (eT PyData.int)) s1), some (PyData.int x2.1), some (PyData.int x2.2), some ((eL PyData.int) s4), some (PyData.int x5.1), g6.2.1, g6.2.2, none]) rfl (a_c (a_nX (p' := [some ((eL PyData.int) a0), some ((eL PyData.int) a1), some ((eL (eL PyData.int)) a2), some ((eL (eT PyData.int)) s1), some (PyData.int x2.1), some (PyData.int x2.2), some ((eL PyData.int) s4), some (PyData.int x5.1), some (PyData.int x5.2), g6.2.2, none]) rfl (a_0 (s_c (s_asg (s_blt (g_c (o_e rfl (s_compQ (i_over (s_pv (d := ((eL (eL PyData.int)) (cutD a2 none (some x2.1)))) (pv_slc (x := ((eL (eL PyData.int)) a2)) (i := none) (j := (some x2.1)) (pv_v rfl) trivial (pv_v rfl) (slc_L _ _ _) rfl) (it_L (f := (eL PyData.int)) (xs := (cutD a2 none (some x2.1))) (c_mapY (φ := (eL PyData.int)) (ψ := PyData.int) (p0 := [some ((eL PyData.int) a0), some ((eL PyData.int) a1), some ((eL (eL PyData.int)) a2), some ((eL (eT PyData.int)) s1), some (PyData.int x2.1), some (PyData.int x2.2), some ((eL PyData.int) s4), some (PyData.int x5.1), some (PyData.int x5.2), g6.2.2, none]) (pe := [some ((eL PyData.int) a0), some ((eL PyData.int) a1), some ((eL (eL PyData.int)) a2), some ((eL (eT PyData.int)) s1), some (PyData.int x2.1), some (PyData.int x2.2), some ((eL PyData.int) s4), some (PyData.int x5.1), some (PyData.int x5.2), g6.2.2, none]) rfl rfl (fun x7 _ => a_nX (p' := [some ((eL PyData.int) a0), some ((eL PyData.int) a1), some ((eL (eL PyData.int)) a2), some ((eL (eT PyData.int)) s1), some (PyData.int x2.1), some (PyData.int x2.2), some ((eL PyData.int) s4), some (PyData.int x5.1), some (PyData.int x5.2), g6.2.2, some ((eL PyData.int) x7)]) rfl (q_none (s_tt (s_pv (d := (PyData.int (cutD x7 none (some (x5.1 + (1 : Int)))).sum)) (pv_blt (ds := [((eL PyData.int) (cutD x7 none (some (x5.1 + (1 : Int)))))]) ⟨(pv_slc (x := ((eL PyData.int) x7)) (i := none) (j := (some (x5.1 + (1 : Int)))) (pv_v rfl) trivial (pv_add (pv_v rfl) pv_k) (slc_L _ _ _) rfl), trivial⟩ (sum_L _) rfl) (s_leaf ⟨rfl, rfl⟩))))) fun ys9 => g_0 (s_gets (ds := [((eL PyData.int) ys9)]) rfl (s_tot (d := (PyData.int ys9.sum)) (sum_L _) rfl (s_nameX (d := (PyData.int ys9.sum)) (p' := [some ((eL PyData.int) a0), some ((eL PyData.int) a1), some ((eL (eL PyData.int)) a2), some ((eL (eT PyData.int)) s1), some (PyData.int x2.1), some (PyData.int x2.2), some ((eL PyData.int) s4), some (PyData.int x5.1), some (PyData.int x5.2), some (PyData.int ys9.sum), none]) (nl_2 rfl) rfl (s_c (s_ex (s_mmP (d := ((eL PyData.int) s4)) rfl rfl (l_c (s_pv (d := (PyData.int ((x2.2 + x5.2) - ys9.sum))) (pv_sub (pv_add (pv_v rfl) (pv_v rfl)) (pv_v rfl)) (l_0 (s_onO (a := ((eL PyData.int) s4)) rfl (q_appX (f := PyData.int) (a := s4) (x := ((x2.2 + x5.2) - ys9.sum)) (q := fun v10 => [some ((eL PyData.int) a0), some ((eL PyData.int) a1), some ((eL (eL PyData.int)) a2), some ((eL (eT PyData.int)) s1), some (PyData.int x2.1), some (PyData.int x2.2), some ((eL PyData.int) v10), some (PyData.int x5.1), some (PyData.int x5.2), some (PyData.int ys9.sum), none]) (fun _ => rfl) fun v10 => s_0 (s_nx ⟨.inl rfl, (some (PyData.int x5.1), some (PyData.int x5.2), some (PyData.int ys9.sum)), rfl⟩)))))))))))))))))))))))))))) fun s11 g12 => s_c (s_ex (s_mmP (d := ((eL (eT PyData.int)) s1)) rfl rfl (l_c (s_pv (d := ((eT PyData.int) s11)) (pv_blt (ds := [((eL PyData.int) s11)]) ⟨(pv_v rfl), trivial⟩ rfl rfl) (l_0 (s_onO (a := ((eL (eT PyData.int)) s1)) rfl (q_appX (f := (eT PyData.int)) (a := s1) (x := s11) (q := fun v13 => [some ((eL PyData.int) a0), some ((eL PyData.int) a1), some ((eL (eL PyData.int)) a2), some ((eL (eT PyData.int)) v13), some (PyData.int x2.1), some (PyData.int x2.2), some ((eL PyData.int) s11), g12.1, g12.2.1, g12.2.2, none]) (fun _ => rfl) fun v13 => s_0 (s_nx ⟨.inl rfl, (some (PyData.int x2.1), some (PyData.int x2.2), some ((eL PyData.int) s11), g12.1, g12.2.1, g12.2.2), rfl⟩))))))))))))))))))))))))) fun s14 g15 => s_c (s_ret (s_pv (d := ((eT (eT PyData.int)) s14)) (pv_blt (ds := [((eL (eT PyData.int)) s14)]) ⟨(pv_v rfl), trivial⟩ rfl rfl) (s_leaf rfl)))))))))))))
abbrev F_w_sized_LI_I_I (b : ((List (List Int)) × (List Int))) : D × PEnv := (((eT (eT PyData.int)) b.1), [some ((eL PyData.int) b.2), none, none])
theorem l_w_sized_LI_I_I (m : Nat) (a0 : (List Int)) (a1 : Int) (a2 : Int) : Sim (cp (m + 5) 25 [((eL PyData.int) a0), (PyData.int a1), (PyData.int a2)]) (t_w_sized_LI_I_I a0 a1 a2) fun b r => r = F_w_sized_LI_I_I b := by
  refine fn_ok (cp := cp (m + 4)) (g := sg 25) (fd := ⟨3, 10, ir__law_sized⟩) (F := F_w_sized_LI_I_I) rfl ?_
  show Sim (pSs (cp (m + 4)) sg [1, 2, 6, 7, 8, 9] fuelT ir__law_sized [some ((eL PyData.int) a0), some (PyData.int a1), some (PyData.int a2), none, none, none, none, none, none, none] nxK) (t_w_sized_LI_I_I a0 a1 a2) fun b r => endOf [.le, .sv, .sv] r = some (F_w_sized_LI_I_I b)
  unfold ir__law_sized t_w_sized_LI_I_I
  exact s_c (s_par (l_c (s_callP (g_c (o_v (d := ((eL PyData.int) a0)) rfl (g_c (o_e rfl (s_lst (l_c (s_pv (d := (PyData.int (3 : Int))) pv_k (l_c (s_pv (d := (PyData.int (3 : Int))) pv_k (l_c (s_pv (d := (PyData.int (10 : Int))) pv_k (l_c (s_bin (o_c (d := (PyData.int (10 : Int))) rfl pv_k (o_c (d := (PyData.int (6 : Int))) rfl pv_k (s_two (a := (PyData.int (10 : Int))) (b := (PyData.int (6 : Int))) rfl rfl (q_pow fun v1 => l_c (s_bin (o_c (d := (PyData.int (10 : Int))) rfl pv_k (o_c (d := (PyData.int (15 : Int))) rfl pv_k (s_two (a := (PyData.int (10 : Int))) (b := (PyData.int (15 : Int))) rfl rfl (q_pow fun v2 => l_0 (g_0 (s_gets (ds := [((eL PyData.int) a0), ((eL PyData.int) [(3 : Int), (3 : Int), (10 : Int), v1, v2])]) rfl (s_callX (d := fun r3 => (PyData.int r3.1)) (q := fun r3 => [some ((eL PyData.int) r3.2), some (PyData.int a1), some (PyData.int a2), none, none, none, none, none, none, none]) (l_w_one_LI_LI _ a0 [(3 : Int), (3 : Int), (10 : Int), v1, v2]) (fun _ => rfl) (fun _ => rfl) fun r3 => l_c (s_callP (g_c (o_v (d := ((eL PyData.int) r3.2)) rfl (g_c (o_e rfl (s_lst (l_c (s_pv (d := (PyData.int (1 : Int))) pv_k (l_c (s_pv (d := (PyData.int (2 : Int))) pv_k (l_c (s_pv (d := (PyData.int (3 : Int))) pv_k (l_c (s_pv (d := (PyData.int (8 : Int))) pv_k (l_c (s_bin (o_c (d := (PyData.int (10 : Int))) rfl pv_k (o_c (d := (PyData.int (9 : Int))) rfl pv_k (s_two (a := (PyData.int (10 : Int))) (b := (PyData.int (9 : Int))) rfl rfl (q_pow fun v4 => l_0 (g_0 (s_gets (ds := [((eL PyData.int) r3.2), ((eL PyData.int) [(1 : Int), (2 : Int), (3 : Int), (8 : Int), v4])]) rfl (s_callX (d := fun r5 => (PyData.int r5.1)) (q := fun r5 => [some ((eL PyData.int) r5.2), some (PyData.int a1), some (PyData.int a2), none, none, none, none, none, none, none]) (l_w_one_LI_LI _ r3.2 [(1 : Int), (2 : Int), (3 : Int), (8 : Int), v4]) (fun _ => rfl) (fun _ => rfl) fun r5 => l_0 (s_pos (by simp) (s_pos (nls_c (nl_2 rfl) (nls_c (nl_2 rfl) rfl)) (a_c (a_nX (p' := [some ((eL PyData.int) r5.2), some (PyData.int a1), some (PyData.int a2), none, none, none, none, some (PyData.int r3.1), none, none]) rfl (a_c (a_nX (p' := [some ((eL PyData.int) r5.2), some (PyData.int a1), some (PyData.int a2), none, none, none, none, some (PyData.int r3.1), some (PyData.int r5.1), none]) rfl (a_0 (s_c (s_asg (s_compQ (i_r1P (o_v (d := (PyData.int a1)) rfl (s_onO (a := (PyData.int a1)) rfl (s_onI (q_r1P fun l6 => c_mapSY (φ := PyData.int) (ψ := PyData.int) (w := fun (s8 : (List Int)) => [some ((eL PyData.int) s8), some (PyData.int a1), some (PyData.int a2), none, none, none, none, some (PyData.int r3.1), some (PyData.int r5.1), none]) (s := r5.2) (pe := fun s8 => [some ((eL PyData.int) s8), some (PyData.int a1), some (PyData.int a2), none, none, none, none, some (PyData.int r3.1), some (PyData.int r5.1), none]) rfl (fun _ => rfl) (fun x7 s8 _ => a_nX (p' := [some ((eL PyData.int) s8), some (PyData.int a1), some (PyData.int a2), none, none, none, none, some (PyData.int r3.1), some (PyData.int r5.1), some (PyData.int x7)]) rfl (q_none (s_tt (s_bin (o_e rfl (s_callP (g_c (o_v (d := ((eL PyData.int) s8)) rfl (g_c (o_e rfl (s_bin (o_e rfl (s_bin (o_c (d := (PyData.int (2 : Int))) rfl pv_k (o_v (d := (PyData.int r3.1)) rfl (s_two (a := (PyData.int (2 : Int))) (b := (PyData.int r3.1)) rfl rfl (q_mul fun v10 => o_c (d := (PyData.int (1 : Int))) rfl pv_k (s_two (a := (PyData.int v10)) (b := (PyData.int (1 : Int))) rfl rfl (s_tot (d := (PyData.int (v10 + (1 : Int)))) rfl rfl (g_0 (s_gets (ds := [((eL PyData.int) s8), (PyData.int (v10 + (1 : Int)))]) rfl (s_callX (d := fun r11 => (PyData.int r11.1)) (q := fun r11 => [some ((eL PyData.int) r11.2), some (PyData.int a1), some (PyData.int a2), none, none, none, none, some (PyData.int r3.1), some (PyData.int r5.1), some (PyData.int x7)]) (l_w_draw_LI_I _ s8 (v10 + (1 : Int))) (fun _ => rfl) (fun _ => rfl) fun r11 => o_v (d := (PyData.int r3.1)) rfl (s_two (a := (PyData.int r11.1)) (b := (PyData.int r3.1)) rfl rfl (s_tot (d := (PyData.int (r11.1 - r3.1))) rfl rfl (s_leaf ⟨rfl, rfl⟩))))))))))))))))))))))))) fun ys9 => s_nameX (d := ((eL PyData.int) ys9.1)) (p' := [some ((eL PyData.int) ys9.2), some (PyData.int a1), some (PyData.int a2), some ((eL PyData.int) ys9.1), none, none, none, some (PyData.int r3.1), some (PyData.int r5.1), none]) (nl_1 rfl) rfl (s_c (s_asg (s_compQ (i_r1P (o_c (d := (PyData.int (a2 - (1 : Int)))) rfl (pv_sub (pv_v rfl) pv_k) (s_onO (a := (PyData.int (a2 - (1 : Int)))) rfl (s_onI (q_r1P fun l12 => c_mapSY (φ := PyData.int) (ψ := PyData.int) (w := fun (s14 : (List Int)) => [some ((eL PyData.int) s14), some (PyData.int a1), some (PyData.int a2), some ((eL PyData.int) ys9.1), none, none, none, some (PyData.int r3.1), some (PyData.int r5.1), none]) (s := ys9.2) (pe := fun s14 => [some ((eL PyData.int) s14), some (PyData.int a1), some (PyData.int a2), some ((eL PyData.int) ys9.1), none, none, none, some (PyData.int r3.1), some (PyData.int r5.1), none]) rfl (fun _ => rfl) (fun x13 s14 _ => a_nX (p' := [some ((eL PyData.int) s14), some (PyData.int a1), some (PyData.int a2), some ((eL PyData.int) ys9.1), none, none, none, some (PyData.int r3.1), some (PyData.int r5.1), some (PyData.int x13)]) rfl (q_none (s_tt (s_bin (o_e rfl (s_callP (g_c (o_v (d := ((eL PyData.int) s14)) rfl (g_c (o_e rfl (s_bin (o_e rfl (s_bin (o_c (d := (PyData.int (2 : Int))) rfl pv_k (o_v (d := (PyData.int r3.1)) rfl (s_two (a := (PyData.int (2 : Int))) (b := (PyData.int r3.1)) rfl rfl (q_mul fun v16 => o_c (d := (PyData.int (1 : Int))) rfl pv_k (s_two (a := (PyData.int v16)) (b := (PyData.int (1 : Int))) rfl rfl (s_tot (d := (PyData.int (v16 + (1 : Int)))) rfl rfl (g_0 (s_gets (ds := [((eL PyData.int) s14), (PyData.int (v16 + (1 : Int)))]) rfl (s_callX (d := fun r17 => (PyData.int r17.1)) (q := fun r17 => [some ((eL PyData.int) r17.2), some (PyData.int a1), some (PyData.int a2), some ((eL PyData.int) ys9.1), none, none, none, some (PyData.int r3.1), some (PyData.int r5.1), some (PyData.int x13)]) (l_w_draw_LI_I _ s14 (v16 + (1 : Int))) (fun _ => rfl) (fun _ => rfl) fun r17 => o_v (d := (PyData.int r3.1)) rfl (s_two (a := (PyData.int r17.1)) (b := (PyData.int r3.1)) rfl rfl (s_tot (d := (PyData.int (r17.1 - r3.1))) rfl rfl (s_leaf ⟨rfl, rfl⟩))))))))))))))))))))))))) fun ys15 => s_nameX (d := ((eL PyData.int) ys15.1)) (p' := [some ((eL PyData.int) ys15.2), some (PyData.int a1), some (PyData.int a2), some ((eL PyData.int) ys9.1), some ((eL PyData.int) ys15.1), none, none, some (PyData.int r3.1), some (PyData.int r5.1), none]) (nl_1 rfl) rfl (s_c (s_asg (s_pv (d := ((eL eD) ([] : (List D)))) (pv_lst (ds := []) trivial) (s_nameX (d := ((eL eD) ([] : (List D)))) (p' := [some ((eL PyData.int) ys15.2), some (PyData.int a1), some (PyData.int a2), some ((eL PyData.int) ys9.1), some ((eL PyData.int) ys15.1), some ((eL eD) ([] : (List D))), none, some (PyData.int r3.1), some (PyData.int r5.1), none]) (nl_1 rfl) rfl (s_c (s_forP (i_r1P (o_c (d := (PyData.int (a1 - (1 : Int)))) rfl (pv_sub (pv_v rfl) pv_k) (s_onO (a := (PyData.int (a1 - (1 : Int)))) rfl (s_onI (q_r1P fun l18 => w_forY (φ := PyData.int) (w := fun (s19 : ((List Int) × (List (List Int)))) (g21 : Option D) => [some ((eL PyData.int) s19.1), some (PyData.int a1), some (PyData.int a2), some ((eL PyData.int) ys9.1), some ((eL PyData.int) ys15.1), some ((eL (eL PyData.int)) s19.2), g21, some (PyData.int r3.1), some (PyData.int r5.1), none]) (s := (ys15.2, ([] : (List (List Int))))) (none) rfl (fun x20 s19 g21 _ => a_nX (p' := [some ((eL PyData.int) s19.1), some (PyData.int a1), some (PyData.int a2), some ((eL PyData.int) ys9.1), some ((eL PyData.int) ys15.1), some ((eL (eL PyData.int)) s19.2), some (PyData.int x20), some (PyData.int r3.1), some (PyData.int r5.1), none]) rfl (s_c (s_ex (s_mmP (d := ((eL (eL PyData.int)) s19.2)) rfl rfl (l_c (s_compQ (i_r1P (o_c (d := (PyData.int (a2 - (1 : Int)))) rfl (pv_sub (pv_v rfl) pv_k) (s_onO (a := (PyData.int (a2 - (1 : Int)))) rfl (s_onI (q_r1P fun l22 => c_mapSY (φ := PyData.int) (ψ := PyData.int) (w := fun (s24 : (List Int)) => [some ((eL PyData.int) s24), some (PyData.int a1), some (PyData.int a2), some ((eL PyData.int) ys9.1), some ((eL PyData.int) ys15.1), some ((eL (eL PyData.int)) s19.2), some (PyData.int x20), some (PyData.int r3.1), some (PyData.int r5.1), none]) (s := s19.1) (pe := fun s24 => [some ((eL PyData.int) s24), some (PyData.int a1), some (PyData.int a2), some ((eL PyData.int) ys9.1), some ((eL PyData.int) ys15.1), some ((eL (eL PyData.int)) s19.2), some (PyData.int x20), some (PyData.int r3.1), some (PyData.int r5.1), none]) rfl (fun _ => rfl) (fun x23 s24 _ => a_nX (p' := [some ((eL PyData.int) s24), some (PyData.int a1), some (PyData.int a2), some ((eL PyData.int) ys9.1), some ((eL PyData.int) ys15.1), some ((eL (eL PyData.int)) s19.2), some (PyData.int x20), some (PyData.int r3.1), some (PyData.int r5.1), some (PyData.int x23)]) rfl (q_none (s_tt (s_ife (s_join (d := fun (v28 : (Int × (List Int))) => (PyData.int v28.1)) (q := fun v28 => [some ((eL PyData.int) v28.2), some (PyData.int a1), some (PyData.int a2), some ((eL PyData.int) ys9.1), some ((eL PyData.int) ys15.1), some ((eL (eL PyData.int)) s19.2), some (PyData.int x20), some (PyData.int r3.1), some (PyData.int r5.1), some (PyData.int x23)]) (s_te rfl (s_cmp (o_e rfl (s_callP (g_c (o_v (d := ((eL PyData.int) s24)) rfl (g_c (o_c (d := (PyData.int (3 : Int))) rfl pv_k (g_0 (s_gets (ds := [((eL PyData.int) s24), (PyData.int (3 : Int))]) rfl (s_callX (d := fun r26 => (PyData.int r26.1)) (q := fun r26 => [some ((eL PyData.int) r26.2), some (PyData.int a1), some (PyData.int a2), some ((eL PyData.int) ys9.1), some ((eL PyData.int) ys15.1), some ((eL (eL PyData.int)) s19.2), some (PyData.int x20), some (PyData.int r3.1), some (PyData.int r5.1), some (PyData.int x23)]) (l_w_draw_LI_I _ s24 (3 : Int)) (fun _ => rfl) (fun _ => rfl) fun r26 => o_c (d := (PyData.int (0 : Int))) rfl pv_k (s_two (a := (PyData.int r26.1)) (b := (PyData.int (0 : Int))) rfl rfl (s_cmpT (t := (decide ((0 : Int) < r26.1))) rfl (s_onB (s_ifb (s_callP (g_c (o_v (d := ((eL PyData.int) r26.2)) rfl (g_c (o_c (d := (PyData.int (r5.1 + (1 : Int)))) rfl (pv_add (pv_v rfl) pv_k) (g_0 (s_gets (ds := [((eL PyData.int) r26.2), (PyData.int (r5.1 + (1 : Int)))]) rfl (s_callX (d := fun r27 => (PyData.int r27.1)) (q := fun r27 => [some ((eL PyData.int) r27.2), some (PyData.int a1), some (PyData.int a2), some ((eL PyData.int) ys9.1), some ((eL PyData.int) ys15.1), some ((eL (eL PyData.int)) s19.2), some (PyData.int x20), some (PyData.int r3.1), some (PyData.int r5.1), some (PyData.int x23)]) (l_w_draw_LI_I _ r26.2 (r5.1 + (1 : Int))) (fun _ => rfl) (fun _ => rfl) fun r27 => s_leaf rfl)))))))) (s_pv (d := (PyData.int (0 : Int))) pv_k (s_leaf rfl))))))))))))))))) fun v28 => s_leaf ⟨rfl, rfl⟩))))) fun ys25 => l_0 (s_onO (a := ((eL (eL PyData.int)) s19.2)) rfl (q_appX (f := (eL PyData.int)) (a := s19.2) (x := ys25.1) (q := fun v29 => [some ((eL PyData.int) ys25.2), some (PyData.int a1), some (PyData.int a2), some ((eL PyData.int) ys9.1), some ((eL PyData.int) ys15.1), some ((eL (eL PyData.int)) v29), some (PyData.int x20), some (PyData.int r3.1), some (PyData.int r5.1), none]) (fun _ => rfl) fun v29 => s_0 (s_nx ⟨.inl rfl, (some (PyData.int x20)), rfl⟩)))))))))))))) fun s30 g31 => s_c (s_ret (s_callP (g_c (o_v (d := ((eL PyData.int) ys9.1)) rfl (g_c (o_v (d := ((eL PyData.int) ys15.1)) rfl (g_c (o_v (d := ((eL (eL PyData.int)) s30.2)) rfl (g_0 (s_gets (ds := [((eL PyData.int) ys9.1), ((eL PyData.int) ys15.1), ((eL (eL PyData.int)) s30.2)]) rfl (s_callX (d := fun r32 => ((eT (eT PyData.int)) r32)) (q := fun r32 => [some ((eL PyData.int) s30.1), some (PyData.int a1), some (PyData.int a2), some ((eL PyData.int) ys9.1), some ((eL PyData.int) ys15.1), some ((eL (eL PyData.int)) s30.2), g31, some (PyData.int r3.1), some (PyData.int r5.1), none]) (l_w_built_LI_LI_LLI _ ys9.1 ys15.1 s30.2) (fun _ => rfl) (fun _ => rfl) fun r32 => s_leaf rfl))))))))))))))))))))))))))))))))))))))))))))))))))))))))))))))))))))))))))))))))))))))))))))))))
abbrev F_w_lifted_LI_TTI (b : ((List (List Int)) × (List Int))) : D × PEnv := (((eT (eT PyData.int)) b.1), [some ((eL PyData.int) b.2), none])
theorem l_w_lifted_LI_TTI (m : Nat) (a0 : (List Int)) (a1 : (List (List Int))) : Sim (cp (m + 5) 27 [((eL PyData.int) a0), ((eT (eT PyData.int)) a1)]) (t_w_lifted_LI_TTI a0 a1) fun b r => r = F_w_lifted_LI_TTI b := by
  refine fn_ok (cp := cp (m + 4)) (g := sg 27) (fd := ⟨2, 9, ir__law_lifted⟩) (F := F_w_lifted_LI_TTI) rfl ?_
  show Sim (pSs (cp (m + 4)) sg [1, 2, 5, 6, 7, 8] fuelT ir__law_lifted [some ((eL PyData.int) a0), some ((eT (eT PyData.int)) a1), none, none, none, none, none, none, none] nxK) (t_w_lifted_LI_TTI a0 a1) fun b r => endOf [.le, .sv] r = some (F_w_lifted_LI_TTI b)
  unfold ir__law_lifted t_w_lifted_LI_TTI
  exact s_c (s_asg (s_callP (g_c (o_v (d := ((eL PyData.int) a0)) rfl (g_c (o_e rfl (s_lst (l_c (s_pv (d := (PyData.int (1 : Int))) pv_k (l_c (s_pv (d := (PyData.int (10 : Int))) pv_k (l_c (s_bin (o_c (d := (PyData.int (10 : Int))) rfl pv_k (o_c (d := (PyData.int (20 : Int))) rfl pv_k (s_two (a := (PyData.int (10 : Int))) (b := (PyData.int (20 : Int))) rfl rfl (q_pow fun v1 => l_0 (g_0 (s_gets (ds := [((eL PyData.int) a0), ((eL PyData.int) [(1 : Int), (10 : Int), v1])]) rfl (s_callX (d := fun r2 => (PyData.int r2.1)) (q := fun r2 => [some ((eL PyData.int) r2.2), some ((eT (eT PyData.int)) a1), none, none, none, none, none, none, none]) (l_w_one_LI_LI _ a0 [(1 : Int), (10 : Int), v1]) (fun _ => rfl) (fun _ => rfl) fun r2 => s_nameX (d := (PyData.int r2.1)) (p' := [some ((eL PyData.int) r2.2), some ((eT (eT PyData.int)) a1), some (PyData.int r2.1), none, none, none, none, none, none]) (nl_2 rfl) rfl (s_c (s_par (l_c (s_compQ (i_over (s_pv (d := ((eT (eT PyData.int)) a1)) (pv_v rfl) (it_T (f := (eT PyData.int)) (xs := a1) (c_mapSY (φ := (eT PyData.int)) (ψ := PyData.int) (w := fun (s4 : (List Int)) => [some ((eL PyData.int) s4), some ((eT (eT PyData.int)) a1), some (PyData.int r2.1), none, none, none, none, none, none]) (s := r2.2) (pe := fun s4 => [some ((eL PyData.int) s4), some ((eT (eT PyData.int)) a1), some (PyData.int r2.1), none, none, none, none, none, none]) rfl (fun _ => rfl) (fun x3 s4 _ => a_nX (p' := [some ((eL PyData.int) s4), some ((eT (eT PyData.int)) a1), some (PyData.int r2.1), none, none, some ((eT PyData.int) x3), none, none, none]) rfl (q_none (s_tt (s_callP (g_c (o_v (d := ((eL PyData.int) s4)) rfl (g_c (o_c (d := (PyData.int (r2.1 + (1 : Int)))) rfl (pv_add (pv_v rfl) pv_k) (g_0 (s_gets (ds := [((eL PyData.int) s4), (PyData.int (r2.1 + (1 : Int)))]) rfl (s_callX (d := fun r6 => (PyData.int r6.1)) (q := fun r6 => [some ((eL PyData.int) r6.2), some ((eT (eT PyData.int)) a1), some (PyData.int r2.1), none, none, some ((eT PyData.int) x3), none, none, none]) (l_w_draw_LI_I _ s4 (r2.1 + (1 : Int))) (fun _ => rfl) (fun _ => rfl) fun r6 => s_leaf ⟨rfl, rfl⟩))))))))))) fun ys5 => l_c (s_compQ (i_over (s_idx (o_v (d := ((eT (eT PyData.int)) a1)) rfl (o_c (d := (PyData.int (0 : Int))) rfl pv_k (s_two (a := ((eT (eT PyData.int)) a1)) (b := (PyData.int (0 : Int))) rfl rfl (q_idxT (f := (eT PyData.int)) (a := a1) fun v7 => it_T (f := PyData.int) (xs := v7) (c_mapSY (φ := PyData.int) (ψ := PyData.int) (w := fun (s9 : (List Int)) => [some ((eL PyData.int) s9), some ((eT (eT PyData.int)) a1), some (PyData.int r2.1), none, none, none, none, none, none]) (s := ys5.2) (pe := fun s9 => [some ((eL PyData.int) s9), some ((eT (eT PyData.int)) a1), some (PyData.int r2.1), none, none, none, none, none, none]) rfl (fun _ => rfl) (fun x8 s9 _ => a_nX (p' := [some ((eL PyData.int) s9), some ((eT (eT PyData.int)) a1), some (PyData.int r2.1), none, none, none, some (PyData.int x8), none, none]) rfl (q_none (s_tt (s_callP (g_c (o_v (d := ((eL PyData.int) s9)) rfl (g_c (o_c (d := (PyData.int (r2.1 + (1 : Int)))) rfl (pv_add (pv_v rfl) pv_k) (g_0 (s_gets (ds := [((eL PyData.int) s9), (PyData.int (r2.1 + (1 : Int)))]) rfl (s_callX (d := fun r11 => (PyData.int r11.1)) (q := fun r11 => [some ((eL PyData.int) r11.2), some ((eT (eT PyData.int)) a1), some (PyData.int r2.1), none, none, none, some (PyData.int x8), none, none]) (l_w_draw_LI_I _ s9 (r2.1 + (1 : Int))) (fun _ => rfl) (fun _ => rfl) fun r11 => s_leaf ⟨rfl, rfl⟩))))))))))) fun ys10 => l_0 (s_pos (by simp) (s_pos (nls_c (nl_1 rfl) (nls_c (nl_1 rfl) rfl)) (a_c (a_nX (p' := [some ((eL PyData.int) ys10.2), some ((eT (eT PyData.int)) a1), some (PyData.int r2.1), some ((eL PyData.int) ys5.1), none, none, none, none, none]) rfl (a_c (a_nX (p' := [some ((eL PyData.int) ys10.2), some ((eT (eT PyData.int)) a1), some (PyData.int r2.1), some ((eL PyData.int) ys5.1), some ((eL PyData.int) ys10.1), none, none, none, none]) rfl (a_0 (s_c (s_ret (s_blt (g_c (o_e rfl (s_compQ (i_zip (s_pv (d := ((eT (eT PyData.int)) a1)) (pv_v rfl) (s_pv (d := ((eL PyData.int) ys5.1)) (pv_v rfl) (it_T (f := (eT PyData.int)) (xs := a1) (it_L (f := PyData.int) (xs := ys5.1) (zp_mP (c_mapY (φ := (e2 (eT PyData.int) PyData.int)) (ψ := (eT PyData.int)) (p0 := [some ((eL PyData.int) ys10.2), some ((eT (eT PyData.int)) a1), some (PyData.int r2.1), some ((eL PyData.int) ys5.1), some ((eL PyData.int) ys10.1), none, none, none, none]) (pe := [some ((eL PyData.int) ys10.2), some ((eT (eT PyData.int)) a1), some (PyData.int r2.1), some ((eL PyData.int) ys5.1), some ((eL PyData.int) ys10.1), none, none, none, none]) rfl rfl (fun x12 _ => a_t (ds := [((eT PyData.int) x12.1), (PyData.int x12.2)]) rfl (a_c (a_nX (p' := [some ((eL PyData.int) ys10.2), some ((eT (eT PyData.int)) a1), some (PyData.int r2.1), some ((eL PyData.int) ys5.1), some ((eL PyData.int) ys10.1), some ((eT PyData.int) x12.1), none, none, none]) rfl (a_c (a_nX (p' := [some ((eL PyData.int) ys10.2), some ((eT (eT PyData.int)) a1), some (PyData.int r2.1), some ((eL PyData.int) ys5.1), some ((eL PyData.int) ys10.1), some ((eT PyData.int) x12.1), none, some (PyData.int x12.2), none]) rfl (a_0 (q_none (s_tt (s_blt (g_c (o_e rfl (s_compQ (i_zip (s_pv (d := ((eT PyData.int) x12.1)) (pv_v rfl) (s_pv (d := ((eL PyData.int) ys10.1)) (pv_v rfl) (it_T (f := PyData.int) (xs := x12.1) (it_L (f := PyData.int) (xs := ys10.1) (zp_mP (c_mapY (φ := (e2 PyData.int PyData.int)) (ψ := PyData.int) (p0 := [some ((eL PyData.int) ys10.2), some ((eT (eT PyData.int)) a1), some (PyData.int r2.1), some ((eL PyData.int) ys5.1), some ((eL PyData.int) ys10.1), some ((eT PyData.int) x12.1), none, some (PyData.int x12.2), none]) (pe := [some ((eL PyData.int) ys10.2), some ((eT (eT PyData.int)) a1), some (PyData.int r2.1), some ((eL PyData.int) ys5.1), some ((eL PyData.int) ys10.1), some ((eT PyData.int) x12.1), none, some (PyData.int x12.2), none]) rfl rfl (fun x15 _ => a_t (ds := [(PyData.int x15.1), (PyData.int x15.2)]) rfl (a_c (a_nX (p' := [some ((eL PyData.int) ys10.2), some ((eT (eT PyData.int)) a1), some (PyData.int r2.1), some ((eL PyData.int) ys5.1), some ((eL PyData.int) ys10.1), some ((eT PyData.int) x12.1), some (PyData.int x15.1), some (PyData.int x12.2), none]) rfl (a_c (a_nX (p' := [some ((eL PyData.int) ys10.2), some ((eT (eT PyData.int)) a1), some (PyData.int r2.1), some ((eL PyData.int) ys5.1), some ((eL PyData.int) ys10.1), some ((eT PyData.int) x12.1), some (PyData.int x15.1), some (PyData.int x12.2), some (PyData.int x15.2)]) rfl (a_0 (q_none (s_tt (s_pv (d := (PyData.int ((x15.1 + x12.2) + x15.2))) (pv_add (pv_add (pv_v rfl) (pv_v rfl)) (pv_v rfl)) (s_leaf ⟨rfl, rfl⟩)))))))))) fun ys17 => g_0 (s_gets (ds := [((eL PyData.int) ys17)]) rfl (s_tot (d := ((eT PyData.int) ys17)) rfl rfl (s_leaf ⟨rfl, rfl⟩)))))))))))))))))))))) fun ys14 => g_0 (s_gets (ds := [((eL (eT PyData.int)) ys14)]) rfl (s_tot (d := ((eT (eT PyData.int)) ys14)) rfl rfl (s_leaf rfl)))))))))))))))))))))))))))))))))))))))))))))))))))))))))))
abbrev F_is_row_of_TTI_I_I (b : Bool) : D × PEnv := ((PyData.bool b), [none, none, none])
theorem l_is_row_of_TTI_I_I (m : Nat) (a0 : (List (List Int))) (a1 : Int) (a2 : Int) : Sim (cp (m + 1) 1 [((eT (eT PyData.int)) a0), (PyData.int a1), (PyData.int a2)]) (t_is_row_of_TTI_I_I a0 a1 a2) fun b r => r = F_is_row_of_TTI_I_I b := by
  refine fn_ok (cp := cp m) (g := sg 1) (fd := ⟨3, 3, ir_is_row_of⟩) (F := F_is_row_of_TTI_I_I) rfl ?_
  show Sim (pSs (cp m) sg [0, 1, 2] fuelT ir_is_row_of [some ((eT (eT PyData.int)) a0), some (PyData.int a1), some (PyData.int a2)] nxK) (t_is_row_of_TTI_I_I a0 a1 a2) fun b r => endOf [.sv, .sv, .sv] r = some (F_is_row_of_TTI_I_I b)
  unfold ir_is_row_of t_is_row_of_TTI_I_I
  exact s_c (s_ret (s_pv (d := (PyData.bool ((isD ((eT (eT PyData.int)) a0) .tuple) && ((decide (a1 ≤ (a0.length : Int))) && (decide ((a0.length : Int) ≤ a2)))))) (pv_and (pv_isi (pv_v rfl)) (pv_chain (pv_v rfl) (pv_blt (ds := [((eT (eT PyData.int)) a0)]) ⟨(pv_v rfl), trivial⟩ (len_T _) rfl) (pv_v rfl) rfl rfl)) (s_leaf rfl)))
abbrev F_is_row_of_TI_I_I (b : Bool) : D × PEnv := ((PyData.bool b), [none, none, none])
theorem l_is_row_of_TI_I_I (m : Nat) (a0 : (List Int)) (a1 : Int) (a2 : Int) : Sim (cp (m + 1) 1 [((eT PyData.int) a0), (PyData.int a1), (PyData.int a2)]) (t_is_row_of_TI_I_I a0 a1 a2) fun b r => r = F_is_row_of_TI_I_I b := by
  refine fn_ok (cp := cp m) (g := sg 1) (fd := ⟨3, 3, ir_is_row_of⟩) (F := F_is_row_of_TI_I_I) rfl ?_
  show Sim (pSs (cp m) sg [0, 1, 2] fuelT ir_is_row_of [some ((eT PyData.int) a0), some (PyData.int a1), some (PyData.int a2)] nxK) (t_is_row_of_TI_I_I a0 a1 a2) fun b r => endOf [.sv, .sv, .sv] r = some (F_is_row_of_TI_I_I b)
  unfold ir_is_row_of t_is_row_of_TI_I_I
  exact s_c (s_ret (s_pv (d := (PyData.bool ((isD ((eT PyData.int) a0) .tuple) && ((decide (a1 ≤ (a0.length : Int))) && (decide ((a0.length : Int) ≤ a2)))))) (pv_and (pv_isi (pv_v rfl)) (pv_chain (pv_v rfl) (pv_blt (ds := [((eT PyData.int) a0)]) ⟨(pv_v rfl), trivial⟩ (len_T _) rfl) (pv_v rfl) rfl rfl)) (s_leaf rfl)))
abbrev F_is_integer_I (b : Bool) : D × PEnv := ((PyData.bool b), [none])
theorem l_is_integer_I (m : Nat) (a0 : Int) : Sim (cp (m + 1) 0 [(PyData.int a0)]) (t_is_integer_I a0) fun b r => r = F_is_integer_I b := by
  refine fn_ok (cp := cp m) (g := sg 0) (fd := ⟨1, 1, ir_is_integer⟩) (F := F_is_integer_I) rfl ?_
  show Sim (pSs (cp m) sg [0] fuelT ir_is_integer [some (PyData.int a0)] nxK) (t_is_integer_I a0) fun b r => endOf [.sv] r = some (F_is_integer_I b)
  unfold ir_is_integer t_is_integer_I
  exact s_c (s_ret (s_pv (d := (PyData.bool ((isD (PyData.int a0) .int) && (!(isD (PyData.int a0) .bool))))) (pv_and (pv_isi (pv_v rfl)) (pv_not (pv_isi (pv_v rfl)))) (s_leaf rfl)))
abbrev F_are_integers_TI_I (b : Bool) : D × PEnv := ((PyData.bool b), [none, none])
theorem l_are_integers_TI_I (m : Nat) (a0 : (List Int)) (a1 : Int) : Sim (cp (m + 3) 2 [((eT PyData.int) a0), (PyData.int a1)]) (t_are_integers_TI_I a0 a1) fun b r => r = F_are_integers_TI_I b := by
  refine fn_ok (cp := cp (m + 2)) (g := sg 2) (fd := ⟨2, 3, ir_are_integers⟩) (F := F_are_integers_TI_I) rfl ?_
  show Sim (pSs (cp (m + 2)) sg [0, 1, 2] fuelT ir_are_integers [some ((eT PyData.int) a0), some (PyData.int a1), none] nxK) (t_are_integers_TI_I a0 a1) fun b r => endOf [.sv, .sv] r = some (F_are_integers_TI_I b)
  unfold ir_are_integers t_are_integers_TI_I
  exact s_c (s_ret (s_and (s_join (d := fun (v6 : Bool) => (PyData.bool v6)) (q := fun v6 => [some ((eT PyData.int) a0), some (PyData.int a1), none]) (s_callP (g_c (o_v (d := ((eT PyData.int) a0)) rfl (g_c (o_v (d := (PyData.int a1)) rfl (g_c (o_v (d := (PyData.int a1)) rfl (g_0 (s_gets (ds := [((eT PyData.int) a0), (PyData.int a1), (PyData.int a1)]) rfl (s_callX (d := fun r1 => (PyData.bool r1)) (q := fun r1 => [some ((eT PyData.int) a0), some (PyData.int a1), none]) (l_is_row_of_TI_I_I _ a0 a1 a1) (fun _ => rfl) (fun _ => rfl) fun r1 => s_onB (s_ifb (s_blt (g_c (o_e rfl (s_compQ (i_over (s_pv (d := ((eT PyData.int) a0)) (pv_v rfl) (it_T (f := PyData.int) (xs := a0) (c_mapY (φ := PyData.int) (ψ := PyData.bool) (p0 := [some ((eT PyData.int) a0), some (PyData.int a1), none]) (pe := [some ((eT PyData.int) a0), some (PyData.int a1), none]) rfl rfl (fun x2 _ => a_nX (p' := [some ((eT PyData.int) a0), some (PyData.int a1), some (PyData.int x2)]) rfl (q_none (s_tt (s_callP (g_c (o_v (d := (PyData.int x2)) rfl (g_0 (s_gets (ds := [(PyData.int x2)]) rfl (s_callX (d := fun r5 => (PyData.bool r5)) (q := fun r5 => [some ((eT PyData.int) a0), some (PyData.int a1), some (PyData.int x2)]) (l_is_integer_I _ x2) (fun _ => rfl) (fun _ => rfl) fun r5 => s_leaf ⟨rfl, rfl⟩))))))))) fun ys4 => g_0 (s_gets (ds := [((eL PyData.bool) ys4)]) rfl (s_tot (d := (PyData.bool (ys4.all id))) (all_L _) rfl (s_leaf rfl))))))))))) (s_leaf rfl)))))))))))) fun v6 => s_leaf rfl)))
abbrev F_is_table_form_TTI (b : Bool) : D × PEnv := ((PyData.bool b), [none])
theorem l_is_table_form_TTI (m : Nat) (a0 : (List (List Int))) : Sim (cp (m + 5) 14 [((eT (eT PyData.int)) a0)]) (t_is_table_form_TTI a0) fun b r => r = F_is_table_form_TTI b := by
  refine fn_ok (cp := cp (m + 4)) (g := sg 14) (fd := ⟨1, 2, ir_is_table_form⟩) (F := F_is_table_form_TTI) rfl ?_
  show Sim (pSs (cp (m + 4)) sg [0, 1] fuelT ir_is_table_form [some ((eT (eT PyData.int)) a0), none] nxK) (t_is_table_form_TTI a0) fun b r => endOf [.sv] r = some (F_is_table_form_TTI b)
  unfold ir_is_table_form t_is_table_form_TTI
  exact s_c (s_ifS (s_te rfl (s_or (s_join (d := fun (v4 : Bool) => (PyData.bool v4)) (q := fun v4 => [some ((eT (eT PyData.int)) a0), none]) (s_not (s_callP (g_c (o_v (d := ((eT (eT PyData.int)) a0)) rfl (g_c (o_c (d := (PyData.int (1 : Int))) rfl pv_k (g_c (o_c (d := (PyData.int (8 : Int))) rfl pv_g (g_0 (s_gets (ds := [((eT (eT PyData.int)) a0), (PyData.int (1 : Int)), (PyData.int (8 : Int))]) rfl (s_callX (d := fun r1 => (PyData.bool r1)) (q := fun r1 => [some ((eT (eT PyData.int)) a0), none]) (l_is_row_of_TTI_I_I _ a0 (1 : Int) (8 : Int)) (fun _ => rfl) (fun _ => rfl) fun r1 => s_onB (s_onB (s_ifb (s_leaf rfl) (s_not (s_callP (g_c (o_e rfl (s_idx (o_v (d := ((eT (eT PyData.int)) a0)) rfl (o_c (d := (PyData.int (0 : Int))) rfl pv_k (s_two (a := ((eT (eT PyData.int)) a0)) (b := (PyData.int (0 : Int))) rfl rfl (q_idxT (f := (eT PyData.int)) (a := a0) fun v2 => g_c (o_c (d := (PyData.int (1 : Int))) rfl pv_k (g_c (o_c (d := (PyData.int (8 : Int))) rfl pv_g (g_0 (s_gets (ds := [((eT PyData.int) v2), (PyData.int (1 : Int)), (PyData.int (8 : Int))]) rfl (s_callX (d := fun r3 => (PyData.bool r3)) (q := fun r3 => [some ((eT (eT PyData.int)) a0), none]) (l_is_row_of_TI_I_I _ v2 (1 : Int) (8 : Int)) (fun _ => rfl) (fun _ => rfl) fun r3 => s_onB (s_leaf rfl))))))))))))))))))))))))))))) fun v4 => s_onB (s_ifb (s_c (s_ret (s_pv (d := (PyData.bool false)) pv_k (s_leaf rfl)))) (s_0 (s_c (s_ret (s_blt (g_c (o_e rfl (s_compQ (i_over (s_pv (d := ((eT (eT PyData.int)) a0)) (pv_v rfl) (it_T (f := (eT PyData.int)) (xs := a0) (c_mapY (φ := (eT PyData.int)) (ψ := PyData.bool) (p0 := [some ((eT (eT PyData.int)) a0), none]) (pe := [some ((eT (eT PyData.int)) a0), none]) rfl rfl (fun x5 _ => a_nX (p' := [some ((eT (eT PyData.int)) a0), some ((eT PyData.int) x5)]) rfl (q_none (s_tt (s_callP (g_c (o_v (d := ((eT PyData.int) x5)) rfl (g_c (o_e rfl (s_blt (g_c (o_e rfl (s_idx (o_v (d := ((eT (eT PyData.int)) a0)) rfl (o_c (d := (PyData.int (0 : Int))) rfl pv_k (s_two (a := ((eT (eT PyData.int)) a0)) (b := (PyData.int (0 : Int))) rfl rfl (q_idxT (f := (eT PyData.int)) (a := a0) fun v8 => g_0 (s_gets (ds := [((eT PyData.int) v8)]) rfl (s_tot (d := (PyData.int (v8.length : Int))) (len_T _) rfl (g_0 (s_gets (ds := [((eT PyData.int) x5), (PyData.int (v8.length : Int))]) rfl (s_callX (d := fun r9 => (PyData.bool r9)) (q := fun r9 => [some ((eT (eT PyData.int)) a0), some ((eT PyData.int) x5)]) (l_are_integers_TI_I _ x5 (v8.length : Int)) (fun _ => rfl) (fun _ => rfl) fun r9 => s_leaf ⟨rfl, rfl⟩))))))))))))))))))))) fun ys7 => g_0 (s_gets (ds := [((eL PyData.bool) ys7)]) rfl (s_tot (d := (PyData.bool (ys7.all id))) (all_L _) rfl (s_leaf rfl)))))))))))))))))))
abbrev F_need_table_TTI (b : Unit) : D × PEnv := (PyData.none, [none])
theorem l_need_table_TTI (m : Nat) (a0 : (List (List Int))) : Sim (cp (m + 7) 15 [((eT (eT PyData.int)) a0)]) (t_need_table_TTI a0) fun b r => r = F_need_table_TTI b := by
  refine fn_ok (cp := cp (m + 6)) (g := sg 15) (fd := ⟨1, 1, ir_need_table⟩) (F := F_need_table_TTI) rfl ?_
  show Sim (pSs (cp (m + 6)) sg [0] fuelT ir_need_table [some ((eT (eT PyData.int)) a0)] nxK) (t_need_table_TTI a0) fun b r => endOf [.sv] r = some (F_need_table_TTI b)
  unfold ir_need_table t_need_table_TTI
  exact s_c (s_ifS (s_te rfl (s_not (s_callP (g_c (o_v (d := ((eT (eT PyData.int)) a0)) rfl (g_0 (s_gets (ds := [((eT (eT PyData.int)) a0)]) rfl (s_callX (d := fun r1 => (PyData.bool r1)) (q := fun r1 => [some ((eT (eT PyData.int)) a0)]) (l_is_table_form_TTI _ a0) (fun _ => rfl) (fun _ => rfl) fun r1 => s_onB (s_onB (s_ifb (s_c s_raise) (s_0 (s_0 (s_nx rfl))))))))))))))
abbrev F_need_two_TTI_TTI (b : Unit) : D × PEnv := (PyData.none, [none, none])
theorem l_need_two_TTI_TTI (m : Nat) (a0 : (List (List Int))) (a1 : (List (List Int))) : Sim (cp (m + 9) 16 [((eT (eT PyData.int)) a0), ((eT (eT PyData.int)) a1)]) (t_need_two_TTI_TTI a0 a1) fun b r => r = F_need_two_TTI_TTI b := by
  refine fn_ok (cp := cp (m + 8)) (g := sg 16) (fd := ⟨2, 2, ir_need_two⟩) (F := F_need_two_TTI_TTI) rfl ?_
  show Sim (pSs (cp (m + 8)) sg [0, 1] fuelT ir_need_two [some ((eT (eT PyData.int)) a0), some ((eT (eT PyData.int)) a1)] nxK) (t_need_two_TTI_TTI a0 a1) fun b r => endOf [.sv, .sv] r = some (F_need_two_TTI_TTI b)
  unfold ir_need_two t_need_two_TTI_TTI
  exact s_c (s_ex (s_callP (g_c (o_v (d := ((eT (eT PyData.int)) a0)) rfl (g_0 (s_gets (ds := [((eT (eT PyData.int)) a0)]) rfl (s_callX (d := fun r1 => PyData.none) (q := fun r1 => [some ((eT (eT PyData.int)) a0), some ((eT (eT PyData.int)) a1)]) (l_need_table_TTI _ a0) (fun _ => rfl) (fun _ => rfl) fun r1 => s_c (s_ex (s_callP (g_c (o_v (d := ((eT (eT PyData.int)) a1)) rfl (g_0 (s_gets (ds := [((eT (eT PyData.int)) a1)]) rfl (s_callX (d := fun r2 => PyData.none) (q := fun r2 => [some ((eT (eT PyData.int)) a0), some ((eT (eT PyData.int)) a1)]) (l_need_table_TTI _ a1) (fun _ => rfl) (fun _ => rfl) fun r2 => s_c (s_ifS (s_te rfl (s_cmp (o_e rfl (s_blt (g_c (o_e rfl (s_idx (o_v (d := ((eT (eT PyData.int)) a0)) rfl (o_c (d := (PyData.int (0 : Int))) rfl pv_k (s_two (a := ((eT (eT PyData.int)) a0)) (b := (PyData.int (0 : Int))) rfl rfl (q_idxT (f := (eT PyData.int)) (a := a0) fun v3 => g_0 (s_gets (ds := [((eT PyData.int) v3)]) rfl (s_tot (d := (PyData.int (v3.length : Int))) (len_T _) rfl (o_c (d := (PyData.int (a1.length : Int))) rfl (pv_blt (ds := [((eT (eT PyData.int)) a1)]) ⟨(pv_v rfl), trivial⟩ (len_T _) rfl) (s_two (a := (PyData.int (v3.length : Int))) (b := (PyData.int (a1.length : Int))) rfl rfl (s_cmpT (t := (!decide ((v3.length : Int) = (a1.length : Int)))) (neI _ _) (s_onB (s_ifb (s_c s_raise) (s_0 (s_0 (s_nx rfl))))))))))))))))))))))))))))))))))))
abbrev F_columns_of_TTI (b : (List (List Int))) : D × PEnv := (((eL (eT PyData.int)) b), [none])
theorem l_columns_of_TTI (m : Nat) (a0 : (List (List Int))) : Sim (cp (m + 1) 3 [((eT (eT PyData.int)) a0)]) (t_columns_of_TTI a0) fun b r => r = F_columns_of_TTI b := by
  refine fn_ok (cp := cp m) (g := sg 3) (fd := ⟨1, 3, ir_columns_of⟩) (F := F_columns_of_TTI) rfl ?_
  show Sim (pSs (cp m) sg [0, 1, 2] fuelT ir_columns_of [some ((eT (eT PyData.int)) a0), none, none] nxK) (t_columns_of_TTI a0) fun b r => endOf [.sv] r = some (F_columns_of_TTI b)
  unfold ir_columns_of t_columns_of_TTI
  exact s_c (s_ret (s_compQ (i_r1P (o_e rfl (s_blt (g_c (o_e rfl (s_idx (o_v (d := ((eT (eT PyData.int)) a0)) rfl (o_c (d := (PyData.int (0 : Int))) rfl pv_k (s_two (a := ((eT (eT PyData.int)) a0)) (b := (PyData.int (0 : Int))) rfl rfl (q_idxT (f := (eT PyData.int)) (a := a0) fun v1 => g_0 (s_gets (ds := [((eT PyData.int) v1)]) rfl (s_tot (d := (PyData.int (v1.length : Int))) (len_T _) rfl (s_onO (a := (PyData.int (v1.length : Int))) rfl (s_onI (q_r1P fun l2 => c_mapY (φ := PyData.int) (ψ := (eT PyData.int)) (p0 := [some ((eT (eT PyData.int)) a0), none, none]) (pe := [some ((eT (eT PyData.int)) a0), none, none]) rfl rfl (fun x3 _ => a_nX (p' := [some ((eT (eT PyData.int)) a0), some (PyData.int x3), none]) rfl (q_none (s_tt (s_blt (g_c (o_e rfl (s_compQ (i_over (s_pv (d := ((eT (eT PyData.int)) a0)) (pv_v rfl) (it_T (f := (eT PyData.int)) (xs := a0) (c_mapY (φ := (eT PyData.int)) (ψ := PyData.int) (p0 := [some ((eT (eT PyData.int)) a0), some (PyData.int x3), none]) (pe := [some ((eT (eT PyData.int)) a0), some (PyData.int x3), none]) rfl rfl (fun x6 _ => a_nX (p' := [some ((eT (eT PyData.int)) a0), some (PyData.int x3), some ((eT PyData.int) x6)]) rfl (q_none (s_tt (s_idx (o_v (d := ((eT PyData.int) x6)) rfl (o_v (d := (PyData.int x3)) rfl (s_two (a := ((eT PyData.int) x6)) (b := (PyData.int x3)) rfl rfl (q_idxT (f := PyData.int) (a := x6) fun v9 => s_leaf ⟨rfl, rfl⟩)))))))) fun ys8 => g_0 (s_gets (ds := [((eL PyData.int) ys8)]) rfl (s_tot (d := ((eT PyData.int) ys8)) rfl rfl (s_leaf ⟨rfl, rfl⟩)))))))))))))) fun ys5 => s_leaf rfl)))))))))))))))))
abbrev F_sums_by_TI_TI (b : (List Int)) : D × PEnv := (((eL PyData.int) b), [none, none])
theorem l_sums_by_TI_TI (m : Nat) (a0 : (List Int)) (a1 : (List Int)) : Sim (cp (m + 1) 4 [((eT PyData.int) a0), ((eT PyData.int) a1)]) (t_sums_by_TI_TI a0 a1) fun b r => r = F_sums_by_TI_TI b := by
  refine fn_ok (cp := cp m) (g := sg 4) (fd := ⟨2, 4, ir_sums_by⟩) (F := F_sums_by_TI_TI) rfl ?_
  show Sim (pSs (cp m) sg [0, 1, 2, 3] fuelT ir_sums_by [some ((eT PyData.int) a0), some ((eT PyData.int) a1), none, none] nxK) (t_sums_by_TI_TI a0 a1) fun b r => endOf [.sv, .sv] r = some (F_sums_by_TI_TI b)
  unfold ir_sums_by t_sums_by_TI_TI
  exact s_c (s_ret (s_compQ (i_zip (s_pv (d := ((eT PyData.int) a0)) (pv_v rfl) (s_pv (d := ((eT PyData.int) a1)) (pv_v rfl) (it_T (f := PyData.int) (xs := a0) (it_T (f := PyData.int) (xs := a1) (zp_mP (c_mapY (φ := (e2 PyData.int PyData.int)) (ψ := PyData.int) (p0 := [some ((eT PyData.int) a0), some ((eT PyData.int) a1), none, none]) (pe := [some ((eT PyData.int) a0), some ((eT PyData.int) a1), none, none]) rfl rfl (fun x1 _ => a_t (ds := [(PyData.int x1.1), (PyData.int x1.2)]) rfl (a_c (a_nX (p' := [some ((eT PyData.int) a0), some ((eT PyData.int) a1), some (PyData.int x1.1), none]) rfl (a_c (a_nX (p' := [some ((eT PyData.int) a0), some ((eT PyData.int) a1), some (PyData.int x1.1), some (PyData.int x1.2)]) rfl (a_0 (q_none (s_tt (s_pv (d := (PyData.int (x1.1 + x1.2))) (pv_add (pv_v rfl) (pv_v rfl)) (s_leaf ⟨rfl, rfl⟩)))))))))) fun ys3 => s_leaf rfl)))))))))
abbrev F_least_sums_TTI_TTI (b : (List (List Int))) : D × PEnv := (((eT (eT PyData.int)) b), [none, none])
theorem l_least_sums_TTI_TTI (m : Nat) (a0 : (List (List Int))) (a1 : (List (List Int))) : Sim (cp (m + 3) 5 [((eT (eT PyData.int)) a0), ((eT (eT PyData.int)) a1)]) (t_least_sums_TTI_TTI a0 a1) fun b r => r = F_least_sums_TTI_TTI b := by
  refine fn_ok (cp := cp (m + 2)) (g := sg 5) (fd := ⟨2, 5, ir_least_sums⟩) (F := F_least_sums_TTI_TTI) rfl ?_
  show Sim (pSs (cp (m + 2)) sg [0, 1, 3, 4] fuelT ir_least_sums [some ((eT (eT PyData.int)) a0), some ((eT (eT PyData.int)) a1), none, none, none] nxK) (t_least_sums_TTI_TTI a0 a1) fun b r => endOf [.sv, .sv] r = some (F_least_sums_TTI_TTI b)
  unfold ir_least_sums t_least_sums_TTI_TTI
  exact s_c (s_asg (s_callP (g_c (o_v (d := ((eT (eT PyData.int)) a1)) rfl (g_0 (s_gets (ds := [((eT (eT PyData.int)) a1)]) rfl (s_callX (d := fun r1 => ((eL (eT PyData.int)) r1)) (q := fun r1 => [some ((eT (eT PyData.int)) a0), some ((eT (eT PyData.int)) a1), none, none, none]) (l_columns_of_TTI _ a1) (fun _ => rfl) (fun _ => rfl) fun r1 => s_nameX (d := ((eL (eT PyData.int)) r1)) (p' := [some ((eT (eT PyData.int)) a0), some ((eT (eT PyData.int)) a1), some ((eL (eT PyData.int)) r1), none, none]) (nl_1 rfl) rfl (s_c (s_ret (s_blt (g_c (o_e rfl (s_compQ (i_over (s_pv (d := ((eT (eT PyData.int)) a0)) (pv_v rfl) (it_T (f := (eT PyData.int)) (xs := a0) (c_mapY (φ := (eT PyData.int)) (ψ := (eT PyData.int)) (p0 := [some ((eT (eT PyData.int)) a0), some ((eT (eT PyData.int)) a1), some ((eL (eT PyData.int)) r1), none, none]) (pe := [some ((eT (eT PyData.int)) a0), some ((eT (eT PyData.int)) a1), some ((eL (eT PyData.int)) r1), none, none]) rfl rfl (fun x2 _ => a_nX (p' := [some ((eT (eT PyData.int)) a0), some ((eT (eT PyData.int)) a1), some ((eL (eT PyData.int)) r1), some ((eT PyData.int) x2), none]) rfl (q_none (s_tt (s_blt (g_c (o_e rfl (s_compQ (i_over (s_pv (d := ((eL (eT PyData.int)) r1)) (pv_v rfl) (it_L (f := (eT PyData.int)) (xs := r1) (c_mapY (φ := (eT PyData.int)) (ψ := PyData.int) (p0 := [some ((eT (eT PyData.int)) a0), some ((eT (eT PyData.int)) a1), some ((eL (eT PyData.int)) r1), some ((eT PyData.int) x2), none]) (pe := [some ((eT (eT PyData.int)) a0), some ((eT (eT PyData.int)) a1), some ((eL (eT PyData.int)) r1), some ((eT PyData.int) x2), none]) rfl rfl (fun x5 _ => a_nX (p' := [some ((eT (eT PyData.int)) a0), some ((eT (eT PyData.int)) a1), some ((eL (eT PyData.int)) r1), some ((eT PyData.int) x2), some ((eT PyData.int) x5)]) rfl (q_none (s_tt (s_blt (g_c (o_e rfl (s_callP (g_c (o_v (d := ((eT PyData.int) x2)) rfl (g_c (o_v (d := ((eT PyData.int) x5)) rfl (g_0 (s_gets (ds := [((eT PyData.int) x2), ((eT PyData.int) x5)]) rfl (s_callX (d := fun r8 => ((eL PyData.int) r8)) (q := fun r8 => [some ((eT (eT PyData.int)) a0), some ((eT (eT PyData.int)) a1), some ((eL (eT PyData.int)) r1), some ((eT PyData.int) x2), some ((eT PyData.int) x5)]) (l_sums_by_TI_TI _ x2 x5) (fun _ => rfl) (fun _ => rfl) fun r8 => g_0 (s_gets (ds := [((eL PyData.int) r8)]) rfl (q_minL fun v9 => s_leaf ⟨rfl, rfl⟩)))))))))))))))) fun ys7 => g_0 (s_gets (ds := [((eL PyData.int) ys7)]) rfl (s_tot (d := ((eT PyData.int) ys7)) rfl rfl (s_leaf ⟨rfl, rfl⟩)))))))))))))) fun ys4 => g_0 (s_gets (ds := [((eL (eT PyData.int)) ys4)]) rfl (s_tot (d := ((eT (eT PyData.int)) ys4)) rfl rfl (s_leaf rfl))))))))))))))))))))
abbrev F_product_TTI_TTI (b : (List (List Int))) : D × PEnv := (((eT (eT PyData.int)) b), [none, none])
theorem l_product_TTI_TTI (m : Nat) (a0 : (List (List Int))) (a1 : (List (List Int))) : Sim (cp (m + 11) 17 [((eT (eT PyData.int)) a0), ((eT (eT PyData.int)) a1)]) (t_product_TTI_TTI a0 a1) fun b r => r = F_product_TTI_TTI b := by
  refine fn_ok (cp := cp (m + 10)) (g := sg 17) (fd := ⟨2, 2, ir_product⟩) (F := F_product_TTI_TTI) rfl ?_
  show Sim (pSs (cp (m + 10)) sg [0, 1] fuelT ir_product [some ((eT (eT PyData.int)) a0), some ((eT (eT PyData.int)) a1)] nxK) (t_product_TTI_TTI a0 a1) fun b r => endOf [.sv, .sv] r = some (F_product_TTI_TTI b)
  unfold ir_product t_product_TTI_TTI
  exact s_c (s_ex (s_callP (g_c (o_v (d := ((eT (eT PyData.int)) a0)) rfl (g_c (o_v (d := ((eT (eT PyData.int)) a1)) rfl (g_0 (s_gets (ds := [((eT (eT PyData.int)) a0), ((eT (eT PyData.int)) a1)]) rfl (s_callX (d := fun r1 => PyData.none) (q := fun r1 => [some ((eT (eT PyData.int)) a0), some ((eT (eT PyData.int)) a1)]) (l_need_two_TTI_TTI _ a0 a1) (fun _ => rfl) (fun _ => rfl) fun r1 => s_c (s_ret (s_callP (g_c (o_v (d := ((eT (eT PyData.int)) a0)) rfl (g_c (o_v (d := ((eT (eT PyData.int)) a1)) rfl (g_0 (s_gets (ds := [((eT (eT PyData.int)) a0), ((eT (eT PyData.int)) a1)]) rfl (s_callX (d := fun r2 => ((eT (eT PyData.int)) r2)) (q := fun r2 => [some ((eT (eT PyData.int)) a0), some ((eT (eT PyData.int)) a1)]) (l_least_sums_TTI_TTI _ a0 a1) (fun _ => rfl) (fun _ => rfl) fun r2 => s_leaf rfl))))))))))))))))))
abbrev F_w_straight_TTI (b : Bool) : D × PEnv := ((PyData.bool b), [none])
theorem l_w_straight_TTI (m : Nat) (a0 : (List (List Int))) : Sim (cp (m + 1) 26 [((eT (eT PyData.int)) a0)]) (t_w_straight_TTI a0) fun b r => r = F_w_straight_TTI b := by
  refine fn_ok (cp := cp m) (g := sg 26) (fd := ⟨1, 6, ir__law_straight⟩) (F := F_w_straight_TTI) rfl ?_
  show Sim (pSs (cp m) sg [0, 1, 2, 3, 4, 5] fuelT ir__law_straight [some ((eT (eT PyData.int)) a0), none, none, none, none, none] nxK) (t_w_straight_TTI a0) fun b r => endOf [.sv] r = some (F_w_straight_TTI b)
  unfold ir__law_straight t_w_straight_TTI
  exact s_c (s_forP (i_enum (s_pv (d := ((eT (eT PyData.int)) a0)) (pv_v rfl) (it_T (f := (eT PyData.int)) (xs := a0) (en_mP (w_forFZ (φ := (e2 PyData.int (eT PyData.int))) (Θ := (fun v r => endOf [.sv] r = some (F_w_straight_TTI v))) (w := fun (s1 : Unit) (g3 : Option D × Option D × Option D × Option D) => [some ((eT (eT PyData.int)) a0), g3.1, g3.2.1, g3.2.2.1, g3.2.2.2, none]) (s := ()) (none, none, none, none) rfl (fun x2 s1 g3 _ => a_t (ds := [(PyData.int x2.1), ((eT PyData.int) x2.2)]) rfl (a_c (a_nX (p' := [some ((eT (eT PyData.int)) a0), some (PyData.int x2.1), g3.2.1, g3.2.2.1, g3.2.2.2, none]) rfl (a_c (a_nX (p' := [some ((eT (eT PyData.int)) a0), some (PyData.int x2.1), some ((eT PyData.int) x2.2), g3.2.2.1, g3.2.2.2, none]) rfl (a_0 (s_c (s_forP (i_over (s_pv (d := ((eT (eT PyData.int)) (cutD a0 (some (x2.1 + (1 : Int))) none))) (pv_slc (x := ((eT (eT PyData.int)) a0)) (i := (some (x2.1 + (1 : Int)))) (j := none) (pv_v rfl) (pv_add (pv_v rfl) pv_k) trivial (slc_T _ _ _) rfl) (it_T (f := (eT PyData.int)) (xs := (cutD a0 (some (x2.1 + (1 : Int))) none)) (w_forFZ (φ := (eT PyData.int)) (Θ := (fun v r => endOf [.sv] r = some (F_w_straight_TTI v))) (w := fun (s4 : Unit) (g6 : Option D × Option D) => [some ((eT (eT PyData.int)) a0), some (PyData.int x2.1), some ((eT PyData.int) x2.2), g6.1, g6.2, none]) (s := ()) (g3.2.2.1, g3.2.2.2) rfl (fun x5 s4 g6 _ => a_nX (p' := [some ((eT (eT PyData.int)) a0), some (PyData.int x2.1), some ((eT PyData.int) x2.2), some ((eT PyData.int) x5), g6.2, none]) rfl (s_c (s_forP (i_r1P (o_c (d := (PyData.int (x2.2.length : Int))) rfl (pv_blt (ds := [((eT PyData.int) x2.2)]) ⟨(pv_v rfl), trivial⟩ (len_T _) rfl) (s_onO (a := (PyData.int (x2.2.length : Int))) rfl (s_onI (q_r1P fun l7 => w_forFZ (φ := PyData.int) (Θ := (fun v r => endOf [.sv] r = some (F_w_straight_TTI v))) (w := fun (s8 : Unit) (g10 : Option D) => [some ((eT (eT PyData.int)) a0), some (PyData.int x2.1), some ((eT PyData.int) x2.2), some ((eT PyData.int) x5), g10, none]) (s := ()) (g6.2) rfl (fun x9 s8 g10 _ => a_nX (p' := [some ((eT (eT PyData.int)) a0), some (PyData.int x2.1), some ((eT PyData.int) x2.2), some ((eT PyData.int) x5), some (PyData.int x9), none]) rfl (s_c (s_ifS (s_te rfl (s_cmp (o_e rfl (s_compQ (i_r2 (o_c (d := (PyData.int (x9 + (1 : Int)))) rfl (pv_add (pv_v rfl) pv_k) (o_c (d := (PyData.int (x2.2.length : Int))) rfl (pv_blt (ds := [((eT PyData.int) x2.2)]) ⟨(pv_v rfl), trivial⟩ (len_T _) rfl) (s_onO (a := (PyData.int (x9 + (1 : Int)))) rfl (s_onI (s_onO (a := (PyData.int (x2.2.length : Int))) rfl (s_onI (q_r2P fun l11 => c_filY (φ := PyData.int) (ψ := PyData.int) (p0 := [some ((eT (eT PyData.int)) a0), some (PyData.int x2.1), some ((eT PyData.int) x2.2), some ((eT PyData.int) x5), some (PyData.int x9), none]) (pe := [some ((eT (eT PyData.int)) a0), some (PyData.int x2.1), some ((eT PyData.int) x2.2), some ((eT PyData.int) x5), some (PyData.int x9), none]) rfl rfl (fun x12 _ => a_nX (p' := [some ((eT (eT PyData.int)) a0), some (PyData.int x2.1), some ((eT PyData.int) x2.2), some ((eT PyData.int) x5), some (PyData.int x9), some (PyData.int x12)]) rfl (q_some (s_te rfl (s_cmp (o_e rfl (s_bin (o_e rfl (s_idx (o_v (d := ((eT PyData.int) x2.2)) rfl (o_v (d := (PyData.int x9)) rfl (s_two (a := ((eT PyData.int) x2.2)) (b := (PyData.int x9)) rfl rfl (q_idxT (f := PyData.int) (a := x2.2) fun v15 => o_e rfl (s_idx (o_v (d := ((eT PyData.int) x5)) rfl (o_v (d := (PyData.int x12)) rfl (s_two (a := ((eT PyData.int) x5)) (b := (PyData.int x12)) rfl rfl (q_idxT (f := PyData.int) (a := x5) fun v16 => s_two (a := (PyData.int v15)) (b := (PyData.int v16)) rfl rfl (s_tot (d := (PyData.int (v15 + v16))) rfl rfl (o_e rfl (s_bin (o_e rfl (s_idx (o_v (d := ((eT PyData.int) x2.2)) rfl (o_v (d := (PyData.int x12)) rfl (s_two (a := ((eT PyData.int) x2.2)) (b := (PyData.int x12)) rfl rfl (q_idxT (f := PyData.int) (a := x2.2) fun v17 => o_e rfl (s_idx (o_v (d := ((eT PyData.int) x5)) rfl (o_v (d := (PyData.int x9)) rfl (s_two (a := ((eT PyData.int) x5)) (b := (PyData.int x9)) rfl rfl (q_idxT (f := PyData.int) (a := x5) fun v18 => s_two (a := (PyData.int v17)) (b := (PyData.int v18)) rfl rfl (s_tot (d := (PyData.int (v17 + v18))) rfl rfl (s_two (a := (PyData.int (v15 + v16))) (b := (PyData.int (v17 + v18))) rfl rfl (s_cmpT (t := (decide ((v17 + v18) < (v15 + v16)))) rfl (s_onB (s_ifb (s_pv (d := (PyData.int (1 : Int))) pv_k (s_leaf ⟨rfl, rfl⟩)) (s_nx ⟨rfl, rfl⟩))))))))))))))))))))))))))))))))))))) fun ys14 => o_c (d := ((eL eD) ([] : (List D)))) rfl (pv_lst (ds := []) trivial) (s_two (a := ((eL PyData.int) ys14)) (b := ((eL eD) ([] : (List D)))) rfl rfl (q_cmp fun v19 => s_onB (s_ifb (s_c (s_ret (s_pv (d := (PyData.bool false)) pv_k (s_leaf ⟨⟨_, rfl⟩, rfl⟩)))) (s_0 (s_0 (s_nx ⟨.inl rfl, (some (PyData.int x9)), rfl⟩))))))))))))))))))))) (fun s20 g21 => s_0 (s_nx ⟨.inl rfl, (some ((eT PyData.int) x5), g21), rfl⟩)) (fun v d p h => s_leaf ⟨⟨d, rfl⟩, h⟩))))))))) (fun s22 g23 => s_0 (s_nx ⟨.inl rfl, (some (PyData.int x2.1), some ((eT PyData.int) x2.2), g23.1, g23.2), rfl⟩)) (fun v d p h => s_leaf ⟨⟨d, rfl⟩, h⟩))))))))))))) (fun s24 g25 => s_c (s_ret (s_pv (d := (PyData.bool true)) pv_k (s_leaf rfl)))) (fun v d p h => s_leaf h)))))))
abbrev F_width_TTI (b : Int) : D × PEnv := ((PyData.int b), [none])
theorem l_width_TTI (m : Nat) (a0 : (List (List Int))) : Sim (cp (m + 1) 8 [((eT (eT PyData.int)) a0)]) (t_width_TTI a0) fun b r => r = F_width_TTI b := by
  refine fn_ok (cp := cp m) (g := sg 8) (fd := ⟨1, 1, ir_width⟩) (F := F_width_TTI) rfl ?_
  show Sim (pSs (cp m) sg [0] fuelT ir_width [some ((eT (eT PyData.int)) a0)] nxK) (t_width_TTI a0) fun b r => endOf [.sv] r = some (F_width_TTI b)
  unfold ir_width t_width_TTI
  exact s_c (s_ret (s_blt (g_c (o_e rfl (s_idx (o_v (d := ((eT (eT PyData.int)) a0)) rfl (o_c (d := (PyData.int (0 : Int))) rfl pv_k (s_two (a := ((eT (eT PyData.int)) a0)) (b := (PyData.int (0 : Int))) rfl rfl (q_idxT (f := (eT PyData.int)) (a := a0) fun v1 => g_0 (s_gets (ds := [((eT PyData.int) v1)]) rfl (s_tot (d := (PyData.int (v1.length : Int))) (len_T _) rfl (s_leaf rfl))))))))))))
abbrev F_gain_of_TTI_I_I_I_I (b : Int) : D × PEnv := ((PyData.int b), [none, none, none, none, none])
theorem l_gain_of_TTI_I_I_I_I (m : Nat) (a0 : (List (List Int))) (a1 : Int) (a2 : Int) (a3 : Int) (a4 : Int) : Sim (cp (m + 1) 9 [((eT (eT PyData.int)) a0), (PyData.int a1), (PyData.int a2), (PyData.int a3), (PyData.int a4)]) (t_gain_of_TTI_I_I_I_I a0 a1 a2 a3 a4) fun b r => r = F_gain_of_TTI_I_I_I_I b := by
  refine fn_ok (cp := cp m) (g := sg 9) (fd := ⟨5, 6, ir_gain_of⟩) (F := F_gain_of_TTI_I_I_I_I) rfl ?_
  show Sim (pSs (cp m) sg [0, 1, 2, 3, 4, 5] fuelT ir_gain_of [some ((eT (eT PyData.int)) a0), some (PyData.int a1), some (PyData.int a2), some (PyData.int a3), some (PyData.int a4), none] nxK) (t_gain_of_TTI_I_I_I_I a0 a1 a2 a3 a4) fun b r => endOf [.sv, .sv, .sv, .sv, .sv] r = some (F_gain_of_TTI_I_I_I_I b)
  unfold ir_gain_of t_gain_of_TTI_I_I_I_I
  exact s_c (s_asg (s_bin (o_e rfl (s_idx (o_e rfl (s_idx (o_v (d := ((eT (eT PyData.int)) a0)) rfl (o_v (d := (PyData.int a1)) rfl (s_two (a := ((eT (eT PyData.int)) a0)) (b := (PyData.int a1)) rfl rfl (q_idxT (f := (eT PyData.int)) (a := a0) fun v1 => o_v (d := (PyData.int a3)) rfl (s_two (a := ((eT PyData.int) v1)) (b := (PyData.int a3)) rfl rfl (q_idxT (f := PyData.int) (a := v1) fun v2 => o_e rfl (s_idx (o_e rfl (s_idx (o_v (d := ((eT (eT PyData.int)) a0)) rfl (o_v (d := (PyData.int a2)) rfl (s_two (a := ((eT (eT PyData.int)) a0)) (b := (PyData.int a2)) rfl rfl (q_idxT (f := (eT PyData.int)) (a := a0) fun v3 => o_v (d := (PyData.int a4)) rfl (s_two (a := ((eT PyData.int) v3)) (b := (PyData.int a4)) rfl rfl (q_idxT (f := PyData.int) (a := v3) fun v4 => s_two (a := (PyData.int v2)) (b := (PyData.int v4)) rfl rfl (s_tot (d := (PyData.int (v2 + v4))) rfl rfl (s_nameX (d := (PyData.int (v2 + v4))) (p' := [some ((eT (eT PyData.int)) a0), some (PyData.int a1), some (PyData.int a2), some (PyData.int a3), some (PyData.int a4), some (PyData.int (v2 + v4))]) (nl_2 rfl) rfl (s_c (s_ret (s_bin (o_e rfl (s_bin (o_e rfl (s_idx (o_e rfl (s_idx (o_v (d := ((eT (eT PyData.int)) a0)) rfl (o_v (d := (PyData.int a1)) rfl (s_two (a := ((eT (eT PyData.int)) a0)) (b := (PyData.int a1)) rfl rfl (q_idxT (f := (eT PyData.int)) (a := a0) fun v5 => o_v (d := (PyData.int a4)) rfl (s_two (a := ((eT PyData.int) v5)) (b := (PyData.int a4)) rfl rfl (q_idxT (f := PyData.int) (a := v5) fun v6 => o_e rfl (s_idx (o_e rfl (s_idx (o_v (d := ((eT (eT PyData.int)) a0)) rfl (o_v (d := (PyData.int a2)) rfl (s_two (a := ((eT (eT PyData.int)) a0)) (b := (PyData.int a2)) rfl rfl (q_idxT (f := (eT PyData.int)) (a := a0) fun v7 => o_v (d := (PyData.int a3)) rfl (s_two (a := ((eT PyData.int) v7)) (b := (PyData.int a3)) rfl rfl (q_idxT (f := PyData.int) (a := v7) fun v8 => s_two (a := (PyData.int v6)) (b := (PyData.int v8)) rfl rfl (s_tot (d := (PyData.int (v6 + v8))) rfl rfl (o_v (d := (PyData.int (v2 + v4))) rfl (s_two (a := (PyData.int (v6 + v8))) (b := (PyData.int (v2 + v4))) rfl rfl (s_tot (d := (PyData.int ((v6 + v8) - (v2 + v4)))) rfl rfl (s_leaf rfl))))))))))))))))))))))))))))))))))))))))))))))))))))
abbrev F_gain_at_TTI_I_I (b : Int) : D × PEnv := ((PyData.int b), [none, none, none])
theorem l_gain_at_TTI_I_I (m : Nat) (a0 : (List (List Int))) (a1 : Int) (a2 : Int) : Sim (cp (m + 3) 10 [((eT (eT PyData.int)) a0), (PyData.int a1), (PyData.int a2)]) (t_gain_at_TTI_I_I a0 a1 a2) fun b r => r = F_gain_at_TTI_I_I b := by
  refine fn_ok (cp := cp (m + 2)) (g := sg 10) (fd := ⟨3, 3, ir_gain_at⟩) (F := F_gain_at_TTI_I_I) rfl ?_
  show Sim (pSs (cp (m + 2)) sg [0, 1, 2] fuelT ir_gain_at [some ((eT (eT PyData.int)) a0), some (PyData.int a1), some (PyData.int a2)] nxK) (t_gain_at_TTI_I_I a0 a1 a2) fun b r => endOf [.sv, .sv, .sv] r = some (F_gain_at_TTI_I_I b)
  unfold ir_gain_at t_gain_at_TTI_I_I
  exact s_c (s_ret (s_callP (g_c (o_v (d := ((eT (eT PyData.int)) a0)) rfl (g_c (o_v (d := (PyData.int a1)) rfl (g_c (o_c (d := (PyData.int (a1 + (1 : Int)))) rfl (pv_add (pv_v rfl) pv_k) (g_c (o_v (d := (PyData.int a2)) rfl (g_c (o_c (d := (PyData.int (a2 + (1 : Int)))) rfl (pv_add (pv_v rfl) pv_k) (g_0 (s_gets (ds := [((eT (eT PyData.int)) a0), (PyData.int a1), (PyData.int (a1 + (1 : Int))), (PyData.int a2), (PyData.int (a2 + (1 : Int)))]) rfl (s_callX (d := fun r1 => (PyData.int r1)) (q := fun r1 => [some ((eT (eT PyData.int)) a0), some (PyData.int a1), some (PyData.int a2)]) (l_gain_of_TTI_I_I_I_I _ a0 a1 (a1 + (1 : Int)) a2 (a2 + (1 : Int))) (fun _ => rfl) (fun _ => rfl) fun r1 => s_leaf rfl)))))))))))))))
abbrev F_gains_of_TTI (b : (List (List Int))) : D × PEnv := (((eT (eT PyData.int)) b), [none])
theorem l_gains_of_TTI (m : Nat) (a0 : (List (List Int))) : Sim (cp (m + 5) 11 [((eT (eT PyData.int)) a0)]) (t_gains_of_TTI a0) fun b r => r = F_gains_of_TTI b := by
  refine fn_ok (cp := cp (m + 4)) (g := sg 11) (fd := ⟨1, 4, ir_gains_of⟩) (F := F_gains_of_TTI) rfl ?_
  show Sim (pSs (cp (m + 4)) sg [0, 2, 3] fuelT ir_gains_of [some ((eT (eT PyData.int)) a0), none, none, none] nxK) (t_gains_of_TTI a0) fun b r => endOf [.sv] r = some (F_gains_of_TTI b)
  unfold ir_gains_of t_gains_of_TTI
  exact s_c (s_asg (s_pv (d := ((eL eD) ([] : (List D)))) (pv_lst (ds := []) trivial) (s_nameX (d := ((eL eD) ([] : (List D)))) (p' := [some ((eT (eT PyData.int)) a0), some ((eL eD) ([] : (List D))), none, none]) (nl_1 rfl) rfl (s_c (s_forP (i_r1P (o_c (d := (PyData.int ((a0.length : Int) - (1 : Int)))) rfl (pv_sub (pv_blt (ds := [((eT (eT PyData.int)) a0)]) ⟨(pv_v rfl), trivial⟩ (len_T _) rfl) pv_k) (s_onO (a := (PyData.int ((a0.length : Int) - (1 : Int)))) rfl (s_onI (q_r1P fun l1 => w_forY (φ := PyData.int) (w := fun (s2 : (List (List Int))) (g4 : Option D) => [some ((eT (eT PyData.int)) a0), some ((eL (eT PyData.int)) s2), g4, none]) (s := ([] : (List (List Int)))) (none) rfl (fun x3 s2 g4 _ => a_nX (p' := [some ((eT (eT PyData.int)) a0), some ((eL (eT PyData.int)) s2), some (PyData.int x3), none]) rfl (s_c (s_ex (s_mmP (d := ((eL (eT PyData.int)) s2)) rfl rfl (l_c (s_blt (g_c (o_e rfl (s_compQ (i_r1P (o_e rfl (s_bin (o_e rfl (s_callP (g_c (o_v (d := ((eT (eT PyData.int)) a0)) rfl (g_0 (s_gets (ds := [((eT (eT PyData.int)) a0)]) rfl (s_callX (d := fun r5 => (PyData.int r5)) (q := fun r5 => [some ((eT (eT PyData.int)) a0), some ((eL (eT PyData.int)) s2), some (PyData.int x3), none]) (l_width_TTI _ a0) (fun _ => rfl) (fun _ => rfl) fun r5 => o_c (d := (PyData.int (1 : Int))) rfl pv_k (s_two (a := (PyData.int r5)) (b := (PyData.int (1 : Int))) rfl rfl (s_tot (d := (PyData.int (r5 - (1 : Int)))) rfl rfl (s_onO (a := (PyData.int (r5 - (1 : Int)))) rfl (s_onI (q_r1P fun l6 => c_mapY (φ := PyData.int) (ψ := PyData.int) (p0 := [some ((eT (eT PyData.int)) a0), some ((eL (eT PyData.int)) s2), some (PyData.int x3), none]) (pe := [some ((eT (eT PyData.int)) a0), some ((eL (eT PyData.int)) s2), some (PyData.int x3), none]) rfl rfl (fun x7 _ => a_nX (p' := [some ((eT (eT PyData.int)) a0), some ((eL (eT PyData.int)) s2), some (PyData.int x3), some (PyData.int x7)]) rfl (q_none (s_tt (s_callP (g_c (o_v (d := ((eT (eT PyData.int)) a0)) rfl (g_c (o_v (d := (PyData.int x3)) rfl (g_c (o_v (d := (PyData.int x7)) rfl (g_0 (s_gets (ds := [((eT (eT PyData.int)) a0), (PyData.int x3), (PyData.int x7)]) rfl (s_callX (d := fun r10 => (PyData.int r10)) (q := fun r10 => [some ((eT (eT PyData.int)) a0), some ((eL (eT PyData.int)) s2), some (PyData.int x3), some (PyData.int x7)]) (l_gain_at_TTI_I_I _ a0 x3 x7) (fun _ => rfl) (fun _ => rfl) fun r10 => s_leaf ⟨rfl, rfl⟩))))))))))))) fun ys9 => g_0 (s_gets (ds := [((eL PyData.int) ys9)]) rfl (s_tot (d := ((eT PyData.int) ys9)) rfl rfl (l_0 (s_onO (a := ((eL (eT PyData.int)) s2)) rfl (q_appX (f := (eT PyData.int)) (a := s2) (x := ys9) (q := fun v11 => [some ((eT (eT PyData.int)) a0), some ((eL (eT PyData.int)) v11), some (PyData.int x3), none]) (fun _ => rfl) fun v11 => s_0 (s_nx ⟨.inl rfl, (some (PyData.int x3)), rfl⟩)))))))))))))))))))))))))))))) fun s12 g13 => s_c (s_ret (s_pv (d := ((eT (eT PyData.int)) s12)) (pv_blt (ds := [((eL (eT PyData.int)) s12)]) ⟨(pv_v rfl), trivial⟩ rfl rfl) (s_leaf rfl)))))))))))))
abbrev F_first_paying_TTI (b : (Option (Int × Int))) : D × PEnv := (((eO (e2 PyData.int PyData.int)) b), [none])
theorem l_first_paying_TTI (m : Nat) (a0 : (List (List Int))) : Sim (cp (m + 7) 12 [((eT (eT PyData.int)) a0)]) (t_first_paying_TTI a0) fun b r => r = F_first_paying_TTI b := by
  refine fn_ok (cp := cp (m + 6)) (g := sg 12) (fd := ⟨1, 5, ir_first_paying⟩) (F := F_first_paying_TTI) rfl ?_
  show Sim (pSs (cp (m + 6)) sg [0, 1, 2, 3, 4] fuelT ir_first_paying [some ((eT (eT PyData.int)) a0), none, none, none, none] nxK) (t_first_paying_TTI a0) fun b r => endOf [.sv] r = some (F_first_paying_TTI b)
  unfold ir_first_paying t_first_paying_TTI
  exact s_c (s_forP (i_enum (s_callP (g_c (o_v (d := ((eT (eT PyData.int)) a0)) rfl (g_0 (s_gets (ds := [((eT (eT PyData.int)) a0)]) rfl (s_callX (d := fun r1 => ((eT (eT PyData.int)) r1)) (q := fun r1 => [some ((eT (eT PyData.int)) a0), none, none, none, none]) (l_gains_of_TTI _ a0) (fun _ => rfl) (fun _ => rfl) fun r1 => it_T (f := (eT PyData.int)) (xs := r1) (en_mP (w_forFZ (φ := (e2 PyData.int (eT PyData.int))) (Θ := (fun v r => endOf [.sv] r = some (F_first_paying_TTI v))) (w := fun (s2 : Unit) (g4 : Option D × Option D × Option D × Option D) => [some ((eT (eT PyData.int)) a0), g4.1, g4.2.1, g4.2.2.1, g4.2.2.2]) (s := ()) (none, none, none, none) rfl (fun x3 s2 g4 _ => a_t (ds := [(PyData.int x3.1), ((eT PyData.int) x3.2)]) rfl (a_c (a_nX (p' := [some ((eT (eT PyData.int)) a0), some (PyData.int x3.1), g4.2.1, g4.2.2.1, g4.2.2.2]) rfl (a_c (a_nX (p' := [some ((eT (eT PyData.int)) a0), some (PyData.int x3.1), some ((eT PyData.int) x3.2), g4.2.2.1, g4.2.2.2]) rfl (a_0 (s_c (s_forP (i_enum (s_pv (d := ((eT PyData.int) x3.2)) (pv_v rfl) (it_T (f := PyData.int) (xs := x3.2) (en_mP (w_forFZ (φ := (e2 PyData.int PyData.int)) (Θ := (fun v r => endOf [.sv] r = some (F_first_paying_TTI v))) (w := fun (s5 : Unit) (g7 : Option D × Option D) => [some ((eT (eT PyData.int)) a0), some (PyData.int x3.1), some ((eT PyData.int) x3.2), g7.1, g7.2]) (s := ()) (g4.2.2.1, g4.2.2.2) rfl (fun x6 s5 g7 _ => a_t (ds := [(PyData.int x6.1), (PyData.int x6.2)]) rfl (a_c (a_nX (p' := [some ((eT (eT PyData.int)) a0), some (PyData.int x3.1), some ((eT PyData.int) x3.2), some (PyData.int x6.1), g7.2]) rfl (a_c (a_nX (p' := [some ((eT (eT PyData.int)) a0), some (PyData.int x3.1), some ((eT PyData.int) x3.2), some (PyData.int x6.1), some (PyData.int x6.2)]) rfl (a_0 (s_c (s_ifS (s_tb (pv_cmp (pv_v rfl) pv_k rfl) (s_ifb (s_c (s_ret (s_pv (d := ((e2 PyData.int PyData.int) (x3.1, x6.1))) (pv_tup (ds := [(PyData.int x3.1), (PyData.int x6.1)]) ⟨(pv_v rfl), (pv_v rfl), trivial⟩) (s_leaf ⟨⟨_, rfl⟩, rfl⟩)))) (s_0 (s_0 (s_nx ⟨.inl rfl, (some (PyData.int x6.1), some (PyData.int x6.2)), rfl⟩))))))))))))) (fun s8 g9 => s_0 (s_nx ⟨.inl rfl, (some (PyData.int x3.1), some ((eT PyData.int) x3.2), g9.1, g9.2), rfl⟩)) (fun v d p h => s_leaf ⟨⟨d, rfl⟩, h⟩)))))))))))))) (fun s10 g11 => s_c (s_ret (s_pv (d := PyData.none) pv_k (s_leaf rfl)))) (fun v d p h => s_leaf h)))))))))))
abbrev F_is_straight_table_TTI (b : Bool) : D × PEnv := ((PyData.bool b), [none])
theorem l_is_straight_table_TTI (m : Nat) (a0 : (List (List Int))) : Sim (cp (m + 9) 13 [((eT (eT PyData.int)) a0)]) (t_is_straight_table_TTI a0) fun b r => r = F_is_straight_table_TTI b := by
  refine fn_ok (cp := cp (m + 8)) (g := sg 13) (fd := ⟨1, 1, ir_is_straight_table⟩) (F := F_is_straight_table_TTI) rfl ?_
  show Sim (pSs (cp (m + 8)) sg [0] fuelT ir_is_straight_table [some ((eT (eT PyData.int)) a0)] nxK) (t_is_straight_table_TTI a0) fun b r => endOf [.sv] r = some (F_is_straight_table_TTI b)
  unfold ir_is_straight_table t_is_straight_table_TTI
  exact s_c (s_ret (s_cmp (o_e rfl (s_callP (g_c (o_v (d := ((eT (eT PyData.int)) a0)) rfl (g_0 (s_gets (ds := [((eT (eT PyData.int)) a0)]) rfl (s_callX (d := fun r1 => ((eO (e2 PyData.int PyData.int)) r1)) (q := fun r1 => [some ((eT (eT PyData.int)) a0)]) (l_first_paying_TTI _ a0) (fun _ => rfl) (fun _ => rfl) fun r1 => o_c (d := PyData.none) rfl pv_k (s_two (a := ((eO (e2 PyData.int PyData.int)) r1)) (b := PyData.none) rfl rfl (s_cmpT (t := r1.isNone) (isO (fun _ => rfl) _) (s_leaf rfl))))))))))))
abbrev F_is_straight_TTI (b : Bool) : D × PEnv := ((PyData.bool b), [none])
theorem l_is_straight_TTI (m : Nat) (a0 : (List (List Int))) : Sim (cp (m + 11) 20 [((eT (eT PyData.int)) a0)]) (t_is_straight_TTI a0) fun b r => r = F_is_straight_TTI b := by
  refine fn_ok (cp := cp (m + 10)) (g := sg 20) (fd := ⟨1, 1, ir_is_straight⟩) (F := F_is_straight_TTI) rfl ?_
  show Sim (pSs (cp (m + 10)) sg [0] fuelT ir_is_straight [some ((eT (eT PyData.int)) a0)] nxK) (t_is_straight_TTI a0) fun b r => endOf [.sv] r = some (F_is_straight_TTI b)
  unfold ir_is_straight t_is_straight_TTI
  exact s_c (s_ex (s_callP (g_c (o_v (d := ((eT (eT PyData.int)) a0)) rfl (g_0 (s_gets (ds := [((eT (eT PyData.int)) a0)]) rfl (s_callX (d := fun r1 => PyData.none) (q := fun r1 => [some ((eT (eT PyData.int)) a0)]) (l_need_table_TTI _ a0) (fun _ => rfl) (fun _ => rfl) fun r1 => s_c (s_ret (s_callP (g_c (o_v (d := ((eT (eT PyData.int)) a0)) rfl (g_0 (s_gets (ds := [((eT (eT PyData.int)) a0)]) rfl (s_callX (d := fun r2 => (PyData.bool r2)) (q := fun r2 => [some ((eT (eT PyData.int)) a0)]) (l_is_straight_table_TTI _ a0) (fun _ => rfl) (fun _ => rfl) fun r2 => s_leaf rfl))))))))))))))
abbrev F_middle_in_LI_B (b : Int) : D × PEnv := ((PyData.int b), [none, none])
theorem l_middle_in_LI_B (m : Nat) (a0 : (List Int)) (a1 : Bool) : Sim (cp (m + 1) 6 [((eL PyData.int) a0), (PyData.bool a1)]) (t_middle_in_LI_B a0 a1) fun b r => r = F_middle_in_LI_B b := by
  refine fn_ok (cp := cp m) (g := sg 6) (fd := ⟨2, 2, ir_middle_in⟩) (F := F_middle_in_LI_B) rfl ?_
  show Sim (pSs (cp m) sg [1] fuelT ir_middle_in [some ((eL PyData.int) a0), some (PyData.bool a1)] nxK) (t_middle_in_LI_B a0 a1) fun b r => endOf [.rn, .sv] r = some (F_middle_in_LI_B b)
  unfold ir_middle_in t_middle_in_LI_B
  exact s_c (s_ifS (s_tb (pv_v rfl) (s_ifb (s_c (s_ret (s_bin (o_c (d := (PyData.int ((a0.length : Int) - (1 : Int)))) rfl (pv_sub (pv_blt (ds := [((eL PyData.int) a0)]) ⟨(pv_v rfl), trivial⟩ (len_L _) rfl) pv_k) (o_e rfl (s_vmP (o_c (d := ((eL PyData.int) a0.reverse)) rfl (pv_rev (x := ((eL PyData.int) a0)) (pv_v rfl) (rev_L _) rfl) (s_onO (a := ((eL PyData.int) a0.reverse)) rfl (s_pos rfl (g_c (o_e rfl (s_blt (g_c (o_v (d := ((eL PyData.int) a0)) rfl (g_0 (s_gets (ds := [((eL PyData.int) a0)]) rfl (q_minL fun v1 => g_0 (s_gets (ds := [((eL PyData.int) a0.reverse), (PyData.int v1)]) rfl (q_idx (xs := a0.reverse) fun v2 => s_two (a := (PyData.int ((a0.length : Int) - (1 : Int)))) (b := (PyData.int v2)) rfl rfl (s_tot (d := (PyData.int (((a0.length : Int) - (1 : Int)) - v2))) rfl rfl (s_leaf rfl))))))))))))))))))))) (s_0 (s_c (s_ret (s_vmP (o_v (d := ((eL PyData.int) a0)) rfl (s_onO (a := ((eL PyData.int) a0)) rfl (s_pos rfl (g_c (o_e rfl (s_blt (g_c (o_v (d := ((eL PyData.int) a0)) rfl (g_0 (s_gets (ds := [((eL PyData.int) a0)]) rfl (q_minL fun v3 => g_0 (s_gets (ds := [((eL PyData.int) a0), (PyData.int v3)]) rfl (q_idx (xs := a0) fun v4 => s_leaf rfl))))))))))))))))))))
abbrev F_middle_rows_TTI_TTI_B (b : (List (List Int))) : D × PEnv := (((eL (eL PyData.int)) b), [none, none, none])
theorem l_middle_rows_TTI_TTI_B (m : Nat) (a0 : (List (List Int))) (a1 : (List (List Int))) (a2 : Bool) : Sim (cp (m + 3) 7 [((eT (eT PyData.int)) a0), ((eT (eT PyData.int)) a1), (PyData.bool a2)]) (t_middle_rows_TTI_TTI_B a0 a1 a2) fun b r => r = F_middle_rows_TTI_TTI_B b := by
  refine fn_ok (cp := cp (m + 2)) (g := sg 7) (fd := ⟨3, 6, ir_middle_rows⟩) (F := F_middle_rows_TTI_TTI_B) rfl ?_
  show Sim (pSs (cp (m + 2)) sg [0, 1, 2, 4, 5] fuelT ir_middle_rows [some ((eT (eT PyData.int)) a0), some ((eT (eT PyData.int)) a1), some (PyData.bool a2), none, none, none] nxK) (t_middle_rows_TTI_TTI_B a0 a1 a2) fun b r => endOf [.sv, .sv, .sv] r = some (F_middle_rows_TTI_TTI_B b)
  unfold ir_middle_rows t_middle_rows_TTI_TTI_B
  exact s_c (s_asg (s_callP (g_c (o_v (d := ((eT (eT PyData.int)) a1)) rfl (g_0 (s_gets (ds := [((eT (eT PyData.int)) a1)]) rfl (s_callX (d := fun r1 => ((eL (eT PyData.int)) r1)) (q := fun r1 => [some ((eT (eT PyData.int)) a0), some ((eT (eT PyData.int)) a1), some (PyData.bool a2), none, none, none]) (l_columns_of_TTI _ a1) (fun _ => rfl) (fun _ => rfl) fun r1 => s_nameX (d := ((eL (eT PyData.int)) r1)) (p' := [some ((eT (eT PyData.int)) a0), some ((eT (eT PyData.int)) a1), some (PyData.bool a2), some ((eL (eT PyData.int)) r1), none, none]) (nl_1 rfl) rfl (s_c (s_ret (s_compQ (i_over (s_pv (d := ((eT (eT PyData.int)) a0)) (pv_v rfl) (it_T (f := (eT PyData.int)) (xs := a0) (c_mapY (φ := (eT PyData.int)) (ψ := (eL PyData.int)) (p0 := [some ((eT (eT PyData.int)) a0), some ((eT (eT PyData.int)) a1), some (PyData.bool a2), some ((eL (eT PyData.int)) r1), none, none]) (pe := [some ((eT (eT PyData.int)) a0), some ((eT (eT PyData.int)) a1), some (PyData.bool a2), some ((eL (eT PyData.int)) r1), none, none]) rfl rfl (fun x2 _ => a_nX (p' := [some ((eT (eT PyData.int)) a0), some ((eT (eT PyData.int)) a1), some (PyData.bool a2), some ((eL (eT PyData.int)) r1), some ((eT PyData.int) x2), none]) rfl (q_none (s_tt (s_compQ (i_over (s_pv (d := ((eL (eT PyData.int)) r1)) (pv_v rfl) (it_L (f := (eT PyData.int)) (xs := r1) (c_mapY (φ := (eT PyData.int)) (ψ := PyData.int) (p0 := [some ((eT (eT PyData.int)) a0), some ((eT (eT PyData.int)) a1), some (PyData.bool a2), some ((eL (eT PyData.int)) r1), some ((eT PyData.int) x2), none]) (pe := [some ((eT (eT PyData.int)) a0), some ((eT (eT PyData.int)) a1), some (PyData.bool a2), some ((eL (eT PyData.int)) r1), some ((eT PyData.int) x2), none]) rfl rfl (fun x5 _ => a_nX (p' := [some ((eT (eT PyData.int)) a0), some ((eT (eT PyData.int)) a1), some (PyData.bool a2), some ((eL (eT PyData.int)) r1), some ((eT PyData.int) x2), some ((eT PyData.int) x5)]) rfl (q_none (s_tt (s_callP (g_c (o_e rfl (s_callP (g_c (o_v (d := ((eT PyData.int) x2)) rfl (g_c (o_v (d := ((eT PyData.int) x5)) rfl (g_0 (s_gets (ds := [((eT PyData.int) x2), ((eT PyData.int) x5)]) rfl (s_callX (d := fun r8 => ((eL PyData.int) r8)) (q := fun r8 => [some ((eT (eT PyData.int)) a0), some ((eT (eT PyData.int)) a1), some (PyData.bool a2), some ((eL (eT PyData.int)) r1), some ((eT PyData.int) x2), some ((eT PyData.int) x5)]) (l_sums_by_TI_TI _ x2 x5) (fun _ => rfl) (fun _ => rfl) fun r8 => g_c (o_v (d := (PyData.bool a2)) rfl (g_0 (s_gets (ds := [((eL PyData.int) r8), (PyData.bool a2)]) rfl (s_callX (d := fun r9 => (PyData.int r9)) (q := fun r9 => [some ((eT (eT PyData.int)) a0), some ((eT (eT PyData.int)) a1), some (PyData.bool a2), some ((eL (eT PyData.int)) r1), some ((eT PyData.int) x2), some ((eT PyData.int) x5)]) (l_middle_in_LI_B _ r8 a2) (fun _ => rfl) (fun _ => rfl) fun r9 => s_leaf ⟨rfl, rfl⟩)))))))))))))))))) fun ys7 => s_leaf ⟨rfl, rfl⟩)))))))) fun ys4 => s_leaf rfl))))))))))))))
abbrev F_middles_TTI_TTI (b : (List (List Int))) : D × PEnv := (((eL (eL PyData.int)) b), [none, none])
theorem l_middles_TTI_TTI (m : Nat) (a0 : (List (List Int))) (a1 : (List (List Int))) : Sim (cp (m + 11) 18 [((eT (eT PyData.int)) a0), ((eT (eT PyData.int)) a1)]) (t_middles_TTI_TTI a0 a1) fun b r => r = F_middles_TTI_TTI b := by
  refine fn_ok (cp := cp (m + 10)) (g := sg 18) (fd := ⟨2, 2, ir_middles⟩) (F := F_middles_TTI_TTI) rfl ?_
  show Sim (pSs (cp (m + 10)) sg [0, 1] fuelT ir_middles [some ((eT (eT PyData.int)) a0), some ((eT (eT PyData.int)) a1)] nxK) (t_middles_TTI_TTI a0 a1) fun b r => endOf [.sv, .sv] r = some (F_middles_TTI_TTI b)
  unfold ir_middles t_middles_TTI_TTI
  exact s_c (s_ex (s_callP (g_c (o_v (d := ((eT (eT PyData.int)) a0)) rfl (g_c (o_v (d := ((eT (eT PyData.int)) a1)) rfl (g_0 (s_gets (ds := [((eT (eT PyData.int)) a0), ((eT (eT PyData.int)) a1)]) rfl (s_callX (d := fun r1 => PyData.none) (q := fun r1 => [some ((eT (eT PyData.int)) a0), some ((eT (eT PyData.int)) a1)]) (l_need_two_TTI_TTI _ a0 a1) (fun _ => rfl) (fun _ => rfl) fun r1 => s_c (s_ret (s_callP (g_c (o_v (d := ((eT (eT PyData.int)) a0)) rfl (g_c (o_v (d := ((eT (eT PyData.int)) a1)) rfl (g_c (o_c (d := (PyData.bool false)) rfl pv_k (g_0 (s_gets (ds := [((eT (eT PyData.int)) a0), ((eT (eT PyData.int)) a1), (PyData.bool false)]) rfl (s_callX (d := fun r2 => ((eL (eL PyData.int)) r2)) (q := fun r2 => [some ((eT (eT PyData.int)) a0), some ((eT (eT PyData.int)) a1)]) (l_middle_rows_TTI_TTI_B _ a0 a1 false) (fun _ => rfl) (fun _ => rfl) fun r2 => s_leaf rfl))))))))))))))))))))
abbrev F_last_middles_TTI_TTI (b : (List (List Int))) : D × PEnv := (((eL (eL PyData.int)) b), [none, none])
theorem l_last_middles_TTI_TTI (m : Nat) (a0 : (List (List Int))) (a1 : (List (List Int))) : Sim (cp (m + 11) 19 [((eT (eT PyData.int)) a0), ((eT (eT PyData.int)) a1)]) (t_last_middles_TTI_TTI a0 a1) fun b r => r = F_last_middles_TTI_TTI b := by
  refine fn_ok (cp := cp (m + 10)) (g := sg 19) (fd := ⟨2, 2, ir_last_middles⟩) (F := F_last_middles_TTI_TTI) rfl ?_
  show Sim (pSs (cp (m + 10)) sg [0, 1] fuelT ir_last_middles [some ((eT (eT PyData.int)) a0), some ((eT (eT PyData.int)) a1)] nxK) (t_last_middles_TTI_TTI a0 a1) fun b r => endOf [.sv, .sv] r = some (F_last_middles_TTI_TTI b)
  unfold ir_last_middles t_last_middles_TTI_TTI
  exact s_c (s_ex (s_callP (g_c (o_v (d := ((eT (eT PyData.int)) a0)) rfl (g_c (o_v (d := ((eT (eT PyData.int)) a1)) rfl (g_0 (s_gets (ds := [((eT (eT PyData.int)) a0), ((eT (eT PyData.int)) a1)]) rfl (s_callX (d := fun r1 => PyData.none) (q := fun r1 => [some ((eT (eT PyData.int)) a0), some ((eT (eT PyData.int)) a1)]) (l_need_two_TTI_TTI _ a0 a1) (fun _ => rfl) (fun _ => rfl) fun r1 => s_c (s_ret (s_callP (g_c (o_v (d := ((eT (eT PyData.int)) a0)) rfl (g_c (o_v (d := ((eT (eT PyData.int)) a1)) rfl (g_c (o_c (d := (PyData.bool true)) rfl pv_k (g_0 (s_gets (ds := [((eT (eT PyData.int)) a0), ((eT (eT PyData.int)) a1), (PyData.bool true)]) rfl (s_callX (d := fun r2 => ((eL (eL PyData.int)) r2)) (q := fun r2 => [some ((eT (eT PyData.int)) a0), some ((eT (eT PyData.int)) a1)]) (l_middle_rows_TTI_TTI_B _ a0 a1 true) (fun _ => rfl) (fun _ => rfl) fun r2 => s_leaf rfl))))))))))))))))))))
abbrev F_w_never_falls_LLI (b : Bool) : D × PEnv := ((PyData.bool b), [none])
theorem l_w_never_falls_LLI (m : Nat) (a0 : (List (List Int))) : Sim (cp (m + 1) 28 [((eL (eL PyData.int)) a0)]) (t_w_never_falls_LLI a0) fun b r => r = F_w_never_falls_LLI b := by
  refine fn_ok (cp := cp m) (g := sg 28) (fd := ⟨1, 7, ir__law_never_falls⟩) (F := F_w_never_falls_LLI) rfl ?_
  show Sim (pSs (cp m) sg [1, 3, 4, 5, 6] fuelT ir__law_never_falls [some ((eL (eL PyData.int)) a0), none, none, none, none, none, none] nxK) (t_w_never_falls_LLI a0) fun b r => endOf [.ro] r = some (F_w_never_falls_LLI b)
  unfold ir__law_never_falls t_w_never_falls_LLI
  exact s_c (s_forP (i_enum (s_pv (d := ((eL (eL PyData.int)) a0)) (pv_v rfl) (it_L (f := (eL PyData.int)) (xs := a0) (en_mP (w_forFZ (φ := (e2 PyData.int (eL PyData.int))) (Θ := (fun v r => endOf [.ro] r = some (F_w_never_falls_LLI v))) (w := fun (s1 : Unit) (g3 : Option D × Option D) => [some ((eL (eL PyData.int)) a0), g3.1, g3.2, none, none, none, none]) (s := ()) (none, none) rfl (fun x2 s1 g3 _ => a_t (ds := [(PyData.int x2.1), ((eL PyData.int) x2.2)]) rfl (a_c (a_nX (p' := [some ((eL (eL PyData.int)) a0), some (PyData.int x2.1), g3.2, none, none, none, none]) rfl (a_c (a_nX (p' := [some ((eL (eL PyData.int)) a0), some (PyData.int x2.1), some ((eL PyData.int) x2.2), none, none, none, none]) rfl (a_0 (s_c (s_ifS (s_te rfl (s_cmp (o_e rfl (s_compQ (i_zip (s_pv (d := ((eL PyData.int) x2.2)) (pv_v rfl) (s_pv (d := ((eL PyData.int) (cutD x2.2 (some (1 : Int)) none))) (pv_slc (x := ((eL PyData.int) x2.2)) (i := (some (1 : Int))) (j := none) (pv_v rfl) pv_k trivial (slc_L _ _ _) rfl) (it_L (f := PyData.int) (xs := x2.2) (it_L (f := PyData.int) (xs := (cutD x2.2 (some (1 : Int)) none)) (zp_mP (c_filY (φ := (e2 PyData.int PyData.int)) (ψ := PyData.int) (p0 := [some ((eL (eL PyData.int)) a0), some (PyData.int x2.1), some ((eL PyData.int) x2.2), none, none, none, none]) (pe := [some ((eL (eL PyData.int)) a0), some (PyData.int x2.1), some ((eL PyData.int) x2.2), none, none, none, none]) rfl rfl (fun x4 _ => a_t (ds := [(PyData.int x4.1), (PyData.int x4.2)]) rfl (a_c (a_nX (p' := [some ((eL (eL PyData.int)) a0), some (PyData.int x2.1), some ((eL PyData.int) x2.2), some (PyData.int x4.1), none, none, none]) rfl (a_c (a_nX (p' := [some ((eL (eL PyData.int)) a0), some (PyData.int x2.1), some ((eL PyData.int) x2.2), some (PyData.int x4.1), some (PyData.int x4.2), none, none]) rfl (a_0 (q_some (s_tb (pv_cmp (pv_v rfl) (pv_v rfl) rfl) (s_ifb (s_pv (d := (PyData.int (1 : Int))) pv_k (s_leaf ⟨rfl, rfl⟩)) (s_nx ⟨rfl, rfl⟩)))))))))) fun ys6 => o_c (d := ((eL eD) ([] : (List D)))) rfl (pv_lst (ds := []) trivial) (s_two (a := ((eL PyData.int) ys6)) (b := ((eL eD) ([] : (List D)))) rfl rfl (q_cmp fun v7 => s_onB (s_ifb (s_c (s_ret (s_pv (d := (PyData.bool false)) pv_k (s_leaf ⟨⟨_, rfl⟩, rfl⟩)))) (s_0 (s_c (s_ifS (s_te rfl (s_and (s_join (d := fun (v13 : Bool) => (PyData.bool v13)) (q := fun v13 => [some ((eL (eL PyData.int)) a0), some (PyData.int x2.1), some ((eL PyData.int) x2.2), none, none, none, none]) (s_pv (d := (PyData.bool (decide ((0 : Int) < x2.1)))) (pv_cmp (pv_v rfl) pv_k rfl) (s_onB (s_ifb (s_cmp (o_e rfl (s_compQ (i_zip (s_idx (o_v (d := ((eL (eL PyData.int)) a0)) rfl (o_c (d := (PyData.int (x2.1 - (1 : Int)))) rfl (pv_sub (pv_v rfl) pv_k) (s_two (a := ((eL (eL PyData.int)) a0)) (b := (PyData.int (x2.1 - (1 : Int)))) rfl rfl (q_idxL (f := (eL PyData.int)) (a := a0) fun v8 => s_pv (d := ((eL PyData.int) x2.2)) (pv_v rfl) (it_L (f := PyData.int) (xs := v8) (it_L (f := PyData.int) (xs := x2.2) (zp_mP (c_filY (φ := (e2 PyData.int PyData.int)) (ψ := PyData.int) (p0 := [some ((eL (eL PyData.int)) a0), some (PyData.int x2.1), some ((eL PyData.int) x2.2), none, none, none, none]) (pe := [some ((eL (eL PyData.int)) a0), some (PyData.int x2.1), some ((eL PyData.int) x2.2), none, none, none, none]) rfl rfl (fun x9 _ => a_t (ds := [(PyData.int x9.1), (PyData.int x9.2)]) rfl (a_c (a_nX (p' := [some ((eL (eL PyData.int)) a0), some (PyData.int x2.1), some ((eL PyData.int) x2.2), none, none, some (PyData.int x9.1), none]) rfl (a_c (a_nX (p' := [some ((eL (eL PyData.int)) a0), some (PyData.int x2.1), some ((eL PyData.int) x2.2), none, none, some (PyData.int x9.1), some (PyData.int x9.2)]) rfl (a_0 (q_some (s_tb (pv_cmp (pv_v rfl) (pv_v rfl) rfl) (s_ifb (s_pv (d := (PyData.int (1 : Int))) pv_k (s_leaf ⟨rfl, rfl⟩)) (s_nx ⟨rfl, rfl⟩)))))))))) fun ys11 => o_c (d := ((eL eD) ([] : (List D)))) rfl (pv_lst (ds := []) trivial) (s_two (a := ((eL PyData.int) ys11)) (b := ((eL eD) ([] : (List D)))) rfl rfl (q_cmp fun v12 => s_leaf rfl))))))))))))))) (s_leaf rfl)))) fun v13 => s_onB (s_ifb (s_c (s_ret (s_pv (d := (PyData.bool false)) pv_k (s_leaf ⟨⟨_, rfl⟩, rfl⟩)))) (s_0 (s_0 (s_nx ⟨.inl rfl, (some (PyData.int x2.1), some ((eL PyData.int) x2.2)), rfl⟩)))))))))))))))))))))))))))))))) (fun s14 g15 => s_c (s_ret (s_pv (d := (PyData.bool true)) pv_k (s_leaf rfl)))) (fun v d p h => s_leaf h)))))))
abbrev F_law_LI (b : Bool) : D × PEnv := ((PyData.bool b), [none])
theorem l_law_LI (m : Nat) (a0 : (List Int)) : Sim (cp (m + 13) 29 [((eL PyData.int) a0)]) (t_law_LI_v5 a0) fun b r => r = F_law_LI b := by
  refine fn_ok (cp := cp (m + 12)) (g := sg 29) (fd := ⟨1, 11, ir_law⟩) (F := F_law_LI) rfl ?_
  show Sim (pSs (cp (m + 12)) sg [1, 3, 5, 6, 7, 8, 9, 10] fuelT ir_law [some ((eL PyData.int) a0), none, none, none, none, none, none, none, none, none, none] nxK) (t_law_LI_v5 a0) fun b r => endOf [.rn] r = some (F_law_LI b)
  unfold ir_law t_law_LI_v5
  exact s_c (s_forP (i_r1P (o_c (d := (PyData.int (if (if (5 : Int) < (a0.length : Int) then (5 : Int) else (a0.length : Int)) > (1 : Int) then (if (5 : Int) < (a0.length : Int) then (5 : Int) else (a0.length : Int)) else (1 : Int)))) rfl (pv_blt (ds := [(PyData.int (1 : Int)), (PyData.int (if (5 : Int) < (a0.length : Int) then (5 : Int) else (a0.length : Int)))]) ⟨pv_k, (pv_blt (ds := [(PyData.int (a0.length : Int)), (PyData.int (5 : Int))]) ⟨(pv_blt (ds := [((eL PyData.int) a0)]) ⟨(pv_v rfl), trivial⟩ (len_L _) rfl), pv_k, trivial⟩ rfl rfl), trivial⟩ rfl rfl) (s_onO (a := (PyData.int (if (if (5 : Int) < (a0.length : Int) then (5 : Int) else (a0.length : Int)) > (1 : Int) then (if (5 : Int) < (a0.length : Int) then (5 : Int) else (a0.length : Int)) else (1 : Int)))) rfl (s_onI (q_r1P fun l1 => w_forFZ (φ := PyData.int) (Θ := (fun v r => endOf [.rn] r = some (F_law_LI v))) (w := fun (s2 : Unit) (g4 : Option D × Option D × Option D × Option D × Option D × Option D × Option D × Option D × Option D) => [some ((eL PyData.int) a0), g4.1, g4.2.1, g4.2.2.1, g4.2.2.2.1, g4.2.2.2.2.1, g4.2.2.2.2.2.1, g4.2.2.2.2.2.2.1, g4.2.2.2.2.2.2.2.1, g4.2.2.2.2.2.2.2.2, none]) (s := ()) (none, none, none, none, none, none, none, none, none) rfl (fun x3 s2 g4 _ => a_nX (p' := [some ((eL PyData.int) a0), some (PyData.int x3), g4.2.1, g4.2.2.1, g4.2.2.2.1, g4.2.2.2.2.1, g4.2.2.2.2.2.1, g4.2.2.2.2.2.2.1, g4.2.2.2.2.2.2.2.1, g4.2.2.2.2.2.2.2.2, none]) rfl (s_c (s_asg (s_callP (g_c (o_v (d := ((eL PyData.int) a0)) rfl (g_c (o_v (d := (PyData.int x3)) rfl (g_0 (s_gets (ds := [((eL PyData.int) a0), (PyData.int x3)]) rfl (s_callX (d := fun r5 => ((eL PyData.int) r5)) (q := fun r5 => [some ((eL PyData.int) a0), some (PyData.int x3), g4.2.1, g4.2.2.1, g4.2.2.2.1, g4.2.2.2.2.1, g4.2.2.2.2.2.1, g4.2.2.2.2.2.2.1, g4.2.2.2.2.2.2.2.1, g4.2.2.2.2.2.2.2.2, none]) (l_w_feed_LI_I _ a0 x3) (fun _ => rfl) (fun _ => rfl) fun r5 => s_nameX (d := ((eL PyData.int) r5)) (p' := [some ((eL PyData.int) a0), some (PyData.int x3), some ((eL PyData.int) r5), g4.2.2.1, g4.2.2.2.1, g4.2.2.2.2.1, g4.2.2.2.2.2.1, g4.2.2.2.2.2.2.1, g4.2.2.2.2.2.2.2.1, g4.2.2.2.2.2.2.2.2, none]) (nl_1 rfl) rfl (s_c (s_asg (s_compQ (i_r1P (o_c (d := (PyData.int (3 : Int))) rfl pv_k (s_onO (a := (PyData.int (3 : Int))) rfl (s_onI (q_r1P fun l6 => c_mapSY (φ := PyData.int) (ψ := PyData.int) (w := fun (s8 : (List Int)) => [some ((eL PyData.int) a0), some (PyData.int x3), some ((eL PyData.int) s8), g4.2.2.1, g4.2.2.2.1, g4.2.2.2.2.1, g4.2.2.2.2.2.1, g4.2.2.2.2.2.2.1, g4.2.2.2.2.2.2.2.1, g4.2.2.2.2.2.2.2.2, none]) (s := r5) (pe := fun s8 => [some ((eL PyData.int) a0), some (PyData.int x3), some ((eL PyData.int) s8), g4.2.2.1, g4.2.2.2.1, g4.2.2.2.2.1, g4.2.2.2.2.2.1, g4.2.2.2.2.2.2.1, g4.2.2.2.2.2.2.2.1, g4.2.2.2.2.2.2.2.2, none]) rfl (fun _ => rfl) (fun x7 s8 _ => a_nX (p' := [some ((eL PyData.int) a0), some (PyData.int x3), some ((eL PyData.int) s8), g4.2.2.1, g4.2.2.2.1, g4.2.2.2.2.1, g4.2.2.2.2.2.1, g4.2.2.2.2.2.2.1, g4.2.2.2.2.2.2.2.1, g4.2.2.2.2.2.2.2.2, some (PyData.int x7)]) rfl (q_none (s_tt (s_bin (o_c (d := (PyData.int (1 : Int))) rfl pv_k (o_e rfl (s_callP (g_c (o_v (d := ((eL PyData.int) s8)) rfl (g_c (o_c (d := (PyData.int (8 : Int))) rfl pv_k (g_0 (s_gets (ds := [((eL PyData.int) s8), (PyData.int (8 : Int))]) rfl (s_callX (d := fun r10 => (PyData.int r10.1)) (q := fun r10 => [some ((eL PyData.int) a0), some (PyData.int x3), some ((eL PyData.int) r10.2), g4.2.2.1, g4.2.2.2.1, g4.2.2.2.2.1, g4.2.2.2.2.2.1, g4.2.2.2.2.2.2.1, g4.2.2.2.2.2.2.2.1, g4.2.2.2.2.2.2.2.2, some (PyData.int x7)]) (l_w_draw_LI_I _ s8 (8 : Int)) (fun _ => rfl) (fun _ => rfl) fun r10 => s_two (a := (PyData.int (1 : Int))) (b := (PyData.int r10.1)) rfl rfl (s_tot (d := (PyData.int ((1 : Int) + r10.1))) rfl rfl (s_leaf ⟨rfl, rfl⟩)))))))))))))))) fun ys9 => s_tgt rfl (a_l3 (f := PyData.int) (xs := ys9.1) rfl fun u11 => a_c (a_nX (p' := [some ((eL PyData.int) a0), some (PyData.int x3), some ((eL PyData.int) ys9.2), g4.2.2.1, g4.2.2.2.1, some (PyData.int u11.1), g4.2.2.2.2.2.1, g4.2.2.2.2.2.2.1, g4.2.2.2.2.2.2.2.1, g4.2.2.2.2.2.2.2.2, none]) rfl (a_c (a_nX (p' := [some ((eL PyData.int) a0), some (PyData.int x3), some ((eL PyData.int) ys9.2), g4.2.2.1, g4.2.2.2.1, some (PyData.int u11.1), some (PyData.int u11.2.1), g4.2.2.2.2.2.2.1, g4.2.2.2.2.2.2.2.1, g4.2.2.2.2.2.2.2.2, none]) rfl (a_c (a_nX (p' := [some ((eL PyData.int) a0), some (PyData.int x3), some ((eL PyData.int) ys9.2), g4.2.2.1, g4.2.2.2.1, some (PyData.int u11.1), some (PyData.int u11.2.1), some (PyData.int u11.2.2), g4.2.2.2.2.2.2.2.1, g4.2.2.2.2.2.2.2.2, none]) rfl (a_0 (s_c (s_par (l_c (s_callP (g_c (o_v (d := ((eL PyData.int) ys9.2)) rfl (g_c (o_v (d := (PyData.int u11.1)) rfl (g_c (o_v (d := (PyData.int u11.2.1)) rfl (g_0 (s_gets (ds := [((eL PyData.int) ys9.2), (PyData.int u11.1), (PyData.int u11.2.1)]) rfl (s_callX (d := fun r12 => ((eT (eT PyData.int)) r12.1)) (q := fun r12 => [some ((eL PyData.int) a0), some (PyData.int x3), some ((eL PyData.int) r12.2), g4.2.2.1, g4.2.2.2.1, some (PyData.int u11.1), some (PyData.int u11.2.1), some (PyData.int u11.2.2), g4.2.2.2.2.2.2.2.1, g4.2.2.2.2.2.2.2.2, none]) (l_w_sized_LI_I_I _ ys9.2 u11.1 u11.2.1) (fun _ => rfl) (fun _ => rfl) fun r12 => l_c (s_callP (g_c (o_v (d := ((eL PyData.int) r12.2)) rfl (g_c (o_v (d := (PyData.int u11.2.1)) rfl (g_c (o_v (d := (PyData.int u11.2.2)) rfl (g_0 (s_gets (ds := [((eL PyData.int) r12.2), (PyData.int u11.2.1), (PyData.int u11.2.2)]) rfl (s_callX (d := fun r13 => ((eT (eT PyData.int)) r13.1)) (q := fun r13 => [some ((eL PyData.int) a0), some (PyData.int x3), some ((eL PyData.int) r13.2), g4.2.2.1, g4.2.2.2.1, some (PyData.int u11.1), some (PyData.int u11.2.1), some (PyData.int u11.2.2), g4.2.2.2.2.2.2.2.1, g4.2.2.2.2.2.2.2.2, none]) (l_w_sized_LI_I_I _ r12.2 u11.2.1 u11.2.2) (fun _ => rfl) (fun _ => rfl) fun r13 => l_0 (s_pos (by simp) (s_pos (nls_c (nl_2 rfl) (nls_c (nl_2 rfl) rfl)) (a_c (a_nX (p' := [some ((eL PyData.int) a0), some (PyData.int x3), some ((eL PyData.int) r13.2), g4.2.2.1, g4.2.2.2.1, some (PyData.int u11.1), some (PyData.int u11.2.1), some (PyData.int u11.2.2), some ((eT (eT PyData.int)) r12.1), g4.2.2.2.2.2.2.2.2, none]) rfl (a_c (a_nX (p' := [some ((eL PyData.int) a0), some (PyData.int x3), some ((eL PyData.int) r13.2), g4.2.2.1, g4.2.2.2.1, some (PyData.int u11.1), some (PyData.int u11.2.1), some (PyData.int u11.2.2), some ((eT (eT PyData.int)) r12.1), some ((eT (eT PyData.int)) r13.1), none]) rfl (a_0 (s_c (s_ifJX (w := fun (s17 : ((List (List Int)) × (List (List Int)))) (g18 : Option D) => [some ((eL PyData.int) a0), some (PyData.int x3), g18, g4.2.2.1, g4.2.2.2.1, some (PyData.int u11.1), some (PyData.int u11.2.1), some (PyData.int u11.2.2), some ((eT (eT PyData.int)) s17.1), some ((eT (eT PyData.int)) s17.2), none]) (s_te rfl (s_cmp (o_e rfl (s_callP (g_c (o_v (d := ((eL PyData.int) r13.2)) rfl (g_c (o_c (d := (PyData.int (2 : Int))) rfl pv_k (g_0 (s_gets (ds := [((eL PyData.int) r13.2), (PyData.int (2 : Int))]) rfl (s_callX (d := fun r14 => (PyData.int r14.1)) (q := fun r14 => [some ((eL PyData.int) a0), some (PyData.int x3), some ((eL PyData.int) r14.2), g4.2.2.1, g4.2.2.2.1, some (PyData.int u11.1), some (PyData.int u11.2.1), some (PyData.int u11.2.2), some ((eT (eT PyData.int)) r12.1), some ((eT (eT PyData.int)) r13.1), none]) (l_w_draw_LI_I _ r13.2 (2 : Int)) (fun _ => rfl) (fun _ => rfl) fun r14 => o_c (d := (PyData.int (0 : Int))) rfl pv_k (s_two (a := (PyData.int r14.1)) (b := (PyData.int (0 : Int))) rfl rfl (s_cmpT (t := (decide (r14.1 = (0 : Int)))) (eqI _ _) (s_onB (s_ifb (s_c (s_par (l_c (s_callP (g_c (o_v (d := ((eL PyData.int) r14.2)) rfl (g_c (o_v (d := ((eT (eT PyData.int)) r12.1)) rfl (g_0 (s_gets (ds := [((eL PyData.int) r14.2), ((eT (eT PyData.int)) r12.1)]) rfl (s_callX (d := fun r15 => ((eT (eT PyData.int)) r15.1)) (q := fun r15 => [some ((eL PyData.int) a0), some (PyData.int x3), some ((eL PyData.int) r15.2), g4.2.2.1, g4.2.2.2.1, some (PyData.int u11.1), some (PyData.int u11.2.1), some (PyData.int u11.2.2), some ((eT (eT PyData.int)) r12.1), some ((eT (eT PyData.int)) r13.1), none]) (l_w_lifted_LI_TTI _ r14.2 r12.1) (fun _ => rfl) (fun _ => rfl) fun r15 => l_c (s_callP (g_c (o_v (d := ((eL PyData.int) r15.2)) rfl (g_c (o_v (d := ((eT (eT PyData.int)) r13.1)) rfl (g_0 (s_gets (ds := [((eL PyData.int) r15.2), ((eT (eT PyData.int)) r13.1)]) rfl (s_callX (d := fun r16 => ((eT (eT PyData.int)) r16.1)) (q := fun r16 => [some ((eL PyData.int) a0), some (PyData.int x3), some ((eL PyData.int) r16.2), g4.2.2.1, g4.2.2.2.1, some (PyData.int u11.1), some (PyData.int u11.2.1), some (PyData.int u11.2.2), some ((eT (eT PyData.int)) r12.1), some ((eT (eT PyData.int)) r13.1), none]) (l_w_lifted_LI_TTI _ r15.2 r13.1) (fun _ => rfl) (fun _ => rfl) fun r16 => l_0 (s_pos (by simp) (s_pos (nls_c (nl_2 rfl) (nls_c (nl_2 rfl) rfl)) (a_c (a_nX (p' := [some ((eL PyData.int) a0), some (PyData.int x3), some ((eL PyData.int) r16.2), g4.2.2.1, g4.2.2.2.1, some (PyData.int u11.1), some (PyData.int u11.2.1), some (PyData.int u11.2.2), some ((eT (eT PyData.int)) r15.1), some ((eT (eT PyData.int)) r13.1), none]) rfl (a_c (a_nX (p' := [some ((eL PyData.int) a0), some (PyData.int x3), some ((eL PyData.int) r16.2), g4.2.2.1, g4.2.2.2.1, some (PyData.int u11.1), some (PyData.int u11.2.1), some (PyData.int u11.2.2), some ((eT (eT PyData.int)) r15.1), some ((eT (eT PyData.int)) r16.1), none]) rfl (a_0 (s_0 (s_nx ⟨rfl, (some ((eL PyData.int) r16.2)), rfl⟩)))))))))))))))))))))))))))) (s_0 (s_nx ⟨rfl, (some ((eL PyData.int) r14.2)), rfl⟩))))))))))))))))) fun s17 g18 => s_c (s_asg (s_callP (g_c (o_v (d := ((eT (eT PyData.int)) s17.1)) rfl (g_c (o_v (d := ((eT (eT PyData.int)) s17.2)) rfl (g_0 (s_gets (ds := [((eT (eT PyData.int)) s17.1), ((eT (eT PyData.int)) s17.2)]) rfl (s_callX (d := fun r19 => ((eT (eT PyData.int)) r19)) (q := fun r19 => [some ((eL PyData.int) a0), some (PyData.int x3), g18, g4.2.2.1, g4.2.2.2.1, some (PyData.int u11.1), some (PyData.int u11.2.1), some (PyData.int u11.2.2), some ((eT (eT PyData.int)) s17.1), some ((eT (eT PyData.int)) s17.2), none]) (l_product_TTI_TTI _ s17.1 s17.2) (fun _ => rfl) (fun _ => rfl) fun r19 => s_nameX (d := ((eT (eT PyData.int)) r19)) (p' := [some ((eL PyData.int) a0), some (PyData.int x3), g18, some ((eT (eT PyData.int)) r19), g4.2.2.2.1, some (PyData.int u11.1), some (PyData.int u11.2.1), some (PyData.int u11.2.2), some ((eT (eT PyData.int)) s17.1), some ((eT (eT PyData.int)) s17.2), none]) (nl_2 rfl) rfl (s_c (s_ifS (s_te rfl (s_or (s_join (d := fun (v22 : Bool) => (PyData.bool v22)) (q := fun v22 => [some ((eL PyData.int) a0), some (PyData.int x3), g18, some ((eT (eT PyData.int)) r19), g4.2.2.2.1, some (PyData.int u11.1), some (PyData.int u11.2.1), some (PyData.int u11.2.2), some ((eT (eT PyData.int)) s17.1), some ((eT (eT PyData.int)) s17.2), none]) (s_not (s_callP (g_c (o_v (d := ((eT (eT PyData.int)) r19)) rfl (g_0 (s_gets (ds := [((eT (eT PyData.int)) r19)]) rfl (s_callX (d := fun r20 => (PyData.bool r20)) (q := fun r20 => [some ((eL PyData.int) a0), some (PyData.int x3), g18, some ((eT (eT PyData.int)) r19), g4.2.2.2.1, some (PyData.int u11.1), some (PyData.int u11.2.1), some (PyData.int u11.2.2), some ((eT (eT PyData.int)) s17.1), some ((eT (eT PyData.int)) s17.2), none]) (l_w_straight_TTI _ r19) (fun _ => rfl) (fun _ => rfl) fun r20 => s_onB (s_onB (s_ifb (s_leaf rfl) (s_cmp (o_e rfl (s_callP (g_c (o_v (d := ((eT (eT PyData.int)) r19)) rfl (g_0 (s_gets (ds := [((eT (eT PyData.int)) r19)]) rfl (s_callX (d := fun r21 => (PyData.bool r21)) (q := fun r21 => [some ((eL PyData.int) a0), some (PyData.int x3), g18, some ((eT (eT PyData.int)) r19), g4.2.2.2.1, some (PyData.int u11.1), some (PyData.int u11.2.1), some (PyData.int u11.2.2), some ((eT (eT PyData.int)) s17.1), some ((eT (eT PyData.int)) s17.2), none]) (l_is_straight_TTI _ r19) (fun _ => rfl) (fun _ => rfl) fun r21 => o_c (d := (PyData.bool true)) rfl pv_k (s_two (a := (PyData.bool r21)) (b := (PyData.bool true)) rfl rfl (s_cmpT (t := (!decide (r21 = true))) rfl (s_leaf rfl)))))))))))))))))))) fun v22 => s_onB (s_ifb (s_c (s_ret (s_pv (d := (PyData.bool false)) pv_k (s_leaf ⟨⟨_, rfl⟩, rfl⟩)))) (s_0 (s_c (s_forP (i_over (s_lst (l_c (s_callP (g_c (o_v (d := ((eT (eT PyData.int)) s17.1)) rfl (g_c (o_v (d := ((eT (eT PyData.int)) s17.2)) rfl (g_0 (s_gets (ds := [((eT (eT PyData.int)) s17.1), ((eT (eT PyData.int)) s17.2)]) rfl (s_callX (d := fun r23 => ((eL (eL PyData.int)) r23)) (q := fun r23 => [some ((eL PyData.int) a0), some (PyData.int x3), g18, some ((eT (eT PyData.int)) r19), g4.2.2.2.1, some (PyData.int u11.1), some (PyData.int u11.2.1), some (PyData.int u11.2.2), some ((eT (eT PyData.int)) s17.1), some ((eT (eT PyData.int)) s17.2), none]) (l_middles_TTI_TTI _ s17.1 s17.2) (fun _ => rfl) (fun _ => rfl) fun r23 => l_c (s_callP (g_c (o_v (d := ((eT (eT PyData.int)) s17.1)) rfl (g_c (o_v (d := ((eT (eT PyData.int)) s17.2)) rfl (g_0 (s_gets (ds := [((eT (eT PyData.int)) s17.1), ((eT (eT PyData.int)) s17.2)]) rfl (s_callX (d := fun r24 => ((eL (eL PyData.int)) r24)) (q := fun r24 => [some ((eL PyData.int) a0), some (PyData.int x3), g18, some ((eT (eT PyData.int)) r19), g4.2.2.2.1, some (PyData.int u11.1), some (PyData.int u11.2.1), some (PyData.int u11.2.2), some ((eT (eT PyData.int)) s17.1), some ((eT (eT PyData.int)) s17.2), none]) (l_last_middles_TTI_TTI _ s17.1 s17.2) (fun _ => rfl) (fun _ => rfl) fun r24 => l_0 (it_L (f := (eL (eL PyData.int))) (xs := [r23, r24]) (w_forFZ (φ := (eL (eL PyData.int))) (Θ := (fun v r => endOf [.rn] r = some (F_law_LI v))) (w := fun (s25 : Unit) (g27 : Option D) => [some ((eL PyData.int) a0), some (PyData.int x3), g18, some ((eT (eT PyData.int)) r19), g27, some (PyData.int u11.1), some (PyData.int u11.2.1), some (PyData.int u11.2.2), some ((eT (eT PyData.int)) s17.1), some ((eT (eT PyData.int)) s17.2), none]) (s := ()) (g4.2.2.2.1) rfl (fun x26 s25 g27 _ => a_nX (p' := [some ((eL PyData.int) a0), some (PyData.int x3), g18, some ((eT (eT PyData.int)) r19), some ((eL (eL PyData.int)) x26), some (PyData.int u11.1), some (PyData.int u11.2.1), some (PyData.int u11.2.2), some ((eT (eT PyData.int)) s17.1), some ((eT (eT PyData.int)) s17.2), none]) rfl (s_c (s_ifS (s_te rfl (s_or (s_join (d := fun (v29 : Bool) => (PyData.bool v29)) (q := fun v29 => [some ((eL PyData.int) a0), some (PyData.int x3), g18, some ((eT (eT PyData.int)) r19), some ((eL (eL PyData.int)) x26), some (PyData.int u11.1), some (PyData.int u11.2.1), some (PyData.int u11.2.2), some ((eT (eT PyData.int)) s17.1), some ((eT (eT PyData.int)) s17.2), none]) (s_pv (d := (PyData.bool (!decide ((x26.length : Int) = u11.1)))) (pv_cmp (pv_blt (ds := [((eL (eL PyData.int)) x26)]) ⟨(pv_v rfl), trivial⟩ (len_L _) rfl) (pv_v rfl) (neI _ _)) (s_onB (s_ifb (s_leaf rfl) (s_not (s_callP (g_c (o_v (d := ((eL (eL PyData.int)) x26)) rfl (g_0 (s_gets (ds := [((eL (eL PyData.int)) x26)]) rfl (s_callX (d := fun r28 => (PyData.bool r28)) (q := fun r28 => [some ((eL PyData.int) a0), some (PyData.int x3), g18, some ((eT (eT PyData.int)) r19), some ((eL (eL PyData.int)) x26), some (PyData.int u11.1), some (PyData.int u11.2.1), some (PyData.int u11.2.2), some ((eT (eT PyData.int)) s17.1), some ((eT (eT PyData.int)) s17.2), none]) (l_w_never_falls_LLI _ x26) (fun _ => rfl) (fun _ => rfl) fun r28 => s_onB (s_leaf rfl))))))))))) fun v29 => s_onB (s_ifb (s_c (s_ret (s_pv (d := (PyData.bool false)) pv_k (s_leaf ⟨⟨_, rfl⟩, rfl⟩)))) (s_0 (s_0 (s_nx ⟨.inl rfl, (some ((eL (eL PyData.int)) x26)), rfl⟩)))))))))) (fun s30 g31 => s_0 (s_nx ⟨.inl rfl, (some (PyData.int x3), g18, some ((eT (eT PyData.int)) r19), g31, some (PyData.int u11.1), some (PyData.int u11.2.1), some (PyData.int u11.2.2), some ((eT (eT PyData.int)) s17.1), some ((eT (eT PyData.int)) s17.2)), rfl⟩)) (fun v d p h => s_leaf ⟨⟨d, rfl⟩, h⟩)))))))))))))))))))))))))))))))))))))))))))))))))))))))))))))))))))))))))))))))))))))))))))))))))) (fun s32 g33 => s_c (s_ret (s_pv (d := (PyData.bool true)) pv_k (s_leaf rfl)))) (fun v d p h => s_leaf h)))))))
theorem goal (h : ∀ ns : List Int, Scr ns → t_law_LI_v5 ns = .ok true) : Goal := by
  intro ns hn
  have hl := l_law_LI 0 ns
  rw [h ns hn] at hl
  obtain ⟨a, e, rfl⟩ := hl
  have hc := call_okP (fuel := fuelT) sg_ok 13 29 [eL PyData.int ns] [.val (eL PyData.int ns)] rfl rfl (fun j s hs => by
    cases j with
    | zero => cases hs; exact ⟨rfl, fun x hx => by cases hx; rfl⟩
    | succ j => cases hs)
  rcases hc with e2 | ⟨r, o, outs, e1, e2, fr, _⟩ | ⟨x, o, e1, e2, _⟩
  · have e' : callP (ftOf tab) sg fuelT 13 29 [eL PyData.int ns] = _ := e
    rw [e'] at e2
    cases e2
  · have e' : callP (ftOf tab) sg fuelT 13 29 [eL PyData.int ns] = _ := e
    rw [e'] at e2
    have e3 := congrArg (fun (q : R (D × PEnv)) => match q with | .ok x => x.1 | _ => PyData.none) e2
    have fr2 : ∃ d, r = .fz d := fr.2
    obtain ⟨d, rfl⟩ := fr2
    cases e3
    exact ⟨o, e1⟩
  · have e' : callP (ftOf tab) sg fuelT 13 29 [eL PyData.int ns] = _ := e
    rw [e'] at e2
    cases e2
end Cr.k29
set_option Elab.async false
set_option linter.all false
set_option maxRecDepth 100000
set_option maxHeartbeats 4000000
namespace Cr
open PySem
theorem p10_20 : powR 10 20 = .ok 100000000000000000000 := m_pow (by decide) (by decide)
/-- with numbers added to rows and columns -/
def lf (f : Nat → Nat → Int) (r c : Nat → Int) (i j : Nat) : Int := f i j + r i + c j
theorem gx_lf (f : Nat → Nat → Int) (r c : Nat → Int) (i k j l : Nat) : gx (lf f r c) i k j l = gx f i k j l := by unfold gx lf; omega
theorem mng_lf {n m : Nat} {f : Nat → Nat → Int} (r c : Nat → Int) (h : Mng n m f) : Mng n m (lf f r c) := fun i k j l a b d e => by rw [gx_lf]; exact h i k j l a b d e
theorem d_lifted {c : Nat} {s : List Int} {n m : Nat} {f : Nat → Nat → Int} (h : Fd (c + 20) s) (hn : 1 ≤ n) (hn2 : n ≤ 8) (hm2 : m ≤ 8) : Ok (t_w_lifted_LI_TTI s (tb n m f)) fun r => ∃ p q, r.1 = tb n m (lf f p q) ∧ Fd c r.2 := by
  unfold t_w_lifted_LI_TTI
  rw [p10_20, R_bind_ok]
  refine Ok.bind (d_one (n := c + 19) (fun x => 1 ≤ x ∧ x ≤ 100000000000000000000) h (by simp) (by simp) (by simp)) fun r2 ⟨z, h2⟩ => ?_
  refine Ok.bind (d_list (c := c + 9) (h2.mono (by omega)) (by omega) (by omega) (by omega)) fun r5 ⟨p, ep, _, h5⟩ => ?_
  rw [m_at (by decide) (by omega), R_bind_ok]
  refine Ok.bind (d_list (c := c) (h5.mono (by omega)) (by omega) (by omega) (by omega)) fun r10 ⟨q, eq, _, h10⟩ => ?_
  rw [ep, eq, vec_zip, m_map (h := fun i => vec m fun j => lf f p q i j) (by omega), R_bind_ok]
  · exact Ok.ok ⟨p, q, rfl, h10⟩
  · intro i hi
    dsimp only
    rw [vec_zip, m_map (h := fun j => lf f p q i j) (by omega), R_bind_ok]
    intro j hj
    rfl
theorem w_never_falls {n m : Nat} {F : Nat → Nat → Int} (hn2 : n ≤ 1000) (hm2 : m ≤ 1000) (h : NF n m F) : t_w_never_falls_LLI (tb n m F) = .ok true := by
  unfold t_w_never_falls_LLI
  rw [vec_enum, ck_for (P := fun _ => True), ck_end, pb_t fun _ _ => trivial]
  intro i hi
  dsimp only
  rw [pb_t trivial]
  have e1 : cutD (vec m fun j => F i j) (some (1 : Int)) none = vec (m - 1) fun j => F i (1 + j) := by rw [m_cut_from (by decide)]; rfl
  rw [e1, vec_zip2, show min m (m - 1) = m - 1 by omega, ← R_bind_assoc, ck_fil (P := fun j => F i j ≤ F i (1 + j)) (Q := fun j => F i (1 + j) < F i j) (by omega) (fun j hj => rfl) (fun j hj => by omega), pb_t (fun j hj => by have := h.1 i j hi (by omega); rw [Nat.add_comm] at this; exact this), R_bind_ok]
  rw [if_neg (by decide)]
  by_cases c : 0 < i
  · rw [dT (show (0 : Int) < (i : Int) by omega), if_pos rfl, m_at (by omega) (by omega), R_bind_ok, show ((i : Int) - 1).toNat = i - 1 by omega, vec_zip]
    simp only [R_bind_id]
    rw [ck_fil (P := fun j => F (i - 1) j ≤ F i j) (Q := fun j => F i j < F (i - 1) j) (by omega) (fun j hj => rfl) (fun j hj => by omega), pb_t (fun j hj => by have := h.2 (i - 1) j (by omega) hj; rw [show i - 1 + 1 = i by omega] at this; exact this)]
    rfl
  · rw [dF (show ¬ (0 : Int) < (i : Int) by omega), if_neg (by decide)]
    rfl
theorem k29_law (ns : List Int) (hs : Scr ns) : t_law_LI_v5 ns = .ok true := by
  unfold t_law_LI_v5
  obtain ⟨n, hn, e⟩ := cells ns.length 1 5 (by decide)
  rw [show (5 : Int) = ((5 : Nat) : Int) from rfl, show (1 : Int) = ((1 : Nat) : Int) from rfl, e, m_rngL n rfl (by omega), R_bind_ok]
  refine law_loop fun k hk => ?_
  refine Ok.bind (d_feed hs (by omega) (by omega)) fun r5 h5 => ?_
  rw [m_rngL 3 (by rfl) (by decide), R_bind_ok]
  refine Ok.bind (d_three (c := 5000) (h5.mono (by decide))) fun r9 ⟨a, b, c, e3, a1, a2, b1, b2, c1, c2, h9⟩ => ?_
  rw [e3, R_bind_ok]
  refine Ok.bind (d_sized (c := 4000) (h9.mono (by decide)) a1 a2 b1 b2) fun r12 ⟨f, e12, _, hf, h12⟩ => ?_
  refine Ok.bind (d_sized (c := 3000) (h12.mono (by decide)) b1 b2 c1 c2) fun r13 ⟨g, e13, _, hg, h13⟩ => ?_
  rw [e12, e13]
  refine Ok.bind (P := fun s => ∃ f g, s.1 = tb a b f ∧ s.2 = tb b c g ∧ Mng a b f ∧ Mng b c g) ?_ fun s ⟨f, g, es1, es2, hf, hg⟩ => ?_
  · refine Ok.bind (d_draw (n := 2000) (h13.mono (by decide)) (by decide) (by decide)) fun r14 ⟨_, _, h14⟩ => Ok.ite (fun _ => ?_) fun _ => ?_
    · refine Ok.bind (d_lifted (c := 1000) (h14.mono (by decide)) a1 a2 b2) fun r15 ⟨p, q, e15, h15⟩ => ?_
      refine Ok.bind (d_lifted (c := 500) (h15.mono (by decide)) b1 b2 c2) fun r16 ⟨p', q', e16, h16⟩ => ?_
      exact Ok.ok ⟨_, _, e15, e16, mng_lf p q (stg_mng.mp hf), mng_lf p' q' (stg_mng.mp hg)⟩
    · exact Ok.ok ⟨f, g, rfl, rfl, stg_mng.mp hf, stg_mng.mp hg⟩
  rw [es1, es2, f_product a1 a2 b1 b2 c1 c2, R_bind_ok]
  have hp : Stg a c (pr b f g) := stg_mng.mpr (pr_mng b1 hf hg)
  rw [w_straight (by omega) (by omega), pb_t hp, R_bind_ok, if_neg (by decide), f_is_straight a1 a2 c1 c2, pb_t hp, R_bind_ok, R_bind_ok, if_neg (by decide)]
  obtain ⟨μ, eμ, hμ⟩ := f_middles (f := f) (g := g) a1 a2 b1 b2 c1 c2
  obtain ⟨ν, eν, hν⟩ := f_last_middles (f := f) (g := g) a1 a2 b1 b2 c1 c2
  rw [eμ, R_bind_ok, eν, R_bind_ok]
  have one : ∀ F : Nat → Nat → Int, NF a c F → (((if (!decide (((tb a c F).length : Int) = (a : Int))) = true then .ok true else (t_w_never_falls_LLI (tb a c F)).bind fun r28 => .ok (!r28)) : R Bool).bind fun v29 => if v29 = true then .ok (.rt false) else .ok (.nx ())) = (.ok (.nx ()) : R (Lp Unit Bool)) := fun F hF => by
    rw [vec_len, dT rfl, if_neg (by decide), w_never_falls (by omega) (by omega) hF, R_bind_ok, R_bind_ok]
    rfl
  have two : ∀ (x y : List (List Int)) (f : Unit → List (List Int) → R (Lp Unit Bool)), f () x = .ok (.nx ()) → f () y = .ok (.nx ()) → lpB (forF f [x, y] ()) (fun _ => .ok (.nx ())) (fun v => .ok (.rt v)) = (.ok (.nx ()) : R (Lp Unit Bool)) := fun x y f h1 h2 => by
    show lpB ((f () x).bind _) _ _ = _
    rw [h1, R_bind_ok]
    show lpB ((f () y).bind _) _ _ = _
    rw [h2]; rfl
  rw [two _ _ _ (one _ (nf_of (C := FM) (fun h => fm_mono h) hf hg hμ)) (one _ (nf_of (C := LM) (fun h => lm_mono h) hf hg hν))]
  exact Ok.ok rfl
end Cr
theorem Cr.k29.goal' : Cr.k29.Goal := Cr.k29.goal Cr.k29_law
theorem PySem.Challenge.cw_straightleast_k29_middles_never_fall_holds : PySem.Challenge.rw_straightleast_k29_middles_never_fall.Holds :=
  Cr.k29.holds Cr.k29.goal'
